import PyProof.Rows.All
import Wide.All
import OpenK.AllK
import Wide.FinOn
import HandS.ForExc
import HandS.More
import HandS.Defaults
import HandS.MakeKw
import HandS.MakeKwOnly
import HandS.Property
import HandS.ClsMeth
import HandS.Codes
import HandS.IsInst
import HandS.ExcIs
import HandS.ExcSuper
import HandS.ExcCtx
import HandS.Wide
import HandS.WideBits
import HandS.CallSlots
import HandS.Iter
import HandS.Comp
import HandS.FStr
import HandS.SlotsOwn
import KE.KOpsOwn
import KE.KStateDown
import HandS.Head0
import HandS.Head1
import HandS.Head2
import HandS.HeadEnd
import HandS.HeadHook1
import HandS.HeadHook2
import HandS.ExcField
import HandS.TryOnly
import HandS.TryMany
import HandS.HotCalls
import HandS.ExcInitHot
import HandS.Star
import KE.GoesEnum
import KE.KExcSuper
import KE.KSuper
import KE.KExcIs
import HandS.Dict
import KE.KIsAll
import HandS.Style
import HandS.OwnEq
import PyProof.DictUpdate
import HandS.ReSub
import HandS.TupAny
import PySem.Challenge.RW_resendtimers_k56_whole_breaks_of_fewer_r
set_option Elab.async false
set_option linter.all false
set_option maxRecDepth 100000
set_option maxHeartbeats 4000000
namespace Rs
open PySem PySem.Spec PyProof.Rows L2

section
variable {X : Cx}
variable {σ : L2.St} {H : Hp} {D : Ends} {Q : VK} {QT : Bool → Hp → Prop} {QA : List V → Hp → Prop}
/-- what a call that raises leaves -/
abbrev RX (P : Program) (w : World) : CXT := L2N.CX P w
structure Body (X : Cx) (k : Nat) (E : L2.St → XK) : Prop where
  calm : X.calm = true
  room : Room k X.A
  tk : L2N.Takes X fun cls d σ H => E σ cls d H
  po : PassesOwn (model X.prog X.w) X.A X.env X.xe
  stk : (∀ x, X.fn x = true) → X.stack = X.env :: X.outer
  fr : (∀ x, X.fn x = true) → X.env.frame = some X.env.locals
theorem Body.at {k : Nat} {E : L2.St → XK} (B : Body X k E) (σ : L2.St) : PassesAt (RX X.prog X.w) X σ (E σ) := L2N.passAt B.tk σ
section
variable {k j : Nat} {E : L2.St → XK} {x m : Str} {sp : Sp} {p pos apos : Pos} {e o : Expr} {es : List Expr} {C : Addr}
end
end
end Rs

namespace Rs
open PySem PySem.Spec PyProof.Rows L2

/-- a source of draws: its numbers' list, the place, the rest of a great number, the seed -/
def SrcL (l : Addr) : HO → Prop := fun o => ∃ i b r : Int, o = .lst [.ref l, .int i, .int b, .int r] ∧ 0 ≤ i ∧ 0 ≤ r ∧ r < 2147483647
def Src (o : HO) : Prop := ∃ l, SrcL l o
theorem not_src_ins {C dx : Addr} {fs : List (Str × V)} : ¬ Src (.ins C dx fs) := by
  rintro ⟨l, i, b, r, e, _⟩
  cases e
/-- what stays as it is: no source, or a row that begins with an instance -/
def Good (H : Hp) (o : HO) : Prop := ¬ Src o ∨ ∃ l C dx fs rest, o = .lst (.ref l :: rest) ∧ H l = some (.ins C dx fs)
structure Ex (H H' : Hp) : Prop where
  kp : ∀ a o, H a = some o → Good H o → H' a = some o
  src : ∀ a l o, H a = some o → SrcL l o → ∃ o', H' a = some o' ∧ SrcL l o'
theorem Ex.keep {H H' : Hp} (x : Ex H H') (a : Addr) (o : HO) (h : H a = some o) (n : ¬ Src o) : H' a = some o := x.kp a o h (.inl n)
theorem Ex.back {H H' : Hp} {p : Addr} (x : Ex H H') (h : H' p = none) : H p = none := by
  cases q : H p with
  | none => rfl
  | some o =>
    by_cases s : Src o
    · obtain ⟨l, s⟩ := s
      obtain ⟨o', e, _⟩ := x.src p l o q s
      rw [h] at e
      cases e
    · have e := x.keep p o q s
      rw [h] at e
      cases e
theorem not_src_tup {xs : List V} : ¬ Src (.tup xs) := by
  rintro ⟨l, i, b, r, e, _⟩
  cases e
theorem Ex.ins {H H' : Hp} {a C dx : Addr} {fs : List (Str × V)} (x : Ex H H') (h : H a = some (.ins C dx fs)) : H' a = some (.ins C dx fs) := x.keep _ _ h not_src_ins
theorem Ex.tup {H H' : Hp} {a : Addr} {xs : List V} (x : Ex H H') (h : H a = some (.tup xs)) : H' a = some (.tup xs) := x.keep _ _ h not_src_tup

/-- any value v with R, in any heap that has grown from H -/
def Ret (H : Hp) (R : V → Hp → Prop) (Q : VK) : Prop := ∀ v H', Ex H H' → R v H' → Q v H'
theorem Ret.at {H H' : Hp} {R : V → Hp → Prop} {Q : VK} {v : V} (k : Ret H R Q) (x : Ex H H') (r : R v H') : Q v H' := k v H' x r
end Rs

namespace Rs
open PySem PySem.Spec PyProof.Rows L2
open AutoSeq1 (wpAny_loadPart')

section
variable (i : Int) (t : Tok) (x : Addr) (ox : Obj)
abbrev DeclS (x : Addr) (ox : Obj) : PySem.Spec := fun _ R s => s.heap.get? x = some ox ∧ ox.data = .plain ∧ R (.ok (.ret .notImplemented)) s
end
section
variable {X : Cx} {k j : Nat} {E : XK} {sp : Sp} {C f g a b dx dy : Addr} {fs gs : List (Str × V)} {H : Hp} {Q : VK} {op : Operator} {i : Int}
theorem back {pins : List (Addr × Obj)} {σ : L2.St} {A : Around} {t : Sem Value} {R : Value → Shared → Prop} {s : Shared} (h : wpAny (model X.prog X.w) A t (EP X pins σ Q) R s) :
    wpAny (model X.prog X.w) A t (PySem.W.CmpBack (EP X pins σ Q)) R s := wpAny_mono h (fun u s' z => by
  obtain ⟨v, H', I, r, q⟩ := z
  exact SlX.cmpback r ⟨v, H', I, r, q⟩) fun _ _ z => z
theorem inst_of {pins : List (Addr × Obj)} {σ : L2.St} {s : Shared} (I : Inv X pins σ H s) (e : H a = some (.ins C dx fs)) : ∃ od, PySem.W.InstAt s.heap a (PySem.W.instObj C dx) C (some od) := by
  obtain ⟨mA, O, _⟩ := ins_get I.hok e
  obtain ⟨od, J, _⟩ := O.look
  exact ⟨od, J⟩
end
end Rs

namespace Rs
open PySem PySem.Spec PyProof.Rows L2

section
variable {X : Cx} {k j : Nat} {E : XK} {sp : Sp} {C f g a b dx dy : Addr} {fs gs : List (Str × V)} {H : Hp} {Q : VK} {op : Operator} {cop : CmpOp} {i : Int}

end
end Rs

namespace Rs
open PySem PySem.Spec PyProof.Rows L2

section
variable {X : Cx} {σ : L2.St} {H : Hp} {D : Ends} {Q Q' : VK} {QT : Bool → Hp → Prop} {QA QA' : List V → Hp → Prop} {k j : Nat} {E : L2.St → XK} {x m : Str} {sp : Sp} {p pos apos : Pos} {e o a b c : Expr} {es : List Expr} {C : Addr}

end
end Rs

namespace Rs
open PySem PySem.Spec PyProof.Rows L2

section
variable {X : Cx} {σ : L2.St} {H : Hp} {D : Ends} {Q Q' : VK} {QT QT' : Bool → Hp → Prop} {QA QA' : List V → Hp → Prop} {k j : Nat} {E : L2.St → XK} {x m : Str} {sp : Sp} {p pos apos : Pos} {e o a b c : Expr} {es : List Expr} {C : Addr}

variable {i l : Int}
end
end Rs

namespace Rs
open PySem PySem.Spec PyProof.Rows L2
section
variable {P : Program} {w : World} {K : PySem.W.Frag} {mg : Str → Option Value} {base : Heap} {N : List Str} {qual : Str} {sc : Scope} {f : Addr} {cdv : Value} {A : Around} {outer : List Env} {s : Shared} {H : Hp} {E : XK} {k : Nat}
end
end Rs

namespace Rs
open PySem PySem.Spec PyProof.Rows L2 He

section
variable {P : Program} {w : World} {K : PySem.W.Frag} {mg : Str → Option Value} {base : Heap} {N ps : List Str} {name qual : Str} {pa : Arguments} {body : List Stmt} {sc : Scope} {dvs : List V} {kws : List (Str × V)} {f : Addr} {fd : FuncData} {k : Nat} {sp : Sp}
end
section
variable {X : Cx} {N : List Str} {sc : Scope} {i : Nat} {x : Str}
end

structure DefA where
  ad : PySem.W.Frag → Addr
  name : Str
  qual : Str
  params : Arguments
  body : List Stmt
  scope : Scope
  dfl : List Dv := []
  kwd : List (Str × Dv) := []
  clo : Bool := false
def DefA.seen (d : DefA) (K : PySem.W.Frag) : FnW := match K.lookup (d.ad K) with
  | some ⟨_, _, .func z, _⟩ => some (z.name, z.qualname, z.params, z.body, z.scope, z.globals, (bif d.clo then [] else z.closure), z.builtins)
  | _ => none
def DefA.told (d : DefA) : FnW := some (d.name, d.qual, d.params, .stmts d.body, d.scope, mainGlobals, [], builtinsNs)
def DefA.dvs (d : DefA) (K : PySem.W.Frag) : List V := d.dfl.map (Dv.v K)
def DefA.kws (d : DefA) (K : PySem.W.Frag) : List (Str × V) := d.kwd.map fun z => (z.1, z.2.v K)
def DefA.good (d : DefA) (K : PySem.W.Frag) : Bool := PySem.W.keepIn K (.ref (d.ad K)) && (match K.lookup (d.ad K) with
  | some ⟨_, _, .func z, _⟩ => PySem.W.codeIn K z.code d.qual && (d.clo || (dflB K z.defaults (d.dvs K) && kwdB K z.kwdefaults (d.kws K)))
  | _ => false)
def pgA (K : PySem.W.Frag) (C : Addr) (m : Str) : Addr := match PySem.W.recIn K (ma K C m) "property" with
  | some (.ref g :: _) => g
  | _ => 0
abbrev AlA : Type := Bool × List FnW
def obsX (ψ : List (PySem.W.Frag → Bool)) (fn : List DefA) (K : PySem.W.Frag) : AlA := ((ψ.all fun b => b K) && fn.all fun d => d.good K, fn.map fun d => d.seen K)
def valX (fn : List DefA) : AlA := (true, fn.map DefA.told)
def SaysX (ψ : List (PySem.W.Frag → Bool)) (fn : List DefA) (K : PySem.W.Frag) : Prop := obsX ψ fn K = valX fn
def visitY (m : Nat) (acc : List Addr) : List Addr → Nat × List Addr
  | [] => (m, acc)
  | r :: rs => match Nat.beq (Nat.land (Nat.shiftRight m r) 1) 1 with
    | true => visitY m acc rs
    | false => visitY (Nat.lor m (Nat.shiftLeft 1 r)) (r :: acc) rs
def namesY (g : Addr → Option Obj) (a : Addr) : List Addr := match g a with
  | some o => refsD o
  | none => []
def layerY (g : Addr → Option Obj) (m : Nat) (acc : List Addr) : List Addr → Nat × List Addr
  | [] => (m, acc)
  | a :: as => match visitY m acc (namesY g a) with
    | (m', acc') => layerY g m' acc' as
def goY (g : Addr → Option Obj) : Nat → Nat → List Addr → List Addr → List Addr
  | 0, _, _, all => all
  | n + 1, m, fr, all => match layerY g m [] fr with
    | (m', fr') => goY g n m' fr' (fr' ++ all)
def asY (g : Addr → Option Obj) (n : Nat) : List Addr := goY g n (Nat.shiftLeft 1 mainGlobals) [mainGlobals] [mainGlobals]
def hookX (n : Nat) (ψ : List (PySem.W.Frag → Bool)) (fn : List DefA) : PySem.W.Hook where
  α := AlA
  obs := fun s => obsX ψ fn (frG s.heap.get? ((asY s.heap.get? n).reverse ++ [cStatics]))
  val := fun _ => valX fn
  says := fun _ h => ∃ K : PySem.W.Frag, K.In h ∧ SaysX ψ fn K
  of := fun _ _ e => ⟨_, frG_in, e⟩
  keeps := fun _ _ _ z k => by
    obtain ⟨K, hK, c⟩ := z
    exact ⟨K, PySem.W.Frag.In.keeps hK k, c⟩
def obX (n : Nat) (ψ : List (PySem.W.Frag → Bool)) (fn : List DefA) (s : PySem.W.SharedT) : AlA := obsX ψ fn (frG (HandSHeadRun.getT s) ((asY (HandSHeadRun.getT s) n).reverse ++ [cStatics]))
section
variable {ψ : List (PySem.W.Frag → Bool)} {fn : List DefA} {K : PySem.W.Frag}
theorem SaysX.all (c : SaysX ψ fn K) : (∀ b ∈ ψ, b K = true) ∧ (∀ d ∈ fn, d.good K = true) ∧ ∀ d ∈ fn, d.seen K = d.told := by
  have c1 : ((ψ.all fun b => b K) && fn.all fun d => d.good K) = true := congrArg (fun z : AlA => z.1) c
  have c2 : fn.map (fun d => d.seen K) = fn.map DefA.told := congrArg (fun z : AlA => z.2) c
  rw [Bool.and_eq_true] at c1
  refine ⟨List.all_eq_true.mp c1.1, List.all_eq_true.mp c1.2, fun d hd => ?_⟩
  obtain ⟨i, hi, e⟩ := List.mem_iff_getElem.mp hd
  have e1 : (fn.map fun d => d.seen K)[i]? = (fn.map DefA.told)[i]? := by rw [c2]
  rw [List.getElem?_map, List.getElem?_map, List.getElem?_eq_getElem hi, e] at e1
  exact Option.some.inj e1
end

def isRefO : Option Value → Bool
  | none => true
  | some (.ref _) => true
  | _ => false
def binOwnB (K : PySem.W.Frag) (C f : Addr) (op : Operator) : Bool :=
  PySem.W.selfFirst K C && (decide (PySem.W.findIn K (.ref C) (PySem.dunder op.info.2) = some (some (.ref f))) && (PySem.W.isFn K (.ref f) && ((match PySem.W.findIn K (.ref C) (dunderR op.info.2) with
    | some rc => isRefO rc
    | none => false) && ((PySem.W.findIn K (.type "int") (PySem.dunder op.info.2)).isSome && ((PySem.W.findIn K (.type "int") (dunderR op.info.2)).isSome && decide (PySem.W.subIn K (.type "int") (.ref C) = some false))))))
def binRefB (K : PySem.W.Frag) (C f g : Addr) (op : Operator) : Bool :=
  PySem.W.selfFirst K C && (decide (PySem.W.findIn K (.ref C) (PySem.dunder op.info.2) = some (some (.ref f))) && (decide (PySem.W.findIn K (.ref C) (dunderR op.info.2) = some (some (.ref g))) && (PySem.W.isFn K (.ref g) && decide (PySem.W.subIn K (.ref C) (.type "int") = some false))))
def cmpOwnB (K : PySem.W.Frag) (C f : Addr) (op : CmpOp) : Bool := decide (PySem.W.findIn K (.ref C) (cmpInfo op).2.1 = some (some (.ref f))) && (PySem.W.isFn K (.ref f) && PySem.W.notFirst K C (.type "int"))
def cmpRefB (K : PySem.W.Frag) (C g : Addr) (op : CmpOp) : Bool := decide (PySem.W.findIn K (.ref C) (cmpInfo op).2.2 = some (some (.ref g))) && (PySem.W.isFn K (.ref g) && decide (PySem.W.subIn K (.ref C) (.type "int") = some false))
def negOwnB (K : PySem.W.Frag) (C f : Addr) : Bool := decide (PySem.W.findIn K (.ref C) "__neg__" = some (some (.ref f))) && PySem.W.isFn K (.ref f)
def noInplB (K : PySem.W.Frag) (C : Addr) (op : Operator) : Bool := (match PySem.W.clsIn K C with
  | some cd => decide (cd.mro = [.ref C, .type "object"])
  | none => false) && (decide (PySem.W.findIn K (.ref C) (dunderI op.info.2) = some none) && decide (PySem.W.findIn K (.type "object") (dunderI op.info.2) = some none))
def propB (K : PySem.W.Frag) (C : Addr) (m : Str) : Bool := decide (PySem.W.findIn K (.ref C) m = some (some (.ref (ma K C m)))) && (decide (PySem.W.specialIn K (.ref (ma K C m)) "__get__" = some (some (.builtin "property.__get__"))) && (decide (PySem.W.takesIn K (.ref (ma K C m)) = some true) &&
  (match PySem.W.recIn K (ma K C m) "property" with
    | some (.ref g :: _) => decide (g = pgA K C m)
    | _ => false)))
/-- what isinstance asks of the class at C -/
structure IsC (K : PySem.W.Frag) (C : Addr) : Prop where
  cl : Cls K C
  ca : PySem.W.findIn K (.ref C) "__class__" = some (some (.builtin "object.__class__"))
  cn : PySem.W.specialIn K (.builtin "object.__class__") "__get__" = some (some (.builtin "getset_descriptor.__get__"))
  ct : PySem.W.takesIn K (.builtin "object.__class__") = some true
  cm : PySem.W.mroIn K C (.type "object") = some true
def isCB (K : PySem.W.Frag) (x : Str) : Bool := (Fa.cls x).ok K && (decide (PySem.W.findIn K (.ref (ga K x)) "__class__" = some (some (.builtin "object.__class__"))) && (decide (PySem.W.specialIn K (.builtin "object.__class__") "__get__" = some (some (.builtin "getset_descriptor.__get__"))) &&
  (decide (PySem.W.takesIn K (.builtin "object.__class__") = some true) && decide (PySem.W.mroIn K (ga K x) (.type "object") = some true))))
theorem IsC.ty {K : PySem.W.Frag} {C a dx : Addr} {fs : List (Str × V)} {H : Hp} (c : IsC K C) (h : H a = some (.ins C dx fs)) : TyX K H (.ref a) (.ref C) := .base (.ins h c.cl c.ca c.cn c.ct c.cm)
def kitCB (K : PySem.W.Frag) (C : Addr) : Bool := decide (PySem.W.kitOne K (.ref C) (.ref C) = some true) && (decide (PySem.W.kitOne K (.ref C) (.type "int") = some false) && (decide (PySem.W.kitOne K (.ref C) (.type "bool") = some false) && (decide (PySem.W.kitOne K (.ref C) (.type "str") = some false) &&
  ((["int", "bool", "str", "NoneType", "tuple", "list"] : List String).all fun n => decide (PySem.W.kitOne K (.type n) (.ref C) = some false)))))
end Rs

namespace Rs
open PySem PySem.Spec PyProof.Rows L2 He PySem.Calls
section
variable {P : Program} {w : World} {K : PySem.W.Frag} {mg : Str → Option Value} {base : Heap} {N ps : List Str} {name qual : Str} {pa : Arguments} {body : List Stmt} {sc : Scope} {dvs : List V} {kws : List (Str × V)} {f : Addr} {fd : FuncData} {k : Nat} {sp : Sp}
end
def absOwnB (K : PySem.W.Frag) (C f : Addr) : Bool := decide (PySem.W.findIn K (.ref C) "__abs__" = some (some (.ref f))) && PySem.W.isFn K (.ref f)
end Rs

namespace Rs
open PySem PySem.Spec PyProof.Rows L2 He
def excPlainB (K : PySem.W.Frag) (C : Addr) : Bool := PySem.W.excIn K C veBase "ValueError.__new__" && (PySem.W.keepIn K (.ref C) && (decide (PySem.W.subIn K (.ref C) (.type "BaseException") = some true) && decide (PySem.W.typeIn K (.ref C) = some (.type "type"))))
section
variable {X : Cx} {σ : L2.St} {H : Hp} {Q : VK} {x : Str} {pos : Pos}
end
end Rs

namespace Rs
open PySem PySem.Spec PyProof.Rows L2 He
section
variable {X : Cx} {σ : L2.St} {H : Hp} {D : Ends} {Q Q' : VK} {k j : Nat} {E : XK} {x : Str} {p pos pos' : Pos} {a b c e o : Expr}
end
section
variable {H : Hp} {p l : Addr} {i b r : Int} {P : Hp → Prop}
end
end Rs

namespace Mt
structure Sz (q : Rat) (n : Nat) : Prop where
  num : q.num.natAbs < 2 ^ n
  den : q.den < 2 ^ n
theorem num_le (t b : Int) : (Rat.divInt t b).num.natAbs ≤ t.natAbs := by
  rw [Rat.num_divInt, Int.natAbs_ediv_of_dvd, Int.natAbs_mul]
  · refine Nat.le_trans (Nat.div_le_self _ _) ?_
    have : b.sign.natAbs ≤ 1 := by
      rcases Int.lt_trichotomy b 0 with h | h | h
      · rw [Int.sign_eq_neg_one_of_neg h]; decide
      · subst h; decide
      · rw [Int.sign_eq_one_of_pos h]; decide
    calc b.sign.natAbs * t.natAbs ≤ 1 * t.natAbs := Nat.mul_le_mul_right _ this
      _ = t.natAbs := Nat.one_mul _
  · exact Int.dvd_mul_of_dvd_right (Int.gcd_dvd_right ..)
theorem den_le {t b : Int} (hb : b ≠ 0) : (Rat.divInt t b).den ≤ b.natAbs := by
  rw [Rat.den_divInt, if_neg hb]
  exact Nat.div_le_self _ _
theorem Sz.div {t b : Int} {n : Nat} (hb : b ≠ 0) (h1 : t.natAbs < 2 ^ n) (h2 : b.natAbs < 2 ^ n) : Sz (Rat.divInt t b) n := ⟨Nat.lt_of_le_of_lt (num_le t b) h1, Nat.lt_of_le_of_lt (den_le hb) h2⟩
theorem int_eq (i : Int) : Rat.divInt i 1 = (i : Rat) := by
  have h := Rat.num_divInt_den (i : Rat)
  rw [Rat.num_intCast] at h
  exact h
end Mt

namespace Rs
open PySem PySem.Spec PyProof.Rows L2 He Mt
section
variable {X : Cx} {k : Nat} {E : L2.St → XK} {H : Hp} {Q : VK} {p p' : Addr} {a b c d : Int}
end
end Rs
namespace Rs
open PySem PySem.Spec PyProof.Rows L2 He Mt
end Rs

namespace Rs
open PySem PySem.Spec PyProof.Rows L2 He
open AutoSeq1 (wpAny_loadPart')
section
variable {X : Cx} {σ : L2.St} {H : Hp}
end
section
variable {P : Program} {w : World} {K : PySem.W.Frag} {mg : Str → Option Value} {base : Heap} {N ps : List Str} {name qual : Str} {pa : Arguments} {body : List Stmt} {sc : Scope} {dvs : List V} {kws : List (Str × V)} {f : Addr} {fd : FuncData} {k : Nat} {sp : SpN}
end
section
variable {X : Cx} {σ : L2.St} {H : Hp} {pins : List (Addr × Obj)} {s : Shared}
end

structure NeOwn (K : PySem.W.Frag) (C f : Addr) : Prop where
  eq : PySem.W.findIn K (.ref C) "__eq__" = some (some (.ref f))
  fn : PySem.W.isFn K (.ref f) = true
  ne : PySem.W.findIn K (.ref C) "__ne__" = some (some (.builtin "object.__ne__"))
  ob : PySem.W.mroIn K C (.type "object") = some true
  tu : PySem.W.mroIn K C (.type "tuple") = some false
  li : PySem.W.mroIn K C (.type "list") = some false
  st : PySem.W.mroIn K C (.type "str") = some false
  sub : PySem.W.subIn K (.ref C) (.type "int") = some false
def neOwnB (K : PySem.W.Frag) (C f : Addr) : Bool := decide (PySem.W.findIn K (.ref C) "__eq__" = some (some (.ref f))) && (PySem.W.isFn K (.ref f) && (decide (PySem.W.findIn K (.ref C) "__ne__" = some (some (.builtin "object.__ne__"))) &&
  (decide (PySem.W.mroIn K C (.type "object") = some true) && (decide (PySem.W.mroIn K C (.type "tuple") = some false) && (decide (PySem.W.mroIn K C (.type "list") = some false) && (decide (PySem.W.mroIn K C (.type "str") = some false) && decide (PySem.W.subIn K (.ref C) (.type "int") = some false)))))))
section
variable {M : Model} {prog : Program} {w : World} {A : Around} {E : Value → Shared → Prop} {s : Shared} {K : PySem.W.Frag} {x C f : Addr} {ox : Obj} {od : Option Obj} {b : Value}
end

section
variable (x : Addr) (ox : Obj)
theorem decl_eqB (i : Bool) : Meets (Builtin.«int.__eq__» ⟨[.bool i, .ref x], []⟩) (DeclS x ox) := .of_wp fun prog w A R s q => by
  obtain ⟨hp, g, d, tk, os⟩ := s
  obtain ⟨e1, e2, z⟩ := q
  wp_walk using wpAny_loadPart' e1, wpAny_load e1
  rw [e2]
  wp_walk
  exact ⟨_, rfl, z⟩
theorem decl_neB (i : Bool) : Meets (Builtin.«int.__ne__» ⟨[.bool i, .ref x], []⟩) (DeclS x ox) := .of_wp fun prog w A R s q => by
  obtain ⟨hp, g, d, tk, os⟩ := s
  obtain ⟨e1, e2, z⟩ := q
  wp_walk using wpAny_loadPart' e1, wpAny_load e1
  rw [e2]
  wp_walk
  exact ⟨_, rfl, z⟩
theorem decl_eqS (z : Str) (t : Tok) : Meets (Builtin.«str.__eq__» ⟨[.str z t, .ref x], []⟩) (DeclS x ox) := .of_wp fun prog w A R s q => by
  obtain ⟨hp, g, d, tk, os⟩ := s
  obtain ⟨e1, e2, z⟩ := q
  wp_walk using wpAny_loadPart' e1, wpAny_load e1
  rw [e2]
  wp_walk
  exact ⟨_, rfl, z⟩
theorem decl_neS (z : Str) (t : Tok) : Meets (Builtin.«str.__ne__» ⟨[.str z t, .ref x], []⟩) (DeclS x ox) := .of_wp fun prog w A R s q => by
  obtain ⟨hp, g, d, tk, os⟩ := s
  obtain ⟨e1, e2, z⟩ := q
  wp_walk using wpAny_loadPart' e1, wpAny_load e1
  rw [e2]
  wp_walk
  exact ⟨_, rfl, z⟩
theorem decl_eqN : Meets (Builtin.«NoneType.__eq__» ⟨[.none, .ref x], []⟩) (DeclS x ox) := .of_wp fun prog w A R s q => by
  obtain ⟨hp, g, d, tk, os⟩ := s
  obtain ⟨e1, e2, z⟩ := q
  wp_walk
  exact ⟨_, rfl, z⟩
theorem decl_neN : Meets (Builtin.«NoneType.__ne__» ⟨[.none, .ref x], []⟩) (DeclS x ox) := .of_wp fun prog w A R s q => by
  obtain ⟨hp, g, d, tk, os⟩ := s
  obtain ⟨e1, e2, z⟩ := q
  wp_walk
  exact ⟨_, rfl, z⟩
end
section
variable {M : Model} {A : Around} {E : Value → Shared → Prop} {s : Shared} {K : PySem.W.Frag} {x C f p : Addr} {ox : Obj} {od : Option Obj} {Q : Fin → Shared → Prop}
theorem isI_no {T : String} (X : K.In s.heap) (I : PySem.W.InstAt s.heap x ox C od) (h : PySem.W.mroIn K C (.type T) = some false) : PySem.W.Looks M s.heap (isInstance (.ref x) (.type T)) false := I.type.andThen (PySem.W.looks_mroIn X h)
theorem shape_eqT : ∃ r : Bool → Sem Fin, Builtin.«tuple.__eq__» ⟨[.ref p, .ref x], []⟩ = (isInstance (.ref x) (.type "tuple") >>= r) ∧ r false = (ret .notImplemented >>= fun y => pure y) := ⟨_, rfl, rfl⟩
theorem shape_neT : ∃ r : Bool → Sem Fin, Builtin.«tuple.__ne__» ⟨[.ref p, .ref x], []⟩ = (isInstance (.ref x) (.type "tuple") >>= r) ∧ r false = (ret .notImplemented >>= fun y => pure y) := ⟨_, rfl, rfl⟩
theorem shape_eqL : ∃ r : Bool → Sem Fin, Builtin.«list.__eq__» ⟨[.ref p, .ref x], []⟩ = (isInstance (.ref x) (.type "list") >>= r) ∧ r false = (ret .notImplemented >>= fun y => pure y) := ⟨_, rfl, rfl⟩
theorem shape_neL : ∃ r : Bool → Sem Fin, Builtin.«list.__ne__» ⟨[.ref p, .ref x], []⟩ = (isInstance (.ref x) (.type "list") >>= r) ∧ r false = (ret .notImplemented >>= fun y => pure y) := ⟨_, rfl, rfl⟩
theorem shape_go {t : Sem Fin} {T : String} (h : ∃ r : Bool → Sem Fin, t = (isInstance (.ref x) (.type T) >>= r) ∧ r false = (ret .notImplemented >>= fun y => pure y)) (X : K.In s.heap) (I : PySem.W.InstAt s.heap x ox C od) (hm : PySem.W.mroIn K C (.type T) = some false) (q : Q (.done (.ret .notImplemented)) s) :
    wpAny M A t Q E s := by
  obtain ⟨r, rfl, h⟩ := h
  refine wpAny_bind ((isI_no X I hm).here ?_)
  rw [h]
  exact wpAny_bind (wpAny_pure (wpAny_pure q))
end

/-- v is no int, no bool and no instance -/
inductive Fgn (H : Hp) : V → Prop
  | non : Fgn H .non
  | bl (b : Bool) : Fgn H (.bl b)
  | str (z : Str) : Fgn H (.str z)
  | tup {p : Addr} {xs : List V} : H p = some (.tup xs) → Fgn H (.ref p)
  | lst {p : Addr} {xs : List V} : H p = some (.lst xs) → Fgn H (.ref p)
/-- what its value does beside the instance at x -/
structure FgnAt (K : PySem.W.Frag) (s : Shared) (x C : Addr) (u : Value) : Prop where
  ty : ∃ T, s.TypeIs u T ∧ PySem.W.subIn K (.type T) (.ref C) = some false
  eq : ∀ prog w A E, wpAny (model prog w) A (tryCompare u "__eq__" (.ref x)) (fun r s' => r = none ∧ s' = s) E s
  ne : ∀ prog w A E, wpAny (model prog w) A (tryCompare u "__ne__" (.ref x)) (fun r s' => r = none ∧ s' = s) E s
  same : ∀ (M : Model) A E (Q : Bool → Shared → Prop), Q false s → wpAny M A (isSame (.ref x) u) Q E s
  one : ∀ op, oneThing? op (.ref x) u = none
theorem sub_tc {K : PySem.W.Frag} {T : String} {C : Addr} {l : List Value} (h : fastBuiltinMro T = some l) (hl : ∀ v ∈ l, ∃ n, v = Value.type n) : PySem.W.subIn K (.type T) (.ref C) = some false := by
  show (fastBuiltinMro T).map (·.contains (.ref C)) = some false
  rw [h]
  refine congrArg some (Bool.eq_false_iff.mpr fun q => ?_)
  obtain ⟨n, e⟩ := hl _ (List.contains_iff_mem.mp q)
  cases e
theorem tys {l : List String} {v : Value} (h : v ∈ l.map Value.type) : ∃ n, v = Value.type n := by
  obtain ⟨n, _, rfl⟩ := List.mem_map.mp h
  exact ⟨n, rfl⟩
theorem isSame_inst {M : Model} {A : Around} {E : Value → Shared → Prop} {s : Shared} {x p C dx : Addr} {o : Obj} {Q : Bool → Shared → Prop} (h1 : s.heap.get? x = some (PySem.W.instObj C dx)) (h2 : s.heap.get? p = some o) (hc : o.cls ≠ .ref C) (q : Q false s) :
    wpAny M A (isSame (.ref x) (.ref p)) Q E s := by
  have ne : (x == p) = false := Bool.eq_false_iff.mpr fun e => by
    cases eq_of_beq e
    rw [h1] at h2
    cases h2
    exact hc rfl
  unfold isSame
  simp only [ne, Bool.false_eq_true, if_false]
  refine wpAny_bind (wpAny_load h1 (wpAny_bind (wpAny_load h2 ?_)))
  exact wpAny_pure q
theorem Fgn.at {X : Cx} {pins : List (Addr × Obj)} {σ : L2.St} {H : Hp} {s : Shared} {a C dx f : Addr} {fs : List (Str × V)} {v : V} {u : Value} (g : Fgn H v) (I : Inv X pins σ H s) (r : RelV v u) (ea : H a = some (.ins C dx fs)) (c : NeOwn X.K C f) : FgnAt X.K s a C u := by
  obtain ⟨od, J⟩ := inst_of I ea
  have KX := I.kIn
  have pl : (PySem.W.instObj C dx).data = .plain := rfl
  cases g with
  | non =>
    cases r
    exact ⟨⟨"NoneType", rfl, sub_tc (l := ["NoneType", "object"].map Value.type) (by decide +kernel) fun v h => tys h⟩,
      fun prog w A E => wpAny_tryCompare_declines (show s.TypeIs .none "NoneType" from rfl) F.slot_NoneType_eq_refl (call_meets F.slot_NoneType_eq_refl rfl F.entry_NoneType_eq (F.args_NoneType_eq_2 _ _) (decl_eqN a _) ⟨J.at_, pl, rfl, rfl, rfl⟩),
      fun prog w A E => wpAny_tryCompare_declines (show s.TypeIs .none "NoneType" from rfl) F.slot_NoneType_ne_refl (call_meets F.slot_NoneType_ne_refl rfl F.entry_NoneType_ne (F.args_NoneType_ne_2 _ _) (decl_neN a _) ⟨J.at_, pl, rfl, rfl, rfl⟩),
      fun M A E Q q => wpAny_of_eq (rfl : isSame (.ref a) .none = pure false) q, fun op => rfl⟩
  | bl b =>
    cases r
    exact ⟨⟨"bool", rfl, sub_tc (l := ["bool", "int", "object"].map Value.type) (by decide +kernel) fun v h => tys h⟩,
      fun prog w A E => wpAny_tryCompare_declines (show s.TypeIs (.bool b) "bool" from rfl) F.slot_bool_eq_refl (call_meets F.slot_bool_eq_refl rfl F.entry_int_eq (F.args_int_eq_2 _ _) (decl_eqB a _ b) ⟨J.at_, pl, rfl, rfl, rfl⟩),
      fun prog w A E => wpAny_tryCompare_declines (show s.TypeIs (.bool b) "bool" from rfl) F.slot_bool_ne_refl (call_meets F.slot_bool_ne_refl rfl F.entry_int_ne (F.args_int_ne_2 _ _) (decl_neB a _ b) ⟨J.at_, pl, rfl, rfl, rfl⟩),
      fun M A E Q q => wpAny_of_eq (rfl : isSame (.ref a) (.bool b) = pure false) q, fun op => rfl⟩
  | str z =>
    obtain ⟨t, rfl⟩ := r
    exact ⟨⟨"str", typeIs_str _ _ _, sub_tc (l := ["str", "object"].map Value.type) (by decide +kernel) fun v h => tys h⟩,
      fun prog w A E => wpAny_tryCompare_declines (typeIs_str s z t) F.slot_str_eq_refl (call_meets F.slot_str_eq_refl (typeIs_str s z t) F.entry_str_eq (F.args_str_eq_2 _ _) (decl_eqS a _ z t) ⟨J.at_, pl, rfl, rfl, rfl⟩),
      fun prog w A E => wpAny_tryCompare_declines (typeIs_str s z t) F.slot_str_ne_refl (call_meets F.slot_str_ne_refl (typeIs_str s z t) F.entry_str_ne (F.args_str_ne_2 _ _) (decl_neS a _ z t) ⟨J.at_, pl, rfl, rfl, rfl⟩),
      fun M A E Q q => wpAny_of_eq (rfl : isSame (.ref a) (.str z t) = pure false) q, fun op => rfl⟩
  | tup hp =>
    cases r
    rename_i p xs
    obtain ⟨its, rv, ⟨o, ho, hc, _⟩, _⟩ := I.tuple (.of hp)
    have hT : s.TypeIs (.ref p) "tuple" := ⟨o, ho, hc⟩
    exact ⟨⟨"tuple", hT, sub_tc (l := ["tuple", "object"].map Value.type) (by decide +kernel) fun v h => tys h⟩,
      fun prog w A E => wpAny_tryCompare_declines hT F.slot_tuple_eq_refl (wpAny_call (codeAny_call_builtin F.slot_tuple_eq_refl.plain F.entry_tuple_eq (F.slot_tuple_eq_refl.check _ _ _ _ _ _ _ _ hT (F.args_tuple_eq_2 _ _) (shape_go shape_eqT KX J c.tu ⟨rfl, rfl, rfl⟩)))),
      fun prog w A E => wpAny_tryCompare_declines hT F.slot_tuple_ne_refl (wpAny_call (codeAny_call_builtin F.slot_tuple_ne_refl.plain F.entry_tuple_ne (F.slot_tuple_ne_refl.check _ _ _ _ _ _ _ _ hT (F.args_tuple_ne_2 _ _) (shape_go shape_neT KX J c.tu ⟨rfl, rfl, rfl⟩)))),
      fun M A E Q q => isSame_inst J.at_ ho (by rw [hc]; exact fun z => nomatch z) q, fun op => rfl⟩
  | lst hp =>
    cases r
    rename_i p xs
    obtain ⟨its, n, rv, ho, _⟩ := I.lst hp
    have hT : s.TypeIs (.ref p) "list" := ⟨_, ho, rfl⟩
    exact ⟨⟨"list", hT, sub_tc (l := ["list", "object"].map Value.type) (by decide +kernel) fun v h => tys h⟩,
      fun prog w A E => wpAny_tryCompare_declines hT F.slot_list_eq_refl (wpAny_call (codeAny_call_builtin F.slot_list_eq_refl.plain F.entry_list_eq (F.slot_list_eq_refl.check _ _ _ _ _ _ _ _ hT (F.args_list_eq_2 _ _) (shape_go shape_eqL KX J c.li ⟨rfl, rfl, rfl⟩)))),
      fun prog w A E => wpAny_tryCompare_declines hT F.slot_list_ne_refl (wpAny_call (codeAny_call_builtin F.slot_list_ne_refl.plain F.entry_list_ne (F.slot_list_ne_refl.check _ _ _ _ _ _ _ _ hT (F.args_list_ne_2 _ _) (shape_go shape_neL KX J c.li ⟨rfl, rfl, rfl⟩)))),
      fun M A E Q q => isSame_inst J.at_ ho (fun z => nomatch z) q, fun op => rfl⟩

section
variable {X : Cx} {k j : Nat} {E : XK} {sp : SpN} {C f a dx : Addr} {fs : List (Str × V)} {H : Hp} {Q : VK} {v : V}
end
section
variable {X : Cx} {k j : Nat} {E : XK} {sp : Sp} {C f a b dx dy : Addr} {fs gs : List (Str × V)} {H : Hp} {Q : VK} {v : V} {i : Int}
end
end Rs

namespace Rs
open PySem PySem.Spec PyProof.Rows L2 He
section
variable {X : Cx} {σ : L2.St} {H : Hp} {D : Ends} {Q : VK} {x y : Str} {i : Int} {a b c e : Expr} {p pos : Pos}
end
section
variable {X : Cx} {σ : L2.St} {H : Hp} {D : Ends} {k : Nat} {E : L2.St → XK} {x : Str} {px pos : Pos} {a : Expr} {i : Nat} {body : List Stmt}
end
end Rs

namespace Rs
open PySem PySem.Spec PyProof.Rows L2 He
section
variable {X : Cx} {i : Nat} {x : Str} {pn : List (Addr × Obj)} {xe : Value → Shared → Prop} {a : Addr}
end
section
variable {X : Cx} {x n : Str} {c : Value} {i k : Nat} {E : L2.St → XK} {D : Ends} {σ : L2.St} {H : Hp} {body suite : List Stmt} {b₀ : Stmt} {np pos pos' : Pos}
end
section
variable {X : Cx} {a D : Addr} {oe : Obj} {pn : List (Addr × Obj)} {σ : L2.St} {H : Hp} {Q : VK} {e b : Expr} {p pos : Pos}
end
def excCB (K : PySem.W.Frag) (D : Addr) : Bool := decide (PySem.W.findIn K (.ref D) "__getattribute__" = some (some (.builtin "BaseException.__getattribute__"))) && (decide (PySem.W.findIn K (.ref D) "__getattr__" = some none) && (decide (PySem.W.subIn K (.ref D) (.type "BaseException") = some true) && (PySem.W.hasDictIn K D &&
  (decide (PySem.W.findIn K (.ref D) "__class__" = some (some (.builtin "object.__class__"))) && (decide (PySem.W.specialIn K (.builtin "object.__class__") "__get__" = some (some (.builtin "getset_descriptor.__get__"))) && (decide (PySem.W.takesIn K (.builtin "object.__class__") = some true) && decide (PySem.W.mroIn K D (.type "object") = some true)))))))
end Rs

namespace Rs
open PySem PySem.Spec PyProof.Rows L2 He PySem.Calls ClX
section
variable {X : Cx} {σ : L2.St} {H : Hp} {Q : VK} {QA : List V → Hp → Prop} {k j n : Nat} {E : L2.St → XK} {x : Str} {sp : Sp} {p pos kpos : Pos} {e : Expr} {es : List Expr} {kws : List Keyword} {C f : Addr} {fd : FuncData} {ps ks : List Str} {nm : Option Str} {g : List Value → List Value → List Value} {gV : List V → List V → List V}
end
section
variable {X : Cx} {σ : L2.St} {H : Hp} {Q : VK} {k j : Nat} {E : L2.St → XK} {m : Str} {sp : Sp} {pos apos : Pos} {o e : Expr} {es : List Expr} {C p g : Addr}
end
end Rs

namespace Rs
open PySem PySem.Spec PyProof.Rows L2 He
section
variable {P : Program} {w : World} {K : PySem.W.Frag} {mg : Str → Option Value} {base : Heap} {N ps : List Str} {name qual : Str} {pa : Arguments} {body : List Stmt} {sc : Scope} {dvs : List V} {kws : List (Str × V)} {f : Addr} {fd : FuncData} {k : Nat} {sp : Sp}
end
section
variable {X : Cx} {σ : L2.St} {H : Hp} {Q : VK} {k j : Nat} {x : Str} {sp : Sp} {p pos : Pos} {e : Expr} {es : List Expr}
end
end Rs

namespace Rs
open PySem PySem.Spec PyProof.Rows L2 He
section
variable {X : Cx} {σ : L2.St} {k j : Nat} {E : L2.St → XK} {sp : Sp} {C f g a b dx dy : Addr} {fs gs : List (Str × V)} {H : Hp} {Q : VK} {op : Operator} {i : Int} {e1 e2 : Expr} {pos : Pos}
end
end Rs

namespace Rs
open PySem PySem.Spec PyProof.Rows L2 He
section
variable {X : Cx} {s : Shared} {H : Hp} {scope : Scope} {C : Addr} {cl : List (Str × Addr)} {fp : List Addr} {k i : Nat} {E : L2.St → XK} {x : Str}
end
section
variable {X : Cx} {σ : L2.St} {H : Hp} {Q : VK} {D : Ends} {k i n : Nat} {E : L2.St → XK} {x y : Str} {scope : Scope} {elt iter : Expr} {px py pos spos : Pos}
end
end Rs

namespace Rs
open PySem PySem.Spec PyProof.Rows L2 He PySem.Calls
section
variable {prog : Program} {w : World} {A : Around} {E : Value → Shared → Prop} {s : Shared}
end
section
variable {X : Cx} {k i j n m : Nat} {E : L2.St → XK} {x y : Str} {D : Ends} {σ : L2.St} {H : Hp} {body : List Stmt} {e : Expr} {p pos pc px py tp : Pos} {kk : Nat}
end
end Rs

namespace Rs
open PySem PySem.Spec PyProof.Rows L2 He PySem.Calls
/-- t looks names up in the dict at D, then goes on as r -/
def KwTo {α : Type} (D : Addr) : List (Str × Value) → Sem α → Sem α → Prop
  | [], t, r => t = r
  | q :: l, t, r => ∃ (β γ : Type) (k1 : Option Value → Sem β) (k2 : β → Sem γ) (k3 : γ → Sem α) (a : β), (t = ((nsGet D q.1 >>= k1) >>= k2) >>= k3) ∧ k1 (some q.2) = pure a ∧ KwTo D l (k2 a >>= k3) r
theorem KwTo.run {α : Type} {K : PySem.W.Frag} {M : Model} {A : Around} {s : Shared} {D : Addr} {Q : α → Shared → Prop} {E : Value → Shared → Prop} (X : K.In s.heap) :
    ∀ {l : List (Str × Value)} {t r : Sem α}, (∀ q ∈ l, PySem.W.nsIn K D q.1 = some (some q.2)) → KwTo D l t r → wpAny M A r Q E s → wpAny M A t Q E s
  | [], t, r, _, e, h => by
    cases e
    exact h
  | q :: l, t, r, hl, e, h => by
    obtain ⟨β, γ, k1, k2, k3, a, e1, e2, e3⟩ := e
    have l1 : PySem.W.Looks M s.heap (nsGet D q.1 >>= k1) a := (PySem.W.looks_nsIn X (hl q List.mem_cons_self)).andThen (PySem.W.Looks.of_pure e2)
    rw [e1, bind_assoc]
    exact wpAny_bind (l1.here (KwTo.run X (fun p hp => hl p (List.mem_cons_of_mem _ hp)) e3 h))
section
variable {P : Program} {w : World} {K : PySem.W.Frag} {mg : Str → Option Value} {base : Heap} {N ps : List Str} {pv name qual : Str} {pa : Arguments} {body : List Stmt} {sc : Scope} {kws : List (Str × V)} {f : Addr} {fd : FuncData} {k : Nat} {sp : Sp}
end
section
variable {X : Cx} {σ : L2.St} {H : Hp} {Q : VK} {k j : Nat} {E : L2.St → XK} {x : Str} {sp : List V → List V → Hp → VK → XK → Prop} {p pos : Pos} {e : Expr} {es : List Expr} {kws : List Keyword} {C f : Addr} {ks : List Str}
end
structure ExX (S : Addr → Prop) (H H' : Hp) : Prop where
  kp : ∀ a o, ¬ S a → H a = some o → Good H o → H' a = some o
  src : ∀ a l o, ¬ S a → H a = some o → SrcL l o → ∃ o', H' a = some o' ∧ SrcL l o'
  th : ∀ a, H a ≠ none → H' a ≠ none
section
variable {S : Addr → Prop} {H H1 H2 : Hp}
theorem Ex.there (x : Ex H H1) (a : Addr) (h : H a ≠ none) : H1 a ≠ none := fun z => h (x.back z)
theorem Ex.x (x : Ex H H1) : ExX S H H1 := ⟨fun a o _ h g => x.kp a o h g, fun a l o _ h s => x.src a l o h s, x.there⟩
end
end Rs

namespace Rs
open PySem PySem.Spec PyProof.Rows L2 He
section
variable {X : Cx} {σ : L2.St} {H : Hp} {D D' : Ends} {Q : VK} {k j : Nat} {E : L2.St → XK} {m : Str} {sp : Sp} {C : Addr} {c o e : Expr} {a b st : List Stmt} {s1 : Stmt} {pos apos cpos : Pos}
end
end Rs

namespace Rs
open PySem PySem.Spec PyProof.Rows L2 He
end Rs
namespace Rs
open PySem PySem.Spec PyProof.Rows L2 He
section
variable {X : Cx} {x par m qual fld : Str} {p pos pos2 : Pos} {C f : Addr} {j k : Nat} {pa : Arguments} {sc : Scope} {ar : Arg} {p0 p1 p2 p3 p4 p5 p6 p7 p8 p9 : Pos} {E : L2.St → XK} {D : Ends} {σ : L2.St} {H : Hp} {ea : Expr}
end
end Rs
namespace Rs
open PySem PySem.Spec PyProof.Rows L2 He
section
variable {X : Cx} {a D dd : Addr} {oe : Obj} {pn : List (Addr × Obj)} {σ : L2.St} {H : Hp} {Q : VK} {e b : Expr} {p pos : Pos} {n : Str}
end
def isStrAs (z : Str) (v : Value) : Bool := match v with
  | .str file _ => z == file
  | _ => false
end Rs

namespace Rs
open PySem PySem.Spec PyProof.Rows L2 He
section
variable {X : Cx} {pins : List (Addr × Obj)} {D : Ends}
end
section
variable {X : Cx} {body : List Stmt} {h0 : ExceptHandler} {hds : List ExceptHandler} {l : List Clause} {pos : Pos} {tb : WX → TS} {out : WX}
end
section
variable {X : Cx} {k : Nat} {E : L2.St → XK} {D : Ends} {σ : L2.St} {H : Hp} {body : List Stmt} {h0 : ExceptHandler} {hds : List ExceptHandler} {l : List Clause} {pos : Pos}
end
section
variable {X : Cx} {k : Nat} {E : L2.St → XK} {H : Hp} {Q : VK} {v u : V} {d e : PyData}
end
section
variable {X : Cx} {σ : L2.St} {H : Hp} {Q : VK} {a b : Expr} {pos p2 : Pos}
end
end Rs

namespace Rs
open PySem PySem.Spec PyProof.Rows L2 He
def strsAre : List Str → List Value → Bool
  | [], [] => true
  | x :: xs, v :: vs => isStrAs x v && strsAre xs vs
  | _, _ => false
def seqOf (d : Data) : Option (Array Value) := match d with
  | .seq i _ => some i
  | _ => none
def kTupB (K : PySem.W.Frag) (a : Addr) (xs : List Str) : Bool := match K.lookup a with
  | some o => decide (o.cls = .type "tuple") && ((match seqOf o.data with
    | some i => decide (i.size ≤ 100) && strsAre xs i.toList
    | none => false))
  | none => false
section
variable {X : Cx} {k : Nat} {E : L2.St → XK} {σ : L2.St} {H : Hp} {D : Ends} {Q : VK} {o i e value : Expr} {pos pos' p : Pos} {j : Nat} {x : Str}
end
section
variable {ks : List Key} {vs : List V} {k : Key} {v : V} {i : Nat}
end
section
variable {X : Cx} {σ : L2.St}
end
section
variable {X : Cx} {a D : Addr} {oe : Obj} {pn : List (Addr × Obj)} {σ : L2.St} {H : Hp} {Q : VK} {e b : Expr} {p pos : Pos}
end
end Rs

namespace Mt
end Mt

namespace Mt
end Mt

namespace Mt
end Mt

namespace Mt
end Mt

namespace Mt
theorem Sz.int {i : Int} {n : Nat} (h : i.natAbs < 2 ^ n) (h0 : 0 < n) : Sz (i : Rat) n := by
  rw [← int_eq]
  exact Sz.div (by decide) h (Nat.one_lt_two_pow (by omega))
end Mt

namespace Mt
section
variable {α : Type} [Add α] [LT α] [DecidableRel (LT.lt (α := α))]
end
section
variable {α β : Type} [Add α] [LT α] [DecidableRel (LT.lt (α := α))] [Add β] [LT β] [DecidableRel (LT.lt (α := β))]
variable {f : α → β} (ha : ∀ a b, f (a + b) = f a + f b) (hl : ∀ a b, f a < f b ↔ a < b) {z w : α} {d : Bool} {ds : List (Option α)}
end
end Mt

namespace Mt
section
variable {W : Int} {d : Bool} {ds : List (Option Int)}
end
end Mt

namespace Mt
section
variable {u : Rat} {d : Bool} {ds : List (Option Rat)}
end
end Mt

namespace Mt
section
variable {W Y : Int} {d : Bool}
end
end Mt

namespace Rs
open PySem PySem.Spec PyProof.Rows L2 He
open TL (tl len_tl ext_tl tl_append)
section
variable {X : Cx} {σ : L2.St} {H : Hp} {D : Ends} {Q Q' : VK} {k : Nat} {E : L2.St → XK} {x y z : Str} {p px pos pos' apos p2 : Pos} {a b c e o : Expr} {i : Nat} {body : List Stmt}
end
end Rs

namespace Rs
open PySem PySem.Spec PyProof.Rows L2 He
open TL (tl len_tl ext_tl tl_append tl_num numL numL_lt numL_step numL_digits numL_ne numL_free numL_val numL_inj numL_len int_num joinL spl pre spl_hit spl_miss spl_nil split_spl)
end Rs

namespace Rs
open PySem PySem.Spec PyProof.Rows L2 He
open TL (tl len_tl ext_tl tl_append tl_num numL numL_lt numL_step numL_digits numL_ne numL_free numL_val numL_inj numL_len int_num joinL spl pre spl_hit spl_miss spl_nil split_spl)
end Rs

namespace Rs
open PySem PySem.Spec PyProof.Rows L2 He
section
variable {P : Program} {w : World} {K : PySem.W.Frag} {mg : Str → Option Value} {base : Heap} {N ps : List Str} {pv name qual : Str} {pa : Arguments} {body : List Stmt} {sc : Scope} {f : Addr} {fd : FuncData} {k : Nat} {sp : Sp}
end
section
variable {X : Cx} {σ : L2.St} {H : Hp} {Q : VK} {o : Expr} {apos pos : Pos}
end
end Rs
namespace Rs
open PySem PySem.SeqAt
open AutoSeq1 (wpAny_loadPart')
open MeetsSeq MeetsSeq2 MeetsSeq3 SeqRoads2
section
variable {prog : Program} {w : World} {A : Around} {R : Result → Shared → Prop}
end
section
variable {prog : Program} {w : World} {A : Around} {E : Value → Shared → Prop} {s : Shared}
end
end Rs
namespace Rs
open PySem PySem.Spec PyProof.Rows L2 He
section
variable {X : Cx} {n k : Nat} {D : Eqv} {E : L2.St → XK} {H : Hp} {Q : VK}
end
end Rs

namespace Rs
open PySem PySem.Spec PyProof.Rows L2 He
section
variable {X : Cx} {σ : L2.St} {H : Hp} {Q : VK} {D : Ends} {k i n : Nat} {E : L2.St → XK} {x y : Str} {scope : Scope} {elt a : Expr} {px py pos spos pr pc : Pos}
end
end Rs

namespace Mt
open PySem
section
variable {u d : Rat} {b : Bool}
end
end Mt

namespace Rs
open PySem PySem.Spec
section
variable {prog : Program} {w : World} {K : Type} [DecidableEq K] {knd : KeyKind prog w K} {A : Around} {E : Value → Shared → Prop} {s : Shared}
end
end Rs

namespace Rs
open PySem PySem.Spec PyProof.Rows L2 He
section
variable {X : Cx} {pins : List (Addr × Obj)} {σ : L2.St} {H : Hp} {s : Shared} {A : Around} {E : Value → Shared → Prop}
end
section
variable {prog : Program} {w : World} {A : Around} {s : Shared} {E : Value → Shared → Prop}
end
section
variable {M : Model} {A : Around} {E : Value → Shared → Prop} {s : Shared} {f : Value} {first : List Value} {pos : Pos} {Q : Value → Shared → Prop} {P : Heap → Prop} {args : List (Bool × Sem Value)} {kws : List (Option Str × Sem Value)}
end
section
variable {X : Cx} {σ : L2.St} {H : Hp} {Q : VK} {k j : Nat} {E : L2.St → XK} {x : Str} {sp : Sp} {p pos kpos : Pos} {e : Expr} {C : Addr} {ks : List Str} {gV : List V → List V → List V}
end
end Rs

namespace Rs
open PySem PySem.Spec PyProof.Rows L2 He
section
variable {prog : Program} {w : World} {A : Around} {s : Shared} {E : Value → Shared → Prop}
end
section
variable {X : Cx} {σ : L2.St} {H : Hp} {Q : VK} {e1 e2 ek : Expr} {pos : Pos}
end
end Rs

namespace Rs
open PySem PySem.Spec PyProof.Rows L2 He
section
variable {prog : Program} {w : World} {A : Around} {s : Shared} {E : Value → Shared → Prop}
end
section
variable {X : Cx} {σ : L2.St}
end
section
variable {P : Program} {w : World} {K : PySem.W.Frag} {mg : Str → Option Value} {base : Heap} {N ps : List Str} {pd name qual : Str} {pa : Arguments} {body : List Stmt} {sc : Scope} {f : Addr} {fd : FuncData} {k : Nat} {sp : Sp} {ks : List Str}
end
section
variable {X : Cx} {σ : L2.St} {H : Hp} {Q : VK} {k j : Nat} {E : L2.St → XK} {m : Str} {sp : Sp} {pos apos : Pos} {o : Expr} {C : Addr} {ks : List Str} {kws : List Keyword}
end
end Rs

namespace Rs
open PySem PySem.Spec PyProof.Rows L2 He
section
variable {X : Cx} {σ : L2.St} {H : Hp} {D : Ends} {k j : Nat} {E : L2.St → XK} {f : Str} {C p g : Addr} {sp : Sp} {value o : Expr} {pos pos' : Pos}
end
section
variable {X : Cx} {σ : L2.St} {H : Hp} {D : Ends} {k : Nat} {E : L2.St → XK} {x : Str} {px pos p : Pos} {a : Expr} {i : Nat} {body : List Stmt} {Q : VK}
end
end Rs

namespace Rs
open PySem PySem.Spec PyProof.Rows L2 He
section
variable {X : Cx} {k j : Nat} {E : XK} {C f a dx : Addr} {fs : List (Str × V)} {H : Hp} {Q : VK} {v : V}
end
end Rs

namespace Rs
open PySem PySem.Spec PyProof.Rows L2 He
section
variable {X : Cx} {σ : L2.St} {H : Hp} {Q : VK} {QA : List V → Hp → Prop} {k j i : Nat} {E : L2.St → XK} {sp : Sp} {p pos px pr pc : Pos} {fe e : Expr} {es : List Expr} {C g : Addr} {x : Str} {scope : Scope} {elt a : Expr}
end
end Rs

namespace Rs
open PySem PySem.Spec PyProof.Rows L2 He
section
variable {X : Cx} {σ : L2.St} {H : Hp} {Q : VK} {k j : Nat} {E : L2.St → XK} {x : Str} {sp : List V → Sp} {p pos : Pos} {e : Expr} {es : List Expr} {C : Addr} {ks : List Str} {kws : List Keyword}
end
end Rs

namespace Mt
end Mt

namespace Mt
section
variable {W U : Int} {d : Bool} {ds : List (Option Int)}
end
end Mt

namespace Rs
open PySem PySem.Spec PyProof.Rows L2 He
section
variable {X : Cx} {k : Nat} {E : L2.St → XK} {σ : L2.St} {H : Hp} {D : Ends} {Q : VK} {a b e : Expr} {es : List Expr} {pos p2 : Pos}
end
end Rs


namespace Rt
open PySem PySem.Spec PyProof.Rows L2 He Rs Mt
def top (i : Nat) : Stmt := PySem.Challenge.pw_resendtimers_k56_whole_breaks_of_fewer_r.main.body.getD i (.Pass ⟨0, 0, 0, 0⟩)
abbrev s_is_integer : Stmt := top 13
abbrev s_common : Stmt := top 14
abbrev s_Time___init__ : Stmt := inClass (top 17) 0
abbrev s_Time_top : Stmt := inClass (top 17) 1
abbrev s_Time_bottom : Stmt := inClass (top 17) 2
abbrev s_Time___add__ : Stmt := inClass (top 17) 4
abbrev s_Time___radd__ : Stmt := inClass (top 17) 5
abbrev s_Time___sub__ : Stmt := inClass (top 17) 6
abbrev s_Time___rsub__ : Stmt := inClass (top 17) 7
abbrev s_Time___mul__ : Stmt := inClass (top 17) 8
abbrev s_Time___rmul__ : Stmt := inClass (top 17) 9
abbrev s_Time___neg__ : Stmt := inClass (top 17) 13
abbrev s_Time___abs__ : Stmt := inClass (top 17) 14
abbrev s_Time___eq__ : Stmt := inClass (top 17) 16
abbrev s_Time___lt__ : Stmt := inClass (top 17) 17
abbrev s_Time___le__ : Stmt := inClass (top 17) 18
abbrev s_Time___gt__ : Stmt := inClass (top 17) 19
abbrev s_Time___ge__ : Stmt := inClass (top 17) 20
abbrev s_raised : Stmt := top 15
abbrev s_Time_power : Stmt := inClass (top 17) 21
abbrev s_Time_over : Stmt := inClass (top 17) 22
abbrev s_is_time : Stmt := top 18
abbrev s_time_of : Stmt := top 19
abbrev s_lesser : Stmt := top 20
abbrev s_greater : Stmt := top 21
abbrev s_merged : Stmt := top 22
abbrev s_ordered : Stmt := top 23
abbrev s_is_positive : Stmt := top 28
abbrev s_is_latest : Stmt := top 29
abbrev s_is_roof : Stmt := top 30
abbrev s_is_allowed : Stmt := top 31
abbrev s_checked : Stmt := top 32
abbrev s_made_of : Stmt := top 35
abbrev s_Book___init__ : Stmt := inClass (top 38) 0
abbrev s_Book_sample : Stmt := inClass (top 38) 3
abbrev s_Book_share : Stmt := inClass (top 38) 5
abbrev s_Book_latest : Stmt := inClass (top 38) 7
abbrev s_Book_factor : Stmt := inClass (top 38) 9
abbrev s_Book_margin : Stmt := inClass (top 38) 11
abbrev s_Book_floor : Stmt := inClass (top 38) 13
abbrev s_Book_roof : Stmt := inClass (top 38) 15
abbrev s_Book_doubled : Stmt := inClass (top 38) 17
abbrev s_Book_kept : Stmt := inClass (top 38) 19
abbrev s_Book_wait_for : Stmt := inClass (top 38) 22
abbrev s_check_times : Stmt := top 40
abbrev s_waits_until : Stmt := top 41
abbrev s_check_sample : Stmt := top 43
abbrev s_check_smoothed : Stmt := top 45
abbrev s_wait_line : Stmt := top 49
abbrev s_bound_of : Stmt := top 50
abbrev s_check_breaks : Stmt := top 51
abbrev s_check_book : Stmt := top 52
abbrev s_bounds_below : Stmt := top 53
abbrev s_breaks : Stmt := top 54
abbrev s__law_begin : Stmt := top 56
abbrev s__law_draw : Stmt := top 57
abbrev s__law_share : Stmt := top 58
abbrev s__law_factor : Stmt := top 59
abbrev s__law_roof : Stmt := top 60
abbrev s__law_rules : Stmt := top 61
abbrev s__law_pair : Stmt := top 62
abbrev s__law_book : Stmt := top 63
abbrev s__law_less_by : Stmt := top 64
abbrev s__law_marks : Stmt := top 65
abbrev s__law_scaled : Stmt := top 66
abbrev s__law_in_unit : Stmt := top 67
abbrev s_law : Stmt := top 68

section
set_option maxHeartbeats 0
def w_is_integer : DefA := ⟨fun K => ga K "is_integer", "is_integer", "is_integer", defArgs s_is_integer, defBody s_is_integer, defScope s_is_integer, [], [], false⟩
def w_common : DefA := ⟨fun K => ga K "common", "common", "common", defArgs s_common, defBody s_common, defScope s_common, [], [], false⟩
def w_Time___init__ : DefA := ⟨fun K => ma K (ga K "Time") "__init__", "__init__", "Time.__init__", defArgs s_Time___init__, defBody s_Time___init__, defScope s_Time___init__, [.int 1], [], false⟩
def w_Time_top : DefA := ⟨fun K => pgA K (ga K "Time") "top", "top", "Time.top", defArgs s_Time_top, defBody s_Time_top, defScope s_Time_top, [], [], false⟩
def w_Time_bottom : DefA := ⟨fun K => pgA K (ga K "Time") "bottom", "bottom", "Time.bottom", defArgs s_Time_bottom, defBody s_Time_bottom, defScope s_Time_bottom, [], [], false⟩
def w_Time___add__ : DefA := ⟨fun K => ma K (ga K "Time") "__add__", "__add__", "Time.__add__", defArgs s_Time___add__, defBody s_Time___add__, defScope s_Time___add__, [], [], false⟩
def w_Time___radd__ : DefA := ⟨fun K => ma K (ga K "Time") "__radd__", "__radd__", "Time.__radd__", defArgs s_Time___radd__, defBody s_Time___radd__, defScope s_Time___radd__, [], [], false⟩
def w_Time___sub__ : DefA := ⟨fun K => ma K (ga K "Time") "__sub__", "__sub__", "Time.__sub__", defArgs s_Time___sub__, defBody s_Time___sub__, defScope s_Time___sub__, [], [], false⟩
def w_Time___rsub__ : DefA := ⟨fun K => ma K (ga K "Time") "__rsub__", "__rsub__", "Time.__rsub__", defArgs s_Time___rsub__, defBody s_Time___rsub__, defScope s_Time___rsub__, [], [], false⟩
def w_Time___mul__ : DefA := ⟨fun K => ma K (ga K "Time") "__mul__", "__mul__", "Time.__mul__", defArgs s_Time___mul__, defBody s_Time___mul__, defScope s_Time___mul__, [], [], false⟩
def w_Time___rmul__ : DefA := ⟨fun K => ma K (ga K "Time") "__rmul__", "__rmul__", "Time.__rmul__", defArgs s_Time___rmul__, defBody s_Time___rmul__, defScope s_Time___rmul__, [], [], false⟩
def w_Time___neg__ : DefA := ⟨fun K => ma K (ga K "Time") "__neg__", "__neg__", "Time.__neg__", defArgs s_Time___neg__, defBody s_Time___neg__, defScope s_Time___neg__, [], [], false⟩
def w_Time___abs__ : DefA := ⟨fun K => ma K (ga K "Time") "__abs__", "__abs__", "Time.__abs__", defArgs s_Time___abs__, defBody s_Time___abs__, defScope s_Time___abs__, [], [], false⟩
def w_Time___eq__ : DefA := ⟨fun K => ma K (ga K "Time") "__eq__", "__eq__", "Time.__eq__", defArgs s_Time___eq__, defBody s_Time___eq__, defScope s_Time___eq__, [], [], false⟩
def w_Time___lt__ : DefA := ⟨fun K => ma K (ga K "Time") "__lt__", "__lt__", "Time.__lt__", defArgs s_Time___lt__, defBody s_Time___lt__, defScope s_Time___lt__, [], [], false⟩
def w_Time___le__ : DefA := ⟨fun K => ma K (ga K "Time") "__le__", "__le__", "Time.__le__", defArgs s_Time___le__, defBody s_Time___le__, defScope s_Time___le__, [], [], false⟩
def w_Time___gt__ : DefA := ⟨fun K => ma K (ga K "Time") "__gt__", "__gt__", "Time.__gt__", defArgs s_Time___gt__, defBody s_Time___gt__, defScope s_Time___gt__, [], [], false⟩
def w_Time___ge__ : DefA := ⟨fun K => ma K (ga K "Time") "__ge__", "__ge__", "Time.__ge__", defArgs s_Time___ge__, defBody s_Time___ge__, defScope s_Time___ge__, [], [], false⟩
def w_raised : DefA := ⟨fun K => ga K "raised", "raised", "raised", defArgs s_raised, defBody s_raised, defScope s_raised, [], [], false⟩
def w_Time_power : DefA := ⟨fun K => ma K (ga K "Time") "power", "power", "Time.power", defArgs s_Time_power, defBody s_Time_power, defScope s_Time_power, [], [], false⟩
def w_Time_over : DefA := ⟨fun K => ma K (ga K "Time") "over", "over", "Time.over", defArgs s_Time_over, defBody s_Time_over, defScope s_Time_over, [], [], false⟩
def w_is_time : DefA := ⟨fun K => ga K "is_time", "is_time", "is_time", defArgs s_is_time, defBody s_is_time, defScope s_is_time, [], [], false⟩
def w_time_of : DefA := ⟨fun K => ga K "time_of", "time_of", "time_of", defArgs s_time_of, defBody s_time_of, defScope s_time_of, [], [], false⟩
def w_lesser : DefA := ⟨fun K => ga K "lesser", "lesser", "lesser", defArgs s_lesser, defBody s_lesser, defScope s_lesser, [], [], false⟩
def w_greater : DefA := ⟨fun K => ga K "greater", "greater", "greater", defArgs s_greater, defBody s_greater, defScope s_greater, [], [], false⟩
def w_merged : DefA := ⟨fun K => ga K "merged", "merged", "merged", defArgs s_merged, defBody s_merged, defScope s_merged, [], [], false⟩
def w_ordered : DefA := ⟨fun K => ga K "ordered", "ordered", "ordered", defArgs s_ordered, defBody s_ordered, defScope s_ordered, [], [], false⟩
def w_is_positive : DefA := ⟨fun K => ga K "is_positive", "is_positive", "is_positive", defArgs s_is_positive, defBody s_is_positive, defScope s_is_positive, [], [], false⟩
def w_is_latest : DefA := ⟨fun K => ga K "is_latest", "is_latest", "is_latest", defArgs s_is_latest, defBody s_is_latest, defScope s_is_latest, [], [], false⟩
def w_is_roof : DefA := ⟨fun K => ga K "is_roof", "is_roof", "is_roof", defArgs s_is_roof, defBody s_is_roof, defScope s_is_roof, [], [], false⟩
def w_is_allowed : DefA := ⟨fun K => ga K "is_allowed", "is_allowed", "is_allowed", defArgs s_is_allowed, defBody s_is_allowed, defScope s_is_allowed, [], [], false⟩
def w_checked : DefA := ⟨fun K => ga K "checked", "checked", "checked", defArgs s_checked, defBody s_checked, defScope s_checked, [], [], false⟩
def w_made_of : DefA := ⟨fun K => ga K "made_of", "made_of", "made_of", defArgs s_made_of, defBody s_made_of, defScope s_made_of, [], [], false⟩
def w_Book___init__ : DefA := ⟨fun K => ma K (ga K "Book") "__init__", "__init__", "Book.__init__", defArgs s_Book___init__, defBody s_Book___init__, defScope s_Book___init__, [], [("sample", .str "first"), ("share", .int 1), ("latest", .non), ("factor", .int 1), ("margin", .int 0), ("floor", .non), ("roof", .non), ("doubled", .bl false), ("kept", .bl false)], false⟩
def w_Book_sample : DefA := ⟨fun K => pgA K (ga K "Book") "sample", "sample", "Book.sample", defArgs s_Book_sample, defBody s_Book_sample, defScope s_Book_sample, [], [], false⟩
def w_Book_share : DefA := ⟨fun K => pgA K (ga K "Book") "share", "share", "Book.share", defArgs s_Book_share, defBody s_Book_share, defScope s_Book_share, [], [], false⟩
def w_Book_latest : DefA := ⟨fun K => pgA K (ga K "Book") "latest", "latest", "Book.latest", defArgs s_Book_latest, defBody s_Book_latest, defScope s_Book_latest, [], [], false⟩
def w_Book_factor : DefA := ⟨fun K => pgA K (ga K "Book") "factor", "factor", "Book.factor", defArgs s_Book_factor, defBody s_Book_factor, defScope s_Book_factor, [], [], false⟩
def w_Book_margin : DefA := ⟨fun K => pgA K (ga K "Book") "margin", "margin", "Book.margin", defArgs s_Book_margin, defBody s_Book_margin, defScope s_Book_margin, [], [], false⟩
def w_Book_floor : DefA := ⟨fun K => pgA K (ga K "Book") "floor", "floor", "Book.floor", defArgs s_Book_floor, defBody s_Book_floor, defScope s_Book_floor, [], [], false⟩
def w_Book_roof : DefA := ⟨fun K => pgA K (ga K "Book") "roof", "roof", "Book.roof", defArgs s_Book_roof, defBody s_Book_roof, defScope s_Book_roof, [], [], false⟩
def w_Book_doubled : DefA := ⟨fun K => pgA K (ga K "Book") "doubled", "doubled", "Book.doubled", defArgs s_Book_doubled, defBody s_Book_doubled, defScope s_Book_doubled, [], [], false⟩
def w_Book_kept : DefA := ⟨fun K => pgA K (ga K "Book") "kept", "kept", "Book.kept", defArgs s_Book_kept, defBody s_Book_kept, defScope s_Book_kept, [], [], false⟩
def w_Book_wait_for : DefA := ⟨fun K => ma K (ga K "Book") "wait_for", "wait_for", "Book.wait_for", defArgs s_Book_wait_for, defBody s_Book_wait_for, defScope s_Book_wait_for, [], [], false⟩
def w_check_times : DefA := ⟨fun K => ga K "check_times", "check_times", "check_times", defArgs s_check_times, defBody s_check_times, defScope s_check_times, [], [], false⟩
def w_waits_until : DefA := ⟨fun K => ga K "waits_until", "waits_until", "waits_until", defArgs s_waits_until, defBody s_waits_until, defScope s_waits_until, [], [], false⟩
def w_check_sample : DefA := ⟨fun K => ga K "check_sample", "check_sample", "check_sample", defArgs s_check_sample, defBody s_check_sample, defScope s_check_sample, [], [], false⟩
def w_check_smoothed : DefA := ⟨fun K => ga K "check_smoothed", "check_smoothed", "check_smoothed", defArgs s_check_smoothed, defBody s_check_smoothed, defScope s_check_smoothed, [], [], false⟩
def w_wait_line : DefA := ⟨fun K => ga K "wait_line", "wait_line", "wait_line", defArgs s_wait_line, defBody s_wait_line, defScope s_wait_line, [], [], false⟩
def w_bound_of : DefA := ⟨fun K => ga K "bound_of", "bound_of", "bound_of", defArgs s_bound_of, defBody s_bound_of, defScope s_bound_of, [], [], false⟩
def w_check_breaks : DefA := ⟨fun K => ga K "check_breaks", "check_breaks", "check_breaks", defArgs s_check_breaks, defBody s_check_breaks, defScope s_check_breaks, [], [], false⟩
def w_check_book : DefA := ⟨fun K => ga K "check_book", "check_book", "check_book", defArgs s_check_book, defBody s_check_book, defScope s_check_book, [], [], false⟩
def w_bounds_below : DefA := ⟨fun K => ga K "bounds_below", "bounds_below", "bounds_below", defArgs s_bounds_below, defBody s_bounds_below, defScope s_bounds_below, [], [], false⟩
def w_breaks : DefA := ⟨fun K => ga K "breaks", "breaks", "breaks", defArgs s_breaks, defBody s_breaks, defScope s_breaks, [], [], false⟩
def w__law_begin : DefA := ⟨fun K => ga K "_law_begin", "_law_begin", "_law_begin", defArgs s__law_begin, defBody s__law_begin, defScope s__law_begin, [], [], false⟩
def w__law_draw : DefA := ⟨fun K => ga K "_law_draw", "_law_draw", "_law_draw", defArgs s__law_draw, defBody s__law_draw, defScope s__law_draw, [], [], false⟩
def w__law_share : DefA := ⟨fun K => ga K "_law_share", "_law_share", "_law_share", defArgs s__law_share, defBody s__law_share, defScope s__law_share, [], [], false⟩
def w__law_factor : DefA := ⟨fun K => ga K "_law_factor", "_law_factor", "_law_factor", defArgs s__law_factor, defBody s__law_factor, defScope s__law_factor, [], [], false⟩
def w__law_roof : DefA := ⟨fun K => ga K "_law_roof", "_law_roof", "_law_roof", defArgs s__law_roof, defBody s__law_roof, defScope s__law_roof, [], [], false⟩
def w__law_rules : DefA := ⟨fun K => ga K "_law_rules", "_law_rules", "_law_rules", defArgs s__law_rules, defBody s__law_rules, defScope s__law_rules, [], [], false⟩
def w__law_pair : DefA := ⟨fun K => ga K "_law_pair", "_law_pair", "_law_pair", defArgs s__law_pair, defBody s__law_pair, defScope s__law_pair, [], [], false⟩
def w__law_book : DefA := ⟨fun K => ga K "_law_book", "_law_book", "_law_book", defArgs s__law_book, defBody s__law_book, defScope s__law_book, [], [], false⟩
def w__law_less_by : DefA := ⟨fun K => ga K "_law_less_by", "_law_less_by", "_law_less_by", defArgs s__law_less_by, defBody s__law_less_by, defScope s__law_less_by, [], [], false⟩
def w__law_marks : DefA := ⟨fun K => ga K "_law_marks", "_law_marks", "_law_marks", defArgs s__law_marks, defBody s__law_marks, defScope s__law_marks, [], [], false⟩
def w__law_scaled : DefA := ⟨fun K => ga K "_law_scaled", "_law_scaled", "_law_scaled", defArgs s__law_scaled, defBody s__law_scaled, defScope s__law_scaled, [], [], false⟩
def w__law_in_unit : DefA := ⟨fun K => ga K "_law_in_unit", "_law_in_unit", "_law_in_unit", defArgs s__law_in_unit, defBody s__law_in_unit, defScope s__law_in_unit, [], [], false⟩
def w_law : DefA := ⟨fun K => ga K "law", "law", "law", defArgs s_law, defBody s_law, defScope s_law, [], [], false⟩
def fn1 : List DefA := [w_is_integer, w_common, w_Time___init__, w_Time_top, w_Time_bottom, w_Time___add__, w_Time___radd__, w_Time___sub__, w_Time___rsub__, w_Time___mul__, w_Time___rmul__, w_Time___neg__, w_Time___abs__, w_Time___eq__, w_Time___lt__, w_Time___le__, w_Time___gt__, w_Time___ge__, w_raised, w_Time_power, w_Time_over, w_is_time, w_time_of, w_lesser, w_greater, w_merged, w_ordered, w_is_positive, w_is_latest, w_is_roof, w_is_allowed, w_checked, w_made_of, w_Book___init__, w_Book_sample, w_Book_share, w_Book_latest, w_Book_factor, w_Book_margin, w_Book_floor, w_Book_roof, w_Book_doubled, w_Book_kept, w_Book_wait_for, w_check_times, w_waits_until, w_check_sample, w_check_smoothed, w_wait_line, w_bound_of, w_check_breaks, w_check_book, w_bounds_below, w_breaks, w__law_begin, w__law_draw, w__law_share, w__law_factor, w__law_roof, w__law_rules, w__law_pair, w__law_book, w__law_less_by, w__law_marks, w__law_scaled, w__law_in_unit, w_law]
def ψ1 : List (PySem.W.Frag → Bool) := [
  fun K => excCB K (ga K "ResendError"),
  fun K => excCB K (ga K "NoTime"),
  fun K => excPlainB K (ga K "NoTime"),
  fun K => excCB K (ga K "NoText"),
  fun K => excCB K (ga K "BadBook"),
  fun K => excCB K (ga K "NoCount"),
  fun K => excPlainB K (ga K "NoCount"),
  fun K => excCB K (ga K "TooMany"),
  fun K => excCB K (ga K "NotFor"),
  fun K => isCB K "Time",
  fun K => kitCB K (ga K "Time"),
  fun K => (Fa.mkr "Time").ok K,
  fun K => (Fa.noat "Time" "over_line").ok K,
  fun K => (Fa.noat "Time" "under_line").ok K,
  fun K => decide (PySem.W.subIn K (.ref (ga K "Time")) (.type "NoneType") = some false),
  fun K => neOwnB K (ga K "Time") (ma K (ga K "Time") "__eq__"),
  fun K => absOwnB K (ga K "Time") (ma K (ga K "Time") "__abs__"),
  fun K => binOwnB K (ga K "Time") (ma K (ga K "Time") "__add__") .Add,
  fun K => noInplB K (ga K "Time") .Add,
  fun K => cmpOwnB K (ga K "Time") (ma K (ga K "Time") "__eq__") .Eq,
  fun K => cmpRefB K (ga K "Time") (ma K (ga K "Time") "__eq__") .Eq,
  fun K => binOwnB K (ga K "Time") (ma K (ga K "Time") "__floordiv__") .FloorDiv,
  fun K => cmpOwnB K (ga K "Time") (ma K (ga K "Time") "__ge__") .GtE,
  fun K => cmpRefB K (ga K "Time") (ma K (ga K "Time") "__ge__") .LtE,
  fun K => cmpOwnB K (ga K "Time") (ma K (ga K "Time") "__gt__") .Gt,
  fun K => cmpRefB K (ga K "Time") (ma K (ga K "Time") "__gt__") .Lt,
  fun K => cmpOwnB K (ga K "Time") (ma K (ga K "Time") "__le__") .LtE,
  fun K => cmpRefB K (ga K "Time") (ma K (ga K "Time") "__le__") .GtE,
  fun K => cmpOwnB K (ga K "Time") (ma K (ga K "Time") "__lt__") .Lt,
  fun K => cmpRefB K (ga K "Time") (ma K (ga K "Time") "__lt__") .Gt,
  fun K => binOwnB K (ga K "Time") (ma K (ga K "Time") "__mul__") .Mult,
  fun K => noInplB K (ga K "Time") .Mult,
  fun K => negOwnB K (ga K "Time") (ma K (ga K "Time") "__neg__"),
  fun K => binOwnB K (ga K "Time") (ma K (ga K "Time") "__pow__") .Pow,
  fun K => binRefB K (ga K "Time") (ma K (ga K "Time") "__add__") (ma K (ga K "Time") "__radd__") .Add,
  fun K => binRefB K (ga K "Time") (ma K (ga K "Time") "__floordiv__") (ma K (ga K "Time") "__rfloordiv__") .FloorDiv,
  fun K => binRefB K (ga K "Time") (ma K (ga K "Time") "__mul__") (ma K (ga K "Time") "__rmul__") .Mult,
  fun K => binRefB K (ga K "Time") (ma K (ga K "Time") "__sub__") (ma K (ga K "Time") "__rsub__") .Sub,
  fun K => binOwnB K (ga K "Time") (ma K (ga K "Time") "__sub__") .Sub,
  fun K => noInplB K (ga K "Time") .Sub,
  fun K => propB K (ga K "Time") "bottom",
  fun K => (Fa.meth "Time" "over").ok K,
  fun K => (Fa.meth "Time" "power").ok K,
  fun K => propB K (ga K "Time") "top",
  fun K => isCB K "Book",
  fun K => kitCB K (ga K "Book"),
  fun K => (Fa.mkr "Book").ok K,
  fun K => (Fa.noat "Book" "rules").ok K,
  fun K => decide (PySem.W.subIn K (.ref (ga K "Book")) (.type "NoneType") = some false),
  fun K => neOwnB K (ga K "Book") (ma K (ga K "Book") "__eq__"),
  fun K => propB K (ga K "Book") "doubled",
  fun K => propB K (ga K "Book") "factor",
  fun K => propB K (ga K "Book") "floor",
  fun K => propB K (ga K "Book") "kept",
  fun K => propB K (ga K "Book") "latest",
  fun K => propB K (ga K "Book") "margin",
  fun K => (Fa.meth "Book" "put_part").ok K,
  fun K => propB K (ga K "Book") "roof",
  fun K => propB K (ga K "Book") "sample",
  fun K => propB K (ga K "Book") "share",
  fun K => (Fa.meth "Book" "wait_for").ok K,
  fun K => (Fa.int "MOST_FIGURES" 60).ok K,
  fun K => (Fa.str "FIGURES" "0123456789").ok K,
  fun K => (Fa.glo "is_integer").ok K,
  fun K => (Fa.glo "NoTime").ok K,
  fun K => (Fa.glo "common").ok K,
  fun K => (Fa.glo "is_time").ok K,
  fun K => (Fa.glo "time_of").ok K,
  fun K => (Fa.glo "Time").ok K,
  fun K => (Fa.int "MOST_POWER" 10000).ok K,
  fun K => (Fa.glo "raised").ok K,
  fun K => (Fa.glo "NoText").ok K,
  fun K => (Fa.glo "read_count").ok K,
  fun K => (Fa.glo "merged").ok K,
  fun K => (Fa.int "MOST_LATEST" 20).ok K,
  fun K => (Fa.glo "is_positive").ok K,
  fun K => (Fa.glo "SAMPLES").ok K,
  fun K => kTupB K (ga K "SAMPLES") ["first", "last", "marked", "clean"],
  fun K => (Fa.glo "is_latest").ok K,
  fun K => (Fa.glo "is_roof").ok K,
  fun K => (Fa.glo "PARTS").ok K,
  fun K => kTupB K (ga K "PARTS") ["sample", "share", "latest", "factor", "margin", "floor", "roof", "doubled", "kept"],
  fun K => (Fa.glo "is_allowed").ok K,
  fun K => (Fa.glo "BadBook").ok K,
  fun K => (Fa.glo "greater").ok K,
  fun K => (Fa.glo "lesser").ok K,
  fun K => (Fa.glo "checked").ok K,
  fun K => (Fa.glo "word_of").ok K,
  fun K => (Fa.glo "made_of").ok K,
  fun K => (Fa.glo "Book").ok K,
  fun K => (Fa.glo "bends").ok K,
  fun K => (Fa.glo "last_rise").ok K,
  fun K => (Fa.glo "part_of").ok K,
  fun K => (Fa.glo "NotFor").ok K,
  fun K => (Fa.glo "check_times").ok K,
  fun K => (Fa.int "MOST_ROUNDS" 12).ok K,
  fun K => (Fa.glo "NoCount").ok K,
  fun K => (Fa.glo "check_sample").ok K,
  fun K => (Fa.glo "check_smoothed").ok K,
  fun K => (Fa.glo "wait_line").ok K,
  fun K => (Fa.glo "bound_of").ok K,
  fun K => (Fa.int "MOST_BREAKS" 1000).ok K,
  fun K => (Fa.glo "TooMany").ok K,
  fun K => (Fa.glo "waits_until").ok K,
  fun K => (Fa.glo "ordered").ok K,
  fun K => (Fa.glo "check_book").ok K,
  fun K => (Fa.glo "check_breaks").ok K,
  fun K => (Fa.glo "bounds_below").ok K,
  fun K => (Fa.glo "_law_draw").ok K,
  fun K => (Fa.glo "_law_share").ok K,
  fun K => (Fa.glo "_law_factor").ok K,
  fun K => (Fa.glo "_law_roof").ok K,
  fun K => (Fa.glo "_law_pair").ok K,
  fun K => (Fa.glo "breaks").ok K,
  fun K => (Fa.glo "_law_book").ok K,
  fun K => (Fa.glo "_law_scaled").ok K,
  fun K => (Fa.glo "_law_begin").ok K,
  fun K => (Fa.glo "_law_rules").ok K,
  fun K => (Fa.glo "_law_marks").ok K,
  fun K => (Fa.glo "_law_less_by").ok K,
  fun K => (Fa.glo "_law_in_unit").ok K,
  fun K => (Fa.glo "law").ok K,
  fun K => (Fa.free "isinstance").ok K,
  fun K => (Fa.free "int").ok K,
  fun K => (Fa.free "bool").ok K,
  fun K => (Fa.free "abs").ok K,
  fun K => (Fa.free "len").ok K,
  fun K => (Fa.free "str").ok K,
  fun K => (Fa.free "NotImplemented").ok K,
  fun K => (Fa.free "range").ok K,
  fun K => (Fa.free "dict").ok K,
  fun K => (Fa.free "all").ok K,
  fun K => (Fa.free "zip").ok K,
  fun K => (Fa.free "list").ok K]
def fn : List DefA := fn1
def ψ : List (PySem.W.Frag → Bool) := ψ1
abbrev R : PySem.W.OpenRow := PySem.W.OpenLaw.row PySem.Challenge.rw_resendtimers_k56_whole_breaks_of_fewer_r
def loose : List Str := [("_wall" : Str), ("__name__" : Str), ("ResendError" : Str), ("NoTime" : Str), ("NoText" : Str), ("BadBook" : Str), ("NoCount" : Str), ("TooMany" : Str), ("NotFor" : Str), ("MOST_FIGURES" : Str), ("MOST_POWER" : Str), ("FIGURES" : Str), ("is_integer" : Str), ("common" : Str), ("raised" : Str), ("read_count" : Str), ("Time" : Str), ("is_time" : Str), ("time_of" : Str), ("lesser" : Str), ("greater" : Str), ("merged" : Str), ("ordered" : Str), ("PARTS" : Str), ("SAMPLES" : Str), ("MOST_LATEST" : Str), ("is_positive" : Str), ("is_latest" : Str), ("is_roof" : Str), ("is_allowed" : Str), ("checked" : Str), ("word_of" : Str), ("part_of" : Str), ("made_of" : Str), ("bends" : Str), ("last_rise" : Str), ("Book" : Str), ("check_times" : Str), ("waits_until" : Str), ("check_sample" : Str), ("check_smoothed" : Str), ("MOST_ROUNDS" : Str), ("MOST_BREAKS" : Str), ("wait_line" : Str), ("bound_of" : Str), ("check_breaks" : Str), ("check_book" : Str), ("bounds_below" : Str), ("breaks" : Str), ("_law_begin" : Str), ("_law_draw" : Str), ("_law_share" : Str), ("_law_factor" : Str), ("_law_roof" : Str), ("_law_rules" : Str), ("_law_pair" : Str), ("_law_book" : Str), ("_law_less_by" : Str), ("_law_marks" : Str), ("_law_scaled" : Str), ("_law_in_unit" : Str)]
theorem run1 (w : World) : HandSHeadRun.RunEq R (PySem.W.view R.prog [68]) (hookX 6 ψ1 fn1) (obX 6 ψ1 fn1) 14000 loose w := by
  intro os
  kernel_rfl
theorem run (w : World) : HandSHeadRun.RunEq R (PySem.W.view R.prog [68]) (hookX 6 ψ fn) (obX 6 ψ fn) 14000 loose w := run1 w

end
end Rt
/-! A walk straight over the text: each construct by its rule, the values typed by facts about them. -/
namespace Rs
open PySem PySem.Spec PyProof.Rows L2

/-! ### the text itself as its own reading -/
section
variable {X : Cx}
def WE (X : Cx) (e : Expr) : TE := fun σ H Q => ∀ pins s, Inv X pins σ H s → wpAny (model X.prog X.w) X.A (eval e X.env) (EP X pins σ Q) X.xe s
def WT (X : Cx) (e : Expr) : TT := fun σ H Q => ∀ pins s, Inv X pins σ H s → wpAny (model X.prog X.w) X.A (isTrue e X.env (eval e X.env)) (TP X pins σ Q) X.xe s
def WW (X : Cx) (e : Expr) : TT := fun σ H Q => ∀ whole pins s, Inv X pins σ H s → wpAny (model X.prog X.w) X.A (isTrue e X.env whole) (TP X pins σ Q) X.xe s
def WA (X : Cx) (es : List Expr) : TA := fun σ H Q => ∀ pos pins s, Inv X pins σ H s → wpAny (model X.prog X.w) X.A (spliced (backTo pos (starEach es X.env))) (AP X pins σ Q) X.xe s
def WS (X : Cx) (st : Stmt) : TS := fun D σ H => ∀ pins s, Inv X pins σ H s → wpAny (model X.prog X.w) X.A (exec st X.env) (SP X pins D) X.xe s
def WB (X : Cx) (st : List Stmt) : TS := fun D σ H => ∀ pins s, Inv X pins σ H s → wpAny (model X.prog X.w) X.A (execs st X.env) (SP X pins D) X.xe s
theorem peS {e : Expr} : PE X e (WE X e) := ⟨fun pins s _ _ _ I h => h pins s I⟩
theorem ptS {e : Expr} : PT X e (WT X e) := ⟨fun pins s _ _ _ I h => h pins s I⟩
theorem pwS {e : Expr} : PW X e (WW X e) := ⟨fun whole pins s _ _ _ I h => h whole pins s I⟩
theorem paS {es : List Expr} : PA X es (WA X es) := ⟨fun pos pins s _ _ _ I h => h pos pins s I⟩
theorem psS {st : Stmt} : PS X st (WS X st) := ⟨fun pins s _ _ _ I h => h pins s I⟩
theorem pbS {st : List Stmt} : PSs X st (WB X st) := ⟨fun pins s _ _ _ I h => h pins s I⟩
variable {σ : L2.St} {H : Hp} {D : Ends} {Q : VK} {QT : Bool → Hp → Prop} {QA : List V → Hp → Prop}
theorem weP {e : Expr} {t : TE} (p : PE X e t) (h : t σ H Q) : WE X e σ H Q := fun pins s I => p.run pins s σ H Q I h
theorem wtP {e : Expr} {t : TT} (p : PT X e t) (h : t σ H QT) : WT X e σ H QT := fun pins s I => p.run pins s σ H QT I h
theorem wwP {e : Expr} {t : TT} (p : PW X e t) (h : t σ H QT) : WW X e σ H QT := fun whole pins s I => p.run whole pins s σ H QT I h
theorem waP {es : List Expr} {t : TA} (p : PA X es t) (h : t σ H QA) : WA X es σ H QA := fun pos pins s I => p.run pos pins s σ H QA I h
theorem wsP {st : Stmt} {t : TS} (p : PS X st t) (h : t D σ H) : WS X st D σ H := fun pins s I => p.run pins s σ H D I h
theorem wbP {st : List Stmt} {t : TS} (p : PSs X st t) (h : t D σ H) : WB X st D σ H := fun pins s I => p.run pins s σ H D I h

/-! ### names -/
/-- slot i of the running body is the name x, its own -/
structure Sl (X : Cx) (i : Nat) (x : Str) : Prop where
  at_ : X.N[i]? = some x
  nd : X.N.Nodup
  loc : Loc X.env.scope x
  fn : X.fn x = true ∨ X.env.scope.names.lookup x = some .local
  d1 : (x == ("__debug__" : Str)) = false
  d2 : (x == ("__classdict__" : Str)) = false
/-- x is a name of the module or a built-in one here -/
structure Gn (X : Cx) (x : Str) : Prop where
  gl : Gl X x
  d1 : (x == ("__debug__" : Str)) = false
/-- .. and a built-in one -/
structure Bn (X : Cx) (x : Str) : Prop where
  gl : Gl X x
  no : X.mg x = none
theorem we_name {i : Nat} {x : Str} {v : V} {pos : Pos} (n : Sl X i x) (h : σ[i]? = some (some v)) (q : Q v H) : WE X (.Name x pos) σ H Q :=
  weP (pe_var n.at_ (n.loc.elim .inl fun z => .inr (.inl z)) n.d1 n.d2) ⟨v, h, q⟩
theorem we_int {i : Int} {j : Nat} {pos : Pos} (q : Q (.int i) H) : WE X (.Constant (.int i) j pos) σ H Q := weP pe_int q
theorem we_str {x : Str} {j : Nat} {pos : Pos} (q : Q (.str x) H) : WE X (.Constant (.str x) j pos) σ H Q := weP pe_str q
theorem we_bool {b : Bool} {j : Nat} {pos : Pos} (q : Q (.bl b) H) : WE X (.Constant (.bool b) j pos) σ H Q := weP pe_bl q
theorem we_none {j : Nat} {pos : Pos} (q : Q .non H) : WE X (.Constant .none j pos) σ H Q := weP pe_non q
/-- a module's constant -/
theorem we_glob {x : Str} {v : V} {u : Value} {pos : Pos} (g : Gn X x) (hm : X.mg x = some u) (r : RelV v u) (q : Q v H) : WE X (.Name x pos) σ H Q := weP (pe_glob g.gl hm r g.d1) q

/-! ### operators: what the value of one is, by the values of its sides -/
def Op2 (X : Cx) (f : Value → Value → Sem Value) (x y : V) (H : Hp) (Q : VK) : Prop := ∀ pins s σ u v, Inv X pins σ H s → RelV x u → RelV y v → wpAny (model X.prog X.w) X.A (f u v) (EP X pins σ Q) X.xe s
def Op1 (X : Cx) (f : Value → Sem Value) (x : V) (H : Hp) (Q : VK) : Prop := ∀ pins s σ u, Inv X pins σ H s → RelV x u → wpAny (model X.prog X.w) X.A (f u) (EP X pins σ Q) X.xe s
def CallV (X : Cx) (f : Value) (xs : List V) (H : Hp) (Q : VK) : Prop := ∀ pins s σ us, Inv X pins σ H s → Vals xs us → wpAny (model X.prog X.w) X.A (call f us) (EP X pins σ Q) X.xe s
theorem op2R {f : Value → Value → Sem Value} : OpR X f (Op2 X f) := fun pins s σ _ _ _ u v _ I rx ry h => h pins s σ u v I rx ry
theorem op2_of {f : Value → Value → Sem Value} {r : R2} {x y : V} (o : OpR X f r) (h : r x y H Q) : Op2 X f x y H Q := fun pins s σ u v I rx ry => o pins s σ H x y u v Q I rx ry h
theorem op1R {f : Value → Sem Value} : UnR X f (Op1 X f) := fun pins s σ _ _ u _ I rx h => h pins s σ u I rx
theorem op1_of {f : Value → Sem Value} {r : V → Hp → VK → Prop} {x : V} (o : UnR X f r) (h : r x H Q) : Op1 X f x H Q := fun pins s σ u I rx => o pins s σ H x u Q I rx h
theorem we_bin {op : Operator} {a b : Expr} {pos : Pos} (h : WE X a σ H fun x H1 => WE X b σ H1 fun y H2 => Op2 X (binaryOp op) x y H2 Q) : WE X (.BinOp a op b pos) σ H Q := weP (pe_op op2R peS peS) h
theorem we_un {op : UnaryOp} {a : Expr} {pos : Pos} (h : WE X a σ H fun x H1 => Op1 X (unaryOp op) x H1 Q) : WE X (.UnaryOp op a pos) σ H Q := weP (pe_un op1R peS) h
theorem we_cmp {op : CmpOp} {a b : Expr} {pos : Pos} (h : WE X a σ H fun x H1 => WE X b σ H1 fun y H2 => Op2 X (compareOp op) x y H2 Q) (hm : behindInMarks op b = false := by first | exact nomark _ | rfl) : WE X (.Compare a [op] [b] pos) σ H Q :=
  weP (pe_cmpR op2R peS peS hm) h
theorem wt_cmp {op : CmpOp} {a b : Expr} {pos : Pos} (h : WE X a σ H fun x H1 => WE X b σ H1 fun y H2 => Op2 X (compareOp op) x y H2 fun z H3 => ∃ k, z = .bl k ∧ QT k H3) (hm : behindInMarks op b = false := by first | exact nomark _ | rfl) :
    WT X (.Compare a [op] [b] pos) σ H QT := wtP (pt_cmpR op2R peS peS hm) h
theorem we_chain {op op' : CmpOp} {a b c : Expr} {pos : Pos} (h : WE X a σ H fun x H1 => WE X b σ H1 fun y H2 => Op2 X (compareOp op) x y H2 fun z H3 => ∃ k, z = .bl k ∧ if k = true then WE X c σ H3 fun w H4 => Op2 X (compareOp op') y w H4 Q else Q (.bl false) H3)
    (h1 : lastMarks [op, op'] [b, c] = false := by rfl) : WE X (.Compare a [op, op'] [b, c] pos) σ H Q := weP (pe_chain op2R op2R peS peS peS h1) h
theorem wt_chain {op op' : CmpOp} {a b c : Expr} {pos : Pos} (h : WE X a σ H fun x H1 => WE X b σ H1 fun y H2 => Op2 X (compareOp op) x y H2 fun z H3 => ∃ k, z = .bl k ∧ if k = true then WE X c σ H3 fun w H4 => Op2 X (compareOp op') y w H4 fun z2 H5 => ∃ k, z2 = .bl k ∧ QT k H5 else ∃ k2, V.bl false = .bl k2 ∧ QT k2 H3)
    (h1 : lastMarks [op, op'] [b, c] = false := by rfl) : WT X (.Compare a [op, op'] [b, c] pos) σ H QT := wtP (pt_chain op2R op2R peS peS peS h1) h

/-! ### tests -/
theorem wt_and2 {a b : Expr} {pos : Pos} (h : WT X a σ H fun k H1 => if k = true then WT X b σ H1 QT else QT false H1) : WT X (.BoolOp .And [a, b] pos) σ H QT := wtP (PW.pt (pw_and ptS (pw_and1 ptS))) h
theorem wt_and3 {a b c : Expr} {pos : Pos} (h : WT X a σ H fun k H1 => if k = true then WT X b σ H1 fun k2 H2 => if k2 = true then WT X c σ H2 QT else QT false H2 else QT false H1) : WT X (.BoolOp .And [a, b, c] pos) σ H QT :=
  wtP (PW.pt (pw_and ptS (pw_and ptS (pw_and1 ptS)))) h
theorem wt_or2 {a b : Expr} {pos : Pos} (h : WT X a σ H fun k H1 => if k = true then QT true H1 else WT X b σ H1 QT) : WT X (.BoolOp .Or [a, b] pos) σ H QT := wtP (PW.pt (pw_or ptS (pw_or1 ptS))) h
theorem wt_or3 {a b c : Expr} {pos : Pos} (h : WT X a σ H fun k H1 => if k = true then QT true H1 else WT X b σ H1 fun k2 H2 => if k2 = true then QT true H2 else WT X c σ H2 QT) : WT X (.BoolOp .Or [a, b, c] pos) σ H QT :=
  wtP (PW.pt (pw_or ptS (pw_or ptS (pw_or1 ptS)))) h
theorem wt_or4 {a b c d : Expr} {pos : Pos} (h : WT X a σ H fun k H1 => if k = true then QT true H1 else WT X b σ H1 fun k2 H2 => if k2 = true then QT true H2 else WT X c σ H2 fun k3 H3 => if k3 = true then QT true H3 else WT X d σ H3 QT) :
    WT X (.BoolOp .Or [a, b, c, d] pos) σ H QT := wtP (PW.pt (pw_or ptS (pw_or ptS (pw_or ptS (pw_or1 ptS))))) h
theorem wt_not {a : Expr} {pos : Pos} (h : WT X a σ H fun k H1 => QT (!k) H1) : WT X (.UnaryOp .Not a pos) σ H QT := wtP (pt_not ptS) h
/-- a test that is a value's truth, the value True or False -/
theorem wt_val {e : Expr} (h : WE X e σ H fun v H1 => ∃ k, v = .bl k ∧ QT k H1) (he : ∀ whole, isTrue e X.env whole = (do let v ← whole; standAt e.pos; holding [v] (truthy v)) := by intro _; rfl) : WT X e σ H QT := wtP (pt_val peS he) h
/-- .. any value -/
theorem wt_truth {e : Expr} (h : WE X e σ H fun v H1 => ∃ k, TruV X.K v H1 k ∧ QT k H1) (he : ∀ whole, isTrue e X.env whole = (do let v ← whole; standAt e.pos; holding [v] (truthy v)) := by intro _; rfl) : WT X e σ H QT := wtP (pt_truth peS he) h
theorem we_and2 {a b : Expr} {pos : Pos} (h : WE X a σ H fun x H1 => ∃ c, x = .bl c ∧ if c = true then WE X b σ H1 Q else Q (.bl false) H1) : WE X (.BoolOp .And [a, b] pos) σ H Q := weP (pe_and peS (pe_one peS)) h
theorem we_and3 {a b c : Expr} {pos : Pos} (h : WE X a σ H fun x H1 => ∃ k, x = .bl k ∧ if k = true then WE X b σ H1 fun y H2 => ∃ k2, y = .bl k2 ∧ if k2 = true then WE X c σ H2 Q else Q (.bl false) H2 else Q (.bl false) H1) :
    WE X (.BoolOp .And [a, b, c] pos) σ H Q := weP (pe_and peS (pe_and peS (pe_one peS))) h
theorem we_or2 {a b : Expr} {pos : Pos} (h : WE X a σ H fun x H1 => ∃ c, x = .bl c ∧ if c = true then Q (.bl true) H1 else WE X b σ H1 Q) : WE X (.BoolOp .Or [a, b] pos) σ H Q := weP (pe_or peS (pe_one peS)) h
theorem we_not {a : Expr} {pos : Pos} (h : WE X a σ H fun x H1 => ∃ c, x = .bl c ∧ Q (.bl (!c)) H1) : WE X (.UnaryOp .Not a pos) σ H Q := weP (pe_not peS) h
theorem we_if {c a b : Expr} {pos : Pos} (h : WT X c σ H fun k H1 => if k = true then WE X a σ H1 Q else WE X b σ H1 Q) : WE X (.IfExp c a b pos) σ H Q := weP (pe_ifExp ptS peS peS) h

/-! ### arguments, tuples, lists -/
theorem wa_nil (q : QA [] H) : WA X [] σ H QA := waP pa_nil q
theorem wa_cons {e : Expr} {es : List Expr} (h : WE X e σ H fun x H1 => WA X es σ H1 fun xs H2 => QA (x :: xs) H2) (hs : starEach (e :: es) X.env = (false, eval e X.env) :: starEach es X.env := by rfl) : WA X (e :: es) σ H QA := waP (pa_cons peS paS hs) h

/-! ### statements -/
theorem wb_nil (h : D.nx σ H) : WB X [] D σ H := wbP pss_nil h
theorem wb_cons {st : Stmt} {rest : List Stmt} (h : WS X st { D with nx := fun σ' H' => WB X rest D σ' H' } σ H) : WB X (st :: rest) D σ H := wbP (pss_cons psS pbS) h
theorem wb_one {st : Stmt} (h : WS X st D σ H) : WB X [st] D σ H := wbP (pss_one psS) h
theorem ws_pass {pos : Pos} (h : D.nx σ H) : WS X (.Pass pos) D σ H := wsP ps_pass h
theorem ws_break {pos : Pos} (h : D.bk σ H) : WS X (.Break pos) D σ H := wsP ps_break h
theorem ws_continue {pos : Pos} (h : D.ct σ H) : WS X (.Continue pos) D σ H := wsP ps_continue h
theorem ws_set {i : Nat} {x : Str} {e : Expr} {pos pos' : Pos} (n : Sl X i x) (h : WE X e σ H fun v H1 => D.nx (σ.set i (some v)) H1) (hs : swapsWith e (some (.Name x pos')) pos.line X.env = pure false := by rfl) : WS X (.Assign [.Name x pos'] e pos) D σ H :=
  wsP (ps_set n.nd n.at_ n.loc peS hs n.fn) h
theorem ws_ret {e : Expr} {pos : Pos} (h : WE X e σ H D.rt) : WS X (.Return (some e) pos) D σ H := wsP (ps_ret peS) h
theorem ws_retN {pos : Pos} (h : D.rt .non H) : WS X (.Return none pos) D σ H := wsP ps_retN h
theorem ws_if {c : Expr} {a b : List Stmt} {pos : Pos} (h : WT X c σ H fun k H1 => if k = true then WB X a D σ H1 else WB X b D σ H1) : WS X (.If c a b pos) D σ H := wsP (ps_if ptS pbS pbS) h
theorem ws_expr {e : Expr} {pos : Pos} (h : WE X e σ H fun _ H1 => D.nx σ H1) (hs : swapsWith e none pos.line X.env = pure false := by rfl) : WS X (.Expr e pos) D σ H := wsP (ps_expr peS hs) h
theorem ws_while {c : Expr} {body : List Stmt} {pos : Pos} (hp : PassesOwn (model X.prog X.w) X.A X.env X.xe) (h : tWhile (WT X c) (WB X body) D σ H) : WS X (.While c body [] pos) D σ H := wsP (ps_while hp ptS pbS) h
theorem ws_never {st : Stmt} (h : False) : WS X st D σ H := h.elim

/-! ### what runs around a body -/
theorem Body.pass {k : Nat} {E : XK} (B : Body X k fun _ => E) : Passes (RX X.prog X.w) X E := L2N.passes_call B.tk fun _ _ _ _ h => h
/-- what may leave a call whose exceptions are taken at these slots -/
theorem out_at {CX : CXT} {E : XK} {pins : List (Addr × Obj)} {s : Shared} (hx : PassesAt CX X σ E) (I : Inv X pins σ H s) : ∀ (o : Result) (t : Shared), CR CX X.stack X.prog X.w H s Q E o t → (match o with | .ok (.ret v) => EP X pins σ Q v t | .ok _ => False | .error e => X.xe e t)
  | .ok (.ret _), _, q => I.after q
  | .ok .next, _, q => q
  | .ok .brk, _, q => q
  | .ok .cont, _, q => q
  | .error _, _, q => hx _ _ _ _ _ I q
theorem go_at {CX : CXT} {k : Nat} {f : Addr} {sp : Sp} {E : XK} {pins : List (Addr × Obj)} {s : Shared} {us : List Value} {vs : List V} (F : FnR X.prog X.w X.K X.mg X.base CX k f sp) (hr : Room k X.A) (hx : PassesAt CX X σ E) (I : Inv X pins σ H s) (r : Vals vs us) (h : sp vs H Q E) :
    wpAny (model X.prog X.w) X.A (call (.ref f) us) (EP X pins σ Q) X.xe s := wpAny_call (codeAny_mono (F _ _ s H us vs Q E hr I.env0 r h) (out_at hx I))
theorem make_at {CX : CXT} {k : Nat} {C f : Addr} {fd : FuncData} {ps : List Str} {ds : List Value} {dvs : List V} {sp : Sp} {E : XK} {pins : List (Addr × Obj)} {s : Shared} {us : List Value} {vs : List V} (M : Mk X.K C f) (F : FnOk X.prog X.w X.K X.mg X.base CX k f fd ps sp) (hr : Room (k + 1) X.A) (hb : Binds X.K fd ps ds) (hd : Vals dvs ds)
    (hx : PassesAt CX X σ E) (I : Inv X pins σ H s) (r : Vals vs us) (h : ∀ a dx, H a = none → H dx = none → dx ≠ a → sp (.ref a :: (vs ++ dvs)) (upd (upd H dx (.own a)) a (.ins C dx [])) (fun v H2 => v = .non ∧ Q (.ref a) H2) E) :
    wpAny (model X.prog X.w) X.A (call (.ref C) us) (EP X pins σ Q) X.xe s := by
  have J := Inv.made (C := C) I
  have hq := h (s.heap.objs.size + 1) s.heap.objs.size (I.hok.fresh (Nat.le_succ _)) (I.hok.fresh (Nat.le_refl _)) (Nat.ne_of_lt (Nat.lt_succ_self _))
  have rr : Vals (V.ref (s.heap.objs.size + 1) :: (vs ++ dvs)) (Value.ref (s.heap.objs.size + 1) :: (us ++ ds)) := .cons rfl (r.append hd)
  have bd := hb _ (Value.ref (s.heap.objs.size + 1) :: us) J.kIn ((F.len _ _ _ _ hq).symm.trans rr.length).symm
  have run := F.run _ X.stack _ _ ⟨Value.ref (s.heap.objs.size + 1) :: us, []⟩ _ _ _ E (hr.make C us []) (J.env0.make C us []) bd rr hq
  refine wpAny_call (make_map (f := f) I.kIn M.makes M.init (beq_iff_eq.mp M.fn) (codeAny_mono run fun o t q => ?_))
  have z := out_at hx J o t q
  cases o with
  | error e => exact z
  | ok fl =>
    cases fl with
    | ret u =>
      obtain ⟨v, H', I3, rv, rfl, q3⟩ := z
      exact ⟨rv, ⟨V.ref (s.heap.objs.size + 1), H', I3, rfl, q3⟩⟩
    | next => exact z.elim
    | brk => exact z.elim
    | cont => exact z.elim
/-- a def of the module -/
def GFn (P : Program) (w : World) (K : PySem.W.Frag) (mg : Str → Option Value) (base : Heap) (k : Nat) (x : Str) (sp : Sp) : Prop :=
  ∃ f, mg x = some (.ref f) ∧ PySem.W.keepIn K (.ref f) = true ∧ FnR P w K mg base (RX P w) k f sp
abbrev Fn (X : Cx) : Nat → Str → Sp → Prop := GFn X.prog X.w X.K X.mg X.base
/-- a class of the module, made by its __init__; dvs: the defaults that fill up -/
def GMk (P : Program) (w : World) (K : PySem.W.Frag) (mg : Str → Option Value) (base : Heap) (k : Nat) (x : Str) (C : Addr) (sp : Sp) (dvs : List V) : Prop :=
  ∃ f fd ps ds, mg x = some (.ref C) ∧ Mk K C f ∧ FnOk P w K mg base (RX P w) k f fd ps sp ∧ Binds K fd ps ds ∧ Vals dvs ds
abbrev Kl (X : Cx) : Nat → Str → Addr → Sp → List V → Prop := GMk X.prog X.w X.K X.mg X.base
/-- a method -/
def GMe (P : Program) (w : World) (K : PySem.W.Frag) (mg : Str → Option Value) (base : Heap) (k : Nat) (C : Addr) (m : Str) (sp : Sp) : Prop :=
  ∃ f, Meth K C m f ∧ FnR P w K mg base (RX P w) k f sp
abbrev Me (X : Cx) : Nat → Addr → Str → Sp → Prop := GMe X.prog X.w X.K X.mg X.base
section
variable {k j : Nat} {E : L2.St → XK} {x m : Str} {sp : Sp} {p pos apos : Pos} {e o : Expr} {es : List Expr} {C : Addr}
theorem we_call (B : Body X k E) (g : Gn X x) (f : Fn X j x sp) (hj : j ≤ k) (h : WA X (e :: es) σ H fun vs H1 => sp vs H1 Q (E σ))
    (hs : starEach (e :: es) X.env = (false, eval e X.env) :: starEach es X.env := by rfl) (hl : (backTo pos (starEach es X.env)).any (·.1) = false := by rfl) : WE X (.Call (.Name x p) (e :: es) [] pos) σ H Q := by
  obtain ⟨a, hm, hk, F⟩ := f
  intro pins s I
  refine wpAny_Call_Name_kw (ld_glob I g.gl hm ?_ g.d1)
  refine PySem.W.callWith_K (h₀ := X.base) I.ok.mod.kin hk (thn (h pos pins s I) fun us s1 z => ?_) hs hl
  obtain ⟨vs, H1, I1, r, q⟩ := z
  exact ⟨I1.kIn, go_at F (B.room.mono hj) (B.at σ) I1 r q⟩
theorem we_call0 (B : Body X k E) (g : Gn X x) (f : Fn X j x sp) (hj : j ≤ k) (h : sp [] H Q (E σ)) : WE X (.Call (.Name x p) [] [] pos) σ H Q := by
  obtain ⟨a, hm, hk, F⟩ := f
  intro pins s I
  refine wpAny_Call_Name_kw (ld_glob I g.gl hm ?_ g.d1)
  exact PySem.W.callWith_K0 I.kIn hk (go_at (us := []) F (B.room.mono hj) (B.at σ) I .nil h)
/-- what runs when an own def is called by a built-in way (an operator, a property) -/
theorem run_own {E : XK} {f : Addr} {pins : List (Addr × Obj)} {s : Shared} {vs : List V} {us : List Value} (B : Body X k fun _ => E) (F : FnR X.prog X.w X.K X.mg X.base (RX X.prog X.w) j f sp) (hj : j ≤ k) (I : Inv X pins σ H s) (r : Vals vs us) (h : sp vs H Q E) :
    wpAny (model X.prog X.w) X.A (call (.ref f) us) (EP X pins σ Q) X.xe s := wpAny_call (run_fnR F (B.room.mono hj) B.pass I r h)
theorem we_make {dvs : List V} (B : Body X k E) (g : Gn X x) (f : Kl X j x C sp dvs) (hj : j + 1 ≤ k) (h : WA X (e :: es) σ H fun vs H1 => ∀ a dx, H1 a = none → H1 dx = none → dx ≠ a →
      sp (.ref a :: (vs ++ dvs)) (upd (upd H1 dx (.own a)) a (.ins C dx [])) (fun v H2 => v = .non ∧ Q (.ref a) H2) (E σ))
    (hs : starEach (e :: es) X.env = (false, eval e X.env) :: starEach es X.env := by rfl) (hl : (backTo pos (starEach es X.env)).any (·.1) = false := by rfl) : WE X (.Call (.Name x p) (e :: es) [] pos) σ H Q := by
  obtain ⟨fi, fd, ps, ds, hm, M, F, hb, hd⟩ := f
  intro pins s I
  refine wpAny_Call_Name_kw (ld_glob I g.gl hm ?_ g.d1)
  refine PySem.W.callWith_K (h₀ := X.base) I.ok.mod.kin M.kp (thn (h pos pins s I) fun us s1 z => ?_) hs hl
  obtain ⟨vs, H1, I1, r, q⟩ := z
  exact ⟨I1.kIn, make_at M F (B.room.mono hj) hb hd (B.at σ) I1 r q⟩
theorem we_meth {pl : Sem Bool} (B : Body X k E) (c : Cls X.K C) (f : Me X j C m sp) (hj : j ≤ k)
    (h : WE X o σ H fun y H1 => ∃ a dx fs, y = .ref a ∧ H1 a = some (.ins C dx fs) ∧ fs.lookup m = none ∧ WA X (e :: es) σ H1 fun vs H2 => sp (.ref a :: vs) H2 Q (E σ))
    (hs : starEach (e :: es) X.env = (false, eval e X.env) :: starEach es X.env := by rfl) (hl : (backTo pos (starEach es X.env)).any (·.1) = false := by rfl)
    (ht : eval (.Call (.Attribute o m apos) (e :: es) [] pos) X.env = (do
      let it ← eval o X.env
      standAt apos.atName
      let (g, first) ← holding [it] (getMethod it m pl)
      callWith pos g first (backTo pos (starEach (e :: es) X.env)) (backToKw pos (keywordEach [] X.env))) := by rfl) : WE X (.Call (.Attribute o m apos) (e :: es) [] pos) σ H Q := by
  obtain ⟨g, hm, F⟩ := f
  intro pins s I
  refine PySem.W.methodCall_KW (pl := pl) (thn (h pins s I) fun u s1 z => ?_) ht
  obtain ⟨y, H1, I1, ry, a, dx, fs, rfl, e1, l, q⟩ := z
  cases ry
  refine getmeth_ok I1 e1 c hm l ?_
  refine PySem.W.callWith_K (first := [.ref a]) (h₀ := X.base) I.ok.mod.kin hm.kp (thn (q pos pins s1 I1) fun us s2 z => ?_) hs hl
  obtain ⟨vs, H2, I2, r, q2⟩ := z
  exact ⟨I2.kIn, go_at (us := .ref a :: us) (vs := .ref a :: vs) F (B.room.mono hj) (B.at σ) I2 (.cons rfl r) q2⟩
end
end
end Rs

namespace Rs
open PySem PySem.Spec PyProof.Rows L2

/-! ### what stays: all objects but the law's source of draws, which stays a source -/
theorem Good.mono {H H' : Hp} {o : HO} (x : Ex H H') (g : Good H o) : Good H' o := by
  rcases g with g | ⟨l, C, dx, fs, rest, e, h⟩
  · exact .inl g
  · exact .inr ⟨l, C, dx, fs, rest, e, x.keep _ _ h not_src_ins⟩
theorem Ex.refl (H : Hp) : Ex H H := ⟨fun _ _ h _ => h, fun _ _ o h s => ⟨o, h, s⟩⟩
theorem Ex.trans {H H1 H2 : Hp} (x : Ex H H1) (y : Ex H1 H2) : Ex H H2 := ⟨fun a o h g => y.kp a o (x.kp a o h g) (g.mono x), fun a l o h s => by
  obtain ⟨o1, h1, s1⟩ := x.src a l o h s
  exact y.src a l o1 h1 s1⟩
theorem Ex.new {H : Hp} {p : Addr} {o : HO} (hp : H p = none) : Ex H (upd H p o) :=
  ⟨fun a u h _ => (upd_ne (ne_of_none h hp)).trans h, fun a l u h s => ⟨u, (upd_ne (ne_of_none h hp)).trans h, s⟩⟩
/-- an object that H does not know is stored to -/
theorem Ex.put {H H' : Hp} {p : Addr} {o : HO} (x : Ex H H') (hp : H p = none) : Ex H (upd H' p o) :=
  ⟨fun a u h g => (upd_ne (ne_of_none h hp)).trans (x.kp a u h g), fun a l u h s => by
    obtain ⟨o1, h1, s1⟩ := x.src a l u h s
    exact ⟨o1, (upd_ne (ne_of_none h hp)).trans h1, s1⟩⟩
theorem Ex.new2 {H : Hp} {p dx : Addr} {o u : HO} (hp : H p = none) (hd : H dx = none) : Ex H (upd (upd H dx u) p o) := (Ex.new hd).put hp
theorem Ex.made {H : Hp} {p dx : Addr} {o u z : HO} (hp : H p = none) (hd : H dx = none) : Ex H (upd (upd (upd H dx u) p o) p z) := (Ex.new2 hp hd).put hp
theorem Ex.src' {H : Hp} {a l : Addr} {o o' : HO} (hl : ∀ C dx fs, H l ≠ some (.ins C dx fs)) (h : H a = some o) (s : SrcL l o) (s' : SrcL l o') : Ex H (upd H a o') := by
  refine ⟨fun b u hb n => ?_, fun b m u hb t => ?_⟩
  · by_cases e : b = a
    · subst e
      rw [h] at hb
      cases hb
      rcases n with n | ⟨l2, C, dx, fs, rest, e2, h2⟩
      · exact absurd ⟨l, s⟩ n
      · obtain ⟨i, c, r, e1, _⟩ := s
        have e3 := e1.symm.trans e2
        injection e3 with e4
        injection e4 with e5
        injection e5 with e6
        subst e6
        exact absurd h2 (hl _ _ _)
    · exact (upd_ne e).trans hb
  · by_cases e : b = a
    · subst e
      rw [h] at hb
      cases hb
      refine ⟨o', upd_same, ?_⟩
      obtain ⟨i, c, r, e1, _⟩ := s
      obtain ⟨i2, c2, r2, e2, _⟩ := t
      have e3 := e1.symm.trans e2
      injection e3 with e4
      injection e4 with e5
      injection e5 with e6
      subst e6
      exact s'
    · exact ⟨u, (upd_ne e).trans hb, t⟩
theorem not_src_own {a : Addr} : ¬ Src (.own a) := by
  rintro ⟨l, i, b, r, e, _⟩
  cases e
theorem not_src_ints {ns : List Int} : ¬ Src (.lst (ns.map V.int)) := by
  rintro ⟨l, i, b, r, e, _⟩
  cases ns with
  | nil => cases e
  | cons n ns =>
    injection e with e
    injection e with e1 _
    cases e1
theorem Ret.now {H : Hp} {R : V → Hp → Prop} {Q : VK} {v : V} (k : Ret H R Q) (r : R v H) : Q v H := k v H (Ex.refl H) r
theorem Ret.mono {H H' : Hp} {R : V → Hp → Prop} {Q : VK} (k : Ret H R Q) (x : Ex H H') : Ret H' R Q := fun v H2 y r => k v H2 (x.trans y) r

/-! ### times -/
/-- the fields of the time q -/
def tfs (q : Rat) : List (Str × V) := [(("over_line" : Str), .int q.num), (("under_line" : Str), .int q.den)]
/-- v is an instance of the class at C that is the time q -/
def TimeV (C : Addr) (q : Rat) (v : V) (H : Hp) : Prop := ∃ p dx, v = .ref p ∧ H p = some (.ins C dx (tfs q))
theorem TimeV.mono {C : Addr} {q : Rat} {v : V} {H H' : Hp} (x : Ex H H') (h : TimeV C q v H) : TimeV C q v H' := by
  obtain ⟨p, dx, e, h⟩ := h
  exact ⟨p, dx, e, x.ins h⟩
end Rs

namespace Rs
open PySem PySem.Spec PyProof.Rows L2
open AutoSeq1 (wpAny_loadPart')

/-! ### an int beside an object of an own class: the int's own slots decline -/
section
variable (i : Int) (t : Tok) (x : Addr) (ox : Obj)
theorem decl_add : Meets (Builtin.«int.__add__» ⟨[.int i t, .ref x], []⟩) (DeclS x ox) := .of_wp fun prog w A R s q => by
  obtain ⟨hp, g, d, tk, os⟩ := s
  obtain ⟨e1, e2, z⟩ := q
  wp_walk using wpAny_loadPart' e1, wpAny_load e1
  rw [e2]
  wp_walk
  exact ⟨_, rfl, z⟩
theorem decl_sub : Meets (Builtin.«int.__sub__» ⟨[.int i t, .ref x], []⟩) (DeclS x ox) := .of_wp fun prog w A R s q => by
  obtain ⟨hp, g, d, tk, os⟩ := s
  obtain ⟨e1, e2, z⟩ := q
  wp_walk using wpAny_loadPart' e1, wpAny_load e1
  rw [e2]
  wp_walk
  exact ⟨_, rfl, z⟩
theorem decl_mul : Meets (Builtin.«int.__mul__» ⟨[.int i t, .ref x], []⟩) (DeclS x ox) := .of_wp fun prog w A R s q => by
  obtain ⟨hp, g, d, tk, os⟩ := s
  obtain ⟨e1, e2, z⟩ := q
  wp_walk using wpAny_loadPart' e1, wpAny_load e1
  rw [e2]
  wp_walk
  exact ⟨_, rfl, z⟩
theorem decl_eq : Meets (Builtin.«int.__eq__» ⟨[.int i t, .ref x], []⟩) (DeclS x ox) := .of_wp fun prog w A R s q => by
  obtain ⟨hp, g, d, tk, os⟩ := s
  obtain ⟨e1, e2, z⟩ := q
  wp_walk using wpAny_loadPart' e1, wpAny_load e1
  rw [e2]
  wp_walk
  exact ⟨_, rfl, z⟩
theorem decl_lt : Meets (Builtin.«int.__lt__» ⟨[.int i t, .ref x], []⟩) (DeclS x ox) := .of_wp fun prog w A R s q => by
  obtain ⟨hp, g, d, tk, os⟩ := s
  obtain ⟨e1, e2, z⟩ := q
  wp_walk using wpAny_loadPart' e1, wpAny_load e1
  rw [e2]
  wp_walk
  exact ⟨_, rfl, z⟩
theorem decl_le : Meets (Builtin.«int.__le__» ⟨[.int i t, .ref x], []⟩) (DeclS x ox) := .of_wp fun prog w A R s q => by
  obtain ⟨hp, g, d, tk, os⟩ := s
  obtain ⟨e1, e2, z⟩ := q
  wp_walk using wpAny_loadPart' e1, wpAny_load e1
  rw [e2]
  wp_walk
  exact ⟨_, rfl, z⟩
theorem decl_gt : Meets (Builtin.«int.__gt__» ⟨[.int i t, .ref x], []⟩) (DeclS x ox) := .of_wp fun prog w A R s q => by
  obtain ⟨hp, g, d, tk, os⟩ := s
  obtain ⟨e1, e2, z⟩ := q
  wp_walk using wpAny_loadPart' e1, wpAny_load e1
  rw [e2]
  wp_walk
  exact ⟨_, rfl, z⟩
theorem decl_ge : Meets (Builtin.«int.__ge__» ⟨[.int i t, .ref x], []⟩) (DeclS x ox) := .of_wp fun prog w A R s q => by
  obtain ⟨hp, g, d, tk, os⟩ := s
  obtain ⟨e1, e2, z⟩ := q
  wp_walk using wpAny_loadPart' e1, wpAny_load e1
  rw [e2]
  wp_walk
  exact ⟨_, rfl, z⟩
end
/-- the int's own def for op declines -/
structure IntDecl (nm : Str) : Prop where
  ex : ∃ id B, Slot "int" nm id ∧ entryFor table id = some B ∧ (∀ a b, argsOk id ⟨[a, b], []⟩) ∧ ∀ i t x ox, Meets (B ⟨[.int i t, .ref x], []⟩) (DeclS x ox)
theorem idecl_add : IntDecl (dunder "add") := ⟨_, _, PySem.F.slot_int_add, PySem.F.entry_int_add, PySem.F.args_int_add_2, decl_add⟩
theorem idecl_sub : IntDecl (dunder "sub") := ⟨_, _, PySem.F.slot_int_sub, PySem.F.entry_int_sub, PySem.F.args_int_sub_2, decl_sub⟩
theorem idecl_mul : IntDecl (dunder "mul") := ⟨_, _, PySem.F.slot_int_mul, PySem.F.entry_int_mul, PySem.F.args_int_mul_2, decl_mul⟩
theorem idecl_eq : IntDecl (cmpInfo .Eq).2.1 := ⟨_, _, PySem.F.slot_int_eq, PySem.F.entry_int_eq, PySem.F.args_int_eq_2, decl_eq⟩
theorem idecl_lt : IntDecl (cmpInfo .Lt).2.1 := ⟨_, _, PySem.F.slot_int_lt, PySem.F.entry_int_lt, PySem.F.args_int_lt_2, decl_lt⟩
theorem idecl_le : IntDecl (cmpInfo .LtE).2.1 := ⟨_, _, PySem.F.slot_int_le, PySem.F.entry_int_le, PySem.F.args_int_le_2, decl_le⟩
theorem idecl_gt : IntDecl (cmpInfo .Gt).2.1 := ⟨_, _, PySem.F.slot_int_gt, PySem.F.entry_int_gt, PySem.F.args_int_gt_2, decl_gt⟩
theorem idecl_ge : IntDecl (cmpInfo .GtE).2.1 := ⟨_, _, PySem.F.slot_int_ge, PySem.F.entry_int_ge, PySem.F.args_int_ge_2, decl_ge⟩

/-! ### operators of an own class -/
/-- the class at C has op at f (its reflected form, if any, is a def too); no int is one of its instances -/
structure BinOwn (K : PySem.W.Frag) (C f : Addr) (op : Operator) : Prop where
  sf : PySem.W.selfFirst K C = true
  at_ : PySem.W.findIn K (.ref C) (PySem.dunder op.info.2) = some (some (.ref f))
  fn : PySem.W.isFn K (.ref f) = true
  rc : ∃ rc, PySem.W.findIn K (.ref C) (dunderR op.info.2) = some rc ∧ (rc = none ∨ ∃ g : Addr, rc = some (.ref g))
  it : ∃ fo ro, PySem.W.findIn K (.type "int") (PySem.dunder op.info.2) = some fo ∧ PySem.W.findIn K (.type "int") (dunderR op.info.2) = some ro
  sub : PySem.W.subIn K (.type "int") (.ref C) = some false
/-- .. the reflected form at g -/
structure BinRef (K : PySem.W.Frag) (C g : Addr) (op : Operator) : Prop where
  sf : PySem.W.selfFirst K C = true
  fl : ∃ f : Addr, PySem.W.findIn K (.ref C) (PySem.dunder op.info.2) = some (some (.ref f))
  at_ : PySem.W.findIn K (.ref C) (dunderR op.info.2) = some (some (.ref g))
  fn : PySem.W.isFn K (.ref g) = true
  sub : PySem.W.subIn K (.ref C) (.type "int") = some false
structure CmpOwn (K : PySem.W.Frag) (C f : Addr) (op : CmpOp) : Prop where
  at_ : PySem.W.findIn K (.ref C) (cmpInfo op).2.1 = some (some (.ref f))
  fn : PySem.W.isFn K (.ref f) = true
  nfi : PySem.W.notFirst K C (.type "int") = true
structure CmpRef (K : PySem.W.Frag) (C g : Addr) (op : CmpOp) : Prop where
  at_ : PySem.W.findIn K (.ref C) (cmpInfo op).2.2 = some (some (.ref g))
  fn : PySem.W.isFn K (.ref g) = true
  sub : PySem.W.subIn K (.ref C) (.type "int") = some false
section
variable {X : Cx} {k j : Nat} {E : XK} {sp : Sp} {C f g a b dx dy : Addr} {fs gs : List (Str × V)} {H : Hp} {Q : VK} {op : Operator} {i : Int}
/-- o op o', one class -/
theorem bin_tt (B : Body X k fun _ => E) (c : BinOwn X.K C f op) (F : FnR X.prog X.w X.K X.mg X.base (RX X.prog X.w) j f sp) (hj : j ≤ k) (ea : H a = some (.ins C dx fs)) (eb : H b = some (.ins C dy gs)) (h : sp [.ref a, .ref b] H Q E) :
    Op2 X (binaryOp op) (.ref a) (.ref b) H Q := by
  intro pins s σ u v I ru rv
  cases ru
  cases rv
  obtain ⟨od, J⟩ := inst_of I ea
  obtain ⟨od', J'⟩ := inst_of I eb
  obtain ⟨m, hF⟩ := I.fr
  exact PySem.W.binop_K hF I.ok.mod.kin J J'.type c.sf c.at_ c.fn (back (run_own (vs := [.ref a, .ref b]) B F hj I (.cons rfl (.cons rfl .nil)) h))
/-- o op int -/
theorem bin_ti (B : Body X k fun _ => E) (c : BinOwn X.K C f op) (F : FnR X.prog X.w X.K X.mg X.base (RX X.prog X.w) j f sp) (hj : j ≤ k) (ea : H a = some (.ins C dx fs)) (h : sp [.ref a, .int i] H Q E) : Op2 X (binaryOp op) (.ref a) (.int i) H Q := by
  intro pins s σ u v I ru rv
  cases ru
  obtain ⟨t, rfl⟩ := rv
  obtain ⟨od, J⟩ := inst_of I ea
  obtain ⟨m, hF⟩ := I.fr
  obtain ⟨rc, h1, h2⟩ := c.rc
  obtain ⟨fo, ro, h3, h4⟩ := c.it
  exact PySem.W.ksp_binT (T := "int") hF I.ok.mod.kin J rfl c.sf c.at_ c.fn h1 h2 h3 h4 c.sub (back (run_own (vs := [.ref a, .int i]) B F hj I (.cons rfl (.cons ⟨t, rfl⟩ .nil)) h))
/-- what int op o comes to, by what o's reflected def does -/
theorem int_left {prog : Program} {w : World} {A : Around} {R : Value → Shared → Prop} {P : Value → Shared → Prop} {s : Shared} {K : PySem.W.Frag} {x : Addr} {ox : Obj} {od : Option Obj} {t : Tok} (KX : K.In s.heap) (J : PySem.W.InstAt s.heap x ox C od) (hd : ox.data = .plain)
    (c : BinRef K C g op) (hf : fillsNumberSlot (.type "int") op.info.2 = pure true) (d : IntDecl (dunder op.info.2)) (h : wpAny (model prog w) A (call (.ref g) [.ref x, .int i t]) (PySem.W.CmpBack P) R s) : wpAny (model prog w) A (binaryOp op (.int i t) (.ref x)) P R s := by
  obtain ⟨cd, rest, hcd, hm⟩ := PySem.W.ksp_first c.sf
  obtain ⟨fl, hfl⟩ := c.fl
  obtain ⟨id, Bi, sl, en, ar, dc⟩ := d.ex
  have cat := c.at_
  rcases hi : op.info with ⟨sym, nm⟩
  rw [hi] at hf sl hfl cat
  dsimp only at hf sl hfl cat
  have l1 : s.TypeIs (.int i t) "int" := typeIs_int _ _ _
  have l2 : PySem.W.Looks (model prog w) s.heap (typeOf (.ref x)) (.ref C) := J.type
  have l3 : PySem.W.Looks (model prog w) s.heap (fillsNumberSlot (.ref C) nm) true := PySem.W.fills_K KX hcd hm hfl
  have l4 : PySem.W.Looks (model prog w) s.heap (isSubtype (.ref C) (.type "int")) false := PySem.W.looks_subIn KX c.sub
  have ne : (Value.type "int" == Value.ref C) = false := Bool.eq_false_iff.mpr fun q => by cases beq_iff_eq.mp q
  have dcl : wpAny (model prog w) A (call (.builtin id) [.int i t, .ref x]) (fun v s' => v = .notImplemented ∧ s' = s) R s := call_meets sl l1 en (ar _ _) (dc i t x ox) ⟨J.at_, hd, rfl, rfl⟩
  have oth : wpAny (model prog w) A (tryMethod (.ref x) (dunderR nm) (.int i t)) (fun r s' => ∃ v, r = some v ∧ P v s') R s := PySem.W.ksp_try KX J cat c.fn h
  have py : numberSlotInPython (.type "int") nm = pure false := rfl
  simp only [binaryOp, hi]
  refine wpAny_holding (wpAny_bind ?_)
  unfold binaryOp1
  refine wpAny_bind (wpAny_typeOf l1 (wpAny_bind (l2.here (wpAny_bind (wpAny_of_eq hf ?_)))))
  simp only [ne, Bool.false_eq_true, if_false]
  refine wpAny_bind (l3.here ?_)
  simp only [Bool.and_self, if_true]
  refine wpAny_bind (l4.here ?_)
  simp only [Bool.false_eq_true, if_false, pure_bind, Bool.not_false, Bool.and_self, if_true, py]
  refine wpAny_bind (m := tryMethod (.int i t) _ (.ref x)) (wpAny_tryMethod_declines l1 sl (wpAny_mono dcl (fun v s1 z => ⟨z.1, ?_⟩) fun _ _ z => z))
  obtain ⟨_, rfl⟩ := z
  refine wpAny_bind (wpAny_mono oth (fun r s2 z => ?_) fun _ _ z => z)
  obtain ⟨v, rfl, q⟩ := z
  exact wpAny_bind (wpAny_rule (wpAny_pure (wpAny_pure q)))
theorem bin_it (B : Body X k fun _ => E) (c : BinRef X.K C g op) (hf : fillsNumberSlot (.type "int") op.info.2 = pure true) (d : IntDecl (dunder op.info.2)) (F : FnR X.prog X.w X.K X.mg X.base (RX X.prog X.w) j g sp) (hj : j ≤ k) (ea : H a = some (.ins C dx fs))
    (h : sp [.ref a, .int i] H Q E) : Op2 X (binaryOp op) (.int i) (.ref a) H Q := by
  intro pins s σ u v I ru rv
  cases rv
  obtain ⟨t, rfl⟩ := ru
  obtain ⟨od, J⟩ := inst_of I ea
  exact int_left I.kIn J rfl c hf d (back (run_own (vs := [.ref a, .int i]) B F hj I (.cons rfl (.cons ⟨t, rfl⟩ .nil)) h))
end
end Rs

namespace Rs
open PySem PySem.Spec PyProof.Rows L2

section
variable {X : Cx} {k j : Nat} {E : XK} {sp : Sp} {C f g a b dx dy : Addr} {fs gs : List (Str × V)} {H : Hp} {Q : VK} {op : Operator} {cop : CmpOp} {i : Int}

/-! ### comparisons of an own class -/
def Rich (op : CmpOp) : Prop := ∀ a b, compareOp op a b = richCompare op a b
theorem rich_eq : Rich .Eq := fun _ _ => rfl
theorem rich_ne : Rich .NotEq := fun _ _ => rfl
theorem rich_lt : Rich .Lt := fun _ _ => rfl
theorem rich_le : Rich .LtE := fun _ _ => rfl
theorem rich_gt : Rich .Gt := fun _ _ => rfl
theorem rich_ge : Rich .GtE := fun _ _ => rfl
theorem cmp_tt (B : Body X k fun _ => E) (r : Rich cop) (c : CmpOwn X.K C f cop) (F : FnR X.prog X.w X.K X.mg X.base (RX X.prog X.w) j f sp) (hj : j ≤ k) (ea : H a = some (.ins C dx fs)) (eb : H b = some (.ins C dy gs)) (h : sp [.ref a, .ref b] H Q E) :
    Op2 X (compareOp cop) (.ref a) (.ref b) H Q := by
  intro pins s σ u v I ru rv
  cases ru
  cases rv
  obtain ⟨od, J⟩ := inst_of I ea
  obtain ⟨od', J'⟩ := inst_of I eb
  obtain ⟨m, hF⟩ := I.fr
  rw [r]
  exact PySem.W.cmp_K (op := cop) (tb := .ref C) B.room.units0 hF I.ok.mod.kin J J'.type (by unfold PySem.W.notFirst; simp) c.at_ c.fn (back (run_own (vs := [.ref a, .ref b]) B F hj I (.cons rfl (.cons rfl .nil)) h))
theorem cmp_ti (B : Body X k fun _ => E) (r : Rich cop) (c : CmpOwn X.K C f cop) (F : FnR X.prog X.w X.K X.mg X.base (RX X.prog X.w) j f sp) (hj : j ≤ k) (ea : H a = some (.ins C dx fs)) (h : sp [.ref a, .int i] H Q E) : Op2 X (compareOp cop) (.ref a) (.int i) H Q := by
  intro pins s σ u v I ru rv
  cases ru
  obtain ⟨t, rfl⟩ := rv
  obtain ⟨od, J⟩ := inst_of I ea
  obtain ⟨m, hF⟩ := I.fr
  rw [r]
  exact PySem.W.cmp_K (op := cop) (tb := .type "int") B.room.units0 hF I.ok.mod.kin J (PySem.W.Looks.of_pure rfl) c.nfi c.at_ c.fn (back (run_own (vs := [.ref a, .int i]) B F hj I (.cons rfl (.cons ⟨t, rfl⟩ .nil)) h))
theorem int_cmp {prog : Program} {w : World} {A : Around} {R : Value → Shared → Prop} {P : Value → Shared → Prop} {s : Shared} {K : PySem.W.Frag} {x : Addr} {ox : Obj} {od : Option Obj} {t : Tok} (hu : A.units < cLine) (KX : K.In s.heap) (J : PySem.W.InstAt s.heap x ox C od)
    (hd : ox.data = .plain) (c : CmpRef K C g cop) (d : IntDecl (cmpInfo cop).2.1) (h : wpAny (model prog w) A (call (.ref g) [.ref x, .int i t]) (PySem.W.CmpBack P) R s) : wpAny (model prog w) A (richCompare cop (.int i t) (.ref x)) P R s := by
  obtain ⟨id, Bi, sl, en, ar, dc⟩ := d.ex
  have cat := c.at_
  rcases hi : cmpInfo cop with ⟨sym, n1, n2⟩
  rw [hi] at sl cat
  dsimp only at sl cat
  have l1 : s.TypeIs (.int i t) "int" := typeIs_int _ _ _
  have l2 : PySem.W.Looks (model prog w) s.heap (typeOf (.ref x)) (.ref C) := J.type
  have l4 : PySem.W.Looks (model prog w) s.heap (isSubtype (.ref C) (.type "int")) false := PySem.W.looks_subIn KX c.sub
  have ne : (Value.type "int" != Value.ref C) = true := by simp
  have dcl : wpAny (model prog w) A (call (.builtin id) [.int i t, .ref x]) (fun v s' => v = .notImplemented ∧ s' = s) R s := call_meets sl l1 en (ar _ _) (dc i t x ox) ⟨J.at_, hd, rfl, rfl⟩
  have oth : wpAny (model prog w) A (tryCompare (.ref x) n2 (.int i t)) (fun r s' => ∃ v, r = some v ∧ P v s') R s := by
    unfold tryCompare
    refine wpAny_bind (PySem.W.ifBound_K KX J cat c.fn (wpAny_mono h (fun v s' hv => ?_) fun _ _ z => z))
    cases v <;> first | exact hv.elim | exact wpAny_pure ⟨_, rfl, hv⟩
  simp only [richCompare, hi, l1.oneThing_none]
  refine wpAny_holding (wpAny_bind (wpAny_cRoomFor hu ?_))
  refine wpAny_bind (wpAny_typeOf l1 (wpAny_bind (l2.here ?_)))
  simp only [ne, if_true]
  refine wpAny_bind (l4.here ?_)
  simp only [Bool.false_eq_true, if_false, Bool.not_false, if_true]
  refine wpAny_bind (m := tryCompare (.int i t) _ (.ref x)) (wpAny_tryCompare_declines l1 sl (wpAny_mono dcl (fun v s1 z => ⟨z.1, ?_⟩) fun _ _ z => z))
  obtain ⟨_, rfl⟩ := z
  refine wpAny_bind (m := tryCompare (.ref x) _ (.int i t)) (wpAny_mono oth (fun r s2 z => ?_) fun _ _ z => z)
  obtain ⟨v, rfl, q⟩ := z
  exact wpAny_pure q
theorem cmp_it (B : Body X k fun _ => E) (r : Rich cop) (c : CmpRef X.K C g cop) (d : IntDecl (cmpInfo cop).2.1) (F : FnR X.prog X.w X.K X.mg X.base (RX X.prog X.w) j g sp) (hj : j ≤ k) (ea : H a = some (.ins C dx fs))
    (h : sp [.ref a, .int i] H Q E) : Op2 X (compareOp cop) (.int i) (.ref a) H Q := by
  intro pins s σ u v I ru rv
  cases rv
  obtain ⟨t, rfl⟩ := ru
  obtain ⟨od, J⟩ := inst_of I ea
  rw [r]
  exact int_cmp B.room.units0 I.kIn J rfl c d (back (run_own (vs := [.ref a, .int i]) B F hj I (.cons rfl (.cons ⟨t, rfl⟩ .nil)) h))

/-! ### op= of an own class without an in-place form -/
structure NoInpl (K : PySem.W.Frag) (C : Addr) (op : Operator) : Prop where
  mro : ∃ cd, PySem.W.clsIn K C = some cd ∧ cd.mro = [.ref C, .type "object"]
  h1 : PySem.W.findIn K (.ref C) (dunderI op.info.2) = some none
  h2 : PySem.W.findIn K (.type "object") (dunderI op.info.2) = some none
theorem noFill {M : Model} {h : Heap} {K : PySem.W.Frag} (KX : K.In h) (n : NoInpl K C op) (add : Bool) : PySem.W.Looks M h (fillsInplaceSlot (.ref C) op.info.2 add) false := by
  obtain ⟨cd, hcd, hm⟩ := n.mro
  intro A Q E s kp q
  have l1 := PySem.W.looks_findIn (M := M) KX n.h1
  have l2 := PySem.W.looks_findIn (M := M) KX n.h2
  have lm : PySem.W.Looks M h (mroOf (.ref C)) cd.mro := (PySem.W.looks_clsIn KX hcd).andThen (f := fun cd => pure cd.mro) .now
  unfold fillsInplaceSlot
  refine wpAny_bind (lm A _ E s kp ?_)
  rw [hm, List.anyM_cons]
  refine wpAny_bind (wpAny_bind (l1 A _ E s kp (wpAny_pure ?_)))
  rw [if_neg Bool.false_ne_true, List.anyM_cons]
  refine wpAny_bind (wpAny_bind (l2 A _ E s kp (wpAny_pure ?_)))
  rw [if_neg Bool.false_ne_true, List.anyM_nil]
  exact wpAny_pure q
theorem one_tt {prog : Program} {w : World} {A : Around} {R : Value → Shared → Prop} {P : Value → Shared → Prop} {s : Shared} {K : PySem.W.Frag} {x : Addr} {y : Value} {ox : Obj} {od : Option Obj} (KX : K.In s.heap) (J : PySem.W.InstAt s.heap x ox C od)
    (hy : PySem.W.Looks (model prog w) s.heap (typeOf y) (.ref C)) (c : BinOwn K C f op) (h : wpAny (model prog w) A (call (.ref f) [.ref x, y]) (PySem.W.CmpBack P) R s) :
    wpAny (model prog w) A (binaryOp1 op.info.2 (.ref x) y) (fun r s' => ∃ v, r = some v ∧ P v s') R s := by
  obtain ⟨cd, rest, hcd, hm⟩ := PySem.W.ksp_first c.sf
  have l3 : PySem.W.Looks (model prog w) s.heap (fillsNumberSlot (.ref C) op.info.2) true := PySem.W.fills_K KX hcd hm c.at_
  unfold binaryOp1
  refine wpAny_bind (J.type.here (wpAny_bind (hy.here (wpAny_bind (l3.here ?_)))))
  simp only [beq_self_eq_true, if_true]
  refine wpAny_bind (wpAny_pure ?_)
  simp only [Bool.and_false, Bool.false_eq_true, if_false, Bool.false_and]
  refine wpAny_bind (wpAny_pure ?_)
  simp only [Bool.false_eq_true, if_false]
  refine wpAny_bind (m := tryMethod (.ref x) _ y) (wpAny_mono (PySem.W.ksp_try KX J c.at_ c.fn h) (fun r s' z => ?_) fun _ _ z => z)
  obtain ⟨v, rfl, q⟩ := z
  exact wpAny_pure ⟨v, rfl, q⟩
theorem inp_tt (B : Body X k fun _ => E) (n : NoInpl X.K C op) (c : BinOwn X.K C f op) (F : FnR X.prog X.w X.K X.mg X.base (RX X.prog X.w) j f sp) (hj : j ≤ k) (ea : H a = some (.ins C dx fs)) (eb : H b = some (.ins C dy gs)) (h : sp [.ref a, .ref b] H Q E) :
    Op2 X (inplaceOp op) (.ref a) (.ref b) H Q := by
  intro pins s σ u v I ru rv
  cases ru
  cases rv
  obtain ⟨od, J⟩ := inst_of I ea
  obtain ⟨od', J'⟩ := inst_of I eb
  have one := one_tt I.kIn J J'.type c (back (run_own (vs := [.ref a, .ref b]) B F hj I (.cons rfl (.cons rfl .nil)) h))
  unfold inplaceOp
  refine wpAny_holding (wpAny_bind (J.type.here (wpAny_bind ((noFill I.kIn n _).here ?_))))
  simp only [Bool.false_eq_true, if_false]
  refine wpAny_bind (wpAny_mono one (fun r s' z => ?_) fun _ _ z => z)
  obtain ⟨w', rfl, q⟩ := z
  exact wpAny_pure q
theorem inp_int {f : Value → Value → Sem Value} {y z : Int} (o : OpR X (inplaceOp op) (rI0 fun i j => .int z)) (q : Q (.int z) H) : Op2 X (inplaceOp op) (.int i) (.int y) H Q := op2_of o ⟨i, y, rfl, rfl, q⟩
theorem ws_aug {D : Ends} {σ : L2.St} {i : Nat} {x : Str} {e : Expr} {pos pos' : Pos} {v : V} (n : Sl X i x) (h0 : σ[i]? = some (some v)) (h : WE X e σ H fun y H1 => Op2 X (inplaceOp op) v y H1 fun z H2 => D.nx (σ.set i (some z)) H2) :
    WS X (.AugAssign (.Name x pos') op e pos) D σ H :=
  wsP (ps_aug (ti := fun x y H Q => Op2 X (inplaceOp op) x y H Q) n.nd n.at_ n.loc peS (fun pins s σ H x y v u Q I rx ry q => q pins s σ v u I rx ry) n.fn) ⟨v, h0, h⟩

/-! ### -x of an own class -/
structure NegOwn (K : PySem.W.Frag) (C f : Addr) : Prop where
  at_ : PySem.W.findIn K (.ref C) "__neg__" = some (some (.ref f))
  fn : PySem.W.isFn K (.ref f) = true
theorem neg_t (B : Body X k fun _ => E) (c : NegOwn X.K C f) (F : FnR X.prog X.w X.K X.mg X.base (RX X.prog X.w) j f sp) (hj : j ≤ k) (ea : H a = some (.ins C dx fs)) (h : sp [.ref a] H Q E) : Op1 X (unaryOp .USub) (.ref a) H Q := by
  intro pins s σ u I ru
  cases ru
  obtain ⟨od, J⟩ := inst_of I ea
  obtain ⟨m, hF⟩ := I.fr
  exact PySem.W.ksp_neg hF I.ok.mod.kin J c.at_ c.fn (run_own (vs := [.ref a]) B F hj I (.cons rfl .nil) h)
end
end Rs

namespace Rs
open PySem PySem.Spec PyProof.Rows L2

section
variable {X : Cx} {σ : L2.St} {H : Hp} {D : Ends} {Q Q' : VK} {QT : Bool → Hp → Prop} {QA QA' : List V → Hp → Prop} {k j : Nat} {E : L2.St → XK} {x m : Str} {sp : Sp} {p pos apos : Pos} {e o a b c : Expr} {es : List Expr} {C : Addr}

theorem we_mono (h : WE X e σ H Q) (z : ∀ v H', Q v H' → Q' v H') : WE X e σ H Q' := fun pins s I => thn (h pins s I) fun u s' y => by
  obtain ⟨v, H', I', r, q⟩ := y
  exact ⟨v, H', I', r, z v H' q⟩
theorem wa_mono (h : WA X es σ H QA) (z : ∀ v H', QA v H' → QA' v H') : WA X es σ H QA' := fun pos pins s I => thn (h pos pins s I) fun u s' y => by
  obtain ⟨v, H', I', r, q⟩ := y
  exact ⟨v, H', I', r, z v H' q⟩

/-! ### built-ins by their names -/
theorem we_callB {id : String} {r : List V → Hp → VK → Prop} (hc : CallR X (.builtin id) r) (bn : Bn X x) (hv : bootBuiltins x = some (.builtin id)) (h : WA X (e :: es) σ H fun xs H1 => r xs H1 Q)
    (hn : x ≠ "__name__" := by decide) (hd : (x == ("__debug__" : Str)) = false := by decide) (he : starEach (e :: es) X.env = (false, eval e X.env) :: starEach es X.env := by rfl) (hl : (backTo pos (starEach es X.env)).any (·.1) = false := by rfl) :
    WE X (.Call (.Name x p) (e :: es) [] pos) σ H Q := weP (pe_callB hc bn.gl bn.no hv paS hn hd he hl) h
theorem we_callT {T : String} {r : List V → Hp → VK → Prop} (hc : CallR X (.type T) r) (bn : Bn X x) (hv : bootBuiltins x = some (.type T)) (h : WA X (e :: es) σ H fun xs H1 => r xs H1 Q)
    (hn : x ≠ "__name__" := by decide) (hd : (x == ("__debug__" : Str)) = false := by decide) (he : starEach (e :: es) X.env = (false, eval e X.env) :: starEach es X.env := by rfl) (hl : (backTo pos (starEach es X.env)).any (·.1) = false := by rfl) :
    WE X (.Call (.Name x p) (e :: es) [] pos) σ H Q := weP (pe_callTy hc bn.gl bn.no hv paS hn hd he hl) h
theorem we_ty {T : String} (bn : Bn X x) (hv : bootBuiltins x = some (.type T)) (q : Q (.ty T) H) (hn : x ≠ "__name__" := by decide) (hd : (x == ("__debug__" : Str)) = false := by decide) : WE X (.Name x pos) σ H Q := weP (pe_bltn (v := .ty T) bn.gl bn.no hv rfl hn hd) q
theorem wa_one (h : WE X e σ H fun v H1 => QA [v] H1) (hs : starEach [e] X.env = [(false, eval e X.env)] := by rfl) : WA X [e] σ H QA := wa_cons (we_mono h fun v H1 q => wa_nil q) hs
theorem wa_two (h : WE X a σ H fun v H1 => WE X b σ H1 fun w H2 => QA [v, w] H2) (hs : starEach [a, b] X.env = (false, eval a X.env) :: starEach [b] X.env := by rfl) (ht : starEach [b] X.env = [(false, eval b X.env)] := by rfl) : WA X [a, b] σ H QA :=
  wa_cons (we_mono h fun _ _ q => wa_one q ht) hs
theorem wa_three (h : WE X a σ H fun v H1 => WE X b σ H1 fun w H2 => WE X c σ H2 fun u H3 => QA [v, w, u] H3) (hs : starEach [a, b, c] X.env = (false, eval a X.env) :: starEach [b, c] X.env := by rfl) (ht : starEach [b, c] X.env = (false, eval b X.env) :: starEach [c] X.env := by rfl)
    (hu : starEach [c] X.env = [(false, eval c X.env)] := by rfl) : WA X [a, b, c] σ H QA := wa_cons (we_mono h fun _ _ q => wa_two q ht hu) hs
/-- what isinstance answers -/
def Isi (K : PySem.W.Frag) (x y : V) (H : Hp) (r : Bool) : Prop := ∃ t u, ClsV y u ∧ TyX K H x t ∧ PySem.W.kitOne K t u = some r
theorem we_isi (bn : Bn X "isinstance") (h : WE X a σ H fun v H1 => WE X b σ H1 fun w H2 => ∃ r, Isi X.K v w H2 r ∧ Q (.bl r) H2)
    (hs : starEach [a, b] X.env = (false, eval a X.env) :: starEach [b] X.env := by rfl) (ht : starEach [b] X.env = [(false, eval b X.env)] := by rfl) (hl : (backTo pos (starEach [b] X.env)).any (·.1) = false := by rfl) :
    WE X (.Call (.Name "isinstance" p) [a, b] [] pos) σ H Q :=
  we_callB call_isi bn boot_isinstance (wa_two (we_mono h fun v H1 q => we_mono q fun w H2 q => by
    obtain ⟨r, ⟨t, u, h1, h2, h3⟩, q⟩ := q
    exact ⟨v, w, t, u, r, rfl, h1, h2, h3, q⟩) hs ht) (by decide) (by decide) hs hl
theorem we_abs (bn : Bn X "abs") (h : WE X a σ H fun v H1 => ∃ i, v = .int i ∧ Q (.int (if i < 0 then -i else i)) H1) (hs : starEach [a] X.env = [(false, eval a X.env)] := by rfl) (hl : (backTo pos (starEach [] X.env)).any (·.1) = false := by rfl) :
    WE X (.Call (.Name "abs" p) [a] [] pos) σ H Q := we_callB call_abs bn boot_abs (wa_one (we_mono h fun v H1 q => by
    obtain ⟨i, rfl, q⟩ := q
    exact ⟨i, rfl, q⟩) hs) (by decide) (by decide) hs hl

/-! ### tuples and lists -/
theorem we_tup {k : Nat} (h : WA X es σ H fun vs H1 => vs.length ≤ sizeLine ∧ ∀ p H2, H1 p = none → Ex H1 H2 → H2 = upd H1 p (.tup vs) → Q (.ref p) H2) : WE X (.Tuple es k pos) σ H Q := weP (pe_tup paS) (wa_mono h fun vs H1 q => ⟨q.1, fun p hp => q.2 p _ hp (Ex.new hp) rfl⟩)
theorem we_lst (h : WA X es σ H fun vs H1 => vs.length ≤ sizeLine ∧ ∀ p H2, H1 p = none → Ex H1 H2 → H2 = upd H1 p (.lst vs) → Q (.ref p) H2) : WE X (.List es pos) σ H Q := weP (pe_lst paS) (wa_mono h fun vs H1 q => ⟨q.1, fun p hp => q.2 p _ hp (Ex.new hp) rfl⟩)
/-! ### fields, items -/
theorem we_fld {f : Str} {C : Addr} (c : Cls X.K C) (n : NoAttr X.K C f) (h : WE X e σ H fun y H1 => ∃ a dx fs v, y = .ref a ∧ H1 a = some (.ins C dx fs) ∧ fs.lookup f = some v ∧ Q v H1) (hb : attributeBase e f X.env (eval e X.env) = eval e X.env := by rfl) :
    WE X (.Attribute e f pos) σ H Q := weP (pe_fld peS hb) (we_mono h fun y H1 q => by
  obtain ⟨a, dx, fs, v, rfl, h1, h2, q⟩ := q
  exact ⟨a, C, dx, fs, v, rfl, h1, c, n, h2, q⟩)
theorem ws_fld {f : Str} {C : Addr} {value : Expr} {pos' : Pos} (c : Cls X.K C) (n : NoAttr X.K C f) (h : WE X value σ H fun y H1 => WE X o σ H1 fun z H2 => ∃ a dx fs, z = .ref a ∧ H2 a = some (.ins C dx fs) ∧ fs.length < 1000 ∧ D.nx σ (upd H2 a (.ins C dx (putF f y fs))))
    (hs : swapsWith value (some (.Attribute o f pos')) pos.line X.env = pure false := by rfl) : WS X (.Assign [.Attribute o f pos'] value pos) D σ H := wsP (ps_fld peS peS hs) (we_mono h fun y H1 q => we_mono q fun z H2 q => by
  obtain ⟨a, dx, fs, rfl, h1, h2, q⟩ := q
  exact ⟨a, C, dx, fs, rfl, h1, c, n, h2, q⟩)
theorem we_ix {r : R2} (hr : IxR X r) (h : WE X a σ H fun v H1 => WE X b σ H1 fun w H2 => r v w H2 Q) (hb : PlainIx b := by intro _ _; rfl) : WE X (.Subscript a b pos) σ H Q := weP (pe_ix hr peS peS hb) h
theorem pass0N {X : Cx} : Passes (RX X.prog X.w) X.nox E0 := fun _ _ _ _ _ _ _ c => by
  obtain ⟨_, _, _, _, _, _, _, _, _, _, _, _, z⟩ := c
  exact z.elim
/-- o.f, a property whose getter raises nothing -/
theorem we_prop {f : Str} {C pp g : Addr} {fd : FuncData} {ps : List Str} {ds : List Value} {dvs : List V} (B : Body X k E) (c : Cls X.K C) (hp : PropOf X.K C f pp g) (F : FnOk X.prog X.w X.K X.mg X.base (RX X.prog X.w) j g fd ps sp) (hj : j + 1 ≤ k)
    (hb : Binds X.K fd ps ds) (hd : Vals dvs ds) (h : WE X e σ H fun y H1 => ∃ a dx fs, y = .ref a ∧ H1 a = some (.ins C dx fs) ∧ sp (.ref a :: dvs) H1 Q E0) (he : attributeBase e f X.env (eval e X.env) = eval e X.env := by rfl) : WE X (.Attribute e f pos) σ H Q :=
  weP (pe_prop peS c hp F (B.room.mono hj) hb hd pass0N he) h
/-- a, b = x, y -/
theorem ws_par {i i' : Nat} {x y : Str} {px py pt : Pos} {kt k2 : Nat} {pt2 : Pos} (B : Body X k E) (n : Sl X i x) (n' : Sl X i' y) (hk : X.env.blockKind = .function) (hx : X.env.kindOf x = some .local) (hy : X.env.kindOf y = some .local)
    (h : WE X a σ H fun v H1 => WE X b σ H1 fun w H2 => D.nx ((σ.set i (some v)).set i' (some w)) H2) (hii : i ≠ i' := by decide) (hne : (y == x) = false := by decide) (hl : (py.line == px.line) = true := by rfl)
    (h1 : ([a, b].any fun | .Starred .. => true | _ => false) = false := by rfl) (h2 : [a, b].all (foldedForSure 8) = false := by rfl) (h3 : [a, b].all (constantsAlone 8) = false := by rfl)
    (hs : starEach [a, b] X.env = (false, eval a X.env) :: starEach [b] X.env := by rfl) (ht : starEach [b] X.env = [(false, eval b X.env)] := by rfl) : WS X (.Assign [.Tuple [.Name x px, .Name y py] kt pt] (.Tuple [a, b] k2 pt2) pos) D σ H := by
  have hw : swappedStores [.Tuple [.Name x px, .Name y py] kt pt] (.Tuple [a, b] k2 pt2) X.env = pure (some [x, y]) := by
    have e1 : ([x, y] : List Str).eraseDups.length = 2 := by
      have : ¬ (y == x) = true := by rw [hne]; exact Bool.false_ne_true
      simp [List.eraseDups_cons, hne]
    unfold swappedStores
    simp only [hk, hx, hy, hl, h2, h3, List.length_cons, List.length_nil, List.head?_cons, Option.map_some, Option.getD_some, List.filterMap_cons, List.filterMap_nil, Expr.pos, beq_self_eq_true, Bool.and_self, Bool.and_true, if_true, e1]
    rw [if_neg (by decide)]
    refine (if_neg (fun q => Bool.false_ne_true (h1.symm.trans q))).trans ?_
    rw [if_neg (by decide), if_neg Bool.false_ne_true, if_neg Bool.false_ne_true]
  exact wsP (ps_par B.calm n.nd n.at_ n'.at_ hii hx hy paS hw) (wa_two (we_mono h fun v H1 q => we_mono q fun w H2 q => ⟨v, w, rfl, q⟩) hs ht)
end
end Rs

namespace Rs
open PySem PySem.Spec PyProof.Rows L2

section
variable {X : Cx} {σ : L2.St} {H : Hp} {D : Ends} {Q Q' : VK} {QT QT' : Bool → Hp → Prop} {QA QA' : List V → Hp → Prop} {k j : Nat} {E : L2.St → XK} {x m : Str} {sp : Sp} {p pos apos : Pos} {e o a b c : Expr} {es : List Expr} {C : Addr}

theorem wt_mono (h : WT X e σ H QT) (z : ∀ v H', QT v H' → QT' v H') : WT X e σ H QT' := fun pins s I => thn (h pins s I) fun u s' y => by
  obtain ⟨H', I', q⟩ := y
  exact ⟨H', I', z u H' q⟩
theorem op2_mono {f : Value → Value → Sem Value} {v w : V} (h : Op2 X f v w H Q) (z : ∀ v H', Q v H' → Q' v H') : Op2 X f v w H Q' := fun pins s σ u v I r1 r2 => thn (h pins s σ u v I r1 r2) fun u s' y => by
  obtain ⟨v, H', I', r, q⟩ := y
  exact ⟨v, H', I', r, z v H' q⟩
/-! ### whiles and fors -/
theorem ws_while_by {body : List Stmt} (P : L2.St → Hp → Prop) (μ : L2.St → Hp → Nat) (B : Body X k E) (h0 : P σ H)
    (hs : ∀ σ H, P σ H → WT X c σ H fun r H1 => if r = true then WB X body { D with nx := fun σ' H' => P σ' H' ∧ μ σ' H' < μ σ H, ct := fun σ' H' => P σ' H' ∧ μ σ' H' < μ σ H, bk := D.nx } σ H1 else D.nx σ H1) : WS X (.While c body [] pos) D σ H :=
  ws_while B.po (while_by P μ h0 hs fun _ _ _ _ z h => wt_mono h z)
theorem ws_for_range {i : Nat} {x : Str} {body : List Stmt} {pr pc px : Pos} {n : Int} (B : Body X k E) (s : Sl X i x) (bn : Bn X "range") (P : Nat → L2.St → Hp → Prop)
    (h : WE X a σ H fun v H1 => v = .int n ∧ P 0 σ H1)
    (ht : ∀ j σ H, j < n.toNat → P j σ H → WB X body { D with nx := P (j + 1), ct := P (j + 1), bk := D.nx } (σ.set i (some (.int j))) H) (hd : ∀ σ H, P n.toNat σ H → D.nx σ H) (lo : -1000000000 ≤ n := by decide) (hi : n ≤ 1000000000 := by decide)
    (hs : starEach [a] X.env = [(false, eval a X.env)] := by rfl) : WS X (.For (.Name x px) (.Call (.Name "range" pr) [a] [] pc) body [] pos) D σ H := by
  refine wsP (ps_for B.po B.calm (pi_range1 bn.gl bn.no paS hs) (pg_name s.nd s.at_ s.loc s.fn) pbS) ?_
  refine wa_one (we_mono h fun v H1 q => ?_) hs
  obtain ⟨rfl, q⟩ := q
  refine ⟨n, rfl, by omega, by omega, for_range (lo := 0) P q (fun j σ H hj p => ?_) hd⟩
  have z := ht j σ H hj p
  show WB X body _ (σ.set i (some (.int (0 + (j : Int))))) H
  rw [Int.zero_add]
  exact z
/-- for x in a list that stands still -/
theorem ws_for_list {i : Nat} {x : Str} {body : List Stmt} {px : Pos} {xs : List V} (B : Body X k E) (s : Sl X i x) (P : Nat → L2.St → Hp → Prop)
    (h : WE X a σ H fun v H1 => ∃ l, v = .ref l ∧ P 0 σ H1 ∧ (∀ j σ H, j ≤ xs.length → P j σ H → SqL X.K H l xs))
    (ht : ∀ j v σ H, xs[j]? = some v → P j σ H → WB X body { D with nx := P (j + 1), ct := P (j + 1), bk := D.nx } (σ.set i (some v)) H) (hd : ∀ σ H, P xs.length σ H → D.nx σ H) (hs : ∀ v, foldedSetIterable a X.env v = pure v := by intro _; rfl) : WS X (.For (.Name x px) a body [] pos) D σ H := by
  refine wsP (ps_for B.po B.calm (pi_list peS) (pg_name s.nd s.at_ s.loc s.fn) pbS hs) ?_
  refine we_mono h fun v H1 q => ?_
  obtain ⟨l, rfl, q0, hl⟩ := q
  exact ⟨l, rfl, ⟨xs, hl 0 σ H1 (Nat.zero_le _) q0⟩, for_list P q0 hl ht hd⟩
theorem ws_for_tup {i : Nat} {x : Str} {body : List Stmt} {px : Pos} {xs : List V} (B : Body X k E) (s : Sl X i x) (P : Nat → L2.St → Hp → Prop)
    (h : WE X a σ H fun v H1 => ∃ l, v = .ref l ∧ P 0 σ H1 ∧ (∀ j σ H, j ≤ xs.length → P j σ H → SqT X.K H l xs))
    (ht : ∀ j v σ H, xs[j]? = some v → P j σ H → WB X body { D with nx := P (j + 1), ct := P (j + 1), bk := D.nx } (σ.set i (some v)) H) (hd : ∀ σ H, P xs.length σ H → D.nx σ H) (hs : ∀ v, foldedSetIterable a X.env v = pure v := by intro _; rfl) : WS X (.For (.Name x px) a body [] pos) D σ H := by
  refine wsP (ps_for B.po B.calm (pi_tup peS) (pg_name s.nd s.at_ s.loc s.fn) pbS hs) ?_
  refine we_mono h fun v H1 q => ?_
  obtain ⟨l, rfl, q0, hl⟩ := q
  exact ⟨l, rfl, ⟨xs, hl 0 σ H1 (Nat.zero_le _) q0⟩, for_tup P q0 hl ht hd⟩

/-! ### ints -/
variable {i l : Int}
theorem o_add (q : Q (.int (i + l)) H) : Op2 X (binaryOp .Add) (.int i) (.int l) H Q := op2_of op_add ⟨i, l, rfl, rfl, q⟩
theorem o_sub (q : Q (.int (i - l)) H) : Op2 X (binaryOp .Sub) (.int i) (.int l) H Q := op2_of op_sub ⟨i, l, rfl, rfl, q⟩
theorem o_mul (hc : CMulW i l) (q : Q (.int (i * l)) H) : Op2 X (binaryOp .Mult) (.int i) (.int l) H Q := op2_of op_mulW ⟨i, l, rfl, rfl, hc, q⟩
theorem o_mod (hc : 0 < l) (q : Q (.int (i % l)) H) : Op2 X (binaryOp .Mod) (.int i) (.int l) H Q := op2_of op_mod ⟨i, l, rfl, rfl, hc, q⟩
/-- // by any divisor of less than 9000 bits -/
theorem o_fdiv (hc : l ≠ 0) (hz : l.natAbs.log2 < 9000) (q : Q (.int (i.fdiv l)) H) : Op2 X (binaryOp .FloorDiv) (.int i) (.int l) H Q := by
  intro pins s σ u v I ru rv
  obtain ⟨t, rfl⟩ := ru
  obtain ⟨t', rfl⟩ := rv
  exact floordiv_int hc ⟨.int (i.fdiv l), H, I.tok _, ⟨_, rfl⟩, q⟩ (.inl (PyProof.noPylong_of_log2 hz))
theorem log2_small {n m : Nat} (h : n < 2 ^ m) (hm : 0 < m) (h9 : m ≤ 9000) : n.log2 < 9000 := Nat.lt_of_lt_of_le (PySem.Flt.log2_lt_of hm h) h9
theorem o_pow (hc : CPow i l) (q : Q (.int (i ^ l.toNat)) H) : Op2 X (binaryOp .Pow) (.int i) (.int l) H Q := op2_of op_pow ⟨i, l, rfl, rfl, hc, q⟩
theorem o_lt (q : Q (.bl (decide (i < l))) H) : Op2 X (compareOp .Lt) (.int i) (.int l) H Q := op2_of op_lt ⟨i, l, rfl, rfl, q⟩
theorem o_le (q : Q (.bl (decide (i ≤ l))) H) : Op2 X (compareOp .LtE) (.int i) (.int l) H Q := op2_of op_le ⟨i, l, rfl, rfl, q⟩
theorem o_gt (q : Q (.bl (decide (l < i))) H) : Op2 X (compareOp .Gt) (.int i) (.int l) H Q := op2_of op_gt ⟨i, l, rfl, rfl, q⟩
theorem o_ge (q : Q (.bl (decide (l ≤ i))) H) : Op2 X (compareOp .GtE) (.int i) (.int l) H Q := op2_of op_ge ⟨i, l, rfl, rfl, q⟩
theorem o_eq (q : Q (.bl (decide (i = l))) H) : Op2 X (compareOp .Eq) (.int i) (.int l) H Q := op2_of op_eq ⟨rfl, by rw [show decide (V.int i = V.int l) = decide (i = l) from by simp]; exact q⟩
theorem o_ne (q : Q (.bl (!decide (i = l))) H) : Op2 X (compareOp .NotEq) (.int i) (.int l) H Q := op2_of op_ne ⟨rfl, by rw [show decide (V.int i = V.int l) = decide (i = l) from by simp]; exact q⟩
theorem o_eqB {r t : Bool} (q : Q (.bl (r == t)) H) : Op2 X (compareOp .Eq) (.bl r) (.bl t) H Q := op2_of op_eq ⟨rfl, by rw [show decide (V.bl r = V.bl t) = (r == t) from by cases r <;> cases t <;> rfl]; exact q⟩
theorem o_neB {r t : Bool} (q : Q (.bl (r != t)) H) : Op2 X (compareOp .NotEq) (.bl r) (.bl t) H Q := op2_of op_ne ⟨rfl, by rw [show (!decide (V.bl r = V.bl t)) = (r != t) from by cases r <;> cases t <;> rfl]; exact q⟩
theorem o_eqS {r t : Str} (q : Q (.bl (decide (r = t))) H) : Op2 X (compareOp .Eq) (.str r) (.str t) H Q := op2_of op_eq ⟨rfl, by rw [show decide (V.str r = V.str t) = decide (r = t) from by simp]; exact q⟩
theorem o_neS {r t : Str} (q : Q (.bl (!decide (r = t))) H) : Op2 X (compareOp .NotEq) (.str r) (.str t) H Q := op2_of op_ne ⟨rfl, by rw [show decide (V.str r = V.str t) = decide (r = t) from by simp]; exact q⟩
theorem o_isN {v : V} (q : Q (.bl (decide (v = .non))) H) : Op2 X (compareOp .Is) v .non H Q := op2_of op_isN ⟨rfl, q⟩
theorem o_notN {v : V} (q : Q (.bl (!decide (v = .non))) H) : Op2 X (compareOp .IsNot) v .non H Q := op2_of op_notN ⟨rfl, q⟩
theorem o_neg (q : Q (.int (-i)) H) : Op1 X (unaryOp .USub) (.int i) H Q := op1_of un_neg ⟨i, rfl, q⟩
/-! ### small ends -/
theorem bl_ok {r : Bool} {P : Bool → Prop} (h : P r) : ∃ c, V.bl r = V.bl c ∧ P c := ⟨r, rfl, h⟩
theorem int_ok {P : Int → Prop} (h : P i) : ∃ c, V.int i = V.int c ∧ P c := ⟨i, rfl, h⟩
theorem ite_dec {c A B : Prop} [Decidable c] (h1 : c → A) (h2 : ¬ c → B) : if decide c = true then A else B := by
  by_cases h : c
  · rw [decide_eq_true h]; exact iteT (h1 h)
  · rw [decide_eq_false h]; exact iteF (h2 h)
theorem ite_ndec {c A B : Prop} [Decidable c] (h1 : ¬ c → A) (h2 : c → B) : if (!decide c) = true then A else B := by
  by_cases h : c
  · rw [decide_eq_true h]; exact iteF (h2 h)
  · rw [decide_eq_false h]; exact iteT (h1 h)
theorem ite_b {r : Bool} {A B : Prop} (h1 : r = true → A) (h2 : r = false → B) : if r = true then A else B := by
  cases r with
  | true => exact iteT (h1 rfl)
  | false => exact iteF (h2 rfl)
end
end Rs

namespace Rs
open PySem PySem.Spec PyProof.Rows L2
section
variable {P : Program} {w : World} {K : PySem.W.Frag} {mg : Str → Option Value} {base : Heap} {N : List Str} {qual : Str} {sc : Scope} {f : Addr} {cdv : Value} {A : Around} {outer : List Env} {s : Shared} {H : Hp} {E : XK} {k : Nat}
abbrev bx (P : Program) (w : World) (K : PySem.W.Frag) (mg : Str → Option Value) (base : Heap) (N : List Str) (qual : Str) (sc : Scope) (f : Addr) (cdv : Value) (A : Around) (outer : List Env) (s : Shared) (H : Hp) (E : XK) : Cx := cxOf (RX P w) P w K mg base N qual sc f cdv A outer s H E
theorem body_of (hr : Room k (A.deeper (envOfC qual sc s.heap.objs.size f cdv))) : Body (bx P w K mg base N qual sc f cdv A outer s H E) k fun _ => E := ⟨rfl, hr, L2N.takes_of rfl rfl rfl rfl, passes_of rfl, fun _ => rfl, fun _ => rfl⟩
end
end Rs

namespace Rs
open PySem PySem.Spec PyProof.Rows L2 He

/-! ### a def by its body, over any context that runs it -/
section
variable {P : Program} {w : World} {K : PySem.W.Frag} {mg : Str → Option Value} {base : Heap} {N ps : List Str} {name qual : Str} {pa : Arguments} {body : List Stmt} {sc : Scope} {dvs : List V} {kws : List (Str × V)} {f : Addr} {fd : FuncData} {k : Nat} {sp : Sp}
theorem def_ok (F : FunD K name qual pa body sc dvs kws f fd) (S : FnScope N ps sc) (len : ∀ vs H Q E, sp vs H Q E → vs.length = ps.length)
    (hb : ∀ (X : Cx), X.prog = P → X.w = w → X.K = K → X.mg = mg → X.base = base → X.N = N → X.env.scope = sc → (∀ x, X.fn x = true) → N.Nodup → ∀ (H : Hp) (vs : List V) (Q : VK) (E : XK), Body X k (fun _ => E) → sp vs H Q E → WB X body { nx := fun _ H' => Q .non H', rt := Q } (start N vs) H) :
    FnOk P w K mg base (RX P w) (k + 1) f fd ps sp :=
  F.ok S len fun cdv A outer s H vs Q E hr h => ⟨_, pbS, hb (bx P w K mg base N qual sc f cdv A outer s H E) rfl rfl rfl rfl rfl rfl rfl (fun _ => rfl) S.nd H vs Q E (body_of hr) h⟩
end
section
variable {X : Cx} {N : List Str} {sc : Scope} {i : Nat} {x : Str}
theorem slot_of (eN : X.N = N) (es : X.env.scope = sc) (hf : ∀ x, X.fn x = true) (nd : N.Nodup) (hi : N[i]? = some x) (hl : Loc sc x) (d1 : (x == ("__debug__" : Str)) = false) (d2 : (x == ("__classdict__" : Str)) = false) : Sl X i x :=
  ⟨by rw [eN]; exact hi, by rw [eN]; exact nd, by rw [es]; exact hl, .inl (hf x), d1, d2⟩
theorem gn_of (es : X.env.scope = sc) (h : sc.names.lookup x = some .globalImplicit) (d1 : (x == ("__debug__" : Str)) = false) : Gn X x := ⟨by unfold Gl Env.kindOf; rw [es]; exact h, d1⟩
theorem bn_of (es : X.env.scope = sc) (h : sc.names.lookup x = some .globalImplicit) (no : X.mg x = none) : Bn X x := ⟨by unfold Gl Env.kindOf; rw [es]; exact h, no⟩
theorem kd_of {r : NameKind} (es : X.env.scope = sc) (h : sc.names.lookup x = some r) : X.env.kindOf x = some r := by unfold Env.kindOf; rw [es]; exact h
theorem blk_of (es : X.env.scope = sc) (h : sc.kind = .function) : X.env.blockKind = .function := by
  unfold Env.blockKind
  rw [es, h]
  rfl
end

/-! ### what the head tells: any facts of the written part, and each def by its place -/
theorem DefA.fun_ {d : DefA} {K : PySem.W.Frag} (hc : d.clo = false) (e : d.seen K = d.told) (c : d.good K = true) : ∃ fd, FunD K d.name d.qual d.params d.body d.scope (d.dvs K) (d.kws K) (d.ad K) fd := by
  obtain ⟨kp, c⟩ := ba c
  unfold DefA.seen at e
  rw [hc] at e c
  generalize hl : K.lookup (d.ad K) = lk at e c
  match lk, e, c with
  | some ⟨oc, od, .func ⟨m1, m2, m3, m4, m5, m6, m7, m8, m9, m10, m11, m12, m13, m14, m15⟩, osl⟩, e, c =>
    have e' : (some (m1, m2, m3, m4, m5, m6, m7, m15) : FnW) = d.told := e
    unfold DefA.told at e'
    injection e' with e'
    injection e' with h1 e'
    injection e' with h2 e'
    injection e' with h3 e'
    injection e' with h4 e'
    injection e' with h5 e'
    injection e' with h6 e'
    injection e' with h7 h8
    subst h1 h2 h3 h4 h5 h6 h7 h8
    obtain ⟨k1, c⟩ := ba (show (PySem.W.codeIn K m13 d.qual && (dflB K m8 (d.dvs K) && kwdB K m9 (d.kws K))) = true from c)
    obtain ⟨k2, k3⟩ := ba c
    exact ⟨_, ⟨oc, od, m8, m9, m10, m11, m12, m13, m14, osl, rfl, hl, k1, dflB_ok k2, kwdB_ok k3⟩, kp⟩
/-- a def that closes over its class's cell: all but the closure -/
theorem DefA.funC {d : DefA} {K : PySem.W.Frag} (hc : d.clo = true) (e : d.seen K = d.told) (c : d.good K = true) : ∃ (oc : Value) (od : Option Addr) (cl : List (Str × Addr)) (dV kV doc pm : Value) (an : Option Addr) (cdv ct : Value) (osl : Array (Option Value)),
    K.lookup (d.ad K) = some ⟨oc, od, .func (PySem.W.fnX d.name d.qual d.params d.body d.scope cl dV kV doc pm an cdv ct), osl⟩ ∧ PySem.W.codeIn K cdv d.qual = true := by
  obtain ⟨kp, c⟩ := ba c
  unfold DefA.seen at e
  rw [hc] at e c
  generalize hl : K.lookup (d.ad K) = lk at e c
  match lk, e, c with
  | some ⟨oc, od, .func ⟨m1, m2, m3, m4, m5, m6, m7, m8, m9, m10, m11, m12, m13, m14, m15⟩, osl⟩, e, c =>
    have e' : (some (m1, m2, m3, m4, m5, m6, [], m15) : FnW) = d.told := e
    unfold DefA.told at e'
    injection e' with e'
    injection e' with h1 e'
    injection e' with h2 e'
    injection e' with h3 e'
    injection e' with h4 e'
    injection e' with h5 e'
    injection e' with h6 e'
    injection e' with h7 h8
    subst h1 h2 h3 h4 h5 h6 h8
    obtain ⟨k1, c⟩ := ba (show (PySem.W.codeIn K m13 d.qual && _) = true from c)
    exact ⟨oc, od, m7, m8, m9, m10, m11, m12, m13, m14, osl, rfl, k1⟩
/-- a module's def; a class's method; a property's getter, setter -/
def aG (x : Str) : PySem.W.Frag → Addr := fun K => ga K x
def aM (C m : Str) : PySem.W.Frag → Addr := fun K => ma K (ga K C) m
def aP (C m : Str) : PySem.W.Frag → Addr := fun K => pgA K (ga K C) m
/-! ### the objects that the top leaves, layer by layer; those seen are kept as the bits of a number -/
theorem obX_eq (n : Nat) (ψ : List (PySem.W.Frag → Bool)) (fn : List DefA) (s : PySem.W.SharedT) : obX n ψ fn s = (hookX n ψ fn).obs s.abs := by
  have e : HandSHeadRun.getT s = s.abs.heap.get? := funext (HandSHeadRun.getT_eq s)
  show obsX ψ fn (frG (HandSHeadRun.getT s) ((asY (HandSHeadRun.getT s) n).reverse ++ [cStatics])) = obsX ψ fn (frG s.abs.heap.get? ((asY s.abs.heap.get? n).reverse ++ [cStatics]))
  rw [e]
section
variable {ψ : List (PySem.W.Frag → Bool)} {fn : List DefA} {K : PySem.W.Frag}
theorem SaysX.fact (c : SaysX ψ fn K) (i : Nat) {b : PySem.W.Frag → Bool} (h : ψ[i]? = some b := by rfl) : b K = true := c.all.1 b (List.mem_of_getElem? h)
theorem SaysX.dfn (c : SaysX ψ fn K) (i : Nat) {d : DefA} (h : fn[i]? = some d := by rfl) (hc : d.clo = false := by rfl) : ∃ fd, FunD K d.name d.qual d.params d.body d.scope (d.dvs K) (d.kws K) (d.ad K) fd :=
  DefA.fun_ hc (c.all.2.2 d (List.mem_of_getElem? h)) (c.all.2.1 d (List.mem_of_getElem? h))
theorem SaysX.dfc (c : SaysX ψ fn K) (i : Nat) {d : DefA} (h : fn[i]? = some d := by rfl) (hc : d.clo = true := by rfl) : ∃ (oc : Value) (od : Option Addr) (cl : List (Str × Addr)) (dV kV doc pm : Value) (an : Option Addr) (cdv ct : Value) (osl : Array (Option Value)),
    K.lookup (d.ad K) = some ⟨oc, od, .func (PySem.W.fnX d.name d.qual d.params d.body d.scope cl dV kV doc pm an cdv ct), osl⟩ ∧ PySem.W.codeIn K cdv d.qual = true :=
  DefA.funC hc (c.all.2.2 d (List.mem_of_getElem? h)) (c.all.2.1 d (List.mem_of_getElem? h))
end

/-! ### looks at a class -/
theorem binOwn_ok {K : PySem.W.Frag} {C f : Addr} {op : Operator} (h : binOwnB K C f op = true) : BinOwn K C f op := by
  obtain ⟨h1, h⟩ := ba h
  obtain ⟨h2, h⟩ := ba h
  obtain ⟨h3, h⟩ := ba h
  obtain ⟨h4, h⟩ := ba h
  obtain ⟨h5, h⟩ := ba h
  obtain ⟨h6, h7⟩ := ba h
  obtain ⟨fo, h5⟩ := Option.isSome_iff_exists.mp h5
  obtain ⟨ro, h6⟩ := Option.isSome_iff_exists.mp h6
  refine ⟨h1, of_decide_eq_true h2, h3, ?_, ⟨fo, ro, h5, h6⟩, of_decide_eq_true h7⟩
  cases q : PySem.W.findIn K (.ref C) (dunderR op.info.2) with
  | none => rw [q] at h4; cases h4
  | some rc =>
    rw [q] at h4
    refine ⟨rc, rfl, ?_⟩
    match rc, h4 with
    | none, _ => exact .inl rfl
    | some (.ref g), _ => exact .inr ⟨g, rfl⟩
theorem binRef_ok {K : PySem.W.Frag} {C f g : Addr} {op : Operator} (h : binRefB K C f g op = true) : BinRef K C g op := by
  obtain ⟨h1, h⟩ := ba h
  obtain ⟨h2, h⟩ := ba h
  obtain ⟨h3, h⟩ := ba h
  obtain ⟨h4, h5⟩ := ba h
  exact ⟨h1, ⟨f, of_decide_eq_true h2⟩, of_decide_eq_true h3, h4, of_decide_eq_true h5⟩
theorem cmpOwn_ok {K : PySem.W.Frag} {C f : Addr} {op : CmpOp} (h : cmpOwnB K C f op = true) : CmpOwn K C f op := by
  obtain ⟨h1, h⟩ := ba h
  obtain ⟨h2, h3⟩ := ba h
  exact ⟨of_decide_eq_true h1, h2, h3⟩
theorem cmpRef_ok {K : PySem.W.Frag} {C g : Addr} {op : CmpOp} (h : cmpRefB K C g op = true) : CmpRef K C g op := by
  obtain ⟨h1, h⟩ := ba h
  obtain ⟨h2, h3⟩ := ba h
  exact ⟨of_decide_eq_true h1, h2, of_decide_eq_true h3⟩
theorem negOwn_ok {K : PySem.W.Frag} {C f : Addr} (h : negOwnB K C f = true) : NegOwn K C f := by
  obtain ⟨h1, h2⟩ := ba h
  exact ⟨of_decide_eq_true h1, h2⟩
theorem noInpl_ok {K : PySem.W.Frag} {C : Addr} {op : Operator} (h : noInplB K C op = true) : NoInpl K C op := by
  obtain ⟨h1, h⟩ := ba h
  obtain ⟨h2, h3⟩ := ba h
  refine ⟨?_, of_decide_eq_true h2, of_decide_eq_true h3⟩
  cases q : PySem.W.clsIn K C with
  | none => rw [q] at h1; cases h1
  | some cd => rw [q] at h1; exact ⟨cd, rfl, of_decide_eq_true h1⟩
theorem prop_ok {K : PySem.W.Frag} {C : Addr} {m : Str} (h : propB K C m = true) : PropOf K C m (ma K C m) (pgA K C m) := by
  obtain ⟨h1, h⟩ := ba h
  obtain ⟨h2, h⟩ := ba h
  obtain ⟨h3, h4⟩ := ba h
  refine ⟨of_decide_eq_true h1, of_decide_eq_true h2, of_decide_eq_true h3, ?_⟩
  generalize hr : PySem.W.recIn K (ma K C m) "property" = r at h4
  match r, h4 with
  | some (.ref g :: rest), h4 => exact ⟨rest, by rw [of_decide_eq_true h4]⟩
theorem isC_ok {K : PySem.W.Frag} {x : Str} (h : isCB K x = true) : IsC K (ga K x) := by
  obtain ⟨h1, h⟩ := ba h
  obtain ⟨h2, h⟩ := ba h
  obtain ⟨h3, h⟩ := ba h
  obtain ⟨h4, h5⟩ := ba h
  exact ⟨cls_ok h1, of_decide_eq_true h2, of_decide_eq_true h3, of_decide_eq_true h4, of_decide_eq_true h5⟩
/-- isinstance's answers for the class of the name x, by the kinds of values -/
structure KitC (K : PySem.W.Frag) (C : Addr) : Prop where
  self : PySem.W.kitOne K (.ref C) (.ref C) = some true
  int : PySem.W.kitOne K (.ref C) (.type "int") = some false
  bool : PySem.W.kitOne K (.ref C) (.type "bool") = some false
  str : PySem.W.kitOne K (.ref C) (.type "str") = some false
  ofInt : PySem.W.kitOne K (.type "int") (.ref C) = some false
  ofBool : PySem.W.kitOne K (.type "bool") (.ref C) = some false
  ofStr : PySem.W.kitOne K (.type "str") (.ref C) = some false
  ofNone : PySem.W.kitOne K (.type "NoneType") (.ref C) = some false
  ofTup : PySem.W.kitOne K (.type "tuple") (.ref C) = some false
  ofLst : PySem.W.kitOne K (.type "list") (.ref C) = some false
theorem kitC_ok {K : PySem.W.Frag} {C : Addr} (h : kitCB K C = true) : KitC K C := by
  obtain ⟨h1, h⟩ := ba h
  obtain ⟨h2, h⟩ := ba h
  obtain ⟨h3, h⟩ := ba h
  obtain ⟨h4, h5⟩ := ba h
  have z := fun n hn => of_decide_eq_true (List.all_eq_true.mp h5 n hn)
  exact ⟨of_decide_eq_true h1, of_decide_eq_true h2, of_decide_eq_true h3, of_decide_eq_true h4, z _ (by simp), z _ (by simp), z _ (by simp), z _ (by simp), z _ (by simp), z _ (by simp)⟩
end Rs

namespace Rs
open PySem PySem.Spec PyProof.Rows L2 He PySem.Calls
/-! ### a body whose exceptions nobody waits for (the law itself) -/
section
variable {P : Program} {w : World} {K : PySem.W.Frag} {mg : Str → Option Value} {base : Heap} {N ps : List Str} {name qual : Str} {pa : Arguments} {body : List Stmt} {sc : Scope} {dvs : List V} {kws : List (Str × V)} {f : Addr} {fd : FuncData} {k : Nat} {sp : Sp}
theorem def_okN (F : FunD K name qual pa body sc dvs kws f fd) (S : FnScope N ps sc) (len : ∀ vs H Q E, sp vs H Q E → vs.length = ps.length)
    (hb : ∀ (X : Cx), X.prog = P → X.w = w → X.K = K → X.mg = mg → X.base = base → X.N = N → X.env.scope = sc → (∀ x, X.fn x = true) → N.Nodup → ∀ (H : Hp) (vs : List V) (Q : VK) (E : XK), Body X k (fun _ => E0) → sp vs H Q E → WB X body { nx := fun _ H' => Q .non H', rt := Q } (start N vs) H) :
    FnOk P w K mg base CX0 (k + 1) f fd ps sp :=
  F.ok S len fun cdv A outer s H vs Q E hr h => ⟨_, pbS, hb (cxOf CX0 P w K mg base N qual sc f cdv A outer s H E) rfl rfl rfl rfl rfl rfl rfl (fun _ => rfl) S.nd H vs Q E ⟨rfl, hr, (fun _ _ x => by obtain ⟨_, _, _, _, _, _, _, _, _, _, _, _, _, _, _, _, z⟩ := x; exact z.elim), passes_of rfl, fun _ => rfl, fun _ => rfl⟩ h⟩
theorem GFn.mk {x : Str} (F : FunD K name qual pa body sc [] kws f fd) (hm : mg x = some (.ref f)) (ok : FnOk P w K mg base (RX P w) k f fd ps sp) (hb : Binds K fd ps []) : GFn P w K mg base k x sp :=
  ⟨f, hm, F.kp, (FnOk.raw ok hb .nil).imp fun vs H Q E h => by rw [List.append_nil]; exact h⟩
end
theorem raw_of {P : Program} {w : World} {K : PySem.W.Frag} {mg : Str → Option Value} {base : Heap} {ps : List Str} {name qual : Str} {pa : Arguments} {body : List Stmt} {sc : Scope} {kws : List (Str × V)} {f : Addr} {fd : FuncData} {k : Nat} {sp : Sp} (F : FunD K name qual pa body sc [] kws f fd)
    (ok : FnOk P w K mg base (RX P w) k f fd ps sp) (hb : Binds K fd ps []) : FnR P w K mg base (RX P w) k f sp := (FnOk.raw ok hb .nil).imp fun vs H Q E h => by rw [List.append_nil]; exact h
/-! ### abs(x) of an own class -/
structure AbsOwn (K : PySem.W.Frag) (C f : Addr) : Prop where
  at_ : PySem.W.findIn K (.ref C) "__abs__" = some (some (.ref f))
  fn : PySem.W.isFn K (.ref f) = true
theorem absOwn_ok {K : PySem.W.Frag} {C f : Addr} (h : absOwnB K C f = true) : AbsOwn K C f := by
  obtain ⟨h1, h2⟩ := ba h
  exact ⟨of_decide_eq_true h1, h2⟩
theorem abs_own {prog : Program} {w : World} {A : Around} {R : Value → Shared → Prop} {P : Value → Shared → Prop} {s : Shared} {K : PySem.W.Frag} {x C f : Addr} {ox : Obj} {od : Option Obj} (KX : K.In s.heap) (J : PySem.W.InstAt s.heap x ox C od)
    (c : AbsOwn K C f) (h : wpAny (model prog w) A.in1 (call (.ref f) [.ref x]) P R s) : wpAny (model prog w) A (call (.builtin "abs") [.ref x]) P R s := by
  refine call_function_entry kind_abs plain_abs entry_abs (args_abs _) ?_
  unfold Builtin.«abs»
  refine wpAny_bind (wpAny_of_eq (a := Value.ref x) rfl ?_)
  refine wpAny_bind (PySem.W.special_fn KX J c.at_ (beq_iff_eq.mp c.fn) (wpAny_mono h (fun v s' q => ?_) fun _ _ z => z))
  exact wpAny_pure ⟨_, rfl, q⟩
theorem we_absT {X : Cx} {σ : L2.St} {H : Hp} {Q : VK} {k j : Nat} {E : XK} {C f : Addr} {sp : Sp} {a : Expr} {p pos : Pos} (bn : Bn X "abs") (B : Body X k fun _ => E) (c : AbsOwn X.K C f) (F : FnR X.prog X.w X.K X.mg X.base (RX X.prog X.w) j f sp) (hj : j + 1 ≤ k)
    (h : WE X a σ H fun v H1 => ∃ x dx fs, v = .ref x ∧ H1 x = some (.ins C dx fs) ∧ sp [.ref x] H1 Q E) (hs : starEach [a] X.env = [(false, eval a X.env)] := by rfl) (hl : (backTo pos (starEach [] X.env)).any (·.1) = false := by rfl) :
    WE X (.Call (.Name "abs" p) [a] [] pos) σ H Q := by
  have hc : CallR X (.builtin "abs") fun xs H Q => ∃ x dx fs, xs = [.ref x] ∧ H x = some (.ins C dx fs) ∧ sp [.ref x] H Q E := by
    intro pins s σ H xs us Q I r q
    obtain ⟨x, dx, fs, rfl, ea, q⟩ := q
    obtain ⟨u, rfl, ru⟩ := vals1 r
    cases ru
    obtain ⟨od, J⟩ := inst_of I ea
    exact abs_own I.kIn J c (wpAny_call (SlX.run_at (us := [.ref x]) (ws := [.ref x]) F (B.room.mono hj).in1 I.env0.in1 B.pass I (.cons rfl .nil) q))
  exact we_callB hc bn boot_abs (wa_one (we_mono h fun v H1 q => by
    obtain ⟨x, dx, fs, rfl, q⟩ := q
    exact ⟨x, dx, fs, rfl, q⟩) hs) (by decide) (by decide) hs hl
end Rs

namespace Rs
open PySem PySem.Spec PyProof.Rows L2 He
/-! ### raise of an own class of errors without an __init__ of its own -/
structure ExcPlain (K : PySem.W.Frag) (C : Addr) : Prop where
  ex : PySem.W.excIn K C veBase "ValueError.__new__" = true
  kp : PySem.W.keepIn K (.ref C) = true
  sb : PySem.W.subIn K (.ref C) (.type "BaseException") = some true
  ty : PySem.W.typeIn K (.ref C) = some (.type "type")
theorem excPlain_ok {K : PySem.W.Frag} {C : Addr} (h : excPlainB K C = true) : ExcPlain K C := by
  obtain ⟨h1, h⟩ := ba h
  obtain ⟨h2, h⟩ := ba h
  obtain ⟨h3, h4⟩ := ba h
  exact ⟨h1, h2, of_decide_eq_true h3, of_decide_eq_true h4⟩
theorem ws_raise {X : Cx} {k : Nat} {E : L2.St → XK} {D : Ends} {σ : L2.St} {H : Hp} {x m : Str} {j : Nat} {p p2 pos pos2 : Pos} {C : Addr} (B : Body X k E) (g : Gn X x) (hm : X.mg x = some (.ref C)) (c : ExcPlain X.K C) (h : E σ (.ref C) none H) :
    WS X (.Raise (some (.Call (.Name x p) [.Constant (.str m) j p2] [] pos)) none pos2) D σ H :=
  wsP (L2N.ps_raise B.calm B.tk (L2N.pmk_own PySem.F.excBase_ValueError c.ex hm c.kp (raises_own c.sb c.ty) g.gl g.d1)) h
section
variable {X : Cx} {σ : L2.St} {H : Hp} {Q : VK} {x : Str} {pos : Pos}
theorem we_ref {C : Addr} (g : Gn X x) (hm : X.mg x = some (.ref C)) (q : Q (.ref C) H) : WE X (.Name x pos) σ H Q := we_glob (v := .ref C) g hm rfl q
theorem we_cint {i : Int} {t : Tok} (g : Gn X x) (hm : X.mg x = some (.int i t)) (q : Q (.int i) H) : WE X (.Name x pos) σ H Q := we_glob (v := .int i) g hm ⟨t, rfl⟩ q
theorem we_cstr {z : Str} {t : Tok} (g : Gn X x) (hm : X.mg x = some (.str z t)) (q : Q (.str z) H) : WE X (.Name x pos) σ H Q := we_glob (v := .str z) g hm ⟨t, rfl⟩ q
end
theorem iteNT {A B : Prop} (h : B) : if (!true) = true then A else B := iteF h
theorem iteNF {A B : Prop} (h : A) : if (!false) = true then A else B := iteT h
theorem ite_nb {r : Bool} {A B : Prop} (h1 : r = false → A) (h2 : r = true → B) : if (!r) = true then A else B := by
  cases r with
  | false => exact iteT (h1 rfl)
  | true => exact iteF (h2 rfl)
/-! ### a time's fields -/
theorem ou_ : ¬ (("under_line" : Str) = "over_line") := by decide +kernel
theorem uo_ : ¬ (("over_line" : Str) = "under_line") := by decide +kernel
theorem tfs_put (q : Rat) : putF "under_line" (.int q.den) (putF "over_line" (.int q.num) []) = tfs q := by
  show (if ("over_line" : Str) = "under_line" then [(("over_line" : Str), V.int q.den)] else (("over_line" : Str), V.int q.num) :: putF "under_line" (V.int q.den) []) = _
  rw [if_neg uo_]
  rfl
theorem tfs_over (q : Rat) : (tfs q).lookup ("over_line" : Str) = some (.int q.num) := by
  unfold tfs
  rw [List.lookup_cons_self]
theorem tfs_under (q : Rat) : (tfs q).lookup ("under_line" : Str) = some (.int q.den) := by
  unfold tfs
  rw [List.lookup_cons]
  have e : (("under_line" : Str) == "over_line") = false := by simpa using ou_
  rw [e, List.lookup_cons_self]
end Rs

namespace Rs
open PySem PySem.Spec PyProof.Rows L2 He
section
variable {X : Cx} {σ : L2.St} {H : Hp} {D : Ends} {Q Q' : VK} {k j : Nat} {E : XK} {x : Str} {p pos pos' : Pos} {a b c e o : Expr}
/-! ### items -/
theorem we_at (h : WE X a σ H fun v H1 => WE X b σ H1 fun w H2 => rIx X.K v w H2 Q) (hb : PlainIx b := by intro _ _; rfl) : WE X (.Subscript a b pos) σ H Q := we_ix ix_seq h hb
theorem at_l {K : PySem.W.Frag} {p : Addr} {xs : List V} {i : Int} {v : V} (hp : H p = some (.lst xs)) (he : atI xs i = some v) (q : Q v H) : rIx K (.ref p) (.int i) H Q := .inl ⟨p, xs, i, v, rfl, rfl, .of hp, he, q⟩
theorem at_t {K : PySem.W.Frag} {p : Addr} {xs : List V} {i : Int} {v : V} (hp : H p = some (.tup xs)) (he : atI xs i = some v) (q : Q v H) : rIx K (.ref p) (.int i) H Q := .inr (.inl ⟨p, xs, i, v, rfl, rfl, .of hp, he, q⟩)
theorem ws_put (h : WE X e σ H fun v H1 => WE X a σ H1 fun x H2 => WE X b σ H2 fun y H3 => ∃ p xs i j, x = .ref p ∧ y = .int i ∧ H3 p = some (.lst xs) ∧ ixN xs.length i = some j ∧ D.nx σ (upd H3 p (.lst (xs.set j v))))
    (hs : swapsWithSole [.Subscript a b pos'] e pos.line X.env = pure false := by rfl) (hw : swappedStores [.Subscript a b pos'] e X.env = pure none := by rfl)
    (ha : ∀ v, assign (.Subscript a b pos') X.env v = (do
      let ov ← holding [v] (eval a X.env)
      let iv ← holding [v, ov] (eval b X.env)
      standAt pos'
      holding [v, ov, iv] (setItem ov iv v)
      release [v, ov, iv] []) := by intro _; rfl) : WS X (.Assign [.Subscript a b pos'] e pos) D σ H :=
  wsP (ps_asg peS (pg_sub peS peS set_list ha) hs hw) (we_mono h fun v H1 z => we_mono z fun x H2 z => we_mono z fun y H3 z => by
    obtain ⟨p, xs, i, j, rfl, rfl, h1, h2, z⟩ := z
    exact ⟨p, xs, i, j, rfl, rfl, h1, h2, z⟩)
theorem put_l {p : Addr} {xs : List V} {i : Int} {j : Nat} {v : V} {P : Hp → Prop} (hp : H p = some (.lst xs)) (hj : ixN xs.length i = some j) (q : P (upd H p (.lst (xs.set j v)))) :
    ∃ p' xs i' j, V.ref p = .ref p' ∧ V.int i = .int i' ∧ H p' = some (.lst xs) ∧ ixN xs.length i' = some j ∧ P (upd H p' (.lst (xs.set j v))) := ⟨p, xs, i, j, rfl, rfl, hp, hj, q⟩
/-! ### len, int, list(..[:n]) -/
theorem we_len (bn : Bn X "len") (h : WE X a σ H fun v H1 => ∃ n, LenV X.K v H1 n ∧ Q (.int n) H1) (hs : starEach [a] X.env = [(false, eval a X.env)] := by rfl) (hl : (backTo pos (starEach [] X.env)).any (·.1) = false := by rfl) :
    WE X (.Call (.Name "len" p) [a] [] pos) σ H Q := we_callB call_len bn boot_len (wa_one (we_mono h fun v H1 q => by
    obtain ⟨n, h1, q⟩ := q
    exact ⟨v, n, rfl, h1, q⟩) hs) (by decide) (by decide) hs hl
theorem len_l {K : PySem.W.Frag} {p : Addr} {xs : List V} {P : Nat → Prop} (hp : H p = some (.lst xs)) (q : P xs.length) : ∃ n, LenV K (.ref p) H n ∧ P n := ⟨xs.length, .inl ⟨xs, .of hp, rfl⟩, q⟩
theorem len_t {K : PySem.W.Frag} {p : Addr} {xs : List V} {P : Nat → Prop} (hp : H p = some (.tup xs)) (q : P xs.length) : ∃ n, LenV K (.ref p) H n ∧ P n := ⟨xs.length, .inr ⟨xs, .of hp, rfl⟩, q⟩
theorem we_int1 (bn : Bn X "int") (h : WE X a σ H fun v H1 => ∃ i, v = .int i ∧ Q (.int i) H1) (hs : starEach [a] X.env = [(false, eval a X.env)] := by rfl) (hl : (backTo pos (starEach [] X.env)).any (·.1) = false := by rfl) :
    WE X (.Call (.Name "int" p) [a] [] pos) σ H Q := we_callT call_int1 bn boot_int (wa_one (we_mono h fun v H1 q => by
    obtain ⟨i, rfl, q⟩ := q
    exact .inl ⟨i, rfl, q⟩) hs) (by decide) (by decide) hs hl
theorem we_listof (bn : Bn X "list") (h : WE X a σ H fun v H1 => ∃ p ys, v = .ref p ∧ (SqL X.K H1 p ys ∨ SqT X.K H1 p ys) ∧ ∀ l, H1 l = none → Q (.ref l) (upd H1 l (.lst ys))) (hs : starEach [a] X.env = [(false, eval a X.env)] := by rfl) (hl : (backTo pos (starEach [] X.env)).any (·.1) = false := by rfl) :
    WE X (.Call (.Name "list" p) [a] [] pos) σ H Q := we_callT call_list_of bn boot_list (wa_one (we_mono h fun v H1 q => by
    obtain ⟨p, ys, rfl, h1, q⟩ := q
    exact ⟨p, ys, rfl, h1, q⟩) hs) (by decide) (by decide) hs hl
/-- a[:hi] of a list -/
theorem we_cutU {p2 : Pos} (h : WE X a σ H fun v H1 => WE X b σ H1 fun w H2 => ∃ p xs i, v = .ref p ∧ w = .int i ∧ SqL X.K H2 p xs ∧ ∀ l, H2 l = none → Q (.ref l) (upd H2 l (.lst (cutV xs none (some i))))) : WE X (.Subscript a (.Slice none (some b) none p2) pos) σ H Q :=
  weP (pe_slice sl_list peS po_none (po_some peS)) (we_mono h fun v H1 z => we_mono z fun w H2 z => by
    obtain ⟨p, xs, i, rfl, rfl, h1, z⟩ := z
    exact ⟨i, rfl, p, xs, rfl, h1, z⟩)
/-! ### the source of draws -/
structure Sou (H : Hp) (p : Addr) : Prop where
  ex : ∃ l o ns, H p = some o ∧ SrcL l o ∧ H l = some (.lst (List.map V.int ns))
theorem Sou.mono {H H' : Hp} {p : Addr} (s : Sou H p) (x : Ex H H') : Sou H' p := by
  obtain ⟨l, o, ns, h1, h2, h3⟩ := s.ex
  obtain ⟨o', h4, h5⟩ := x.src p l o h1 h2
  exact ⟨l, o', ns, h4, h5, x.keep l _ h3 not_src_ints⟩
/-- any number below n -/
def Draw (H : Hp) (n : Int) (Q : VK) : Prop := ∀ d H', Ex H H' → 0 ≤ d → d < n → Q (.int d) H'
theorem Draw.mono {H H' : Hp} {n : Int} {Q : VK} (k : Draw H n Q) (x : Ex H H') : Draw H' n Q := fun d H2 y h1 h2 => k d H2 (x.trans y) h1 h2
def spDraw : Sp := fun vs H Q _ => ∃ p n, vs = [.ref p, .int n] ∧ Sou H p ∧ 0 < n ∧ n.natAbs < 2 ^ 8000 ∧ Draw H n Q
theorem dr_ok {p : Addr} {n : Int} {H : Hp} {Q : VK} {E : XK} (s : Sou H p) (h0 : 0 < n) (h1 : n.natAbs < 2 ^ 8000) (k : Draw H n Q) : spDraw [.ref p, .int n] H Q E := ⟨p, n, rfl, s, h0, h1, k⟩
theorem small_n {n : Int} (h : n.natAbs < 2 ^ 200) : n.natAbs < 2 ^ 8000 := Nat.lt_of_lt_of_le h (Nat.pow_le_pow_right (by decide) (by decide))
end
theorem cpow_of {i j : Int} (h : (decide (0 ≤ j) && decide (j ≤ 1000000) && decide (i.natAbs < 2 ^ 64)) = true) : CPow i j := by
  obtain ⟨h1, h2⟩ := ba h
  obtain ⟨h0, h1⟩ := ba h1
  exact ⟨of_decide_eq_true h0, of_decide_eq_true h1, of_decide_eq_true h2⟩
theorem cmul31 {i j : Int} (h1 : 0 ≤ i) (h2 : i < 2147483647) (h3 : j.natAbs < 2 ^ 31) : CMulW i j := wide_mul (a := 31) (b := 31) (by omega) h3 (by decide) (by decide) (by decide)
section
variable {H : Hp} {p l : Addr} {i b r : Int} {P : Hp → Prop}
theorem src_of (h1 : 0 ≤ i) (h2 : 0 ≤ r) (h3 : r < 2147483647) : SrcL l (.lst [.ref l, .int i, .int b, .int r]) := ⟨i, b, r, rfl, h1, h2, h3⟩
theorem putS1 {ns : List Int} {n : Int} (hl : H l = some (.lst (List.map V.int ns))) (hp : H p = some (.lst [.ref l, .int i, .int b, .int r])) (s : SrcL l (.lst [.ref l, .int i, .int b, .int r])) (s' : 0 ≤ n) (q : ∀ H', Ex H H' → H' l = some (.lst (List.map V.int ns)) → H' p = some (.lst [.ref l, .int n, .int b, .int r]) → SrcL l (.lst [.ref l, .int n, .int b, .int r]) → P H') :
    ∃ p' xs i' j, V.ref p = .ref p' ∧ V.int 1 = .int i' ∧ H p' = some (.lst xs) ∧ ixN xs.length i' = some j ∧ P (upd H p' (.lst (xs.set j (.int n)))) := by
  have s2 : SrcL l (.lst [.ref l, .int n, .int b, .int r]) := by
    obtain ⟨i2, b2, r2, e, h1, h2, h3⟩ := s
    injection e with e; injection e with _ e; injection e with e1 e; injection e with e2 e; injection e with e3 e
    cases e1; cases e2; cases e3
    exact ⟨_, _, _, rfl, s', h2, h3⟩
  have xx := Ex.src' (fun C dx fs z => by rw [hl] at z; cases z) hp s s2
  exact ⟨p, _, 1, 1, rfl, rfl, hp, rfl, q _ xx (xx.keep l _ hl not_src_ints) upd_same s2⟩
theorem putS2 {ns : List Int} {n : Int} (hl : H l = some (.lst (List.map V.int ns))) (hp : H p = some (.lst [.ref l, .int i, .int b, .int r])) (s : SrcL l (.lst [.ref l, .int i, .int b, .int r])) (q : ∀ H', Ex H H' → H' l = some (.lst (List.map V.int ns)) → H' p = some (.lst [.ref l, .int i, .int n, .int r]) → SrcL l (.lst [.ref l, .int i, .int n, .int r]) → P H') :
    ∃ p' xs i' j, V.ref p = .ref p' ∧ V.int 2 = .int i' ∧ H p' = some (.lst xs) ∧ ixN xs.length i' = some j ∧ P (upd H p' (.lst (xs.set j (.int n)))) := by
  have s2 : SrcL l (.lst [.ref l, .int i, .int n, .int r]) := by
    obtain ⟨i2, b2, r2, e, h1, h2, h3⟩ := s
    injection e with e; injection e with _ e; injection e with e1 e; injection e with e2 e; injection e with e3 e
    cases e1; cases e2; cases e3
    exact ⟨_, _, _, rfl, h1, h2, h3⟩
  have xx := Ex.src' (fun C dx fs z => by rw [hl] at z; cases z) hp s s2
  exact ⟨p, _, 2, 2, rfl, rfl, hp, rfl, q _ xx (xx.keep l _ hl not_src_ints) upd_same s2⟩
theorem putS3 {ns : List Int} {n : Int} (hl : H l = some (.lst (List.map V.int ns))) (hp : H p = some (.lst [.ref l, .int i, .int b, .int r])) (s : SrcL l (.lst [.ref l, .int i, .int b, .int r])) (h0 : 0 ≤ n) (h9 : n < 2147483647) (q : ∀ H', Ex H H' → H' l = some (.lst (List.map V.int ns)) → H' p = some (.lst [.ref l, .int i, .int b, .int n]) → SrcL l (.lst [.ref l, .int i, .int b, .int n]) → P H') :
    ∃ p' xs i' j, V.ref p = .ref p' ∧ V.int 3 = .int i' ∧ H p' = some (.lst xs) ∧ ixN xs.length i' = some j ∧ P (upd H p' (.lst (xs.set j (.int n)))) := by
  have s2 : SrcL l (.lst [.ref l, .int i, .int b, .int n]) := by
    obtain ⟨i2, b2, r2, e, h1, h2, h3⟩ := s
    injection e with e; injection e with _ e; injection e with e1 e; injection e with e2 e; injection e with e3 e
    cases e1; cases e2; cases e3
    exact ⟨_, _, _, rfl, h1, h0, h9⟩
  have xx := Ex.src' (fun C dx fs z => by rw [hl] at z; cases z) hp s s2
  exact ⟨p, _, 3, 3, rfl, rfl, hp, rfl, q _ xx (xx.keep l _ hl not_src_ints) upd_same s2⟩
end
end Rs

namespace Mt
/-- the greatest common divisor, at least 1 -/
def g1 (a b : Int) : Int := if (Int.gcd a b : Int) > 0 then (Int.gcd a b : Int) else 1
theorem g1_pos (a b : Int) : 0 < g1 a b := by unfold g1; split <;> omega
theorem g1_of {a b : Int} (hb : b ≠ 0) : g1 a b = (Int.gcd a b : Int) := by
  unfold g1
  have : 0 < Int.gcd a b := Int.gcd_pos_of_ne_zero_right a hb
  rw [if_pos (by omega)]
/-- one turn of Euclid's algorithm -/
theorem gcd_turn (a b : Int) : Int.gcd b (a % b) = Int.gcd a b := by
  have e := Int.emod_def a b
  rw [e, Int.gcd_comm a b, Int.sub_eq_add_neg, Int.neg_mul_eq_mul_neg, Int.gcd_add_mul_left_right]
theorem gcd_abs (a b : Int) : Int.gcd (if a < 0 then -a else a) (if b < 0 then -b else b) = Int.gcd a b := by
  split <;> split <;> simp
theorem abs_nn (a : Int) : 0 ≤ if a < 0 then -a else a := by split <;> omega
theorem fdiv_dvd_neg {a g : Int} (hg : 0 < g) (h : g ∣ a) : a.fdiv (0 - g) = -(a / g) := by
  obtain ⟨c, rfl⟩ := h
  have h1 : (0 - g) ∣ g * c := ⟨-c, by rw [Int.zero_sub]; rw [Int.neg_mul_neg]⟩
  rw [Int.fdiv_eq_ediv_of_dvd h1, Int.zero_sub, Int.ediv_neg]
theorem fdiv_dvd {a g : Int} (hg : 0 < g) (h : g ∣ a) : a.fdiv g = a / g := Int.fdiv_eq_ediv_of_nonneg a (by omega)
theorem gcd_dvd (t b : Int) : (Int.gcd t b : Int) ∣ t ∧ (Int.gcd t b : Int) ∣ b := ⟨Int.gcd_dvd_left .., Int.gcd_dvd_right ..⟩
/-- what Time.__init__ stores -/
theorem made_num {t b : Int} (hb : b ≠ 0) : t.fdiv (if b < 0 then 0 - g1 t b else g1 t b) = (Rat.divInt t b).num := by
  have hg := g1_pos t b
  have e := g1_of (a := t) hb
  have hd : g1 t b ∣ t := by rw [e]; exact (gcd_dvd t b).1
  rw [Rat.num_divInt, Int.gcd_comm b t, ← e]
  split
  · rename_i hn
    rw [fdiv_dvd_neg hg hd, Int.sign_eq_neg_one_of_neg hn, Int.neg_one_mul, Int.neg_ediv_of_dvd hd]
  · rename_i hn
    rw [fdiv_dvd hg hd, Int.sign_eq_one_of_pos (by omega), Int.one_mul]
theorem made_den {t b : Int} (hb : b ≠ 0) : b.fdiv (if b < 0 then 0 - g1 t b else g1 t b) = ((Rat.divInt t b).den : Int) := by
  have hg := g1_pos t b
  have e := g1_of (a := t) hb
  have hd : g1 t b ∣ b := by rw [e]; exact (gcd_dvd t b).2
  rw [Rat.den_divInt, if_neg hb, Int.gcd_comm b t, Int.natCast_ediv, ← e]
  split
  · rename_i hn
    rw [fdiv_dvd_neg hg hd, ← Int.neg_ediv_of_dvd hd]
    congr 1
    omega
  · rename_i hn
    rw [fdiv_dvd hg hd]
    congr 1
    omega
theorem g1_le {t b : Int} (hb : b ≠ 0) : (g1 t b).natAbs ≤ b.natAbs := by
  rw [g1_of hb, Int.natAbs_natCast]
  exact Nat.le_of_dvd (by omega) (Int.gcd_dvd_natAbs_right t b)

/-! ### sizes -/
theorem Sz.mono {q : Rat} {n m : Nat} (h : Sz q n) (l : n ≤ m) : Sz q m := ⟨Nat.lt_of_lt_of_le h.num (Nat.pow_le_pow_right (by decide) l), Nat.lt_of_lt_of_le h.den (Nat.pow_le_pow_right (by decide) l)⟩
theorem pow_add' {a b x y : Nat} (h1 : x < 2 ^ a) (h2 : y < 2 ^ b) : x * y < 2 ^ (a + b) := by
  rw [Nat.pow_add]
  exact Nat.mul_lt_mul'' h1 h2
theorem add_lt {a x y : Nat} (h1 : x < 2 ^ a) (h2 : y < 2 ^ a) : x + y < 2 ^ (a + 1) := by
  rw [Nat.pow_succ]
  omega
theorem mulB {a b : Nat} {x y : Int} (h1 : x.natAbs < 2 ^ a) (h2 : y.natAbs < 2 ^ b) : (x * y).natAbs < 2 ^ (a + b) := by
  rw [Int.natAbs_mul]
  exact pow_add' h1 h2
theorem addB {a : Nat} {x y : Int} (h1 : x.natAbs < 2 ^ a) (h2 : y.natAbs < 2 ^ a) : (x + y).natAbs < 2 ^ (a + 1) := Nat.lt_of_le_of_lt (Int.natAbs_add_le x y) (add_lt h1 h2)
theorem subB {a : Nat} {x y : Int} (h1 : x.natAbs < 2 ^ a) (h2 : y.natAbs < 2 ^ a) : (x - y).natAbs < 2 ^ (a + 1) := Nat.lt_of_le_of_lt (Int.natAbs_sub_le x y) (add_lt h1 h2)
/-! ### the operators -/
theorem mk_div (n : Int) (d : Nat) : mkRat n d = Rat.divInt n d := rfl
theorem add_eq (q r : Rat) : Rat.divInt (q.num * r.den + r.num * q.den) (q.den * r.den) = q + r := by
  rw [Rat.add_def', mk_div, Int.natCast_mul]
theorem sub_eq (q r : Rat) : Rat.divInt (q.num * r.den - r.num * q.den) (q.den * r.den) = q - r := by
  rw [Rat.sub_def', mk_div, Int.natCast_mul]
theorem mul_eq (q r : Rat) : Rat.divInt (q.num * r.num) (q.den * r.den) = q * r := by
  rw [Rat.mul_def', mk_div, Int.natCast_mul]
theorem neg_eq (q : Rat) : Rat.divInt (0 - q.num) q.den = -q := by
  rw [Int.zero_sub, ← Rat.neg_divInt, Rat.num_divInt_den]
theorem den_pos (q : Rat) : (0 : Int) < q.den := by have := q.den_nz; omega
theorem den_ne (q : Rat) : (q.den : Int) ≠ 0 := by have := q.den_nz; omega
end Mt

namespace Rs
open PySem PySem.Spec PyProof.Rows L2 He Mt
theorem dp_ints {K : PySem.W.Frag} {H : Hp} : ∀ ns : List Int, DpAll K H (ns.map V.int) (ns.map PyData.int)
  | [] => .nil
  | n :: ns => .cons (.int n) (dp_ints ns)
theorem shaped2 (a b : Int) : SeqAt.shaped (.tuple [.int a, .int b]) = true := rfl
theorem eqv2 (a b c d : Int) : PyData.eqv (.tuple [.int a, .int b]) (.tuple [.int c, .int d]) = (decide (a = c) && decide (b = d)) := by
  simp only [PyData.eqv, PyData.eqvAll, Bool.and_true]
  rfl
section
variable {X : Cx} {k : Nat} {E : L2.St → XK} {H : Hp} {Q : VK} {p p' : Addr} {a b c d : Int}
theorem o_eqT2 (B : Body X k E) (h : H p = some (.tup [.int a, .int b])) (h' : H p' = some (.tup [.int c, .int d])) (q : Q (.bl (decide (a = c) && decide (b = d))) H) : Op2 X (compareOp .Eq) (.ref p) (.ref p') H Q :=
  op2_of (op_eqD (by have := B.room.un; omega)) ⟨.tuple [.int a, .int b], .tuple [.int c, .int d], .tup (.of h) (dp_ints [a, b]), .tup (.of h') (dp_ints [c, d]), shaped2 a b, shaped2 c d, by rw [eqv2]; exact q⟩
end
/-! ### what comes back, in any heap that has grown -/
def Num (H : Hp) (n : Nat) (Q : VK) : Prop := ∀ d H', Ex H H' → d.natAbs < 2 ^ n → Q (.int d) H'
def Und (H : Hp) (n : Nat) (Q : VK) : Prop := ∀ d H', Ex H H' → d ≠ 0 → d.natAbs < 2 ^ n → Q (.int d) H'
def Prs (H : Hp) (a b : Int) (Q : VK) : Prop := ∀ p H', Ex H H' → H' p = some (.tup [.int a, .int b]) → Q (.ref p) H'
def Yes (H : Hp) (Q : VK) : Prop := ∀ H', Ex H H' → Q (.bl true) H'
theorem Yes.mono {H H' : Hp} {Q : VK} (k : Yes H Q) (x : Ex H H') : Yes H' Q := fun H2 y => k H2 (x.trans y)
theorem ret_i {H : Hp} {R : V → Hp → Prop} {Q : VK} (h : ∀ v H', Ex H H' → R v H' → Q v H') : Ret H R Q := h
theorem draw_i {H : Hp} {n : Int} {Q : VK} (h : ∀ d H', Ex H H' → 0 ≤ d → d < n → Q (.int d) H') : Draw H n Q := h
theorem num_i {H : Hp} {n : Nat} {Q : VK} (h : ∀ d H', Ex H H' → d.natAbs < 2 ^ n → Q (.int d) H') : Num H n Q := h
theorem und_i {H : Hp} {n : Nat} {Q : VK} (h : ∀ d H', Ex H H' → d ≠ 0 → d.natAbs < 2 ^ n → Q (.int d) H') : Und H n Q := h
theorem prs_i {H : Hp} {a b : Int} {Q : VK} (h : ∀ p H', Ex H H' → H' p = some (.tup [.int a, .int b]) → Q (.ref p) H') : Prs H a b Q := h
theorem yes_i {H : Hp} {Q : VK} (h : ∀ H', Ex H H' → Q (.bl true) H') : Yes H Q := h
theorem Num.mono {H H' : Hp} {n : Nat} {Q : VK} (k : Num H n Q) (x : Ex H H') : Num H' n Q := fun d H2 y h => k d H2 (x.trans y) h
theorem Und.mono {H H' : Hp} {n : Nat} {Q : VK} (k : Und H n Q) (x : Ex H H') : Und H' n Q := fun d H2 y h h2 => k d H2 (x.trans y) h h2
theorem Prs.mono {H H' : Hp} {a b : Int} {Q : VK} (k : Prs H a b Q) (x : Ex H H') : Prs H' a b Q := fun p H2 y h => k p H2 (x.trans y) h
theorem cm_sm {i j : Int} (h1 : i.natAbs < 2 ^ 2000) (h2 : j.natAbs < 2 ^ 2000) : CMulW i j := wide_mul h1 h2 (by decide) (by decide) (by decide)
theorem le_pow {i : Int} {n m : Nat} (h : i.natAbs < 2 ^ n) (l : n ≤ m) : i.natAbs < 2 ^ m := Nat.lt_of_lt_of_le h (Nat.pow_le_pow_right (by decide) l)
end Rs
namespace Rs
open PySem PySem.Spec PyProof.Rows L2 He Mt
theorem tup_i {H : Hp} {vs : List V} {P : Addr → Hp → Prop} (hl : vs.length ≤ sizeLine) (h : ∀ p H', Ex H H' → H' p = some (.tup vs) → P p H') : vs.length ≤ sizeLine ∧ ∀ p H2, H p = none → Ex H H2 → H2 = upd H p (.tup vs) → P p H2 :=
  ⟨hl, fun p H2 h0 x e => h p H2 x (by rw [e]; exact upd_same)⟩
theorem lst_i {H : Hp} {vs : List V} {P : Addr → Hp → Prop} (hl : vs.length ≤ sizeLine) (h : ∀ p H', H p = none → Ex H H' → H' p = some (.lst vs) → P p H') : vs.length ≤ sizeLine ∧ ∀ p H2, H p = none → Ex H H2 → H2 = upd H p (.lst vs) → P p H2 :=
  ⟨hl, fun p H2 h0 x e => h p H2 h0 x (by rw [e]; exact upd_same)⟩
theorem len1 {a : V} : [a].length ≤ sizeLine := (show 1 ≤ sizeLine by decide)
theorem len5 {a b c d e : V} : [a, b, c, d, e].length ≤ sizeLine := (show 5 ≤ sizeLine by decide)
theorem len2 {a b : V} : [a, b].length ≤ sizeLine := (show 2 ≤ sizeLine by decide)
theorem len3 {a b c : V} : [a, b, c].length ≤ sizeLine := (show 3 ≤ sizeLine by decide)
theorem len4 {a b c d : V} : [a, b, c, d].length ≤ sizeLine := (show 4 ≤ sizeLine by decide)
def spBegin (K : PySem.W.Frag) : Sp := fun vs H Q _ => ∃ a ns, vs = [.ref a] ∧ SqL K H a (List.map V.int ns) ∧ ∀ p H', Ex H H' → Sou H' p → Q (.ref p) H'
theorem cut_ints (ns : List Int) (i : Int) : ∃ ms : List Int, cutV (ns.map V.int) none (some i) = ms.map V.int := by
  refine ⟨(ns.drop (HT.sIx (ns.map V.int).length 0 none)).take (HT.sIx (ns.map V.int).length (ns.map V.int).length (some i) - HT.sIx (ns.map V.int).length 0 none), ?_⟩
  unfold cutV
  rw [List.map_take, List.map_drop]
theorem src0 {l : Addr} {i b r : Int} (h1 : 0 ≤ i) (h2 : 0 ≤ r) (h3 : r < 2147483647) : SrcL l (.lst [.ref l, .int i, .int b, .int r]) := ⟨i, b, r, rfl, h1, h2, h3⟩
end Rs

namespace Rs
open PySem PySem.Spec PyProof.Rows L2 He
open AutoSeq1 (wpAny_loadPart')
/-! ### a def that returns NotImplemented -/
section
variable {X : Cx} {σ : L2.St} {H : Hp}
def SPN (X : Cx) (pins : List (Addr × Obj)) (D : Hp → Prop) (f : Flow) (s' : Shared) : Prop := f = .ret .notImplemented ∧ ∃ σ' H', Inv X pins σ' H' s' ∧ D H'
def WBN (X : Cx) (st : List Stmt) (D : Hp → Prop) (σ : L2.St) (H : Hp) : Prop := ∀ pins s, Inv X pins σ H s → wpAny (model X.prog X.w) X.A (execs st X.env) (SPN X pins D) X.xe s
theorem wbn_if {c : Expr} {p pos pos2 : Pos} {rest : List Stmt} {D : Hp → Prop} (bn : Bn X "NotImplemented") (h : WT X c σ H fun k H1 => k = true ∧ D H1) : WBN X (.If c [.Return (some (.Name "NotImplemented" p)) pos] [] pos2 :: rest) D σ H := by
  intro pins s I
  refine wpAny_execs_cons (wpAny_If (thn (h pins s I) fun d s1 z => ?_))
  obtain ⟨H1, I1, rfl, q⟩ := z
  refine wpAny_execs_cons (wpAny_Return_some (ld_blt I1 bn.gl bn.no PyProof.Rows.Boot.NotImplemented ?_))
  exact ⟨rfl, σ, H1, I1, q⟩
end
/-- a def, by position, that returns NotImplemented -/
abbrev SpN := List V → Hp → (Hp → Prop) → XK → Prop
def CRN (CX : CXT) (outer : List Env) (P : Program) (w : World) (H : Hp) (s : Shared) (D : Hp → Prop) (E : XK) (r : Result) (s' : Shared) : Prop :=
  match r with
  | .ok (.ret u) => u = .notImplemented ∧ ∃ H', s'.os = s.os ∧ AllBare s'.gens ∧ Un (frs outer) [] H H' s.heap s'.heap ∧ HOk P w H' s'.heap ∧ D H'
  | .ok _ => False
  | .error e => CX outer H s E e s'
def FnN (P : Program) (w : World) (K : PySem.W.Frag) (mg : Str → Option Value) (base : Heap) (CX : CXT) (k : Nat) (f : Addr) (sp : SpN) : Prop :=
  ∀ (A : Around) (outer : List Env) (s : Shared) (H : Hp) (us : List Value) (vs : List V) (D : Hp → Prop) (E : XK), Room k A → Env0 P w K mg base A outer s H → Vals vs us → sp vs H D E →
    codeAny (model P w) A (.call (.ref f) ⟨us, []⟩) (CRN CX outer P w H s D E) s
section
variable {P : Program} {w : World} {K : PySem.W.Frag} {mg : Str → Option Value} {base : Heap} {N ps : List Str} {name qual : Str} {pa : Arguments} {body : List Stmt} {sc : Scope} {dvs : List V} {kws : List (Str × V)} {f : Addr} {fd : FuncData} {k : Nat} {sp : SpN}
theorem def_ni (F : FunD K name qual pa body sc dvs kws f fd) (hb : Binds K fd ps []) (S : FnScope N ps sc) (len : ∀ vs H D E, sp vs H D E → vs.length = ps.length)
    (hbody : ∀ (X : Cx), X.prog = P → X.w = w → X.K = K → X.mg = mg → X.base = base → X.N = N → X.env.scope = sc → (∀ x, X.fn x = true) → N.Nodup → ∀ (H : Hp) (vs : List V) (D : Hp → Prop) (E : XK), Body X k (fun _ => E) → sp vs H D E → WBN X body D (start N vs) H) :
    FnN P w K mg base (RX P w) (k + 1) f sp := by
  obtain ⟨oc, od, dV, kV, doc, pm, an, cdv, ct, osl, rfl, lk, hcd, _, _⟩ := F.ex
  intro A outer s H us vs D E hr e0 r hsp
  have hl := len _ _ _ _ hsp
  have KX : K.In s.heap := e0.mod.kin.keeps fun b o e => (e0.bs b o e).1
  have lim : s.heap.NoLimit := e0.mod.nolimit.keeps fun b o e => (e0.bs b o e).1
  have hkind : ∀ y ∈ ps.zip us, sc.names.lookup y.1 = some .local ∨ (sc.names.lookup y.1 = some .cell ∧ ((cellsFrom (s.heap.objs.size + 1) sc.names []).lookup y.1).isSome = true) := fun ⟨n, v⟩ hy => by
    rcases S.par n (List.of_mem_zip hy).1 with q | q
    · exact .inl q
    · exact .inr ⟨q, PySem.W.cellsFrom_some _ _ _ (.inl q)⟩
  have hul : (us ++ []).length = ps.length := by rw [List.append_nil, ← r.length, hl]
  have hbd := hb s us KX hul
  rw [List.append_nil] at hbd
  refine codeAny_call_function hr.depth (KX _ _ lk) rfl S.co S.gen rfl (PySem.W.codeRec_of KX hcd) (hbd _ _ _ _ ?_)
  refine wpAny_newFunctionEnv_cells S.kind hkind fun env he s1 x => ?_
  subst he
  refine ⟨lim.keeps x.toInCall.keep, codeAny_func ?_⟩
  have I : Inv (bx P w K mg base N qual sc f cdv A outer s H E) [] (start N vs) H s1 := inv_start S hr.hd e0 hl r x
  have hq := hbody (bx P w K mg base N qual sc f cdv A outer s H E) rfl rfl rfl rfl rfl rfl rfl (fun _ => rfl) S.nd H vs D E (body_of (hr.deeper _)) hsp
  refine wpAny_mono (hq [] s1 I) (fun fl s' hs => ?_) fun e s' hs => hs
  obtain ⟨rfl, σ', H', J, q⟩ := hs
  exact ⟨rfl, H', J.os, J.bare, J.base, J.hok, q⟩
end
section
variable {X : Cx} {σ : L2.St} {H : Hp} {pins : List (Addr × Obj)} {s : Shared}
def EPN (X : Cx) (pins : List (Addr × Obj)) (σ : L2.St) (D : Hp → Prop) (u : Value) (s' : Shared) : Prop := u = .notImplemented ∧ ∃ H', Inv X pins σ H' s' ∧ D H'
theorem run_ni {A : Around} {j : Nat} {f : Addr} {sp : SpN} {E : XK} {D : Hp → Prop} {us : List Value} {vs : List V} (F : FnN X.prog X.w X.K X.mg X.base (RX X.prog X.w) j f sp) (hr : Room j A) (e0 : Env0 X.prog X.w X.K X.mg X.base A X.stack s H) (hx : Passes (RX X.prog X.w) X E) (I : Inv X pins σ H s) (r : Vals vs us) (h : sp vs H D E) :
    wpAny (model X.prog X.w) A (call (.ref f) us) (EPN X pins σ D) X.xe s := by
  refine wpAny_call (codeAny_mono (F A X.stack s H us vs D E hr e0 r h) fun r s' hq => ?_)
  cases r with
  | error e => exact hx pins σ H s e s' I hq
  | ok fl =>
    cases fl with
    | ret u =>
      obtain ⟨rfl, H', h1, h2, h3, h4, q⟩ := hq
      obtain ⟨v, H2, I2, _, q2⟩ := I.after (show CE X.stack X.prog X.w H s (fun _ H' => D H') Value.none s' from ⟨V.non, H', h1, h2, h3, h4, rfl, q⟩)
      exact ⟨rfl, H2, I2, q2⟩
    | next => exact False.elim hq
    | brk => exact False.elim hq
    | cont => exact False.elim hq
end

/-! ### object.__ne__ of an own class with an __eq__ of its own -/
theorem neOwn_ok {K : PySem.W.Frag} {C f : Addr} (h : neOwnB K C f = true) : NeOwn K C f := by
  obtain ⟨h1, h⟩ := ba h
  obtain ⟨h2, h⟩ := ba h
  obtain ⟨h3, h⟩ := ba h
  obtain ⟨h4, h⟩ := ba h
  obtain ⟨h5, h⟩ := ba h
  obtain ⟨h6, h⟩ := ba h
  obtain ⟨h7, h8⟩ := ba h
  exact ⟨of_decide_eq_true h1, h2, of_decide_eq_true h3, of_decide_eq_true h4, of_decide_eq_true h5, of_decide_eq_true h6, of_decide_eq_true h7, of_decide_eq_true h8⟩
section
variable {M : Model} {prog : Program} {w : World} {A : Around} {E : Value → Shared → Prop} {s : Shared} {K : PySem.W.Frag} {x C f : Addr} {ox : Obj} {od : Option Obj} {b : Value}
theorem ifBound_objNe {args : List Value} {Q : Option Value → Shared → Prop} (X : K.In s.heap) (I : PySem.W.InstAt s.heap x ox C od) (hs : PySem.W.findIn K (.ref C) "__ne__" = some (some (.builtin "object.__ne__")))
    (h : wpAny M A (call (.builtin "object.__ne__") (.ref x :: args)) (fun v => Q (some v)) E s) : wpAny M A (callSpecialIfBound? (.ref x) "__ne__" args) Q E s := by
  simp only [callSpecialIfBound?, bindSpecialIfBound?]
  refine wpAny_holding (wpAny_bind (wpAny_bind (wpAny_bind (I.type.here ((PySem.W.looks_findIn X hs).here ?_)))))
  refine wpAny_bind (wpAny_askSetting (wpAny_ite ?_))
  have fin : wpAny M A (call (.builtin "object.__ne__") ([.ref x] ++ args) >>= fun v => pure (some v)) Q E s := wpAny_bind (wpAny_mono h (fun v s' h' => wpAny_pure h') fun _ _ h' => h')
  split
  · exact wpAny_bind (wpAny_of_eq (F.cmp_object.ne.bind _) (wpAny_pure (by exact fin)))
  · exact wpAny_tryCatch (wpAny_bind (wpAny_of_eq (F.cmp_object.ne.bind _) (wpAny_pure (by exact fin))))
/-- x.__ne__(b) where x.__eq__(b) is a bool or NotImplemented -/
theorem try_ne {Q : Option Value → Shared → Prop} (hu : A.units + 1 < cLine) (X : K.In s.heap) (I : PySem.W.InstAt s.heap x ox C od) (c : NeOwn K C f)
    (h : wpAny (model prog w) A.in1 (call (.ref f) [.ref x, b]) (fun v s' => (∃ r, v = .bool r ∧ Q (some (.bool (!r))) s') ∨ (v = .notImplemented ∧ Q none s')) E s) :
    wpAny (model prog w) A (tryCompare (.ref x) "__ne__" b) Q E s := by
  unfold tryCompare
  refine wpAny_bind (ifBound_objNe X I c.ne (wpAny_call (codeAny_call_builtin F.cmp_object.ne.plain F.cmpEntry_ne (PySem.W.check_slot F.cmpKind_ne F.cmpSplit_ne (I.type.andThen (PySem.W.looks_mroIn X c.ob)) (F.cmpArgs_ne _ _) ?_))))
  unfold Builtin.«object.__ne__»
  have hu' : A.in1.units < cLine := hu
  repeat (first
    | with_reducible refine wpAny_cRoomFor hu' ?_
    | (refine wpAny_bind (m := callSpecialIfBound? (.ref x) (Str.ofString "__eq__") [b])
        (PySem.W.ifBound_K X I c.eq c.fn (wpAny_mono h (fun v s' z => ?_) fun _ _ e => e)))
    | wp_step)
  rcases z with ⟨r, rfl, q⟩ | ⟨rfl, q⟩
  · repeat (first | exact ⟨_, rfl, wpAny_pure q⟩ | exact wpAny_truthy_bool q | (refine wpAny_bind (m := truthy (.bool _)) (wpAny_truthy_bool ?_)) | wp_step)
    exact q
  · repeat (first | exact ⟨_, rfl, wpAny_pure q⟩ | wp_step)
    exact q
end

/-! ### a value of another kind beside an instance: its own == and != decline -/
section
variable (x : Addr) (ox : Obj)
theorem decl_ne (i : Int) (t : Tok) : Meets (Builtin.«int.__ne__» ⟨[.int i t, .ref x], []⟩) (DeclS x ox) := .of_wp fun prog w A R s q => by
  obtain ⟨hp, g, d, tk, os⟩ := s
  obtain ⟨e1, e2, z⟩ := q
  wp_walk using wpAny_loadPart' e1, wpAny_load e1
  rw [e2]
  wp_walk
  exact ⟨_, rfl, z⟩
end
section
variable {M : Model} {A : Around} {E : Value → Shared → Prop} {s : Shared} {K : PySem.W.Frag} {x C f p : Addr} {ox : Obj} {od : Option Obj} {Q : Fin → Shared → Prop}
end

section
variable {X : Cx} {k j : Nat} {E : XK} {sp : SpN} {C f a dx : Addr} {fs : List (Str × V)} {H : Hp} {Q : VK} {v : V}
theorem looks_ty {M : Model} {s : Shared} {u : Value} {T : String} (h : s.TypeIs u T) {A : Around} {E : Value → Shared → Prop} {Q : Value → Shared → Prop} (q : Q (.type T) s) : wpAny M A (typeOf u) Q E s := wpAny_typeOf h q
/-- x == v, v of another kind -/
theorem eq_fgn (B : Body X k fun _ => E) (c : NeOwn X.K C f) (F : FnN X.prog X.w X.K X.mg X.base (RX X.prog X.w) j f sp) (hj : j ≤ k) (ea : H a = some (.ins C dx fs)) (g : Fgn H v) (h : sp [.ref a, v] H (fun H' => H' a = some (.ins C dx fs) ∧ Fgn H' v ∧ Q (.bl false) H') E) :
    Op2 X (compareOp .Eq) (.ref a) v H Q := by
  intro pins s σ u u' I ru rv
  cases ru
  obtain ⟨od, J⟩ := inst_of I ea
  have G := g.at I rv ea c
  obtain ⟨T, hT, hs⟩ := G.ty
  have r1 := run_ni (us := [.ref a, u']) (vs := [.ref a, v]) F (B.room.mono hj) I.env0 B.pass I (.cons rfl (.cons rv .nil)) h
  show wpAny _ _ (richCompare .Eq (.ref a) u') _ _ s
  simp only [richCompare, cmpInfo_Eq, oneThing_ref]
  refine wpAny_holding (wpAny_bind (wpAny_cRoomFor B.room.units0 ?_))
  refine wpAny_bind (J.type.here (wpAny_bind (looks_ty hT ?_)))
  have ne : (Value.ref C != Value.type T) = true := by simp
  simp only [ne, if_true]
  refine wpAny_bind ((PySem.W.looks_subIn I.kIn hs).here ?_)
  simp only [Bool.false_eq_true, if_false, Bool.not_false, if_true]
  refine wpAny_bind (m := tryCompare (.ref a) _ u') ?_
  unfold tryCompare
  refine wpAny_bind (PySem.W.ifBound_K I.kIn J c.eq c.fn (wpAny_mono r1 (fun v s1 z => ?_) fun _ _ z => z))
  obtain ⟨rfl, H1, I1, e1, g1, q⟩ := z
  refine wpAny_pure ?_
  have G1 := g1.at I1 rv e1 c
  refine wpAny_bind (m := tryCompare u' _ (.ref a)) (wpAny_mono (G1.eq _ _ _ _) (fun r s2 z => ?_) fun _ _ z => z)
  obtain ⟨rfl, rfl⟩ := z
  exact wpAny_bind (wpAny_rule (wpAny_bind (G1.same _ _ _ _ (wpAny_pure ⟨.bl false, H1, I1, rfl, q⟩))))
/-- x != v, v of another kind -/
theorem ne_fgn (B : Body X k fun _ => E) (c : NeOwn X.K C f) (F : FnN X.prog X.w X.K X.mg X.base (RX X.prog X.w) j f sp) (hj : j + 1 ≤ k) (ea : H a = some (.ins C dx fs)) (g : Fgn H v) (h : sp [.ref a, v] H (fun H' => H' a = some (.ins C dx fs) ∧ Fgn H' v ∧ Q (.bl true) H') E) :
    Op2 X (compareOp .NotEq) (.ref a) v H Q := by
  intro pins s σ u u' I ru rv
  cases ru
  obtain ⟨od, J⟩ := inst_of I ea
  have G := g.at I rv ea c
  obtain ⟨T, hT, hs⟩ := G.ty
  have r1 := run_ni (us := [.ref a, u']) (vs := [.ref a, v]) F (B.room.mono hj).in1 I.env0.in1 B.pass I (.cons rfl (.cons rv .nil)) h
  show wpAny _ _ (richCompare .NotEq (.ref a) u') _ _ s
  simp only [richCompare, cmpInfo_NotEq, oneThing_ref]
  refine wpAny_holding (wpAny_bind (wpAny_cRoomFor B.room.units0 ?_))
  refine wpAny_bind (J.type.here (wpAny_bind (looks_ty hT ?_)))
  have ne : (Value.ref C != Value.type T) = true := by simp
  simp only [ne, if_true]
  refine wpAny_bind ((PySem.W.looks_subIn I.kIn hs).here ?_)
  simp only [Bool.false_eq_true, if_false, Bool.not_false, if_true]
  refine wpAny_bind (m := tryCompare (.ref a) _ u') (try_ne (by have := B.room.un; omega) I.kIn J c (wpAny_mono r1 (fun v s1 z => .inr ?_) fun _ _ z => z))
  obtain ⟨rfl, H1, I1, e1, g1, q⟩ := z
  refine ⟨rfl, ?_⟩
  have G1 := g1.at I1 rv e1 c
  refine wpAny_bind (m := tryCompare u' _ (.ref a)) (wpAny_mono (G1.ne _ _ _ _) (fun r s2 z => ?_) fun _ _ z => z)
  obtain ⟨rfl, rfl⟩ := z
  exact wpAny_bind (wpAny_rule (wpAny_bind (G1.same _ _ _ _ (wpAny_pure ⟨.bl true, H1, I1, rfl, q⟩))))
end
section
variable {X : Cx} {k j : Nat} {E : XK} {sp : Sp} {C f a b dx dy : Addr} {fs gs : List (Str × V)} {H : Hp} {Q : VK} {v : V} {i : Int}
/-- the answer of __eq__, turned round -/
def NotQ (Q : VK) : VK := fun z H' => ∃ r, z = .bl r ∧ Q (.bl (!r)) H'
theorem ne_back {pins : List (Addr × Obj)} {σ : L2.St} {A : Around} {t : Sem Value} {R : Value → Shared → Prop} {s : Shared} (h : wpAny (model X.prog X.w) A t (EP X pins σ (NotQ Q)) R s) :
    wpAny (model X.prog X.w) A t (fun v s' => (∃ r, v = .bool r ∧ EP X pins σ Q (.bool (!r)) s') ∨ (v = .notImplemented ∧ False)) R s := wpAny_mono h (fun u s' z => by
  obtain ⟨v, H', I, r, c, rfl, q⟩ := z
  cases r
  exact .inl ⟨c, rfl, .bl (!c), H', I, rfl, q⟩) fun _ _ z => z
theorem ne_own (B : Body X k fun _ => E) (c : NeOwn X.K C f) (F : FnR X.prog X.w X.K X.mg X.base (RX X.prog X.w) j f sp) (hj : j + 1 ≤ k) {pins : List (Addr × Obj)} {s : Shared} {σ : L2.St} {u' : Value} (I : Inv X pins σ H s) (rv : RelV v u') (ea : H a = some (.ins C dx fs)) (h : sp [.ref a, v] H (NotQ Q) E) :
    wpAny (model X.prog X.w) X.A (tryCompare (.ref a) "__ne__" u') (fun r s' => ∃ v, r = some v ∧ EP X pins σ Q v s') X.xe s := by
  obtain ⟨od, J⟩ := inst_of I ea
  have r1 := ne_back (wpAny_call (SlX.run_at (us := [.ref a, u']) (ws := [.ref a, v]) F (B.room.mono hj).in1 I.env0.in1 B.pass I (.cons rfl (.cons rv .nil)) h))
  refine try_ne (by have := B.room.un; omega) I.kIn J c (wpAny_mono r1 (fun v s1 z => ?_) fun _ _ z => z)
  rcases z with ⟨r, rfl, q⟩ | ⟨_, q⟩
  · exact .inl ⟨r, rfl, _, rfl, q⟩
  · exact q.elim
theorem ne_tt (B : Body X k fun _ => E) (c : NeOwn X.K C f) (F : FnR X.prog X.w X.K X.mg X.base (RX X.prog X.w) j f sp) (hj : j + 1 ≤ k) (ea : H a = some (.ins C dx fs)) (eb : H b = some (.ins C dy gs)) (h : sp [.ref a, .ref b] H (NotQ Q) E) :
    Op2 X (compareOp .NotEq) (.ref a) (.ref b) H Q := by
  intro pins s σ u v I ru rv
  cases ru
  cases rv
  obtain ⟨od, J⟩ := inst_of I ea
  obtain ⟨od', J'⟩ := inst_of I eb
  have r1 := ne_own B c F hj I (v := .ref b) (u' := .ref b) rfl ea h
  show wpAny _ _ (richCompare .NotEq (.ref a) (.ref b)) _ _ s
  simp only [richCompare, cmpInfo_NotEq, oneThing_ref]
  refine wpAny_holding (wpAny_bind (wpAny_cRoomFor B.room.units0 ?_))
  refine wpAny_bind (J.type.here (wpAny_bind (J'.type.here ?_)))
  have ne : (Value.ref C != Value.ref C) = false := by simp
  simp only [ne, Bool.false_eq_true, if_false]
  refine wpAny_bind (wpAny_pure ?_)
  simp only [Bool.false_eq_true, if_false]
  refine wpAny_bind (m := tryCompare (.ref a) _ (.ref b)) (wpAny_mono r1 (fun r s1 z => ?_) fun _ _ z => z)
  obtain ⟨w', rfl, q⟩ := z
  exact wpAny_pure q
theorem ne_ti (B : Body X k fun _ => E) (c : NeOwn X.K C f) (F : FnR X.prog X.w X.K X.mg X.base (RX X.prog X.w) j f sp) (hj : j + 1 ≤ k) (ea : H a = some (.ins C dx fs)) (h : sp [.ref a, .int i] H (NotQ Q) E) : Op2 X (compareOp .NotEq) (.ref a) (.int i) H Q := by
  intro pins s σ u v I ru rv
  cases ru
  obtain ⟨t, rfl⟩ := rv
  obtain ⟨od, J⟩ := inst_of I ea
  have r1 := ne_own B c F hj I (v := .int i) (u' := .int i t) ⟨t, rfl⟩ ea h
  show wpAny _ _ (richCompare .NotEq (.ref a) (.int i t)) _ _ s
  simp only [richCompare, cmpInfo_NotEq, oneThing_ref]
  refine wpAny_holding (wpAny_bind (wpAny_cRoomFor B.room.units0 ?_))
  refine wpAny_bind (J.type.here (wpAny_bind (looks_ty (typeIs_int _ _ _) ?_)))
  have ne : (Value.ref C != Value.type "int") = true := by simp
  simp only [ne, if_true]
  refine wpAny_bind ((PySem.W.looks_subIn I.kIn (sub_tc (l := ["int", "object"].map Value.type) (by decide +kernel) fun v h => tys h)).here ?_)
  simp only [Bool.false_eq_true, if_false, Bool.not_false, if_true]
  refine wpAny_bind (m := tryCompare (.ref a) _ (.int i t)) (wpAny_mono r1 (fun r s1 z => ?_) fun _ _ z => z)
  obtain ⟨w', rfl, q⟩ := z
  exact wpAny_pure q
theorem ne_it (B : Body X k fun _ => E) (c : NeOwn X.K C f) (F : FnR X.prog X.w X.K X.mg X.base (RX X.prog X.w) j f sp) (hj : j + 1 ≤ k) (ea : H a = some (.ins C dx fs)) (h : sp [.ref a, .int i] H (NotQ Q) E) : Op2 X (compareOp .NotEq) (.int i) (.ref a) H Q := by
  intro pins s σ u v I ru rv
  cases rv
  obtain ⟨t, rfl⟩ := ru
  obtain ⟨od, J⟩ := inst_of I ea
  have r1 := ne_own B c F hj I (v := .int i) (u' := .int i t) ⟨t, rfl⟩ ea h
  have l1 : s.TypeIs (.int i t) "int" := typeIs_int _ _ _
  have dcl : wpAny (model X.prog X.w) X.A (tryCompare (.int i t) "__ne__" (.ref a)) (fun r s' => r = none ∧ s' = s) X.xe s :=
    wpAny_tryCompare_declines l1 PySem.F.slot_int_ne (call_meets PySem.F.slot_int_ne l1 PySem.F.entry_int_ne (PySem.F.args_int_ne_2 _ _) (decl_ne a _ i t) ⟨J.at_, rfl, rfl, rfl, rfl⟩)
  show wpAny _ _ (richCompare .NotEq (.int i t) (.ref a)) _ _ s
  simp only [richCompare, cmpInfo_NotEq, l1.oneThing_none]
  refine wpAny_holding (wpAny_bind (wpAny_cRoomFor B.room.units0 ?_))
  refine wpAny_bind (looks_ty l1 (wpAny_bind (J.type.here ?_)))
  have ne : (Value.type "int" != Value.ref C) = true := by simp
  simp only [ne, if_true]
  refine wpAny_bind ((PySem.W.looks_subIn I.kIn c.sub).here ?_)
  simp only [Bool.false_eq_true, if_false, Bool.not_false, if_true]
  refine wpAny_bind (m := tryCompare (.int i t) _ (.ref a)) (wpAny_mono dcl (fun r s1 z => ?_) fun _ _ z => z)
  obtain ⟨rfl, rfl⟩ := z
  refine wpAny_bind (m := tryCompare (.ref a) _ (.int i t)) (wpAny_mono r1 (fun r s2 z => ?_) fun _ _ z => z)
  obtain ⟨w', rfl, q⟩ := z
  exact wpAny_pure q
end
end Rs

namespace Rs
open PySem PySem.Spec PyProof.Rows L2 He
/-! ### texts -/
/-- an int's text -/
def itx (i : Int) : Str := Str.ofString (toString i)
theorem itx_len {i : Int} (h : i.natAbs.log2 < 1920) : (itx i).length ≤ 1921 := int_text_len_1921 h
section
variable {X : Cx} {σ : L2.St} {H : Hp} {D : Ends} {Q : VK} {x y : Str} {i : Int} {a b c e : Expr} {p pos : Pos}
theorem we_strI (bn : Bn X "str") (h : WE X a σ H fun v H1 => ∃ i, v = .int i ∧ i.natAbs.log2 < 1920 ∧ Q (.str (itx i)) H1) (hs : starEach [a] X.env = [(false, eval a X.env)] := by rfl) (hl : (backTo pos (starEach [] X.env)).any (·.1) = false := by rfl) :
    WE X (.Call (.Name "str" p) [a] [] pos) σ H Q := we_callT call_str_int bn boot_str (wa_one (we_mono h fun v H1 q => by
    obtain ⟨i, rfl, h1, q⟩ := q
    exact ⟨i, rfl, h1, q⟩) hs) (by decide) (by decide) hs hl
theorem o_catS (hz : x.length + y.length ≤ sizeLine) (q : Q (.str (x ++ y)) H) : Op2 X (binaryOp .Add) (.str x) (.str y) H Q := op2_of op_add_str ⟨x, y, rfl, rfl, hz, q⟩
theorem we_fmt (h : WE X e σ H fun v H1 => (∃ y : Str, v = .str y ∧ y.length ≤ sizeLine ∧ Q (.str y) H1) ∨ ∃ i : Int, v = .int i ∧ i.natAbs.log2 < 1920 ∧ Q (.str (itx i)) H1) : WE X (.FormattedValue e (-1) none pos) σ H Q := weP (pe_fmt peS) h
theorem str_e (x : Str) : Str.empty ++ x = x := by
  cases x
  show Str.append _ _ = _
  simp [Str.append, Str.empty]
theorem str_assoc (x y z : Str) : x ++ y ++ z = x ++ (y ++ z) := by
  show Str.append (Str.append _ _) _ = Str.append _ (Str.append _ _)
  simp [Str.append, Array.append_assoc]
theorem str_len (x y : Str) : (x ++ y).length = x.length + y.length := by
  show (Str.append x y).length = _
  simp [Str.append, Str.length]
theorem we_js3 (h : WE X a σ H fun v H1 => ∃ x : Str, v = .str x ∧ x.length ≤ sizeLine ∧ WE X b σ H1 fun w H2 => ∃ y : Str, w = .str y ∧ (x ++ y).length ≤ sizeLine ∧ WE X c σ H2 fun u H3 => ∃ z : Str, u = .str z ∧ (x ++ y ++ z).length ≤ sizeLine ∧ Q (.str (x ++ y ++ z)) H3) : WE X (.JoinedStr [a, b, c] pos) σ H Q :=
  weP (pe_joined (.cons peS (.cons peS (.cons peS .nil)))) (we_mono h fun v H1 z => by
    obtain ⟨x, rfl, h1, z⟩ := z
    refine ⟨x, rfl, by rw [str_e]; exact h1, we_mono z fun w H2 z => ?_⟩
    obtain ⟨y, rfl, h2, z⟩ := z
    refine ⟨y, rfl, by rw [str_e]; exact h2, we_mono z fun u H3 z => ?_⟩
    obtain ⟨t, rfl, h3, z⟩ := z
    exact ⟨t, rfl, by rw [str_e]; exact h3, by rw [str_e]; exact z⟩)
end
/-- the text of a fraction in lowest terms -/
def ftx (n d : Int) : Str := if d = 1 then itx n else itx n ++ "/" ++ itx d

section
variable {X : Cx} {σ : L2.St} {H : Hp} {D : Ends} {k : Nat} {E : L2.St → XK} {x : Str} {px pos : Pos} {a : Expr} {i : Nat} {body : List Stmt}
/-- for x in a list: all is chosen once the list is there -/
def ForL (X : Cx) (xs : List V) (l : Addr) (i : Nat) (body : List Stmt) (D : Ends) (σ : L2.St) (H : Hp) : Prop :=
  ∃ P : Nat → L2.St → Hp → Prop, P 0 σ H ∧ (∀ j σ H, j ≤ xs.length → P j σ H → SqL X.K H l xs) ∧ (∀ j v σ H, xs[j]? = some v → P j σ H → WB X body { D with nx := P (j + 1), ct := P (j + 1), bk := D.nx } (σ.set i (some v)) H) ∧ ∀ σ H, P xs.length σ H → D.nx σ H
theorem ws_for_listE (B : Body X k E) (s : Sl X i x) (h : WE X a σ H fun v H1 => ∃ l xs, v = .ref l ∧ ForL X xs l i body D σ H1) (hs : ∀ v, foldedSetIterable a X.env v = pure v := by intro _; rfl) : WS X (.For (.Name x px) a body [] pos) D σ H := by
  refine wsP (ps_for B.po B.calm (pi_list peS) (pg_name s.nd s.at_ s.loc s.fn) pbS hs) ?_
  refine we_mono h fun v H1 q => ?_
  obtain ⟨l, xs, rfl, P, q0, hl, ht, hd⟩ := q
  exact ⟨l, rfl, ⟨xs, hl 0 σ H1 (Nat.zero_le _) q0⟩, for_list P q0 hl ht hd⟩
def ForT (X : Cx) (xs : List V) (l : Addr) (i : Nat) (body : List Stmt) (D : Ends) (σ : L2.St) (H : Hp) : Prop :=
  ∃ P : Nat → L2.St → Hp → Prop, P 0 σ H ∧ (∀ j σ H, j ≤ xs.length → P j σ H → SqT X.K H l xs) ∧ (∀ j v σ H, xs[j]? = some v → P j σ H → WB X body { D with nx := P (j + 1), ct := P (j + 1), bk := D.nx } (σ.set i (some v)) H) ∧ ∀ σ H, P xs.length σ H → D.nx σ H
theorem ws_for_tupE (B : Body X k E) (s : Sl X i x) (h : WE X a σ H fun v H1 => ∃ l xs, v = .ref l ∧ ForT X xs l i body D σ H1) (hs : ∀ v, foldedSetIterable a X.env v = pure v := by intro _; rfl) : WS X (.For (.Name x px) a body [] pos) D σ H := by
  refine wsP (ps_for B.po B.calm (pi_tup peS) (pg_name s.nd s.at_ s.loc s.fn) pbS hs) ?_
  refine we_mono h fun v H1 q => ?_
  obtain ⟨l, xs, rfl, P, q0, hl, ht, hd⟩ := q
  exact ⟨l, rfl, ⟨xs, hl 0 σ H1 (Nat.zero_le _) q0⟩, for_tup P q0 hl ht hd⟩
end
end Rs

namespace Rs
open PySem PySem.Spec PyProof.Rows L2 He
/-! ### try .. except -/
section
variable {X : Cx} {i : Nat} {x : Str} {pn : List (Addr × Obj)} {xe : Value → Shared → Prop} {a : Addr}
theorem Sl.tr (s : Sl X i x) : Sl (X.tr pn xe) i x := ⟨s.at_, s.nd, s.loc, s.fn, s.d1, s.d2⟩
theorem Gn.tr (s : Gn X x) : Gn (X.tr pn xe) x := ⟨s.gl, s.d1⟩
theorem Bn.tr (s : Bn X x) : Bn (X.tr pn xe) x := ⟨s.gl, s.no⟩
theorem Sl.su (s : Sl X i x) : Sl (X.suite a pn) i x := ⟨s.at_, s.nd, s.loc, s.fn, s.d1, s.d2⟩
theorem Gn.su (s : Gn X x) : Gn (X.suite a pn) x := ⟨s.gl, s.d1⟩
theorem Bn.su (s : Bn X x) : Bn (X.suite a pn) x := ⟨s.gl, s.no⟩
theorem Body.tr {k : Nat} {E E' : L2.St → XK} (B : Body X k E) (tk : L2N.Takes (X.tr pn xe) fun cls d σ H => E' σ cls d H) (po : PassesOwn (model X.prog X.w) X.A X.env xe) : Body (X.tr pn xe) k E' := ⟨B.calm, B.room, tk, po, B.stk, B.fr⟩
end
section
variable {X : Cx} {x n : Str} {c : Value} {i k : Nat} {E : L2.St → XK} {D : Ends} {σ : L2.St} {H : Hp} {body suite : List Stmt} {b₀ : Stmt} {np pos pos' : Pos}
/-- an except suite: where it runs, a the exception -/
def Sui (X : Cx) (st : List Stmt) (a : Addr) (cls : Value) (d : Option Addr) : TS := fun D σ H => ∀ oe pn, L2N.Zn cls d oe → (∃ vs, oe.data = .fields vs) → WB (X.suite a ((a, oe) :: pn)) st D σ H
theorem ws_try_as (B : Body X k E) (s : Sl X i n) (hln : X.env.kindOf n = some .local) (hc : Names X x c)
    (h : ∀ pn xe, Body (X.tr pn xe) k (fun σ cls d H => wAs X.K c i (Sui X (b₀ :: suite)) (fun cls d σ H => E σ cls d H) D cls d σ H) → WB (X.tr pn xe) body D σ H) (hf : ∀ x, X.fn x = true := by assumption) :
    WS X (.Try body [.ExceptHandler (some (.Name x np)) (some n) (b₀ :: suite) pos'] [] [] pos) D σ H :=
  wsP (L2N.ps_try_as (tb := fun W D σ H => ∀ pn xe, L2N.Takes (X.tr pn xe) W → PassesOwn (model X.prog X.w) X.A X.env xe → WB (X.tr pn xe) body D σ H) (ts := Sui X (b₀ :: suite)) (B.stk hf) (B.fr hf) s.nd s.at_ hln hc B.tk
    (fun W pn xe tk po => ⟨fun pins t σ H D I q => q pn xe tk po pins t I⟩) (fun a oe cls d pn hz hf => ⟨fun pins t σ H D I q => q oe pn hz hf pins t I⟩)) fun pn xe tk po => h pn xe (B.tr tk po)
theorem ws_try_only (B : Body X k E) (hc : Names X x c)
    (h : ∀ pn xe, Body (X.tr pn xe) k (fun σ cls d H => wMany X.K (fun cls d σ H => E σ cls d H) D [(c, Sui X (b₀ :: suite))] cls d σ H) → WB (X.tr pn xe) body D σ H) (hf : ∀ x, X.fn x = true := by assumption) :
    WS X (.Try body [.ExceptHandler (some (.Name x np)) none (b₀ :: suite) pos'] [] [] pos) D σ H :=
  wsP (L2N.ps_try_many (tb := fun W D σ H => ∀ pn xe, L2N.Takes (X.tr pn xe) W → PassesOwn (model X.prog X.w) X.A X.env xe → WB (X.tr pn xe) body D σ H) (l := [(c, Sui X (b₀ :: suite))]) (B.stk hf) (B.fr hf) B.tk
    (fun W pn xe tk po => ⟨fun pins t σ H D I q => q pn xe tk po pins t I⟩) (.cons hc (fun a oe cls d pn hz hf => ⟨fun pins t σ H D I q => q oe pn hz hf pins t I⟩) .nil)) fun pn xe tk po => h pn xe (B.tr tk po)
theorem nm_own {C : Addr} (g : Gn X x) (hm : X.mg x = some (.ref C)) : Names X x (.ref C) := ⟨g.gl, g.d1, .inl hm⟩
/-- the clause takes the exception -/
theorem as_yes {K : PySem.W.Frag} {ts : Addr → Value → Option Addr → TS} {Wout : WX} {cls : Value} {d : Option Addr} (e : PySem.W.exmOne K cls c = some true)
    (h : ∀ a, H a = none → ts a cls d { nx := fun σ' H' => D.nx (σ'.set i none) H', rt := D.rt, bk := fun σ' H' => D.bk (σ'.set i none) H', ct := fun σ' H' => D.ct (σ'.set i none) H' } (σ.set i (some (.ref a))) H) : wAs K c i ts Wout D cls d σ H :=
  ⟨true, e, fun _ => h, fun q => nomatch q⟩
theorem as_no {K : PySem.W.Frag} {ts : Addr → Value → Option Addr → TS} {Wout : WX} {cls : Value} {d : Option Addr} (e : PySem.W.exmOne K cls c = some false) (h : Wout cls d σ H) : wAs K c i ts Wout D cls d σ H := ⟨false, e, (fun q => nomatch q), fun _ => h⟩
theorem only_yes {K : PySem.W.Frag} {ts : Addr → Value → Option Addr → TS} {Wout : WX} {cls : Value} {d : Option Addr} (e : PySem.W.exmOne K cls c = some true) (h : ∀ a, H a = none → ts a cls d D σ H) : wMany K Wout D [(c, ts)] cls d σ H := ⟨true, e, fun _ => h, fun q => nomatch q⟩
theorem only_no {K : PySem.W.Frag} {ts : Addr → Value → Option Addr → TS} {Wout : WX} {cls : Value} {d : Option Addr} (e : PySem.W.exmOne K cls c = some false) (h : Wout cls d σ H) : wMany K Wout D [(c, ts)] cls d σ H := ⟨false, e, (fun q => nomatch q), fun _ => h⟩
end
/-! ### isinstance(e, C) in a suite -/
section
variable {X : Cx} {a D : Addr} {oe : Obj} {pn : List (Addr × Obj)} {σ : L2.St} {H : Hp} {Q : VK} {e b : Expr} {p pos : Pos}
theorem we_isE (C : ExcC X.K D) (hz : L2N.Zn (.ref D) none oe) (hf : ∃ vs, oe.data = .fields vs) (bn : Bn (X.suite a ((a, oe) :: pn)) "isinstance")
    (h : WE (X.suite a ((a, oe) :: pn)) e σ H fun v H1 => WE (X.suite a ((a, oe) :: pn)) b σ H1 fun w H2 => v = .ref a ∧ ∃ cv r, (∀ u, RelV w u → u = cv) ∧ PySem.W.kitOne X.K (.ref D) cv = some r ∧ Q (.bl r) H2)
    (hs : starEach [e, b] X.env = (false, eval e X.env) :: starEach [b] X.env := by rfl) (ht : starEach [b] X.env = [(false, eval b X.env)] := by rfl) (hl : (backTo pos (starEach [b] X.env)).any (·.1) = false := by rfl) :
    WE (X.suite a ((a, oe) :: pn)) (.Call (.Name "isinstance" p) [e, b] [] pos) σ H Q :=
  we_callB (call_isE (pn := pn) C hz.zc hf) bn boot_isinstance (wa_two (we_mono h fun v H1 q => we_mono q fun w H2 q => by
    obtain ⟨rfl, cv, r, h1, h2, q⟩ := q
    exact ⟨w, cv, r, rfl, h1, h2, q⟩) hs ht) (by decide) (by decide) hs hl
theorem cv_ref {K : PySem.W.Frag} {C : Addr} {r : Bool} {P : Bool → Prop} (h : PySem.W.kitOne K (.ref D) (.ref C) = some r) (q : P r) : V.ref a = .ref a ∧ ∃ cv r, (∀ u, RelV (.ref C) u → u = cv) ∧ PySem.W.kitOne K (.ref D) cv = some r ∧ P r := ⟨rfl, _, _, fun _ z => z, h, q⟩
theorem cv_ty {K : PySem.W.Frag} {T : String} {r : Bool} {P : Bool → Prop} (h : PySem.W.kitOne K (.ref D) (.type T) = some r) (q : P r) : V.ref a = .ref a ∧ ∃ cv r, (∀ u, RelV (.ty T) u → u = cv) ∧ PySem.W.kitOne K (.ref D) cv = some r ∧ P r := ⟨rfl, _, _, fun _ z => z, h, q⟩
end
theorem excC_ok {K : PySem.W.Frag} {D : Addr} (h : excCB K D = true) : ExcC K D := by
  obtain ⟨h1, h⟩ := ba h
  obtain ⟨h2, h⟩ := ba h
  obtain ⟨h3, h⟩ := ba h
  obtain ⟨h4, h⟩ := ba h
  obtain ⟨h5, h⟩ := ba h
  obtain ⟨h6, h⟩ := ba h
  obtain ⟨h7, h8⟩ := ba h
  exact ⟨of_decide_eq_true h1, of_decide_eq_true h2, of_decide_eq_true h3, h4, of_decide_eq_true h5, of_decide_eq_true h6, of_decide_eq_true h7, of_decide_eq_true h8⟩
end Rs

namespace Rs
open PySem PySem.Spec PyProof.Rows L2 He PySem.Calls ClX
/-! ### keywords -/
def WK (X : Cx) (kws : List Keyword) : TA := fun σ H Q => ∀ pos pins s, Inv X pins σ H s → wpAny (model X.prog X.w) X.A (evalAll ((backToKw pos (keywordEach kws X.env)).map (·.2))) (AP X pins σ Q) X.xe s
theorem pkS {X : Cx} {kws : List Keyword} : PK X kws (WK X kws) := ⟨fun pos pins s _ _ _ I h => h pos pins s I⟩
section
variable {X : Cx} {σ : L2.St} {H : Hp} {Q : VK} {QA : List V → Hp → Prop} {k j n : Nat} {E : L2.St → XK} {x : Str} {sp : Sp} {p pos kpos : Pos} {e : Expr} {es : List Expr} {kws : List Keyword} {C f : Addr} {fd : FuncData} {ps ks : List Str} {nm : Option Str} {g : List Value → List Value → List Value} {gV : List V → List V → List V}
theorem wk_nil (q : QA [] H) : WK X [] σ H QA := fun pos pins s I => pk_nil.run pos pins s σ H QA I q
theorem wk_cons (h : WE X e σ H fun v H1 => WK X kws σ H1 fun vs H2 => QA (v :: vs) H2) : WK X (⟨nm, e, kpos⟩ :: kws) σ H QA := fun pos pins s I => (pk_cons peS pkS).run pos pins s σ H QA I h
/-- a def called with keywords -/
def GKn (P : Program) (w : World) (K : PySem.W.Frag) (mg : Str → Option Value) (base : Heap) (k : Nat) (x : Str) (sp : Sp) (n : Nat) (ks : List Str) (gV : List V → List V → List V) : Prop :=
  ∃ f fd ps g, mg x = some (.ref f) ∧ PySem.W.keepIn K (.ref f) = true ∧ FnOk P w K mg base (RX P w) k f fd ps sp ∧ KBn K fd ps n ks g gV
theorem kw_at {CX : CXT} {E : XK} {pins : List (Addr × Obj)} {s : Shared} {us ws : List Value} {vs zs : List V} (F : FnOk X.prog X.w X.K X.mg X.base CX k f fd ps sp) (hr : Room k X.A) (hb : KBn X.K fd ps n ks g gV) (hx : PassesAt CX X σ E)
    (I : Inv X pins σ H s) (r : Vals vs us) (rz : Vals zs ws) (l1 : vs.length = n) (l2 : zs.length = ks.length) (h : sp (gV vs zs) H Q E) : wpAny (model X.prog X.w) X.A (call (.ref f) us (ks.zip ws)) (EP X pins σ Q) X.xe s :=
  wpAny_call (codeAny_mono (F.run _ _ s H _ _ _ Q E hr I.env0 (hb.to s us ws I.kIn (r.length.symm.trans l1) (rz.length.symm.trans l2)) (hb.rel r rz) h) (out_at hx I))
theorem we_callK (B : Body X k E) (gn : Gn X x) (f : GKn X.prog X.w X.K X.mg X.base j x sp n ks gV) (hj : j ≤ k) (h : WA X (e :: es) σ H fun vs H1 => WK X kws σ H1 fun zs H2 => vs.length = n ∧ zs.length = ks.length ∧ sp (gV vs zs) H2 Q (E σ))
    (hall : (backToKw pos (keywordEach kws X.env)).all (·.1.isSome) = true := by rfl) (hks : (backToKw pos (keywordEach kws X.env)).filterMap (·.1) = ks := by rfl)
    (he : starEach (e :: es) X.env = (false, eval e X.env) :: starEach es X.env := by rfl) (hpl : ((backTo pos (starEach (e :: es) X.env)).any (·.1) || (backToKw pos (keywordEach kws X.env)).any (·.1.isNone)) = false := by rfl) :
    WE X (.Call (.Name x p) (e :: es) kws pos) σ H Q := by
  obtain ⟨f, fd, ps, g, hm, hk, F, hb⟩ := f
  intro pins s I
  refine wpAny_Call_Name_kw (ld_glob I gn.gl hm ?_ gn.d1)
  refine PySem.W.callWith_KW (h₀ := X.base) I.ok.mod.kin hk hall (thn (h pos pins s I) fun us s1 z => ?_) hpl he
  obtain ⟨vs, H1, I1, r, q⟩ := z
  refine thn (q pos pins s1 I1) fun ws s2 z => ?_
  obtain ⟨zs, H2, I2, rz, l1, l2, q⟩ := z
  refine ⟨I2.kIn, ?_⟩
  rw [hks]
  exact kw_at F (B.room.mono hj) hb (B.at σ) I2 r rz l1 l2 q
/-- a class made with keywords -/
def GKk (P : Program) (w : World) (K : PySem.W.Frag) (mg : Str → Option Value) (base : Heap) (k : Nat) (x : Str) (C : Addr) (sp : Sp) (n : Nat) (ks : List Str) (gV : List V → List V → List V) : Prop :=
  ∃ f fd ps g, mg x = some (.ref C) ∧ Mk K C f ∧ FnOk P w K mg base (RX P w) k f fd ps sp ∧ KBn K fd ps (n + 1) ks g gV
theorem kmake_at {CX : CXT} {E : XK} {pins : List (Addr × Obj)} {s : Shared} {us ws : List Value} {vs zs : List V} (M : Mk X.K C f) (F : FnOk X.prog X.w X.K X.mg X.base CX k f fd ps sp) (hr : Room (k + 1) X.A) (hb : KBn X.K fd ps (n + 1) ks g gV)
    (hx : PassesAt CX X σ E) (I : Inv X pins σ H s) (r : Vals vs us) (rz : Vals zs ws) (l1 : vs.length = n) (l2 : zs.length = ks.length) (h : ∀ a dx, H a = none → H dx = none → dx ≠ a → sp (gV (.ref a :: vs) zs) (upd (upd H dx (.own a)) a (.ins C dx [])) (fun v H2 => v = .non ∧ Q (.ref a) H2) E) :
    wpAny (model X.prog X.w) X.A (call (.ref C) us (ks.zip ws)) (EP X pins σ Q) X.xe s := by
  have J := Inv.made (C := C) I
  have hq := h (s.heap.objs.size + 1) s.heap.objs.size (I.hok.fresh (Nat.le_succ _)) (I.hok.fresh (Nat.le_refl _)) (Nat.ne_of_lt (Nat.lt_succ_self _))
  have ru : Vals (V.ref (s.heap.objs.size + 1) :: vs) (Value.ref (s.heap.objs.size + 1) :: us) := .cons rfl r
  have bd := hb.to _ (Value.ref (s.heap.objs.size + 1) :: us) ws J.kIn (ru.length.symm.trans (congrArg Nat.succ l1)) (rz.length.symm.trans l2)
  have run := F.run _ X.stack _ _ ⟨Value.ref (s.heap.objs.size + 1) :: us, ks.zip ws⟩ _ _ _ E (hr.make C us (ks.zip ws)) (J.env0.make C us (ks.zip ws)) bd (hb.rel ru rz) hq
  refine wpAny_call (make_map (f := f) I.kIn M.makes M.init (beq_iff_eq.mp M.fn) (codeAny_mono run fun o t q => ?_))
  have z := out_at hx J o t q
  cases o with
  | error e => exact z
  | ok fl =>
    cases fl with
    | ret u =>
      obtain ⟨v, H', I3, rv, rfl, q3⟩ := z
      exact ⟨rv, ⟨V.ref (s.heap.objs.size + 1), H', I3, rfl, q3⟩⟩
    | next => exact z.elim
    | brk => exact z.elim
    | cont => exact z.elim
theorem we_makeK (B : Body X k E) (gn : Gn X x) (f : GKk X.prog X.w X.K X.mg X.base j x C sp n ks gV) (hj : j + 1 ≤ k) (h : WA X (e :: es) σ H fun vs H1 => WK X kws σ H1 fun zs H2 => vs.length = n ∧ zs.length = ks.length ∧ ∀ a dx, H2 a = none → H2 dx = none → dx ≠ a → sp (gV (.ref a :: vs) zs) (upd (upd H2 dx (.own a)) a (.ins C dx [])) (fun v H3 => v = .non ∧ Q (.ref a) H3) (E σ))
    (hall : (backToKw pos (keywordEach kws X.env)).all (·.1.isSome) = true := by rfl) (hks : (backToKw pos (keywordEach kws X.env)).filterMap (·.1) = ks := by rfl)
    (he : starEach (e :: es) X.env = (false, eval e X.env) :: starEach es X.env := by rfl) (hpl : ((backTo pos (starEach (e :: es) X.env)).any (·.1) || (backToKw pos (keywordEach kws X.env)).any (·.1.isNone)) = false := by rfl) :
    WE X (.Call (.Name x p) (e :: es) kws pos) σ H Q := by
  obtain ⟨f, fd, ps, g, hm, M, F, hb⟩ := f
  intro pins s I
  refine wpAny_Call_Name_kw (ld_glob I gn.gl hm ?_ gn.d1)
  refine PySem.W.callWith_KW (h₀ := X.base) I.ok.mod.kin M.kp hall (thn (h pos pins s I) fun us s1 z => ?_) hpl he
  obtain ⟨vs, H1, I1, r, q⟩ := z
  refine thn (q pos pins s1 I1) fun ws s2 z => ?_
  obtain ⟨zs, H2, I2, rz, l1, l2, q⟩ := z
  refine ⟨I2.kIn, ?_⟩
  rw [hks]
  exact kmake_at M F (B.room.mono hj) hb (B.at σ) I2 r rz l1 l2 q
theorem we_makeK0 (B : Body X k E) (gn : Gn X x) (f : GKk X.prog X.w X.K X.mg X.base j x C sp 0 ks gV) (hj : j + 1 ≤ k) (h : WK X kws σ H fun zs H2 => zs.length = ks.length ∧ ∀ a dx, H2 a = none → H2 dx = none → dx ≠ a → sp (gV [.ref a] zs) (upd (upd H2 dx (.own a)) a (.ins C dx [])) (fun v H3 => v = .non ∧ Q (.ref a) H3) (E σ))
    (hall : (backToKw pos (keywordEach kws X.env)).all (·.1.isSome) = true := by rfl) (hks : (backToKw pos (keywordEach kws X.env)).filterMap (·.1) = ks := by rfl)
    (hpl : ((backTo pos (starEach [] X.env)).any (·.1) || (backToKw pos (keywordEach kws X.env)).any (·.1.isNone)) = false := by rfl) :
    WE X (.Call (.Name x p) [] kws pos) σ H Q := by
  obtain ⟨f, fd, ps, g, hm, M, F, hb⟩ := f
  intro pins s I
  refine wpAny_Call_Name_kw (ld_glob I gn.gl hm ?_ gn.d1)
  refine PySem.W.callWith_KW0 (h₀ := X.base) I.ok.mod.kin M.kp hall ?_ hpl
  refine thn (h pos pins s I) fun ws s2 z => ?_
  obtain ⟨zs, H2, I2, rz, l2, q⟩ := z
  refine ⟨I2.kIn, ?_⟩
  rw [hks]
  exact kmake_at (us := []) (vs := []) M F (B.room.mono hj) hb (B.at σ) I2 .nil rz rfl l2 q
end
/-! ### C.m(..), m a static method -/
structure StatOf (K : PySem.W.Frag) (C : Addr) (m : Str) (p g : Addr) : Prop where
  rd : CRead K C (.type "type")
  ty : PySem.W.typeIn K (.ref C) = some (.type "type")
  at_ : PySem.W.findCls K (.ref C) (.type "type") m = some (.get (.builtin "staticmethod.__get__") (.ref p) .none (.ref C))
  rc : ∃ rest, PySem.W.recIn K p "staticmethod" = some (.ref g :: rest)
  kp : PySem.W.keepIn K (.ref g) = true
def sgA (K : PySem.W.Frag) (C : Addr) (m : Str) : Addr := match PySem.W.recIn K (ma K C m) "staticmethod" with
  | some (.ref g :: _) => g
  | _ => 0
def statB (K : PySem.W.Frag) (C : Addr) (m : Str) : Bool := PySem.W.readsIn K C (.type "type") && (decide (PySem.W.specialIn K (.ref C) "__getattribute__" = some (some (.builtin "type.__getattribute__"))) && (decide (PySem.W.typeIn K (.ref C) = some (.type "type")) &&
  ((match PySem.W.findCls K (.ref C) (.type "type") m with
    | some (.get i p o D) => decide (i = .builtin "staticmethod.__get__") && (decide (p = .ref (ma K C m)) && (decide (o = .none) && decide (D = .ref C)))
    | _ => false) && (PySem.W.keepIn K (.ref (sgA K C m)) &&
  (match PySem.W.recIn K (ma K C m) "staticmethod" with
    | some (.ref g :: _) => decide (g = sgA K C m)
    | _ => false)))))
theorem stat_ok {K : PySem.W.Frag} {C : Addr} {m : Str} (h : statB K C m = true) : StatOf K C m (ma K C m) (sgA K C m) := by
  obtain ⟨h1, h⟩ := ba h
  obtain ⟨h2, h⟩ := ba h
  obtain ⟨h3, h⟩ := ba h
  obtain ⟨h4, h⟩ := ba h
  obtain ⟨h5, h6⟩ := ba h
  refine ⟨⟨h1, of_decide_eq_true h2⟩, of_decide_eq_true h3, ?_, ?_, h5⟩
  · generalize hr : PySem.W.findCls K (.ref C) (.type "type") m = r at h4
    match r, h4 with
    | some (.get i p o D), h4 =>
      obtain ⟨q1, q⟩ := ba h4
      obtain ⟨q2, q⟩ := ba q
      obtain ⟨q3, q4⟩ := ba q
      rw [of_decide_eq_true q1, of_decide_eq_true q2, of_decide_eq_true q3, of_decide_eq_true q4]
  · generalize hr : PySem.W.recIn K (ma K C m) "staticmethod" = r at h6
    match r, h6 with
    | some (.ref g :: rest), h6 => exact ⟨rest, by rw [of_decide_eq_true h6]⟩
section
variable {X : Cx} {σ : L2.St} {H : Hp} {Q : VK} {k j : Nat} {E : L2.St → XK} {m : Str} {sp : Sp} {pos apos : Pos} {o e : Expr} {es : List Expr} {C p g : Addr}
theorem we_stat {pl : Sem Bool} (B : Body X k E) (t : StatOf X.K C m p g) (F : FnR X.prog X.w X.K X.mg X.base (RX X.prog X.w) j g sp) (hj : j ≤ k) (h : WE X o σ H fun y H1 => y = .ref C ∧ WA X (e :: es) σ H1 fun vs H2 => sp vs H2 Q (E σ))
    (hs : starEach (e :: es) X.env = (false, eval e X.env) :: starEach es X.env := by rfl) (hl : (backTo pos (starEach es X.env)).any (·.1) = false := by rfl)
    (ht : eval (.Call (.Attribute o m apos) (e :: es) [] pos) X.env = (do
      let it ← eval o X.env
      standAt apos.atName
      let (g, first) ← holding [it] (getMethod it m pl)
      callWith pos g first (backTo pos (starEach (e :: es) X.env)) (backToKw pos (keywordEach [] X.env))) := by rfl) : WE X (.Call (.Attribute o m apos) (e :: es) [] pos) σ H Q := by
  intro pins s I
  refine PySem.W.methodCall_KW (pl := pl) (thn (h pins s I) fun u s1 z => ?_) ht
  obtain ⟨y, H1, I1, ry, rfl, q⟩ := z
  cases ry
  obtain ⟨rest, hp⟩ := t.rc
  refine PySem.W.method_cls I1.kIn t.rd.ga (PySem.W.cls_bind I1.kIn t.rd.rd t.at_ (wpAny_call (PySem.W.sm_get (s := { s1 with toks := s1.toks + 1 }) I1.kIn hp (PySem.W.handed_on rfl ?_))))
  have I2 := I1.tok (s1.toks + 1)
  refine PySem.W.callWith_K (first := []) (h₀ := X.base) I.ok.mod.kin t.kp (thn (q pos pins _ I2) fun us s2 z => ?_) hs hl
  obtain ⟨vs, H2, I3, r, q2⟩ := z
  exact ⟨I3.kIn, go_at F (B.room.mono hj) (B.at σ) I3 r q2⟩
end
/-! ### an own __bool__ -/
structure BoolOwn (K : PySem.W.Frag) (C f : Addr) : Prop where
  at_ : PySem.W.findIn K (.ref C) "__bool__" = some (some (.ref f))
  fn : PySem.W.isFn K (.ref f) = true
def boolOwnB (K : PySem.W.Frag) (C f : Addr) : Bool := decide (PySem.W.findIn K (.ref C) "__bool__" = some (some (.ref f))) && PySem.W.isFn K (.ref f)
theorem boolOwn_ok {K : PySem.W.Frag} {C f : Addr} (h : boolOwnB K C f = true) : BoolOwn K C f := by
  obtain ⟨h1, h2⟩ := ba h
  exact ⟨of_decide_eq_true h1, h2⟩
theorem bool_own {prog : Program} {w : World} {A : Around} {R : Value → Shared → Prop} {P : Value → Shared → Prop} {s : Shared} {K : PySem.W.Frag} {x C f : Addr} {ox : Obj} {od : Option Obj} (KX : K.In s.heap) (J : PySem.W.InstAt s.heap x ox C od) (c : BoolOwn K C f)
    (h : wpAny (model prog w) A.in1.in1 (call (.ref f) [.ref x]) (fun v t => ∃ b, v = .bool b ∧ P (.bool b) t) R s) : wpAny (model prog w) A (call (.type "bool") [.ref x]) P R s := by
  refine callType_codes (T := "bool") (Bi := Builtin.«object.__init__») (Q₁ := fun r t => ∃ b, r = .bool b ∧ P r t) PySem.F.called_bool (PySem.F.typeCall_bool_1 _) PySem.F.entry_object_init ?_ ?_
  · refine codeAny_of_tree ?_
    show wpAny _ A.in1.in1 (do checkBuiltinCall "bool.__new__" ⟨[.type "bool", .ref x], []⟩; again (.builtin "bool.__new__" ⟨[.type "bool", .ref x], []⟩)) _ _ s
    refine wpAny_bind (wpAny_of_eq (PySem.F.newCall_bool_1 _) (wpAny_pure ⟨plainId_quiet (by decide +kernel) _, codeAny_builtin PySem.F.entry_bool_new ?_⟩))
    rw [Around.under_plainId (by decide +kernel) _]
    unfold Builtin.«bool.__new__»
    have f1 := PySem.F.conv_sub_bool
    repeat (first
      | (refine wpAny_bind (m := callSpecial? (.ref x) (Str.ofString "__bool__")) (PySem.W.special_fn KX J c.at_ (beq_iff_eq.mp c.fn) (wpAny_mono h (fun v t z => ?_) fun _ _ z => z)))
      | (unfold truthy; refine wpAny_bind (wpAny_bind (m := callSpecial? (.ref x) (Str.ofString "__bool__")) (PySem.W.special_fn KX J c.at_ (beq_iff_eq.mp c.fn) (wpAny_mono h (fun v t z => ?_) fun _ _ z => z))))
      | assumption
      | wp_step)
    obtain ⟨b, rfl, q⟩ := z
    repeat (first | exact ⟨b, rfl, q⟩ | exact wpAny_pure ⟨b, rfl, q⟩ | wp_step)
  · rintro obj t ⟨b, rfl, q⟩
    exact ⟨rfl, PySem.F.args_object_init_2 _ _, object_init_meets PySem.F.called_bool.init.lookup PySem.F.called_bool.made (by decide) prog w A.in1 _ t ⟨rfl, rfl, q⟩⟩
end Rs

namespace Rs
open PySem PySem.Spec PyProof.Rows L2 He
/-! ### calls within an except suite (of defs that raise nothing there) -/
section
variable {P : Program} {w : World} {K : PySem.W.Frag} {mg : Str → Option Value} {base : Heap} {N ps : List Str} {name qual : Str} {pa : Arguments} {body : List Stmt} {sc : Scope} {dvs : List V} {kws : List (Str × V)} {f : Addr} {fd : FuncData} {k : Nat} {sp : Sp}
theorem def_okH (F : FunD K name qual pa body sc dvs kws f fd) (S : FnScope N ps sc) (len : ∀ vs H Q E, sp vs H Q E → vs.length = ps.length)
    (hb : ∀ (X : Cx), X.prog = P → X.w = w → X.K = K → X.mg = mg → X.base = base → X.N = N → X.env.scope = sc → (∀ x, X.fn x = true) → N.Nodup → ∀ (H : Hp) (vs : List V) (Q : VK) (E : XK), L2H.HotC X → L2H.RoomH k X.A → sp vs H Q E → WB X body { nx := fun _ H' => Q .non H', rt := Q } (start N vs) H) :
    L2H.FnH P w K mg base CX0 (k + 1) f fd ps sp := by
  obtain ⟨oc, od, dV, kV, doc, pm, an, cdv, ct, osl, rfl, lk, hcd, _, _⟩ := F.ex
  exact L2H.fn_ofH lk hcd S len fun A outer s H vs Q E p hot hr h => ⟨_, pbS, hb (L2H.cxH CX0 P w K mg base N qual sc f cdv A outer s H E p) rfl rfl rfl rfl rfl rfl rfl (fun _ => rfl) S.nd H vs Q E ⟨p, hot, List.mem_cons_self⟩ hr h⟩
def GFnH (P : Program) (w : World) (K : PySem.W.Frag) (mg : Str → Option Value) (base : Heap) (k : Nat) (x : Str) (sp : Sp) : Prop :=
  ∃ f fd ps, mg x = some (.ref f) ∧ PySem.W.keepIn K (.ref f) = true ∧ L2H.FnH P w K mg base CX0 k f fd ps sp ∧ Binds K fd ps []
end
section
variable {X : Cx} {σ : L2.St} {H : Hp} {Q : VK} {k j : Nat} {x : Str} {sp : Sp} {p pos : Pos} {e : Expr} {es : List Expr}
theorem we_callH (hc : L2H.HotC X) (hr : L2H.RoomH k X.A) (g : Gn X x) (f : GFnH X.prog X.w X.K X.mg X.base j x sp) (hj : j ≤ k) (h : WA X (e :: es) σ H fun vs H1 => sp vs H1 Q E0)
    (hs : starEach (e :: es) X.env = (false, eval e X.env) :: starEach es X.env := by rfl) (hl : (backTo pos (starEach es X.env)).any (·.1) = false := by rfl) : WE X (.Call (.Name x p) (e :: es) [] pos) σ H Q := by
  obtain ⟨a, fd, ps, hm, hk, F, hb⟩ := f
  exact weP (L2H.pe_callH (E := fun _ => E0) F (hr.mono hj) hc g.gl hm hk hb (fun σ _ _ _ _ _ _ c => c.elim) paS g.d1 hs hl) h
theorem hot_suite {a : Addr} {oe : Obj} {cls : Value} {d : Option Addr} {pn : List (Addr × Obj)} (hz : L2N.Zn cls d oe) (hf : ∃ vs, oe.data = .fields vs) : L2H.HotC (X.suite a ((a, oe) :: pn)) := by
  obtain ⟨vs, hv⟩ := hf
  exact ⟨(a, oe), ⟨rfl, vs, hv, hz.2.2 vs hv⟩, List.mem_cons_self⟩
theorem room_suite {a : Addr} {pn : List (Addr × Obj)} {E : L2.St → XK} (B : Body X k E) : L2H.RoomH k (X.suite a pn).A := ⟨B.room.dp, B.room.un⟩
end
end Rs

namespace Rs
open PySem PySem.Spec PyProof.Rows L2 He
/-! ### operators that may raise, at these slots -/
def OpA (X : Cx) (f : Value → Value → Sem Value) (σ : L2.St) (x y : V) (H : Hp) (Q : VK) : Prop := ∀ pins s u v, Inv X pins σ H s → RelV x u → RelV y v → wpAny (model X.prog X.w) X.A (f u v) (EP X pins σ Q) X.xe s
section
variable {X : Cx} {σ : L2.St} {k j : Nat} {E : L2.St → XK} {sp : Sp} {C f g a b dx dy : Addr} {fs gs : List (Str × V)} {H : Hp} {Q : VK} {op : Operator} {i : Int} {e1 e2 : Expr} {pos : Pos}
theorem we_binA (h : WE X e1 σ H fun x H1 => WE X e2 σ H1 fun y H2 => OpA X (binaryOp op) σ x y H2 Q) : WE X (.BinOp e1 op e2 pos) σ H Q := fun pins s I =>
  wpAny_BinOp (binT peS peS (R := fun x y H2 => OpA X (binaryOp op) σ x y H2 Q) I h fun v u s2 x y H2 I2 rx ry q => q pins s2 v u I2 rx ry)
theorem binA_tt (B : Body X k E) (c : BinOwn X.K C f op) (F : FnR X.prog X.w X.K X.mg X.base (RX X.prog X.w) j f sp) (hj : j ≤ k) (ea : H a = some (.ins C dx fs)) (eb : H b = some (.ins C dy gs)) (h : sp [.ref a, .ref b] H Q (E σ)) :
    OpA X (binaryOp op) σ (.ref a) (.ref b) H Q := by
  intro pins s u v I ru rv
  cases ru
  cases rv
  obtain ⟨od, J⟩ := inst_of I ea
  obtain ⟨od', J'⟩ := inst_of I eb
  obtain ⟨m, hF⟩ := I.fr
  exact PySem.W.binop_K hF I.ok.mod.kin J J'.type c.sf c.at_ c.fn (back (go_at (vs := [.ref a, .ref b]) F (B.room.mono hj) (B.at σ) I (.cons rfl (.cons rfl .nil)) h))
theorem binA_ti (B : Body X k E) (c : BinOwn X.K C f op) (F : FnR X.prog X.w X.K X.mg X.base (RX X.prog X.w) j f sp) (hj : j ≤ k) (ea : H a = some (.ins C dx fs)) (h : sp [.ref a, .int i] H Q (E σ)) : OpA X (binaryOp op) σ (.ref a) (.int i) H Q := by
  intro pins s u v I ru rv
  cases ru
  obtain ⟨t, rfl⟩ := rv
  obtain ⟨od, J⟩ := inst_of I ea
  obtain ⟨m, hF⟩ := I.fr
  obtain ⟨rc, h1, h2⟩ := c.rc
  obtain ⟨fo, ro, h3, h4⟩ := c.it
  exact PySem.W.ksp_binT (T := "int") hF I.ok.mod.kin J rfl c.sf c.at_ c.fn h1 h2 h3 h4 c.sub (back (go_at (vs := [.ref a, .int i]) F (B.room.mono hj) (B.at σ) I (.cons rfl (.cons ⟨t, rfl⟩ .nil)) h))
theorem binA_it (B : Body X k E) (c : BinRef X.K C g op) (hf : fillsNumberSlot (.type "int") op.info.2 = pure true) (d : IntDecl (dunder op.info.2)) (F : FnR X.prog X.w X.K X.mg X.base (RX X.prog X.w) j g sp) (hj : j ≤ k) (ea : H a = some (.ins C dx fs))
    (h : sp [.ref a, .int i] H Q (E σ)) : OpA X (binaryOp op) σ (.int i) (.ref a) H Q := by
  intro pins s u v I ru rv
  cases rv
  obtain ⟨t, rfl⟩ := ru
  obtain ⟨od, J⟩ := inst_of I ea
  exact int_left I.kIn J rfl c hf d (back (go_at (vs := [.ref a, .int i]) F (B.room.mono hj) (B.at σ) I (.cons rfl (.cons ⟨t, rfl⟩ .nil)) h))
theorem op2A {f : Value → Value → Sem Value} {x y : V} (h : Op2 X f x y H Q) : OpA X f σ x y H Q := fun pins s u v I => h pins s σ u v I
end
theorem decl_fdiv (i : Int) (t : Tok) (x : Addr) (ox : Obj) : Meets (Builtin.«int.__floordiv__» ⟨[.int i t, .ref x], []⟩) (DeclS x ox) := .of_wp fun prog w A R s q => by
  obtain ⟨hp, g, d, tk, os⟩ := s
  obtain ⟨e1, e2, z⟩ := q
  wp_walk using AutoSeq1.wpAny_loadPart' e1, wpAny_load e1
  simp only [e2]
  wp_walk using AutoSeq1.wpAny_loadPart' e1, wpAny_load e1
  simp only [e2]
  wp_walk using AutoSeq1.wpAny_loadPart' e1, wpAny_load e1
  exact ⟨_, rfl, z⟩
theorem idecl_fdiv : IntDecl (dunder "floordiv") := ⟨_, _, PySem.F.slot_int_floordiv, PySem.F.entry_int_floordiv, PySem.F.args_int_floordiv_2, decl_fdiv⟩
end Rs

namespace Rs
open PySem PySem.Spec PyProof.Rows L2 He
/-! ### within a comprehension's block -/
abbrev Bk (X : Cx) (s : Shared) (H : Hp) (scope : Scope) (C : Addr) (cl : List (Str × Addr)) (fp : List Addr) : Cx := X.blk s H scope (compEnvC scope cl C X.env) fp
section
variable {X : Cx} {s : Shared} {H : Hp} {scope : Scope} {C : Addr} {cl : List (Str × Addr)} {fp : List Addr} {k i : Nat} {E : L2.St → XK} {x : Str}
theorem Body.blk (B : Body X k E) (h0 : scope.names.lookup ("0" : Str) = none) : Body (Bk X s H scope C cl fp) k fun _ => E0 :=
  ⟨B.calm, B.room, (fun _ _ y => by obtain ⟨_, _, _, _, _, _, _, _, _, _, _, _, _, _, _, _, z⟩ := y; exact z.elim), PassesOwn.never,
    (fun hf => absurd (hf "0") (by show ¬ ((scope.names.lookup ("0" : Str) == some NameKind.cell) = true); rw [h0]; decide)), (fun hf => absurd (hf "0") (by show ¬ ((scope.names.lookup ("0" : Str) == some NameKind.cell) = true); rw [h0]; decide))⟩
/-- a name that is read -/
structure SlF (X : Cx) (i : Nat) (x : Str) : Prop where
  at_ : X.N[i]? = some x
  vis : Vis X.env.scope x
  d1 : (x == ("__debug__" : Str)) = false
  d2 : (x == ("__classdict__" : Str)) = false
theorem we_nameF {σ : L2.St} {H : Hp} {Q : VK} {v : V} {pos : Pos} (n : SlF X i x) (h : σ[i]? = some (some v)) (q : Q v H) : WE X (.Name x pos) σ H Q := weP (pe_var n.at_ n.vis n.d1 n.d2) ⟨v, h, q⟩
theorem Sl.own (n : Sl X i x) (h : scope.names.lookup x = some .local) : Sl (Bk X s H scope C cl fp) i x :=
  ⟨n.at_, n.nd, .inl (lookup_relS_keep (by decide) h), .inr (lookup_relS_keep (by decide) h), n.d1, n.d2⟩
/-- the block's own name -/
theorem own_of {N : List Str} (eN : X.N = N) (nd : N.Nodup) (hi : N[i]? = some x) (h : scope.names.lookup x = some .local) (d1 : (x == ("__debug__" : Str)) = false) (d2 : (x == ("__classdict__" : Str)) = false) : Sl (Bk X s H scope C cl fp) i x :=
  ⟨by show X.N[i]? = _; rw [eN]; exact hi, by show X.N.Nodup; rw [eN]; exact nd, .inl (lookup_relS_keep (by decide) h), .inr (lookup_relS_keep (by decide) h), d1, d2⟩
theorem gn_blk (h : scope.names.lookup x = some .globalImplicit) (d1 : (x == ("__debug__" : Str)) = false) : Gn (Bk X s H scope C cl fp) x := ⟨lookup_relS_keep (by decide) h, d1⟩
theorem bn_blk (h : scope.names.lookup x = some .globalImplicit) (no : X.mg x = none) : Bn (Bk X s H scope C cl fp) x := ⟨lookup_relS_keep (by decide) h, no⟩
/-- a name captured from the def -/
theorem free_of {N : List Str} {sc : Scope} (eN : X.N = N) (es : X.env.scope = sc) (hi : N[i]? = some x) (h : (relS scope sc).names.lookup x = some .cell) (d1 : (x == ("__debug__" : Str)) = false) (d2 : (x == ("__classdict__" : Str)) = false) : SlF (Bk X s H scope C cl fp) i x :=
  ⟨by show X.N[i]? = _; rw [eN]; exact hi, .inr (.inl (by show (relS scope X.env.scope).names.lookup x = _; rw [es]; exact h)), d1, d2⟩
end
/-! ### [e for x in xs] -/
/-- what the items come to -/
def LcG (X : Cx) (scope : Scope) (elt : Expr) (i : Nat) (sq : Hp → Addr → List V → Prop) (σ : L2.St) (a : Addr) (xs : List V) (Q : VK) (H1 : Hp) : Prop :=
  ∀ D, H1 D = none → ∃ P : Nat → Hp → Prop, P 0 (upd H1 D (.lst [])) ∧ (∀ j H, j ≤ xs.length → P j H → sq H a xs) ∧
    (∀ j v H, xs[j]? = some v → P j H → ∀ s H0 C cl fp, WE (Bk X s H0 scope C cl fp) elt (σ.set i (some v)) H fun y H4 => ∃ acc, H4 D = some (.lst acc) ∧ acc.length < sizeLine ∧ P (j + 1) (upd H4 D (.lst (acc ++ [y])))) ∧ ∀ H, P xs.length H → Q (.ref D) H
section
variable {X : Cx} {σ : L2.St} {H : Hp} {Q : VK} {D : Ends} {k i n : Nat} {E : L2.St → XK} {x y : Str} {scope : Scope} {elt iter : Expr} {px py pos spos : Pos}
theorem set2 {σ : L2.St} {i : Nat} {a b : Option V} : (σ.set i a).set i b = σ.set i b := List.set_set ..
def teB (X : Cx) (scope : Scope) (elt : Expr) : TE := fun σ H Q => ∀ s H0 C cl fp, WE (Bk X s H0 scope C cl fp) elt σ H Q
theorem lc_by (h : WE X iter σ H fun v H1 => ∃ a xs, v = .ref a ∧ SqL X.K H1 a xs ∧ LcG X scope elt i (SqL X.K) σ a xs Q H1) : tLc (iList X.K (WE X iter)) (gName i) tYes (teB X scope elt) [i] σ H Q := by
  refine we_mono h fun v H1 q => ?_
  obtain ⟨a, xs, rfl, hq, q⟩ := q
  refine ⟨a, rfl, ⟨xs, hq⟩, fun D hD => ?_⟩
  obtain ⟨P, h0, hl, hs, hd⟩ := q D hD
  refine lc_list P h0 hl (fun j v H hv p => ?_) hd
  refine ⟨(show ((σ.set i none).set i (some v)).set i none = σ.set i none by rw [set2, set2]), (iteT (B := P (j + 1) H) ?_ : if true = true then teB X scope elt ((σ.set i none).set i (some v)) H fun y H4 => ∃ acc, H4 D = some (.lst acc) ∧ acc.length < sizeLine ∧ P (j + 1) (upd H4 D (.lst (acc ++ [y]))) else P (j + 1) H)⟩
  intro s H0 C cl fp
  have e : (σ.set i none).set i (some v) = σ.set i (some v) := set2
  have z := hs j v H hv p s H0 C cl fp
  rw [← e] at z
  exact z
theorem lc_byT (h : WE X iter σ H fun v H1 => ∃ a xs, v = .ref a ∧ SqT X.K H1 a xs ∧ LcG X scope elt i (SqT X.K) σ a xs Q H1) : tLc (iTup X.K (WE X iter)) (gName i) tYes (teB X scope elt) [i] σ H Q := by
  refine we_mono h fun v H1 q => ?_
  obtain ⟨a, xs, rfl, hq, q⟩ := q
  refine ⟨a, rfl, ⟨xs, hq⟩, fun D hD => ?_⟩
  obtain ⟨P, h0, hl, hs, hd⟩ := q D hD
  refine lc_tup P h0 hl (fun j v H hv p => ?_) hd
  refine ⟨(show ((σ.set i none).set i (some v)).set i none = σ.set i none by rw [set2, set2]), (iteT (B := P (j + 1) H) ?_ : if true = true then teB X scope elt ((σ.set i none).set i (some v)) H fun y H4 => ∃ acc, H4 D = some (.lst acc) ∧ acc.length < sizeLine ∧ P (j + 1) (upd H4 D (.lst (acc ++ [y]))) else P (j + 1) H)⟩
  intro s H0 C cl fp
  have e : (σ.set i none).set i (some v) = σ.set i (some v) := set2
  have z := hs j v H hv p s H0 C cl fp
  rw [← e] at z
  exact z
theorem peB : ∀ (s : Shared) (H : Hp) (C : Addr) (cl : List (Str × Addr)) (fp : List Addr), PE (X.blk s H scope (compEnvC scope cl C X.env) fp) elt (teB X scope elt) := fun s H C cl fp => ⟨fun pins t σ H' Q I h => h s H C cl fp pins t I⟩
theorem we_lc (B : Body X k E) (nd : X.N.Nodup) (hi : X.N[i]? = some x) (hx : scope.names.lookup x = some .local) (ok : BlkOk X.N X.env.scope scope [(x, i)])
    (h : WE X iter σ H fun v H1 => ∃ a xs, v = .ref a ∧ SqL X.K H1 a xs ∧ LcG X scope elt i (SqL X.K) σ a xs Q H1) (hs : ∀ v, foldedSetIterable iter X.env v = pure v := by intro _; rfl) : WE X (.ListComp elt [⟨.Name x px, iter, [], 0⟩] scope pos) σ H Q :=
  weP (pe_lc (own := [(x, i)]) (g := gName i) (tt := tYes) B.calm nd (pi_list peS) ok (fun _ _ _ _ _ => pg_name nd hi (.inl (lookup_relS_keep (by decide) hx)) (.inr (lookup_relS_keep (by decide) hx))) (fun _ _ _ _ _ => pts_nil) peB hs) (lc_by h)
theorem we_lcT (B : Body X k E) (nd : X.N.Nodup) (hi : X.N[i]? = some x) (hx : scope.names.lookup x = some .local) (ok : BlkOk X.N X.env.scope scope [(x, i)])
    (h : WE X iter σ H fun v H1 => ∃ a xs, v = .ref a ∧ SqT X.K H1 a xs ∧ LcG X scope elt i (SqT X.K) σ a xs Q H1) (hs : ∀ v, foldedSetIterable iter X.env v = pure v := by intro _; rfl) : WE X (.ListComp elt [⟨.Name x px, iter, [], 0⟩] scope pos) σ H Q :=
  weP (pe_lc (own := [(x, i)]) (g := gName i) (tt := tYes) B.calm nd (pi_tup peS) ok (fun _ _ _ _ _ => pg_name nd hi (.inl (lookup_relS_keep (by decide) hx)) (.inr (lookup_relS_keep (by decide) hx))) (fun _ _ _ _ _ => pts_nil) peB hs) (lc_byT h)
theorem ws_setLc (B : Body X k E) (m : Sl X n y) (hy : X.env.scope.names.lookup y = some .local) (hk : X.env.scope.kind = .function) (hi : X.N[i]? = some x) (hx : scope.names.lookup x = some .local) (ok : BlkOk X.N X.env.scope scope [(x, i)])
    (h : WE X iter σ H fun v H1 => ∃ a xs, v = .ref a ∧ SqL X.K H1 a xs ∧ LcG X scope elt i (SqL X.K) σ a xs (fun v H' => D.nx (σ.set n (some v)) H') H1) (hl : (py.line == spos.line) = true := by rfl)
    (ha : (scope.names.any fun (n, k) => n == y && (k == .local || k == .cell)) = false := by decide +kernel) (he : pos.line = spos.line := by rfl) (hs : ∀ v, foldedSetIterable iter X.env v = pure v := by intro _; rfl) :
    WS X (.Assign [.Name y py] (.ListComp elt [⟨.Name x px, iter, [], 0⟩] scope pos) spos) D σ H :=
  wsP (ps_setLc (own := [(x, i)]) (g := gName i) (tt := tYes) B.calm m.nd m.at_ hy (sw_true hk hy (by rw [he]; exact hl) ha) (pi_list peS) ok (fun _ _ _ _ _ => pg_name m.nd hi (.inl (lookup_relS_keep (by decide) hx)) (.inr (lookup_relS_keep (by decide) hx))) (fun _ _ _ _ _ => pts_nil) peB hs) (lc_by h)
end
end Rs

namespace Rs
open PySem PySem.Spec PyProof.Rows L2 He PySem.Calls
/-! ### for i, x in enumerate(a tuple) -/
theorem new_enum (a : Addr) (its : Array Value) :
    Meets (Builtin.«enumerate.__new__» ⟨[.type "enumerate", .ref a], []⟩) (fun _ R t => Heap.IsTuple t.heap a its ∧
      R (.ok (.ret (.ref (t.heap.push { cls := .type "tuple_iterator", data := .fields #[.ref a, .int 0 0] }).objs.size)))
        { t with heap := (t.heap.push { cls := .type "tuple_iterator", data := .fields #[.ref a, .int 0 0] }).push { cls := .type "enumerate", data := .fields #[.none, .bool false, .ref t.heap.objs.size, rawInt 0, .none, .none] } }) :=
  .of_wp fun pg wd A R t z => by
    obtain ⟨hh, gg, dd, kk, oo⟩ := t
    obtain ⟨y, z⟩ := z
    have su := PySem.sub_enumerate
    have st : ∀ {A' : Around} {E : Value → Shared → Prop} {Q : Value → Shared → Prop}, Q (.ref hh.objs.size) ⟨hh.push { cls := .type "tuple_iterator", data := .fields #[.ref a, .int 0 0] }, gg, dd, kk, oo⟩ → wpAny (model pg wd) A' (pyIter (.ref a)) Q E ⟨hh, gg, dd, kk, oo⟩ :=
      fun q => wpAny_pyIter_tuple (s := ⟨hh, gg, dd, kk, oo⟩) y q
    wp_walk using st
    refine wpAny_stack_any fun fr => wpAny_pure ?_
    split
    · rename_i cc _ _ _ _ _
      cases (cc == Value.type "enumerate")
      all_goals (wp_walk using st; exact ⟨_, rfl, z⟩)
    · wp_walk using st
      exact ⟨_, rfl, z⟩
section
variable {prog : Program} {w : World} {A : Around} {E : Value → Shared → Prop} {s : Shared}
theorem call_enumT {a : Addr} {its : Array Value} {Q : Value → Shared → Prop} (y : Heap.IsTuple s.heap a its)
    (h : ∀ h', IsEnum h' (s.heap.objs.size + 1) s.heap.objs.size 0 .none → h'.IsTupleIter s.heap.objs.size a 0 → (∀ b o, s.heap.get? b = some o → h'.get? b = some o) → Q (.ref (s.heap.objs.size + 1)) { s with heap := h' }) :
    wpAny (model prog w) A (call (.type "enumerate") [.ref a]) Q E s := by
  refine callType_new F.called_enumerate (by decide) (F.typeCall_enumerate_1 _) (F.newCall_enumerate_1 _) (fun ob => F.args_object_init_2 ob _) F.entry_enumerate_new (new_enum a its) ⟨y, ?_⟩
  generalize hg : s.heap.push { cls := .type "tuple_iterator", data := .fields #[.ref a, .int 0 0] } = g
  have sz : g.objs.size = s.heap.objs.size + 1 := by rw [← hg]; exact Heap.size_push ..
  have i0 : g.get? s.heap.objs.size = some { cls := .type "tuple_iterator", data := .fields #[.ref a, .int 0 0] } := by rw [← hg]; exact Heap.get?_push_size _ rfl
  have kp : ∀ b o, s.heap.get? b = some o → g.get? b = some o := fun b o z => by rw [← hg]; exact Heap.get?_push_of_some _ z
  have e0 : IsEnum (g.push { cls := .type "enumerate", data := .fields #[.none, .bool false, .ref s.heap.objs.size, rawInt 0, .none, .none] }) (s.heap.objs.size + 1) s.heap.objs.size 0 .none := by
    rw [← sz]
    exact Heap.get?_push_size _ rfl
  show _ ∧ _
  rw [sz]
  exact ⟨⟨_, e0, rfl⟩, h _ e0 ⟨_, Heap.get?_push_of_some _ i0, rfl, rfl⟩ fun b o z => Heap.get?_push_of_some _ (kp b o z)⟩
end
/-- the pairs, each a new tuple -/
def Iet (K : PySem.W.Frag) (a : Addr) : It :=
  ⟨fun j H => ∃ (ys : List V) (y : V), SqT K H a ys ∧ ys[j]? = some y, fun j H v H' => ∃ T y, v = .ref T ∧ H T = none ∧ H' = upd H T (.tup [.int (j : Nat), y]) ∧ ∀ ys, SqT K H a ys → ys[j]? = some y, fun j H => ∃ ys : List V, SqT K H a ys ∧ ys.length = j⟩
theorem turn_enumT {P : Program} {w : World} {K : PySem.W.Frag} {es : List Expr} {kk : Nat} {tp : Pos} (a e it : Addr) :
    Turn P w K (.Tuple es kk tp) (Iet K a) [e, it] e (fun j h => (∃ old, IsEnum h e it ((j : Nat) : Int) old) ∧ h.IsTupleIter it a j ∧ e ≠ it) where
  mem := List.mem_cons_self
  obj := fun j h q b hb => by
    obtain ⟨⟨old, he⟩, ⟨o, ho, hc, hd⟩, _⟩ := q
    rcases List.mem_cons.mp hb with z | z
    · rw [z]
      exact ⟨_, he, fun v q => nomatch q⟩
    · rw [List.mem_singleton.mp z]
      exact ⟨o, ho, fun v q => by rw [hd] at q; cases q⟩
  keep := fun j h h' q kp => ⟨q.1.imp fun old z => kp e List.mem_cons_self _ z, q.2.1.at fun o z => kp it (List.mem_cons_of_mem _ List.mem_cons_self) o z, q.2.2⟩
  item := by
    rintro X rfl rfl rfl hc j pins s σ H E I hf ⟨⟨old, he⟩, hit, hne⟩ ⟨ys, y, hq, hy⟩
    obtain ⟨its, rv, tp, hz⟩ := I.tuple hq
    obtain ⟨u, hu, ru⟩ := rv.get hy
    have sz1 : e < s.heap.objs.size := Heap.lt_size he
    have sz2 : it < s.heap.objs.size := by obtain ⟨_, q, _⟩ := hit; exact Heap.lt_size q
    have szf : ∀ b ∈ [e, it], b < s.heap.objs.size := fun b hb => by
      rcases List.mem_cons.mp hb with z | z
      · rw [z]; exact sz1
      · rw [List.mem_singleton.mp z]; exact sz2
    have jl : j < its.toArray.size := by
      rw [List.size_toArray]
      exact (List.getElem?_eq_some_iff.mp hu).1
    have na : ∀ b ∈ [e, it], a ≠ b := fun b hb z => by
      obtain ⟨o, ho, hcl, _⟩ := tp
      rcases List.mem_cons.mp hb with q | q
      · rw [z, q] at ho
        rw [show s.heap.get? e = _ from he] at ho
        cases ho
        exact absurd hcl (by simp)
      · rw [z, List.mem_singleton.mp q] at ho
        obtain ⟨o', ho', hc', _⟩ := hit
        rw [ho'] at ho
        cases ho
        rw [hc'] at hcl
        exact absurd hcl (by simp)
    refine wpAny_pyNext_enum_itemD (Draws.tuple (A := X.A.in1) (I.ok.hd hc) it a (na it (List.mem_cons_of_mem _ List.mem_cons_self)) its.toArray) he ⟨hit, tp⟩ jl hne (fun z => ?_) fun x h' tk hx ho hit' hT hsz hk => ?_
    · rcases List.mem_cons.mp z with z | z
      · exact hne z
      · exact na e List.mem_cons_self (List.mem_singleton.mp z).symm
    have ex : x = u := by
      have z : its.toArray[j]? = some u := by simpa using hu
      exact Option.some.inj ((show its.toArray[j]? = some x from hx).symm.trans z)
    subst ex
    refine ⟨_, rfl, wpAny_letOwnedTupleGo_enum (s := { s with heap := h', toks := tk + 1 }) ho fun g he' sb => ?_⟩
    have hT2 : g.get? s.heap.objs.size = some { cls := .type "tuple", data := .seq #[.int j tk, x] } := (sb.2 _ (Nat.ne_of_gt sz1)).trans hT
    have new : ObjOk X.prog X.w (upd H s.heap.objs.size (.tup [.int (j : Nat), y])) g s.heap.objs.size (.tup [.int (j : Nat), y]) :=
      ⟨(show 2 ≤ sizeLine by decide), [.int j tk, x], .cons ⟨_, rfl⟩ (.cons ru .nil), ⟨_, hT2, rfl, _, rfl⟩⟩
    have I1 : Inv X pins σ (upd H s.heap.objs.size (.tup [.int (j : Nat), y])) { s with heap := g, toks := tk + 1 } :=
      I.turnedNew (ch := [e, it]) (fun b ob hb q => (sb.2 b (fun z => hb (by simp [z]))).trans (hk b ob (fun z => hb (by simp [z])) (fun z => hb (by simp [z])) q)) hf (Nat.le_refl _) new
    refine ⟨.ref s.heap.objs.size, _, I1, rfl, ⟨_, y, rfl, I.hok.fresh (Nat.le_refl _), rfl, fun zs hz => by rw [I.tuple_inj hz hq]; exact hy⟩, ⟨⟨x, ?_⟩, hit'.1.at fun o q => (sb.2 it (Ne.symm hne)).trans q, hne⟩, fun b hb => ?_⟩
    · rw [show ((j + 1 : Nat) : Int) = (j : Int) + 1 by omega]
      exact he'
    · rw [upd_ne (Nat.ne_of_lt (szf b hb))]
      exact (hf b hb).1
  done := by
    rintro X rfl rfl rfl hc j pins s σ H E I hf ⟨⟨old, he⟩, hit, hne⟩ ⟨ys, hq, hl⟩
    obtain ⟨its, rv, tp, hz⟩ := I.tuple hq
    obtain ⟨f0, f1, f2, f3, f4, f5⟩ := hf it (List.mem_cons_of_mem _ List.mem_cons_self)
    have na : a ≠ it := fun z => by
      obtain ⟨o, ho, hcl, _⟩ := tp
      obtain ⟨o', ho', hc', _⟩ := hit
      rw [z, ho'] at ho
      cases ho
      rw [hc'] at hcl
      exact absurd hcl (by simp)
    have ej : its.toArray.size = j := by rw [List.size_toArray, ← rv.length, hl]
    subst ej
    exact wpAny_pyNext_enum_endD (Draws.tuple (A := X.A.in1) (I.ok.hd hc) it a na its.toArray) he ⟨hit, tp⟩ fun h' eb => ⟨rfl, I.turned (t' := s.toks) (fun b o hb q => eb b o hb q) f0 f1 f3 f4 f5⟩
  self := fun A j s Q E q z => by
    obtain ⟨⟨old, he⟩, _⟩ := q
    exact wpAny_pyIter_enum he z
def iEnumT (K : PySem.W.Frag) (t : TA) : TI := fun σ H R => t σ H fun vs H1 => ∃ a ys, vs = [.ref a] ∧ SqT K H1 a ys ∧ R (Iet K a) H1
theorem pi_enumT {X : Cx} {e : Expr} {t : TA} {p pos tp : Pos} {es : List Expr} {kk : Nat} (bn : Bn X "enumerate") (ha : PA X [e] t) (hs : starEach [e] X.env = [(false, eval e X.env)] := by rfl) :
    PI X (.Tuple es kk tp) (.Call (.Name "enumerate" p) [e] [] pos) (iEnumT X.K t) := by
  refine ⟨fun pins s σ H R I h => ?_⟩
  refine Call_ (ld_blt I bn.gl bn.no boot_enumerate (PyProof.Rows.callWith_type1 (thn (ha.run pos pins s σ H _ I h) fun us s1 z => ?_) hs rfl))
  obtain ⟨vs, H1, I1, r, a, ys, e1, hq, q⟩ := z
  subst e1
  obtain ⟨u, rfl, ru⟩ := vals1 r
  cases ru
  obtain ⟨its, rv, tp, hz⟩ := I1.tuple hq
  refine call_enumT tp fun h' e0 i0 kp => wpAny_pyIter_enum e0 ?_
  refine ⟨s1.heap.objs.size + 1, [s1.heap.objs.size + 1, s1.heap.objs.size], _, _, H1, rfl, I1.kept (t' := s1.toks) kp, turn_enumT a _ _, ⟨⟨.none, e0⟩, i0, Nat.succ_ne_self _⟩, fun b hb => ?_, q⟩
  have hle : s1.heap.objs.size ≤ b := by
    rcases List.mem_cons.mp hb with z | z
    · rw [z]; exact Nat.le_succ _
    · rw [List.mem_singleton.mp z]; exact Nat.le_refl _
  exact I1.fpOk hle (I1.hok.fresh hle)
section
variable {X : Cx} {k i j n m : Nat} {E : L2.St → XK} {x y : Str} {D : Ends} {σ : L2.St} {H : Hp} {body : List Stmt} {e : Expr} {p pos pc px py tp : Pos} {kk : Nat}
/-- for x, y in enumerate(a tuple) -/
theorem ws_for_enumT (B : Body X k E) (s1 : Sl X i x) (s2 : Sl X j y) (bn : Bn X "enumerate")
    (h : WE X e σ H fun v H1 => ∃ a ys, v = .ref a ∧ SqT X.K H1 a ys ∧ ∃ P : Nat → L2.St → Hp → Prop, P 0 σ H1 ∧ (∀ n σ H, n ≤ ys.length → P n σ H → SqT X.K H a ys) ∧
      (∀ n v σ H H', ys[n]? = some v → P n σ H → Ex H H' → WB X body { D with nx := P (n + 1), ct := P (n + 1), bk := D.nx } ((σ.set i (some (.int n))).set j (some v)) H') ∧ ∀ σ H, P ys.length σ H → D.nx σ H)
    (hs : starEach [e] X.env = [(false, eval e X.env)] := by rfl) (hf : ∀ v, foldedSetIterable (.Call (.Name "enumerate" p) [e] [] pc) X.env v = pure v := by intro _; rfl)
    (h1 : (assignEach [.Name x px, .Name y py] X.env).map (·.2) = assign (.Name x px) X.env :: (assignEach [.Name y py] X.env).map (·.2) := by rfl) (h2 : (assignEach [.Name y py] X.env).map (·.2) = assign (.Name y py) X.env :: (assignEach [] X.env).map (·.2) := by rfl)
    (h3 : (assignEach [.Name x px, .Name y py] X.env).length = 2 := by rfl) (h4 : (assignEach [.Name x px, .Name y py] X.env).findIdx? (·.1) = none := by rfl) :
    WS X (.For (.Tuple [.Name x px, .Name y py] kk tp) (.Call (.Name "enumerate" p) [e] [] pc) body [] pos) D σ H := by
  refine wsP (ps_for B.po B.calm (pi_enumT bn paS hs) (pg_tup B.calm (pgs_cons (pg_name s1.nd s1.at_ s1.loc s1.fn) (pgs_cons (pg_name s2.nd s2.at_ s2.loc s2.fn) pgs_nil h2) h1) h3 h4) pbS hf) ?_
  refine wa_one (we_mono h fun v H1 q => ?_) hs
  obtain ⟨a, ys, rfl, hq, P, p0, hl, hb, hd⟩ := q
  refine ⟨a, ys, rfl, hq, fun n m σ H => m = ys.length - n ∧ n ≤ ys.length ∧ P n σ H, ⟨ys.length, rfl, Nat.zero_le _, p0⟩, ?_⟩
  rintro n m σ H ⟨rfl, hn, pn⟩
  have hqn := hl n σ H hn pn
  by_cases lt : n < ys.length
  · refine .inr ⟨⟨ys, ys[n], hqn, List.getElem?_eq_getElem lt⟩, P (n + 1), fun σ' H' p' => ⟨ys.length - (n + 1), by omega, rfl, lt, p'⟩, ?_⟩
    rintro w H' ⟨T, y', rfl, hT, rfl, hy⟩
    have x0 := Ex.new (o := .tup [.int (n : Nat), y']) hT
    exact ⟨T, _, rfl, .of upd_same, rfl, .int n, _, rfl, y', _, rfl, rfl, hb n y' σ H _ (hy ys hqn) pn x0⟩
  · have en : ys.length = n := by omega
    subst en
    exact .inl ⟨⟨ys, hqn, rfl⟩, hd σ H pn⟩
end
end Rs

namespace Rs
open PySem PySem.Spec PyProof.Rows L2 He PySem.Calls
/-! ### defs with *args and keywords -/
theorem cxUpN {P : Program} {w : World} : StX.CXUp (RX P w) := by
  intro outer s H s2 H2 E e s' un kp ho z
  obtain ⟨a, B, H', cls, d, ea, fl, hok, ub, na, os, ag, he⟩ := z
  refine ⟨a, B, H', cls, d, ea, fl, hok, ⟨?_, ?_, ?_, ?_, ?_, ?_, ?_⟩, na, os.trans ho, ag, he⟩
  · exact fun b o q n hb => ub.keep b o (kp b o q) (un.free b o q n (by simp)) hb
  · exact fun b o q hb => ub.slot b o (kp b o q) hb
  · exact fun b o q n => ub.free b o (kp b o q) (un.free b o q n (by simp))
  · exact fun b o q hb => ub.there b o (kp b o q) hb
  · exact fun b xs q => ub.tups b xs (un.tups b xs q)
  · exact fun b o xs q => ub.frzs b o xs (un.frzs b o xs q)
  · intro b ps q
    obtain ⟨u1, e1⟩ := un.tbls b ps q
    obtain ⟨u2, e2⟩ := ub.tbls b _ e1
    exact ⟨u1 ++ u2, by rw [e2, Array.append_assoc]⟩
def FnSK (P : Program) (w : World) (K : PySem.W.Frag) (mg : Str → Option Value) (base : Heap) (CX : CXT) (k : Nat) (f : Addr) (ks : List Str) (sp : List V → List V → Hp → VK → XK → Prop) : Prop :=
  ∀ (A : Around) (outer : List Env) (s : Shared) (H : Hp) (us ws : List Value) (vs zs : List V) (Q : VK) (E : XK), Room k A → Env0 P w K mg base A outer s H → Vals vs us → Vals zs ws → zs.length = ks.length → sp vs zs H Q E →
    codeAny (model P w) A (.call (.ref f) ⟨us, ks.zip ws⟩) (CR CX outer P w H s Q E) s
/-- the promise with the rest as a new tuple -/
def spStar (n : Nat) (g : List V → List V → List V) (sp : Sp) : List V → List V → Hp → VK → XK → Prop := fun vs zs H Q E => ∃ ws rest, vs = ws ++ rest ∧ ws.length = n ∧ rest.length ≤ sizeLine ∧ ∀ p, H p = none → sp (g ws zs ++ [.ref p]) (upd H p (.tup rest)) Q E
section
variable {P : Program} {w : World} {K : PySem.W.Frag} {mg : Str → Option Value} {base : Heap} {N ps : List Str} {pv name qual : Str} {pa : Arguments} {body : List Stmt} {sc : Scope} {kws : List (Str × V)} {f : Addr} {fd : FuncData} {k : Nat} {sp : Sp}
theorem def_star (F : FunD K name qual pa body sc [] kws f fd) (S : FnScope N (ps ++ [pv]) sc) (n : Nat) (ks : List Str) (ms : List (Str × V)) (g : {α : Type} → List α → List α → List α → List α) (hk : kws ≠ []) (hms : ∀ q ∈ ms, q ∈ kws)
    (hrel : ∀ {vs mz zs : List V} {us mv ws : List Value}, Vals vs us → Vals mz mv → Vals zs ws → Vals (g vs mz zs) (g us mv ws))
    (hlen : ∀ {us mv ws : List V}, us.length = n → mv.length = ms.length → ws.length = ks.length → (g us mv ws).length = ps.length)
    (h : ∀ (D : Addr) (doc pm : Value) (an : Option Addr) (cdv ct : Value) (us rest mv ws : List Value), us.length = n → mv.length = ms.length → ws.length = ks.length →
      KwTo D ((ms.map (·.1)).zip mv) (bindArgs (PySem.W.fnOf name qual pa body sc .none (.ref D) doc pm an cdv ct) ⟨us ++ rest, ks.zip ws⟩) (newTuple rest >>= fun t => pure (ps.zip (g us mv ws) ++ [(pv, t)])))
    (hb : ∀ (X : Cx), X.prog = P → X.w = w → X.K = K → X.mg = mg → X.base = base → X.N = N → X.env.scope = sc → (∀ x, X.fn x = true) → N.Nodup → ∀ (H : Hp) (vs : List V) (Q : VK) (E : XK), Body X k (fun _ => E) → sp vs H Q E → WB X body { nx := fun _ H' => Q .non H', rt := Q } (start N vs) H) :
    FnSK P w K mg base (RX P w) (k + 1) f ks (spStar n (fun vs zs => g vs (ms.map (·.2)) zs) sp) := by
  obtain ⟨oc, od, dV, kV, doc, pm, an, cdv, ct, osl, rfl, lk, hcd, hD, hK⟩ := F.ex
  rcases hD with ⟨_, rfl⟩ | ⟨e, _⟩
  case inr => exact absurd rfl e
  rcases hK with e | ⟨D, rfl, hq⟩
  · exact absurd e hk
  obtain ⟨mv, hl, rk, hks⟩ := kwd_vals (ms := ms) fun q hm => hq q (hms q hm)
  intro A outer s H us ws vs zs Q E hr e0 r rz lz z
  obtain ⟨v1, rest, rfl, l1, sz, z⟩ := z
  obtain ⟨u1, u2, rfl, r1, r2⟩ := StX.vals_split r
  have nw : H s.heap.objs.size = none := e0.hok.fresh (Nat.le_refl _)
  have lu : u1.length = n := r1.length.symm.trans l1
  have lw : ws.length = ks.length := rz.length.symm.trans lz
  have rg := hrel r1 rk rz
  have lg := hlen l1 (by rw [List.length_map]) lz (mv := ms.map (·.2))
  have KX : K.In s.heap := e0.mod.kin.keeps fun b o e => (e0.bs b o e).1
  refine StX.run_bnd lk hcd S hr e0 (G := fun xs H2 => ∃ p, H p = none ∧ xs = g v1 (ms.map (·.2)) zs ++ [V.ref p] ∧ H2 = upd H p (.tup rest)) (fun A' Ex Q' hh => ?_) fun s2 H2 xs q hr' => ?_
  · refine KwTo.run KX hks (h D doc pm an cdv ct u1 u2 mv ws lu hl lw) (wpAny_bind (wpAny_newTuple (wpAny_pure ?_) (by rw [← r2.length]; exact sz)))
    have new : ObjOk P w (upd H s.heap.objs.size (.tup rest)) (s.heap.push ({ cls := .type "tuple", data := .seq u2.toArray } : Obj)) s.heap.objs.size (.tup rest) := ⟨sz, u2, r2, ⟨_, Heap.get?_push_size _ rfl, rfl, _, rfl⟩⟩
    have un := StX.un_laid (fs := frs outer) (s := s) (o := ({ cls := .type "tuple", data := .seq u2.toArray } : Obj)) (u := .tup rest) nw
    have fin := hh _ _ (g v1 (ms.map (·.2)) zs ++ [V.ref s.heap.objs.size]) (g u1 mv ws ++ [Value.ref s.heap.objs.size]) (StX.env0_laid e0 new) un rfl
      (fun e s' => cxUpN outer s H _ _ E e s' un (fun b o q => Heap.get?_push_of_some _ q) rfl) (rg.append (.cons rfl .nil)) (by rw [List.length_append, List.length_append, lg]; rfl) ⟨_, nw, rfl, rfl⟩
    rw [List.zip_append (by rw [← lg, rg.length])] at fin
    exact fin
  · obtain ⟨p, hp, rfl, rfl⟩ := q
    exact ⟨_, pbS, hb (bx P w K mg base N qual sc f cdv A outer s2 (upd H p (.tup rest)) E) rfl rfl rfl rfl rfl rfl rfl (fun _ => rfl) S.nd _ _ Q E (body_of hr') (z p hp)⟩
/-- a class made so -/
def GSK (P : Program) (w : World) (K : PySem.W.Frag) (mg : Str → Option Value) (base : Heap) (k : Nat) (x : Str) (C : Addr) (ks : List Str) (sp : List V → List V → Hp → VK → XK → Prop) : Prop :=
  ∃ f, mg x = some (.ref C) ∧ Mk K C f ∧ FnSK P w K mg base (RX P w) k f ks sp
end
section
variable {X : Cx} {σ : L2.St} {H : Hp} {Q : VK} {k j : Nat} {E : L2.St → XK} {x : Str} {sp : List V → List V → Hp → VK → XK → Prop} {p pos : Pos} {e : Expr} {es : List Expr} {kws : List Keyword} {C f : Addr} {ks : List Str}
theorem smake_at {pins : List (Addr × Obj)} {s : Shared} {us ws : List Value} {vs zs : List V} {E : XK} (M : Mk X.K C f) (F : FnSK X.prog X.w X.K X.mg X.base (RX X.prog X.w) k f ks sp) (hr : Room (k + 1) X.A)
    (hx : PassesAt (RX X.prog X.w) X σ E) (I : Inv X pins σ H s) (r : Vals vs us) (rz : Vals zs ws) (l2 : zs.length = ks.length) (h : ∀ a dx, H a = none → H dx = none → dx ≠ a → sp (.ref a :: vs) zs (upd (upd H dx (.own a)) a (.ins C dx [])) (fun v H2 => v = .non ∧ Q (.ref a) H2) E) :
    wpAny (model X.prog X.w) X.A (call (.ref C) us (ks.zip ws)) (EP X pins σ Q) X.xe s := by
  have J := Inv.made (C := C) I
  have hq := h (s.heap.objs.size + 1) s.heap.objs.size (I.hok.fresh (Nat.le_succ _)) (I.hok.fresh (Nat.le_refl _)) (Nat.ne_of_lt (Nat.lt_succ_self _))
  have rs : Vals (V.ref (s.heap.objs.size + 1) :: vs) (Value.ref (s.heap.objs.size + 1) :: us) := .cons rfl r
  have run := F _ X.stack _ _ (Value.ref (s.heap.objs.size + 1) :: us) ws _ _ _ E (hr.make C us (ks.zip ws)) (J.env0.make C us (ks.zip ws)) rs rz l2 hq
  refine wpAny_call (make_map (f := f) I.kIn M.makes M.init (beq_iff_eq.mp M.fn) (codeAny_mono run fun o t q => ?_))
  have z := out_at hx J o t q
  cases o with
  | error e => exact z
  | ok fl =>
    cases fl with
    | ret u =>
      obtain ⟨v, H', I3, rv, rfl, q3⟩ := z
      exact ⟨rv, ⟨V.ref (s.heap.objs.size + 1), H', I3, rfl, q3⟩⟩
    | next => exact z.elim
    | brk => exact z.elim
    | cont => exact z.elim
theorem we_makeSK (B : Body X k E) (gn : Gn X x) (f : GSK X.prog X.w X.K X.mg X.base j x C ks sp) (hj : j + 1 ≤ k) (h : WA X (e :: es) σ H fun vs H1 => WK X kws σ H1 fun zs H2 => zs.length = ks.length ∧ ∀ a dx, H2 a = none → H2 dx = none → dx ≠ a → sp (.ref a :: vs) zs (upd (upd H2 dx (.own a)) a (.ins C dx [])) (fun v H3 => v = .non ∧ Q (.ref a) H3) (E σ))
    (hall : (backToKw pos (keywordEach kws X.env)).all (·.1.isSome) = true := by rfl) (hks : (backToKw pos (keywordEach kws X.env)).filterMap (·.1) = ks := by rfl)
    (he : starEach (e :: es) X.env = (false, eval e X.env) :: starEach es X.env := by rfl) (hpl : ((backTo pos (starEach (e :: es) X.env)).any (·.1) || (backToKw pos (keywordEach kws X.env)).any (·.1.isNone)) = false := by rfl) :
    WE X (.Call (.Name x p) (e :: es) kws pos) σ H Q := by
  obtain ⟨f, hm, M, F⟩ := f
  intro pins s I
  refine wpAny_Call_Name_kw (ld_glob I gn.gl hm ?_ gn.d1)
  refine PySem.W.callWith_KW (h₀ := X.base) I.ok.mod.kin M.kp hall (thn (h pos pins s I) fun us s1 z => ?_) hpl he
  obtain ⟨vs, H1, I1, r, q⟩ := z
  refine thn (q pos pins s1 I1) fun ws s2 z => ?_
  obtain ⟨zs, H2, I2, rz, l2, q⟩ := z
  refine ⟨I2.kIn, ?_⟩
  rw [hks]
  exact smake_at M F (B.room.mono hj) (B.at σ) I2 r rz l2 q
theorem we_makeS (B : Body X k E) (gn : Gn X x) (f : GSK X.prog X.w X.K X.mg X.base j x C [] sp) (hj : j + 1 ≤ k) (h : WA X (e :: es) σ H fun vs H2 => ∀ a dx, H2 a = none → H2 dx = none → dx ≠ a → sp (.ref a :: vs) [] (upd (upd H2 dx (.own a)) a (.ins C dx [])) (fun v H3 => v = .non ∧ Q (.ref a) H3) (E σ))
    (hs : starEach (e :: es) X.env = (false, eval e X.env) :: starEach es X.env := by rfl) (hl : (backTo pos (starEach es X.env)).any (·.1) = false := by rfl) : WE X (.Call (.Name x p) (e :: es) [] pos) σ H Q := by
  obtain ⟨f, hm, M, F⟩ := f
  intro pins s I
  refine wpAny_Call_Name_kw (ld_glob I gn.gl hm ?_ gn.d1)
  refine PySem.W.callWith_K (h₀ := X.base) I.ok.mod.kin M.kp (thn (h pos pins s I) fun us s1 z => ?_) hs hl
  obtain ⟨vs, H1, I1, r, q⟩ := z
  exact ⟨I1.kIn, smake_at (zs := []) (ws := []) M F (B.room.mono hj) (B.at σ) I1 r .nil rfl q⟩
end
/-! ### what stays but for the objects at S -/
section
variable {S : Addr → Prop} {H H1 H2 : Hp}
theorem ExX.refl (H : Hp) : ExX S H H := ⟨fun _ _ _ h _ => h, fun _ _ o _ h s => ⟨o, h, s⟩, fun _ h => h⟩
/-- instances that stand: S has none of those that rows begin with -/
theorem ExX.put {a : Addr} {o : HO} (x : ExX S H H1) (h : S a) : ExX S H (upd H1 a o) :=
  ⟨fun b u n hb g => (upd_ne (show b ≠ a from fun e => n (by rw [e]; exact h))).trans (x.kp b u n hb g), fun b l u n hb s => by
    obtain ⟨o1, h1, s1⟩ := x.src b l u n hb s
    exact ⟨o1, (upd_ne (show b ≠ a from fun e => n (by rw [e]; exact h))).trans h1, s1⟩, fun b hb => by
    by_cases e : b = a
    · subst e
      rw [upd_same]
      exact fun z => nomatch z
    · rw [upd_ne e]
      exact x.th b hb⟩
theorem ExX.ex (x : ExX S H H1) (y : Ex H1 H2) (hS : ∀ a o, S a → H1 a = some o → ∃ C dx fs, o = .ins C dx fs ∨ ∃ xs, o = .lst xs) (hG : ∀ l C dx fs, S l → H l = some (.ins C dx fs) → ∃ C dx fs, H1 l = some (.ins C dx fs)) : ExX S H H2 :=
  ⟨fun a o n h g => y.kp a o (x.kp a o n h g) (by
    rcases g with g | ⟨l, C, dx, fs, rest, e, h2⟩
    · exact .inl g
    · by_cases sl : S l
      · obtain ⟨C', dx', fs', h3⟩ := hG l C dx fs sl h2
        exact .inr ⟨l, C', dx', fs', rest, e, h3⟩
      · exact .inr ⟨l, C, dx, fs, rest, e, x.kp _ _ sl h2 (.inl not_src_ins)⟩), fun a l o n h s => by
    obtain ⟨o1, h1, s1⟩ := x.src a l o n h s
    exact y.src a l o1 h1 s1, fun a h => y.there a (x.th a h)⟩
/-- S is new to H0 -/
theorem ExX.fresh (x0 : Ex H H1) (x : ExX S H1 H2) (hS : ∀ a, S a → H a = none) : Ex H H2 :=
  ⟨fun a o h g => x.kp a o (fun s => by rw [hS a s] at h; cases h) (x0.kp a o h g) (g.mono x0), fun a l o h s => by
    obtain ⟨o1, h1, s1⟩ := x0.src a l o h s
    exact x.src a l o1 (fun s => by rw [hS a s] at h; cases h) h1 s1⟩
theorem ExX.ins {a C dx : Addr} {fs : List (Str × V)} (x : ExX S H H1) (n : ¬ S a) (h : H a = some (.ins C dx fs)) : H1 a = some (.ins C dx fs) := x.kp _ _ n h (.inl not_src_ins)
theorem ExX.tup {a : Addr} {xs : List V} (x : ExX S H H1) (n : ¬ S a) (h : H a = some (.tup xs)) : H1 a = some (.tup xs) := x.kp _ _ n h (.inl not_src_tup)
end
end Rs

namespace Rs
open PySem PySem.Spec PyProof.Rows L2 He
section
variable {X : Cx} {σ : L2.St} {H : Hp} {D D' : Ends} {Q : VK} {k j : Nat} {E : L2.St → XK} {m : Str} {sp : Sp} {C : Addr} {c o e : Expr} {a b st : List Stmt} {s1 : Stmt} {pos apos cpos : Pos}
/-! ### what follows may be wanted less -/
theorem wb_mono (h : WB X st D σ H) (n : ∀ σ H, D.nx σ H → D'.nx σ H) (r : ∀ v H, D.rt v H → D'.rt v H) (bk : ∀ σ H, D.bk σ H → D'.bk σ H) (ct : ∀ σ H, D.ct σ H → D'.ct σ H) : WB X st D' σ H := fun pins s I => thn (h pins s I) fun fl s' z => by
  cases fl with
  | next => obtain ⟨σ', H', J, q⟩ := z; exact ⟨σ', H', J, n _ _ q⟩
  | brk => obtain ⟨σ', H', J, q⟩ := z; exact ⟨σ', H', J, bk _ _ q⟩
  | cont => obtain ⟨σ', H', J, q⟩ := z; exact ⟨σ', H', J, ct _ _ q⟩
  | ret u => obtain ⟨v, σ', H', J, rv, q⟩ := z; exact ⟨v, σ', H', J, rv, r _ _ q⟩
theorem ws_mono (h : WS X s1 D σ H) (n : ∀ σ H, D.nx σ H → D'.nx σ H) (r : ∀ v H, D.rt v H → D'.rt v H) (bk : ∀ σ H, D.bk σ H → D'.bk σ H) (ct : ∀ σ H, D.ct σ H → D'.ct σ H) : WS X s1 D' σ H := fun pins s I => thn (h pins s I) fun fl s' z => by
  cases fl with
  | next => obtain ⟨σ', H', J, q⟩ := z; exact ⟨σ', H', J, n _ _ q⟩
  | brk => obtain ⟨σ', H', J, q⟩ := z; exact ⟨σ', H', J, bk _ _ q⟩
  | cont => obtain ⟨σ', H', J, q⟩ := z; exact ⟨σ', H', J, ct _ _ q⟩
  | ret u => obtain ⟨v, σ', H', J, rv, q⟩ := z; exact ⟨v, σ', H', J, rv, r _ _ q⟩
/-- a statement's end, told by R -/
theorem ws_to (R : L2.St → Hp → Prop) (h : WS X s1 { D with nx := R } σ H) (n : ∀ σ H, R σ H → D.nx σ H) : WS X s1 D σ H := ws_mono h n (fun _ _ z => z) (fun _ _ z => z) (fun _ _ z => z)
theorem wt_to {QT : Bool → Hp → Prop} (R : Bool → Hp → Prop) (h : WT X c σ H R) (n : ∀ r H, R r H → QT r H) : WT X c σ H QT := wt_mono h n
theorem we_to (R : V → Hp → Prop) (h : WE X e σ H R) (n : ∀ r H, R r H → Q r H) : WE X e σ H Q := we_mono h n
/-! ### o.m() of an own class; xs.append(e) -/
theorem we_meth0 {pl : Sem Bool} (B : Body X k E) (c : Cls X.K C) (f : Me X j C m sp) (hj : j ≤ k)
    (h : WE X o σ H fun y H1 => ∃ a dx fs, y = .ref a ∧ H1 a = some (.ins C dx fs) ∧ fs.lookup m = none ∧ sp [.ref a] H1 Q (E σ))
    (ht : eval (.Call (.Attribute o m apos) [] [] pos) X.env = (do
      let it ← eval o X.env
      standAt apos.atName
      let (g, first) ← holding [it] (getMethod it m pl)
      callWith pos g first (backTo pos (starEach [] X.env)) (backToKw pos (keywordEach [] X.env))) := by rfl) : WE X (.Call (.Attribute o m apos) [] [] pos) σ H Q := by
  obtain ⟨g, hm, F⟩ := f
  intro pins s I
  refine PySem.W.methodCall_KW (pl := pl) (thn (h pins s I) fun u s1 z => ?_) ht
  obtain ⟨y, H1, I1, ry, a, dx, fs, rfl, e1, l, q⟩ := z
  cases ry
  refine getmeth_ok I1 e1 c hm l ?_
  exact PySem.W.callWith_K0 (first := [.ref a]) I1.kIn hm.kp (go_at (us := [.ref a]) (vs := [.ref a]) F (B.room.mono hj) (B.at σ) I1 (.cons rfl .nil) q)
theorem we_append (h : WE X o σ H fun v H1 => ∃ l vs, v = .ref l ∧ H1 l = some (.lst vs) ∧ WE X e σ H1 fun y H2 => ∃ vs, H2 l = some (.lst vs) ∧ vs.length < sizeLine ∧ Q .non (upd H2 l (.lst (vs ++ [y]))))
    (hbase : attributeBase o "append" X.env (eval o X.env) = eval o X.env := by rfl)
    (hfew : ((backTo cpos (starEach [e] X.env)).all (fun x => !x.1) && (backToKw cpos (keywordEach [] X.env)).all (fun x => x.1.isSome) && decide ([e].length + ([] : List Keyword).length + (if ([] : List Keyword).isEmpty then 0 else 1) < 30)) = true := by rfl)
    (hline : (apos.endLine == cpos.line) = true := by rfl) (hs : starEach [e] X.env = (false, eval e X.env) :: starEach [] X.env := by rfl) (hplain : (backTo cpos (starEach [] X.env)).any (·.1) = false := by rfl) :
    WE X (.Call (.Attribute o "append" apos) [e] [] cpos) σ H Q :=
  weP (pe_bm PySem.F.plainAttrs_list PySem.F.slot_list_append PySem.F.type_list_append mt_append peS paS hbase hfew hline hs hplain) (we_mono h fun v H1 z => by
    obtain ⟨l, vs, rfl, hl, z⟩ := z
    refine ⟨.inl ⟨rfl, vs, .of hl⟩, wa_one (we_mono z fun y H2 z => ?_) hs⟩
    obtain ⟨vs2, h2, hz, z⟩ := z
    exact ⟨l, vs2, y, rfl, rfl, h2, hz, z⟩)
end
end Rs

namespace Rs
open PySem PySem.Spec PyProof.Rows L2 He
/-! ### own exceptions whose __init__(self, x) says super().__init__("..") and self.f = x -/
/-- the def at f, with the cell of its class -/
structure FunC (P : Program) (K : PySem.W.Frag) (C : Addr) (qual : Str) (pa : Arguments) (body : List Stmt) (sc : Scope) (f : Addr) : Prop where
  ex : ∃ (oc : Value) (od : Option Addr) (name : Str) (kV doc pm : Value) (an : Option Addr) (cda cc : Addr) (ct : Value) (osl : Array (Option Value)),
    K.lookup f = some ⟨oc, od, .func (PySem.W.ksFn name qual pa body sc .none kV doc pm an (.ref cda) ct cc), osl⟩ ∧ PySem.W.codeIn K (.ref cda) qual = true ∧
    (∃ cl cld csl, K.lookup cc = some ⟨cl, cld, .cell (some (.ref C)), csl⟩) ∧
    ∃ ccl cdd ccs vs file tf, K.lookup cda = some ⟨ccl, cdd, .fields vs, ccs⟩ ∧ vs[2]? = some (.str file tf) ∧ ((P.main.file : Str) == file) = true
/-- the class -/
structure ExcI (P : Program) (K : PySem.W.Frag) (C f : Addr) : Prop where
  ex : PySem.W.excInitIn K C PySem.HandSPX.veTail "ValueError.__new__" = true
  cl : ∃ cd, PySem.W.clsIn K C = some cd ∧ PySem.HandSPX.refsVE cd.mro = true ∧ cd.hasDict = true
  kp : PySem.W.keepIn K (.ref C) = true
  sb : PySem.W.subIn K (.ref C) (.type "BaseException") = some true
  ve : PySem.W.subIn K (.ref C) (.type "ValueError") = some true
  ty : PySem.W.typeIn K (.ref C) = some (.type "type")
  sa : PySem.W.findIn K (.ref C) "__setattr__" = some (some (.builtin "object.__setattr__"))
  ini : PySem.W.findIn K (.ref C) "__init__" = some (some (.ref f))
  tf : PySem.W.typeIn K (.ref f) = some (.type "function")
  su : PySem.W.ks_superIn K C C "__init__" = some (some (.builtin "ValueError.__init__"))
  mr : PySem.W.mroIn K C (.ref C) = some true
  op : PySem.W.nsIn K cStatics "thirdparty.any" = some none
  top : (P.main.scope.names.lookup ("super" : Str)).isSome = false
open PySem.W in
theorem ini_run {P : Program} {w : World} {K : PySem.W.Frag} {mg : Str → Option Value} {A : Around} {R : Result → Shared → Prop} {h : Heap} {g : Array GenState} {dr : Drawn} {t : Nat} {os : OsState}
    {C f e t0 : Addr} {qual fld par m : Str} {pa : Arguments} {sc : Scope} {ar : Arg} {v : Value} {j : Nat} {p0 p1 p2 p3 p4 p5 p6 p7 p8 p9 : Pos}
    (hroom : A.depth < recursionLimit) (X : K.In h) (hglob : h.Ns mainGlobals mg) (hblt : ∃ mb, h.Ns builtinsNs mb ∧ ∀ x : Str, x ≠ "__name__" → mb x = bootBuiltins x) (hlim : h.NoLimit) (hsu : mg "super" = none)
    (I : ExcI P K C f) (F : FunC P K C qual pa [.Expr (.Call (.Attribute (.Call (.Name "super" p0) [] [] p1) "__init__" p2) [.Constant (.str m) j p3] [] p4) p5, .Assign [.Attribute (.Name "self" p6) fld p7] (.Name par p8) p9] sc f)
    (hlin : (p2.endLine == p4.line) = true) (hp : (pa.posonlyargs ++ pa.args).head? = some ar) (har : ar.arg = "self")
    (hbind : ∀ (name : Str) (kV doc pm cdv ct : Value) (an : Option Addr) (cc : Addr) (body : List Stmt) (a b : Value), bindArgs (ksFn name qual pa body sc .none kV doc pm an cdv ct cc) ⟨[a, b], []⟩ = pure ([("self", a), (par, b)] : List (Str × Value)))
    (hps : par ≠ "self") (hks : sc.names.lookup ("super" : Str) = some .globalImplicit) (hkc : sc.names.lookup ("__class__" : Str) = some .free) (hka : sc.names.lookup ("self" : Str) = some .local) (hkb : sc.names.lookup par = some .local)
    (hcell : ∀ x ∈ sc.names, x.2 ≠ .cell) (hco : sc.isCoroutine = false) (hgen : sc.isGenerator = false) (hk : sc.kind = .function) (hno : PySem.W.findIn K (.ref C) fld = some none) (hdp : (par == ("__debug__" : Str)) = false)
    (he : h.get? e = some (PySem.HandSPX.excO C t0)) (hKe : K.lookup e = none)
    (hq : ∀ h' t' dx t1, (∀ b o, b ≠ e → h.get? b = some o → h'.get? b = some o) → h.objs.size ≤ dx → dx ≠ e → h'.get? e = some ({ cls := .ref C, dict := some dx, data := .fields #[.ref t1, .none, .none, .none, .bool false, .none] } : Obj) →
      h'.Ns1 dx (fun y => if y = fld then some v else none) → R (.ok (.ret .none)) ⟨h', g, dr, t', os⟩) :
    codeAny (model P w) A (.call (.ref f) ⟨[.ref e, v], []⟩) R ⟨h, g, dr, t, os⟩ := by
  obtain ⟨oc, od, name, kV, doc, pm, an, cda, cc, ct, osl, lk, hcd, ⟨cl, cld, csl, hcellK⟩, ccl, cdd, ccs, vs, file, tf, hcode, hvs, hfile⟩ := F.ex
  obtain ⟨cd, hcl, hmro, hdict⟩ := I.cl
  obtain ⟨mb, hb1, hb2⟩ := hblt
  refine ks_codeAny_call_defAt (binds := ([("self", .ref e), (par, v)] : List (Str × Value))) hroom (X _ _ lk) rfl hlim (codeRec_of X hcd) rfl (.of_eq (hbind _ _ _ _ _ _ _ _ _ _ _)) hcell (fun y hy => ?_) (fun h₁ hns hk₁ => ?_) hco hgen hk
  · rcases List.mem_cons.mp hy with rfl | hy
    · exact hka
    · rcases List.mem_cons.mp hy with rfl | hy
      · exact hkb
      · cases hy
  show _root_.PySem.wpAt _ (A.deeper (ksEnv qual sc h.objs.size f (.ref cda) cc)) (.func _ (ksEnv qual sc h.objs.size f (.ref cda) cc)) (execs _ (ksEnv qual sc h.objs.size f (.ref cda) cc)) _ _ _
  have X1 : K.In h₁ := X.keeps hk₁
  have he1 := hk₁ _ _ he
  have hv0 : (fun x => ([("self", Value.ref e), (par, v)] : List (Str × Value)).reverse.lookup x) ("self" : Str) = some (.ref e) := by
    show ([(par, v), ("self", Value.ref e)] : List (Str × Value)).lookup ("self" : Str) = _
    rw [List.lookup_cons, show (("self" : Str) == par) = false from by simpa using fun z => hps z.symm, List.lookup_cons_self]
  have hv1 : (fun x => ([("self", Value.ref e), (par, v)] : List (Str × Value)).reverse.lookup x) par = some v := by
    show ([(par, v), ("self", Value.ref e)] : List (Str × Value)).lookup par = _
    rw [List.lookup_cons_self]
  obtain ⟨oD, hD1, hD2⟩ : ∃ oD, h₁.get? C = some oD ∧ oD.data = .cls cd := by
    have hD := hcl
    unfold clsIn at hD
    split at hD
    · rename_i c d cd' sl ho
      cases hD
      exact ⟨_, X1 _ _ ho, rfl⟩
    · cases hD
  have hint : interactive (ksEnv qual sc h.objs.size f (.ref cda) cc) = false := by
    unfold interactive
    show (sc.kind == ScopeKind.module && _) = false
    rw [hk]
    rfl
  refine ks_wpAt_execs_cons ?_
  refine ks_wpAt_Expr_any ?_ hint
  refine ks_wpAt_MethodCall (pl := (do return (← importBound (.Call (.Name "super" p0) [] [] p1) (ksEnv qual sc h.objs.size f (.ref cda) cc)).getD true)) ?_ (by
    show (do
      let ov ← attributeBase (.Call (.Name "super" p0) [] [] p1) "__init__" (ksEnv qual sc h.objs.size f (.ref cda) cc) (eval (.Call (.Name "super" p0) [] [] p1) (ksEnv qual sc h.objs.size f (.ref cda) cc))
      standAt p2.atName
      methodCall (.Call (.Name "super" p0) [] [] p1) "__init__" p2 p4 (ksEnv qual sc h.objs.size f (.ref cda) cc) ov 1 (backTo p4 (starEach [.Constant (.str m) j p3] (ksEnv qual sc h.objs.size f (.ref cda) cc))) []) = _
    unfold methodCall methodCallPos
    rw [hlin]
    rfl)
  refine ks_wpAt_super_base (env := ksEnv qual sc h.objs.size f (.ref cda) cc) hks hkc (by decide) rfl (X1 _ _ lk) rfl hp rfl (X1 _ _ hcode) rfl hvs hfile I.top ?_
  refine ks_loadName_global hk hks (PySem.Calls.loadGlobal_builtin (env := ksEnv qual sc h.objs.size f (.ref cda) cc) (hglob.keeps hk₁) hsu (hb1.keeps hk₁) ((hb2 _ (by decide)).trans (show bootBuiltins "super" = some (.type "super") by kernel_rfl)) ⟨rfl, ?_⟩)
  refine wpAny_loadName_free hk hkc rfl ⟨_, X1 _ _ hcellK, rfl⟩ ?_
  refine wpAny_loadName_local hk (by rw [har]; exact hka) hns (by rw [har]; exact hv0) ?_
  refine ks_wpAny_isType_cls hD1 hD2 ⟨rfl, ?_⟩
  refine ks_wpAny_call_super hD1 hD2 he1 rfl (fun c z => by cases z) (looks_mroIn X1 I.mr) (fun h2 e2 k2 => ?_)
  have X2 : K.In h2 := X1.keeps k2
  have he2 := k2 _ _ he1
  have I2 : InstAt h2 e (PySem.HandSPX.excO C t0) C none := ⟨he2, rfl, rfl, trivial⟩
  have hsup : alongIn K "__init__" ((cd.mro.dropWhile (· != .ref C)).drop 1) = some (some (.builtin "ValueError.__init__")) := by
    have z := I.su
    unfold ks_superIn at z
    rw [hcl] at z
    exact z
  refine kxs_getMethod kxs_ValueError e2 (looks_opaque X2 I.op) (l₀ := cd.mro) (fun A Q E s k q => wpAny_bind ((looks_clsIn X2 hcl) A _ E s k (wpAny_pure q))) rfl X2 hsup (I2.type.andThen (looks_subIn X2 I.ve)) (ks_ne X2 I2 hcl) (by decide) ?_
  have k3 : ∀ b o, h2.get? b = some o → (h2.push (kxs_mw "ValueError.__init__" e)).get? b = some o := fun b o z => Heap.get?_push_of_some _ z
  have hu : (h2.push (kxs_mw "ValueError.__init__" e)).get? h2.objs.size = some (kxs_mw "ValueError.__init__" e) := Heap.get?_push_at rfl rfl
  generalize h2.push (kxs_mw "ValueError.__init__" e) = h3 at k3 hu ⊢
  have X3 : K.In h3 := X2.keeps k3
  have he3 := k3 _ _ he2
  refine kxs_callWith (i := "ValueError.__init__") (x := e) rfl ?_
  show wpAny _ _ (evalArgs (.ref h2.objs.size) true [(false, eval (.Constant (.str m) j p3) (ksEnv qual sc h.objs.size f (.ref cda) cc))] []) _ _ _
  refine PySem.Calls.evalArgs_plain (Calls.spliced_cons (Calls.Constant_str (Calls.spliced_nil ?_)))
  refine ⟨hu, ?_⟩
  show wpAny _ _ (call (.ref h2.objs.size) [.str m _]) _ _ _
  obtain ⟨nm, N', qn, bs, bm, hdct, sn, sub, ab, col, dd, k0, k1, k2', k3', k5, hC, hT⟩ := excInit_of X3 I.ex
  refine wpAny_call (codeAny_of_tree ?_)
  show wpAny _ (A.deeper _).in1 (callAny (.ref h2.objs.size) ⟨[.str m _], []⟩) _ _ _
  simp only [callAny]
  refine wpAny_bind (wpAny_load hu ?_)
  simp only [kxs_mw, show (Value.type "method-wrapper" == Value.type "method" || Value.type "method-wrapper" == Value.type "builtin_function_or_method" || Value.type "method-wrapper" == Value.type "method-wrapper") = true by decide, if_true]
  refine KFB.if_so (by decide) ?_
  refine wpAny_bind (check_bound_init PySem.F.excBase_ValueError.toExcCallFacts hC he3 rfl ?_)
  refine wpAny_bind (wpAny_pure (wpAny_pure ?_))
  refine ⟨plainId_quiet PySem.F.excBase_ValueError.init.plain _, codeAny_builtin PySem.F.excBase_ValueError.initEntry ?_⟩
  refine exc_init_tree (cls := .ref C) (t0 := t0) (dv := none) (c2 := .none) (c3 := .none) (b4 := .bool false) he3 (by show 1 ≤ sizeLine; rw [sizeLine_eq]; omega) fun h5 k5' e5 t5 => ?_
  have kk5 : ∀ b o, b ≠ e → h.get? b = some o → h5.get? b = some o := fun b o hb ho => k5' b o hb (k3 _ _ (k2 _ _ (hk₁ _ _ ho)))
  have Le : h.objs.size ≠ e := fun z => by
    have y := Heap.lt_size he
    rw [z] at y
    exact absurd y (Nat.lt_irrefl _)
  have hns5 : h5.Ns h.objs.size (fun x => ([("self", Value.ref e), (par, v)] : List (Str × Value)).reverse.lookup x) := by
    obtain ⟨oL, es, ep, hL, r⟩ := hns
    exact ⟨oL, es, ep, k5' _ _ Le (k3 _ _ (k2 _ _ hL)), r⟩
  have X5 : K.In h5 := fun b o hb => by
    by_cases hbe : b = e
    · rw [hbe, hKe] at hb
      cases hb
    · exact kk5 b o hbe (X _ _ hb)
  refine ks_wpAt_execs_cons (ks_wpAt_Assign_Attr ?_)
  refine _root_.PySem.wpAt_of_wpAny (wpAny_Name (wpAny_loadName_local hk hkb hns5 hv1 ?_) hdp)
  refine wpAny_Name (wpAny_loadName_local hk hka hns5 hv0 ?_) (by decide)
  refine set_plain X5 (ox := PySem.HandSPX.excO C h3.objs.size) (od := none) ⟨e5, rfl, rfl, trivial⟩ I.sa ?_
  refine PySem.HandSPX.exc_osa X5 e5 hcl hmro hdict hno (fun h6 tk6 dx k6 dn dne hx hn => ?_)
  refine _root_.PySem.wpAt_of_wpAny (wpAny_pure ?_)
  have s5 : h.objs.size ≤ h5.objs.size := by
    obtain ⟨oL, es, ep, hL, r⟩ := hns5
    exact Nat.le_of_lt (Heap.lt_size hL)
  exact hq h6 tk6 dx h3.objs.size (fun b o hb ho => k6 b o hb (kk5 b o hb ho)) (Nat.le_trans s5 dn) dne hx hn
end Rs
namespace Rs
open PySem PySem.Spec PyProof.Rows L2 He
section
variable {X : Cx} {x par m qual fld : Str} {p pos pos2 : Pos} {C f : Addr} {j k : Nat} {pa : Arguments} {sc : Scope} {ar : Arg} {p0 p1 p2 p3 p4 p5 p6 p7 p8 p9 : Pos} {E : L2.St → XK} {D : Ends} {σ : L2.St} {H : Hp} {ea : Expr}
/-- all that the head and the text tell of such a class -/
structure IniC (P : Program) (K : PySem.W.Frag) (mg : Str → Option Value) (C : Addr) (fld : Str) : Prop where
  ex : ∃ (f : Addr) (qual par m : Str) (pa : Arguments) (sc : Scope) (ar : Arg) (j : Nat) (p0 p1 p2 p3 p4 p5 p6 p7 p8 p9 : Pos), ExcI P K C f ∧
    FunC P K C qual pa [.Expr (.Call (.Attribute (.Call (.Name "super" p0) [] [] p1) "__init__" p2) [.Constant (.str m) j p3] [] p4) p5, .Assign [.Attribute (.Name "self" p6) fld p7] (.Name par p8) p9] sc f ∧
    (p2.endLine == p4.line) = true ∧ (pa.posonlyargs ++ pa.args).head? = some ar ∧ ar.arg = "self" ∧
    (∀ (name : Str) (kV doc pm cdv ct : Value) (an : Option Addr) (cc : Addr) (body : List Stmt) (a b : Value), bindArgs (PySem.W.ksFn name qual pa body sc .none kV doc pm an cdv ct cc) ⟨[a, b], []⟩ = pure ([("self", a), (par, b)] : List (Str × Value))) ∧
    par ≠ "self" ∧ sc.names.lookup ("super" : Str) = some .globalImplicit ∧ sc.names.lookup ("__class__" : Str) = some .free ∧ sc.names.lookup ("self" : Str) = some .local ∧ sc.names.lookup par = some .local ∧
    (∀ x ∈ sc.names, x.2 ≠ .cell) ∧ sc.isCoroutine = false ∧ sc.isGenerator = false ∧ sc.kind = .function ∧ (par == ("__debug__" : Str)) = false
  no : PySem.W.findIn K (.ref C) fld = some none
  su : mg "super" = none
theorem pmk_ini (hr : Room 2 X.A) (c : IniC X.prog X.K X.mg C fld) (g : Gn X x) (hm : X.mg x = some (.ref C))
    (he : starEach [ea] X.env = (false, eval ea X.env) :: starEach [] X.env := by rfl) :
    L2N.PMk X (.Call (.Name x p) [ea] [] pos) (fun σ H Q => WE X ea σ H fun v H1 => ∀ d, H1 d = none → Q (.ref C) (some d) (upd H1 d (.xd [(fld, v)]))) := by
  intro pins s σ H Q I h
  obtain ⟨f, qual, par, m, pa, sc, ar, j, p0, p1, p2, p3, p4, p5, p6, p7, p8, p9, T, F, hlin, hp, har, hbind, hps, hks, hkc, hka, hkb, hcell, hco, hgen, hk, hdp⟩ := c.ex
  refine wpAny_Call_Name_kw (ld_glob I g.gl hm ?_ g.d1)
  refine PySem.W.callWith_K (h₀ := X.base) I.ok.mod.kin T.kp (thn ((wa_one (QA := fun vs H1 => ∃ v, vs = [v] ∧ ∀ d, H1 d = none → Q (.ref C) (some d) (upd H1 d (.xd [(fld, v)]))) (we_mono h fun v H1 q => ⟨v, rfl, q⟩) he) pos pins s I) fun us s1 z => ?_) he rfl
  obtain ⟨vs, H1, I1, r1, v, rfl, q1⟩ := z
  refine ⟨I1.kIn, ?_⟩
  cases r1 with
  | @cons _ u0 _ ur ru rn =>
  cases rn
  show wpAny _ _ (call (.ref C) [u0]) _ _ _
  obtain ⟨nm, N', qn, bs, bm, hdct, sn, sub, ab, col, dd, k0, k1, k2, k3, k5, hC, hT⟩ := PySem.W.excInit_of I1.kIn T.ex
  obtain ⟨hp', gn, dr, tk, os⟩ := s1
  have kk : ∀ b o, hp'.get? b = some o → ((hp'.push (PySem.W.kdv_tup [u0])).push (PySem.HandSPX.excO C hp'.objs.size)).get? b = some o := fun b o e => Heap.get?_push_of_some _ (Heap.get?_push_of_some _ e)
  have hget : ((hp'.push (PySem.W.kdv_tup [u0])).push (PySem.HandSPX.excO C hp'.objs.size)).get? (hp'.objs.size + 1) = some (PySem.HandSPX.excO C hp'.objs.size) := by heap_get
  have hnew : hp'.get? (hp'.objs.size + 1) = none := Heap.get?_none_of_le (Nat.le_succ _)
  obtain ⟨mb, hb1, hb2⟩ := I1.mod.blt
  refine wpAny_call (PySem.HandSPX.call_own PySem.F.excBase_ValueError hT hC (PySem.W.looks_findIn I1.kIn T.ini) (fun self => PySem.W.bind_fn I1.kIn self T.tf) (by show 1 ≤ sizeLine; rw [sizeLine_eq]; omega)
    (ini_run (mg := X.mg) (hr.make C [u0] []).depth (I1.kIn.keeps kk) ((I1.mod.glob.keeps I1.bk).keeps kk) ⟨mb, (hb1.keeps I1.bk).keeps kk, hb2⟩ (I1.nolimit.keeps kk) c.su T F hlin hp har hbind hps hks hkc hka hkb hcell hco hgen hk c.no hdp hget ?_ ?_))
  · cases z : X.K.lookup (hp'.objs.size + 1) with
    | none => rfl
    | some o =>
      have y := I1.kIn _ _ z
      rw [hnew] at y
      cases y
  · intro h' t' dx t1 k' dn dne hx hn
    have hsz : hp'.objs.size ≤ dx := Nat.le_trans (by rw [Heap.size_push, Heap.size_push]; omega) dn
    obtain ⟨G, g1, g2⟩ := restrict h' fun b => decide (b ≠ hp'.objs.size + 1)
    have gk : ∀ b, b ≠ hp'.objs.size + 1 → G.get? b = h'.get? b := fun b hb => g1 b (decide_eq_true hb)
    have ge : G.get? (hp'.objs.size + 1) = none := g2 _ (by simp)
    have kG : ∀ b o, hp'.get? b = some o → G.get? b = some o := fun b o e => by
      have hb : b ≠ hp'.objs.size + 1 := fun z => by
        rw [z, hnew] at e
        cases e
      rw [gk b hb]
      exact k' b o hb (kk b o e)
    have J : Inv X pins σ (upd H1 dx (.xd [(fld, v)])) ⟨G, gn, dr, t', os⟩ := I1.laid (t' := t') (a := dx) (o := .xd [(fld, v)]) (h' := G) kG hsz
      ⟨_, hn.at fun o y => (gk dx dne).trans y, relO_put (fs := []) ru fun g => True.intro⟩
    refine ⟨rfl, hp'.objs.size + 1, _, _, ⟨G, gn, dr, t', os⟩, _, .ref C, some dx, rfl, J, fun b o z => ?_, ge, hx, ⟨rfl, rfl, fun vs e => by cases e; rfl⟩, rfl, rfl, ?_, rfl, I1.bare, raises_own T.sb T.ty, q1 dx (I1.hok.fresh hsz)⟩
    · by_cases hba : b = hp'.objs.size + 1
      · rw [hba, ge] at z
        cases z
      · exact (gk b hba).symm.trans z
    · rw [upd_ne (Ne.symm dne)]
      exact I1.hok.fresh (Nat.le_succ _)
theorem ws_raiseI (B : Body X k E) (hk : 2 ≤ k) (c : IniC X.prog X.K X.mg C fld) (g : Gn X x) (hm : X.mg x = some (.ref C))
    (h : WE X ea σ H fun v H1 => ∀ d, H1 d = none → E σ (.ref C) (some d) (upd H1 d (.xd [(fld, v)])))
    (he : starEach [ea] X.env = (false, eval ea X.env) :: starEach [] X.env := by rfl) : WS X (.Raise (some (.Call (.Name x p) [ea] [] pos)) none pos2) D σ H :=
  wsP (L2N.ps_raise B.calm B.tk (pmk_ini (B.room.mono hk) c g hm he)) h
end
end Rs
namespace Rs
open PySem PySem.Spec PyProof.Rows L2 He
/-! ### such an exception in a suite -/
def rIsED (K : PySem.W.Frag) (D a dd : Addr) : List V → Hp → VK → Prop := fun xs H Q => ∃ (c : V) (cv : Value) (b : Bool) (fs : List (Str × V)), xs = [.ref a, c] ∧ H dd = some (.xd fs) ∧ (∀ u, RelV c u → u = cv) ∧ PySem.W.kitOne K (.ref D) cv = some b ∧ Q (.bl b) H
theorem call_isED {X : Cx} {a D dd : Addr} {oe : Obj} {pn : List (Addr × Obj)} (C : ExcC X.K D) (hz : Zc (.ref D) (some dd) oe) (hf : ∃ vs, oe.data = .fields vs) : CallR (X.suite a ((a, oe) :: pn)) (.builtin "isinstance") (rIsED X.K D a dd) := by
  intro pins s σ H xs us Q I r h
  obtain ⟨c, cv, b, fs, rfl, hdd, hcv, e, q⟩ := h
  cases r with
  | cons rx rr =>
    cases rr with
    | cons rt rr =>
      cases rr
      cases rx
      have ec := hcv _ rt
      subst ec
      obtain ⟨hget, _⟩ := I.pin (a, oe) (List.mem_append.mpr (.inl List.mem_cons_self))
      have hx : ObjOk X.prog X.w H s.heap dd (.xd fs) := I.hok dd _ hdd
      obtain ⟨mA, hns, hr⟩ := hx
      obtain ⟨od, ho, hl⟩ := lookIn_ns hns
      obtain ⟨vs, hv⟩ := hf
      have J : PySem.W.InstAt s.heap a oe D (some od) := ⟨hget, hz.1, by unfold PySem.W.notCls; rw [hv] <;> rfl, by rw [hz.2]; exact ho⟩
      have hcl : (PySem.W.clsIn X.K D).isSome = true := by
        cases z : PySem.W.clsIn X.K D with
        | none =>
          have y := C.hd
          unfold PySem.W.hasDictIn at y
          rw [z] at y
          cases y
        | some cd => rfl
      exact PySem.W.kia_one (PySem.W.kitx_exc (od := some od) hcl C.hg C.hk C.hs C.ha C.hn C.ht C.hm) I.kIn J e (fun z => nomatch z) fun tk => ⟨.bl b, H, I.kept (t' := tk) fun _ _ z => z, rfl, q⟩
section
variable {X : Cx} {a D dd : Addr} {oe : Obj} {pn : List (Addr × Obj)} {σ : L2.St} {H : Hp} {Q : VK} {e b : Expr} {p pos : Pos} {n : Str}
theorem we_isED (C : ExcC X.K D) (hz : L2N.Zn (.ref D) (some dd) oe) (hf : ∃ vs, oe.data = .fields vs) (bn : Bn (X.suite a ((a, oe) :: pn)) "isinstance")
    (h : WE (X.suite a ((a, oe) :: pn)) e σ H fun v H1 => WE (X.suite a ((a, oe) :: pn)) b σ H1 fun w H2 => v = .ref a ∧ (∃ fs, H2 dd = some (.xd fs)) ∧ ∃ cv r, (∀ u, RelV w u → u = cv) ∧ PySem.W.kitOne X.K (.ref D) cv = some r ∧ Q (.bl r) H2)
    (hs : starEach [e, b] X.env = (false, eval e X.env) :: starEach [b] X.env := by rfl) (ht : starEach [b] X.env = [(false, eval b X.env)] := by rfl) (hl : (backTo pos (starEach [b] X.env)).any (·.1) = false := by rfl) :
    WE (X.suite a ((a, oe) :: pn)) (.Call (.Name "isinstance" p) [e, b] [] pos) σ H Q :=
  we_callB (call_isED (pn := pn) C hz.zc hf) bn boot_isinstance (wa_two (we_mono h fun v H1 q => we_mono q fun w H2 q => by
    obtain ⟨rfl, ⟨fs, hd⟩, cv, r, h1, h2, q⟩ := q
    exact ⟨w, cv, r, fs, rfl, hd, h1, h2, q⟩) hs ht) (by decide) (by decide) hs hl
/-- e.f -/
theorem we_xf (C : ExcC X.K D) (hno : PySem.W.findIn X.K (.ref D) n = some none) (hz : L2N.Zn (.ref D) (some dd) oe) (hf : ∃ vs, oe.data = .fields vs)
    (h : WE (X.suite a ((a, oe) :: pn)) e σ H fun v H1 => v = .ref a ∧ ∃ fs y, H1 dd = some (.xd fs) ∧ fs.lookup n = some y ∧ Q y H1) (hb : attributeBase e n X.env (eval e X.env) = eval e X.env := by rfl) :
    WE (X.suite a ((a, oe) :: pn)) (.Attribute e n pos) σ H Q :=
  weP (pe_xf ⟨C.hg, C.hk, C.hs, C.hd⟩ hno hz.zc hf peS hb) (we_mono h fun v H1 z => by
    obtain ⟨rfl, fs, y, h1, h2, q⟩ := z
    exact ⟨rfl, rfl, dd, fs, y, rfl, h1, h2, q⟩)
end
/-! ### looks -/
def excIB (P : Program) (K : PySem.W.Frag) (C f : Addr) : Bool := PySem.W.excInitIn K C PySem.HandSPX.veTail "ValueError.__new__" && ((match PySem.W.clsIn K C with
    | some cd => PySem.HandSPX.refsVE cd.mro && cd.hasDict
    | none => false) && (PySem.W.keepIn K (.ref C) && (decide (PySem.W.subIn K (.ref C) (.type "BaseException") = some true) && (decide (PySem.W.subIn K (.ref C) (.type "ValueError") = some true) && (decide (PySem.W.typeIn K (.ref C) = some (.type "type")) &&
  (decide (PySem.W.findIn K (.ref C) "__setattr__" = some (some (.builtin "object.__setattr__"))) && (decide (PySem.W.findIn K (.ref C) "__init__" = some (some (.ref f))) && (decide (PySem.W.typeIn K (.ref f) = some (.type "function")) &&
  (decide (PySem.W.ks_superIn K C C "__init__" = some (some (.builtin "ValueError.__init__"))) && (decide (PySem.W.mroIn K C (.ref C) = some true) && (decide (PySem.W.nsIn K cStatics "thirdparty.any" = some none) && !(P.main.scope.names.lookup ("super" : Str)).isSome)))))))))))
theorem excI_ok {P : Program} {K : PySem.W.Frag} {C f : Addr} (h : excIB P K C f = true) : ExcI P K C f := by
  obtain ⟨h1, h⟩ := ba h
  obtain ⟨h2, h⟩ := ba h
  obtain ⟨h3, h⟩ := ba h
  obtain ⟨h4, h⟩ := ba h
  obtain ⟨h5, h⟩ := ba h
  obtain ⟨h6, h⟩ := ba h
  obtain ⟨h7, h⟩ := ba h
  obtain ⟨h8, h⟩ := ba h
  obtain ⟨h9, h⟩ := ba h
  obtain ⟨h10, h⟩ := ba h
  obtain ⟨h11, h⟩ := ba h
  obtain ⟨h12, h13⟩ := ba h
  refine ⟨h1, ?_, h3, of_decide_eq_true h4, of_decide_eq_true h5, of_decide_eq_true h6, of_decide_eq_true h7, of_decide_eq_true h8, of_decide_eq_true h9, of_decide_eq_true h10, of_decide_eq_true h11, of_decide_eq_true h12, by simpa using h13⟩
  cases z : PySem.W.clsIn K C with
  | none => rw [z] at h2; cases h2
  | some cd =>
    rw [z] at h2
    obtain ⟨a, b⟩ := ba (show (PySem.HandSPX.refsVE cd.mro && cd.hasDict) = true from h2)
    exact ⟨cd, rfl, a, b⟩
def isCellOf (C : Addr) (o : Option Obj) : Bool := match o with
  | some ob => (match ob.data with
    | .cell v => decide (v = some (.ref C))
    | _ => false)
  | none => false
def isCodeOf (z : Str) (o : Option Obj) : Bool := match o with
  | some ob => (match ob.data with
    | .fields vs => (match vs[2]? with
      | some v => isStrAs z v
      | none => false)
    | _ => false)
  | none => false
def isCodeAt (z : Str) (K : PySem.W.Frag) (v : Value) : Bool := match v with
  | .ref cda => isCodeOf z (K.lookup cda)
  | _ => false
def isCloOf (K : PySem.W.Frag) (C : Addr) (cl : List (Str × Addr)) : Bool := match cl with
  | [q] => decide (q.1 = "__class__") && isCellOf C (K.lookup q.2)
  | _ => false
theorem isCell_ok {C : Addr} {o : Option Obj} (h : isCellOf C o = true) : ∃ cl cld csl, o = some ⟨cl, cld, .cell (some (.ref C)), csl⟩ := by
  cases o with
  | none => cases h
  | some ob =>
    obtain ⟨a1, a2, dt, a3⟩ := ob
    cases dt with
    | cell v => exact ⟨_, _, _, by rw [of_decide_eq_true (show decide (v = some (.ref C)) = true from h)]⟩
    | _ => cases h
theorem isStr_ok {z : Str} {v : Value} (h : isStrAs z v = true) : ∃ file tk, v = .str file tk ∧ (z == file) = true := by
  cases v with
  | str file tk => exact ⟨_, _, rfl, h⟩
  | _ => cases h
theorem isCode_ok {z : Str} {o : Option Obj} (h : isCodeOf z o = true) : ∃ ccl cdd ccs vs file tf, o = some ⟨ccl, cdd, .fields vs, ccs⟩ ∧ vs[2]? = some (.str file tf) ∧ (z == file) = true := by
  cases o with
  | none => cases h
  | some ob =>
    obtain ⟨a1, a2, dt, a3⟩ := ob
    cases dt with
    | fields vs =>
      have h : (match vs[2]? with
        | some v => isStrAs z v
        | none => false) = true := h
      cases e : vs[2]? with
      | none => rw [e] at h; cases h
      | some v =>
        rw [e] at h
        obtain ⟨file, tk, rfl, h2⟩ := isStr_ok h
        exact ⟨_, _, _, vs, file, tk, rfl, e, h2⟩
    | _ => cases h
theorem isCodeAt_ok {z : Str} {K : PySem.W.Frag} {v : Value} (h : isCodeAt z K v = true) : ∃ cda, v = .ref cda ∧ isCodeOf z (K.lookup cda) = true := by
  cases v with
  | ref cda => exact ⟨_, rfl, h⟩
  | _ => cases h
theorem isClo_ok {K : PySem.W.Frag} {C : Addr} {cl : List (Str × Addr)} (h : isCloOf K C cl = true) : ∃ cc, cl = ([("__class__", cc)] : List (Str × Addr)) ∧ isCellOf C (K.lookup cc) = true := by
  cases cl with
  | nil => cases h
  | cons q r =>
    cases r with
    | nil =>
      obtain ⟨n, cc⟩ := q
      obtain ⟨h1, h2⟩ := ba (show (decide (n = "__class__") && isCellOf C (K.lookup cc)) = true from h)
      exact ⟨cc, by rw [of_decide_eq_true h1], h2⟩
    | cons _ _ => cases h
def funOf (o : Option Obj) : Option FuncData := match o with
  | some ob => (match ob.data with
    | .func z => some z
    | _ => none)
  | none => none
def funCB (P : Program) (K : PySem.W.Frag) (C f : Addr) : Bool := match funOf (K.lookup f) with
  | some z => isCloOf K C z.closure && (isCodeAt P.main.file K z.code && decide (z.defaults = .none))
  | none => false
theorem funC_ok {P : Program} {K : PySem.W.Frag} {C f : Addr} {name qual : Str} {pa : Arguments} {body : List Stmt} {sc : Scope} (h : funCB P K C f = true)
    (F : ∃ (oc : Value) (od : Option Addr) (cl : List (Str × Addr)) (dV kV doc pm : Value) (an : Option Addr) (cdv ct : Value) (osl : Array (Option Value)),
      K.lookup f = some ⟨oc, od, .func (PySem.W.fnX name qual pa body sc cl dV kV doc pm an cdv ct), osl⟩ ∧ PySem.W.codeIn K cdv qual = true) : FunC P K C qual pa body sc f := by
  obtain ⟨oc, od, cl, dV, kV, doc, pm, an, cdv, ct, osl, lk, hcd⟩ := F
  unfold funCB at h
  rw [lk] at h
  obtain ⟨h1, h2⟩ := ba (show (isCloOf K C cl && (isCodeAt P.main.file K cdv && decide (dV = .none))) = true from h)
  obtain ⟨h6, h5⟩ := ba h2
  have e5 : dV = .none := of_decide_eq_true h5
  subst e5
  obtain ⟨cc, rfl, h3⟩ := isClo_ok h1
  obtain ⟨cda, rfl, h4⟩ := isCodeAt_ok h6
  exact ⟨oc, od, name, kV, doc, pm, an, cda, cc, ct, osl, lk, hcd, isCell_ok h3, isCode_ok h4⟩
end Rs

namespace Rs
open PySem PySem.Spec PyProof.Rows L2 He
/-! ### several except clauses, each with a name or without one -/
/-- a clause: its class, the slot of its name, its suite -/
abbrev Clause : Type := Value × Option Nat × (Addr → Value → Option Addr → TS)
def offSlot (o : Option Nat) (D : Ends) : Ends := match o with
  | none => D
  | some i => { nx := fun t G => D.nx (t.set i none) G, rt := D.rt, bk := fun t G => D.bk (t.set i none) G, ct := fun t G => D.ct (t.set i none) G }
def onSlot (o : Option Nat) (a : Addr) (t : L2.St) : L2.St := match o with
  | none => t
  | some i => t.set i (some (.ref a))
def wRow (K : PySem.W.Frag) (out : WX) (D : Ends) : List Clause → WX
  | [] => out
  | z :: r => fun cls d t G => ∃ b, PySem.W.exmOne K cls z.1 = some b ∧ (b = true → ∀ a, G a = none → z.2.2 a cls d (offSlot z.2.1 D) (onSlot z.2.1 a t) G) ∧ (b = false → wRow K out D r cls d t G)
/-- a suite reads as ts -/
def SuOk (X : Cx) (st : List Stmt) (ts : Addr → Value → Option Addr → TS) : Prop :=
  ∀ (a : Addr) (o : Obj) (cls : Value) (d : Option Addr) (pn : List (Addr × Obj)), L2N.Zn cls d o → (∃ vs, o.data = .fields vs) → PSs (X.suite a ((a, o) :: pn)) st (ts a cls d)
inductive RowOk (X : Cx) : List ExceptHandler → List Clause → Prop
  | nil : RowOk X [] []
  | bare {x : Str} {c : Value} {ts : Addr → Value → Option Addr → TS} {b0 : Stmt} {su : List Stmt} {p1 p2 : Pos} {hs : List ExceptHandler} {l : List Clause} (hc : Names X x c) (ok : SuOk X (b0 :: su) ts) (r : RowOk X hs l) :
      RowOk X (.ExceptHandler (some (.Name x p1)) none (b0 :: su) p2 :: hs) ((c, none, ts) :: l)
  | named {x n : Str} {i : Nat} {c : Value} {ts : Addr → Value → Option Addr → TS} {b0 : Stmt} {su : List Stmt} {p1 p2 : Pos} {hs : List ExceptHandler} {l : List Clause} (hi : X.N[i]? = some n) (hk : X.env.kindOf n = some .local) (hc : Names X x c)
      (ok : SuOk X (b0 :: su) ts) (r : RowOk X hs l) : RowOk X (.ExceptHandler (some (.Name x p1)) (some n) (b0 :: su) p2 :: hs) ((c, some i, ts) :: l)
section
variable {X : Cx} {pins : List (Addr × Obj)} {D : Ends}
/-- behind a suite without a name -/
theorem suite_end {a : Addr} {o : Obj} {f : Flow} {t : Shared} (ok : X.Ok) (h : SP (X.suite a ((a, o) :: (X.pn ++ pins))) [] D f t) : SP X pins D f t := by
  cases f with
  | next => exact h.elim fun _ h => h.elim fun _ h => ⟨_, _, h.1.unsuite ok, h.2⟩
  | brk => exact h.elim fun _ h => h.elim fun _ h => ⟨_, _, h.1.unsuite ok, h.2⟩
  | cont => exact h.elim fun _ h => h.elim fun _ h => ⟨_, _, h.1.unsuite ok, h.2⟩
  | ret u => exact h.elim fun _ h => h.elim fun _ h => h.elim fun _ h => ⟨_, _, _, h.1.unsuite ok, h.2⟩
/-- behind a body under try -/
theorem tried_end {pn : List (Addr × Obj)} {xe : Value → Shared → Prop} {f : Flow} {t : Shared} (ok : X.Ok) (back : ∀ {σ : L2.St} {G : Hp}, Inv (X.tr pn xe) [] σ G t → Inv X pins σ G t) (h : SP (X.tr pn xe) [] D f t) : SP X pins D f t := by
  cases f with
  | next => exact h.elim fun _ h => h.elim fun _ h => ⟨_, _, back h.1, h.2⟩
  | brk => exact h.elim fun _ h => h.elim fun _ h => ⟨_, _, back h.1, h.2⟩
  | cont => exact h.elim fun _ h => h.elim fun _ h => ⟨_, _, back h.1, h.2⟩
  | ret u => exact h.elim fun _ h => h.elim fun _ h => h.elim fun _ h => ⟨_, _, _, back h.1, h.2⟩
end
section
variable {X : Cx} {body : List Stmt} {h0 : ExceptHandler} {hds : List ExceptHandler} {l : List Clause} {pos : Pos} {tb : WX → TS} {out : WX}
theorem ps_try_row (stk : X.stack = X.env :: X.outer) (fra : X.env.frame = some X.env.locals) (nod : X.N.Nodup) (tk : L2N.Takes X out)
    (hb : ∀ (W : WX) (pn : List (Addr × Obj)) (xe : Value → Shared → Prop), L2N.Takes (X.tr pn xe) W → PassesOwn (model X.prog X.w) X.A X.env xe → PSs (X.tr pn xe) body (tb W))
    (rows : RowOk X (h0 :: hds) l) : PS X (.Try body (h0 :: hds) [] [] pos) (fun D σ H => tb (wRow X.K out D l) D σ H) := by
  refine ⟨fun pins s σ H D I h => wpAny_Try_except ?_⟩
  have ok := I.ok
  have kf : X.A.frames = some (X.env :: X.outer) := stk ▸ ok.frames
  refine wpAny_mono ((hb _ (X.pn ++ pins) (fun e t1 => wpAny (model X.prog X.w) X.A (noteFrame e X.env) (fun _ t2 => wpAny (model X.prog X.w) X.A (setFlight e none)
    (fun _ t3 => wpAny (model X.prog X.w) X.A (handleBy e X.env (h0 :: hds)) (SP X pins D) X.xe t3) X.xe t2) X.xe t1) (fun u t xx => ?_) PassesOwn.looking).run [] s σ H D (I.toTry _) h)
    (fun f t z => ?_) (fun _ _ z => z)
  case refine_2 =>
    have z' := tried_end (pins := pins) ok (fun J => J.ofTry ok) z
    cases f with
    | next => exact wpAny_execs_nil z'
    | brk => exact z'
    | cont => exact z'
    | ret _ => exact z'
  obtain ⟨a, B, t0, pins0, τ, G, cls, d, rfl, J0, nb, up, sky, ha0, eo, ag, wish⟩ := xx
  have J := J0.ofTry (pins := pins) ok
  have sk : Sky B (X.env :: X.outer) a (L2N.Zn cls d) X.env.locals t.heap := stk ▸ sky
  show wpAny (model X.prog X.w) X.A (noteFrame (Value.ref a) X.env) _ _ t
  refine L2N.Sky.land L2N.Zn.steady kf fra sk fun g3 fl up3 => ?_
  have J3 : Inv X pins τ G { t with heap := g3 } := J.landed nb fl.1 (up.trans up3) eo ag
  obtain ⟨o3, vs3, e3, z3, dt3⟩ := fl.there
  have noFrame : a ∉ frs (X.env :: X.outer) := fun hm => by
    obtain ⟨_, o', e', hnf⟩ := fl.2.2.1.mem hm
    rw [e3] at e'
    cases e'
    exact hnf _ dt3
  have na : a ≠ X.env.locals := fun q => noFrame (List.mem_filterMap.mpr ⟨X.env, List.mem_cons_self, fra.trans (congrArg some q.symm)⟩)
  have nf : a ∉ X.fs := fun q => noFrame ((List.mem_filterMap.mp q).elim fun e h => List.mem_filterMap.mpr ⟨e, List.mem_cons_of_mem _ h.1, h.2⟩)
  have S3 := J3.suite e3 dt3 ha0 na nf
  have kind : PySem.W.Looks (model X.prog X.w) g3 (typeOf (Value.ref a)) cls := fun _ _ _ _ k q => wpAny_typeOf_ref (k _ _ e3) (z3.1 ▸ q)
  have named : ∀ {x : Str} {c : Value} {np : Pos} {Q : Value → Shared → Prop} {E : Value → Shared → Prop}, Names X x c → Q c { t with heap := g3 } →
      wpAny (model X.prog X.w) (X.A.mark (some (.ref a))) (eval (.Name x np) X.env) Q E { t with heap := g3 } := fun hc q => by
    rcases hc with ⟨g1, g2, m | ⟨m1, m2, m3⟩⟩
    · exact ld_glob (X := X.suite a ((a, o3) :: (X.pn ++ pins))) S3 g1 m q g2
    · exact ld_blt (X := X.suite a ((a, o3) :: (X.pn ++ pins))) S3 g1 m1 m2 q m3 g2
  have all : ∀ {rs : List ExceptHandler} {ls : List Clause}, RowOk X rs ls → wRow X.K out D ls cls d τ G → wpAny (model X.prog X.w) X.A (handleBy (.ref a) X.env rs) (SP X pins D) X.xe { t with heap := g3 } := by
    intro rs ls ro
    induction ro with
    | nil =>
      intro w
      refine wpAny_handleBy_nil ?_
      obtain ⟨_, _, _, o5, v5, C5, k5, t5, q1, q2, q3, q4, q5⟩ := id fl
      unfold PySem.passOn
      refine wpAny_bind (wpAny_field q1 q3 q4 ?_)
      rw [if_neg (show ¬ ((Value.ref C5 == Value.none) = true) by simp)]
      have last : wpAny (model X.prog X.w) X.A (setFlight (.ref a) X.env.frame) (fun _ t4 => wpAny (model X.prog X.w) X.A (throw (.ref a) : Sem Flow) (SP X pins D) X.xe t4) X.xe { t with heap := g3 } := by
        rw [fra]
        exact HandSPX.setFlight_upZ fl fun g4 fl4 up4 => wpAny_throw (tk _ _ ⟨a, B, t0, pins, τ, G, cls, d, rfl, J, nb, (up.trans up3).trans up4, .inr (.inr (by rw [stk]; exact fl4)), ha0, eo, ag, w⟩)
      first
        | exact wpAny_bind (wpAny_pure (wpAny_bind last))
        | exact wpAny_bind last
    | @bare x c ts b0 su p1 p2 hs l hc so r ih =>
      rintro ⟨b, eb, yes, no⟩
      refine wpAny_handleBy_cons (codeAny_handlers_test (named hc ((PySem.W.exm_one (M := model X.prog X.w) J3.kIn kind eb).here ?_))) (by intro q; cases q)
      cases b with
      | false => exact ih (no rfl)
      | true =>
        refine codeAny_handlers_suite (HandSPX.lands_againZ fl fun g4 fl4 up4 => ?_)
        obtain ⟨o4, v4, e4, z4, dt4⟩ := fl4.there
        have J4 : Inv X pins τ G { t with heap := g4 } := J.landed nb fl4.1 ((up.trans up3).trans up4) eo ag
        have S4 := J4.suite e4 dt4 ha0 na nf
        exact wpAny_mono ((so a o4 cls d (X.pn ++ pins) z4 ⟨_, dt4⟩).run [] _ _ G _ S4 (yes rfl a ha0)) (fun _ _ z => suite_end ok z) (fun _ _ z => False.elim z)
    | @named x n i c ts b0 su p1 p2 hs l hi hk hc so r ih =>
      rintro ⟨b, eb, yes, no⟩
      refine wpAny_handleBy_cons (codeAny_handlers_test (named hc ((PySem.W.exm_one (M := model X.prog X.w) J3.kIn kind eb).here ?_))) (by intro q; cases q)
      cases b with
      | false => exact ih (no rfl)
      | true =>
        refine codeAny_handlers_suite_as (HandSPX.lands_againZ fl fun g4 fl4 up4 => ?_)
        obtain ⟨o4, v4, e4, z4, dt4⟩ := fl4.there
        have J4 : Inv X pins τ G { t with heap := g4 } := J.landed nb fl4.1 ((up.trans up3).trans up4) eo ag
        have S4 := J4.suite e4 dt4 ha0 na nf
        refine store_ok (X := X.suite a ((a, o4) :: (X.pn ++ pins))) (v := .ref a) S4 nod hi (.inl hk) rfl (fun t5 S5 => ?_) (.inr hk)
        refine wpAny_mono ((so a o4 cls d (X.pn ++ pins) z4 ⟨_, dt4⟩).run [] t5 _ G _ S5 (yes rfl a ha0)) (fun f t6 z => ?_) (fun _ _ z => False.elim z)
        have gone : ∀ {τ6 : L2.St} {G6 : Hp} {R : Shared → Prop}, Inv X pins τ6 G6 t6 → (∀ t7, Inv X pins (τ6.set i none) G6 t7 → R t7) →
            wpAny (model X.prog X.w) X.A (do bindName X.env n .none; unbindBehindTheSuite X.env n p2) (fun _ t7 => R t7) X.xe t6 := fun S hq => gone_ok S nod hi hk hq
        have z' := suite_end (pins := pins) ok z
        cases f with
        | next => exact z'.elim fun _ h => h.elim fun _ h => gone h.1 fun t7 J7 => ⟨_, _, J7, h.2⟩
        | brk => exact z'.elim fun _ h => h.elim fun _ h => gone h.1 fun t7 J7 => ⟨_, _, J7, h.2⟩
        | cont => exact z'.elim fun _ h => h.elim fun _ h => gone h.1 fun t7 J7 => ⟨_, _, J7, h.2⟩
        | ret u => exact z'.elim fun _ h => h.elim fun _ h => h.elim fun _ h => gone h.1 fun t7 J7 => ⟨_, _, _, J7, h.2.1, h.2.2⟩
  exact all rows wish
end
section
variable {X : Cx} {k : Nat} {E : L2.St → XK} {D : Ends} {σ : L2.St} {H : Hp} {body : List Stmt} {h0 : ExceptHandler} {hds : List ExceptHandler} {l : List Clause} {pos : Pos}
theorem su_ok {st : List Stmt} : SuOk X st (Sui X st) := fun a oe cls d pn hz hf => ⟨fun pins t σ H D I q => q oe pn hz hf pins t I⟩
theorem ws_try_row (B : Body X k E) (nod : X.N.Nodup) (rows : RowOk X (h0 :: hds) l)
    (h : ∀ pn xe, Body (X.tr pn xe) k (fun σ cls d H => wRow X.K (fun cls d σ H => E σ cls d H) D l cls d σ H) → WB (X.tr pn xe) body D σ H) (hf : ∀ x, X.fn x = true := by assumption) :
    WS X (.Try body (h0 :: hds) [] [] pos) D σ H :=
  wsP (ps_try_row (tb := fun W D σ H => ∀ pn xe, L2N.Takes (X.tr pn xe) W → PassesOwn (model X.prog X.w) X.A X.env xe → WB (X.tr pn xe) body D σ H) (B.stk hf) (B.fr hf) nod B.tk
    (fun W pn xe tk po => ⟨fun pins t σ H D I q => q pn xe tk po pins t I⟩) rows) fun pn xe tk po => h pn xe (B.tr tk po)
theorem row_yes {K : PySem.W.Frag} {out : WX} {z : Clause} {r : List Clause} {cls : Value} {d : Option Addr} (e : PySem.W.exmOne K cls z.1 = some true) (h : ∀ a, H a = none → z.2.2 a cls d (offSlot z.2.1 D) (onSlot z.2.1 a σ) H) : wRow K out D (z :: r) cls d σ H := ⟨true, e, fun _ => h, fun q => nomatch q⟩
theorem row_no {K : PySem.W.Frag} {out : WX} {z : Clause} {r : List Clause} {cls : Value} {d : Option Addr} (e : PySem.W.exmOne K cls z.1 = some false) (h : wRow K out D r cls d σ H) : wRow K out D (z :: r) cls d σ H := ⟨false, e, (fun q => nomatch q), fun _ => h⟩
end
/-! ### data beside data -/
section
variable {X : Cx} {k : Nat} {E : L2.St → XK} {H : Hp} {Q : VK} {v u : V} {d e : PyData}
theorem o_eqDp (B : Body X k E) (hv : Dp X.K H v d) (hu : Dp X.K H u e) (sd : SeqAt.shaped d = true) (se : SeqAt.shaped e = true) (q : Q (.bl (PyData.eqv d e)) H) : Op2 X (compareOp .Eq) v u H Q :=
  op2_of (op_eqD (by have := B.room.un; omega)) ⟨d, e, hv, hu, sd, se, q⟩
theorem o_neDp (B : Body X k E) (hv : Dp X.K H v d) (hu : Dp X.K H u e) (sd : SeqAt.shaped d = true) (se : SeqAt.shaped e = true) (q : Q (.bl (!PyData.eqv d e)) H) : Op2 X (compareOp .NotEq) v u H Q :=
  op2_of (op_neD (by have := B.room.un; omega)) ⟨d, e, hv, hu, sd, se, q⟩
end
/-! ### slices of lists, lists put together -/
section
variable {X : Cx} {σ : L2.St} {H : Hp} {Q : VK} {a b : Expr} {pos p2 : Pos}
theorem we_cutL (h : WE X a σ H fun v H1 => WE X b σ H1 fun w H2 => ∃ p xs i, v = .ref p ∧ w = .int i ∧ SqL X.K H2 p xs ∧ ∀ l, H2 l = none → Q (.ref l) (upd H2 l (.lst (cutV xs (some i) none)))) : WE X (.Subscript a (.Slice (some b) none none p2) pos) σ H Q :=
  weP (pe_slice sl_list peS (po_some peS) po_none) (we_mono h fun v H1 z => we_mono z fun w H2 z => by
    obtain ⟨p, xs, i, rfl, rfl, h1, z⟩ := z
    exact ⟨i, rfl, p, xs, rfl, h1, z⟩)
theorem we_cutA (h : WE X a σ H fun v H1 => ∃ p xs, v = .ref p ∧ SqL X.K H1 p xs ∧ ∀ l, H1 l = none → Q (.ref l) (upd H1 l (.lst (cutV xs none none)))) : WE X (.Subscript a (.Slice none none none p2) pos) σ H Q :=
  weP (pe_slice sl_list peS po_none po_none) (we_mono h fun v H1 z => by
    obtain ⟨p, xs, rfl, h1, z⟩ := z
    exact ⟨p, xs, rfl, h1, z⟩)
end
theorem cut_all (xs : List V) : cutV xs none none = xs := by
  unfold cutV HT.sIx
  simp
end Rs

namespace Rs
open PySem PySem.Spec PyProof.Rows L2 He
/-! ### a module's tuple of texts -/
def KTup (K : PySem.W.Frag) (a : Addr) (xs : List Str) : Prop :=
  ∃ (o : Obj) (its : Array Value) (n : Nat), K.lookup a = some o ∧ o.cls = .type "tuple" ∧ o.data = .seq its n ∧ its.size ≤ sizeLine ∧ Vals (xs.map V.str) its.toList
theorem KTup.sq {K : PySem.W.Frag} {a : Addr} {xs : List Str} (h : KTup K a xs) (H : Hp) : SqT K H a (xs.map V.str) := .inr h
theorem strsAre_ok : ∀ {xs : List Str} {vs : List Value}, strsAre xs vs = true → Vals (xs.map V.str) vs
  | [], [], _ => .nil
  | x :: xs, v :: vs, h => by
    obtain ⟨h1, h2⟩ := ba h
    obtain ⟨f, t, rfl, e⟩ := isStr_ok h1
    exact .cons ⟨t, by rw [eq_of_beq e]⟩ (strsAre_ok h2)
  | [], _ :: _, h => nomatch h
  | _ :: _, [], h => nomatch h
theorem kTup_ok {K : PySem.W.Frag} {a : Addr} {xs : List Str} (h : kTupB K a xs = true) : KTup K a xs := by
  unfold kTupB at h
  cases q : K.lookup a with
  | none => rw [q] at h; cases h
  | some o =>
    rw [q] at h
    obtain ⟨h1, h2⟩ := ba h
    cases q2 : seqOf o.data with
    | none => rw [q2] at h2; cases h2
    | some i =>
      rw [q2] at h2
      obtain ⟨h3, h4⟩ := ba h2
      cases q3 : o.data with
      | seq i' n =>
        rw [q3] at q2
        cases q2
        exact ⟨o, i, n, q, of_decide_eq_true h1, q3, Nat.le_trans (of_decide_eq_true h3) (by decide), strsAre_ok h4⟩
      | _ => rw [q3] at q2; cases q2
/-! ### dicts with texts as keys -/
theorem not_src_dk {kvs : List (Key × V)} : ¬ Src (.dK kvs) := by
  rintro ⟨l, i, b, r, e, _⟩
  cases e
section
variable {X : Cx} {k : Nat} {E : L2.St → XK} {σ : L2.St} {H : Hp} {D : Ends} {Q : VK} {o i e value : Expr} {pos pos' p : Pos} {j : Nat} {x : Str}
theorem we_dget (B : Body X k E) (h : WE X o σ H fun v H1 => WE X i σ H1 fun y H2 => ∃ a kvs x v', v = .ref a ∧ y = .str x ∧ H2 a = some (.dK kvs) ∧ valV kvs (.inr x) = some v' ∧ Q v' H2) (hs : NoSl i := by intro _ _; rfl) : WE X (.Subscript o i pos) σ H Q :=
  weP (pe_dget (by have := B.room.un; omega) peS peS hs) (we_mono h fun v H1 z => we_mono z fun y H2 z => by
    obtain ⟨a, kvs, x, v', rfl, rfl, h1, h2, q⟩ := z
    exact ⟨a, v', rfl, by rw [← h2]; exact DGet.k (k := .inr x) h1, q⟩)
/-- o["x"] -/
theorem we_dgetS (B : Body X k E) (h : WE X o σ H fun v H1 => ∃ a kvs v', v = .ref a ∧ H1 a = some (.dK kvs) ∧ valV kvs (.inr x) = some v' ∧ Q v' H1) (hs : NoSl (.Constant (.str x) j p) := by intro _ _; rfl) : WE X (.Subscript o (.Constant (.str x) j p) pos) σ H Q :=
  we_dget B (we_mono h fun v H1 z => we_str (by
    obtain ⟨a, kvs, v', rfl, h1, h2, q⟩ := z
    exact ⟨a, kvs, x, v', rfl, rfl, h1, h2, q⟩)) hs
theorem ws_dput (B : Body X k E) (h : WE X value σ H fun v H1 => WE X o σ H1 fun z H2 => WE X i σ H2 fun y H3 => ∃ a kvs x, z = .ref a ∧ y = .str x ∧ H3 a = some (.dK kvs) ∧ kvs.length < sizeLine ∧ D.nx σ (upd H3 a (.dK (putK kvs (.inr x) v))))
    (hs : swapsWith value (some (.Subscript o i pos')) pos.line X.env = pure false := by rfl) : WS X (.Assign [.Subscript o i pos'] value pos) D σ H :=
  wsP (ps_dput (by have := B.room.un; omega) peS peS peS hs) (we_mono h fun v H1 z => we_mono z fun y H2 z => we_mono z fun w H3 z => by
    obtain ⟨a, kvs, x, rfl, rfl, h1, h2, q⟩ := z
    exact ⟨a, _, rfl, DPut.k (k := .inr x) h1 h2, q⟩)
theorem call_dictC {X : Cx} : CallR X (.type "dict") fun xs H Q => ∃ a kvs, xs = [.ref a] ∧ H a = some (.dK kvs) ∧ ∀ p, H p = none → Q (.ref p) (upd H p (.dK kvs)) := by
  intro pins s σ H xs us Q I r q
  obtain ⟨a, kvs, rfl, ea, q⟩ := q
  obtain ⟨u, rfl, ru⟩ := vals1 r
  cases ru
  exact d_copyOf I (.inl ea) fun p s' hp I' => ⟨.ref p, _, I', rfl, q p hp⟩
theorem we_dictC (bn : Bn X "dict") (h : WE X e σ H fun v H1 => ∃ a kvs, v = .ref a ∧ H1 a = some (.dK kvs) ∧ ∀ p, H1 p = none → Q (.ref p) (upd H1 p (.dK kvs))) (hs : starEach [e] X.env = [(false, eval e X.env)] := by rfl) (hl : (backTo pos (starEach [] X.env)).any (·.1) = false := by rfl) :
    WE X (.Call (.Name "dict" p) [e] [] pos) σ H Q := we_callT call_dictC bn (by rfl) (wa_one (we_mono h fun v H1 q => by
    obtain ⟨a, kvs, rfl, q⟩ := q
    exact ⟨a, kvs, rfl, q⟩) hs) (by decide) (by decide) hs hl
/-- in, not in of flat items -/
theorem o_inT {v : V} {a : Addr} {xs : List V} (h : SqT X.K H a xs) (hv : flatV v = true) (hx : xs.all flatV = true) (q : Q (.bl (inV v xs)) H) : Op2 X (compareOp .In) v (.ref a) H Q := op2_of op_in_seq ⟨a, xs, rfl, .inr h, hv, hx, q⟩
end
theorem o_isB {X : Cx} {H : Hp} {Q : VK} {a b : Bool} (q : Q (.bl (decide (a = b))) H) : Op2 X (compareOp .Is) (.bl a) (.bl b) H Q := op2_of op_isBl ⟨a, b, rfl, rfl, q⟩
/-! ### dicts as rows of keys and rows of values -/
section
variable {ks : List Key} {vs : List V} {k : Key} {v : V} {i : Nat}
theorem valV_zip (nd : ks.Nodup) (hk : ks[i]? = some k) (hv : vs[i]? = some v) : valV (ks.zip vs) k = some v := by
  induction ks generalizing vs i with
  | nil => cases hk
  | cons k0 ks ih =>
    cases vs with
    | nil => cases hv
    | cons v0 vs =>
      cases i with
      | zero =>
        cases hk
        cases hv
        exact valV_pos rfl
      | succ i =>
        have n0 := List.nodup_cons.mp nd
        have m : k ∈ ks := List.mem_of_getElem? hk
        show valV ((k0, v0) :: ks.zip vs) k = some v
        rw [valV_neg (fun e : k0 = k => n0.1 (e ▸ m))]
        exact ih n0.2 hk hv
theorem zip_keys {x : Key × V} (h : x ∈ ks.zip vs) : x.1 ∈ ks := (List.of_mem_zip h).1
theorem map_zip (nk : k ∉ ks) : (ks.zip vs).map (fun kv => if kv.1 = k then (kv.1, v) else kv) = ks.zip vs := by
  have e : ∀ kv ∈ ks.zip vs, (if kv.1 = k then (kv.1, v) else kv) = kv := fun kv h => if_neg fun q : kv.1 = k => nk (q ▸ zip_keys h)
  rw [List.map_congr_left e, List.map_id']
theorem putK_zip (nd : ks.Nodup) (l : ks.length = vs.length) (hk : ks[i]? = some k) : putK (ks.zip vs) k v = ks.zip (vs.set i v) := by
  have hi := (List.getElem?_eq_some_iff.mp hk).1
  have hs : ((ks.zip vs).any fun kv => decide (kv.1 = k)) = true := by
    rw [valV_any, valV_zip nd hk (List.getElem?_eq_getElem (show i < vs.length by omega))]
    rfl
  unfold putK
  rw [if_pos hs]
  clear hs hi
  induction ks generalizing vs i with
  | nil => cases hk
  | cons k0 ks ih =>
    cases vs with
    | nil => cases l
    | cons v0 vs =>
      have n0 := List.nodup_cons.mp nd
      cases i with
      | zero =>
        cases hk
        show (if k = k then (k, v) else (k, v0)) :: (ks.zip vs).map _ = (k, v) :: ks.zip vs
        rw [if_pos rfl, map_zip n0.1]
      | succ i =>
        have m : k ∈ ks := List.mem_of_getElem? hk
        show (if k0 = k then (k0, v) else (k0, v0)) :: (ks.zip vs).map _ = (k0, v0) :: ks.zip (vs.set i v)
        rw [if_neg (fun e : k0 = k => n0.1 (e ▸ m)), ih n0.2 (Nat.succ.inj l) hk]
theorem any_none {acc : List (Key × V)} (h : ∀ x ∈ acc, x.1 ≠ k) : (acc.any fun kv => decide (kv.1 = k)) = false := by
  rw [List.any_eq_false]
  exact fun x hx q => h x hx (of_decide_eq_true q)
theorem mergeK_new : ∀ (more acc : List (Key × V)), (more.map (·.1)).Nodup → (∀ x ∈ acc, ∀ y ∈ more, x.1 ≠ y.1) → mergeK acc more = acc ++ more
  | [], acc, _, _ => (List.append_nil acc).symm
  | kv :: more, acc, nd, dj => by
    have n0 := List.nodup_cons.mp nd
    show mergeK (putK acc kv.1 kv.2) more = acc ++ kv :: more
    have e : putK acc kv.1 kv.2 = acc ++ [kv] := by
      unfold putK
      rw [any_none fun x hx => dj x hx kv List.mem_cons_self, if_neg (by decide)]
    rw [e, mergeK_new more _ n0.2 ?_, List.append_assoc]
    · rfl
    · intro x hx y hy
      rcases List.mem_append.mp hx with h | h
      · exact dj x h y (List.mem_cons_of_mem _ hy)
      · rw [List.mem_singleton.mp h]
        exact fun q => n0.1 (List.mem_map.mpr ⟨y, hy, q.symm⟩)
theorem mergeK_zip (nd : ks.Nodup) (l : ks.length = vs.length) : mergeK [] (ks.zip vs) = ks.zip vs := by
  refine mergeK_new _ [] ?_ (fun x h => by cases h)
  rw [List.map_fst_zip (by omega)]
  exact nd
end
/-! ### a dict written out -/
def WP (X : Cx) (keys : List (Option Expr)) (values : List Expr) (σ : L2.St) (H : Hp) (Q : List (V × V) → Hp → Prop) : Prop := match keys, values with
  | [], [] => Q [] H
  | some k :: ks, v :: vs => WE X k σ H fun a H1 => WE X v σ H1 fun b H2 => WP X ks vs σ H2 fun ps H3 => Q ((a, b) :: ps) H3
  | _, _ => False
section
variable {X : Cx} {σ : L2.St}
theorem pps_wp (pos : Pos) : ∀ (keys : List (Option Expr)) (values : List Expr), keys.all (·.isSome) = true → keys.length = values.length → ∃ trs, PPs X pos keys values trs ∧ ∀ H Q, WP X keys values σ H Q → tPairs trs σ H Q
  | [], [], _, _ => ⟨[], pps_nil, fun H Q h => h⟩
  | some k :: ks, v :: vs, h, l => by
    obtain ⟨trs, p, q⟩ := pps_wp pos ks vs h (Nat.succ.inj l)
    exact ⟨_, pps_cons peS peS p, fun H Q h => we_mono h fun a H1 z => we_mono z fun b H2 z => q _ _ z⟩
  | none :: ks, v :: vs, h, _ => by cases h
  | [], _ :: _, _, l => by cases l
  | _ :: _, [], _, l => by cases l
theorem wp_cons {k v : Expr} {ks : List (Option Expr)} {vs : List Expr} {H : Hp} {Q : List (V × V) → Hp → Prop} (h : WE X k σ H fun a H1 => WE X v σ H1 fun b H2 => WP X ks vs σ H2 fun ps H3 => Q ((a, b) :: ps) H3) : WP X (some k :: ks) (v :: vs) σ H Q := h
theorem wp_nil {H : Hp} {Q : List (V × V) → Hp → Prop} (h : Q [] H) : WP X [] [] σ H Q := h
theorem we_disp {H : Hp} {Q : VK} {keys : List (Option Expr)} {values : List Expr} {pos : Pos} (h0 : keys ≠ [])
    (h : ∀ p, H p = none → WP X keys values σ (upd H p (.dK [])) fun ps H2 => H2 p = some (.dK []) ∧ ∃ kvs : List (Key × V), ps = kvs.map (fun kv => (kV kv.1, kv.2)) ∧ kvs.length ≤ 15 ∧ Q (.ref p) (upd H2 p (.dK (mergeK [] kvs)))) (hk : keys.length ≤ 15 := by decide)
    (hall : keys.all (·.isSome) = true := by rfl) (hl : keys.length = values.length := by rfl) : WE X (.Dict keys values pos) σ H Q := by
  obtain ⟨trs, p, q⟩ := pps_wp (X := X) (σ := σ) pos keys values hall hl
  exact weP (pe_disp p hall hl h0 hk) fun a ha => q _ _ (h a ha)
end
/-! ### isinstance(e, (A, B)) in a suite -/
section
variable {X : Cx} {a D : Addr} {oe : Obj} {pn : List (Addr × Obj)} {σ : L2.St} {H : Hp} {Q : VK} {e b : Expr} {p pos : Pos}
theorem call_isE2 (C : ExcC X.K D) (hz : Zc (.ref D) none oe) (hf : ∃ vs, oe.data = .fields vs) : CallR (X.suite a ((a, oe) :: pn)) (.builtin "isinstance") fun xs H Q => ∃ (t C1 C2 : Addr) (r : Bool), xs = [.ref a, .ref t] ∧ H t = some (.tup [.ref C1, .ref C2]) ∧ PySem.W.kitAny X.K (.ref D) [.ref C1, .ref C2] = some r ∧ Q (.bl r) H := by
  intro pins s σ H xs us Q I r h
  obtain ⟨t, C1, C2, r', rfl, ht, e, q⟩ := h
  cases r with
  | cons rx rr =>
    cases rr with
    | cons rt rr =>
      cases rr
      cases rx
      cases rt
      obtain ⟨hget, _⟩ := I.pin (a, oe) (List.mem_append.mpr (.inl List.mem_cons_self))
      obtain ⟨vs, hv⟩ := hf
      have J : PySem.W.InstAt s.heap a oe D none := by
        obtain ⟨oc, od, oda, osl⟩ := oe
        obtain ⟨h1, h2⟩ := hz
        dsimp only at h1 h2 hv
        subst h1 h2 hv
        exact ⟨hget, rfl, rfl, trivial⟩
      obtain ⟨its, rv, ⟨o, ho, hc, n, hd⟩, _⟩ := I.tuple (.of ht : SqT X.K H t [.ref C1, .ref C2])
      have ev : its = [Value.ref C1, Value.ref C2] := by
        cases rv with
        | cons r1 rv =>
          cases rv with
          | cons r2 rv =>
            cases rv
            cases r1
            cases r2
            rfl
      obtain ⟨oc, od, oda, osl⟩ := o
      dsimp only at hc hd
      subst hc hd ev
      exact PySem.W.kia_tup (its := [.ref C1, .ref C2]) (PySem.W.handS_kitx_exc C.hg C.hk C.hs C.hd C.ha C.hn C.ht C.hm) I.kIn J ho e (fun z => nomatch z) fun tk => ⟨.bl r', H, I.kept (t' := tk) fun _ _ z => z, rfl, q⟩
theorem we_isE2 (C : ExcC X.K D) (hz : L2N.Zn (.ref D) none oe) (hf : ∃ vs, oe.data = .fields vs) (bn : Bn (X.suite a ((a, oe) :: pn)) "isinstance")
    (h : WE (X.suite a ((a, oe) :: pn)) e σ H fun v H1 => WE (X.suite a ((a, oe) :: pn)) b σ H1 fun w H2 => v = .ref a ∧ ∃ (t C1 C2 : Addr) (r : Bool), w = .ref t ∧ H2 t = some (.tup [.ref C1, .ref C2]) ∧ PySem.W.kitAny X.K (.ref D) [.ref C1, .ref C2] = some r ∧ Q (.bl r) H2)
    (hs : starEach [e, b] X.env = (false, eval e X.env) :: starEach [b] X.env := by rfl) (ht : starEach [b] X.env = [(false, eval b X.env)] := by rfl) (hl : (backTo pos (starEach [b] X.env)).any (·.1) = false := by rfl) :
    WE (X.suite a ((a, oe) :: pn)) (.Call (.Name "isinstance" p) [e, b] [] pos) σ H Q :=
  we_callB (call_isE2 (pn := pn) C hz.zc hf) bn boot_isinstance (wa_two (we_mono h fun v H1 q => we_mono q fun w H2 q => by
    obtain ⟨rfl, t, C1, C2, r, rfl, h1, h2, q⟩ := q
    exact ⟨t, C1, C2, r, rfl, h1, h2, q⟩) hs ht) (by decide) (by decide) hs hl
theorem kitAny2 {K : PySem.W.Frag} {C1 C2 : Value} (h1 : PySem.W.kitOne K (.ref D) C1 = some false) (h2 : PySem.W.kitOne K (.ref D) C2 = some false) : PySem.W.kitAny K (.ref D) [C1, C2] = some false := by
  unfold PySem.W.kitAny
  rw [h1]
  unfold PySem.W.kitAny
  rw [h2]
  rfl
end
end Rs

namespace Mt
/-- |q| -/
def rabs (q : Rat) : Rat := Rat.divInt (if q.num < 0 then -q.num else q.num) q.den
theorem cross {a b : Int} (hb : b ≠ 0) : (Rat.divInt a b).num * b = a * (Rat.divInt a b).den := by
  have h := Rat.num_divInt_den (Rat.divInt a b)
  exact (Rat.divInt_eq_divInt_iff (den_ne _) hb).mp h
theorem rabs_div {a b : Int} (hb : b ≠ 0) : rabs (Rat.divInt a b) = Rat.divInt (if (decide (a < 0) != decide (b < 0)) = true then -a else a) b := by
  have hq := Rat.num_divInt_den (Rat.divInt a b)
  have hc := cross (a := a) hb
  have hD := den_pos (Rat.divInt a b)
  generalize hn : (Rat.divInt a b).num = n at hc hq
  generalize hd : ((Rat.divInt a b).den : Int) = D at hc hq hD
  have nega : -Rat.divInt a b = Rat.divInt (-a) b := Rat.neg_divInt a b
  unfold rabs
  rw [hn, hd]
  by_cases h0 : n < 0
  · rw [if_pos h0, ← Rat.neg_divInt, hq, nega]
    rcases Int.lt_or_gt_of_ne hb with hb' | hb'
    · have h1 : 0 < n * b := Int.mul_pos_of_neg_of_neg h0 hb'
      rw [hc] at h1
      have ha : 0 < a := Int.pos_of_mul_pos_left h1 hD
      rw [decide_eq_false (by omega : ¬ a < 0), decide_eq_true hb']; rfl
    · have h1 : n * b < 0 := Int.mul_neg_of_neg_of_pos h0 hb'
      rw [hc] at h1
      have ha : a < 0 := Int.neg_of_mul_neg_left h1 hD
      rw [decide_eq_true ha, decide_eq_false (by omega : ¬ b < 0)]; rfl
  · rw [if_neg h0, hq]
    rcases Int.lt_or_gt_of_ne hb with hb' | hb'
    · have h1 : n * b ≤ 0 := Int.mul_nonpos_of_nonneg_of_nonpos (by omega) (by omega)
      rw [hc] at h1
      have ha : a ≤ 0 := by
        refine Int.not_lt.mp fun z => ?_
        have := Int.mul_pos z hD
        omega
      by_cases z : a < 0
      · rw [decide_eq_true z, decide_eq_true hb', if_neg (by decide)]
      · rw [show a = 0 by omega]
        split <;> rfl
    · have h1 : 0 ≤ n * b := Int.mul_nonneg (by omega) (by omega)
      rw [hc] at h1
      have ha : 0 ≤ a := by
        refine Int.not_lt.mp fun z => ?_
        have := Int.mul_neg_of_neg_of_pos z hD
        omega
      rw [decide_eq_false (by omega : ¬ a < 0), decide_eq_false (by omega : ¬ b < 0), if_neg (by decide)]
end Mt

namespace Mt
/-- -1, 0, 1 as q is below, at, above r -/
def sg (q r : Rat) : Int := if q = r then 0 else if q < r then -1 else 1
theorem sg_neg (q r : Rat) : -sg q r = sg r q := by
  unfold sg
  by_cases h : q = r
  · subst h
    rw [if_pos rfl]; rfl
  · have h' : ¬ r = q := fun e => h e.symm
    by_cases l : q < r
    · have l' : ¬ r < q := fun l2 => absurd (Rat.le_of_lt l2) (Rat.not_le.mpr l)
      simp only [h, h', l, l', if_true, if_false]; rfl
    · have l' : r < q := Rat.not_le.mp fun l2 => l (Rat.lt_of_le_of_ne l2 h)
      simp only [h, h', l, l', if_true, if_false]
theorem sg_lt (q r : Rat) : decide (q < r) = decide (sg q r < 0) := by
  unfold sg
  by_cases h : q = r
  · subst h
    rw [if_pos rfl, decide_eq_false Rat.lt_irrefl]; rfl
  · rw [if_neg h]
    by_cases l : q < r
    · rw [if_pos l, decide_eq_true l]; rfl
    · rw [if_neg l, decide_eq_false l]; rfl
theorem sg_eq (q r : Rat) : decide (q = r) = decide (sg q r = 0) := by
  unfold sg
  by_cases h : q = r
  · rw [if_pos h, decide_eq_true h]; rfl
  · rw [if_neg h, decide_eq_false h]
    by_cases l : q < r
    · rw [if_pos l]; rfl
    · rw [if_neg l]; rfl
theorem sg_eq2 (q r : Rat) : decide (r = q) = decide (sg q r = 0) := by
  rw [← sg_eq]
  congr 1
  exact propext eq_comm
theorem sg_le (q r : Rat) : decide (q ≤ r) = decide (sg q r ≤ 0) := by
  unfold sg
  by_cases h : q = r
  · subst h
    rw [if_pos rfl, decide_eq_true Rat.le_refl]; rfl
  · rw [if_neg h]
    by_cases l : q < r
    · rw [if_pos l, decide_eq_true (Rat.le_of_lt l)]; rfl
    · rw [if_neg l, decide_eq_false fun l2 => l (Rat.lt_of_le_of_ne l2 h)]; rfl
theorem sg_gt (q r : Rat) : decide (r < q) = decide (0 < sg q r) := by
  rw [sg_lt r q, ← sg_neg q r]
  congr 1
  exact propext ⟨fun h => by omega, fun h => by omega⟩
theorem sg_ge (q r : Rat) : decide (r ≤ q) = decide (0 ≤ sg q r) := by
  rw [sg_le r q, ← sg_neg q r]
  congr 1
  exact propext ⟨fun h => by omega, fun h => by omega⟩
theorem sq_pos {x : Int} (h : x ≠ 0) : 0 < x * x := by
  rcases Int.lt_or_gt_of_ne h with l | l
  · exact Int.mul_pos_of_neg_of_neg l l
  · exact Int.mul_pos l l
/-- the two sides of _law_sign, scaled -/
theorem side {a b d D G n : Int} (h : n * b = a * D) : a * b * d * d * (D * G) = n * G * (b * b * (d * d)) := by
  have : a * b * d * d * (D * G) = (a * D) * b * d * d * G := by grind
  rw [this, ← h]
  grind
theorem sgn_lt {a b c d : Int} (hb : b ≠ 0) (hd : d ≠ 0) : (a * b * d * d < c * d * b * b) ↔ Rat.divInt a b < Rat.divInt c d := by
  have h1 := side (d := d) (G := ((Rat.divInt c d).den : Int)) (cross (a := a) hb)
  have h2 := side (d := b) (G := ((Rat.divInt a b).den : Int)) (cross (a := c) hd)
  have hk : 0 < b * b * (d * d) := Int.mul_pos (sq_pos hb) (sq_pos hd)
  have hD := Int.mul_pos (den_pos (Rat.divInt a b)) (den_pos (Rat.divInt c d))
  rw [Rat.lt_iff]
  have e1 := Int.mul_lt_mul_right (b := (Rat.divInt a b).num * (Rat.divInt c d).den) (c := (Rat.divInt c d).num * (Rat.divInt a b).den) hk
  have e2 := Int.mul_lt_mul_right (b := a * b * d * d) (c := c * d * b * b) hD
  rw [← e1, ← e2, h1, Int.mul_comm ((Rat.divInt a b).den : Int), h2, Int.mul_comm (b * b) (d * d)]
theorem sgn_eq {a b c d : Int} (hb : b ≠ 0) (hd : d ≠ 0) : (a * b * d * d = c * d * b * b) ↔ Rat.divInt a b = Rat.divInt c d := by
  have l1 := sgn_lt (a := a) (c := c) hb hd
  have l2 := sgn_lt (a := c) (c := a) hd hb
  constructor
  · intro h
    have n1 := mt l1.mpr (by omega)
    have n2 := mt l2.mpr (by omega)
    exact Rat.le_antisymm (Rat.not_lt.mp n2) (Rat.not_lt.mp n1)
  · intro h
    have n1 := mt l1.mp (by rw [h]; exact Rat.lt_irrefl)
    have n2 := mt l2.mp (by rw [h]; exact Rat.lt_irrefl)
    omega
theorem fdiv_le {a b : Int} (hb : b ≠ 0) : (a.fdiv b).natAbs ≤ a.natAbs := by
  rcases Int.lt_or_gt_of_ne hb with l | l
  · rw [← Int.neg_fdiv_neg, Int.fdiv_eq_ediv_of_nonneg _ (by omega)]
    refine Nat.le_trans (Int.natAbs_ediv_le_natAbs _ _) ?_
    rw [Int.natAbs_neg]
    exact Nat.le_refl _
  · rw [Int.fdiv_eq_ediv_of_nonneg _ (by omega)]
    exact Int.natAbs_ediv_le_natAbs _ _
end Mt

namespace Mt
/-- at least 1 -/
def m1 (b : Int) : Nat := if b.natAbs = 0 then 1 else b.natAbs
theorem m1_pos (b : Int) : 1 ≤ m1 b := by unfold m1; split <;> omega
theorem m1_le (b : Int) : b.natAbs ≤ m1 b := by unfold m1; split <;> omega
theorem powB {b : Int} {r n M : Nat} (h : m1 b ^ n < 2 ^ M) (l : r ≤ n) : (b ^ r).natAbs < 2 ^ M := by
  rw [Int.natAbs_pow]
  exact Nat.lt_of_le_of_lt (Nat.le_trans (Nat.pow_le_pow_left (m1_le b) r) (Nat.pow_le_pow_right (m1_pos b) l)) h
theorem powm {m k n M : Nat} (h : m < 2 ^ k) (l : k * n ≤ M) (hn : 0 < n) : m ^ n < 2 ^ M := by
  refine Nat.lt_of_lt_of_le (Nat.pow_lt_pow_left h (by omega)) ?_
  rw [← Nat.pow_mul]
  exact Nat.pow_le_pow_right (by decide) l
/-- q to the n -/
def qpow (q : Rat) (n : Nat) : Rat := Rat.divInt (q.num ^ n) ((q.den : Int) ^ n)
theorem pow_ne {b : Int} (h : b ≠ 0) (n : Nat) : b ^ n ≠ 0 := Int.pow_ne_zero h
theorem qpow_div {a b : Int} (hb : b ≠ 0) (n : Nat) : qpow (Rat.divInt a b) n = Rat.divInt (a ^ n) (b ^ n) := by
  unfold qpow
  rw [Rat.divInt_eq_divInt_iff (pow_ne (den_ne _) n) (pow_ne hb n), ← Int.mul_pow, ← Int.mul_pow, cross hb]
theorem qpow_add (q : Rat) (m n : Nat) : qpow q (m + n) = qpow q m * qpow q n := by
  unfold qpow
  rw [Rat.divInt_mul_divInt, ← Int.pow_add, ← Int.pow_add]
theorem cop_pow (q : Rat) (n : Nat) : Int.gcd (q.num ^ n) ((q.den : Int) ^ n) = 1 := by
  show Nat.gcd (q.num ^ n).natAbs ((q.den : Int) ^ n).natAbs = 1
  rw [Int.natAbs_pow, Int.natAbs_pow, Int.natAbs_natCast]
  exact Nat.Coprime.pow n n q.reduced
theorem g1_pow (q : Rat) (n : Nat) : g1 (q.num ^ n) ((q.den : Int) ^ n) = 1 := by
  unfold g1
  rw [cop_pow]
  rfl
theorem qpow_num (q : Rat) (n : Nat) : (qpow q n).num = q.num ^ n := by
  have hd : (q.den : Int) ^ n > 0 := Int.pow_pos (den_pos q)
  unfold qpow
  rw [Rat.num_divInt, Int.gcd_comm, cop_pow, Int.sign_eq_one_of_pos hd, Int.one_mul]
  exact Int.ediv_one _
theorem qpow_den (q : Rat) (n : Nat) : ((qpow q n).den : Int) = (q.den : Int) ^ n := by
  have hd : (q.den : Int) ^ n > 0 := Int.pow_pos (den_pos q)
  unfold qpow
  rw [Rat.den_divInt, if_neg (by omega), Int.gcd_comm, cop_pow, Nat.div_one, Int.natAbs_of_nonneg (by omega)]
theorem step_odd {r e c n : Nat} (h : r + e * c = n) (o : c % 2 = 1) : (r + e) + (e + e) * (c / 2) = n := by
  have hc : c = 2 * (c / 2) + 1 := by omega
  generalize c / 2 = h2 at hc
  subst hc
  rw [← h, Nat.add_mul, Nat.mul_add, Nat.mul_one, Nat.two_mul, Nat.mul_add]
  omega
theorem step_even {r e c n : Nat} (h : r + e * c = n) (o : c % 2 = 0) : r + (e + e) * (c / 2) = n := by
  have hc : c = 2 * (c / 2) := by omega
  generalize c / 2 = h2 at hc
  subst hc
  rw [← h, Nat.add_mul, Nat.two_mul, Nat.mul_add]
theorem le_n {r e c n : Nat} (h : r + e * c = n) (hc : 0 < c) : e ≤ n ∧ r ≤ n ∧ r + e ≤ n := by
  have : e * 1 ≤ e * c := Nat.mul_le_mul_left e hc
  omega
end Mt

namespace Mt
def ov (q r : Rat) : Rat := Rat.divInt (q.num * r.den) (q.den * r.num)
def fl (q r : Rat) : Int := (q.num * r.den).fdiv (q.den * r.num)
theorem scale {a b : Int} (hb : b ≠ 0) : ∃ g : Int, g ≠ 0 ∧ a = (Rat.divInt a b).num * g ∧ b = (Rat.divInt a b).den * g := Rat.divInt_num_den (n' := (Rat.divInt a b).num) (d' := (Rat.divInt a b).den) (z' := (Rat.divInt a b).den_nz) (c := (Rat.divInt a b).reduced) hb rfl
theorem fdiv_scale {x y k : Int} (hk : k ≠ 0) : (x * k).fdiv (y * k) = x.fdiv y := by
  have pos : ∀ {x y k : Int}, 0 < k → (x * k).fdiv (y * k) = x.fdiv y := fun {x y k} h => by
    rw [Int.mul_comm x, Int.mul_comm y]
    exact Int.mul_fdiv_mul_of_pos x y h
  rcases Int.lt_or_gt_of_ne hk with l | l
  · rw [← Int.neg_fdiv_neg, Int.neg_mul_eq_mul_neg, Int.neg_mul_eq_mul_neg]
    exact pos (by omega)
  · exact pos l
theorem four (n g G h : Int) : n * g * (G * h) = n * G * (g * h) := by grind
theorem fl_div {a b c d : Int} (hb : b ≠ 0) (hd : d ≠ 0) : fl (Rat.divInt a b) (Rat.divInt c d) = (a * d).fdiv (b * c) := by
  obtain ⟨g, g0, e1, e2⟩ := scale (a := a) hb
  obtain ⟨h, h0, e3, e4⟩ := scale (a := c) hd
  generalize hq : Rat.divInt a b = q at *
  generalize hr : Rat.divInt c d = r at *
  unfold fl
  rw [e1, e2, e3, e4, four q.num g r.den h, four q.den g r.num h, fdiv_scale (Int.mul_ne_zero g0 h0)]
theorem ov_div {a b c d : Int} (hb : b ≠ 0) (hd : d ≠ 0) : ov (Rat.divInt a b) (Rat.divInt c d) = Rat.divInt (a * d) (b * c) := by
  obtain ⟨g, g0, e1, e2⟩ := scale (a := a) hb
  obtain ⟨h, h0, e3, e4⟩ := scale (a := c) hd
  generalize hq : Rat.divInt a b = q at *
  generalize hr : Rat.divInt c d = r at *
  unfold ov
  rw [e1, e2, e3, e4, four q.num g r.den h, four q.den g r.num h, Rat.divInt_mul_right (Int.mul_ne_zero g0 h0)]
theorem num_zero {c d : Int} (hd : d ≠ 0) : (Rat.divInt c d).num = 0 ↔ c = 0 := by
  obtain ⟨h, h0, e3, e4⟩ := scale (a := c) hd
  constructor
  · intro z
    rw [e3, z, Int.zero_mul]
  · intro z
    rw [z] at e3 ⊢
    rcases Int.mul_eq_zero.mp e3.symm with y | y
    · exact y
    · exact absurd y h0
theorem fl_le {q r : Rat} (h : r.num ≠ 0) : (fl q r).natAbs ≤ (q.num * r.den).natAbs := fdiv_le (Int.mul_ne_zero (den_ne q) h)
end Mt

namespace Mt
theorem Sz.mul {q r : Rat} {n m : Nat} (h : Sz q n) (h' : Sz r m) : Sz (q * r) (n + m) := by
  rw [← mul_eq]
  refine Sz.div (Int.mul_ne_zero (den_ne q) (den_ne r)) (mulB h.num h'.num) ?_
  rw [Int.natAbs_mul, Int.natAbs_natCast, Int.natAbs_natCast]
  exact pow_add' h.den h'.den
theorem Sz.sub {q r : Rat} {n m : Nat} (h : Sz q n) (h' : Sz r m) : Sz (q - r) (n + m + 1) := by
  rw [← sub_eq]
  refine Sz.div (Int.mul_ne_zero (den_ne q) (den_ne r)) (subB (mulB h.num (by rw [Int.natAbs_natCast]; exact h'.den)) ?_) ?_
  · rw [Nat.add_comm]
    exact mulB h'.num (by rw [Int.natAbs_natCast]; exact h.den)
  · rw [Int.natAbs_mul, Int.natAbs_natCast, Int.natAbs_natCast]
    exact Nat.lt_of_lt_of_le (pow_add' h.den h'.den) (Nat.pow_le_pow_right (by decide) (by omega))
theorem Sz.add {q r : Rat} {n m : Nat} (h : Sz q n) (h' : Sz r m) : Sz (q + r) (n + m + 1) := by
  rw [← add_eq]
  refine Sz.div (Int.mul_ne_zero (den_ne q) (den_ne r)) (addB (mulB h.num (by rw [Int.natAbs_natCast]; exact h'.den)) ?_) ?_
  · rw [Nat.add_comm]
    exact mulB h'.num (by rw [Int.natAbs_natCast]; exact h.den)
  · rw [Int.natAbs_mul, Int.natAbs_natCast, Int.natAbs_natCast]
    exact Nat.lt_of_lt_of_le (pow_add' h.den h'.den) (Nat.pow_le_pow_right (by decide) (by omega))
theorem back_again (q r : Rat) : q - r + r = q := Rat.sub_add_cancel
theorem part_times {a b c d : Int} (hb : b ≠ 0) (hc : c ≠ 0) (hd : d ≠ 0) : ov (Rat.divInt a b) (Rat.divInt c d) * Rat.divInt c d = Rat.divInt a b := by
  rw [ov_div hb hd, Rat.divInt_mul_divInt, Rat.divInt_eq_divInt_iff (Int.mul_ne_zero (Int.mul_ne_zero hb hc) hd) hb]
  grind
end Mt

namespace Mt
/-! a round, sending by sending, over any numbers -/
section
variable {α : Type} [Add α] [LT α] [DecidableRel (LT.lt (α := α))]
/-- the wait of sending k, its time -/
def wtk (w : α) (d : Bool) : Nat → α
  | 0 => w
  | k + 1 => if d = true then wtk w d k + wtk w d k else wtk w d k
def stk (z w : α) (d : Bool) : Nat → α
  | 0 => z
  | k + 1 => stk z w d k + wtk w d k
/-- the delay of sending k -/
def dlk (ds : List (Option α)) (k : Nat) : Option α := if k < ds.length then (ds[k]?).getD none else (ds[ds.length - 1]?).getD none
structure RS (α : Type) where
  nd : Nat
  an : Nat
  ans : Option α
  dly : Option α
def rstep (r : RS α) (k : Nat) (s : α) (o : Option α) : RS α :=
  let n := match r.ans with
    | none => r.nd
    | some _ => r.nd + 1
  match o with
  | none => ⟨n, r.an, r.ans, r.dly⟩
  | some x => match r.ans with
    | none => ⟨n, k, some (s + x), some x⟩
    | some a => if s + x < a then ⟨n, k, some (s + x), some x⟩ else ⟨n, r.an, r.ans, r.dly⟩
def rsk (z w : α) (d : Bool) (ds : List (Option α)) : Nat → RS α
  | 0 => ⟨0, 0, none, none⟩
  | k + 1 => rstep (rsk z w d ds k) k (stk z w d k) (dlk ds k)
/-- an answer is awaited at sending k -/
def Gng (z w : α) (d : Bool) (ds : List (Option α)) (k : Nat) : Prop := match (rsk z w d ds k).ans with
  | none => True
  | some a => stk z w d k < a
/-- the wait of the last one of k sendings -/
def lwk (w : α) (d : Bool) : Nat → α
  | 0 => w
  | k + 1 => wtk w d k
end
section
variable {α β : Type} [Add α] [LT α] [DecidableRel (LT.lt (α := α))] [Add β] [LT β] [DecidableRel (LT.lt (α := β))]
def RS.map (f : α → β) (r : RS α) : RS β := ⟨r.nd, r.an, r.ans.map f, r.dly.map f⟩
variable {f : α → β} (ha : ∀ a b, f (a + b) = f a + f b) (hl : ∀ a b, f a < f b ↔ a < b) {z w : α} {d : Bool} {ds : List (Option α)}
include ha in
theorem wtk_map (k : Nat) : wtk (f w) d k = f (wtk w d k) := by
  induction k with
  | zero => rfl
  | succ k ih =>
    unfold wtk
    rw [ih]
    split
    · rw [ha]
    · rfl
include ha in
theorem stk_map (k : Nat) : stk (f z) (f w) d k = f (stk z w d k) := by
  induction k with
  | zero => rfl
  | succ k ih =>
    unfold stk
    rw [ih, wtk_map ha, ha]
include ha in
theorem lwk_map (k : Nat) : lwk (f w) d k = f (lwk w d k) := by
  cases k with
  | zero => rfl
  | succ k => exact wtk_map ha k
theorem dlk_map (k : Nat) : dlk (ds.map (Option.map f)) k = (dlk ds k).map f := by
  unfold dlk
  rw [List.length_map, List.getElem?_map, List.getElem?_map]
  split
  · cases ds[k]? with
    | none => rfl
    | some o => rfl
  · cases ds[ds.length - 1]? with
    | none => rfl
    | some o => rfl
include ha hl in
theorem rstep_map (r : RS α) (k : Nat) (s : α) (o : Option α) : rstep (r.map f) k (f s) (o.map f) = (rstep r k s o).map f := by
  obtain ⟨nd, an, ans, dly⟩ := r
  cases o with
  | none => cases ans <;> rfl
  | some x =>
    cases ans with
    | none =>
      show (⟨nd, k, some (f s + f x), some (f x)⟩ : RS β) = ⟨nd, k, some (f (s + x)), some (f x)⟩
      rw [ha]
    | some a =>
      show (if f s + f x < f a then (⟨nd + 1, k, some (f s + f x), some (f x)⟩ : RS β) else ⟨nd + 1, an, some (f a), dly.map f⟩) = RS.map f (if s + x < a then ⟨nd + 1, k, some (s + x), some x⟩ else ⟨nd + 1, an, some a, dly⟩)
      rw [← ha]
      by_cases h : s + x < a
      · rw [if_pos h, if_pos ((hl _ _).mpr h)]
        rfl
      · rw [if_neg h, if_neg (fun q => h ((hl _ _).mp q))]
        rfl
include ha hl in
theorem rsk_map (k : Nat) : rsk (f z) (f w) d (ds.map (Option.map f)) k = (rsk z w d ds k).map f := by
  induction k with
  | zero => rfl
  | succ k ih =>
    unfold rsk
    rw [ih, stk_map ha, dlk_map, rstep_map ha hl]
include ha hl in
theorem gng_map (k : Nat) : Gng (f z) (f w) d (ds.map (Option.map f)) k ↔ Gng z w d ds k := by
  unfold Gng
  rw [rsk_map ha hl, stk_map ha]
  cases h : (rsk z w d ds k).ans with
  | none =>
    have : ((rsk z w d ds k).map f).ans = none := by unfold RS.map; rw [h]; rfl
    rw [this]
  | some a =>
    have : ((rsk z w d ds k).map f).ans = some (f a) := by unfold RS.map; rw [h]; rfl
    rw [this]
    exact hl _ _
end
/-! whole numbers over a bottom -/
def sc (L : Nat) (i : Int) : Rat := Rat.divInt i L
theorem sc_add {L : Nat} (h : L ≠ 0) (a b : Int) : sc L (a + b) = sc L a + sc L b := by
  unfold sc
  rw [Rat.divInt_add_divInt _ _ (by omega) (by omega), ← Int.add_mul, Rat.divInt_mul_right (by omega)]
theorem sc_lt {L : Nat} (h : L ≠ 0) (a b : Int) : sc L a < sc L b ↔ a < b := by
  unfold sc
  have hp : (0 : Int) < L := by omega
  rw [← sgn_lt (by omega) (by omega), Int.mul_lt_mul_right hp, Int.mul_lt_mul_right hp, Int.mul_lt_mul_right hp]
theorem sc_zero (L : Nat) : sc L 0 = 0 := by
  unfold sc
  exact Rat.zero_divInt _
theorem sc_pos {L : Nat} (h : L ≠ 0) {a : Int} : 0 < sc L a ↔ 0 < a := by rw [← sc_zero L, sc_lt h]
end Mt

namespace Mt
theorem least {P : Nat → Prop} : ∀ n, P n → ∃ N, N ≤ n ∧ P N ∧ ∀ j, j < N → ¬ P j := by
  intro n
  induction n using Nat.strongRecOn with
  | ind n ih =>
    intro h
    by_cases q : ∃ j, j < n ∧ P j
    · obtain ⟨j, hj, pj⟩ := q
      obtain ⟨N, h1, h2, h3⟩ := ih j hj pj
      exact ⟨N, by omega, h2, h3⟩
    · exact ⟨n, Nat.le_refl n, h, fun j hj pj => q ⟨j, hj, pj⟩⟩
section
variable {W : Int} {d : Bool} {ds : List (Option Int)}
theorem wtk_ge (h : 0 ≤ W) (k : Nat) : W ≤ wtk W d k := by
  induction k with
  | zero => exact Int.le_refl _
  | succ k ih =>
    unfold wtk
    split <;> omega
theorem wtk_le (h : 0 ≤ W) (k : Nat) : wtk W d k ≤ W * 2 ^ k := by
  induction k with
  | zero => show W ≤ W * 2 ^ 0; omega
  | succ k ih =>
    have e : W * 2 ^ (k + 1) = W * 2 ^ k + W * 2 ^ k := by rw [Int.pow_succ]; grind
    have g := wtk_ge (d := d) h k
    rw [e]
    unfold wtk
    split <;> omega
theorem stk_le (h : 0 ≤ W) (k : Nat) : stk 0 W d k ≤ W * 2 ^ k := by
  induction k with
  | zero => show 0 ≤ W * 2 ^ 0; omega
  | succ k ih =>
    have e : W * 2 ^ (k + 1) = W * 2 ^ k + W * 2 ^ k := by rw [Int.pow_succ]; grind
    have g := wtk_le (d := d) h k
    rw [e]
    unfold stk
    omega
theorem stk_nn (h : 0 ≤ W) (k : Nat) : 0 ≤ stk 0 W d k := by
  induction k with
  | zero => exact Int.le_refl _
  | succ k ih =>
    have g := wtk_ge (d := d) h k
    unfold stk
    omega
theorem stk_far (h : 0 ≤ W) (k j : Nat) : stk 0 W d k + j * W ≤ stk 0 W d (k + j) := by
  induction j with
  | zero => simp
  | succ j ih =>
    have g := wtk_ge (d := d) h (k + j)
    have e : ((j + 1 : Nat) : Int) * W = j * W + W := by
      rw [show ((j + 1 : Nat) : Int) = (j : Int) + 1 by omega, Int.add_mul, Int.one_mul]
    show _ ≤ stk 0 W d (k + j) + wtk W d (k + j)
    omega
/-- the answer that stands is at most B -/
def Below (r : RS Int) (B : Int) : Prop := ∃ a, r.ans = some a ∧ a ≤ B
theorem below_step {r : RS Int} {B s : Int} {k : Nat} {o : Option Int} (h : Below r B) : Below (rstep r k s o) B := by
  obtain ⟨nd, an, ans, dly⟩ := r
  obtain ⟨a, e, l⟩ := h
  cases e
  cases o with
  | none => exact ⟨a, rfl, l⟩
  | some x =>
    show Below (if s + x < a then (⟨nd + 1, k, some (s + x), some x⟩ : RS Int) else ⟨nd + 1, an, some a, dly⟩) B
    split
    · exact ⟨s + x, rfl, by omega⟩
    · exact ⟨a, rfl, l⟩
theorem below_new {r : RS Int} {s x : Int} {k : Nat} : Below (rstep r k s (some x)) (s + x) := by
  obtain ⟨nd, an, ans, dly⟩ := r
  cases ans with
  | none => exact ⟨s + x, rfl, Int.le_refl _⟩
  | some a =>
    show Below (if s + x < a then (⟨nd + 1, k, some (s + x), some x⟩ : RS Int) else ⟨nd + 1, an, some a, dly⟩) (s + x)
    split
    · exact ⟨s + x, rfl, Int.le_refl _⟩
    · exact ⟨a, rfl, by omega⟩
/-- the delays of a law's round -/
structure DOk (W : Int) (ds : List (Option Int)) : Prop where
  n0 : 0 < ds.length
  n6 : ds.length ≤ 6
  all : ∀ (j : Nat) (x : Int), (ds[j]?).getD none = some x → 1 ≤ x ∧ x ≤ 9 * W
  last : ∃ x, (ds[ds.length - 1]?).getD none = some x
theorem DOk.dl (h : DOk W ds) {k : Nat} {x : Int} (e : dlk ds k = some x) : 1 ≤ x ∧ x ≤ 9 * W := by
  unfold dlk at e
  split at e <;> exact h.all _ _ e
theorem stops (hW : 1 ≤ W) (h : DOk W ds) : ∃ N, 0 < N ∧ N ≤ 14 ∧ ¬ Gng 0 W d ds N ∧ ∀ j, j < N → Gng 0 W d ds j := by
  obtain ⟨x, ex⟩ := h.last
  obtain ⟨n, en⟩ : ∃ n, ds.length = n + 1 := ⟨ds.length - 1, by have := h.n0; omega⟩
  have n6 := h.n6
  have ed : dlk ds n = some x := by
    unfold dlk
    rw [if_pos (by omega)]
    rw [en] at ex
    exact ex
  have hx := h.dl ed
  have b0 : Below (rsk 0 W d ds (n + 1)) (stk 0 W d n + x) := by
    show Below (rstep _ n _ (dlk ds n)) _
    rw [ed]
    exact below_new
  have bk : ∀ j, Below (rsk 0 W d ds (n + 1 + j)) (stk 0 W d n + x) := fun j => by
    induction j with
    | zero => exact b0
    | succ j ih => exact below_step ih
  have far := stk_far (W := W) (d := d) (by omega) n 9
  have st : ¬ Gng 0 W d ds (n + 9) := by
    obtain ⟨a, ea, la⟩ := bk 8
    rw [show n + 1 + 8 = n + 9 by omega] at ea
    unfold Gng
    rw [ea]
    show ¬ stk 0 W d (n + 9) < a
    omega
  obtain ⟨N, h1, h2, h3⟩ := least (P := fun k => ¬ Gng 0 W d ds k) (n + 9) st
  refine ⟨N, ?_, by omega, h2, fun j hj => Classical.byContradiction (h3 j hj)⟩
  rcases Nat.eq_zero_or_pos N with e | e
  · subst e
    exact absurd trivial h2
  · exact e
end
theorem sc_sz {L : Nat} {i : Int} {m : Nat} (h : L ≠ 0) (hi : i.natAbs < 2 ^ m) (hL : L < 2 ^ m) : Sz (sc L i) m := Sz.div (by omega) hi (by omega)
end Mt

namespace Mt
section
variable {u : Rat} {d : Bool} {ds : List (Option Rat)}
/-- what stands behind k sendings -/
def Rin (u : Rat) (d : Bool) (ds : List (Option Rat)) (k : Nat) (r : RS Rat) : Prop := match r.ans with
  | none => (∀ j, j < k → dlk ds j = none) ∧ r.nd = 0
  | some a => r.an < k ∧ (∃ y, dlk ds r.an = some y ∧ r.dly = some y ∧ stk 0 u d r.an + y = a) ∧
    (∀ j, j < k → ∀ x, dlk ds j = some x → a ≤ stk 0 u d j + x ∧ (stk 0 u d j + x = a → r.an ≤ j)) ∧ ∃ h, h < k ∧ dlk ds h ≠ none ∧ (∀ j, j < h → dlk ds j = none) ∧ r.nd + h + 1 = k
theorem rin (k : Nat) : Rin u d ds k (rsk 0 u d ds k) := by
  induction k with
  | zero => exact ⟨fun j hj => absurd hj (Nat.not_lt_zero j), rfl⟩
  | succ k ih =>
    show Rin u d ds (k + 1) (rstep (rsk 0 u d ds k) k (stk 0 u d k) (dlk ds k))
    generalize rsk 0 u d ds k = r at ih
    obtain ⟨nd, an, ans, dly⟩ := r
    cases eo : dlk ds k with
    | none =>
      cases ans with
      | none =>
        obtain ⟨h1, h2⟩ := ih
        refine ⟨fun j hj => ?_, h2⟩
        rcases Nat.lt_or_eq_of_le (Nat.le_of_lt_succ hj) with l | l
        · exact h1 j l
        · rw [l]; exact eo
      | some a =>
        obtain ⟨h1, h2, h3, h, h4, h5, h6, h7⟩ := ih
        refine ⟨Nat.lt_succ_of_lt h1, h2, fun j hj x hx => ?_, h, Nat.lt_succ_of_lt h4, h5, h6, by show nd + 1 + h + 1 = k + 1; have h7 : nd + h + 1 = k := h7; omega⟩
        rcases Nat.lt_or_eq_of_le (Nat.le_of_lt_succ hj) with l | l
        · exact h3 j l x hx
        · rw [l, eo] at hx; cases hx
    | some x =>
      cases ans with
      | none =>
        obtain ⟨h1, h2⟩ := ih
        have h2 : nd = 0 := h2
        refine ⟨Nat.lt_succ_self k, ⟨x, eo, rfl, rfl⟩, fun j hj y hy => ?_, k, Nat.lt_succ_self k, (by rw [eo]; exact fun z => nomatch z), h1, by show nd + k + 1 = k + 1; omega⟩
        rcases Nat.lt_or_eq_of_le (Nat.le_of_lt_succ hj) with l | l
        · rw [h1 j l] at hy; cases hy
        · subst l
          rw [eo] at hy
          cases hy
          exact ⟨Rat.le_refl, fun _ => Nat.le_refl _⟩
      | some a =>
        obtain ⟨h1, h2, h3, h, h4, h5, h6, h7⟩ := ih
        have h7 : nd + h + 1 = k := h7
        show Rin u d ds (k + 1) (if stk 0 u d k + x < a then (⟨nd + 1, k, some (stk 0 u d k + x), some x⟩ : RS Rat) else ⟨nd + 1, an, some a, dly⟩)
        by_cases f : stk 0 u d k + x < a
        · rw [if_pos f]
          refine ⟨Nat.lt_succ_self k, ⟨x, eo, rfl, rfl⟩, fun j hj y hy => ?_, h, Nat.lt_succ_of_lt h4, h5, h6, by show nd + 1 + h + 1 = k + 1; omega⟩
          rcases Nat.lt_or_eq_of_le (Nat.le_of_lt_succ hj) with l | l
          · have q := (h3 j l y hy).1
            exact ⟨by grind, fun e => by grind⟩
          · subst l
            rw [eo] at hy
            cases hy
            exact ⟨Rat.le_refl, fun _ => Nat.le_refl _⟩
        · rw [if_neg f]
          refine ⟨Nat.lt_succ_of_lt h1, h2, fun j hj y hy => ?_, h, Nat.lt_succ_of_lt h4, h5, h6, by show nd + 1 + h + 1 = k + 1; omega⟩
          rcases Nat.lt_or_eq_of_le (Nat.le_of_lt_succ hj) with l | l
          · exact h3 j l y hy
          · subst l
            rw [eo] at hy
            cases hy
            exact ⟨Rat.not_lt.mp f, fun _ => Nat.le_of_lt h1⟩
theorem wtk_pos (h : 0 < u) (k : Nat) : 0 < wtk u d k := by
  induction k with
  | zero => exact h
  | succ k ih =>
    unfold wtk
    split
    · grind
    · exact ih
theorem stk_mono (h : 0 < u) {j k : Nat} (l : j ≤ k) : stk 0 u d j ≤ stk 0 u d k := by
  induction k with
  | zero => rw [Nat.le_zero.mp l]; exact Rat.le_refl
  | succ k ih =>
    rcases Nat.lt_or_eq_of_le l with q | q
    · have i := ih (Nat.le_of_lt_succ q)
      have p := wtk_pos (d := d) h k
      show _ ≤ stk 0 u d k + wtk u d k
      grind
    · rw [q]; exact Rat.le_refl
/-- a round that stops behind N sendings -/
theorem rstop {N : Nat} (h : 0 < u) (n0 : 0 < N) (go : ∀ k, k < N → Gng 0 u d ds k) (st : ¬ Gng 0 u d ds N) (dp : ∀ k x, dlk ds k = some x → 0 < x) :
    ∃ a, (rsk 0 u d ds N).ans = some a ∧ (∀ j, j < N → stk 0 u d j < a) ∧ a ≤ stk 0 u d N := by
  obtain ⟨n, rfl⟩ : ∃ n, N = n + 1 := ⟨N - 1, by omega⟩
  have gn := go n (Nat.lt_succ_self n)
  have key : ∀ a, (rsk 0 u d ds (n + 1)).ans = some a → stk 0 u d n < a := by
    intro a e
    have e : (rstep (rsk 0 u d ds n) n (stk 0 u d n) (dlk ds n)).ans = some a := e
    unfold Gng at gn
    generalize rsk 0 u d ds n = r at e gn
    obtain ⟨nd, an, ans, dly⟩ := r
    cases eo : dlk ds n with
    | none =>
      rw [eo] at e
      cases ans with
      | none => cases e
      | some b => cases e; exact gn
    | some x =>
      rw [eo] at e
      have px := dp n x eo
      cases ans with
      | none => cases e; grind
      | some b =>
        have e : (if stk 0 u d n + x < b then (⟨nd + 1, n, some (stk 0 u d n + x), some x⟩ : RS Rat) else ⟨nd + 1, an, some b, dly⟩).ans = some a := e
        have gn : stk 0 u d n < b := gn
        by_cases f : stk 0 u d n + x < b
        · rw [if_pos f] at e; cases e; grind
        · rw [if_neg f] at e; cases e; exact gn
  cases e : (rsk 0 u d ds (n + 1)).ans with
  | none => exact absurd (by unfold Gng; rw [e]; trivial) st
  | some a =>
    refine ⟨a, rfl, fun j hj => ?_, ?_⟩
    · have m := stk_mono (d := d) h (Nat.le_of_lt_succ hj)
      have k := key a e
      grind
    · unfold Gng at st
      rw [e] at st
      exact Rat.not_lt.mp st
end
end Mt

namespace Mt
/-! rounds of one delay, and of a lost first sending, over the whole numbers -/
section
variable {W Y : Int} {d : Bool}
theorem stk_plain (W : Int) (k : Nat) : stk 0 W false k = (k : Int) * W ∧ wtk W false k = W := by
  induction k with
  | zero => exact ⟨by show (0 : Int) = ((0 : Nat) : Int) * W; simp, rfl⟩
  | succ k ih =>
    have e : ((k + 1 : Nat) : Int) * W = (k : Int) * W + W := by
      rw [show ((k + 1 : Nat) : Int) = (k : Int) + 1 by omega, Int.add_mul, Int.one_mul]
    refine ⟨?_, ?_⟩
    · show stk 0 W false k + wtk W false k = _
      rw [ih.1, ih.2, e]
    · show (if false = true then _ else wtk W false k) = _
      rw [if_neg (by decide), ih.2]
theorem stk_twice (W : Int) (k : Nat) : stk 0 W true k = (2 ^ k - 1) * W ∧ wtk W true k = 2 ^ k * W := by
  induction k with
  | zero => exact ⟨by show (0 : Int) = (2 ^ 0 - 1) * W; simp, by show W = 2 ^ 0 * W; simp⟩
  | succ k ih =>
    refine ⟨?_, ?_⟩
    · show stk 0 W true k + wtk W true k = _
      rw [ih.1, ih.2, Int.pow_succ]
      grind
    · show (if true = true then wtk W true k + wtk W true k else _) = _
      rw [if_pos rfl, ih.2, Int.pow_succ]
      grind
theorem dlk_one (Y : Int) (k : Nat) : dlk [some Y] k = some Y := by
  unfold dlk
  split
  · rename_i h
    have : k = 0 := by have e : [some Y].length = 1 := rfl; omega
    subst this
    rfl
  · rfl
theorem dlk_lost (Y : Int) (k : Nat) : dlk [none, some Y] k = if k = 0 then none else some Y := by
  unfold dlk
  have e : [none, some Y].length = 2 := rfl
  split
  · rename_i h
    match k, h with
    | 0, _ => rfl
    | 1, _ => rfl
    | k + 2, h => omega
  · rename_i h
    rw [if_neg (by omega)]
    rfl
/-- one delay: the first sending is answered -/
theorem rsk_one (hW : 0 ≤ W) (k : Nat) : rsk 0 W d [some Y] (k + 1) = ⟨k, 0, some Y, some Y⟩ := by
  induction k with
  | zero =>
    show rstep ⟨0, 0, none, none⟩ 0 (0 : Int) (dlk [some Y] 0) = _
    rw [dlk_one]
    show (⟨0, 0, some (0 + Y), some Y⟩ : RS Int) = _
    rw [Int.zero_add]
  | succ k ih =>
    show rstep (rsk 0 W d [some Y] (k + 1)) (k + 1) (stk 0 W d (k + 1)) (dlk [some Y] (k + 1)) = _
    rw [ih, dlk_one]
    have g := stk_nn (d := d) hW (k + 1)
    show (if stk 0 W d (k + 1) + Y < Y then (⟨k + 1, k + 1, some (stk 0 W d (k + 1) + Y), some Y⟩ : RS Int) else ⟨k + 1, 0, some Y, some Y⟩) = _
    rw [if_neg (by omega)]
theorem gng_one (hW : 0 ≤ W) (k : Nat) : Gng 0 W d [some Y] (k + 1) ↔ stk 0 W d (k + 1) < Y := by
  unfold Gng
  rw [rsk_one hW]
theorem gng_0 {ds : List (Option Int)} : Gng 0 W d ds 0 := trivial
/-- the first sending lost -/
theorem rsk_lost (hW : 0 ≤ W) (k : Nat) : rsk 0 W d [none, some Y] (k + 2) = ⟨k, 1, some (W + Y), some Y⟩ := by
  induction k with
  | zero =>
    show rstep (rstep ⟨0, 0, none, none⟩ 0 (0 : Int) (dlk [none, some Y] 0)) 1 (0 + W) (dlk [none, some Y] 1) = _
    rw [dlk_lost, dlk_lost]
    show (⟨0, 1, some (0 + W + Y), some Y⟩ : RS Int) = _
    rw [Int.zero_add]
  | succ k ih =>
    show rstep (rsk 0 W d [none, some Y] (k + 2)) (k + 2) (stk 0 W d (k + 2)) (dlk [none, some Y] (k + 2)) = _
    rw [ih, dlk_lost, if_neg (by omega)]
    have g : W ≤ stk 0 W d (k + 2) := by
      have g0 := stk_nn (d := d) hW (k + 1)
      have g1 := wtk_ge (d := d) hW (k + 1)
      show W ≤ stk 0 W d (k + 1) + wtk W d (k + 1)
      omega
    show (if stk 0 W d (k + 2) + Y < W + Y then (⟨k + 1, k + 2, some (stk 0 W d (k + 2) + Y), some Y⟩ : RS Int) else ⟨k + 1, 1, some (W + Y), some Y⟩) = _
    rw [if_neg (by omega)]
theorem gng_lost (hW : 0 ≤ W) (k : Nat) : Gng 0 W d [none, some Y] (k + 2) ↔ stk 0 W d (k + 2) < W + Y := by
  unfold Gng
  rw [rsk_lost hW]
theorem gng_lost1 : Gng 0 W d [none, some Y] 1 := by
  have : (rsk 0 W d [none, some Y] 1).ans = none := by
    show (rstep ⟨0, 0, none, none⟩ 0 (0 : Int) (dlk [none, some Y] 0)).ans = _
    rw [dlk_lost]
    rfl
  unfold Gng
  rw [this]
  trivial
/-- the whole numbers of a round and of those that wait long -/
structure Big (W : Int) (d : Bool) (ds : List (Option Int)) (N : Nat) : Prop where
  w : ∀ k, k ≤ N → (wtk W d k).natAbs < 2 ^ 200
  s : ∀ k, k ≤ N → (stk 0 W d k).natAbs < 2 ^ 200
  y : ∀ k q, dlk ds k = some q → q.natAbs < 2 ^ 200
end
end Mt

namespace Rs
open PySem PySem.Spec PyProof.Rows L2 He
open TL (tl len_tl ext_tl tl_append)
/-! ### texts: loops, methods, slices -/
section
variable {X : Cx} {σ : L2.St} {H : Hp} {D : Ends} {Q Q' : VK} {k : Nat} {E : L2.St → XK} {x y z : Str} {p px pos pos' apos p2 : Pos} {a b c e o : Expr} {i : Nat} {body : List Stmt}
theorem for_str {g : TG} {tb : TS} (P : Nat → L2.St → Hp → Prop) (h0 : P 0 σ H) (hs : ∀ i c σ H, (tl z)[i]? = some c → P i σ H → g (.str ⟨#[c]⟩) σ H fun σ2 H2 => tb { D with nx := P (i + 1), ct := P (i + 1), bk := D.nx } σ2 H2) (hd : ∀ σ H, P (tl z).length σ H → D.nx σ H) :
    ∃ W : Nat → Nat → L2.St → Hp → Prop, (∃ m, W 0 m σ H) ∧ ∀ i m σ H, W i m σ H →
      ((Its z).stop i H ∧ D.nx σ H) ∨ ((Its z).go i H ∧ ∃ N : L2.St → Hp → Prop, (∀ σ' H', N σ' H' → ∃ m', m' < m ∧ W (i + 1) m' σ' H') ∧ ∀ x H', (Its z).yld i H x H' → g x σ H' fun σ2 H2 => tb { D with nx := N, ct := N, bk := D.nx } σ2 H2) := by
  have hz : (tl z).length = z.cps.size := by simp [tl]
  refine ⟨fun i m σ H => m = z.cps.size - i ∧ i ≤ z.cps.size ∧ P i σ H, ⟨z.cps.size, by simp, Nat.zero_le _, h0⟩, ?_⟩
  rintro i m σ H ⟨rfl, hi, q⟩
  by_cases hlt : i < z.cps.size
  · refine .inr ⟨hlt, P (i + 1), fun σ' H' p' => ⟨z.cps.size - (i + 1), by omega, rfl, hlt, p'⟩, fun x H' y => ?_⟩
    obtain ⟨rfl, c, hc, rfl⟩ := y
    exact hs i c σ _ (by rw [← hc]; simp [tl]) q
  · have e : i = z.cps.size := by omega
    subst e
    exact .inl ⟨Nat.le_refl _, hd σ H (by rw [hz]; exact q)⟩
/-- for x in a text: all is chosen once the text is there -/
def ForS (X : Cx) (z : Str) (i : Nat) (body : List Stmt) (D : Ends) (σ : L2.St) (H : Hp) : Prop :=
  ∃ P : Nat → L2.St → Hp → Prop, P 0 σ H ∧ (∀ j c σ H, (tl z)[j]? = some c → P j σ H → WB X body { D with nx := P (j + 1), ct := P (j + 1), bk := D.nx } (σ.set i (some (.str ⟨#[c]⟩))) H) ∧ ∀ σ H, P (tl z).length σ H → D.nx σ H
theorem ws_for_strE (B : Body X k E) (s : Sl X i x) (h : WE X a σ H fun v H1 => ∃ z, v = .str z ∧ ForS X z i body D σ H1) (hs : ∀ v, foldedSetIterable a X.env v = pure v := by intro _; rfl) : WS X (.For (.Name x px) a body [] pos) D σ H := by
  refine wsP (ps_for B.po B.calm (pi_str peS) (pg_name s.nd s.at_ s.loc s.fn) pbS hs) ?_
  refine we_mono h fun v H1 q => ?_
  obtain ⟨z, rfl, P, q0, ht, hd⟩ := q
  exact ⟨z, rfl, for_str P q0 ht hd⟩
theorem we_split (h : WE X o σ H fun v H1 => ∃ z, v = .str z ∧ WE X e σ H1 fun w H2 => ∃ y, w = .str y ∧ (y.length == 0) = false ∧ z.length + 2 ≤ sizeLine ∧ ∀ l H3, H2 l = none → Ex H2 H3 → H3 l = some (.lst ((Txt.split z y).map V.str)) → Q (.ref l) H3)
    (hs : starEach [e] X.env = [(false, eval e X.env)] := by rfl) (hbase : attributeBase o "split" X.env (eval o X.env) = eval o X.env := by rfl) (hline : (apos.endLine == pos.line) = true := by rfl) : WE X (.Call (.Attribute o "split" apos) [e] [] pos) σ H Q :=
  weP (pe_split peS peS hs hbase hline) (we_mono h fun v H1 q => by
    obtain ⟨z, rfl, q⟩ := q
    refine ⟨⟨z, rfl⟩, we_mono q fun w H2 q => ?_⟩
    obtain ⟨y, rfl, h1, h2, q⟩ := q
    exact ⟨z, y, rfl, rfl, h1, h2, fun p hp => q p _ hp (Ex.new hp) upd_same⟩)
theorem we_starts (h : WE X o σ H fun v H1 => ∃ z, v = .str z ∧ WE X e σ H1 fun w H2 => ∃ y, w = .str y ∧ Q (.bl (Txt.startswith z y)) H2)
    (hs : starEach [e] X.env = [(false, eval e X.env)] := by rfl) (hbase : attributeBase o "startswith" X.env (eval o X.env) = eval o X.env := by rfl) (hline : (apos.endLine == pos.line) = true := by rfl) : WE X (.Call (.Attribute o "startswith" apos) [e] [] pos) σ H Q :=
  weP (pe_m1 F.slot_str_startswith F.type_str_startswith mt_startswith peS peS hs hbase hline) (we_mono h fun v H1 q => by
    obtain ⟨z, rfl, q⟩ := q
    refine ⟨⟨z, rfl⟩, we_mono q fun w H2 q => ?_⟩
    obtain ⟨y, rfl, q⟩ := q
    exact ⟨z, y, rfl, rfl, q⟩)
theorem we_joinS (h : WE X o σ H fun v H1 => ∃ z, v = .str z ∧ WE X e σ H1 fun w H2 => ∃ l, ∃ ys : List Str, w = .ref l ∧ (SqL X.K H2 l (ys.map V.str) ∨ SqT X.K H2 l (ys.map V.str)) ∧ (ys.map (·.length)).sum + ys.length * z.length ≤ 16777216 ∧ Q (.str (Txt.join z ys)) H2)
    (hs : starEach [e] X.env = [(false, eval e X.env)] := by rfl) (hbase : attributeBase o "join" X.env (eval o X.env) = eval o X.env := by rfl) (hline : (apos.endLine == pos.line) = true := by rfl) : WE X (.Call (.Attribute o "join" apos) [e] [] pos) σ H Q :=
  weP (pe_join peS peS hs hbase hline) (we_mono h fun v H1 q => by
    obtain ⟨z, rfl, q⟩ := q
    refine ⟨⟨z, rfl⟩, we_mono q fun w H2 q => ?_⟩
    obtain ⟨l, ys, rfl, h1, h2, q⟩ := q
    exact ⟨z, l, ys, rfl, rfl, h1, h2, q⟩)
/-- a[b:] -/
theorem we_cutSA (h : WE X a σ H fun v H1 => WE X b σ H1 fun w H2 => ∃ z i, v = .str z ∧ w = .int i ∧ z.length ≤ sizeLine ∧ Q (.str (cutS z (some i) none)) H2) : WE X (.Subscript a (.Slice (some b) none none p2) pos) σ H Q :=
  weP (pe_slice sl_str peS (po_some peS) po_none) (we_mono h fun v H1 q => we_mono q fun w H2 q => by
    obtain ⟨z, i, rfl, rfl, h1, q⟩ := q
    exact ⟨i, rfl, z, rfl, h1, q⟩)
/-- a[:b] -/
theorem we_cutSL (h : WE X a σ H fun v H1 => WE X b σ H1 fun w H2 => ∃ z i, v = .str z ∧ w = .int i ∧ z.length ≤ sizeLine ∧ Q (.str (cutS z none (some i))) H2) : WE X (.Subscript a (.Slice none (some b) none p2) pos) σ H Q :=
  weP (pe_slice sl_str peS po_none (po_some peS)) (we_mono h fun v H1 q => we_mono q fun w H2 q => by
    obtain ⟨z, i, rfl, rfl, h1, q⟩ := q
    exact ⟨i, rfl, z, rfl, h1, q⟩)
theorem we_intS (bn : Bn X "int") (h : WE X a σ H fun v H1 => ∃ z n, v = .str z ∧ PySem.intText? z = some n ∧ z.length ≤ 640 ∧ Q (.int n) H1) (hs : starEach [a] X.env = [(false, eval a X.env)] := by rfl) (hl : (backTo pos (starEach [] X.env)).any (·.1) = false := by rfl) :
    WE X (.Call (.Name "int" p) [a] [] pos) σ H Q := we_callT call_int_str bn boot_int (wa_one (we_mono h fun v H1 q => by
    obtain ⟨z, n, rfl, h1, h2, q⟩ := q
    exact ⟨z, n, rfl, h1, h2, q⟩) hs) (by decide) (by decide) hs hl
theorem o_inC {c : Nat} (q : Q (.bl (decide (c ∈ tl z))) H) : Op2 X (compareOp .In) (.str ⟨#[c]⟩) (.str z) H Q := op2_of op_in_sign ⟨c, z, rfl, rfl, q⟩
theorem o_notInC {c : Nat} (q : Q (.bl (!decide (c ∈ tl z))) H) : Op2 X (compareOp .NotIn) (.str ⟨#[c]⟩) (.str z) H Q := op2_of op_notIn_sign ⟨c, z, rfl, rfl, q⟩
theorem at_s {K : PySem.W.Frag} {i : Int} {c : Nat} (hz : z.length ≤ sizeLine) (he : atI (tl z) i = some c) (q : Q (.str ⟨#[c]⟩) H) : rIx K (.str z) (.int i) H Q := .inr (.inr ⟨z, i, c, rfl, rfl, hz, he, q⟩)
theorem len_s {K : PySem.W.Frag} {P : Nat → Prop} (hz : z.length ≤ sizeLine) (q : P z.length) : ∃ n, LenV K (.str z) H n ∧ P n := ⟨_, ⟨hz, rfl⟩, q⟩
end
/-! ### slices as lists of signs -/
theorem tl_cut (z : Str) (lo hi : Option Int) : tl (cutS z lo hi) = ((tl z).drop (HT.sIx z.length 0 lo)).take (HT.sIx z.length z.length hi - HT.sIx z.length 0 lo) := rfl
theorem tl_cutA (z : Str) (i : Nat) : tl (cutS z (some (i : Int)) none) = (tl z).drop i := by
  rw [tl_cut, HT.sIx_nat, HT.sIx_none, len_tl]
  by_cases h : i ≤ (tl z).length
  · rw [Nat.min_eq_left h, List.take_of_length_le (by rw [List.length_drop]; omega)]
  · rw [Nat.min_eq_right (by omega), List.drop_eq_nil_of_le (Nat.le_refl _), List.drop_eq_nil_of_le (by omega)]
    exact List.take_nil
theorem tl_cutL (z : Str) (i : Nat) : tl (cutS z none (some (i : Int))) = (tl z).take i := by
  rw [tl_cut, HT.sIx_nat, HT.sIx_none, len_tl, List.drop_zero, Nat.sub_zero]
  by_cases h : i ≤ (tl z).length
  · rw [Nat.min_eq_left h]
  · rw [Nat.min_eq_right (by omega), List.take_of_length_le (Nat.le_refl _), List.take_of_length_le (by omega)]
theorem tl_pre1 {z : Str} {c : Nat} : Txt.startswith z ⟨#[c]⟩ = decide ((tl z).head? = some c) := by
  refine Bool.eq_iff_iff.mpr ?_
  rw [List.head?_eq_getElem?, decide_eq_true_iff]
  unfold Txt.startswith
  rw [Bool.and_eq_true, decide_eq_true_iff]
  exact PySem.StrLaws.subAt_one z c 0
end Rs

namespace Rs
open PySem PySem.Spec PyProof.Rows L2 He
open TL (tl len_tl ext_tl tl_append tl_num numL numL_lt numL_step numL_digits numL_ne numL_free numL_val numL_inj numL_len int_num joinL spl pre spl_hit spl_miss spl_nil split_spl)
/-! ### numbers as figures -/
def figs : List Nat := tl ("0123456789" : Str)
theorem figs_eq : figs = [48, 49, 50, 51, 52, 53, 54, 55, 56, 57] := by decide +kernel
theorem mem_figs {c : Nat} : c ∈ figs ↔ 48 ≤ c ∧ c ≤ 57 := by
  rw [figs_eq]
  simp only [List.mem_cons, List.not_mem_nil, or_false]
  omega
/-- what some figures write -/
def readC (l : List Nat) : Option Nat := if 1 ≤ l.length ∧ l.length ≤ 60 ∧ (∀ c ∈ l, c ∈ figs) ∧ ¬ (l.head? = some 48 ∧ 1 < l.length) then some (NumText.digitsVal l) else none
theorem val_snoc (l : List Nat) (c : Nat) : NumText.digitsVal (l ++ [c]) = NumText.digitsVal l * 10 + (c - 48) := by
  unfold NumText.digitsVal
  rw [List.foldl_append]
  rfl
theorem canon : ∀ (n : Nat) (l : List Nat), l.length = n → l ≠ [] → (∀ c ∈ l, c ∈ figs) → ¬ (l.head? = some 48 ∧ 1 < l.length) → numL (NumText.digitsVal l) = l := by
  intro n
  induction n with
  | zero => exact fun l h hn _ _ => absurd (List.length_eq_zero_iff.mp h) hn
  | succ n ih =>
    intro l hl hn hd hh
    obtain ⟨i, c, rfl⟩ : ∃ i c, l = i ++ [c] := ⟨l.dropLast, l.getLast hn, (List.dropLast_concat_getLast hn).symm⟩
    have hc := mem_figs.mp (hd c (by simp))
    rw [val_snoc]
    cases i with
    | nil =>
      rw [numL_lt (by show 0 * 10 + (c - 48) < 10; omega)]
      show [48 + (0 * 10 + (c - 48))] = [c]
      congr 1
      omega
    | cons a r =>
      have hi : (a :: r).length = n := by simpa using hl
      have h48 : ¬ (a = 48) := fun e => hh ⟨by rw [e]; rfl, by simp⟩
      have e := ih (a :: r) hi (List.cons_ne_nil _ _) (fun d h => hd d (List.mem_append_left _ h)) (fun h => h48 (Option.some.inj h.1))
      have v1 : 1 ≤ NumText.digitsVal (a :: r) := by
        refine Nat.pos_of_ne_zero fun z => ?_
        rw [z, numL_lt (by decide)] at e
        injection e with e1 _
        exact h48 e1.symm
      rw [numL_step (by omega), show (NumText.digitsVal (a :: r) * 10 + (c - 48)) / 10 = NumText.digitsVal (a :: r) from by omega, e,
        show 48 + (NumText.digitsVal (a :: r) * 10 + (c - 48)) % 10 = c from by omega]
theorem readC_num {l : List Nat} {u : Nat} (h : readC l = some u) : l = numL u := by
  unfold readC at h
  by_cases g : 1 ≤ l.length ∧ l.length ≤ 60 ∧ (∀ c ∈ l, c ∈ figs) ∧ ¬ (l.head? = some 48 ∧ 1 < l.length)
  · rw [if_pos g] at h
    cases h
    exact (canon _ l rfl (fun e => by rw [e] at g; exact absurd g.1 (by decide)) g.2.2.1 g.2.2.2).symm
  · rw [if_neg g] at h
    cases h
theorem readC_len {l : List Nat} {u : Nat} (h : readC l = some u) : l.length ≤ 60 := by
  unfold readC at h
  by_cases g : 1 ≤ l.length ∧ l.length ≤ 60 ∧ (∀ c ∈ l, c ∈ figs) ∧ ¬ (l.head? = some 48 ∧ 1 < l.length)
  · exact g.2.1
  · rw [if_neg g] at h
    cases h
theorem val_lt {l : List Nat} : ∀ (n : Nat) (l : List Nat), l.length = n → (∀ c ∈ l, c ∈ figs) → NumText.digitsVal l < 10 ^ n := by
  intro n
  induction n with
  | zero =>
    intro l h _
    rw [List.length_eq_zero_iff.mp h]
    decide
  | succ n ih =>
    intro l hl hd
    have hn : l ≠ [] := fun e => by rw [e] at hl; cases hl
    obtain ⟨i, c, rfl⟩ : ∃ i c, l = i ++ [c] := ⟨l.dropLast, l.getLast hn, (List.dropLast_concat_getLast hn).symm⟩
    have hc := mem_figs.mp (hd c (by simp))
    have e := ih i (by simpa using hl) (fun d h => hd d (List.mem_append_left _ h))
    rw [val_snoc, Nat.pow_succ]
    omega
theorem readC_lt {l : List Nat} {u : Nat} (h : readC l = some u) : u < 10 ^ 60 := by
  have hl := readC_len h
  have e := h
  unfold readC at e
  by_cases g : 1 ≤ l.length ∧ l.length ≤ 60 ∧ (∀ c ∈ l, c ∈ figs) ∧ ¬ (l.head? = some 48 ∧ 1 < l.length)
  · rw [if_pos g] at e
    cases e
    exact Nat.lt_of_lt_of_le (val_lt (l := l) _ l rfl g.2.2.1) (Nat.pow_le_pow_right (by decide) hl)
  · rw [if_neg g] at e
    cases e
theorem numL_zero_head {u : Nat} : ¬ ((numL u).head? = some 48 ∧ 1 < (numL u).length) := by
  induction u using Nat.strongRecOn with
  | ind u ih =>
    by_cases h : u < 10
    · rw [numL_lt h]
      exact fun g => absurd g.2 (by show ¬ 1 < 1; decide)
    · rw [numL_step (by omega)]
      rintro ⟨g, _⟩
      have hne := numL_ne (u / 10)
      have g : (numL (u / 10)).head? = some 48 := by
        cases e : numL (u / 10) with
        | nil => exact absurd e hne
        | cons a r =>
          rw [e] at g
          exact g
      by_cases hl : 1 < (numL (u / 10)).length
      · exact ih (u / 10) (by omega) ⟨g, hl⟩
      · by_cases h2 : u / 10 < 10
        · rw [numL_lt h2] at g
          have := Option.some.inj g
          omega
        · rw [numL_step (by omega), List.length_append] at hl
          have := List.length_pos_iff.mpr (numL_ne (u / 10 / 10))
          simp only [List.length_cons, List.length_nil] at hl
          omega
theorem readC_of {u : Nat} (h : u < 10 ^ 60) : readC (numL u) = some u := by
  unfold readC
  rw [if_pos ⟨List.length_pos_iff.mpr (numL_ne u), numL_len (by decide) h, fun c hc => mem_figs.mpr (numL_digits u c hc), numL_zero_head⟩, numL_val]
theorem int_of_readC {z : Str} {u : Nat} (h : readC (tl z) = some u) : PySem.intText? z = some (u : Int) := by
  have e : z = Str.ofString (toString ((u : Nat) : Int)) := ext_tl (by rw [tl_num]; exact readC_num h)
  have hl : (numL u).length ≤ 60 := by
    rw [← readC_num h]
    exact readC_len h
  rw [e]
  exact int_num (by omega)
/-! ### the text of an int -/
theorem tl_itx_nat (u : Nat) : tl (itx (u : Int)) = numL u := tl_num u
theorem tl_itx_neg {u : Nat} (h : u ≠ 0) : tl (itx (-(u : Int))) = 45 :: numL u := by
  cases u with
  | zero => exact absurd rfl h
  | succ n =>
    unfold itx
    rw [TL.tl_ofString]
    have e : toString (-(((n + 1 : Nat)) : Int)) = "-" ++ toString (n + 1) := rfl
    rw [e]
    have e2 : numL (n + 1) = (toString (n + 1)).toList.map Char.toNat := by
      rw [← tl_num, TL.tl_ofString]
      rfl
    rw [e2, String.toList_append, List.map_append]
    rfl
/-! ### cut at a sign -/
theorem pre1 {s c : Nat} {r : List Nat} : pre [s] (c :: r) = decide (c = s) := by
  unfold pre
  show ([c] == [s]) = _
  by_cases h : c = s
  · subst h
    simp
  · rw [decide_eq_false h]
    simp [h]
theorem spl1 (s : Nat) : ∀ l acc : List Nat, ∃ h t, spl [s] 0 [] l = h :: t ∧ spl [s] 0 acc l = (acc ++ h) :: t ∧ s ∉ h ∧ joinL [s] (h :: t) = l ∧ ∀ p ∈ t, s ∉ p
  | [], acc => ⟨[], [], by rw [spl_nil], by rw [spl_nil, List.append_nil], by simp, rfl, by simp⟩
  | c :: r, acc => by
    by_cases hc : c = s
    · subst hc
      obtain ⟨h, t, e1, _, hs, hj, hp⟩ := spl1 c r []
      refine ⟨[], h :: t, ?_, ?_, by simp, ?_, ?_⟩
      · rw [spl_hit (by rw [pre1, decide_eq_true rfl])]
        show [] :: spl [c] 0 [] r = _
        rw [e1]
      · rw [spl_hit (by rw [pre1, decide_eq_true rfl])]
        show acc :: spl [c] 0 [] r = _
        rw [e1, List.append_nil]
      · show [] ++ ([c] ++ joinL [c] (h :: t)) = _
        rw [hj]
        rfl
      · intro p hm
        rcases List.mem_cons.mp hm with rfl | hm
        · exact hs
        · exact hp p hm
    · obtain ⟨h, t, e1, e2, hs, hj, hp⟩ := spl1 s r (acc ++ [c])
      obtain ⟨h', t', e1', e2', _, _, _⟩ := spl1 s r [c]
      rw [e1] at e1'
      injection e1' with a1 a2
      subst a1
      subst a2
      refine ⟨c :: h, t, ?_, ?_, ?_, ?_, hp⟩
      · rw [spl_miss (by rw [pre1, decide_eq_false hc]), List.nil_append, e2']
        rfl
      · rw [spl_miss (by rw [pre1, decide_eq_false hc]), e2, List.append_assoc]
        rfl
      · exact fun hm => (List.mem_cons.mp hm).elim (fun e => hc e.symm) hs
      · cases t with
        | nil =>
          show c :: h = c :: r
          rw [show h = r from hj]
        | cons q t =>
          show c :: (h ++ ([s] ++ joinL [s] (q :: t))) = c :: r
          rw [show h ++ ([s] ++ joinL [s] (q :: t)) = r from hj]
end Rs

namespace Rs
open PySem PySem.Spec PyProof.Rows L2 He
open TL (tl len_tl ext_tl tl_append tl_num numL numL_lt numL_step numL_digits numL_ne numL_free numL_val numL_inj numL_len int_num joinL spl pre spl_hit spl_miss spl_nil split_spl)
/-! ### the text of a time, read -/
def sgT (l : List Nat) (u : Nat) : Int := if l.head? = some 45 then -(u : Int) else u
def bodyT (l : List Nat) : List Nat := if l.head? = some 45 then l.drop 1 else l
def rdP (l : List Nat) : List (List Nat) → Option (Int × Nat)
  | [a] => (readC a).bind fun u => if u = 0 ∧ l.head? = some 45 then none else some (sgT l u, 1)
  | [a, b] => (readC a).bind fun u => (readC b).bind fun v => if 2 ≤ v ∧ ¬ (u = 0 ∧ l.head? = some 45) ∧ Nat.gcd u v = 1 then some (sgT l u, v) else none
  | _ => none
def rd (l : List Nat) : Option (Int × Nat) := rdP l (spl [47] 0 [] (bodyT l))
theorem parts_of (l : List Nat) : ∃ h t, spl [47] 0 [] (bodyT l) = h :: t ∧ spl [47] 0 [] l = (if l.head? = some 45 then 45 :: h else h) :: t ∧ (l.head? ≠ some 45 → h.head? ≠ some 45) ∧
    l = (if l.head? = some 45 then [45] else []) ++ joinL [47] (h :: t) ∧ 47 ∉ h ∧ ∀ p ∈ t, 47 ∉ p := by
  by_cases hd : l.head? = some 45
  · obtain ⟨r, rfl⟩ : ∃ r, l = 45 :: r := by
      cases l with
      | nil => cases hd
      | cons a r => cases hd; exact ⟨r, rfl⟩
    obtain ⟨h, t, e1, e2, hs, hj, hp⟩ := spl1 47 r [45]
    refine ⟨h, t, ?_, ?_, fun n => absurd hd n, ?_, hs, hp⟩
    · unfold bodyT
      rw [if_pos hd]
      exact e1
    · rw [if_pos hd, spl_miss (by rw [pre1]; decide), List.nil_append, e2]
      rfl
    · rw [if_pos hd, hj]
      rfl
  · obtain ⟨h, t, e1, _, hs, hj, hp⟩ := spl1 47 l []
    refine ⟨h, t, ?_, ?_, fun _ => ?_, ?_, hs, hp⟩
    · unfold bodyT
      rw [if_neg hd]
      exact e1
    · rw [if_neg hd, e1]
    · intro z
      cases h with
      | nil => cases z
      | cons a r =>
        cases z
        refine hd ?_
        rw [← hj]
        cases t <;> rfl
    · rw [if_neg hd, hj]
      rfl
theorem coprime_div {n : Int} {v : Nat} (hv : v ≠ 0) : (Rat.divInt n v).den = v ↔ Nat.gcd n.natAbs v = 1 := by
  constructor
  · intro h
    have c := Mt.cross (a := n) (b := (v : Int)) (by omega)
    have r := (Rat.divInt n v).reduced
    rw [h] at c r
    have e : (Rat.divInt n v).num = n := Int.eq_of_mul_eq_mul_right (by omega) c
    rw [e] at r
    exact r
  · intro h
    have e := Rat.num_divInt_den (⟨n, v, hv, h⟩ : Rat)
    rw [show Rat.divInt n v = (⟨n, v, hv, h⟩ : Rat) from e]
theorem coprime_num {n : Int} {v : Nat} (hv : v ≠ 0) (h : Nat.gcd n.natAbs v = 1) : (Rat.divInt n v).num = n := by
  have e := Rat.num_divInt_den (⟨n, v, hv, h⟩ : Rat)
  rw [show Rat.divInt n v = (⟨n, v, hv, h⟩ : Rat) from e]
theorem sgT_abs (l : List Nat) (u : Nat) : (sgT l u).natAbs = u := by
  unfold sgT
  by_cases h : l.head? = some 45
  · rw [if_pos h]
    omega
  · rw [if_neg h]
    omega
theorem itx_free (i : Int) : 47 ∉ tl (itx i) := by
  rcases Int.eq_nat_or_neg i with ⟨n, rfl | rfl⟩
  · rw [tl_itx_nat]
    exact numL_free (by decide)
  · by_cases h : n = 0
    · subst h
      exact (tl_itx_nat 0 ▸ numL_free (by decide) : 47 ∉ tl (itx ((0 : Nat) : Int)))
    · rw [tl_itx_neg h]
      exact fun m => (List.mem_cons.mp m).elim (fun e => absurd e (by decide)) (numL_free (by decide))
theorem tl_sgT {l : List Nat} {u : Nat} (h : ¬ (u = 0 ∧ l.head? = some 45)) : tl (itx (sgT l u)) = (if l.head? = some 45 then [45] else []) ++ numL u := by
  unfold sgT
  by_cases hd : l.head? = some 45
  · rw [if_pos hd, if_pos hd, tl_itx_neg (fun e => h ⟨e, hd⟩)]
    rfl
  · rw [if_neg hd, if_neg hd, tl_itx_nat]
    rfl
theorem tl_slash : tl ("/" : Str) = [47] := by decide +kernel
/-- one part: the text is the word's -/
theorem read_one {l h : List Nat} {u : Nat} (hl : l = (if l.head? = some 45 then [45] else []) ++ h) (hu : readC h = some u) : tl (itx (sgT l u)) = l ↔ ¬ (u = 0 ∧ l.head? = some 45) := by
  constructor
  · rintro e ⟨rfl, hd⟩
    have : sgT l 0 = ((0 : Nat) : Int) := by
      unfold sgT
      rw [if_pos hd]
      rfl
    rw [this, tl_itx_nat, numL_lt (by decide)] at e
    rw [← e] at hd
    exact absurd hd (by decide)
  · intro g
    rw [tl_sgT g, ← readC_num hu]
    exact hl.symm
theorem app_cut {s : Nat} : ∀ {a b c d : List Nat}, s ∉ a → s ∉ c → a ++ s :: b = c ++ s :: d → a = c ∧ b = d
  | [], b, [], d, _, _, e => ⟨rfl, by injection e⟩
  | [], b, x :: c, d, _, hc, e => by
    injection e with e1 _
    exact absurd (e1 ▸ List.mem_cons_self) hc
  | x :: a, b, [], d, ha, _, e => by
    injection e with e1 _
    exact absurd (e1 ▸ List.mem_cons_self) ha
  | x :: a, b, y :: c, d, ha, hc, e => by
    injection e with e1 e2
    obtain ⟨g1, g2⟩ := app_cut (fun m => ha (List.mem_cons_of_mem _ m)) (fun m => hc (List.mem_cons_of_mem _ m)) e2
    exact ⟨by rw [e1, g1], g2⟩
/-- two parts -/
theorem read_two {l h b : List Nat} {u v : Nat} (hl : l = (if l.head? = some 45 then [45] else []) ++ (h ++ 47 :: b)) (hf : 47 ∉ h) (hu : readC h = some u) (hb : readC b = some v) (hv : v ≠ 0) :
    tl (ftx (Rat.divInt (sgT l u) v).num (Rat.divInt (sgT l u) v).den) = l ↔ (2 ≤ v ∧ ¬ (u = 0 ∧ l.head? = some 45) ∧ Nat.gcd u v = 1) := by
  have hb' := readC_num hb
  have hu' := readC_num hu
  constructor
  · intro e
    unfold ftx at e
    by_cases d1 : ((Rat.divInt (sgT l u) v).den : Int) = 1
    · rw [if_pos d1] at e
      have f := itx_free (Rat.divInt (sgT l u) v).num
      rw [e, hl] at f
      exact absurd (List.mem_append_right _ (List.mem_append_right _ List.mem_cons_self)) f
    · rw [if_neg d1, tl_append, tl_append, tl_slash, tl_itx_nat, List.append_assoc] at e
      have e2 : tl (itx (Rat.divInt (sgT l u) v).num) ++ 47 :: numL (Rat.divInt (sgT l u) v).den = ((if l.head? = some 45 then [45] else []) ++ h) ++ 47 :: b := by
        rw [List.append_assoc, ← hl]
        exact e
      have f2 : 47 ∉ (if l.head? = some 45 then [45] else []) ++ h := by
        intro m
        rcases List.mem_append.mp m with m | m
        · by_cases hd : l.head? = some 45
          · rw [if_pos hd] at m
            exact absurd (List.mem_singleton.mp m) (by decide)
          · rw [if_neg hd] at m
            cases m
        · exact hf m
      obtain ⟨g1, g2⟩ := app_cut (itx_free _) f2 e2
      rw [hb'] at g2
      have dv := numL_inj g2
      have cp := (coprime_div hv).mp dv
      rw [sgT_abs] at cp
      refine ⟨by rw [dv] at d1; omega, ?_, cp⟩
      rintro ⟨rfl, _⟩
      rw [Nat.gcd_zero_left] at cp
      rw [dv] at d1
      omega
  · rintro ⟨v2, g, cp⟩
    have cp' : Nat.gcd (sgT l u).natAbs v = 1 := by rw [sgT_abs]; exact cp
    rw [coprime_num hv cp', (coprime_div hv).mpr cp']
    unfold ftx
    rw [if_neg (by omega), tl_append, tl_append, tl_slash, tl_itx_nat, tl_sgT g, ← hb', ← hu', List.append_assoc, List.append_assoc]
    exact hl.symm
/-! ### a time's own text -/
theorem rd_own {q : Rat} (hn : q.num.natAbs < 10 ^ 60) (hd : q.den < 10 ^ 60) : rd (tl (ftx q.num q.den)) = some (q.num, q.den) := by
  have body : ∀ (r : List Nat), bodyT (45 :: r) = r := fun r => by unfold bodyT; exact if_pos rfl
  have bodn : ∀ (u : Nat) (r : List Nat), (numL u ++ r).head? ≠ some 45 := fun u r => by
    have := numL_digits u
    cases e : numL u with
    | nil => exact absurd e (numL_ne u)
    | cons a s =>
      rw [e] at this
      intro z
      have := (this a List.mem_cons_self).1
      have : a = 45 := Option.some.inj z
      omega
  have nh : ∀ u : Nat, 47 ∉ numL u := fun u => numL_free (by decide)
  have s1 : ∀ u : Nat, spl [47] 0 [] (numL u) = [numL u] := fun u => by
    rw [TL.spl_last1 (nh u)]
    rfl
  have s2 : ∀ u v : Nat, spl [47] 0 [] (numL u ++ 47 :: numL v) = [numL u, numL v] := fun u v => by
    rw [show numL u ++ 47 :: numL v = numL u ++ ([47] ++ numL v) from rfl, TL.spl_part1 (nh u), s1]
    rfl
  have red := q.reduced
  have dp := q.den_pos
  obtain ⟨u, hu⟩ : ∃ u : Nat, q.num.natAbs = u := ⟨_, rfl⟩
  unfold ftx
  by_cases d1 : (q.den : Int) = 1
  · have d1' : q.den = 1 := by omega
    rw [if_pos d1, d1']
    rcases Int.eq_nat_or_neg q.num with ⟨n, e | e⟩
    · rw [e, tl_itx_nat]
      unfold rd bodyT
      have hh : (numL n).head? ≠ some 45 := by have := bodn n []; rw [List.append_nil] at this; exact this
      rw [if_neg hh, s1]
      show (readC (numL n)).bind _ = _
      rw [readC_of (by omega)]
      show (if n = 0 ∧ (numL n).head? = some 45 then none else some (sgT (numL n) n, 1)) = _
      rw [if_neg (fun g => hh g.2)]
      unfold sgT
      rw [if_neg hh]
    · by_cases n0 : n = 0
      · subst n0
        rw [e]
        decide +kernel
      · rw [e, tl_itx_neg n0]
        unfold rd
        rw [body, s1]
        show (readC (numL n)).bind _ = _
        rw [readC_of (by omega)]
        show (if n = 0 ∧ (45 :: numL n).head? = some 45 then none else some (sgT (45 :: numL n) n, 1)) = _
        rw [if_neg (fun g => n0 g.1)]
        unfold sgT
        rw [if_pos (show (45 :: numL n).head? = some 45 from rfl)]
  · rw [if_neg d1, tl_append, tl_append, tl_slash, tl_itx_nat]
    have v2 : 2 ≤ q.den := by omega
    rcases Int.eq_nat_or_neg q.num with ⟨n, e | e⟩
    · rw [e, tl_itx_nat, List.append_assoc, show [47] ++ numL q.den = 47 :: numL q.den from rfl]
      unfold rd bodyT
      have hh := bodn n (47 :: numL q.den)
      rw [if_neg hh, s2]
      show (readC (numL n)).bind _ = _
      rw [readC_of (by omega)]
      show (readC (numL q.den)).bind _ = _
      rw [readC_of hd]
      show (if 2 ≤ q.den ∧ ¬ (n = 0 ∧ (numL n ++ 47 :: numL q.den).head? = some 45) ∧ Nat.gcd n q.den = 1 then some (sgT (numL n ++ 47 :: numL q.den) n, q.den) else none) = _
      rw [if_pos ⟨v2, fun g => hh g.2, by have := red; rw [e] at this; exact this⟩]
      unfold sgT
      rw [if_neg hh]
    · have n0 : n ≠ 0 := by
        rintro rfl
        rw [e] at red
        have : Nat.gcd 0 q.den = 1 := red
        rw [Nat.gcd_zero_left] at this
        omega
      rw [e, tl_itx_neg n0]
      unfold rd
      rw [show (45 :: numL n) ++ [47] ++ numL q.den = 45 :: (numL n ++ 47 :: numL q.den) from by simp, body, s2]
      show (readC (numL n)).bind _ = _
      rw [readC_of (by omega)]
      show (readC (numL q.den)).bind _ = _
      rw [readC_of hd]
      show (if 2 ≤ q.den ∧ ¬ (n = 0 ∧ (45 :: (numL n ++ 47 :: numL q.den)).head? = some 45) ∧ Nat.gcd n q.den = 1 then some (sgT (45 :: (numL n ++ 47 :: numL q.den)) n, q.den) else none) = _
      rw [if_pos ⟨v2, fun g => n0 g.1, by have := red; rw [e, Int.natAbs_neg] at this; exact this⟩]
      unfold sgT
      rw [if_pos (show (45 :: (numL n ++ 47 :: numL q.den)).head? = some 45 from rfl)]
/-! ### the reading, by its parts -/
def botU : List (List Nat) → Option Nat
  | [] => some 1
  | b :: _ => readC b
theorem rdP_none1 {l h : List Nat} {t : List (List Nat)} (e : readC h = none) : rdP l (h :: t) = none := by
  match t with
  | [] =>
    show (readC h).bind _ = none
    rw [e]
    rfl
  | [b] =>
    show (readC h).bind _ = none
    rw [e]
    rfl
  | b :: b2 :: r => rfl
theorem rdP_none2 {l h : List Nat} {t : List (List Nat)} (e : botU t = none) : rdP l (h :: t) = none := by
  match t, e with
  | [b], e =>
    have e : readC b = none := e
    show ((readC h).bind fun u => (readC b).bind _) = none
    rw [e]
    cases readC h <;> rfl
  | b :: b2 :: r, _ => rfl
theorem rdP_zero {l h : List Nat} {t : List (List Nat)} (e : botU t = some 0) : rdP l (h :: t) = none := by
  match t, e with
  | [b], e =>
    have e : readC b = some 0 := e
    show ((readC h).bind fun u => (readC b).bind _) = none
    rw [e]
    cases readC h with
    | none => rfl
    | some u =>
      show (if 2 ≤ 0 ∧ ¬ (u = 0 ∧ l.head? = some 45) ∧ Nat.gcd u 0 = 1 then some (sgT l u, 0) else none) = none
      rw [if_neg (fun g => absurd g.1 (by decide))]
  | b :: b2 :: r, _ => rfl
theorem rdP_long {l h : List Nat} {t : List (List Nat)} (e : 2 ≤ t.length) : rdP l (h :: t) = none := by
  match t, e with
  | b :: b2 :: r, _ => rfl
theorem botU_lt {t : List (List Nat)} {v : Nat} (e : botU t = some v) : v < 10 ^ 60 := by
  match t, e with
  | [], e => cases e; decide
  | b :: _, e => exact readC_lt e
theorem rdP_go {l h : List Nat} {t : List (List Nat)} {u v : Nat} (hl : l = (if l.head? = some 45 then [45] else []) ++ joinL [47] (h :: t)) (hf : 47 ∉ h) (eu : readC h = some u) (ev : botU t = some v) (l1 : t.length ≤ 1) (hv : v ≠ 0) :
    (tl (ftx (Rat.divInt (sgT l u) v).num (Rat.divInt (sgT l u) v).den) = l → rdP l (h :: t) = some (sgT l u, v)) ∧ (¬ tl (ftx (Rat.divInt (sgT l u) v).num (Rat.divInt (sgT l u) v).den) = l → rdP l (h :: t) = none) := by
  match t, l1, ev with
  | [], _, ev =>
    cases ev
    rw [coprime_num (v := 1) (by decide) (Nat.gcd_one_right _), (coprime_div (v := 1) (by decide)).mpr (Nat.gcd_one_right _)]
    have e1 := read_one (h := h) hl eu
    show (tl (ftx (sgT l u) 1) = l → (readC h).bind _ = _) ∧ (¬ tl (ftx (sgT l u) 1) = l → (readC h).bind _ = _)
    rw [eu]
    unfold ftx
    rw [if_pos rfl]
    refine ⟨fun e => ?_, fun e => ?_⟩
    · show (if u = 0 ∧ l.head? = some 45 then none else some (sgT l u, 1)) = _
      rw [if_neg (e1.mp e)]
    · show (if u = 0 ∧ l.head? = some 45 then none else some (sgT l u, 1)) = _
      rw [if_pos (Classical.byContradiction fun g => e (e1.mpr g))]
  | [b], _, ev =>
    have ev : readC b = some v := ev
    have e2 := read_two (h := h) (b := b) hl hf eu ev hv
    show (_ → ((readC h).bind fun u => (readC b).bind _) = _) ∧ (_ → ((readC h).bind fun u => (readC b).bind _) = _)
    rw [eu, ev]
    refine ⟨fun e => ?_, fun e => ?_⟩
    · show (if 2 ≤ v ∧ ¬ (u = 0 ∧ l.head? = some 45) ∧ Nat.gcd u v = 1 then some (sgT l u, v) else none) = _
      rw [if_pos (e2.mp e)]
    · show (if 2 ≤ v ∧ ¬ (u = 0 ∧ l.head? = some 45) ∧ Nat.gcd u v = 1 then some (sgT l u, v) else none) = _
      rw [if_neg (fun g => e (e2.mpr g))]
theorem rdP_val {l h : List Nat} {t : List (List Nat)} {u v : Nat} (eu : readC h = some u) (ev : botU t = some v) (l1 : t.length ≤ 1) (lo : t = [] ∨ 2 ≤ v) :
    rdP l (h :: t) = if ¬ (u = 0 ∧ l.head? = some 45) ∧ Nat.gcd u v = 1 then some (sgT l u, v) else none := by
  match t, l1, ev, lo with
  | [], _, ev, _ =>
    cases ev
    show (readC h).bind _ = _
    rw [eu]
    show (if u = 0 ∧ l.head? = some 45 then none else some (sgT l u, 1)) = _
    by_cases g : u = 0 ∧ l.head? = some 45
    · rw [if_pos g, if_neg (fun q => q.1 g)]
    · rw [if_neg g, if_pos ⟨g, Nat.gcd_one_right u⟩]
  | [b], _, ev, lo =>
    have ev : readC b = some v := ev
    have v2 : 2 ≤ v := lo.elim (fun e => nomatch e) id
    show ((readC h).bind fun u => (readC b).bind _) = _
    rw [eu, ev]
    show (if 2 ≤ v ∧ ¬ (u = 0 ∧ l.head? = some 45) ∧ Nat.gcd u v = 1 then some (sgT l u, v) else none) = _
    by_cases g : ¬ (u = 0 ∧ l.head? = some 45) ∧ Nat.gcd u v = 1
    · rw [if_pos g, if_pos ⟨v2, g⟩]
    · rw [if_neg g, if_neg (fun q => g q.2)]
theorem rdP_low {l h b : List Nat} {v : Nat} (ev : readC b = some v) (lo : v < 2) : rdP l [h, b] = none := by
  show ((readC h).bind fun u => (readC b).bind _) = _
  rw [ev]
  cases readC h with
  | none => rfl
  | some u =>
    show (if 2 ≤ v ∧ ¬ (u = 0 ∧ l.head? = some 45) ∧ Nat.gcd u v = 1 then some (sgT l u, v) else none) = _
    rw [if_neg (fun q => by have := q.1; omega)]
theorem rd_some {l : List Nat} {n : Int} {d : Nat} (e : rd l = some (n, d)) : (Rat.divInt n d).num = n ∧ (Rat.divInt n d).den = d ∧ tl (ftx n d) = l ∧ n.natAbs < 10 ^ 60 ∧ d < 10 ^ 60 ∧ d ≠ 0 := by
  obtain ⟨h, t, e1, _, _, hl, hf, _⟩ := parts_of l
  have er : rdP l (h :: t) = some (n, d) := by
    unfold rd at e
    rw [e1] at e
    exact e
  have no : ∀ {q : Prop}, rdP l (h :: t) = none → q := fun z => absurd (z.symm.trans er) (fun z => nomatch z)
  cases eu : readC h with
  | none => exact no (rdP_none1 eu)
  | some u =>
    cases ev : botU t with
    | none => exact no (rdP_none2 ev)
    | some v =>
      by_cases l2 : 2 ≤ t.length
      · exact no (rdP_long l2)
      · by_cases v0 : v = 0
        · subst v0
          exact no (rdP_zero ev)
        · have lo : t = [] ∨ 2 ≤ v := by
            have tc : t = [] ∨ ∃ b, t = [b] := by
              match t, l2 with
              | [], _ => exact .inl rfl
              | [b], _ => exact .inr ⟨b, rfl⟩
              | b :: c :: r, q => exact absurd (show 2 ≤ (b :: c :: r).length by simp only [List.length_cons]; omega) q
            rcases tc with rfl | ⟨b, rfl⟩
            · exact .inl rfl
            · refine .inr ?_
              by_cases v2 : 2 ≤ v
              · exact v2
              · exact no (rdP_low ev (by omega))
          have val := rdP_val (l := l) eu ev (by omega) lo
          have go := rdP_go hl hf eu ev (by omega) v0
          by_cases g : ¬ (u = 0 ∧ l.head? = some 45) ∧ Nat.gcd u v = 1
          · rw [if_pos g, er] at val
            injection val with val
            injection val with v1 v2
            subst v1
            subst v2
            have cp : Nat.gcd (sgT l u).natAbs d = 1 := by rw [sgT_abs]; exact g.2
            refine ⟨coprime_num v0 cp, (coprime_div v0).mpr cp, ?_, by rw [sgT_abs]; exact readC_lt eu, botU_lt ev, v0⟩
            by_cases tx : tl (ftx (Rat.divInt (sgT l u) d).num (Rat.divInt (sgT l u) d).den) = l
            · rw [coprime_num v0 cp, (coprime_div v0).mpr cp] at tx
              exact tx
            · exact no (go.2 tx)
          · rw [if_neg g] at val
            exact no val
end Rs

namespace Rs
open PySem PySem.Spec PyProof.Rows L2 He
/-! ### def f(a, .., *v): what is left over is a new tuple -/
section
variable {P : Program} {w : World} {K : PySem.W.Frag} {mg : Str → Option Value} {base : Heap} {N ps : List Str} {pv name qual : Str} {pa : Arguments} {body : List Stmt} {sc : Scope} {f : Addr} {fd : FuncData} {k : Nat} {sp : Sp}
theorem def_starP (F : FunD K name qual pa body sc [] [] f fd) (S : FnScope N (ps ++ [pv]) sc)
    (h : ∀ (kV doc pm : Value) (an : Option Addr) (cdv ct : Value) (us rest : List Value), us.length = ps.length →
      bindArgs (PySem.W.fnOf name qual pa body sc .none kV doc pm an cdv ct) ⟨us ++ rest, []⟩ = (newTuple rest >>= fun t => pure (ps.zip us ++ [(pv, t)])))
    (hb : ∀ (X : Cx), X.prog = P → X.w = w → X.K = K → X.mg = mg → X.base = base → X.N = N → X.env.scope = sc → (∀ x, X.fn x = true) → N.Nodup → ∀ (H : Hp) (vs : List V) (Q : VK) (E : XK), Body X k (fun _ => E) → sp vs H Q E → WB X body { nx := fun _ H' => Q .non H', rt := Q } (start N vs) H) :
    FnR P w K mg base (RX P w) (k + 1) f (fun vs H Q E => ∃ ws rest, vs = ws ++ rest ∧ ws.length = ps.length ∧ rest.length ≤ sizeLine ∧ ∀ p, H p = Option.none → sp (ws ++ [V.ref p]) (upd H p (.tup rest)) Q E) := by
  obtain ⟨oc, od, dV, kV, doc, pm, an, cdv, ct, osl, rfl, lk, hcd, hD, hK⟩ := F.ex
  rcases hD with ⟨_, rfl⟩ | ⟨e, _⟩
  case inr => exact absurd rfl e
  exact StX.fn_star lk hcd S cxUpN (fun us rest l => h kV doc pm an cdv ct us rest l) fun A outer s H vs Q E hr z =>
    ⟨_, pbS, hb (bx P w K mg base N qual sc f cdv A outer s H E) rfl rfl rfl rfl rfl rfl rfl (fun _ => rfl) S.nd _ _ Q E (body_of hr) z⟩
end
/-! ### bits -/
section
variable {X : Cx} {σ : L2.St} {H : Hp} {Q : VK} {o : Expr} {apos pos : Pos}
theorem we_bits (h : WE X o σ H fun v H1 => ∃ i, v = .int i ∧ Q (.int (Builtin.Int.intBits i : Nat)) H1) (hbase : attributeBase o "bit_length" X.env (eval o X.env) = eval o X.env := by rfl) (hline : (apos.endLine == pos.line) = true := by rfl) :
    WE X (.Call (.Attribute o "bit_length" apos) [] [] pos) σ H Q := weP (pe_bits peS hbase hline) h
theorem o_oneShl {k : Nat} (hk : k ≤ 134217727) (q : Q (.int (2 ^ k)) H) : Op2 X (binaryOp .LShift) (.int 1) (.int (k : Int)) H Q := op2_of op_oneShl ⟨k, rfl, rfl, hk, q⟩
end
end Rs
/-! ### != of lists whose items are equal by an own == -/
namespace Rs
open PySem PySem.SeqAt
open AutoSeq1 (wpAny_loadPart')
open MeetsSeq MeetsSeq2 MeetsSeq3 SeqRoads2
section
variable {prog : Program} {w : World} {A : Around} {R : Result → Shared → Prop}
theorem ne_loopG (l b : Addr) (N : Nat) (I : Nat → Shared → Prop) (hl : GQ.ListI prog w A (fun e s' => R (.error e) s') l b N I)
    (fin : ∀ s, I N s → R (.ok (.ret (.bool false))) s) (k : Nat) :
    ∀ i : Nat, N - i = k → i ≤ N → ∀ s, I i s →
      wpAny (model prog w) A.in1 (Builtin.«list.__eq__.loop» ⟨[.ref l, .ref b, rawInt i, rawInt 3], []⟩) (GQ.FinOf prog w A R) (fun e s' => R (.error e) s') s := by
  induction k with
  | zero =>
    intro i hk hi s h
    obtain ⟨items, items2, n, n2, hl1, hb1, hs1, hs2, _⟩ := hl _ _ h
    have hi' : i = N := by omega
    have hR : R (.ok (.ret (.bool false))) s := fin s (hi' ▸ h)
    obtain ⟨hp, g, d, tk, os⟩ := s
    wp_walk using wpAny_loadPart' hl1, wpAny_loadPart' hb1
    have hi1 : items[((i : Nat) : Int).toNat]? = none := by simp; omega
    have hi2 : items2[((i : Nat) : Int).toNat]? = none := by simp; omega
    rw [hi1, hi2]
    wp_walk using wpAny_loadPart' hl1, wpAny_loadPart' hb1
    show R (.ok (.ret (.bool (items.size != items2.size)))) _
    rw [hs1, hs2]
    simpa using hR
  | succ k ih =>
    intro i hk hi s h
    obtain ⟨items, items2, n, n2, hl1, hb1, hs1, hs2, turn⟩ := hl _ _ h
    have hlt : i < items.size := by omega
    have hlt2 : i < items2.size := by omega
    have ht := turn hlt hlt2
    obtain ⟨hp, g, d, tk, os⟩ := s
    wp_walk using wpAny_loadPart' hl1, wpAny_loadPart' hb1
    have hi1 : items[((i : Nat) : Int).toNat]? = some items[i] := by simp [hlt]
    have hi2 : items2[((i : Nat) : Int).toNat]? = some items2[i] := by simp [hlt2]
    have hc : ((i : Int) + 1) = ((i + 1 : Nat) : Int) := by omega
    rw [hi1, hi2]
    refine wpAny_bind (wpAny_mono ht (fun r s2 h2 => ?_) fun _ _ x => x)
    obtain ⟨hr, h2⟩ := h2
    subst hr
    have hrec := ih (i + 1) (by omega) (by omega) s2 h2
    obtain ⟨hp2, g2, d2, tk2, os2⟩ := s2
    wp_walk
    rw [hc]
    exact ⟨plainId_quiet plain_eq_loop _, codeAny_builtin entry_eq_loop (by
      rw [Around.under_plainId plain_eq_loop _]
      exact hrec)⟩
theorem list_neG (l b : Addr) (N : Nat) (I : Nat → Shared → Prop) (hl : GQ.ListI prog w A (fun e s' => R (.error e) s') l b N I)
    (fin : ∀ s, I N s → R (.ok (.ret (.bool false))) s) {s : Shared} (h : I 0 s) :
    wpAny (model prog w) A.in1 (Builtin.«list.__ne__» ⟨[.ref l, .ref b], []⟩) (GQ.FinOf prog w A R) (fun e s' => R (.error e) s') s := by
  obtain ⟨items, items2, n, n2, hl1, hb1, hs1, hs2, _⟩ := hl _ _ h
  have hrec := ne_loopG (A := A) (R := R) l b N I hl fin _ 0 rfl (Nat.zero_le _) s h
  obtain ⟨hp, g, d, tk, os⟩ := s
  have f3 := AutoSeq1.sub_list_list
  have hne : ¬ (items.size != items2.size) = true := by simp [hs1, hs2]
  wp_walk using wpAny_loadPart' hl1, wpAny_loadPart' hb1
  exact ⟨plainId_quiet plain_eq_loop _, codeAny_builtin entry_eq_loop (by
    rw [Around.under_plainId plain_eq_loop _]
    exact hrec)⟩
end
section
variable {prog : Program} {w : World} {A : Around} {E : Value → Shared → Prop} {s : Shared}
theorem rc_listNe {l b : Addr} {N : Nat} {Q : Value → Shared → Prop} (hu : A.units < cLine) (I : Nat → Shared → Prop) (hl : GQ.ListI prog w A E l b N I)
    (fin : ∀ s, I N s → Q (.bool false) s) (h : I 0 s) : wpAny (model prog w) A (richCompare .NotEq (.ref l) (.ref b)) Q E s := by
  obtain ⟨items, items2, n, n2, hl1, hb1, _, _, _⟩ := hl _ _ h
  refine wpAny_richCompare_same_room (op := .NotEq) ⟨_, hl1, rfl⟩ ⟨_, hb1, rfl⟩ F.slot_list_ne (GQ.call_here F.slot_list_ne ⟨_, hl1, rfl⟩ F.entry_list_ne (F.args_list_ne_2 _ _) ?_) hu
  exact list_neG (R := wants (fun v s' => v ≠ .notImplemented ∧ Q v s') E) l b N I hl (fun s' q => ⟨(fun x => nomatch x), fin s' q⟩) h
end
end Rs
namespace Rs
open PySem PySem.Spec PyProof.Rows L2 He
section
variable {X : Cx} {n k : Nat} {D : Eqv} {E : L2.St → XK} {H : Hp} {Q : VK}
theorem op_neList (hD : Mon D) (h : EqG X n D) (hr : Room (n + 1) X.A) : OpR X (compareOp .NotEq) (fun x y H Q => DList D x y H ∧ ∀ H', Ext H H' → Q (.bl false) H') := by
  intro pins s σ H x y v u Q I rx ry hq
  obtain ⟨⟨a, b, xs, ys, rfl, rfl, ha, hb, p⟩, q⟩ := hq
  cases rx
  cases ry
  show wpAny (model X.prog X.w) X.A (richCompare .NotEq (.ref a) (.ref b)) (EP X pins σ Q) X.xe s
  refine rc_listNe (N := xs.length) hr.units0 (fun _ s' => LoopI X pins σ H s') (fun i s' q => ?_) (fun s' z => ?_) ⟨H, I, Ext.rfl'⟩
  · obtain ⟨H1, I1, e1⟩ := id q
    obtain ⟨z, its, k, r, e⟩ := I1.hok a _ (e1 _ _ ha)
    obtain ⟨z2, its2, k2, r2, e2⟩ := I1.hok b _ (e1 _ _ hb)
    refine ⟨its.toArray, its2.toArray, k, k2, e, e2, by rw [List.size_toArray, ← r.length], by rw [List.size_toArray, ← r2.length, ← p.1], fun h1 h2 => ?_⟩
    exact turnG hD h ⟨hr, rfl⟩ p r r2 i h1 h2 s' q
  · obtain ⟨H1, I1, e1⟩ := z
    exact ⟨.bl false, H1, I1, rfl, q H1 e1⟩
theorem o_neList (B : Body X k E) (hD : Mon D) (h : EqG X n D) (hk : n + 1 ≤ k) {a b : Addr} {xs ys : List V} (ha : H a = some (.lst xs)) (hb : H b = some (.lst ys)) (p : L2.Prs D xs ys H) (q : ∀ H', Ext H H' → Q (.bl false) H') : Op2 X (compareOp .NotEq) (.ref a) (.ref b) H Q :=
  op2_of (op_neList hD h (B.room.mono hk)) ⟨⟨a, b, xs, ys, rfl, rfl, ha, hb, p⟩, q⟩
theorem Ext.toEx {H H' : Hp} (e : Ext H H') : Ex H H' := ⟨fun a o h _ => e a o h, fun a l o h s => ⟨o, e a o h, s⟩⟩
end
end Rs

namespace Rs
open PySem PySem.Spec PyProof.Rows L2 He
/-! ### [e for x in range(n)] -/
/-- what the items come to -/
def LcR (X : Cx) (scope : Scope) (elt : Expr) (i : Nat) (σ : L2.St) (n : Nat) (Q : VK) (H1 : Hp) : Prop :=
  ∀ D, H1 D = none → ∃ P : Nat → Hp → Prop, P 0 (upd H1 D (.lst [])) ∧
    (∀ j H, j < n → P j H → ∀ s H0 C cl fp, WE (Bk X s H0 scope C cl fp) elt (σ.set i (some (.int (j : Nat)))) H fun y H4 => ∃ acc, H4 D = some (.lst acc) ∧ acc.length < sizeLine ∧ P (j + 1) (upd H4 D (.lst (acc ++ [y])))) ∧ ∀ H, P n H → Q (.ref D) H
section
variable {X : Cx} {σ : L2.St} {H : Hp} {Q : VK} {D : Ends} {k i n : Nat} {E : L2.St → XK} {x y : Str} {scope : Scope} {elt a : Expr} {px py pos spos pr pc : Pos}
theorem lc_byR (h : WE X a σ H fun v H1 => ∃ n : Nat, v = .int n ∧ n ≤ 1000000000 ∧ LcR X scope elt i σ n Q H1) (hs : starEach [a] X.env = [(false, eval a X.env)] := by rfl) : tLc (iRng1 (WA X [a])) (gName i) tYes (teB X scope elt) [i] σ H Q := by
  refine wa_one (we_mono h fun v H1 q => ?_) hs
  obtain ⟨n, rfl, hn, q⟩ := q
  refine ⟨n, rfl, by omega, by omega, fun D hD => ?_⟩
  obtain ⟨P, h0, hs, hd⟩ := q D hD
  refine lc_range (lo := 0) P h0 (fun j H hj p => ?_) hd
  have hj : j < n := by rw [Int.toNat_natCast] at hj; exact hj
  rw [Int.zero_add]
  refine ⟨(show ((σ.set i none).set i (some (.int (j : Nat)))).set i none = σ.set i none by rw [set2, set2]), (iteT (B := P (j + 1) H) ?_ : if true = true then teB X scope elt ((σ.set i none).set i (some (.int (j : Nat)))) H fun y H4 => ∃ acc, H4 D = some (.lst acc) ∧ acc.length < sizeLine ∧ P (j + 1) (upd H4 D (.lst (acc ++ [y]))) else P (j + 1) H)⟩
  intro s H0 C cl fp
  have e : (σ.set i none).set i (some (.int (j : Nat))) = σ.set i (some (.int (j : Nat))) := set2
  have z := hs j H hj p s H0 C cl fp
  rw [← e] at z
  exact z
theorem ws_setLcR (B : Body X k E) (m : Sl X n y) (bn : Bn X "range") (hy : X.env.scope.names.lookup y = some .local) (hk : X.env.scope.kind = .function) (hi : X.N[i]? = some x) (hx : scope.names.lookup x = some .local) (ok : BlkOk X.N X.env.scope scope [(x, i)])
    (h : WE X a σ H fun v H1 => ∃ n' : Nat, v = .int n' ∧ n' ≤ 1000000000 ∧ LcR X scope elt i σ n' (fun v H' => D.nx (σ.set n (some v)) H') H1) (hl : (py.line == spos.line) = true := by rfl)
    (ha : (scope.names.any fun (n, k) => n == y && (k == .local || k == .cell)) = false := by decide +kernel) (he : pos.line = spos.line := by rfl) (hst : starEach [a] X.env = [(false, eval a X.env)] := by rfl) (hs : ∀ v, foldedSetIterable (.Call (.Name "range" pr) [a] [] pc) X.env v = pure v := by intro _; rfl) :
    WS X (.Assign [.Name y py] (.ListComp elt [⟨.Name x px, .Call (.Name "range" pr) [a] [] pc, [], 0⟩] scope pos) spos) D σ H :=
  wsP (ps_setLc (own := [(x, i)]) (g := gName i) (tt := tYes) B.calm m.nd m.at_ hy (sw_true hk hy (by rw [he]; exact hl) ha) (pi_range1 bn.gl bn.no paS hst) ok (fun _ _ _ _ _ => pg_name m.nd hi (.inl (lookup_relS_keep (by decide) hx)) (.inr (lookup_relS_keep (by decide) hx))) (fun _ _ _ _ _ => pts_nil) peB hs) (lc_byR h hst)
end
end Rs

namespace Mt
open PySem
/-! ### rounds of a steady world -/
/-- first waits ahead of sending k, and in the wait of sending k -/
def mk (b : Bool) (k : Nat) : Int := if b = true then 2 ^ k - 1 else k
def wk (b : Bool) (k : Nat) : Int := if b = true then 2 ^ k else 1
theorem wtk_one (b : Bool) (k : Nat) : wtk (1 : Int) b k = wk b k := by
  induction k with
  | zero => unfold wtk wk; cases b <;> rfl
  | succ k ih =>
    unfold wtk
    rw [ih]
    unfold wk
    cases b with
    | false => rfl
    | true =>
      show (2 : Int) ^ k + 2 ^ k = 2 ^ (k + 1)
      rw [Int.pow_succ]
      omega
theorem stk_one (b : Bool) (k : Nat) : stk (0 : Int) 1 b k = mk b k := by
  induction k with
  | zero => unfold stk mk; cases b <;> rfl
  | succ k ih =>
    unfold stk
    rw [ih, wtk_one]
    unfold mk wk
    cases b with
    | false => show (k : Int) + 1 = ((k + 1 : Nat) : Int); omega
    | true =>
      show (2 : Int) ^ k - 1 + 2 ^ k = 2 ^ (k + 1) - 1
      rw [Int.pow_succ]
      omega
theorem pow_pos2 (k : Nat) : (0 : Int) < 2 ^ k := Int.pow_pos (by decide)
theorem mk_nn (b : Bool) (k : Nat) : 0 ≤ mk b k := by
  unfold mk
  have := pow_pos2 k
  cases b with
  | false => show 0 ≤ (k : Int); omega
  | true => show 0 ≤ (2 : Int) ^ k - 1; omega
section
variable {u d : Rat} {b : Bool}
theorem stk_rat (u : Rat) (b : Bool) (k : Nat) : stk 0 u b k = (mk b k : Rat) * u := by
  have h := stk_map (f := fun i : Int => (i : Rat) * u) (z := 0) (w := 1) (d := b) (fun a c => by rw [Rat.intCast_add, Rat.add_mul]) k
  have e0 : ((0 : Int) : Rat) * u = 0 := by rw [Rat.intCast_zero, Rat.zero_mul]
  have e1 : ((1 : Int) : Rat) * u = u := by rw [Rat.intCast_one, Rat.one_mul]
  rw [← stk_one, ← h]
  show stk 0 u b k = stk (((0 : Int) : Rat) * u) (((1 : Int) : Rat) * u) b k
  rw [e0, e1]
theorem wtk_rat (u : Rat) (b : Bool) (k : Nat) : wtk u b k = (wk b k : Rat) * u := by
  have h := wtk_map (f := fun i : Int => (i : Rat) * u) (w := 1) (d := b) (fun a c => by rw [Rat.intCast_add, Rat.add_mul]) k
  have e1 : ((1 : Int) : Rat) * u = u := by rw [Rat.intCast_one, Rat.one_mul]
  rw [← wtk_one, ← h]
  show wtk u b k = wtk (((1 : Int) : Rat) * u) b k
  rw [e1]
/-- the least number of waits that reach a delay -/
def cei (d u : Rat) : Int := -(fl (0 - d) u)
theorem zero_sub_num (d : Rat) : (0 - d).num = -d.num ∧ (0 - d).den = d.den := by
  have e : 0 - d = -d := by grind
  rw [e]
  exact ⟨rfl, rfl⟩
/-- so many waits are below the delay -/
theorem times_lt {i : Int} : (i : Rat) * u < d ↔ i * (u.num * d.den) < d.num * u.den := by
  have hL : u.den * d.den ≠ 0 := Nat.mul_ne_zero u.den_nz d.den_nz
  have eu : u = sc (u.den * d.den) (u.num * d.den) := by
    unfold sc
    rw [Int.natCast_mul, Rat.divInt_mul_right (by have := d.den_nz; omega), Rat.num_divInt_den]
  have ed : d = sc (u.den * d.den) (d.num * u.den) := by
    unfold sc
    rw [Int.natCast_mul, Int.mul_comm (u.den : Int), Rat.divInt_mul_right (by have := u.den_nz; omega), Rat.num_divInt_den]
  have ei : (i : Rat) * u = sc (u.den * d.den) (i * (u.num * d.den)) := by
    conv => lhs; rw [eu]
    unfold sc
    rw [← int_eq, Rat.divInt_mul_divInt, Int.one_mul]
  have h := sc_lt hL (i * (u.num * d.den)) (d.num * u.den)
  rw [← ei, ← ed] at h
  exact h
theorem num_pos0 (u0 : 0 < u) : 0 < u.num := by
  have h := (Rat.lt_iff 0 u).mp u0
  rw [show (0 : Rat).num = 0 from rfl, show ((0 : Rat).den : Int) = 1 from rfl] at h
  omega
theorem cei_spec (u0 : 0 < u) : ∀ i : Int, (i : Rat) * u < d ↔ i < cei d u := by
  intro i
  rw [times_lt]
  have W0 : 0 < u.num * (d.den : Int) := Int.mul_pos (num_pos0 u0) (by have := d.den_pos; omega)
  have ef : fl (0 - d) u = (-(d.num * u.den)).fdiv (u.num * d.den) := by
    unfold fl
    rw [(zero_sub_num d).1, (zero_sub_num d).2, Int.neg_mul, Int.mul_comm (d.den : Int)]
  unfold cei
  rw [ef, Int.fdiv_eq_ediv_of_nonneg _ (Int.le_of_lt W0)]
  generalize u.num * (d.den : Int) = W at W0
  generalize d.num * (u.den : Int) = M
  have h1 := Int.ediv_mul_le (-M) (Int.ne_of_gt W0)
  have h2 := Int.lt_ediv_add_one_mul_self (-M) W0
  generalize -M / W = f at h1 h2
  have e : (f + 1) * W = f * W + W := by rw [Int.add_mul, Int.one_mul]
  constructor
  · intro h
    refine Int.lt_of_not_ge fun g => ?_
    have : -f * W ≤ i * W := Int.mul_le_mul_of_nonneg_right g (Int.le_of_lt W0)
    rw [Int.neg_mul] at this
    omega
  · intro h
    have : (i + 1) * W ≤ -f * W := Int.mul_le_mul_of_nonneg_right (by omega) (Int.le_of_lt W0)
    rw [Int.neg_mul, Int.add_mul, Int.one_mul] at this
    omega
theorem cei_pos (u0 : 0 < u) (d0 : 0 < d) : 1 ≤ cei d u := by
  have := (cei_spec (d := d) u0 0).mp (by rw [Rat.intCast_zero, Rat.zero_mul]; exact d0)
  omega
/-- how many sendings -/
def snd (b : Bool) (c : Int) : Nat := if b = true then Builtin.Int.intBits c else c.toNat
theorem bits_pos {c : Int} (h : 1 ≤ c) : Builtin.Int.intBits c = c.toNat.log2 + 1 := by
  unfold Builtin.Int.intBits
  have e : (c == 0) = false := by
    rw [beq_eq_false_iff_ne]
    omega
  rw [e]
  show c.natAbs.log2 + 1 = _
  congr 2
  omega
theorem snd_spec {c : Int} (h : 1 ≤ c) (b : Bool) : 1 ≤ snd b c ∧ ∀ k, mk b k < c ↔ k < snd b c := by
  unfold snd mk
  cases b with
  | false =>
    refine ⟨by show 1 ≤ c.toNat; omega, fun k => ?_⟩
    show (k : Int) < c ↔ k < c.toNat
    omega
  | true =>
    show 1 ≤ Builtin.Int.intBits c ∧ ∀ k, (2 : Int) ^ k - 1 < c ↔ k < Builtin.Int.intBits c
    rw [bits_pos h]
    refine ⟨by omega, fun k => ?_⟩
    obtain ⟨n, rfl⟩ := Int.eq_ofNat_of_zero_le (show 0 ≤ c by omega)
    rw [Int.toNat_natCast]
    have n0 : n ≠ 0 := by omega
    have e : (2 : Int) ^ k = ((2 ^ k : Nat) : Int) := by rw [Int.natCast_pow]; rfl
    rw [e]
    constructor
    · intro g
      have g : 2 ^ k ≤ n := by omega
      have := (Nat.le_log2 n0).mpr g
      omega
    · intro g
      have := (Nat.le_log2 n0).mp (show k ≤ n.log2 by omega)
      omega
theorem rsk_steady (u0 : 0 < u) (d0 : 0 < d) : ∀ k, rsk 0 u b [some d] (k + 1) = ⟨k, 0, some d, some d⟩ := by
  intro k
  have dl : ∀ k, dlk [some d] k = some d := fun k => by
    cases k with
    | zero => rfl
    | succ k =>
      unfold dlk
      rw [if_neg (by show ¬ k + 1 < 1; omega)]
      rfl
  induction k with
  | zero =>
    show rstep (rsk 0 u b [some d] 0) 0 (stk 0 u b 0) (dlk [some d] 0) = _
    rw [dl]
    show (⟨0, 0, some (0 + d), some d⟩ : RS Rat) = _
    rw [Rat.zero_add]
  | succ k ih =>
    show rstep (rsk 0 u b [some d] (k + 1)) (k + 1) (stk 0 u b (k + 1)) (dlk [some d] (k + 1)) = _
    rw [dl, ih]
    show (if stk 0 u b (k + 1) + d < d then (⟨k + 1, k + 1, some (stk 0 u b (k + 1) + d), some d⟩ : RS Rat) else ⟨k + 1, 0, some d, some d⟩) = _
    have h := stk_mono (d := b) u0 (Nat.zero_le (k + 1))
    have h : 0 ≤ stk 0 u b (k + 1) := h
    rw [if_neg (by grind)]
theorem gng_steady (u0 : 0 < u) (d0 : 0 < d) (k : Nat) : Gng 0 u b [some d] k ↔ k = 0 ∨ k < snd b (cei d u) := by
  cases k with
  | zero => exact ⟨fun _ => .inl rfl, fun _ => trivial⟩
  | succ k =>
    unfold Gng
    rw [rsk_steady u0 d0]
    show stk 0 u b (k + 1) < d ↔ _
    rw [stk_rat, cei_spec u0, (snd_spec (cei_pos u0 d0) b).2]
    exact ⟨.inr, fun h => h.resolve_left (by omega)⟩
theorem wk_le (b : Bool) (k : Nat) : (wk b k).natAbs ≤ 2 ^ k := by
  unfold wk
  cases b with
  | false => show 1 ≤ 2 ^ k; exact Nat.one_le_two_pow
  | true =>
    show ((2 : Int) ^ k).natAbs ≤ 2 ^ k
    rw [Int.natAbs_pow]
    exact Nat.le_refl _
theorem mk_le (b : Bool) (k : Nat) : (mk b k).natAbs ≤ 2 ^ k := by
  have p := pow_pos2 k
  have e : ((2 : Int) ^ k).natAbs = 2 ^ k := by rw [Int.natAbs_pow]; rfl
  unfold mk
  cases b with
  | false => show (k : Int).natAbs ≤ 2 ^ k; have := @Nat.lt_two_pow_self k; omega
  | true => show ((2 : Int) ^ k - 1).natAbs ≤ 2 ^ k; omega
theorem stk_sz {m k N : Nat} (hk : k ≤ N) (h : Sz u m) (b : Bool) : Sz (stk 0 u b k) (N + 1 + m) := by
  rw [stk_rat]
  refine Sz.mul (Sz.int ?_ (by omega)) h
  exact Nat.lt_of_le_of_lt (mk_le b k) (Nat.pow_lt_pow_right (by decide) (by omega))
theorem wtk_sz {m k N : Nat} (hk : k ≤ N) (h : Sz u m) (b : Bool) : Sz (wtk u b k) (N + 1 + m) := by
  rw [wtk_rat]
  refine Sz.mul (Sz.int ?_ (by omega)) h
  exact Nat.lt_of_le_of_lt (wk_le b k) (Nat.pow_lt_pow_right (by decide) (by omega))
theorem snd_le {c : Int} {n : Nat} (h : 1 ≤ c) (hc : c ≤ n) (b : Bool) : snd b c ≤ n := by
  have s := (snd_spec h b).2
  refine Nat.le_of_not_lt fun g => ?_
  have := (s n).mpr g
  have : (n : Int) ≤ mk b n := by
    unfold mk
    cases b with
    | false => exact Int.le_refl _
    | true =>
      show (n : Int) ≤ 2 ^ n - 1
      have e : (2 : Int) ^ n = ((2 ^ n : Nat) : Int) := by rw [Int.natCast_pow]; rfl
      have := @Nat.lt_two_pow_self n
      omega
  omega
theorem cei_le (u0 : 0 < u) {n : Nat} (h : d ≤ (n : Rat) * u) : cei d u ≤ n := by
  refine Int.le_of_not_gt fun g => ?_
  have := (cei_spec (d := d) u0 n).mpr g
  rw [Rat.intCast_natCast] at this
  exact absurd h (Rat.not_le.mpr this)
end
end Mt

namespace Rs
open PySem PySem.Spec
/-! ### a dict merged into another one: {**d, ..}, f(**d) -/
section
variable {prog : Program} {w : World} {K : Type} [DecidableEq K] {knd : KeyKind prog w K} {A : Around} {E : Value → Shared → Prop} {s : Shared}
theorem wpAny_dictPut_pairs {d : Addr} {kvs : List (K × Value)} {k : K} {key v : Value} {Q : Unit → Shared → Prop} (hkey : knd.is k key = true) (hm : s.heap.DictOf knd d kvs)
    (hQ : ∀ h', h'.DictOf knd d (stored kvs k v) → Heap.SameBut d s.heap h' → Q () { s with heap := h' })
    (hsz : kvs.length ≤ sizeLine := by size_fits) :
    wpAny (model prog w) A (dictPut d (knd.hash k) key v) Q E s := by
  obtain ⟨o, es, ep, ho, hc, hd, hk, hp, hn⟩ := hm
  have hes : es.size ≤ sizeLine := by have e1 := hp.length; have e2 : es.toList.length = es.size := by simp
                                      omega
  unfold dictPut
  refine wpAny_bind (wpAny_dictFind_of hkey ho hd hk ?_)
  have hidx : (es.findIdx? fun e => knd.is k e.key) = kvs.findIdx? fun kv => decide (kv.1 = k) := by
    rw [← hp.findIdx k]; obtain ⟨l⟩ := es; simp
  cases hi : es.findIdx? fun e => knd.is k e.key with
  | some i =>
    refine (wpAny_updateDict ho hd ((hQ _ ⟨_, _, ep, Heap.get?_update_self _ ho (Obj.isFreed_of_dict (Obj.data_mapDict hd _)),
      hc.mapDict _, Obj.data_mapDict hd _, hk.modify _ _, ?_, ?_⟩ (Heap.SameBut.update ..))))
    · rw [stored, if_pos (any_of_findIdx_some (hidx ▸ hi))]
      have hl : (es.toList.findIdx? fun e => knd.is k e.key) = some i := by rw [← hi]; obtain ⟨l⟩ := es; simp
      have := hp.modify hn hl v
      obtain ⟨l⟩ := es
      simpa using this
    · rw [stored, if_pos (any_of_findIdx_some (hidx ▸ hi)), keys_map_store]; exact hn
  | none =>
    have hnot : k ∉ kvs.map (·.1) := not_mem_of_findIdx_none (hidx ▸ hi)
    have hany : ¬ (kvs.any fun kv => decide (kv.1 = k)) = true := by
      rw [List.any_eq_true]; rintro ⟨kv, hkv, he⟩
      exact hnot (List.mem_map.mpr ⟨kv, hkv, of_decide_eq_true he⟩)
    refine (wpAny_updateDictKeys (hz := hes) ho hd (hQ _ ⟨_, _, ep + 1, Heap.get?_update_self _ ho (Obj.isFreed_of_dict (Obj.data_mapDictKeys hd _)),
      hc.mapDictKeys _, Obj.data_mapDictKeys hd _, hk.push hkey _, ?_, ?_⟩ (Heap.SameBut.update ..)))
    · rw [stored, if_neg hany]
      have := hp.append hkey (knd.hash k) v
      obtain ⟨l⟩ := es
      simpa using this
    · rw [stored, if_neg hany, List.map_append, List.nodup_append]
      refine ⟨hn, by simp, ?_⟩
      intro a ha b hb
      simp only [List.map_cons, List.map_nil, List.mem_singleton] at hb
      subst hb
      exact fun e => hnot (e ▸ ha)
theorem wpAny_mergeLoop {d o : Addr} {kvs more : List (K × Value)} {u : Bool} {Q : Unit → Shared → Prop} (hdo : d ≠ o)
    (hd : s.heap.DictOf knd d kvs) (ho : s.heap.DictOf knd o more) (hu : u = true → ((kvs ++ more).map (·.1)).Nodup)
    (hQ : ∀ h', h'.DictOf knd d (merged kvs more) → h'.DictOf knd o more → Heap.SameBut d s.heap h' → Q () { s with heap := h' })
    (hsz : kvs.length + more.length ≤ sizeLine) :
    wpAny (model prog w) A (do
      let __do_lift ← dictEntries o
      let epoch ← dictEpoch o
      forIn (List.range __do_lift.size) PUnit.unit fun i (_ : PUnit) => (do
          let __do_lift ← dictEntries o
          match __do_lift[i]? with
            | some e => do
              holding [e.key, e.val] (if u = true then do
                  let __do_lift ← dictFind d e.key e.hash
                  if __do_lift.isSome = true then do
                      rule "dict.merge.duplicate-key"
                      let __do_lift ← newExc (Value.type "KeyError") [e.key]
                      let _ ← (raiseNew __do_lift : Sem Unit)
                      dictPut d e.hash e.key e.val
                    else dictPut d e.hash e.key e.val
                else dictPut d e.hash e.key e.val)
              let __do_lift ← dictEpoch o
              if (__do_lift != epoch) = true then do
                  let _ ← (unsupported "dict.changed-during-merge" : Sem Unit)
                  pure (ForInStep.yield PUnit.unit)
                else pure (ForInStep.yield PUnit.unit)
            | _ => do
              let _ ← (unsupported "dict.changed-during-merge" : Sem Unit)
              pure (ForInStep.yield PUnit.unit) : Sem (ForInStep PUnit))
      pure ()) Q E s := by
  obtain ⟨od, esd, epd, hod, hcd, hdd, hkd, hpd, hnd⟩ := id hd
  obtain ⟨oo, eso, epo, hoo, hco, hdo', hko, hpo, hno⟩ := id ho
  have hlen : more.length = eso.size := by rw [← hpo.length]; simp
  refine wpAny_bind (wpAny_dictEntries hoo hdo' ?_)
  refine wpAny_bind (wpAny_dictEpoch hoo hdo' ?_)
  refine wpAny_bind ?_
  rw [List.range_eq_range']
  refine wpAny_forIn_list _
    (fun rest _ s' => ∃ h' i, s' = { s with heap := h' } ∧ rest = List.range' i (eso.size - i) ∧ i ≤ eso.size ∧ h'.DictOf knd d (merged kvs (more.take i)) ∧ h'.get? o = some oo ∧ Heap.SameBut d s.heap h')
    _ ?_ ?_ _ _ ⟨s.heap, 0, rfl, by simp, Nat.zero_le _, by simpa [merged] using hd, hoo, Heap.SameBut.refl _ _⟩
  · rintro x rest b s' ⟨h', i, rfl, hr, hi, hd', hoo', hs'⟩
    have hlt : i < eso.size := by
      rcases Nat.lt_or_ge i eso.size with h | h
      · exact h
      · rw [Nat.sub_eq_zero_of_le h] at hr; simp at hr
    obtain ⟨rfl, hrest⟩ : x = i ∧ rest = List.range' (i + 1) (eso.size - (i + 1)) := by
      have e : eso.size - i = (eso.size - (i + 1)) + 1 := by omega
      rw [e, List.range'_succ] at hr
      injection hr with h1 h2
      exact ⟨h1, h2⟩
    refine wpAny_bind (wpAny_dictEntries hoo' hdo' ?_)
    rw [Array.getElem?_eq_getElem hlt]
    obtain ⟨kv, hkv⟩ : ∃ kv, more[x]? = some kv := ⟨more[x]'(by rw [hlen]; exact hlt), List.getElem?_eq_getElem _⟩
    obtain ⟨k, v⟩ := kv
    obtain ⟨hkey, hval⟩ := hpo.get? (e := eso[x]) (by simp [hlt]) hkv
    obtain ⟨k', hkey', hhash⟩ := hko eso[x] (Array.getElem_mem hlt)
    obtain rfl : k' = k := knd.inj _ _ _ hkey' hkey
    have hmx : (merged kvs (more.take x)).length ≤ sizeLine := by
      have e1 := merged_length_le kvs (more.take x)
      have e2 : (more.take x).length ≤ more.length := by rw [List.length_take]; omega
      omega
    have fin : ∀ Q' : Unit → Shared → Prop, (∀ h'', h''.DictOf knd d (merged kvs (more.take (x + 1))) → h''.get? o = some oo → Heap.SameBut d s.heap h'' → Q' () { s with heap := h'' }) →
        wpAny (model prog w) A (dictPut d eso[x].hash eso[x].key eso[x].val) Q' E { s with heap := h' } := fun Q' hq => by
      rw [hhash, hval]
      refine wpAny_dictPut_pairs (hsz := hmx) hkey hd' fun h'' hd'' hs'' => ?_
      exact hq h'' (by rw [merged_take_succ kvs more x (k', v) hkv]; exact hd'') ((hs''.2 o (Ne.symm hdo)).trans hoo') (hs'.trans hs'')
    refine wpAny_bind (wpAny_holding ?_)
    cases u with
    | false =>
      rw [if_neg Bool.false_ne_true]
      refine fin _ fun h'' a b c => ?_
      refine wpAny_bind (wpAny_dictEpoch b hdo' ?_)
      rw [if_neg (by simp)]
      exact wpAny_pure ⟨h'', x + 1, rfl, hrest, hlt, a, b, c⟩
    | true =>
      rw [if_pos rfl]
      obtain ⟨o2, es2, ep2, ho2, hc2, hd2, hk2, hp2, hn2⟩ := id hd'
      rw [hhash]
      refine wpAny_bind (wpAny_dictFind_of hkey ho2 hd2 hk2 ?_)
      have nk : k' ∉ (merged kvs (more.take x)).map (·.1) := by
        have hn := hu rfl
        have e : merged kvs (more.take x) = kvs ++ more.take x := by
          refine merged_append_of_fresh _ _ ?_
          rw [List.map_append, List.nodup_append] at hn ⊢
          refine ⟨hn.1, ?_, fun a ha b hb => hn.2.2 a ha b ?_⟩
          · rw [List.map_take]
            exact hn.2.1.sublist (List.take_sublist _ _)
          · rw [List.map_take] at hb
            exact List.mem_of_mem_take hb
        rw [e]
        have hx : x < more.length := by omega
        have sp : more = more.take x ++ (k', v) :: more.drop (x + 1) := by
          have h1 : more.drop x = more[x] :: more.drop (x + 1) := List.drop_eq_getElem_cons hx
          have h2 : more[x] = (k', v) := by
            rw [List.getElem?_eq_getElem hx] at hkv
            exact Option.some.inj hkv
          rw [← h2, ← h1, List.take_append_drop]
        rw [sp, ← List.append_assoc, List.map_append, List.nodup_append] at hn
        exact fun hm => hn.2.2 k' hm k' (by simp) rfl
      have hnone : (es2.findIdx? fun e => knd.is k' e.key) = none := by
        have hidx : (es2.findIdx? fun e => knd.is k' e.key) = (merged kvs (more.take x)).findIdx? fun kv => decide (kv.1 = k') := by
          rw [← hp2.findIdx k']; obtain ⟨l⟩ := es2; simp
        rw [hidx, List.findIdx?_eq_none_iff]
        intro kv hkv'
        exact decide_eq_false fun e => nk (List.mem_map.mpr ⟨kv, hkv', e⟩)
      rw [hnone]
      rw [if_neg (by simp)]
      rw [← hhash]
      refine fin _ fun h'' a b c => ?_
      refine wpAny_bind (wpAny_dictEpoch b hdo' ?_)
      rw [if_neg (by simp)]
      exact wpAny_pure ⟨h'', x + 1, rfl, hrest, hlt, a, b, c⟩
  · rintro b s' ⟨h', i, rfl, hr, hi, hd', hoo', hs'⟩
    have hin : i = eso.size := by
      rcases Nat.lt_or_ge i eso.size with h | h
      · have e : eso.size - i = (eso.size - (i + 1)) + 1 := by omega
        rw [e, List.range'_succ] at hr; exact nomatch hr
      · exact Nat.le_antisymm hi h
    refine wpAny_pure (hQ h' ?_ ⟨oo, eso, epo, hoo', hco, hdo', hko, hpo, hno⟩ hs')
    rw [hin, ← hlen, List.take_length] at hd'; exact hd'
theorem wpAny_mergeMapping {d o : Addr} {kvs more : List (K × Value)} {u : Bool} {Q : Unit → Shared → Prop} (hdo : d ≠ o) (hoS : (o == sysModules) = false)
    (hkr : ∀ k a, knd.is k (.ref a) = false) (hd : s.heap.DictOf knd d kvs) (ho : s.heap.DictOf knd o more) (hu : u = true → ((kvs ++ more).map (·.1)).Nodup)
    (hQ : ∀ h', h'.DictOf knd d (merged kvs more) → h'.DictOf knd o more → Heap.SameBut d s.heap h' → Q () { s with heap := h' })
    (hsz : kvs.length + more.length ≤ sizeLine := by size_fits) :
    wpAny (model prog w) A (mergeMapping d (.ref o) u) Q E s := by
  obtain ⟨od, esd, epd, hod, hcd, hdd, hkd, hpd, hnd⟩ := id hd
  obtain ⟨oo, eso, epo, hoo, hco, hdo', hko, hpo, hno⟩ := id ho
  have hlen : more.length = eso.size := by rw [← hpo.length]; simp
  unfold mergeMapping
  refine wpAny_bind (wpAny_isInstance ho.typeIs isSubtype_dict_dict ?_)
  dsimp only
  rw [if_pos rfl]
  refine wpAny_bind (wpAny_specialOf ho.typeIs F.slot_dict_iter.lookup ?_)
  simp only [beq_self_eq_true]
  refine wpAny_bind (wpAny_pure ?_)
  dsimp only
  rw [if_neg (by rw [hoS]; exact Bool.false_ne_true)]
  refine wpAny_bind (wpAny_dictEntries hod hdd ?_)
  split
  case isTrue =>
    refine wpAny_bind (wpAny_dictEntries hoo hdo' ?_)
    refine wpAny_bind (wpAny_forIn_array' _ (fun rest _ s' => s' = s ∧ ∀ e ∈ rest, e ∈ eso) _ ?_ ?_ _ _ ⟨rfl, fun e he => by simpa using he⟩)
    · rintro e rest b s' ⟨rfl, hr⟩
      obtain ⟨k', hkey', _⟩ := hko e (hr e List.mem_cons_self)
      split
      · rename_i a' heq
        rw [heq, hkr] at hkey'
        cases hkey'
      · exact wpAny_pure ⟨rfl, fun x hx => hr x (List.mem_cons_of_mem _ hx)⟩
    · rintro b s' ⟨rfl, _⟩
      exact wpAny_mergeLoop hdo hd ho hu hQ hsz
  case isFalse =>
    exact wpAny_mergeLoop hdo hd ho hu hQ hsz
end
end Rs

namespace Rs
open PySem PySem.Spec PyProof.Rows L2 He
/-! ### dicts that are merged, in the heap of V -/
section
variable {X : Cx} {pins : List (Addr × Obj)} {σ : L2.St} {H : Hp} {s : Shared} {A : Around} {E : Value → Shared → Prop}
theorem mix_noref (P : Program) (w : World) (k : Key) (a : Addr) : (mixKind P w).is k (.ref a) = false := by
  cases k with
  | inl i => rfl
  | inr x => rfl
theorem kv_keys : ∀ {kvs : List (Key × V)} {vs : List (Key × Value)}, KV kvs vs → kvs.map (·.1) = vs.map (·.1)
  | [], _, r => by cases r; rfl
  | p :: kvs, _, r => by
    cases r with
    | @cons a b as bs h t =>
      rw [List.map_cons, List.map_cons, kv_keys t, h.1]
theorem d_merge {d o : Addr} {kvs more : List (Key × V)} {u : Bool} {Q : Unit → Shared → Prop} (I : Inv X pins σ H s) (ed : H d = some (.dK kvs)) (eo : H o = some (.dK more)) (ne : d ≠ o) (hu : u = true → ((kvs ++ more).map (·.1)).Nodup)
    (hz : kvs.length + more.length ≤ sizeLine) (h : ∀ s', Inv X pins σ (upd H d (.dK (mergeK kvs more))) s' → Q () s') : wpAny (model X.prog X.w) A (mergeMapping d (.ref o) u) Q E s := by
  obtain ⟨z1, hd1, vs1, r1, dd1⟩ := dk_of I.hok ed
  obtain ⟨z2, hd2, vs2, r2, dd2⟩ := dk_of I.hok eo
  refine wpAny_mergeMapping ne hd2 (mix_noref _ _) dd1 dd2 (fun e => ?_) (fun h' q1 q2 hs => h _ ?_) ?_
  · have := hu e
    rw [List.map_append, kv_keys r1, kv_keys r2, ← List.map_append] at this
    exact this
  · refine d_write (t' := s.toks) I (by rw [ed]; exact True.intro) hs (let ⟨q, _, _, hq, _⟩ := q1; ⟨q, hq⟩) (dk_new ?_ hd1 (r2.merge r1) q1)
    have := length_mergeK more kvs
    omega
  · rw [← r1.length, ← r2.length]; exact hz
end
/-! ### f(**d) -/
section
variable {prog : Program} {w : World} {A : Around} {s : Shared} {E : Value → Shared → Prop}
theorem wpAny_keywordsIn {f : Value} {d : Addr} {ps : List (Str × Value)} {Q : List (Str × Value) → Shared → Prop} (hd : s.heap.DictOf (mixKind prog w) d (ps.map fun p => (.inr p.1, p.2))) (h : Q ps s) : wpAny (model prog w) A (keywordsIn f d) Q E s := by
  obtain ⟨o, es, ep, ho, hc, hdd, hk, hp, hn⟩ := hd
  unfold keywordsIn
  refine wpAny_bind (wpAny_dictEntries ho hdd ?_)
  refine wpAny_bind (wpAny_forIn_array' _ (fun rest kw s' => s' = s ∧ ∃ pre post, ps = pre ++ post ∧ kw = pre ∧ Pairs (mixKind prog w) rest (post.map fun p => (.inr p.1, p.2))) _ ?_ ?_ _ _ ⟨rfl, [], ps, rfl, rfl, hp⟩)
  · rintro e rest kw s' ⟨rfl, pre, post, rfl, rfl, hp'⟩
    cases post with
    | nil => cases hp'
    | cons p post =>
      cases hp' with
      | cons h1 h2 h3 =>
        obtain ⟨t, ht⟩ : ∃ t, e.key = .str p.1 t := by
          rcases keyIs_shape (k := .inr p.1) (v := e.key) h1 with ⟨i, t, q, _⟩ | ⟨x, t, q, ht⟩
          · exact nomatch q
          · injection q with q
            exact ⟨t, by rw [q]; exact ht⟩
        rw [ht]
        refine wpAny_pure ⟨rfl, kw ++ [p], post, by simp, ?_, h3⟩
        rw [h2]
  · rintro kw s' ⟨rfl, pre, post, rfl, rfl, hp'⟩
    cases post with
    | nil => refine wpAny_pure (by rw [List.append_nil] at h; exact h)
    | cons p post => cases hp'
theorem wpAny_merged1 {f : Value} {t : Sem Value} {Q : Addr → Shared → Prop}
    (h : wpAny (model prog w) A t (fun v s1 => ∃ o, v = .ref o ∧ (∀ E' : Value → Shared → Prop, ∀ Q' : Unit → Shared → Prop, (∀ s2, Q s.heap.objs.size s2 → Q' () s2) → wpAny (model prog w) A (mergeMapping s.heap.objs.size (.ref o) true) Q' E' s1)) E { s with heap := s.heap.push { cls := .type "dict", data := .dict #[] } }) :
    wpAny (model prog w) A (mergedKeywords f [(none, t)]) Q E s := by
  unfold mergedKeywords
  refine wpAny_bind (wpAny_alloc ?_)
  refine wpAny_bind (wpAny_holding ?_)
  dsimp only
  rw [List.forIn_cons]
  refine wpAny_bind (wpAny_bind ?_)
  dsimp only
  rw [if_pos (show ([] : List (Str × Sem Value)).isEmpty = true from rfl)]
  refine wpAny_bind (wpAny_pure ?_)
  refine wpAny_bind (wpAny_mono h (fun v s1 z => ?_) fun _ _ e => e)
  obtain ⟨o, rfl, z⟩ := z
  refine wpAny_bind (wpAny_onRaise (wpAny_holding (wpAny_tryCatch (wpAny_onRaise (z _ _ fun s2 q => ?_)))))
  refine wpAny_pure ?_
  dsimp only
  rw [List.forIn_nil]
  refine wpAny_pure ?_
  rw [if_pos (show ([] : List (Str × Sem Value)).isEmpty = true from rfl)]
  exact wpAny_pure (wpAny_pure q)
theorem wpAny_evalArgsD {f : Value} {t : Sem Value} {Q : Args → Shared → Prop}
    (h : wpAny (model prog w) A t (fun v s1 => ∃ o, v = .ref o ∧ ∃ R : Shared → Prop, (∀ s2, R s2 → ∃ ps : List (Str × Value), s2.heap.DictOf (mixKind prog w) s.heap.objs.size (ps.map fun p => (.inr p.1, p.2)) ∧ Q ⟨[], ps⟩ s2) ∧
      (∀ E' : Value → Shared → Prop, ∀ Q' : Unit → Shared → Prop, (∀ s2, R s2 → Q' () s2) → wpAny (model prog w) A (mergeMapping s.heap.objs.size (.ref o) true) Q' E' s1)) E { s with heap := s.heap.push { cls := .type "dict", data := .dict #[] } }) :
    wpAny (model prog w) A (evalArgs f true [] [(none, t)]) Q E s := by
  unfold evalArgs
  refine wpAny_bind (wpAny_bind (wpAny_pure (wpAny_pure ?_)))
  dsimp only
  refine wpAny_bind (wpAny_pure ?_)
  refine wpAny_holding ?_
  rw [if_neg (by simp)]
  refine wpAny_bind (wpAny_merged1 (Q := fun a s2 => a = s.heap.objs.size ∧ ∃ ps : List (Str × Value), s2.heap.DictOf (mixKind prog w) s.heap.objs.size (ps.map fun p => (.inr p.1, p.2)) ∧ Q ⟨[], ps⟩ s2) (wpAny_mono h (fun v s1 z => ?_) fun _ _ e => e) |> fun q => wpAny_mono q (fun a s2 z => ?_) fun _ _ e => e)
  · obtain ⟨rfl, ps, hd, q⟩ := z
    refine wpAny_bind (wpAny_pure (wpAny_bind (wpAny_holding (wpAny_keywordsIn hd (wpAny_pure q)))))
  · obtain ⟨o, rfl, R, r1, r2⟩ := z
    exact ⟨o, rfl, fun E' Q' q => r2 E' Q' fun s2 r => q s2 ⟨rfl, r1 s2 r⟩⟩
end
section
variable {M : Model} {A : Around} {E : Value → Shared → Prop} {s : Shared} {f : Value} {first : List Value} {pos : Pos} {Q : Value → Shared → Prop} {P : Heap → Prop} {args : List (Bool × Sem Value)} {kws : List (Option Str × Sem Value)}
theorem callWith_starred (hst : (args.any (·.1) || kws.any (·.1.isNone)) = true)
    (hk : ∀ h, P h → ∃ k, (k = Keeper.frame ∨ k = Keeper.machine ∨ k = Keeper.boundFrame) ∧ PySem.W.Looks M h (keeperOf f) k)
    (h : wpAny M A (evalArgs f true args kws) (fun a s₁ => P s₁.heap ∧ wpAny M A (call f (first ++ a.pos) a.kw) Q E s₁) E s) : wpAny M A (callWith pos f first args kws) Q E s := by
  unfold callWith
  refine wpAny_bind (wpAny_holding (wpAny_mono h (fun a s₁ h₁ => wpAny_bind (wpAny_standAt ?_)) fun _ _ x => x))
  obtain ⟨k, hk', L⟩ := hk _ h₁.1
  simp only [hst]
  refine wpAny_bind (L.here ?_)
  have tail : ∀ {t : Sem Value}, wpAny M A t Q E s₁ → wpAny M A (t >>= fun r => holding [r] point >>= fun _ => pure r) Q E s₁ :=
    fun ht => wpAny_bind (wpAny_mono ht (fun r s₂ hr => wpAny_bind (wpAny_holding (wpAny_point (wpAny_pure hr)))) fun _ _ x => x)
  have marked (mk : Value) : wpAny M A (callMarked mk f (first ++ a.pos) a.kw) Q E s₁ := by unfold callMarked; exact Calls.wpAny_keep h₁.2
  rcases hk' with rfl | rfl | rfl <;> dsimp only <;> first | exact tail (marked _) | exact tail (wpAny_operating h₁.2)
end
theorem kv_strs : ∀ {ks : List Str} {vs : List V} {ws : List (Key × Value)}, vs.length = ks.length → KV ((ks.map (Sum.inr : Str → Key)).zip vs) ws → ∃ us, ws = (ks.zip us).map (fun p => ((Sum.inr p.1 : Key), p.2)) ∧ Vals vs us
  | [], [], _, _, r => by cases r; exact ⟨[], rfl, .nil⟩
  | [], _ :: _, _, l, _ => nomatch l
  | _ :: _, [], _, l, _ => nomatch l
  | k :: ks, v :: vs, _, l, r => by
    cases r with
    | @cons a b as bs h t =>
      obtain ⟨us, rfl, q⟩ := kv_strs (Nat.succ.inj l) t
      obtain ⟨b1, b2⟩ := b
      obtain ⟨h1, h2⟩ := h
      cases h1
      exact ⟨b2 :: us, rfl, .cons h2 q⟩
section
variable {X : Cx} {σ : L2.St} {H : Hp} {Q : VK} {k j : Nat} {E : L2.St → XK} {x : Str} {sp : Sp} {p pos kpos : Pos} {e : Expr} {C : Addr} {ks : List Str} {gV : List V → List V → List V}
/-- C(**d), d a dict with the keys ks -/
theorem we_makeD (B : Body X k E) (gn : Gn X x) (f : GKk X.prog X.w X.K X.mg X.base j x C sp 0 ks gV) (hj : j + 1 ≤ k) (nd : ks.Nodup)
    (h : ∀ q, H q = none → WE X e σ (upd H q (.dK [])) fun v H1 => ∃ o zs, v = .ref o ∧ H1 q = some (.dK []) ∧ H1 o = some (.dK ((ks.map (Sum.inr : Str → Key)).zip zs)) ∧ q ≠ o ∧ zs.length = ks.length ∧ ks.length ≤ 1000 ∧
      ∀ a dx, upd H1 q (.dK ((ks.map (Sum.inr : Str → Key)).zip zs)) a = none → upd H1 q (.dK ((ks.map (Sum.inr : Str → Key)).zip zs)) dx = none → dx ≠ a → sp (gV [.ref a] zs) (upd (upd (upd H1 q (.dK ((ks.map (Sum.inr : Str → Key)).zip zs))) dx (.own a)) a (.ins C dx [])) (fun v H3 => v = .non ∧ Q (.ref a) H3) (E σ)) :
    WE X (.Call (.Name x p) [] [⟨none, e, kpos⟩] pos) σ H Q := by
  obtain ⟨f, fd, ps, g, hm, M, F, hb⟩ := f
  intro pins s I
  refine wpAny_Call_Name_kw (ld_glob I gn.gl hm ?_ gn.d1)
  refine callWith_starred (P := fun h => X.K.In h) rfl (PySem.W.keeps_K M.kp) ?_
  have hn := I.hok.fresh (Nat.le_refl s.heap.objs.size)
  have I1 := I.laid (a := s.heap.objs.size) (o := .dK []) (h' := s.heap.push { cls := .type "dict", data := .dict #[] }) (t' := s.toks) (fun _ _ q => Heap.get?_push_of_some _ q) (Nat.le_refl _) (dk_empty s.heap I.big)
  refine wpAny_evalArgsD (wpAny_bind (wpAny_mono (h _ hn _ _ I1) (fun v s2 z => ?_) fun _ _ e => e))
  obtain ⟨v', H1, I2, rv, o, zs, rfl, hq, ho, ne, lz, l0, q⟩ := z
  cases rv
  refine wpAny_bind (wpAny_standAt ?_)
  refine wpAny_pure ?_
  refine Exists.intro o (And.intro rfl (Exists.intro (fun s3 => Inv X pins σ (upd H1 s.heap.objs.size (.dK ((ks.map (Sum.inr : Str → Key)).zip zs))) s3) (And.intro (fun s3 I3 => ?_) (fun E' Q' q' => ?_))))
  · obtain ⟨_, _, vs, r, dd⟩ := dk_of I3.hok upd_same
    obtain ⟨us, rfl, ru⟩ := kv_strs lz r
    refine ⟨_, dd, I3.kIn, ?_⟩
    exact kmake_at (us := []) (vs := []) M F (B.room.mono hj) hb (B.at σ) I3 .nil ru rfl lz q
  · have nk : ((ks.map (Sum.inr : Str → Key)).zip zs).map (·.1) = ks.map (Sum.inr : Str → Key) := List.map_fst_zip (by rw [List.length_map, lz]; exact Nat.le_refl _)
    have n1 : (ks.map (Sum.inr : Str → Key)).Nodup := List.Pairwise.map _ (fun a b h e => h (Sum.inr.inj e)) nd
    refine d_merge I2 hq ho ne (fun _ => ?_) ?_ fun s' I3 => q' s' ?_
    · rw [List.nil_append, nk]; exact n1
    · rw [List.length_zip, List.length_map, lz, sizeLine_eq, List.length_nil]; omega
    · rw [mergeK_zip n1 (by rw [List.length_map, lz])] at I3
      exact I3
end
end Rs

namespace Rs
open PySem PySem.Spec PyProof.Rows L2 He
/-! ### {**a, **b} and {**a, k: v} -/
section
variable {prog : Program} {w : World} {A : Around} {s : Shared} {E : Value → Shared → Prop}
/-- m is merged into d, whatever follows -/
def Merges (prog : Program) (w : World) (A : Around) (d : Addr) (v : Value) (R : Shared → Prop) (s : Shared) : Prop :=
  ∀ (E' : Value → Shared → Prop) (Q' : Unit → Shared → Prop), (∀ s2, R s2 → Q' () s2) → wpAny (model prog w) A (mergeMapping d v false) Q' E' s
theorem wpAny_dispMM {va vb : Sem Value} {Q : Value → Shared → Prop}
    (h : wpAny (model prog w) A va (fun v s1 => Merges prog w A s.heap.objs.size v (fun s2 => wpAny (model prog w) A vb (fun v2 s3 => Merges prog w A s.heap.objs.size v2 (fun s4 => Q (.ref s.heap.objs.size) s4) s3) E s2) s1) E { s with heap := s.heap.push { cls := .type "dict", data := .dict #[] } }) :
    wpAny (model prog w) A (dictDisplay [(none, va), (none, vb)]) Q E s := by
  unfold dictDisplay
  try dsimp only
  rw [List.forIn_cons]
  refine wpAny_bind (wpAny_bind ?_)
  try dsimp only
  rw [if_pos (show ([] : List (Sem Value × Sem Value)).isEmpty = true from rfl)]
  refine wpAny_bind (wpAny_pure ?_)
  try dsimp only
  refine wpAny_bind (wpAny_alloc ?_)
  refine wpAny_bind (wpAny_holding (wpAny_mono h (fun v s1 z => ?_) fun _ _ e => e))
  refine wpAny_bind (wpAny_onRaise (wpAny_tryCatch (wpAny_onRaise (wpAny_holding (z _ _ fun s2 z => ?_)))))
  refine wpAny_pure ?_
  try dsimp only
  rw [List.forIn_cons]
  refine wpAny_bind ?_
  try dsimp only
  rw [if_pos (show ([] : List (Sem Value × Sem Value)).isEmpty = true from rfl)]
  refine wpAny_bind (wpAny_pure ?_)
  try dsimp only
  refine wpAny_bind (wpAny_pure ?_)
  refine wpAny_bind (wpAny_holding (wpAny_mono z (fun v s3 z => ?_) fun _ _ e => e))
  refine wpAny_bind (wpAny_onRaise (wpAny_tryCatch (wpAny_onRaise (wpAny_holding (z _ _ fun s4 z => ?_)))))
  refine wpAny_pure ?_
  try dsimp only
  rw [List.forIn_nil]
  refine wpAny_pure ?_
  rw [if_pos (show ([] : List (Sem Value × Sem Value)).isEmpty = true from rfl)]
  exact wpAny_bind (wpAny_pure (wpAny_pure z))
theorem wpAny_dispMK {va k vb : Sem Value} {Q : Value → Shared → Prop}
    (h : wpAny (model prog w) A va (fun v s1 => Merges prog w A s.heap.objs.size v (fun s2 => wpAny (model prog w) A (subDict [(k, vb)]) (fun d2 s3 => Merges prog w A s.heap.objs.size (.ref d2) (fun s4 => Q (.ref s.heap.objs.size) s4) s3) E s2) s1) E { s with heap := s.heap.push { cls := .type "dict", data := .dict #[] } }) :
    wpAny (model prog w) A (dictDisplay [(none, va), (some k, vb)]) Q E s := by
  unfold dictDisplay
  try dsimp only
  rw [List.forIn_cons]
  refine wpAny_bind (wpAny_bind ?_)
  try dsimp only
  rw [if_pos (show ([] : List (Sem Value × Sem Value)).isEmpty = true from rfl)]
  refine wpAny_bind (wpAny_pure ?_)
  try dsimp only
  refine wpAny_bind (wpAny_alloc ?_)
  refine wpAny_bind (wpAny_holding (wpAny_mono h (fun v s1 z => ?_) fun _ _ e => e))
  refine wpAny_bind (wpAny_onRaise (wpAny_tryCatch (wpAny_onRaise (wpAny_holding (z _ _ fun s2 z => ?_)))))
  refine wpAny_pure ?_
  try dsimp only
  rw [List.forIn_cons]
  refine wpAny_bind ?_
  try dsimp only
  rw [if_neg (by simp)]
  refine wpAny_pure ?_
  try dsimp only
  rw [List.forIn_nil]
  refine wpAny_pure ?_
  rw [if_neg (by simp)]
  try dsimp only
  refine wpAny_bind (wpAny_bind (wpAny_holding (wpAny_mono z (fun d s3 z => ?_) fun _ _ e => e)))
  refine wpAny_bind (wpAny_onRaise (wpAny_holding (z _ _ fun s4 z => ?_)))
  exact wpAny_pure (wpAny_pure z)
end
section
variable {X : Cx} {σ : L2.St} {H : Hp} {Q : VK} {e1 e2 ek : Expr} {pos : Pos}
theorem merges_inv {pins : List (Addr × Obj)} {s : Shared} {d o : Addr} {kvs more : List (Key × V)} (I : Inv X pins σ H s) (ed : H d = some (.dK kvs)) (eo : H o = some (.dK more)) (ne : d ≠ o) (hz : kvs.length + more.length ≤ sizeLine) {R : Shared → Prop}
    (h : ∀ s2, Inv X pins σ (upd H d (.dK (mergeK kvs more))) s2 → R s2) : Merges X.prog X.w X.A d (.ref o) R s :=
  fun E' Q' q => d_merge I ed eo ne (fun e => nomatch e) hz fun s' I' => q s' (h s' I')
/-- {**e1, **e2} -/
theorem we_dictMM (h : ∀ q, H q = none → WE X e1 σ (upd H q (.dK [])) fun v H1 => ∃ o m1, v = .ref o ∧ H1 q = some (.dK []) ∧ H1 o = some (.dK m1) ∧ q ≠ o ∧ m1.length ≤ 1000 ∧
      WE X e2 σ (upd H1 q (.dK (mergeK [] m1))) fun v2 H2 => ∃ o2 m2, v2 = .ref o2 ∧ H2 q = some (.dK (mergeK [] m1)) ∧ H2 o2 = some (.dK m2) ∧ q ≠ o2 ∧ m2.length ≤ 1000 ∧ Q (.ref q) (upd H2 q (.dK (mergeK (mergeK [] m1) m2)))) :
    WE X (.Dict [none, none] [e1, e2] pos) σ H Q := by
  intro pins s I
  have hn := I.hok.fresh (Nat.le_refl s.heap.objs.size)
  have I1 := I.laid (a := s.heap.objs.size) (o := .dK []) (h' := s.heap.push { cls := .type "dict", data := .dict #[] }) (t' := s.toks) (fun _ _ q => Heap.get?_push_of_some _ q) (Nat.le_refl _) (dk_empty s.heap I.big)
  rw [arm_eval_Dict]
  refine wpAny_bind (wpAny_standAt ?_)
  refine wpAny_dispMM (wpAny_bind (wpAny_mono (h _ hn _ _ I1) (fun v s2 z => ?_) fun _ _ e => e))
  obtain ⟨v', H1, I2, rv, o, m1, rfl, hq, ho, ne, l1, q⟩ := z
  cases rv
  refine wpAny_bind (wpAny_standAt (wpAny_pure (merges_inv I2 hq ho ne (by rw [sizeLine_eq, List.length_nil]; omega) fun s3 I3 => ?_)))
  refine wpAny_bind (wpAny_mono (q _ _ I3) (fun v s2 z => ?_) fun _ _ e => e)
  obtain ⟨v', H2, I4, rv, o2, m2, rfl, hq2, ho2, ne2, l2, q⟩ := z
  cases rv
  have hm := length_mergeK m1 []
  rw [List.length_nil] at hm
  exact wpAny_bind (wpAny_standAt (wpAny_pure (merges_inv I4 hq2 ho2 ne2 (by rw [sizeLine_eq]; omega) fun s5 I5 => ⟨.ref _, _, I5, rfl, q⟩)))
/-- {**e1, ek: e2} -/
theorem we_dictMK (h : ∀ q, H q = none → WE X e1 σ (upd H q (.dK [])) fun v H1 => ∃ o m1, v = .ref o ∧ H1 q = some (.dK []) ∧ H1 o = some (.dK m1) ∧ q ≠ o ∧ m1.length ≤ 1000 ∧
      ∀ p, p ≠ q → upd H1 q (.dK (mergeK [] m1)) p = none → WE X ek σ (upd (upd H1 q (.dK (mergeK [] m1))) p (.dK [])) fun y H2 => WE X e2 σ H2 fun v H3 => ∃ x, y = .str x ∧ H3 p = some (.dK []) ∧ H3 q = some (.dK (mergeK [] m1)) ∧
        Q (.ref q) (upd (upd H3 p (.dK [(.inr x, v)])) q (.dK (putK (mergeK [] m1) (.inr x) v)))) :
    WE X (.Dict [none, some ek] [e1, e2] pos) σ H Q := by
  intro pins s I
  have hn := I.hok.fresh (Nat.le_refl s.heap.objs.size)
  have I1 := I.laid (a := s.heap.objs.size) (o := .dK []) (h' := s.heap.push { cls := .type "dict", data := .dict #[] }) (t' := s.toks) (fun _ _ q => Heap.get?_push_of_some _ q) (Nat.le_refl _) (dk_empty s.heap I.big)
  rw [arm_eval_Dict]
  refine wpAny_bind (wpAny_standAt ?_)
  refine wpAny_dispMK (wpAny_bind (wpAny_mono (h _ hn _ _ I1) (fun v s2 z => ?_) fun _ _ e => e))
  obtain ⟨v', H1, I2, rv, o, m1, rfl, hq, ho, ne, l1, q⟩ := z
  cases rv
  refine wpAny_bind (wpAny_standAt (wpAny_pure (merges_inv I2 hq ho ne (by rw [sizeLine_eq, List.length_nil]; omega) fun s3 I3 => ?_)))
  have hn3 := I3.hok.fresh (Nat.le_refl s3.heap.objs.size)
  have np : s3.heap.objs.size ≠ s.heap.objs.size := fun e => by rw [e, upd_same] at hn3; cases hn3
  have I4 := I3.laid (a := s3.heap.objs.size) (o := .dK []) (h' := s3.heap.push { cls := .type "dict", data := .dict #[] }) (t' := s3.toks) (fun _ _ q => Heap.get?_push_of_some _ q) (Nat.le_refl _) (dk_empty s3.heap I3.big)
  obtain ⟨trs, pp, pq⟩ := pps_wp (X := X) (σ := σ) pos [some ek] [e2] rfl rfl
  have hw : WP X [some ek] [e2] σ (upd (upd H1 s.heap.objs.size (.dK (mergeK [] m1))) s3.heap.objs.size (.dK [])) (fun ps H3 => ∃ x v, ps = [(V.str x, v)] ∧ H3 s3.heap.objs.size = some (.dK []) ∧ H3 s.heap.objs.size = some (.dK (mergeK [] m1)) ∧
        Q (.ref s.heap.objs.size) (upd (upd H3 s3.heap.objs.size (.dK [(.inr x, v)])) s.heap.objs.size (.dK (putK (mergeK [] m1) (.inr x) v)))) :=
    wp_cons (we_mono (q _ np hn3) fun y H2 z => we_mono z fun v H3 z2 => wp_nil (by
      obtain ⟨x, e, z3⟩ := z2
      exact ⟨x, v, by rw [e], z3⟩))
  refine wpAny_subDict (knd := mixKind X.prog X.w) (show 1 ≤ 15 by decide) (wpAny_mono (pp.run _ _ _ _ _ I4 (pq _ _ hw)) (fun vs s5 z => ?_) fun _ _ e => e)
  obtain ⟨ps, H3, I5, rel, x, v, rfl, hp, hq3, qq⟩ := z
  obtain ⟨rs, c, rk⟩ := carries_of (P := X.prog) (w := X.w) (kvs := [((.inr x : Key), v)]) rel
  obtain ⟨z, hd, vs0, r0, dd⟩ := dk_of I5.hok hp
  cases r0
  refine ⟨rs, c, dd, fun h' dd' hs => ?_⟩
  have he : ∃ q, h'.get? s3.heap.objs.size = some q := let ⟨q, _, _, hq, _⟩ := dd'; ⟨q, hq⟩
  have I6 := d_write (t' := s5.toks + vs.length) I5 (by rw [hp]; exact True.intro) hs he (dk_new (kvs := [((.inr x : Key), v)]) (by rw [sizeLine_eq]; show 1 ≤ _; omega) hd (rk.merge .nil) dd')
  have hm := length_mergeK m1 []
  rw [List.length_nil] at hm
  exact merges_inv I6 ((upd_ne np.symm).trans hq3) upd_same np.symm (by rw [sizeLine_eq, List.length_singleton]; omega) fun s7 I7 => ⟨.ref _, _, I7, rfl, qq⟩
end
end Rs

namespace Rs
open PySem PySem.Spec PyProof.Rows L2 He
/-! ### a def with **kw, called with keywords -/
theorem upd_two {H : Hp} {a : Addr} {o o' : HO} : upd (upd H a o) a o' = upd H a o' := by
  funext b
  by_cases e : b = a
  · subst e; rw [upd_same, upd_same]
  · rw [upd_ne e, upd_ne e, upd_ne e]

section
variable {prog : Program} {w : World} {A : Around} {s : Shared} {E : Value → Shared → Prop}
theorem wpAny_nsSet_pairs {d : Addr} {kvs : List (Key × Value)} {n : Str} {v : Value} {Q : Unit → Shared → Prop} (hm : s.heap.DictOf (mixKind prog w) d kvs)
    (h : ∀ h', h'.DictOf (mixKind prog w) d (stored kvs (.inr n) v) → Heap.SameBut d s.heap h' → Q () { s with heap := h', toks := s.toks + 1 }) :
    wpAny (model prog w) A (nsSet d n v) Q E s := by
  obtain ⟨o, es, ep, ho, hc, hd, hk, hp, hn⟩ := hm
  have hidx : (es.findIdx? (·.key.isStr n)) = kvs.findIdx? fun kv => decide (kv.1 = .inr n) := by
    rw [← hp.findIdx (.inr n)]
    obtain ⟨l⟩ := es
    simp only [List.findIdx?_toArray]
    congr 1
    funext e
    cases q : e.key <;> simp [Value.isStr, mixKind, keyIs, Value.isStrOf]
  have e2 : es.any (·.refKey) = false := by
    rw [Array.any_eq_false']
    intro e he
    obtain ⟨k, hkey, _⟩ := hk e he
    rcases keyIs_shape (k := k) (v := e.key) hkey with ⟨i, t, _, q⟩ | ⟨x, t, _, q⟩ <;> simp [DictEntry.refKey, q]
  have c : aRefKeyMayBeTheName n es = false := by
    rw [aRefKeyMayBeTheName_at, e2, Bool.and_false]
  unfold nsSet
  refine wpAny_bind (wpAny_bind (wpAny_askSetting (wpAny_pure (wpAny_bind (wpAny_mkText (wpAny_bind (wpAny_loadPart ho ?_)))))))
  rw [hd]
  dsimp only
  rw [c]
  refine wpAny_updatePart ho (h _ ?_ (Heap.SameBut.update ..))
  obtain ⟨oc, od, odt, osl⟩ := o
  subst hd
  have hkey : (mixKind prog w).is (.inr n) (.str n s.toks) = true := keyIs_str n s.toks
  cases hi : es.findIdx? (·.key.isStr n) with
  | some i =>
    have e : ∀ hh, Obj.putName n hh (.str n s.toks) v ⟨oc, od, .dict es ep, osl⟩ = (⟨oc, od, .dict es ep, osl⟩ : Obj).mapDict (·.modify i fun e => { e with val := v }) := by
      intro hh; simp only [Obj.putName_eq, Obj.putNameByArray, hi]; rfl
    refine ⟨_, _, ep, Heap.get?_update_self _ ho (by first | (rw [e]; exact Obj.isFreed_of_dict (Obj.data_mapDict rfl _))), ?_, ?_, hk.modify i v, ?_, ?_⟩
    · rw [e]; exact hc.mapDict _
    · rw [e]; exact Obj.data_mapDict rfl _
    · rw [stored, if_pos (any_of_findIdx_some (hidx ▸ hi))]
      have hl : (es.toList.findIdx? fun e => (mixKind prog w).is (.inr n) e.key) = some i := by
        rw [hp.findIdx (.inr n), ← hidx]; exact hi
      have := hp.modify hn hl v
      obtain ⟨l⟩ := es
      simpa using this
    · rw [stored, if_pos (any_of_findIdx_some (hidx ▸ hi)), keys_map_store]; exact hn
  | none =>
    have hnot : (Sum.inr n : Key) ∉ kvs.map (·.1) := not_mem_of_findIdx_none (hidx ▸ hi)
    have hany : ¬ (kvs.any fun kv => decide (kv.1 = .inr n)) = true := by
      rw [List.any_eq_true]; rintro ⟨kv, hkv, he⟩
      exact hnot (List.mem_map.mpr ⟨kv, hkv, of_decide_eq_true he⟩)
    have e : ∀ hh, Obj.putName n hh (.str n s.toks) v ⟨oc, od, .dict es ep, osl⟩ = (⟨oc, od, .dict es ep, osl⟩ : Obj).mapDictKeys (·.push ⟨hh, .str n s.toks, v⟩) := by
      intro hh; simp only [Obj.putName_eq, Obj.putNameByArray, hi]; rfl
    refine ⟨_, _, ep + 1, Heap.get?_update_self _ ho (by first | (rw [e]; exact Obj.isFreed_of_dict (Obj.data_mapDictKeys rfl _))), ?_, ?_, hk.push hkey v, ?_, ?_⟩
    · rw [e]; exact hc.mapDictKeys _
    · rw [e]; exact Obj.data_mapDictKeys rfl _
    · rw [stored, if_neg hany]
      have := hp.append hkey ((mixKind prog w).hash (.inr n)) v
      obtain ⟨l⟩ := es
      simpa using this
    · rw [stored, if_neg hany, List.map_append, List.nodup_append]
      refine ⟨hn, by simp, ?_⟩
      intro a ha b hb
      simp only [List.map_cons, List.map_nil, List.mem_singleton] at hb
      subst hb
      exact fun e => hnot (e ▸ ha)
end
section
variable {X : Cx} {σ : L2.St}
theorem ns_fill {pins : List (Addr × Obj)} {A' : Around} {Ex : Value → Shared → Prop} {Q : PUnit → Shared → Prop} {p : Addr} : ∀ (ks : List Str) (zs : List V) (ws : List Value) (kvs : List (Key × V)) (s : Shared) (H : Hp), Inv X pins σ H s → H p = some (.dK kvs) → Vals zs ws → zs.length = ks.length → kvs.length + ks.length ≤ 1000 →
    (∀ s', Inv X pins σ (upd H p (.dK (mergeK kvs ((ks.map (Sum.inr : Str → Key)).zip zs)))) s' → Heap.SameBut p s.heap s'.heap → s'.os = s.os → (∃ q, s'.heap.get? p = some q) → Q ⟨⟩ s') →
    wpAny (model X.prog X.w) A' (forIn (ks.zip ws) PUnit.unit fun x _ => (nsSet p x.1 x.2 >>= fun _ => pure (ForInStep.yield PUnit.unit))) Q Ex s
  | [], [], _, kvs, s, H, I, hp, r, _, _, h => by
    cases r
    show wpAny _ _ (forIn [] _ _) _ _ _
    rw [List.forIn_nil]
    obtain ⟨_, _, vs, _, dd⟩ := dk_of I.hok hp
    refine wpAny_pure (h s ?_ (Heap.SameBut.refl _ _) rfl (let ⟨o, _, _, q, _⟩ := dd; ⟨o, q⟩))
    show Inv X pins σ (upd H p (.dK kvs)) s
    rw [upd_self hp]
    exact I
  | [], _ :: _, _, _, _, _, _, _, _, l, _, _ => nomatch l
  | _ :: _, [], _, _, _, _, _, _, _, l, _, _ => nomatch l
  | k :: ks, z :: zs, _, kvs, s, H, I, hp, r, l, hz, h => by
    cases r with
    | @cons _ u _ us r0 r1 =>
      show wpAny _ _ (forIn ((k, u) :: ks.zip us) _ _) _ _ _
      rw [List.forIn_cons]
      obtain ⟨_, hd, vs, rv, dd⟩ := dk_of I.hok hp
      refine wpAny_bind (wpAny_bind (wpAny_nsSet_pairs dd fun h' dd' hs => wpAny_pure ?_))
      have hl : (putK kvs (.inr k) z).length ≤ kvs.length + 1 := length_putK kvs _ z
      have I2 : Inv X pins σ (upd H p (.dK (putK kvs (.inr k) z))) { s with heap := h', toks := s.toks + 1 } :=
        d_write I (by rw [hp]; exact True.intro) hs (let ⟨q, _, _, hq, _⟩ := dd'; ⟨q, hq⟩) (dk_new (by rw [sizeLine_eq]; rw [List.length_cons] at hz; omega) hd (rv.put (.inr k) r0) dd')
      refine ns_fill ks zs us _ _ _ I2 upd_same r1 (Nat.succ.inj l) (by rw [List.length_cons] at hz; omega) fun s' I3 hs3 ho hq => h s' ?_ (hs.trans hs3) ho hq
      rw [upd_two] at I3
      exact I3
end
/-- a def called with the keywords ks, which go into its last parameter -/
def FnW (P : Program) (w : World) (K : PySem.W.Frag) (mg : Str → Option Value) (base : Heap) (k n : Nat) (f : Addr) (ks : List Str) (sp : Sp) : Prop :=
  ∀ (X : Cx) (pins : List (Addr × Obj)) (σ : L2.St) (H : Hp) (s : Shared) (us : List Value) (vs : List V) (ws : List Value) (zs : List V) (Q : VK) (E : XK), X.prog = P → X.w = w → X.K = K → X.mg = mg → X.base = base → Room k X.A → PassesAt (RX X.prog X.w) X σ E →
    Inv X pins σ H s → Vals vs us → vs.length = n → Vals zs ws → zs.length = ks.length → (∀ p, H p = none → sp (vs ++ [.ref p]) (upd H p (.dK ((ks.map (Sum.inr : Str → Key)).zip zs))) Q E) →
    wpAny (model X.prog X.w) X.A (call (.ref f) us (ks.zip ws)) (EP X pins σ Q) X.xe s
section
variable {P : Program} {w : World} {K : PySem.W.Frag} {mg : Str → Option Value} {base : Heap} {N ps : List Str} {pd name qual : Str} {pa : Arguments} {body : List Stmt} {sc : Scope} {f : Addr} {fd : FuncData} {k : Nat} {sp : Sp} {ks : List Str}
theorem def_kwP (F : FunD K name qual pa body sc [] [] f fd) (S : FnScope N (ps ++ [pd]) sc) (nd : ks.Nodup) (hz : ks.length ≤ 1000)
    (h : ∀ (kV doc pm : Value) (an : Option Addr) (cdv ct : Value) (us ws : List Value), us.length = ps.length → ws.length = ks.length →
      bindArgs (PySem.W.fnOf name qual pa body sc .none kV doc pm an cdv ct) ⟨us, ks.zip ws⟩ = ((alloc ({ cls := .type "dict", data := .dict #[] } : Obj) : Sem Addr) >>= fun d =>
        forIn (ks.zip ws) PUnit.unit (fun x _ => (nsSet d x.1 x.2 >>= fun _ => pure (ForInStep.yield PUnit.unit))) >>= fun _ => pure (ps.zip us ++ [(pd, Value.ref d)])))
    (hb : ∀ (X : Cx), X.prog = P → X.w = w → X.K = K → X.mg = mg → X.base = base → X.N = N → X.env.scope = sc → (∀ x, X.fn x = true) → N.Nodup → ∀ (H : Hp) (vs : List V) (Q : VK) (E : XK), Body X k (fun _ => E) → sp vs H Q E → WB X body { nx := fun _ H' => Q .non H', rt := Q } (start N vs) H) :
    FnW P w K mg base (k + 1) ps.length f ks sp := by
  intro X pins σ H s us vs ws zs Q E eP ew eK em eb hr hx I r ln rz lz hq
  subst eP ew eK em eb
  obtain ⟨oc, od, dV, kV, doc, pm, an, cdv, ct, osl, rfl, lk, hcd, hD, hK⟩ := F.ex
  rcases hD with ⟨_, rfl⟩ | ⟨e, _⟩
  case inr => exact absurd rfl e
  have hn : H s.heap.objs.size = Option.none := I.hok.fresh (Nat.le_refl _)
  have n1 : (ks.map (Sum.inr : Str → Key)).Nodup := List.Pairwise.map _ (fun a b h e => h (Sum.inr.inj e)) nd
  refine wpAny_call (codeAny_mono (StX.run_bnd (N := N) (ps := ps ++ [pd]) (k := k) (CX := RX X.prog X.w) (args := ⟨us, ks.zip ws⟩) (Q := Q) (E := E) (G := fun xs H2 => ∃ p, H p = Option.none ∧ xs = vs ++ [V.ref p] ∧ H2 = upd H p (.dK ((ks.map (Sum.inr : Str → Key)).zip zs))) lk hcd S hr I.env0 (fun A' Ex Q' hk => ?_) fun s2 H2 xs g hr' => ?_) (out_at hx I))
  · rw [h _ _ _ _ _ _ us ws (r.length.symm.trans ln) (rz.length.symm.trans lz)]
    refine wpAny_bind (wpAny_alloc ?_)
    have I1 := I.laid (a := s.heap.objs.size) (o := .dK []) (h' := s.heap.push { cls := .type "dict", data := .dict #[] }) (t' := s.toks) (fun _ _ q => Heap.get?_push_of_some _ q) (Nat.le_refl _) (dk_empty s.heap I.big)
    refine wpAny_bind (ns_fill ks zs ws [] _ _ I1 upd_same rz lz (by rw [List.length_nil]; omega) fun s2 I2 hs ho he => wpAny_pure ?_)
    rw [upd_two, mergeK_zip n1 (by rw [List.length_map, lz])] at I2
    have kp : ∀ b o, s.heap.get? b = some o → s2.heap.get? b = some o := fun b o q => (hs.2 b (Nat.ne_of_lt (Heap.lt_size q))).trans (Heap.get?_push_of_some _ q)
    have un : Un (frs X.stack) [] H (upd H s.heap.objs.size (.dK ((ks.map (Sum.inr : Str → Key)).zip zs))) s.heap s2.heap := Un.laid kp (Nat.le_refl _) hn
    have z := hk s2 _ (vs ++ [V.ref s.heap.objs.size]) (us ++ [Value.ref s.heap.objs.size]) I2.env0 un ho (fun e s' => cxUpN X.stack s H s2 _ E e s' un kp ho) (r.append (.cons rfl .nil)) (by rw [List.length_append, List.length_append, ln]; rfl) ⟨_, hn, rfl, rfl⟩
    rw [List.zip_append (ln.symm.trans r.length)] at z
    exact z
  · obtain ⟨p, hp, rfl, rfl⟩ := g
    exact ⟨_, pbS, hb (bx X.prog X.w X.K X.mg X.base N qual sc f cdv X.A X.stack s2 _ E) rfl rfl rfl rfl rfl rfl rfl (fun _ => rfl) S.nd _ _ Q E (body_of hr') (hq p hp)⟩
end
/-- a method called with keywords alone -/
def GMw (P : Program) (w : World) (K : PySem.W.Frag) (mg : Str → Option Value) (base : Heap) (k : Nat) (C : Addr) (m : Str) (ks : List Str) (sp : Sp) : Prop :=
  ∃ f, Meth K C m f ∧ FnW P w K mg base k 1 f ks sp
section
variable {X : Cx} {σ : L2.St} {H : Hp} {Q : VK} {k j : Nat} {E : L2.St → XK} {m : Str} {sp : Sp} {pos apos : Pos} {o : Expr} {C : Addr} {ks : List Str} {kws : List Keyword}
theorem we_methKW {pl : Sem Bool} (B : Body X k E) (c : Cls X.K C) (f : GMw X.prog X.w X.K X.mg X.base j C m ks sp) (hj : j ≤ k)
    (h : WE X o σ H fun y H1 => ∃ a dx fs, y = .ref a ∧ H1 a = some (.ins C dx fs) ∧ fs.lookup m = none ∧ WK X kws σ H1 fun zs H2 => zs.length = ks.length ∧ ∀ p, H2 p = none → sp [.ref a, .ref p] (upd H2 p (.dK ((ks.map (Sum.inr : Str → Key)).zip zs))) Q (E σ))
    (hall : (backToKw pos (keywordEach kws X.env)).all (·.1.isSome) = true := by rfl) (hks : (backToKw pos (keywordEach kws X.env)).filterMap (·.1) = ks := by rfl)
    (hpl : ((backTo pos (starEach [] X.env)).any (·.1) || (backToKw pos (keywordEach kws X.env)).any (·.1.isNone)) = false := by rfl)
    (ht : eval (.Call (.Attribute o m apos) [] kws pos) X.env = (do
      let it ← eval o X.env
      standAt apos.atName
      let (g, first) ← holding [it] (getMethod it m pl)
      callWith pos g first (backTo pos (starEach [] X.env)) (backToKw pos (keywordEach kws X.env))) := by rfl) : WE X (.Call (.Attribute o m apos) [] kws pos) σ H Q := by
  obtain ⟨g, hm, F⟩ := f
  intro pins s I
  refine PySem.W.methodCall_KW (pl := pl) (thn (h pins s I) fun u s1 z => ?_) ht
  obtain ⟨y, H1, I1, ry, a, dx, fs, rfl, e1, l, q⟩ := z
  cases ry
  refine getmeth_ok I1 e1 c hm l ?_
  refine PySem.W.callWith_KW0 (first := [.ref a]) (h₀ := X.base) I1.ok.mod.kin hm.kp hall ?_ hpl
  refine thn (q pos pins s1 I1) fun ws s2 z => ?_
  obtain ⟨zs, H2, I2, rz, lz, q2⟩ := z
  refine ⟨I2.kIn, ?_⟩
  rw [hks]
  exact F X pins σ H2 s2 [.ref a] [.ref a] ws zs Q (E σ) rfl rfl rfl rfl rfl (B.room.mono hj) (B.at σ) I2 (.cons rfl .nil) rfl rz lz q2
end
end Rs

namespace Rs
open PySem PySem.Spec PyProof.Rows L2 He
/-! ### o.f = v by a property's setter -/
structure PropSet (K : PySem.W.Frag) (C : Addr) (f : Str) (p g : Addr) : Prop where
  tk : PySem.W.takerIn K C f = some (some (.ref p))
  ty : PySem.W.typeIn K (.ref p) = some (.type "property")
  rc : ∃ a rest, PySem.W.recIn K p "property" = some (a :: .ref g :: rest)
def psA (K : PySem.W.Frag) (C : Addr) (m : Str) : Addr := match PySem.W.recIn K (ma K C m) "property" with
  | some (_ :: .ref g :: _) => g
  | _ => 0
def propSetB (K : PySem.W.Frag) (C : Addr) (m : Str) : Bool := decide (PySem.W.takerIn K C m = some (some (.ref (ma K C m)))) && (decide (PySem.W.typeIn K (.ref (ma K C m)) = some (.type "property")) &&
  (match PySem.W.recIn K (ma K C m) "property" with
    | some (_ :: .ref g :: _) => decide (g = psA K C m)
    | _ => false))
theorem propSet_ok {K : PySem.W.Frag} {C : Addr} {m : Str} (h : propSetB K C m = true) : PropSet K C m (ma K C m) (psA K C m) := by
  obtain ⟨h1, h⟩ := ba h
  obtain ⟨h2, h⟩ := ba h
  refine ⟨of_decide_eq_true h1, of_decide_eq_true h2, ?_⟩
  split at h
  · rename_i a g r q
    rw [← of_decide_eq_true h]
    exact ⟨a, r, q⟩
  · cases h
section
variable {X : Cx} {σ : L2.St} {H : Hp} {D : Ends} {k j : Nat} {E : L2.St → XK} {f : Str} {C p g : Addr} {sp : Sp} {value o : Expr} {pos pos' : Pos}
theorem ws_setp (B : Body X k E) (c : Cls X.K C) (hp : PropSet X.K C f p g) (F : FnR X.prog X.w X.K X.mg X.base (RX X.prog X.w) j g sp) (hj : j + 2 ≤ k)
    (h : WE X value σ H fun y H1 => WE X o σ H1 fun z H2 => ∃ a dx fs, z = .ref a ∧ H2 a = some (.ins C dx fs) ∧ sp [.ref a, y] H2 (fun _ H3 => D.nx σ H3) (E σ))
    (hs : swapsWith value (some (.Attribute o f pos')) pos.line X.env = pure false := by rfl) : WS X (.Assign [.Attribute o f pos'] value pos) D σ H := by
  intro pins s I
  refine plainObj_wpAny_Assign_Attribute (thn (h pins s I) fun u s1 z => ?_) hs
  obtain ⟨y, H1, I1, ry, z⟩ := z
  refine thn (z pins s1 I1) fun ov s2 z => ?_
  obtain ⟨x, H2, I2, rx, a, dx, fs, rfl, ea, q⟩ := z
  cases rx
  obtain ⟨mA, O, _, _, _, _⟩ := ins_get I2.hok ea
  obtain ⟨od, J, _⟩ := O.look
  obtain ⟨a1, rest, hrec⟩ := hp.rc
  have I3 := I2.tok (s2.toks + 1)
  refine PySem.W.set_plain I2.kIn J c.sa (PySem.W.osa_descr (s := { s2 with toks := s2.toks + 1 }) PySem.W.KF.slot_pset I3.kIn J c.po hp.tk hp.ty (PySem.W.prop_set (s := { s2 with toks := s2.toks + 1 }) I3.kIn hrec ?_))
  have hr := B.room.mono hj
  refine codeAny_mono (F X.A.in1.in1 X.stack { s2 with toks := s2.toks + 1 } H2 [.ref a, u] [.ref a, y] (fun _ H3 => D.nx σ H3) (E σ) ?hr ?he (.cons rfl (.cons ry .nil)) q) fun r s' hq => ?_
  case hr => exact hr.in1.in1
  case he => exact I3.env0.in1.in1
  have z := out_at (B.at σ) I3 r s' hq
  cases r with
  | error e => exact z
  | ok fl =>
    cases fl with
    | ret v =>
      obtain ⟨v', H3, I4, rv, q3⟩ := z
      exact ⟨σ, H3, I4, q3⟩
    | next => exact z.elim
    | brk => exact z.elim
    | cont => exact z.elim
end
/-! ### for x in d, d a dict that is not touched; all([..]) -/
section
variable {X : Cx} {σ : L2.St} {H : Hp} {D : Ends} {k : Nat} {E : L2.St → XK} {x : Str} {px pos p : Pos} {a : Expr} {i : Nat} {body : List Stmt} {Q : VK}
theorem for_keys {d : Addr} {o : Obj} {kvs : List (Key × V)} {g : TG} {tb : TS} (Pv : Nat → L2.St → Hp → Prop) (h0 : Pv 0 σ H) (hl : ∀ i σ H, i ≤ kvs.length → Pv i σ H → H d = some (.frz o (.dK kvs)))
    (hs : ∀ i k v σ H, kvs[i]? = some (k, v) → Pv i σ H → g (kV k) σ H fun σ2 H2 => tb { D with nx := Pv (i + 1), ct := Pv (i + 1), bk := D.nx } σ2 H2) (hd : ∀ σ H, Pv kvs.length σ H → D.nx σ H) :
    ∃ W : Nat → Nat → L2.St → Hp → Prop, (∃ m, W 0 m σ H) ∧ ∀ i m σ H, W i m σ H →
      ((Itk d o kvs).stop i H ∧ D.nx σ H) ∨ ((Itk d o kvs).go i H ∧ ∃ N : L2.St → Hp → Prop, (∀ σ' H', N σ' H' → ∃ m', m' < m ∧ W (i + 1) m' σ' H') ∧ ∀ x H', (Itk d o kvs).yld i H x H' → g x σ H' fun σ2 H2 => tb { D with nx := N, ct := N, bk := D.nx } σ2 H2) := by
  refine ⟨fun i m σ H => m = kvs.length - i ∧ i ≤ kvs.length ∧ Pv i σ H, ⟨kvs.length, by simp, Nat.zero_le _, h0⟩, ?_⟩
  rintro i m σ H ⟨rfl, hi, q⟩
  have hd0 := hl i σ H hi q
  by_cases hlt : i < kvs.length
  · refine .inr ⟨⟨hd0, hlt⟩, Pv (i + 1), fun σ' H' p' => ⟨kvs.length - (i + 1), by omega, rfl, hlt, p'⟩, fun x H' y => ?_⟩
    obtain ⟨rfl, k, v, hk, rfl⟩ := y
    exact hs i k v σ _ hk q
  · have e : i = kvs.length := by omega
    subst e
    exact .inl ⟨⟨hd0, Nat.le_refl _⟩, hd σ H q⟩
theorem ws_for_dict (B : Body X k E) (s : Sl X i x) (h : ∃ d kvs, H d = some (.dK kvs) ∧ ∀ od, WE X a σ (upd H d (.frz od (.dK kvs))) fun v H1 => v = .ref d ∧ ∃ P : Nat → L2.St → Hp → Prop, P 0 σ H1 ∧ (∀ j σ H, j ≤ kvs.length → P j σ H → H d = some (.frz od (.dK kvs))) ∧
      (∀ j k v σ H, kvs[j]? = some (k, v) → P j σ H → WB X body { nx := P (j + 1), ct := P (j + 1), bk := fun σ' H' => H' d = some (.frz od (.dK kvs)) ∧ D.nx σ' (upd H' d (.dK kvs)), rt := fun v H' => H' d = some (.frz od (.dK kvs)) ∧ D.rt v (upd H' d (.dK kvs)) } (σ.set i (some (kV k))) H) ∧
      ∀ σ H, P kvs.length σ H → D.nx σ (upd H d (.dK kvs))) (hs : ∀ v, foldedSetIterable a X.env v = pure v := by intro _; rfl) : WS X (.For (.Name x px) a body [] pos) D σ H := by
  refine wsP (ps_lock (ps_for B.po B.calm (pi_keys peS) (pg_name s.nd s.at_ s.loc s.fn) pbS hs)) ?_
  obtain ⟨d, kvs, hd, h⟩ := h
  refine ⟨d, .dK kvs, hd, True.intro, fun od => we_mono (h od) fun v H1 q => ?_⟩
  obtain ⟨rfl, P, q0, hl, ht, hn⟩ := q
  exact ⟨d, od, rfl, .inl ⟨kvs, hl 0 σ H1 (Nat.zero_le _) q0, for_keys P q0 hl (fun j k v σ H hk q => ht j k v σ H hk q) fun σ H q => ⟨hl _ σ H (Nat.le_refl _) q, hn σ H q⟩⟩⟩
theorem we_all (B : Body X k E) (bn : Bn X "all") (h : WE X a σ H fun v H1 => ∃ l, ∃ bs : List Bool, v = .ref l ∧ SqL X.K H1 l (bs.map V.bl) ∧ Q (.bl (bs.all id)) H1) (hs : starEach [a] X.env = [(false, eval a X.env)] := by rfl) (hl : (backTo pos (starEach [] X.env)).any (·.1) = false := by rfl) :
    WE X (.Call (.Name "all" p) [a] [] pos) σ H Q := we_callB (cr_all B.calm) bn PyProof.Rows.boot_all (wa_one (we_mono h fun v H1 q => by
    obtain ⟨l, bs, rfl, h1, q⟩ := q
    exact ⟨l, bs, rfl, h1, q⟩) hs) (by decide) (by decide) hs hl
end
end Rs

namespace Rs
open PySem PySem.Spec PyProof.Rows L2 He
/-! ### None == x, x == v of another kind, x an instance with an own == -/
section
variable {X : Cx} {k j : Nat} {E : XK} {C f a dx : Addr} {fs : List (Str × V)} {H : Hp} {Q : VK} {v : V}
theorem no_sub {K : PySem.W.Frag} {C : Addr} {T : String} (h : ∃ cd, PySem.W.clsIn K C = some cd ∧ cd.mro = [.ref C, .type "object"]) (ht : (Value.type T == .type "object") = false) : PySem.W.subIn K (.ref C) (.type T) = some false := by
  obtain ⟨cd, h1, h2⟩ := h
  show (PySem.W.clsIn K C).bind (fun cd => if cd.mro.isEmpty then none else some (cd.mro.contains (.type T))) = some false
  rw [h1]
  show (if cd.mro.isEmpty then none else some (cd.mro.contains (.type T))) = some false
  rw [h2]
  show some (([.ref C, .type "object"] : List Value).contains (.type T)) = some false
  simp only [List.contains_cons, List.contains_nil, Bool.or_false]
  rw [ht]
  simp
theorem looks_of_ty {M : Model} {s : Shared} {u : Value} {T : String} (h : s.TypeIs u T) : PySem.W.Looks M s.heap (typeOf u) (.type T) := by
  intro A Q E s' kp q
  refine wpAny_typeOf (s := s') ?_ q
  cases u with
  | ref a =>
    obtain ⟨o, ho, hc⟩ := h
    exact ⟨o, kp _ _ ho, hc⟩
  | _ => exact h
/-- None == x, where x's own == declines -/
theorem eq_non {sp : SpN} (B : Body X k fun _ => E) (c : NeOwn X.K C f) (hs : PySem.W.subIn X.K (.ref C) (.type "NoneType") = some false) (F : FnN X.prog X.w X.K X.mg X.base (RX X.prog X.w) j f sp) (hj : j ≤ k) (ea : H a = some (.ins C dx fs)) (h : sp [.ref a, .non] H (fun H' => Q (.bl false) H') E) :
    Op2 X (compareOp .Eq) .non (.ref a) H Q := by
  intro pins s σ u u' I ru rv
  cases ru
  cases rv
  obtain ⟨od, J⟩ := inst_of I ea
  have G := Fgn.non.at (v := .non) I rfl ea c
  have r1 := run_ni (us := [.ref a, .none]) (vs := [.ref a, .non]) F (B.room.mono hj) I.env0 B.pass I (.cons rfl (.cons rfl .nil)) h
  show wpAny _ _ (richCompare .Eq .none (.ref a)) _ _ s
  simp only [richCompare, cmpInfo_Eq]
  refine wpAny_holding (wpAny_bind (wpAny_cRoomFor B.room.units0 ?_))
  have e1 : oneThing? .Eq .none (.ref a) = none := rfl
  rw [e1]
  refine wpAny_bind (looks_ty (show s.TypeIs .none "NoneType" from rfl) (wpAny_bind (J.type.here ?_)))
  have ne : (Value.type "NoneType" != Value.ref C) = true := by simp
  simp only [ne, if_true]
  refine wpAny_bind ((PySem.W.looks_subIn I.kIn hs).here ?_)
  simp only [Bool.false_eq_true, if_false, Bool.not_false, if_true]
  refine wpAny_bind (m := tryCompare .none _ (.ref a)) (wpAny_mono (G.eq _ _ _ _) (fun r s2 z => ?_) fun _ _ z => z)
  obtain ⟨rfl, rfl⟩ := z
  refine wpAny_bind (m := tryCompare (.ref a) _ .none) ?_
  unfold tryCompare
  refine wpAny_bind (PySem.W.ifBound_K I.kIn J c.eq c.fn (wpAny_mono r1 (fun v s1 z => ?_) fun _ _ z => z))
  obtain ⟨rfl, H1, I1, q⟩ := z
  refine wpAny_pure ?_
  refine wpAny_bind (wpAny_rule (wpAny_bind (wpAny_of_eq (rfl : isSame .none (.ref a) = pure false) (wpAny_pure ⟨.bl false, H1, I1, rfl, q⟩))))
/-- x == v, v of another kind, where x's own == answers -/
theorem cmp_tf {sp : Sp} (B : Body X k fun _ => E) (c : CmpOwn X.K C f .Eq) (cn : NeOwn X.K C f) (F : FnR X.prog X.w X.K X.mg X.base (RX X.prog X.w) j f sp) (hj : j ≤ k) (ea : H a = some (.ins C dx fs)) (g : Fgn H v) (h : sp [.ref a, v] H Q E) : Op2 X (compareOp .Eq) (.ref a) v H Q := by
  intro pins s σ u u' I ru rv
  cases ru
  obtain ⟨od, J⟩ := inst_of I ea
  obtain ⟨m, hF⟩ := I.fr
  obtain ⟨T, hT, hs⟩ := (g.at I rv ea cn).ty
  rw [rich_eq]
  exact PySem.W.cmp_K (op := .Eq) (tb := .type T) B.room.units0 hF I.ok.mod.kin J (looks_of_ty hT) (by unfold PySem.W.notFirst; rw [hs]; simp) c.at_ c.fn (back (run_own (us := [.ref a, u']) (vs := [.ref a, v]) B F hj I (.cons rfl (.cons rv .nil)) h))
end
end Rs

namespace Rs
open PySem PySem.Spec PyProof.Rows L2 He
/-! ### an instance called -/
structure CallC (K : PySem.W.Frag) (C g : Addr) : Prop where
  at_ : PySem.W.findIn K (.ref C) "__call__" = some (some (.ref g))
  fn : PySem.W.isFn K (.ref g) = true
  fi : PySem.W.fnIn K g = true
def callCB (K : PySem.W.Frag) (C g : Addr) : Bool := decide (PySem.W.findIn K (.ref C) "__call__" = some (some (.ref g))) && (PySem.W.isFn K (.ref g) && PySem.W.fnIn K g)
theorem callC_ok {K : PySem.W.Frag} {C g : Addr} (h : callCB K C g = true) : CallC K C g := by
  obtain ⟨h1, h⟩ := ba h
  obtain ⟨h2, h3⟩ := ba h
  exact ⟨of_decide_eq_true h1, h2, h3⟩
section
variable {X : Cx} {σ : L2.St} {H : Hp} {Q : VK} {QA : List V → Hp → Prop} {k j i : Nat} {E : L2.St → XK} {sp : Sp} {p pos px pr pc : Pos} {fe e : Expr} {es : List Expr} {C g : Addr} {x : Str} {scope : Scope} {elt a : Expr}
theorem we_callO (B : Body X k E) (c : CallC X.K C g) (F : FnR X.prog X.w X.K X.mg X.base (RX X.prog X.w) j g sp) (hj : j ≤ k)
    (h : WE X fe σ H fun y H1 => ∃ a, y = .ref a ∧ WA X (e :: es) σ H1 fun vs H2 => (∃ dx fs, H2 a = some (.ins C dx fs)) ∧ sp (.ref a :: vs) H2 Q (E σ))
    (ht : eval (.Call fe (e :: es) [] pos) X.env = (do callWith pos (← eval fe X.env) [] (backTo pos (starEach (e :: es) X.env)) (backToKw pos (keywordEach [] X.env))) := by rfl)
    (he : starEach (e :: es) X.env = (false, eval e X.env) :: starEach es X.env := by rfl) (hpl : (backTo pos (starEach es X.env)).any (·.1) = false := by rfl) : WE X (.Call fe (e :: es) [] pos) σ H Q := by
  intro pins s I
  refine Call_ (thn (h pins s I) fun u s1 z => ?_) ht
  obtain ⟨y, H1, I1, ry, a, rfl, q⟩ := z
  obtain rfl : u = Value.ref a := ry
  refine StX.callO_with (thn (q pos pins s1 I1) fun us s2 z => ?_) he hpl
  obtain ⟨vs, H2, I2, r, ⟨dx, fs, hi⟩, q2⟩ := z
  obtain ⟨od, J⟩ := inst_of I2 hi
  refine ⟨⟨C, _, _, J, rfl⟩, ?_⟩
  exact wpAny_call (PySem.W.kco_code I2.kIn J rfl c.at_ c.fn c.fi (codeAny_mono (F _ X.stack s2 H2 (.ref a :: us) (.ref a :: vs) Q (E σ) (B.room.mono hj) I2.env0 (.cons rfl r) q2) (out_at (B.at σ) I2)))
/-! ### *e in a display -/
theorem wa_star (h : WE X e σ H fun x H1 => ∃ p xs, x = .ref p ∧ (SqT X.K H1 p xs ∨ SqL X.K H1 p xs) ∧ WA X es σ H1 fun ys H2 => QA (xs ++ ys) H2)
    (hs : starEach (.Starred e p :: es) X.env = (true, eval e X.env) :: starEach es X.env := by rfl) : WA X (.Starred e p :: es) σ H QA := waP (StX.pa_star peS paS hs) h
/-! ### [e for x in range(n)] -/
theorem we_lcR (B : Body X k E) (nd : X.N.Nodup) (bn : Bn X "range") (hi : X.N[i]? = some x) (hx : scope.names.lookup x = some .local) (ok : BlkOk X.N X.env.scope scope [(x, i)])
    (h : WE X a σ H fun v H1 => ∃ n' : Nat, v = .int n' ∧ n' ≤ 1000000000 ∧ LcR X scope elt i σ n' Q H1) (hst : starEach [a] X.env = [(false, eval a X.env)] := by rfl)
    (hs : ∀ v, foldedSetIterable (.Call (.Name "range" pr) [a] [] pc) X.env v = pure v := by intro _; rfl) : WE X (.ListComp elt [⟨.Name x px, .Call (.Name "range" pr) [a] [] pc, [], 0⟩] scope pos) σ H Q :=
  weP (pe_lc (own := [(x, i)]) (g := gName i) (tt := tYes) B.calm nd (pi_range1 bn.gl bn.no paS hst) ok (fun _ _ _ _ _ => pg_name nd hi (.inl (lookup_relS_keep (by decide) hx)) (.inr (lookup_relS_keep (by decide) hx))) (fun _ _ _ _ _ => pts_nil) peB hs) (lc_byR h hst)
end
end Rs

namespace Rs
open PySem PySem.Spec PyProof.Rows L2 He
/-! ### C(e, *xs, k=v) -/
section
variable {X : Cx} {σ : L2.St} {H : Hp} {Q : VK} {k j : Nat} {E : L2.St → XK} {x : Str} {sp : List V → Sp} {p pos : Pos} {e : Expr} {es : List Expr} {C : Addr} {ks : List Str} {kws : List Keyword}
theorem we_makeST (B : Body X k E) (gn : Gn X x) (f : GSK X.prog X.w X.K X.mg X.base j x C ks sp) (hj : j + 1 ≤ k) (h : WA X (e :: es) σ H fun vs H1 => WK X kws σ H1 fun zs H2 => zs.length = ks.length ∧ ∀ a dx, H2 a = none → H2 dx = none → dx ≠ a → sp (.ref a :: vs) zs (upd (upd H2 dx (.own a)) a (.ins C dx [])) (fun v H3 => v = .non ∧ Q (.ref a) H3) (E σ))
    (hall : (backToKw pos (keywordEach kws X.env)).all (·.1.isSome) = true := by rfl) (hks : (backToKw pos (keywordEach kws X.env)).filterMap (·.1) = ks := by rfl)
    (he : starEach (e :: es) X.env = (false, eval e X.env) :: starEach es X.env := by rfl) (hst : ((backTo pos (starEach (e :: es) X.env)).any (·.1) || (backToKw pos (keywordEach kws X.env)).any (·.1.isNone)) = true := by rfl) :
    WE X (.Call (.Name x p) (e :: es) kws pos) σ H Q := by
  obtain ⟨f, hm, M, F⟩ := f
  intro pins s I
  refine wpAny_Call_Name_kw (ld_glob I gn.gl hm ?_ gn.d1)
  refine callWith_starred (P := fun h => X.K.In h) hst (PySem.W.keeps_K M.kp) (evalArgs_kw2 hall (thn (h pos pins s I) fun us s1 z => ?_) he)
  obtain ⟨vs, H1, I1, r, q⟩ := z
  refine thn (q pos pins s1 I1) fun ws s2 z => ?_
  obtain ⟨zs, H2, I2, rz, l2, q⟩ := z
  refine ⟨I2.kIn, ?_⟩
  rw [hks]
  exact smake_at M F (B.room.mono hj) (B.at σ) I2 r rz l2 q
end
end Rs

/-! fractions of drawn numbers -/
namespace Mt
theorem dv_le {a b c d : Int} (hb : 0 < b) (hd : 0 < d) : Rat.divInt a b ≤ Rat.divInt c d ↔ a * d ≤ c * b := by
  obtain ⟨m, rfl⟩ := Int.eq_ofNat_of_zero_le (Int.le_of_lt hb)
  obtain ⟨n, rfl⟩ := Int.eq_ofNat_of_zero_le (Int.le_of_lt hd)
  have e1 : Rat.divInt a m = sc (m * n) (a * n) := by
    unfold sc
    rw [Int.natCast_mul, Rat.divInt_mul_right (by omega)]
  have e2 : Rat.divInt c n = sc (m * n) (c * m) := by
    unfold sc
    rw [Int.natCast_mul, Int.mul_comm (m : Int) (n : Int), Rat.divInt_mul_right (by omega)]
  have hn : m * n ≠ 0 := by
    have h1 : 0 < m := by omega
    have h2 : 0 < n := by omega
    exact Nat.ne_of_gt (Nat.mul_pos h1 h2)
  rw [e1, e2, ← Rat.not_lt, sc_lt hn, Int.not_lt]
theorem dv_lt {a b c d : Int} (hb : 0 < b) (hd : 0 < d) : Rat.divInt a b < Rat.divInt c d ↔ a * d < c * b := by
  rw [← Rat.not_le, dv_le hd hb, Int.not_le]
theorem dv_one {d : Int} (h : d ≠ 0) : Rat.divInt d d = 1 := Rat.divInt_self' h
theorem dv_pos {a b : Int} (hb : 0 < b) : 0 < Rat.divInt a b ↔ 0 < a := by
  have h := dv_lt (a := 0) (b := 1) (c := a) (d := b) (by decide) hb
  rw [Rat.zero_divInt, Int.zero_mul, Int.mul_one] at h
  exact h
theorem dv_nn {a b : Int} (hb : 0 < b) : 0 ≤ Rat.divInt a b ↔ 0 ≤ a := by
  have h := dv_le (a := 0) (b := 1) (c := a) (d := b) (by decide) hb
  rw [Rat.zero_divInt, Int.zero_mul, Int.mul_one] at h
  exact h
theorem dv_le1 {a b : Int} (hb : 0 < b) : Rat.divInt a b ≤ 1 ↔ a ≤ b := by
  have h := dv_le (a := a) (b := b) (c := 1) (d := 1) hb (by decide)
  rw [dv_one (by decide), Int.mul_one, Int.one_mul] at h
  exact h
theorem dv_ge1 {a b : Int} (hb : 0 < b) : 1 ≤ Rat.divInt a b ↔ b ≤ a := by
  have h := dv_le (a := 1) (b := 1) (c := a) (d := b) (by decide) hb
  rw [dv_one (by decide), Int.mul_one, Int.one_mul] at h
  exact h
end Mt

/-! rounds of small delays: where they stop, what they tell; over a bottom -/
namespace Mt
section
variable {W U : Int} {d : Bool} {ds : List (Option Int)}
/-- at most four delays, none above 32 units, the last one not lost -/
structure DSm (U : Int) (ds : List (Option Int)) : Prop where
  n0 : 0 < ds.length
  n4 : ds.length ≤ 4
  all : ∀ (j : Nat) (x : Int), (ds[j]?).getD none = some x → 1 ≤ x ∧ x ≤ 32 * U
  last : ∃ x, (ds[ds.length - 1]?).getD none = some x
theorem DSm.dl (h : DSm U ds) {k : Nat} {x : Int} (e : dlk ds k = some x) : 1 ≤ x ∧ x ≤ 32 * U := by
  unfold dlk at e
  split at e <;> exact h.all _ _ e
/-- an answer is one of a sending -/
theorem ans_of : ∀ (k : Nat) (a : Int), (rsk 0 W d ds k).ans = some a → ∃ j y, j < k ∧ dlk ds j = some y ∧ a = stk 0 W d j + y ∧ (rsk 0 W d ds k).dly = some y
  | 0, a, h => nomatch h
  | k + 1, a, h => by
    have ih := ans_of k
    unfold rsk at h ⊢
    generalize rsk 0 W d ds k = r at h ih ⊢
    obtain ⟨nd, an, ans, dly⟩ := r
    cases eo : dlk ds k with
    | none =>
      rw [eo] at h
      obtain ⟨j, y, hj, h1, h2, h3⟩ := ih a h
      exact ⟨j, y, by omega, h1, h2, h3⟩
    | some x =>
      rw [eo] at h
      cases ans with
      | none =>
        cases h
        exact ⟨k, x, by omega, eo, rfl, rfl⟩
      | some b =>
        have h' : (if stk 0 W d k + x < b then (⟨nd + 1, k, some (stk 0 W d k + x), some x⟩ : RS Int) else ⟨nd + 1, an, some b, dly⟩).ans = some a := h
        show ∃ j y, j < k + 1 ∧ dlk ds j = some y ∧ a = stk 0 W d j + y ∧ (if stk 0 W d k + x < b then (⟨nd + 1, k, some (stk 0 W d k + x), some x⟩ : RS Int) else ⟨nd + 1, an, some b, dly⟩).dly = some y
        by_cases c : stk 0 W d k + x < b
        · rw [if_pos c] at h' ⊢
          cases h'
          exact ⟨k, x, by omega, eo, rfl, rfl⟩
        · rw [if_neg c] at h' ⊢
          obtain ⟨j, y, hj, h1, h2, h3⟩ := ih a h'
          exact ⟨j, y, by omega, h1, h2, h3⟩
/-- an answer is behind the last sending -/
theorem ans_gt (h : DSm U ds) {k : Nat} {a : Int} (g : Gng 0 W d ds k) (e : (rsk 0 W d ds (k + 1)).ans = some a) : stk 0 W d k < a := by
  unfold Gng at g
  unfold rsk at e
  generalize rsk 0 W d ds k = r at g e
  obtain ⟨nd, an, ans, dly⟩ := r
  cases eo : dlk ds k with
  | none =>
    rw [eo] at e
    cases ans with
    | none => cases e
    | some b => cases e; exact g
  | some x =>
    have hx := h.dl eo
    rw [eo] at e
    cases ans with
    | none => cases e; omega
    | some b =>
      have e' : (if stk 0 W d k + x < b then (⟨nd + 1, k, some (stk 0 W d k + x), some x⟩ : RS Int) else ⟨nd + 1, an, some b, dly⟩).ans = some a := e
      have g' : stk 0 W d k < b := g
      by_cases c : stk 0 W d k + x < b
      · rw [if_pos c] at e'
        cases e'
        omega
      · rw [if_neg c] at e'
        cases e'
        exact g'
/-- a round that is over -/
structure Over (W U : Int) (d : Bool) (ds : List (Option Int)) (N : Nat) (a y : Int) : Prop where
  n0 : 0 < N
  nm : N ≤ 36
  st : ¬ Gng 0 W d ds N
  go : ∀ j, j < N → Gng 0 W d ds j
  ans : (rsk 0 W d ds N).ans = some a
  dly : (rsk 0 W d ds N).dly = some y
  a0 : stk 0 W d (N - 1) < a
  a1 : a ≤ 8 * W + 32 * U
  y0 : 1 ≤ y
  y1 : y ≤ 32 * U
theorem over_of (d : Bool) (hU : 1 ≤ U) (hW : U ≤ W) (h : DSm U ds) : ∃ N a y, Over W U d ds N a y := by
  obtain ⟨x, ex⟩ := h.last
  obtain ⟨n, en⟩ : ∃ n, ds.length = n + 1 := ⟨ds.length - 1, by have := h.n0; omega⟩
  have n4 := h.n4
  have ed : dlk ds n = some x := by
    unfold dlk
    rw [if_pos (by omega)]
    rw [en] at ex
    exact ex
  have hx := h.dl ed
  have b0 : Below (rsk 0 W d ds (n + 1)) (stk 0 W d n + x) := by
    show Below (rstep _ n _ (dlk ds n)) _
    rw [ed]
    exact below_new
  have bk : ∀ j, Below (rsk 0 W d ds (n + 1 + j)) (stk 0 W d n + x) := fun j => by
    induction j with
    | zero => exact b0
    | succ j ih => exact below_step ih
  have far := stk_far (W := W) (d := d) (by omega) n 32
  have st : ¬ Gng 0 W d ds (n + 32) := by
    obtain ⟨a, ea, la⟩ := bk 31
    rw [show n + 1 + 31 = n + 32 by omega] at ea
    unfold Gng
    rw [ea]
    show ¬ stk 0 W d (n + 32) < a
    omega
  obtain ⟨N, h1, h2, h3⟩ := least (P := fun k => ¬ Gng 0 W d ds k) (n + 32) st
  have go : ∀ j, j < N → Gng 0 W d ds j := fun j hj => Classical.byContradiction (h3 j hj)
  have n0 : 0 < N := by
    rcases Nat.eq_zero_or_pos N with e | e
    · subst e
      exact absurd trivial h2
    · exact e
  obtain ⟨a, ea⟩ : ∃ a, (rsk 0 W d ds N).ans = some a := by
    unfold Gng at h2
    cases q : (rsk 0 W d ds N).ans with
    | none => rw [q] at h2; exact absurd trivial h2
    | some a => exact ⟨a, rfl⟩
  obtain ⟨j, y, hj, e1, e2, e3⟩ := ans_of N a ea
  have hy := h.dl e1
  have s3 : ∀ k, k ≤ 3 → stk 0 W d k ≤ 8 * W := fun k hk => by
    have g := stk_le (W := W) (d := d) (by omega) k
    have p : (2 : Int) ^ k ≤ 8 := by
      have h := Int.ofNat_le.mpr (Nat.pow_le_pow_right (n := 2) (by decide) hk)
      rw [Int.natCast_pow] at h
      exact h
    have := Int.mul_le_mul_of_nonneg_left p (show 0 ≤ W by omega)
    omega
  have a1 : a ≤ 8 * W + 32 * U := by
    by_cases c : N ≤ n + 1
    · have := s3 j (by omega)
      omega
    · obtain ⟨b, eb, lb⟩ := bk (N - (n + 1))
      rw [show n + 1 + (N - (n + 1)) = N by omega, ea] at eb
      cases eb
      have := s3 n (by omega)
      omega
  obtain ⟨m, rfl⟩ : ∃ m, N = m + 1 := ⟨N - 1, by omega⟩
  exact ⟨m + 1, a, y, n0, by omega, h2, go, ea, e3, ans_gt h (go m (by omega)) ea, a1, hy.1, hy.2⟩
end
theorem sc_sub {L : Nat} (h : L ≠ 0) (a b : Int) : sc L (a - b) = sc L a - sc L b := by
  have e := sc_add h (a - b) b
  rw [show a - b + b = a by omega] at e
  rw [e]
  grind
theorem sc_up {L k : Nat} (hk : k ≠ 0) (i : Int) : sc (L * k) (i * k) = sc L i := by
  unfold sc
  rw [Int.natCast_mul, Rat.divInt_mul_right (by omega)]
theorem sc_le {L : Nat} (h : L ≠ 0) (a b : Int) : sc L a ≤ sc L b ↔ a ≤ b := by
  rw [← Rat.not_lt, sc_lt h, Int.not_lt]
theorem sc_mul {L m : Nat} (i j : Int) : sc L i * sc m j = sc (L * m) (i * j) := by
  unfold sc
  rw [Rat.divInt_mul_divInt, Int.natCast_mul]
theorem sc_inj {L : Nat} (h : L ≠ 0) {a b : Int} (e : sc L a = sc L b) : a = b := by
  have h1 : ¬ a < b := fun q => by
    have := (sc_lt h a b).mpr q
    rw [e] at this
    exact Rat.lt_irrefl this
  have h2 : ¬ b < a := fun q => by
    have := (sc_lt h b a).mpr q
    rw [e] at this
    exact Rat.lt_irrefl this
  omega
end Mt

namespace Rs
open PySem PySem.Spec PyProof.Rows L2 He
/-! ### a, b, c, d = e; t[:n]; (.., *t, ..) -/
section
variable {X : Cx} {k : Nat} {E : L2.St → XK} {σ : L2.St} {H : Hp} {D : Ends} {Q : VK} {a b e : Expr} {es : List Expr} {pos p2 : Pos}
theorem ws_unp4 {i0 i1 i2 i3 : Nat} {x0 x1 x2 x3 : Str} {q0 q1 q2 q3 pt : Pos} {kt : Nat} (B : Body X k E) (n0 : Sl X i0 x0) (n1 : Sl X i1 x1) (n2 : Sl X i2 x2) (n3 : Sl X i3 x3)
    (h : WE X e σ H fun v H1 => ∃ p v0 v1 v2 v3, v = .ref p ∧ SqT X.K H1 p [v0, v1, v2, v3] ∧ D.nx ((((σ.set i0 (some v0)).set i1 (some v1)).set i2 (some v2)).set i3 (some v3)) H1)
    (hs : swapsWithSole [.Tuple [.Name x0 q0, .Name x1 q1, .Name x2 q2, .Name x3 q3] kt pt] e pos.line X.env = pure false := by rfl) (hw : swappedStores [.Tuple [.Name x0 q0, .Name x1 q1, .Name x2 q2, .Name x3 q3] kt pt] e X.env = pure none := by rfl)
    (hn : (assignEach [Expr.Name x0 q0, .Name x1 q1, .Name x2 q2, .Name x3 q3] X.env).length = 4 := by rfl) (hst : (assignEach [Expr.Name x0 q0, .Name x1 q1, .Name x2 q2, .Name x3 q3] X.env).findIdx? (·.1) = none := by rfl)
    (h3 : (assignEach [Expr.Tuple [.Name x0 q0, .Name x1 q1, .Name x2 q2, .Name x3 q3] kt pt] X.env).map (·.2) = [assign (.Tuple [.Name x0 q0, .Name x1 q1, .Name x2 q2, .Name x3 q3] kt pt) X.env] := by rfl) :
    WS X (.Assign [.Tuple [.Name x0 q0, .Name x1 q1, .Name x2 q2, .Name x3 q3] kt pt] e pos) D σ H := by
  refine wsP (ps_asg peS (pg_tup B.calm (pgs_cons (pg_name n0.nd n0.at_ n0.loc n0.fn) (pgs_cons (pg_name n1.nd n1.at_ n1.loc n1.fn) (pgs_cons (pg_name n2.nd n2.at_ n2.loc n2.fn) (pgs_cons (pg_name n3.nd n3.at_ n3.loc n3.fn) pgs_nil)))) hn hst) hs hw h3) ?_
  refine we_mono h fun v H1 q => ?_
  obtain ⟨p, v0, v1, v2, v3, rfl, hq, z⟩ := q
  exact ⟨p, _, rfl, hq, rfl, v0, _, rfl, v1, _, rfl, v2, _, rfl, v3, _, rfl, rfl, z⟩
/-- a[:b] of a tuple -/
theorem we_cutT (h : WE X a σ H fun v H1 => WE X b σ H1 fun w H2 => ∃ p xs i, v = .ref p ∧ w = .int i ∧ H2 p = some (.tup xs) ∧ ∀ l H3, Ex H2 H3 → H3 l = some (.tup (cutV xs none (some i))) → Q (.ref l) H3) : WE X (.Subscript a (.Slice none (some b) none p2) pos) σ H Q :=
  weP (pe_slice sl_tupA peS po_none (po_some peS)) (we_mono h fun v H1 z => we_mono z fun w H2 z => by
    obtain ⟨p, xs, i, rfl, rfl, h1, z⟩ := z
    refine ⟨i, rfl, p, xs, rfl, .of h1, fun hw => z p H2 (.refl _) ?_, fun _ l nl => z l _ (Ex.new nl) upd_same⟩
    have e : cutV xs none (some i) = xs := by
      unfold cutV
      rw [hw.1, hw.2, Nat.sub_zero, List.drop_zero, List.take_length]
    rw [e]
    exact h1)
theorem cut_m1 (xs : List V) : cutV xs none (some (-1)) = xs.take (xs.length - 1) := by
  unfold cutV
  rw [HT.sIx_none, Nat.sub_zero, List.drop_zero]
  congr 1
  show (if (-1 : Int) < 0 then ((-1 : Int) + (xs.length : Int)).toNat else min (-1 : Int).toNat xs.length) = _
  rw [if_pos (by decide)]
  omega
/-- {} -/
theorem we_dict0 (h : ∀ p, H p = none → Q (.ref p) (upd H p (.dK []))) : WE X (.Dict [] [] pos) σ H Q := weP pe_dnewK h
/-- y = [e for x in t], t a tuple -/
theorem ws_setLcT {i n : Nat} {x y : Str} {scope : Scope} {elt iter : Expr} {px py spos : Pos} (B : Body X k E) (m : Sl X n y) (hy : X.env.scope.names.lookup y = some .local) (hk : X.env.scope.kind = .function) (hi : X.N[i]? = some x) (hx : scope.names.lookup x = some .local) (ok : BlkOk X.N X.env.scope scope [(x, i)])
    (h : WE X iter σ H fun v H1 => ∃ a xs, v = .ref a ∧ SqT X.K H1 a xs ∧ LcG X scope elt i (SqT X.K) σ a xs (fun v H' => D.nx (σ.set n (some v)) H') H1) (hl : (py.line == spos.line) = true := by rfl)
    (ha : (scope.names.any fun (n, k) => n == y && (k == .local || k == .cell)) = false := by decide +kernel) (he : pos.line = spos.line := by rfl) (hs : ∀ v, foldedSetIterable iter X.env v = pure v := by intro _; rfl) :
    WS X (.Assign [.Name y py] (.ListComp elt [⟨.Name x px, iter, [], 0⟩] scope pos) spos) D σ H :=
  wsP (ps_setLc (own := [(x, i)]) (g := gName i) (tt := tYes) B.calm m.nd m.at_ hy (sw_true hk hy (by rw [he]; exact hl) ha) (pi_tup peS) ok (fun _ _ _ _ _ => pg_name m.nd hi (.inl (lookup_relS_keep (by decide) hx)) (.inr (lookup_relS_keep (by decide) hx))) (fun _ _ _ _ _ => pts_nil) peB hs) (lc_byT h)
end
/-! ### len(x) of an own class -/
structure LenOwn (K : PySem.W.Frag) (C f : Addr) : Prop where
  at_ : PySem.W.findIn K (.ref C) "__len__" = some (some (.ref f))
  fn : PySem.W.isFn K (.ref f) = true
def lenOwnB (K : PySem.W.Frag) (C f : Addr) : Bool := decide (PySem.W.findIn K (.ref C) "__len__" = some (some (.ref f))) && PySem.W.isFn K (.ref f)
theorem lenOwn_ok {K : PySem.W.Frag} {C f : Addr} (h : lenOwnB K C f = true) : LenOwn K C f := by
  obtain ⟨h1, h2⟩ := ba h
  exact ⟨of_decide_eq_true h1, h2⟩
theorem we_lenO {X : Cx} {σ : L2.St} {H : Hp} {Q : VK} {k j : Nat} {E : XK} {C f : Addr} {sp : Sp} {a : Expr} {p pos : Pos} (bn : Bn X "len") (B : Body X k fun _ => E) (c : LenOwn X.K C f) (F : FnR X.prog X.w X.K X.mg X.base (RX X.prog X.w) j f sp) (hj : j + 1 ≤ k)
    (h : WE X a σ H fun v H1 => ∃ x dx fs, v = .ref x ∧ H1 x = some (.ins C dx fs) ∧ sp [.ref x] H1 (fun v H' => ∃ n : Nat, v = .int n ∧ n < 2 ^ 62 ∧ Q (.int n) H') E) (hs : starEach [a] X.env = [(false, eval a X.env)] := by rfl) (hl : (backTo pos (starEach [] X.env)).any (·.1) = false := by rfl) :
    WE X (.Call (.Name "len" p) [a] [] pos) σ H Q := by
  have hc : CallR X (.builtin "len") fun xs H Q => ∃ x dx fs, xs = [.ref x] ∧ H x = some (.ins C dx fs) ∧ sp [.ref x] H (fun v H' => ∃ n : Nat, v = .int n ∧ n < 2 ^ 62 ∧ Q (.int n) H') E := by
    intro pins s σ H xs us Q I r q
    obtain ⟨x, dx, fs, rfl, ea, q⟩ := q
    obtain ⟨u, rfl, ru⟩ := vals1 r
    cases ru
    obtain ⟨od, J⟩ := inst_of I ea
    obtain ⟨m, hF⟩ := I.fr
    refine PySem.W.len_K hF I.ok.mod.kin J c.at_ c.fn (wpAny_mono (wpAny_call (SlX.run_at (us := [.ref x]) (ws := [.ref x]) F (B.room.mono hj).in1 I.env0.in1 B.pass I (.cons rfl .nil) q)) (fun u s' z => ?_) fun _ _ z => z)
    obtain ⟨v, H', I', r', n, rfl, hn, q'⟩ := z
    obtain ⟨t, rfl⟩ := r'
    refine ⟨⟨by omega, by omega⟩, ?_⟩
    exact ⟨.int n, H', I'.tok _, ⟨_, rfl⟩, q'⟩
  exact we_callB hc bn boot_len (wa_one (we_mono h fun v H1 q => by
    obtain ⟨x, dx, fs, rfl, q⟩ := q
    exact ⟨x, dx, fs, rfl, q⟩) hs) (by decide) (by decide) hs hl
end Rs


namespace Rt
open PySem PySem.Spec PyProof.Rows L2 He Rs Mt
/-- what the top has written -/
structure Tm (K : PySem.W.Frag) (mg : Str → Option Value) : Prop where
  xc_ResendError : ExcC K (ga K "ResendError")
  xc_NoTime : ExcC K (ga K "NoTime")
  x_NoTime : ExcPlain K (ga K "NoTime")
  xc_NoText : ExcC K (ga K "NoText")
  xc_BadBook : ExcC K (ga K "BadBook")
  xc_NoCount : ExcC K (ga K "NoCount")
  x_NoCount : ExcPlain K (ga K "NoCount")
  xc_TooMany : ExcC K (ga K "TooMany")
  xc_NotFor : ExcC K (ga K "NotFor")
  c_Time : IsC K (ga K "Time")
  k_Time : KitC K (ga K "Time")
  m_Time : Mk K (ga K "Time") (ma K (ga K "Time") "__init__")
  n_Time_over_line : NoAttr K (ga K "Time") "over_line"
  n_Time_under_line : NoAttr K (ga K "Time") "under_line"
  sn_Time : PySem.W.subIn K (.ref (ga K "Time")) (.type "NoneType") = some false
  w_Time : NeOwn K (ga K "Time") (ma K (ga K "Time") "__eq__")
  u_Time_abs : AbsOwn K (ga K "Time") (ma K (ga K "Time") "__abs__")
  b_Time___add__ : BinOwn K (ga K "Time") (ma K (ga K "Time") "__add__") .Add
  ni_Time___add__ : NoInpl K (ga K "Time") .Add
  o_Time___eq__ : CmpOwn K (ga K "Time") (ma K (ga K "Time") "__eq__") .Eq
  q_Time___eq__ : CmpRef K (ga K "Time") (ma K (ga K "Time") "__eq__") .Eq
  b_Time___floordiv__ : BinOwn K (ga K "Time") (ma K (ga K "Time") "__floordiv__") .FloorDiv
  o_Time___ge__ : CmpOwn K (ga K "Time") (ma K (ga K "Time") "__ge__") .GtE
  q_Time___ge__ : CmpRef K (ga K "Time") (ma K (ga K "Time") "__ge__") .LtE
  o_Time___gt__ : CmpOwn K (ga K "Time") (ma K (ga K "Time") "__gt__") .Gt
  q_Time___gt__ : CmpRef K (ga K "Time") (ma K (ga K "Time") "__gt__") .Lt
  o_Time___le__ : CmpOwn K (ga K "Time") (ma K (ga K "Time") "__le__") .LtE
  q_Time___le__ : CmpRef K (ga K "Time") (ma K (ga K "Time") "__le__") .GtE
  o_Time___lt__ : CmpOwn K (ga K "Time") (ma K (ga K "Time") "__lt__") .Lt
  q_Time___lt__ : CmpRef K (ga K "Time") (ma K (ga K "Time") "__lt__") .Gt
  b_Time___mul__ : BinOwn K (ga K "Time") (ma K (ga K "Time") "__mul__") .Mult
  ni_Time___mul__ : NoInpl K (ga K "Time") .Mult
  u_Time_neg : NegOwn K (ga K "Time") (ma K (ga K "Time") "__neg__")
  b_Time___pow__ : BinOwn K (ga K "Time") (ma K (ga K "Time") "__pow__") .Pow
  r_Time___radd__ : BinRef K (ga K "Time") (ma K (ga K "Time") "__radd__") .Add
  r_Time___rfloordiv__ : BinRef K (ga K "Time") (ma K (ga K "Time") "__rfloordiv__") .FloorDiv
  r_Time___rmul__ : BinRef K (ga K "Time") (ma K (ga K "Time") "__rmul__") .Mult
  r_Time___rsub__ : BinRef K (ga K "Time") (ma K (ga K "Time") "__rsub__") .Sub
  b_Time___sub__ : BinOwn K (ga K "Time") (ma K (ga K "Time") "__sub__") .Sub
  ni_Time___sub__ : NoInpl K (ga K "Time") .Sub
  p_Time_bottom : PropOf K (ga K "Time") "bottom" (ma K (ga K "Time") "bottom") (pgA K (ga K "Time") "bottom")
  e_Time_over : Meth K (ga K "Time") "over" (ma K (ga K "Time") "over")
  e_Time_power : Meth K (ga K "Time") "power" (ma K (ga K "Time") "power")
  p_Time_top : PropOf K (ga K "Time") "top" (ma K (ga K "Time") "top") (pgA K (ga K "Time") "top")
  c_Book : IsC K (ga K "Book")
  k_Book : KitC K (ga K "Book")
  m_Book : Mk K (ga K "Book") (ma K (ga K "Book") "__init__")
  n_Book_rules : NoAttr K (ga K "Book") "rules"
  sn_Book : PySem.W.subIn K (.ref (ga K "Book")) (.type "NoneType") = some false
  w_Book : NeOwn K (ga K "Book") (ma K (ga K "Book") "__eq__")
  p_Book_doubled : PropOf K (ga K "Book") "doubled" (ma K (ga K "Book") "doubled") (pgA K (ga K "Book") "doubled")
  p_Book_factor : PropOf K (ga K "Book") "factor" (ma K (ga K "Book") "factor") (pgA K (ga K "Book") "factor")
  p_Book_floor : PropOf K (ga K "Book") "floor" (ma K (ga K "Book") "floor") (pgA K (ga K "Book") "floor")
  p_Book_kept : PropOf K (ga K "Book") "kept" (ma K (ga K "Book") "kept") (pgA K (ga K "Book") "kept")
  p_Book_latest : PropOf K (ga K "Book") "latest" (ma K (ga K "Book") "latest") (pgA K (ga K "Book") "latest")
  p_Book_margin : PropOf K (ga K "Book") "margin" (ma K (ga K "Book") "margin") (pgA K (ga K "Book") "margin")
  e_Book_put_part : Meth K (ga K "Book") "put_part" (ma K (ga K "Book") "put_part")
  p_Book_roof : PropOf K (ga K "Book") "roof" (ma K (ga K "Book") "roof") (pgA K (ga K "Book") "roof")
  p_Book_sample : PropOf K (ga K "Book") "sample" (ma K (ga K "Book") "sample") (pgA K (ga K "Book") "sample")
  p_Book_share : PropOf K (ga K "Book") "share" (ma K (ga K "Book") "share") (pgA K (ga K "Book") "share")
  e_Book_wait_for : Meth K (ga K "Book") "wait_for" (ma K (ga K "Book") "wait_for")
  i_MOST_FIGURES : ∃ t, mg "MOST_FIGURES" = some (.int 60 t)
  i_FIGURES : ∃ t, mg "FIGURES" = some (.str "0123456789" t)
  g_is_integer : mg "is_integer" = some (.ref (ga K "is_integer"))
  g_NoTime : mg "NoTime" = some (.ref (ga K "NoTime"))
  g_common : mg "common" = some (.ref (ga K "common"))
  g_is_time : mg "is_time" = some (.ref (ga K "is_time"))
  g_time_of : mg "time_of" = some (.ref (ga K "time_of"))
  g_Time : mg "Time" = some (.ref (ga K "Time"))
  i_MOST_POWER : ∃ t, mg "MOST_POWER" = some (.int 10000 t)
  g_raised : mg "raised" = some (.ref (ga K "raised"))
  g_NoText : mg "NoText" = some (.ref (ga K "NoText"))
  g_read_count : mg "read_count" = some (.ref (ga K "read_count"))
  g_merged : mg "merged" = some (.ref (ga K "merged"))
  i_MOST_LATEST : ∃ t, mg "MOST_LATEST" = some (.int 20 t)
  g_is_positive : mg "is_positive" = some (.ref (ga K "is_positive"))
  g_SAMPLES : mg "SAMPLES" = some (.ref (ga K "SAMPLES"))
  kt_SAMPLES : KTup K (ga K "SAMPLES") ["first", "last", "marked", "clean"]
  g_is_latest : mg "is_latest" = some (.ref (ga K "is_latest"))
  g_is_roof : mg "is_roof" = some (.ref (ga K "is_roof"))
  g_PARTS : mg "PARTS" = some (.ref (ga K "PARTS"))
  kt_PARTS : KTup K (ga K "PARTS") ["sample", "share", "latest", "factor", "margin", "floor", "roof", "doubled", "kept"]
  g_is_allowed : mg "is_allowed" = some (.ref (ga K "is_allowed"))
  g_BadBook : mg "BadBook" = some (.ref (ga K "BadBook"))
  g_greater : mg "greater" = some (.ref (ga K "greater"))
  g_lesser : mg "lesser" = some (.ref (ga K "lesser"))
  g_checked : mg "checked" = some (.ref (ga K "checked"))
  g_word_of : mg "word_of" = some (.ref (ga K "word_of"))
  g_made_of : mg "made_of" = some (.ref (ga K "made_of"))
  g_Book : mg "Book" = some (.ref (ga K "Book"))
  g_bends : mg "bends" = some (.ref (ga K "bends"))
  g_last_rise : mg "last_rise" = some (.ref (ga K "last_rise"))
  g_part_of : mg "part_of" = some (.ref (ga K "part_of"))
  g_NotFor : mg "NotFor" = some (.ref (ga K "NotFor"))
  g_check_times : mg "check_times" = some (.ref (ga K "check_times"))
  i_MOST_ROUNDS : ∃ t, mg "MOST_ROUNDS" = some (.int 12 t)
  g_NoCount : mg "NoCount" = some (.ref (ga K "NoCount"))
  g_check_sample : mg "check_sample" = some (.ref (ga K "check_sample"))
  g_check_smoothed : mg "check_smoothed" = some (.ref (ga K "check_smoothed"))
  g_wait_line : mg "wait_line" = some (.ref (ga K "wait_line"))
  g_bound_of : mg "bound_of" = some (.ref (ga K "bound_of"))
  i_MOST_BREAKS : ∃ t, mg "MOST_BREAKS" = some (.int 1000 t)
  g_TooMany : mg "TooMany" = some (.ref (ga K "TooMany"))
  g_waits_until : mg "waits_until" = some (.ref (ga K "waits_until"))
  g_ordered : mg "ordered" = some (.ref (ga K "ordered"))
  g_check_book : mg "check_book" = some (.ref (ga K "check_book"))
  g_check_breaks : mg "check_breaks" = some (.ref (ga K "check_breaks"))
  g_bounds_below : mg "bounds_below" = some (.ref (ga K "bounds_below"))
  g__law_draw : mg "_law_draw" = some (.ref (ga K "_law_draw"))
  g__law_share : mg "_law_share" = some (.ref (ga K "_law_share"))
  g__law_factor : mg "_law_factor" = some (.ref (ga K "_law_factor"))
  g__law_roof : mg "_law_roof" = some (.ref (ga K "_law_roof"))
  g__law_pair : mg "_law_pair" = some (.ref (ga K "_law_pair"))
  g_breaks : mg "breaks" = some (.ref (ga K "breaks"))
  g__law_book : mg "_law_book" = some (.ref (ga K "_law_book"))
  g__law_scaled : mg "_law_scaled" = some (.ref (ga K "_law_scaled"))
  g__law_begin : mg "_law_begin" = some (.ref (ga K "_law_begin"))
  g__law_rules : mg "_law_rules" = some (.ref (ga K "_law_rules"))
  g__law_marks : mg "_law_marks" = some (.ref (ga K "_law_marks"))
  g__law_less_by : mg "_law_less_by" = some (.ref (ga K "_law_less_by"))
  g__law_in_unit : mg "_law_in_unit" = some (.ref (ga K "_law_in_unit"))
  g_law : mg "law" = some (.ref (ga K "law"))
  z_isinstance : mg "isinstance" = none
  z_int : mg "int" = none
  z_bool : mg "bool" = none
  z_abs : mg "abs" = none
  z_len : mg "len" = none
  z_str : mg "str" = none
  z_NotImplemented : mg "NotImplemented" = none
  z_range : mg "range" = none
  z_dict : mg "dict" = none
  z_all : mg "all" = none
  z_zip : mg "zip" = none
  z_list : mg "list" = none
  d_is_integer : ∃ fd, FunD K "is_integer" "is_integer" (defArgs s_is_integer) (defBody s_is_integer) (defScope s_is_integer) [] [] (ga K "is_integer") fd
  d_common : ∃ fd, FunD K "common" "common" (defArgs s_common) (defBody s_common) (defScope s_common) [] [] (ga K "common") fd
  d_Time___init__ : ∃ fd, FunD K "__init__" "Time.__init__" (defArgs s_Time___init__) (defBody s_Time___init__) (defScope s_Time___init__) [.int 1] [] (ma K (ga K "Time") "__init__") fd
  d_Time_top : ∃ fd, FunD K "top" "Time.top" (defArgs s_Time_top) (defBody s_Time_top) (defScope s_Time_top) [] [] (pgA K (ga K "Time") "top") fd
  d_Time_bottom : ∃ fd, FunD K "bottom" "Time.bottom" (defArgs s_Time_bottom) (defBody s_Time_bottom) (defScope s_Time_bottom) [] [] (pgA K (ga K "Time") "bottom") fd
  d_Time___add__ : ∃ fd, FunD K "__add__" "Time.__add__" (defArgs s_Time___add__) (defBody s_Time___add__) (defScope s_Time___add__) [] [] (ma K (ga K "Time") "__add__") fd
  d_Time___radd__ : ∃ fd, FunD K "__radd__" "Time.__radd__" (defArgs s_Time___radd__) (defBody s_Time___radd__) (defScope s_Time___radd__) [] [] (ma K (ga K "Time") "__radd__") fd
  d_Time___sub__ : ∃ fd, FunD K "__sub__" "Time.__sub__" (defArgs s_Time___sub__) (defBody s_Time___sub__) (defScope s_Time___sub__) [] [] (ma K (ga K "Time") "__sub__") fd
  d_Time___rsub__ : ∃ fd, FunD K "__rsub__" "Time.__rsub__" (defArgs s_Time___rsub__) (defBody s_Time___rsub__) (defScope s_Time___rsub__) [] [] (ma K (ga K "Time") "__rsub__") fd
  d_Time___mul__ : ∃ fd, FunD K "__mul__" "Time.__mul__" (defArgs s_Time___mul__) (defBody s_Time___mul__) (defScope s_Time___mul__) [] [] (ma K (ga K "Time") "__mul__") fd
  d_Time___rmul__ : ∃ fd, FunD K "__rmul__" "Time.__rmul__" (defArgs s_Time___rmul__) (defBody s_Time___rmul__) (defScope s_Time___rmul__) [] [] (ma K (ga K "Time") "__rmul__") fd
  d_Time___neg__ : ∃ fd, FunD K "__neg__" "Time.__neg__" (defArgs s_Time___neg__) (defBody s_Time___neg__) (defScope s_Time___neg__) [] [] (ma K (ga K "Time") "__neg__") fd
  d_Time___abs__ : ∃ fd, FunD K "__abs__" "Time.__abs__" (defArgs s_Time___abs__) (defBody s_Time___abs__) (defScope s_Time___abs__) [] [] (ma K (ga K "Time") "__abs__") fd
  d_Time___eq__ : ∃ fd, FunD K "__eq__" "Time.__eq__" (defArgs s_Time___eq__) (defBody s_Time___eq__) (defScope s_Time___eq__) [] [] (ma K (ga K "Time") "__eq__") fd
  d_Time___lt__ : ∃ fd, FunD K "__lt__" "Time.__lt__" (defArgs s_Time___lt__) (defBody s_Time___lt__) (defScope s_Time___lt__) [] [] (ma K (ga K "Time") "__lt__") fd
  d_Time___le__ : ∃ fd, FunD K "__le__" "Time.__le__" (defArgs s_Time___le__) (defBody s_Time___le__) (defScope s_Time___le__) [] [] (ma K (ga K "Time") "__le__") fd
  d_Time___gt__ : ∃ fd, FunD K "__gt__" "Time.__gt__" (defArgs s_Time___gt__) (defBody s_Time___gt__) (defScope s_Time___gt__) [] [] (ma K (ga K "Time") "__gt__") fd
  d_Time___ge__ : ∃ fd, FunD K "__ge__" "Time.__ge__" (defArgs s_Time___ge__) (defBody s_Time___ge__) (defScope s_Time___ge__) [] [] (ma K (ga K "Time") "__ge__") fd
  d_raised : ∃ fd, FunD K "raised" "raised" (defArgs s_raised) (defBody s_raised) (defScope s_raised) [] [] (ga K "raised") fd
  d_Time_power : ∃ fd, FunD K "power" "Time.power" (defArgs s_Time_power) (defBody s_Time_power) (defScope s_Time_power) [] [] (ma K (ga K "Time") "power") fd
  d_Time_over : ∃ fd, FunD K "over" "Time.over" (defArgs s_Time_over) (defBody s_Time_over) (defScope s_Time_over) [] [] (ma K (ga K "Time") "over") fd
  d_is_time : ∃ fd, FunD K "is_time" "is_time" (defArgs s_is_time) (defBody s_is_time) (defScope s_is_time) [] [] (ga K "is_time") fd
  d_time_of : ∃ fd, FunD K "time_of" "time_of" (defArgs s_time_of) (defBody s_time_of) (defScope s_time_of) [] [] (ga K "time_of") fd
  d_lesser : ∃ fd, FunD K "lesser" "lesser" (defArgs s_lesser) (defBody s_lesser) (defScope s_lesser) [] [] (ga K "lesser") fd
  d_greater : ∃ fd, FunD K "greater" "greater" (defArgs s_greater) (defBody s_greater) (defScope s_greater) [] [] (ga K "greater") fd
  d_merged : ∃ fd, FunD K "merged" "merged" (defArgs s_merged) (defBody s_merged) (defScope s_merged) [] [] (ga K "merged") fd
  d_ordered : ∃ fd, FunD K "ordered" "ordered" (defArgs s_ordered) (defBody s_ordered) (defScope s_ordered) [] [] (ga K "ordered") fd
  d_is_positive : ∃ fd, FunD K "is_positive" "is_positive" (defArgs s_is_positive) (defBody s_is_positive) (defScope s_is_positive) [] [] (ga K "is_positive") fd
  d_is_latest : ∃ fd, FunD K "is_latest" "is_latest" (defArgs s_is_latest) (defBody s_is_latest) (defScope s_is_latest) [] [] (ga K "is_latest") fd
  d_is_roof : ∃ fd, FunD K "is_roof" "is_roof" (defArgs s_is_roof) (defBody s_is_roof) (defScope s_is_roof) [] [] (ga K "is_roof") fd
  d_is_allowed : ∃ fd, FunD K "is_allowed" "is_allowed" (defArgs s_is_allowed) (defBody s_is_allowed) (defScope s_is_allowed) [] [] (ga K "is_allowed") fd
  d_checked : ∃ fd, FunD K "checked" "checked" (defArgs s_checked) (defBody s_checked) (defScope s_checked) [] [] (ga K "checked") fd
  d_made_of : ∃ fd, FunD K "made_of" "made_of" (defArgs s_made_of) (defBody s_made_of) (defScope s_made_of) [] [] (ga K "made_of") fd
  d_Book___init__ : ∃ fd, FunD K "__init__" "Book.__init__" (defArgs s_Book___init__) (defBody s_Book___init__) (defScope s_Book___init__) [] [("sample", .str "first"), ("share", .int 1), ("latest", .non), ("factor", .int 1), ("margin", .int 0), ("floor", .non), ("roof", .non), ("doubled", .bl false), ("kept", .bl false)] (ma K (ga K "Book") "__init__") fd
  d_Book_sample : ∃ fd, FunD K "sample" "Book.sample" (defArgs s_Book_sample) (defBody s_Book_sample) (defScope s_Book_sample) [] [] (pgA K (ga K "Book") "sample") fd
  d_Book_share : ∃ fd, FunD K "share" "Book.share" (defArgs s_Book_share) (defBody s_Book_share) (defScope s_Book_share) [] [] (pgA K (ga K "Book") "share") fd
  d_Book_latest : ∃ fd, FunD K "latest" "Book.latest" (defArgs s_Book_latest) (defBody s_Book_latest) (defScope s_Book_latest) [] [] (pgA K (ga K "Book") "latest") fd
  d_Book_factor : ∃ fd, FunD K "factor" "Book.factor" (defArgs s_Book_factor) (defBody s_Book_factor) (defScope s_Book_factor) [] [] (pgA K (ga K "Book") "factor") fd
  d_Book_margin : ∃ fd, FunD K "margin" "Book.margin" (defArgs s_Book_margin) (defBody s_Book_margin) (defScope s_Book_margin) [] [] (pgA K (ga K "Book") "margin") fd
  d_Book_floor : ∃ fd, FunD K "floor" "Book.floor" (defArgs s_Book_floor) (defBody s_Book_floor) (defScope s_Book_floor) [] [] (pgA K (ga K "Book") "floor") fd
  d_Book_roof : ∃ fd, FunD K "roof" "Book.roof" (defArgs s_Book_roof) (defBody s_Book_roof) (defScope s_Book_roof) [] [] (pgA K (ga K "Book") "roof") fd
  d_Book_doubled : ∃ fd, FunD K "doubled" "Book.doubled" (defArgs s_Book_doubled) (defBody s_Book_doubled) (defScope s_Book_doubled) [] [] (pgA K (ga K "Book") "doubled") fd
  d_Book_kept : ∃ fd, FunD K "kept" "Book.kept" (defArgs s_Book_kept) (defBody s_Book_kept) (defScope s_Book_kept) [] [] (pgA K (ga K "Book") "kept") fd
  d_Book_wait_for : ∃ fd, FunD K "wait_for" "Book.wait_for" (defArgs s_Book_wait_for) (defBody s_Book_wait_for) (defScope s_Book_wait_for) [] [] (ma K (ga K "Book") "wait_for") fd
  d_check_times : ∃ fd, FunD K "check_times" "check_times" (defArgs s_check_times) (defBody s_check_times) (defScope s_check_times) [] [] (ga K "check_times") fd
  d_waits_until : ∃ fd, FunD K "waits_until" "waits_until" (defArgs s_waits_until) (defBody s_waits_until) (defScope s_waits_until) [] [] (ga K "waits_until") fd
  d_check_sample : ∃ fd, FunD K "check_sample" "check_sample" (defArgs s_check_sample) (defBody s_check_sample) (defScope s_check_sample) [] [] (ga K "check_sample") fd
  d_check_smoothed : ∃ fd, FunD K "check_smoothed" "check_smoothed" (defArgs s_check_smoothed) (defBody s_check_smoothed) (defScope s_check_smoothed) [] [] (ga K "check_smoothed") fd
  d_wait_line : ∃ fd, FunD K "wait_line" "wait_line" (defArgs s_wait_line) (defBody s_wait_line) (defScope s_wait_line) [] [] (ga K "wait_line") fd
  d_bound_of : ∃ fd, FunD K "bound_of" "bound_of" (defArgs s_bound_of) (defBody s_bound_of) (defScope s_bound_of) [] [] (ga K "bound_of") fd
  d_check_breaks : ∃ fd, FunD K "check_breaks" "check_breaks" (defArgs s_check_breaks) (defBody s_check_breaks) (defScope s_check_breaks) [] [] (ga K "check_breaks") fd
  d_check_book : ∃ fd, FunD K "check_book" "check_book" (defArgs s_check_book) (defBody s_check_book) (defScope s_check_book) [] [] (ga K "check_book") fd
  d_bounds_below : ∃ fd, FunD K "bounds_below" "bounds_below" (defArgs s_bounds_below) (defBody s_bounds_below) (defScope s_bounds_below) [] [] (ga K "bounds_below") fd
  d_breaks : ∃ fd, FunD K "breaks" "breaks" (defArgs s_breaks) (defBody s_breaks) (defScope s_breaks) [] [] (ga K "breaks") fd
  d__law_begin : ∃ fd, FunD K "_law_begin" "_law_begin" (defArgs s__law_begin) (defBody s__law_begin) (defScope s__law_begin) [] [] (ga K "_law_begin") fd
  d__law_draw : ∃ fd, FunD K "_law_draw" "_law_draw" (defArgs s__law_draw) (defBody s__law_draw) (defScope s__law_draw) [] [] (ga K "_law_draw") fd
  d__law_share : ∃ fd, FunD K "_law_share" "_law_share" (defArgs s__law_share) (defBody s__law_share) (defScope s__law_share) [] [] (ga K "_law_share") fd
  d__law_factor : ∃ fd, FunD K "_law_factor" "_law_factor" (defArgs s__law_factor) (defBody s__law_factor) (defScope s__law_factor) [] [] (ga K "_law_factor") fd
  d__law_roof : ∃ fd, FunD K "_law_roof" "_law_roof" (defArgs s__law_roof) (defBody s__law_roof) (defScope s__law_roof) [] [] (ga K "_law_roof") fd
  d__law_rules : ∃ fd, FunD K "_law_rules" "_law_rules" (defArgs s__law_rules) (defBody s__law_rules) (defScope s__law_rules) [] [] (ga K "_law_rules") fd
  d__law_pair : ∃ fd, FunD K "_law_pair" "_law_pair" (defArgs s__law_pair) (defBody s__law_pair) (defScope s__law_pair) [] [] (ga K "_law_pair") fd
  d__law_book : ∃ fd, FunD K "_law_book" "_law_book" (defArgs s__law_book) (defBody s__law_book) (defScope s__law_book) [] [] (ga K "_law_book") fd
  d__law_less_by : ∃ fd, FunD K "_law_less_by" "_law_less_by" (defArgs s__law_less_by) (defBody s__law_less_by) (defScope s__law_less_by) [] [] (ga K "_law_less_by") fd
  d__law_marks : ∃ fd, FunD K "_law_marks" "_law_marks" (defArgs s__law_marks) (defBody s__law_marks) (defScope s__law_marks) [] [] (ga K "_law_marks") fd
  d__law_scaled : ∃ fd, FunD K "_law_scaled" "_law_scaled" (defArgs s__law_scaled) (defBody s__law_scaled) (defScope s__law_scaled) [] [] (ga K "_law_scaled") fd
  d__law_in_unit : ∃ fd, FunD K "_law_in_unit" "_law_in_unit" (defArgs s__law_in_unit) (defBody s__law_in_unit) (defScope s__law_in_unit) [] [] (ga K "_law_in_unit") fd
  d_law : ∃ fd, FunD K "law" "law" (defArgs s_law) (defBody s_law) (defScope s_law) [] [] (ga K "law") fd
theorem sc_is_integer : FnScope ["thing"] ["thing"] (defScope s_is_integer) := ⟨rfl, rfl, rfl, by decide +kernel, rfl, by decide +kernel, by decide +kernel⟩
theorem sc_common : FnScope ["one", "other"] ["one", "other"] (defScope s_common) := ⟨rfl, rfl, rfl, by decide +kernel, rfl, by decide +kernel, by decide +kernel⟩
theorem sc_Time___init__ : FnScope ["self", "top", "bottom", "part"] ["self", "top", "bottom"] (defScope s_Time___init__) := ⟨rfl, rfl, rfl, by decide +kernel, rfl, by decide +kernel, by decide +kernel⟩
theorem sc_Time_top : FnScope ["self"] ["self"] (defScope s_Time_top) := ⟨rfl, rfl, rfl, by decide +kernel, rfl, by decide +kernel, by decide +kernel⟩
theorem sc_Time_bottom : FnScope ["self"] ["self"] (defScope s_Time_bottom) := ⟨rfl, rfl, rfl, by decide +kernel, rfl, by decide +kernel, by decide +kernel⟩
theorem sc_Time___add__ : FnScope ["self", "other", "more", "top"] ["self", "other"] (defScope s_Time___add__) := ⟨rfl, rfl, rfl, by decide +kernel, rfl, by decide +kernel, by decide +kernel⟩
theorem sc_Time___radd__ : FnScope ["self", "other"] ["self", "other"] (defScope s_Time___radd__) := ⟨rfl, rfl, rfl, by decide +kernel, rfl, by decide +kernel, by decide +kernel⟩
theorem sc_Time___sub__ : FnScope ["self", "other", "less", "top"] ["self", "other"] (defScope s_Time___sub__) := ⟨rfl, rfl, rfl, by decide +kernel, rfl, by decide +kernel, by decide +kernel⟩
theorem sc_Time___rsub__ : FnScope ["self", "other"] ["self", "other"] (defScope s_Time___rsub__) := ⟨rfl, rfl, rfl, by decide +kernel, rfl, by decide +kernel, by decide +kernel⟩
theorem sc_Time___mul__ : FnScope ["self", "other", "by"] ["self", "other"] (defScope s_Time___mul__) := ⟨rfl, rfl, rfl, by decide +kernel, rfl, by decide +kernel, by decide +kernel⟩
theorem sc_Time___rmul__ : FnScope ["self", "other"] ["self", "other"] (defScope s_Time___rmul__) := ⟨rfl, rfl, rfl, by decide +kernel, rfl, by decide +kernel, by decide +kernel⟩
theorem sc_Time___neg__ : FnScope ["self"] ["self"] (defScope s_Time___neg__) := ⟨rfl, rfl, rfl, by decide +kernel, rfl, by decide +kernel, by decide +kernel⟩
theorem sc_Time___abs__ : FnScope ["self"] ["self"] (defScope s_Time___abs__) := ⟨rfl, rfl, rfl, by decide +kernel, rfl, by decide +kernel, by decide +kernel⟩
theorem sc_Time___eq__ : FnScope ["self", "other", "same"] ["self", "other"] (defScope s_Time___eq__) := ⟨rfl, rfl, rfl, by decide +kernel, rfl, by decide +kernel, by decide +kernel⟩
theorem sc_Time___lt__ : FnScope ["self", "other", "later"] ["self", "other"] (defScope s_Time___lt__) := ⟨rfl, rfl, rfl, by decide +kernel, rfl, by decide +kernel, by decide +kernel⟩
theorem sc_Time___le__ : FnScope ["self", "other", "later"] ["self", "other"] (defScope s_Time___le__) := ⟨rfl, rfl, rfl, by decide +kernel, rfl, by decide +kernel, by decide +kernel⟩
theorem sc_Time___gt__ : FnScope ["self", "other", "sooner"] ["self", "other"] (defScope s_Time___gt__) := ⟨rfl, rfl, rfl, by decide +kernel, rfl, by decide +kernel, by decide +kernel⟩
theorem sc_Time___ge__ : FnScope ["self", "other", "sooner"] ["self", "other"] (defScope s_Time___ge__) := ⟨rfl, rfl, rfl, by decide +kernel, rfl, by decide +kernel, by decide +kernel⟩
theorem sc_raised : FnScope ["base", "count", "result", "square"] ["base", "count"] (defScope s_raised) := ⟨rfl, rfl, rfl, by decide +kernel, rfl, by decide +kernel, by decide +kernel⟩
theorem sc_Time_power : FnScope ["self", "count"] ["self", "count"] (defScope s_Time_power) := ⟨rfl, rfl, rfl, by decide +kernel, rfl, by decide +kernel, by decide +kernel⟩
theorem sc_Time_over : FnScope ["self", "other", "by"] ["self", "other"] (defScope s_Time_over) := ⟨rfl, rfl, rfl, by decide +kernel, rfl, by decide +kernel, by decide +kernel⟩
theorem sc_is_time : FnScope ["thing"] ["thing"] (defScope s_is_time) := ⟨rfl, rfl, rfl, by decide +kernel, rfl, by decide +kernel, by decide +kernel⟩
theorem sc_time_of : FnScope ["thing"] ["thing"] (defScope s_time_of) := ⟨rfl, rfl, rfl, by decide +kernel, rfl, by decide +kernel, by decide +kernel⟩
theorem sc_lesser : FnScope ["one", "other", "first", "second"] ["one", "other"] (defScope s_lesser) := ⟨rfl, rfl, rfl, by decide +kernel, rfl, by decide +kernel, by decide +kernel⟩
theorem sc_greater : FnScope ["one", "other", "first", "second"] ["one", "other"] (defScope s_greater) := ⟨rfl, rfl, rfl, by decide +kernel, rfl, by decide +kernel, by decide +kernel⟩
theorem sc_merged : FnScope ["some", "others", "row", "at", "moment"] ["some", "others"] (defScope s_merged) := ⟨rfl, rfl, rfl, by decide +kernel, rfl, by decide +kernel, by decide +kernel⟩
theorem sc_ordered : FnScope ["times", "rows", "halves", "moment", "at"] ["times"] (defScope s_ordered) := ⟨rfl, rfl, rfl, by decide +kernel, rfl, by decide +kernel, by decide +kernel⟩
theorem sc_is_positive : FnScope ["thing"] ["thing"] (defScope s_is_positive) := ⟨rfl, rfl, rfl, by decide +kernel, rfl, by decide +kernel, by decide +kernel⟩
theorem sc_is_latest : FnScope ["thing", "share"] ["thing", "share"] (defScope s_is_latest) := ⟨rfl, rfl, rfl, by decide +kernel, rfl, by decide +kernel, by decide +kernel⟩
theorem sc_is_roof : FnScope ["thing", "floor"] ["thing", "floor"] (defScope s_is_roof) := ⟨rfl, rfl, rfl, by decide +kernel, rfl, by decide +kernel, by decide +kernel⟩
theorem sc_is_allowed : FnScope ["part", "rules", "thing"] ["part", "rules"] (defScope s_is_allowed) := ⟨rfl, rfl, rfl, by decide +kernel, rfl, by decide +kernel, by decide +kernel⟩
theorem sc_checked : FnScope ["rules", "part", "found"] ["rules"] (defScope s_checked) := ⟨rfl, rfl, rfl, by decide +kernel, rfl, by decide +kernel, by decide +kernel⟩
theorem sc_made_of : FnScope ["book", "estimate", "wait"] ["book", "estimate"] (defScope s_made_of) := ⟨rfl, rfl, rfl, by decide +kernel, rfl, by decide +kernel, by decide +kernel⟩
theorem sc_Book___init__ : FnScope ["self", "sample", "share", "latest", "factor", "margin", "floor", "roof", "doubled", "kept"] ["self", "sample", "share", "latest", "factor", "margin", "floor", "roof", "doubled", "kept"] (defScope s_Book___init__) := ⟨rfl, rfl, rfl, by decide +kernel, rfl, by decide +kernel, by decide +kernel⟩
theorem sc_Book_sample : FnScope ["self"] ["self"] (defScope s_Book_sample) := ⟨rfl, rfl, rfl, by decide +kernel, rfl, by decide +kernel, by decide +kernel⟩
theorem sc_Book_share : FnScope ["self"] ["self"] (defScope s_Book_share) := ⟨rfl, rfl, rfl, by decide +kernel, rfl, by decide +kernel, by decide +kernel⟩
theorem sc_Book_latest : FnScope ["self"] ["self"] (defScope s_Book_latest) := ⟨rfl, rfl, rfl, by decide +kernel, rfl, by decide +kernel, by decide +kernel⟩
theorem sc_Book_factor : FnScope ["self"] ["self"] (defScope s_Book_factor) := ⟨rfl, rfl, rfl, by decide +kernel, rfl, by decide +kernel, by decide +kernel⟩
theorem sc_Book_margin : FnScope ["self"] ["self"] (defScope s_Book_margin) := ⟨rfl, rfl, rfl, by decide +kernel, rfl, by decide +kernel, by decide +kernel⟩
theorem sc_Book_floor : FnScope ["self"] ["self"] (defScope s_Book_floor) := ⟨rfl, rfl, rfl, by decide +kernel, rfl, by decide +kernel, by decide +kernel⟩
theorem sc_Book_roof : FnScope ["self"] ["self"] (defScope s_Book_roof) := ⟨rfl, rfl, rfl, by decide +kernel, rfl, by decide +kernel, by decide +kernel⟩
theorem sc_Book_doubled : FnScope ["self"] ["self"] (defScope s_Book_doubled) := ⟨rfl, rfl, rfl, by decide +kernel, rfl, by decide +kernel, by decide +kernel⟩
theorem sc_Book_kept : FnScope ["self"] ["self"] (defScope s_Book_kept) := ⟨rfl, rfl, rfl, by decide +kernel, rfl, by decide +kernel, by decide +kernel⟩
theorem sc_Book_wait_for : FnScope ["self", "estimate"] ["self", "estimate"] (defScope s_Book_wait_for) := ⟨rfl, rfl, rfl, by decide +kernel, rfl, by decide +kernel, by decide +kernel⟩
theorem sc_check_times : FnScope ["things", "thing"] ["things"] (defScope s_check_times) := ⟨rfl, rfl, rfl, by decide +kernel, rfl, by decide +kernel, by decide +kernel⟩
theorem sc_waits_until : FnScope ["count", "doubled"] ["count", "doubled"] (defScope s_waits_until) := ⟨rfl, rfl, rfl, by decide +kernel, rfl, by decide +kernel, by decide +kernel⟩
theorem sc_check_sample : FnScope ["book", "words"] ["book", "words"] (defScope s_check_sample) := ⟨rfl, rfl, rfl, by decide +kernel, rfl, by decide +kernel, by decide +kernel⟩
theorem sc_check_smoothed : FnScope ["book"] ["book"] (defScope s_check_smoothed) := ⟨rfl, rfl, rfl, by decide +kernel, rfl, by decide +kernel, by decide +kernel⟩
theorem sc_wait_line : FnScope ["book", "start", "many", "rest"] ["book", "start", "many"] (defScope s_wait_line) := ⟨rfl, rfl, rfl, by decide +kernel, rfl, by decide +kernel, by decide +kernel⟩
theorem sc_bound_of : FnScope ["book", "line", "parts", "shift", "slope", "found"] ["book", "line", "parts"] (defScope s_bound_of) := ⟨rfl, rfl, rfl, by decide +kernel, rfl, by decide +kernel, by decide +kernel⟩
theorem sc_check_breaks : FnScope ["estimate", "rounds", "high"] ["estimate", "rounds", "high"] (defScope s_check_breaks) := ⟨rfl, rfl, rfl, by decide +kernel, rfl, by decide +kernel, by decide +kernel⟩
theorem sc_check_book : FnScope ["book"] ["book"] (defScope s_check_book) := ⟨rfl, rfl, rfl, by decide +kernel, rfl, by decide +kernel, by decide +kernel⟩
theorem sc_bounds_below : FnScope ["book", "estimate", "rounds", "high", "found", "many", "line", "count", "bound"] ["book", "estimate", "rounds", "high"] (defScope s_bounds_below) := ⟨rfl, rfl, rfl, by decide +kernel, rfl, by decide +kernel, by decide +kernel⟩
theorem sc_breaks : FnScope ["book", "estimate", "rounds", "high"] ["book", "estimate", "rounds", "high"] (defScope s_breaks) := ⟨rfl, rfl, rfl, by decide +kernel, rfl, by decide +kernel, by decide +kernel⟩
theorem sc__law_begin : FnScope ["_law_script"] ["_law_script"] (defScope s__law_begin) := ⟨rfl, rfl, rfl, by decide +kernel, rfl, by decide +kernel, by decide +kernel⟩
theorem sc__law_draw : FnScope ["_law_source", "_law_limit", "_law_cell", "_law_digit"] ["_law_source", "_law_limit"] (defScope s__law_draw) := ⟨rfl, rfl, rfl, by decide +kernel, rfl, by decide +kernel, by decide +kernel⟩
theorem sc__law_share : FnScope ["_law_source", "_law_kind", "_law_upper"] ["_law_source"] (defScope s__law_share) := ⟨rfl, rfl, rfl, by decide +kernel, rfl, by decide +kernel, by decide +kernel⟩
theorem sc__law_factor : FnScope ["_law_source", "_law_kind", "_law_lower"] ["_law_source"] (defScope s__law_factor) := ⟨rfl, rfl, rfl, by decide +kernel, rfl, by decide +kernel, by decide +kernel⟩
theorem sc__law_roof : FnScope ["_law_source", "_law_least", "_law_lower"] ["_law_source", "_law_least"] (defScope s__law_roof) := ⟨rfl, rfl, rfl, by decide +kernel, rfl, by decide +kernel, by decide +kernel⟩
theorem sc__law_rules : FnScope ["_law_source", "_law_word", "_law_portion", "_law_number", "_law_times", "_law_more", "_law_least", "_law_twofold", "_law_held"] ["_law_source"] (defScope s__law_rules) := ⟨rfl, rfl, rfl, by decide +kernel, rfl, by decide +kernel, by decide +kernel⟩
theorem sc__law_pair : FnScope ["_law_pair_here"] ["_law_pair_here"] (defScope s__law_pair) := ⟨rfl, rfl, rfl, by decide +kernel, rfl, by decide +kernel, by decide +kernel⟩
theorem sc__law_book : FnScope ["_law_rules_here", "_law_portion", "_law_times", "_law_more", "_law_least", "_law_most"] ["_law_rules_here"] (defScope s__law_book) := ⟨rfl, rfl, rfl, by decide +kernel, rfl, by decide +kernel, by decide +kernel⟩
theorem sc__law_less_by : FnScope ["_law_more", "_law_few", "_law_rest", "_law_at", "_law_bound"] ["_law_more", "_law_few"] (defScope s__law_less_by) := ⟨rfl, rfl, rfl, by decide +kernel, rfl, by decide +kernel, by decide +kernel⟩
theorem sc__law_marks : FnScope ["_law_wait", "_law_high", "_law_twofold", "_law_marks_here", "_law_moment", "_law_gap"] ["_law_wait", "_law_high", "_law_twofold"] (defScope s__law_marks) := ⟨rfl, rfl, rfl, by decide +kernel, rfl, by decide +kernel, by decide +kernel⟩
theorem sc__law_scaled : FnScope ["_law_pair_here", "_law_unit"] ["_law_pair_here", "_law_unit"] (defScope s__law_scaled) := ⟨rfl, rfl, rfl, by decide +kernel, rfl, by decide +kernel, by decide +kernel⟩
theorem sc__law_in_unit : FnScope ["_law_rules_here", "_law_estimate", "_law_many", "_law_high", "_law_bounds", "_law_unit", "_law_turned", "_law_by", "_law_told", "_law_bound", "_law_pair_here"] ["_law_rules_here", "_law_estimate", "_law_many", "_law_high", "_law_bounds", "_law_unit"] (defScope s__law_in_unit) := ⟨rfl, rfl, rfl, by decide +kernel, rfl, by decide +kernel, by decide +kernel⟩
theorem sc_law : FnScope ["_law_script", "_law_source", "_law_rules_here", "_law_limit", "_law_estimate", "_law_book_here", "_law_wait", "_law_high", "_law_low", "_law_many", "_law_before", "_law_rest", "_law_number", "_law_bounds", "_law_later", "_law_at", "_law_unit", "_law_bound"] ["_law_script"] (defScope s_law) := ⟨rfl, rfl, rfl, by decide +kernel, rfl, by decide +kernel, by decide +kernel⟩
theorem tm_of {K : PySem.W.Frag} {mg : Str → Option Value} {h : Heap} (X : K.In h) (G : h.Ns mainGlobals mg) (c : SaysX ψ fn K) : Tm K mg :=
  ⟨excC_ok (c.fact 0),
   excC_ok (c.fact 1),
   excPlain_ok (c.fact 2),
   excC_ok (c.fact 3),
   excC_ok (c.fact 4),
   excC_ok (c.fact 5),
   excPlain_ok (c.fact 6),
   excC_ok (c.fact 7),
   excC_ok (c.fact 8),
   isC_ok (c.fact 9),
   kitC_ok (c.fact 10),
   mkr_ok (c.fact 11),
   noat_ok (c.fact 12),
   noat_ok (c.fact 13),
   of_decide_eq_true (c.fact 14),
   neOwn_ok (c.fact 15),
   absOwn_ok (c.fact 16),
   binOwn_ok (c.fact 17),
   noInpl_ok (c.fact 18),
   cmpOwn_ok (c.fact 19),
   cmpRef_ok (c.fact 20),
   binOwn_ok (c.fact 21),
   cmpOwn_ok (c.fact 22),
   cmpRef_ok (c.fact 23),
   cmpOwn_ok (c.fact 24),
   cmpRef_ok (c.fact 25),
   cmpOwn_ok (c.fact 26),
   cmpRef_ok (c.fact 27),
   cmpOwn_ok (c.fact 28),
   cmpRef_ok (c.fact 29),
   binOwn_ok (c.fact 30),
   noInpl_ok (c.fact 31),
   negOwn_ok (c.fact 32),
   binOwn_ok (c.fact 33),
   binRef_ok (c.fact 34),
   binRef_ok (c.fact 35),
   binRef_ok (c.fact 36),
   binRef_ok (c.fact 37),
   binOwn_ok (c.fact 38),
   noInpl_ok (c.fact 39),
   prop_ok (c.fact 40),
   meth_ok (c.fact 41),
   meth_ok (c.fact 42),
   prop_ok (c.fact 43),
   isC_ok (c.fact 44),
   kitC_ok (c.fact 45),
   mkr_ok (c.fact 46),
   noat_ok (c.fact 47),
   of_decide_eq_true (c.fact 48),
   neOwn_ok (c.fact 49),
   prop_ok (c.fact 50),
   prop_ok (c.fact 51),
   prop_ok (c.fact 52),
   prop_ok (c.fact 53),
   prop_ok (c.fact 54),
   prop_ok (c.fact 55),
   meth_ok (c.fact 56),
   prop_ok (c.fact 57),
   prop_ok (c.fact 58),
   prop_ok (c.fact 59),
   meth_ok (c.fact 60),
   int_ok X G (c.fact 61),
   str_ok X G (c.fact 62),
   glo_ok X G (c.fact 63),
   glo_ok X G (c.fact 64),
   glo_ok X G (c.fact 65),
   glo_ok X G (c.fact 66),
   glo_ok X G (c.fact 67),
   glo_ok X G (c.fact 68),
   int_ok X G (c.fact 69),
   glo_ok X G (c.fact 70),
   glo_ok X G (c.fact 71),
   glo_ok X G (c.fact 72),
   glo_ok X G (c.fact 73),
   int_ok X G (c.fact 74),
   glo_ok X G (c.fact 75),
   glo_ok X G (c.fact 76),
   kTup_ok (c.fact 77),
   glo_ok X G (c.fact 78),
   glo_ok X G (c.fact 79),
   glo_ok X G (c.fact 80),
   kTup_ok (c.fact 81),
   glo_ok X G (c.fact 82),
   glo_ok X G (c.fact 83),
   glo_ok X G (c.fact 84),
   glo_ok X G (c.fact 85),
   glo_ok X G (c.fact 86),
   glo_ok X G (c.fact 87),
   glo_ok X G (c.fact 88),
   glo_ok X G (c.fact 89),
   glo_ok X G (c.fact 90),
   glo_ok X G (c.fact 91),
   glo_ok X G (c.fact 92),
   glo_ok X G (c.fact 93),
   glo_ok X G (c.fact 94),
   int_ok X G (c.fact 95),
   glo_ok X G (c.fact 96),
   glo_ok X G (c.fact 97),
   glo_ok X G (c.fact 98),
   glo_ok X G (c.fact 99),
   glo_ok X G (c.fact 100),
   int_ok X G (c.fact 101),
   glo_ok X G (c.fact 102),
   glo_ok X G (c.fact 103),
   glo_ok X G (c.fact 104),
   glo_ok X G (c.fact 105),
   glo_ok X G (c.fact 106),
   glo_ok X G (c.fact 107),
   glo_ok X G (c.fact 108),
   glo_ok X G (c.fact 109),
   glo_ok X G (c.fact 110),
   glo_ok X G (c.fact 111),
   glo_ok X G (c.fact 112),
   glo_ok X G (c.fact 113),
   glo_ok X G (c.fact 114),
   glo_ok X G (c.fact 115),
   glo_ok X G (c.fact 116),
   glo_ok X G (c.fact 117),
   glo_ok X G (c.fact 118),
   glo_ok X G (c.fact 119),
   glo_ok X G (c.fact 120),
   glo_ok X G (c.fact 121),
   free_ok X G (c.fact 122),
   free_ok X G (c.fact 123),
   free_ok X G (c.fact 124),
   free_ok X G (c.fact 125),
   free_ok X G (c.fact 126),
   free_ok X G (c.fact 127),
   free_ok X G (c.fact 128),
   free_ok X G (c.fact 129),
   free_ok X G (c.fact 130),
   free_ok X G (c.fact 131),
   free_ok X G (c.fact 132),
   free_ok X G (c.fact 133),
   c.dfn 0,
   c.dfn 1,
   c.dfn 2,
   c.dfn 3,
   c.dfn 4,
   c.dfn 5,
   c.dfn 6,
   c.dfn 7,
   c.dfn 8,
   c.dfn 9,
   c.dfn 10,
   c.dfn 11,
   c.dfn 12,
   c.dfn 13,
   c.dfn 14,
   c.dfn 15,
   c.dfn 16,
   c.dfn 17,
   c.dfn 18,
   c.dfn 19,
   c.dfn 20,
   c.dfn 21,
   c.dfn 22,
   c.dfn 23,
   c.dfn 24,
   c.dfn 25,
   c.dfn 26,
   c.dfn 27,
   c.dfn 28,
   c.dfn 29,
   c.dfn 30,
   c.dfn 31,
   c.dfn 32,
   c.dfn 33,
   c.dfn 34,
   c.dfn 35,
   c.dfn 36,
   c.dfn 37,
   c.dfn 38,
   c.dfn 39,
   c.dfn 40,
   c.dfn 41,
   c.dfn 42,
   c.dfn 43,
   c.dfn 44,
   c.dfn 45,
   c.dfn 46,
   c.dfn 47,
   c.dfn 48,
   c.dfn 49,
   c.dfn 50,
   c.dfn 51,
   c.dfn 52,
   c.dfn 53,
   c.dfn 54,
   c.dfn 55,
   c.dfn 56,
   c.dfn 57,
   c.dfn 58,
   c.dfn 59,
   c.dfn 60,
   c.dfn 61,
   c.dfn 62,
   c.dfn 63,
   c.dfn 64,
   c.dfn 65,
   c.dfn 66⟩
local macro_rules | `(tactic| walk_at "w") => `(tactic| first | ((with_reducible show Rs.WE _ _ _ _ _); walk_at "wE") | ((with_reducible show Rs.Op2 _ _ _ _ _ _); walk_at "wO") | ((with_reducible show Rs.WB _ _ _ _ _); walk_at "wB") | ((with_reducible show Rs.WS _ _ _ _ _); walk_at "wS") | ((with_reducible show Rs.WA _ _ _ _ _); walk_at "wA") | ((with_reducible show Rs.WT _ _ _ _ _); walk_at "wT") | ((with_reducible show L2.rIx _ _ _ _ _); walk_at "wR") | ((with_reducible show ite _ _ _); walk_at "wI") | walk_at "wX" | fail)
/-! steps over the text -/
local macro_rules | `(tactic| walk_at "wE") => `(tactic| first | ((with_reducible refine' we_name ?n ?h ?_); (case n => with_reducible assumption); (case h => exact rfl)) | with_reducible refine' we_int ?_ | with_reducible refine' we_str ?_ | with_reducible refine' we_bool ?_ | with_reducible refine' we_none ?_ | ((with_reducible refine' we_ref ?g ?m ?_); (case g => with_reducible assumption); (case m => with_reducible assumption)) | ((with_reducible refine' we_cint ?g ?m ?_); (case g => with_reducible assumption); (case m => with_reducible assumption)) | ((with_reducible refine' we_cstr ?g ?m ?_); (case g => with_reducible assumption); (case m => with_reducible assumption)) | with_reducible refine' we_bin ?_ | (with_reducible refine' we_cmp ?_ ?hm; (case hm => first | exact nomark _ | rfl)) | ((with_reducible refine' we_chain ?_ ?h1); (case h1 => rfl)) | with_reducible refine' we_and2 ?_ | with_reducible refine' we_and3 ?_ | with_reducible refine' we_or2 ?_ | with_reducible refine' we_not ?_ | with_reducible refine' we_un ?_ | with_reducible refine' we_if ?_ | ((with_reducible refine' we_isi ?b ?_ ?h1 ?h2 ?h3); (case b => with_reducible assumption); (case h1 => rfl); (case h2 => rfl); (case h3 => rfl)) | ((with_reducible refine' we_ty ?b ?hv ?_ ?hn ?hd); (case b => with_reducible assumption); (case hv => first | exact PyProof.Rows.boot_int | exact PyProof.Rows.boot_bool | exact PyProof.Rows.boot_str); (case hn => decide); (case hd => decide)) | ((with_reducible refine' we_call ?B ?g ?f ?hj ?_ ?hs ?hl); (case B => assumption); (case g => with_reducible assumption); (case f => with_reducible assumption); (case hj => decide); (case hs => rfl); (case hl => rfl)) | with_reducible refine' we_tup ?_ | with_reducible refine' we_lst ?_ | fail)
local macro_rules | `(tactic| walk_at "wO") => `(tactic| first | with_reducible refine' o_add ?_ | with_reducible refine' o_sub ?_ | with_reducible refine' o_lt ?_ | with_reducible refine' o_le ?_ | with_reducible refine' o_gt ?_ | with_reducible refine' o_ge ?_ | with_reducible refine' o_eq ?_ | with_reducible refine' o_ne ?_ | with_reducible refine' o_isN ?_ | with_reducible refine' o_notN ?_ | fail)
local macro_rules | `(tactic| walk_at "wB") => `(tactic| first | with_reducible refine' wb_one ?_ | with_reducible refine' wb_cons ?_ | with_reducible refine' wb_nil ?_ | fail)
local macro_rules | `(tactic| walk_at "wS") => `(tactic| first | ((with_reducible refine' ws_set ?n ?_ ?hs); (case n => with_reducible assumption); (case hs => rfl)) | with_reducible refine' ws_ret ?_ | with_reducible refine' ws_if ?_ | ((with_reducible refine' ws_par ?B ?n1 ?n2 ?hk ?hx ?hy ?_ ?h1 ?h2 ?h3 ?h4 ?h5 ?h6 ?h7 ?h8); (case B => assumption); (case n1 => with_reducible assumption); (case n2 => with_reducible assumption); (case hk => assumption); (case hx => assumption); (case hy => assumption); (case h1 => decide); (case h2 => decide); (case h3 => rfl); (case h4 => rfl); (case h5 => rfl); (case h6 => rfl); (case h7 => rfl); (case h8 => rfl)) | fail)
local macro_rules | `(tactic| walk_at "wA") => `(tactic| first | ((with_reducible refine' wa_two ?_ ?h1 ?h2); (case h1 => rfl); (case h2 => rfl)) | ((with_reducible refine' wa_one ?_ ?h1); (case h1 => rfl)) | ((with_reducible refine' wa_three ?_ ?h1 ?h2 ?h3); (case h1 => rfl); (case h2 => rfl); (case h3 => rfl)) | ((with_reducible refine' wa_cons ?_ ?h1); (case h1 => rfl)) | with_reducible refine' wa_nil ?_ | fail)
local macro_rules | `(tactic| walk_at "wT") => `(tactic| first | (with_reducible refine' wt_cmp ?_ ?hm; (case hm => first | exact nomark _ | rfl)) | ((with_reducible refine' wt_chain ?_ ?h1); (case h1 => rfl)) | with_reducible refine' wt_and2 ?_ | with_reducible refine' wt_and3 ?_ | with_reducible refine' wt_or2 ?_ | with_reducible refine' wt_or3 ?_ | with_reducible refine' wt_or4 ?_ | with_reducible refine' wt_not ?_ | ((with_reducible refine' wt_val ?_ ?he); (case he => intro _; rfl)) | fail)
local macro_rules | `(tactic| walk_at "wI") => `(tactic| first | with_reducible refine' iteT ?_ | with_reducible refine' iteNT ?_ | with_reducible refine' iteNF ?_ | with_reducible refine' iteF ?_ | fail)
local macro_rules | `(tactic| walk_at "wX") => `(tactic| first | with_reducible refine' o_neg ?_ | with_reducible refine' bl_ok ?_ | with_reducible refine' int_ok ?_ | fail)

/-! ### is_integer, common, is_time, time_of, Time(..) -/
section
variable {P : Program} {w : World} {K : PySem.W.Frag} {mg : Str → Option Value} {base : Heap}
def spIsInteger (K : PySem.W.Frag) : Sp := fun vs H Q _ => ∃ v t r1 r2, vs = [v] ∧ TyX K H v t ∧ PySem.W.kitOne K t (.type "int") = some r1 ∧ PySem.W.kitOne K t (.type "bool") = some r2 ∧ Q (.bl (r1 && !r2)) H
theorem f_is_integer (T : Tm K mg) : GFn P w K mg base 1 "is_integer" (spIsInteger K) := by
  obtain ⟨fd, F⟩ := T.d_is_integer
  refine GFn.mk F T.g_is_integer (def_ok F sc_is_integer (fun vs H Q E h => by obtain ⟨v, t, r1, r2, rfl, _⟩ := h; rfl) ?_) (F.bindsN fun _ _ _ _ _ _ us hl => match us, hl with | [_], _ => rfl)
  intro X eP ew eK em eb eN es hf nd H vs Q E B h
  subst eP ew eK em eb
  have n0 : Sl X 0 "thing" := slot_of eN es hf nd rfl (by first | exact Or.inl rfl | exact Or.inr rfl) (by decide) (by decide)
  have z_isinstance : Bn X "isinstance" := bn_of es rfl T.z_isinstance
  have z_int : Bn X "int" := bn_of es rfl T.z_int
  have z_bool : Bn X "bool" := bn_of es rfl T.z_bool
  obtain ⟨v, t, r1, r2, rfl, ht, h1, h2, q⟩ := h
  show WB X [_] _ [some v] H
  repeat walk_at "w"
  refine ⟨r1, ⟨t, _, .ty _, ht, h1⟩, ?_⟩
  repeat walk_at "w"
  refine ite_b (fun e => ?_) (fun e => ?_)
  · subst e
    repeat walk_at "w"
    refine ⟨r2, ⟨t, _, .ty _, ht, h2⟩, ?_⟩
    repeat walk_at "w"
    exact q
  · subst e
    exact q
def spCommon : Sp := fun vs H Q _ => ∃ a b, vs = [.int a, .int b] ∧ Q (.int (g1 a b)) H
theorem f_common (T : Tm K mg) : GFn P w K mg base 1 "common" spCommon := by
  obtain ⟨fd, F⟩ := T.d_common
  refine GFn.mk F T.g_common (def_ok F sc_common (fun vs H Q E h => by obtain ⟨a, b, rfl, _⟩ := h; rfl) ?_) (F.bindsN fun _ _ _ _ _ _ us hl => match us, hl with | [_, _], _ => rfl)
  intro X eP ew eK em eb eN es hf nd H vs Q E B h
  subst eP ew eK em eb
  have n0 : Sl X 0 "one" := slot_of eN es hf nd rfl (by first | exact Or.inl rfl | exact Or.inr rfl) (by decide) (by decide)
  have n1 : Sl X 1 "other" := slot_of eN es hf nd rfl (by first | exact Or.inl rfl | exact Or.inr rfl) (by decide) (by decide)
  have z_abs : Bn X "abs" := bn_of es rfl T.z_abs
  have kb : X.env.blockKind = .function := blk_of es rfl
  have k_one : X.env.kindOf "one" = some .local := kd_of es rfl
  have k_other : X.env.kindOf "other" = some .local := kd_of es rfl
  obtain ⟨a, b, rfl, q⟩ := h
  show WB X [_, _, _, _] _ [some (.int a), some (.int b)] H
  repeat walk_at "w"
  refine we_abs z_abs ?_
  repeat walk_at "w"
  refine we_abs z_abs ?_
  repeat walk_at "w"
  refine ws_while_by (fun σ H' => ∃ x y : Int, σ = [some (.int x), some (.int y)] ∧ 0 ≤ x ∧ 0 ≤ y ∧ Int.gcd x y = Int.gcd a b ∧ H' = H) (fun σ _ => match σ with | [_, some (.int y)] => y.toNat | _ => 0) B
    ⟨_, _, rfl, abs_nn a, abs_nn b, gcd_abs a b, rfl⟩ ?_
  rintro σ H' ⟨x, y, rfl, hx, hy, hg, rfl⟩
  repeat walk_at "w"
  refine ite_ndec (fun hc => ?_) (fun hc => ?_)
  · repeat walk_at "w"
    refine o_mod (by omega) ?_
    exact ⟨⟨y, x % y, rfl, hy, Int.emod_nonneg _ hc, by rw [gcd_turn, hg], rfl⟩, by have := Int.emod_lt_of_pos x (show 0 < y by omega); have := Int.emod_nonneg x hc; show (x % y).toNat < y.toNat; omega⟩
  · repeat walk_at "w"
    have e : g1 a b = if x > 0 then x else 1 := by
      unfold g1
      rw [← hg, hc, Int.gcd_zero_right, Int.natAbs_of_nonneg hx]
    refine ite_dec (fun hp => ?_) (fun hp => ?_)
    · repeat walk_at "w"
      rw [e, if_pos hp] at q
      exact q
    · repeat walk_at "w"
      rw [e, if_neg hp] at q
      exact q
def spIsTime (K : PySem.W.Frag) : Sp := fun vs H Q _ => ∃ v t r0 r1 r2, vs = [v] ∧ TyX K H v t ∧ PySem.W.kitOne K t (.ref (ga K "Time")) = some r0 ∧ PySem.W.kitOne K t (.type "int") = some r1 ∧ PySem.W.kitOne K t (.type "bool") = some r2 ∧ Q (.bl (r0 || (r1 && !r2))) H
theorem f_is_time (T : Tm K mg) : GFn P w K mg base 2 "is_time" (spIsTime K) := by
  obtain ⟨fd, F⟩ := T.d_is_time
  refine GFn.mk F T.g_is_time (def_ok F sc_is_time (fun vs H Q E h => by obtain ⟨v, t, r0, r1, r2, rfl, _⟩ := h; rfl) ?_) (F.bindsN fun _ _ _ _ _ _ us hl => match us, hl with | [_], _ => rfl)
  intro X eP ew eK em eb eN es hf nd H vs Q E B h
  subst eP ew eK em eb
  have n0 : Sl X 0 "thing" := slot_of eN es hf nd rfl (by first | exact Or.inl rfl | exact Or.inr rfl) (by decide) (by decide)
  have z_isinstance : Bn X "isinstance" := bn_of es rfl T.z_isinstance
  have g_Time : Gn X "Time" := gn_of es rfl (by decide)
  have m_Time := T.g_Time
  have g_is_integer : Gn X "is_integer" := gn_of es rfl (by decide)
  have F_is_integer := f_is_integer (P := X.prog) (w := X.w) (base := X.base) T
  obtain ⟨v, t, r0, r1, r2, rfl, ht, h0, h1, h2, q⟩ := h
  show WB X [_] _ [some v] H
  repeat walk_at "w"
  refine ⟨r0, ⟨t, _, .own _, ht, h0⟩, ?_⟩
  repeat walk_at "w"
  refine ite_b (fun e => ?_) (fun e => ?_)
  · subst e
    exact q
  · subst e
    repeat walk_at "w"
    exact ⟨v, t, r1, r2, rfl, ht, h1, h2, q⟩
end

/-! ### kinds of values -/
theorem g1_sz {t d : Int} (h : d ≠ 0) (hz : d.natAbs < 2 ^ 9000) : (g1 t d).natAbs < 2 ^ 9000 := Nat.lt_of_le_of_lt (g1_le h) hz
section
variable {K : PySem.W.Frag} {mg : Str → Option Value} {H : Hp} {Q : VK} {E : XK} {v : V} {q : Rat} {i : Int}
abbrev CT (K : PySem.W.Frag) : Addr := ga K "Time"
theorem k_ii : PySem.W.kitOne K (.type "int") (.type "int") = some true := kit_ty (by decide +kernel)
theorem k_ib : PySem.W.kitOne K (.type "int") (.type "bool") = some false := kit_ty (by decide +kernel)
theorem k_is_ : PySem.W.kitOne K (.type "int") (.type "str") = some false := kit_ty (by decide +kernel)
theorem k_bi : PySem.W.kitOne K (.type "bool") (.type "int") = some true := kit_ty (by decide +kernel)
theorem k_bb : PySem.W.kitOne K (.type "bool") (.type "bool") = some true := kit_ty (by decide +kernel)
theorem k_si : PySem.W.kitOne K (.type "str") (.type "int") = some false := kit_ty (by decide +kernel)
theorem k_sb : PySem.W.kitOne K (.type "str") (.type "bool") = some false := kit_ty (by decide +kernel)
theorem k_ss : PySem.W.kitOne K (.type "str") (.type "str") = some true := kit_ty (by decide +kernel)
theorem k_ni : PySem.W.kitOne K (.type "NoneType") (.type "int") = some false := kit_ty (by decide +kernel)
theorem k_nb : PySem.W.kitOne K (.type "NoneType") (.type "bool") = some false := kit_ty (by decide +kernel)
theorem k_ti : PySem.W.kitOne K (.type "tuple") (.type "int") = some false := kit_ty (by decide +kernel)
theorem k_tb : PySem.W.kitOne K (.type "tuple") (.type "bool") = some false := kit_ty (by decide +kernel)
theorem k_li : PySem.W.kitOne K (.type "list") (.type "int") = some false := kit_ty (by decide +kernel)
theorem k_lb : PySem.W.kitOne K (.type "list") (.type "bool") = some false := kit_ty (by decide +kernel)
theorem tyT (T : Tm K mg) (h : TimeV (CT K) q v H) : TyX K H v (.ref (CT K)) := by
  obtain ⟨p, dx, rfl, h⟩ := h
  exact T.c_Time.ty h
/-- is_integer's, is_time's answers -/
theorem ii_int (z : Q (.bl true) H) : spIsInteger K [.int i] H Q E := ⟨_, _, true, false, rfl, .base (.int i), k_ii, k_ib, z⟩
theorem it_int (T : Tm K mg) (z : Q (.bl true) H) : spIsTime K [.int i] H Q E := ⟨_, _, false, true, false, rfl, .base (.int i), T.k_Time.ofInt, k_ii, k_ib, z⟩
theorem it_T (T : Tm K mg) (h : TimeV (CT K) q v H) (z : Q (.bl true) H) : spIsTime K [v] H Q E := ⟨_, _, true, false, false, rfl, tyT T h, T.k_Time.self, T.k_Time.int, T.k_Time.bool, z⟩
/-- a time or an int: what time_of and the operators take -/
def Tim (K : PySem.W.Frag) (q : Rat) (v : V) (H : Hp) : Prop := TimeV (CT K) q v H ∨ ∃ i : Int, v = .int i ∧ q = (i : Rat)
theorem Tim.mono {H' : Hp} (x : Ex H H') (h : Tim K q v H) : Tim K q v H' := h.elim (fun h => .inl (h.mono x)) .inr
theorem it_tim (T : Tm K mg) (h : Tim K q v H) (z : Q (.bl true) H) : spIsTime K [v] H Q E := by
  rcases h with h | ⟨i, rfl, _⟩
  · exact it_T T h z
  · exact it_int T z
end
local macro_rules | `(tactic| walk_at "wX") => `(tactic| first | with_reducible refine' ii_int ?_ | (with_reducible refine' it_int ?T ?_; (case T => assumption)) | fail)
section
variable {P : Program} {w : World} {K : PySem.W.Frag} {mg : Str → Option Value} {base : Heap}
/-! ### fields -/
section
variable {X : Cx} {σ : L2.St} {H : Hp} {Q : VK} {e : Expr} {pos : Pos}
theorem we_over (T : Tm X.K X.mg) (h : WE X e σ H fun y H1 => ∃ q, TimeV (CT X.K) q y H1 ∧ Q (.int q.num) H1) (hb : attributeBase e "over_line" X.env (eval e X.env) = eval e X.env := by rfl) : WE X (.Attribute e "over_line" pos) σ H Q :=
  we_fld T.c_Time.cl T.n_Time_over_line (we_mono h fun y H1 z => by
    obtain ⟨q, ⟨p, dx, rfl, ht⟩, z⟩ := z
    exact ⟨p, dx, _, _, rfl, ht, tfs_over q, z⟩) hb
theorem we_under (T : Tm X.K X.mg) (h : WE X e σ H fun y H1 => ∃ q, TimeV (CT X.K) q y H1 ∧ Q (.int q.den) H1) (hb : attributeBase e "under_line" X.env (eval e X.env) = eval e X.env := by rfl) : WE X (.Attribute e "under_line" pos) σ H Q :=
  we_fld T.c_Time.cl T.n_Time_under_line (we_mono h fun y H1 z => by
    obtain ⟨q, ⟨p, dx, rfl, ht⟩, z⟩ := z
    exact ⟨p, dx, _, _, rfl, ht, tfs_under q, z⟩) hb
end
/-! ### Time.__init__ -/
def spInit (K : PySem.W.Frag) : Sp := fun vs H Q _ => ∃ p dx t d, vs = [.ref p, .int t, .int d] ∧ H p = some (.ins (CT K) dx []) ∧ d ≠ 0 ∧ (g1 t d).natAbs < 2 ^ 9000 ∧ Q .non (upd H p (.ins (CT K) dx (tfs (Rat.divInt t d))))
theorem ok_init {fd : FuncData} (T : Tm K mg) (F : FunD K "__init__" "Time.__init__" (defArgs s_Time___init__) (defBody s_Time___init__) (defScope s_Time___init__) [.int 1] [] (ma K (CT K) "__init__") fd) :
    FnOk P w K mg base (RX P w) 2 (ma K (CT K) "__init__") fd ["self", "top", "bottom"] (spInit K) := by
  refine def_ok F sc_Time___init__ (fun vs H Q E h => by obtain ⟨p, dx, t, d, rfl, _⟩ := h; rfl) ?_
  intro X eP ew eK em eb eN es hf nd H vs Q E B h
  subst eP ew eK em eb
  have n0 : Sl X 0 "self" := slot_of eN es hf nd rfl (by first | exact Or.inl rfl | exact Or.inr rfl) (by decide) (by decide)
  have n1 : Sl X 1 "top" := slot_of eN es hf nd rfl (by first | exact Or.inl rfl | exact Or.inr rfl) (by decide) (by decide)
  have n2 : Sl X 2 "bottom" := slot_of eN es hf nd rfl (by first | exact Or.inl rfl | exact Or.inr rfl) (by decide) (by decide)
  have n3 : Sl X 3 "part" := slot_of eN es hf nd rfl (by first | exact Or.inl rfl | exact Or.inr rfl) (by decide) (by decide)
  have g_is_integer : Gn X "is_integer" := gn_of es rfl (by decide)
  have F_is_integer := f_is_integer (P := X.prog) (w := X.w) (base := X.base) T
  have g_NoTime : Gn X "NoTime" := gn_of es rfl (by decide)
  have m_NoTime := T.g_NoTime
  have g_common : Gn X "common" := gn_of es rfl (by decide)
  have F_common := f_common (P := X.prog) (w := X.w) (base := X.base) T
  obtain ⟨p, dx, t, d, rfl, hp, d0, dz, q⟩ := h
  show WB X [_, _, _, _, _, _] _ [some (.ref p), some (.int t), some (.int d), none] H
  repeat walk_at "w"
  refine ite_dec (fun h => absurd h d0) fun _ => ?_
  repeat walk_at "w"
  refine ⟨t, d, rfl, ?_⟩
  repeat walk_at "w"
  have g0 := g1_pos t d
  have gz := dz
  have hn := made_num (t := t) d0
  have hd := made_den (t := t) d0
  have fin : ∀ {D : Ends} {σ : L2.St} {g : Int}, D.nx σ (upd H p (.ins (CT X.K) dx (tfs (Rat.divInt t d)))) → g = (if d < 0 then 0 - g1 t d else g1 t d) →
      D.nx σ (upd (upd H p (.ins (CT X.K) dx (putF "over_line" (.int (t.fdiv g)) []))) p (.ins (CT X.K) dx (putF "under_line" (.int (d.fdiv g)) (putF "over_line" (.int (t.fdiv g)) [])))) := by
    intro D σ g z e
    subst e
    rw [hn, hd, tfs_put, upd_upd]
    exact z
  refine ite_dec (fun hneg => ?_) fun hneg => ?_
  · repeat walk_at "w"
    refine ws_fld T.c_Time.cl T.n_Time_over_line ?_
    repeat walk_at "w"
    refine o_fdiv (by omega) (log2_small (m := 9000) (by rw [Int.zero_sub, Int.natAbs_neg]; exact gz) (by decide) (by decide)) ?_
    repeat walk_at "w"
    refine ⟨p, dx, _, rfl, hp, by decide, ?_⟩
    repeat walk_at "w"
    refine ws_fld T.c_Time.cl T.n_Time_under_line ?_
    repeat walk_at "w"
    refine o_fdiv (by omega) (log2_small (m := 9000) (by rw [Int.zero_sub, Int.natAbs_neg]; exact gz) (by decide) (by decide)) ?_
    repeat walk_at "w"
    refine ⟨p, dx, _, rfl, upd_same, (by show 1 < 1000; decide), ?_⟩
    exact fin (D := { nx := fun _ H' => Q .non H', rt := Q }) (σ := []) q (by rw [if_pos hneg])
  · repeat walk_at "w"
    refine ws_fld T.c_Time.cl T.n_Time_over_line ?_
    repeat walk_at "w"
    refine o_fdiv (by omega) (log2_small (m := 9000) gz (by decide) (by decide)) ?_
    repeat walk_at "w"
    refine ⟨p, dx, _, rfl, hp, by decide, ?_⟩
    repeat walk_at "w"
    refine ws_fld T.c_Time.cl T.n_Time_under_line ?_
    repeat walk_at "w"
    refine o_fdiv (by omega) (log2_small (m := 9000) gz (by decide) (by decide)) ?_
    repeat walk_at "w"
    refine ⟨p, dx, _, rfl, upd_same, (by show 1 < 1000; decide), ?_⟩
    exact fin (D := { nx := fun _ H' => Q .non H', rt := Q }) (σ := []) q (by rw [if_neg hneg])
end

/-! ### Time(..) made; time_of -/
section
variable {P : Program} {w : World} {K : PySem.W.Frag} {mg : Str → Option Value} {base : Heap}
theorem k_Time2 (T : Tm K mg) : GMk P w K mg base 2 "Time" (CT K) (spInit K) [] := by
  obtain ⟨fd, F⟩ := T.d_Time___init__
  obtain ⟨ds, hd, hb⟩ := F.binds1 (ps := ["self", "top", "bottom"]) 3 1 (List.cons_ne_nil _ _) rfl (fun _ _ _ _ _ _ _ us its h1 h2 => match us, its, h1, h2 with
    | [_, _, _], [_], _, _ => ⟨_, rfl, rfl⟩)
  exact ⟨_, fd, _, ds, T.g_Time, T.m_Time, ok_init T F, hb, hd⟩
theorem k_Time1 (T : Tm K mg) : GMk P w K mg base 2 "Time" (CT K) (spInit K) [.int 1] := by
  obtain ⟨fd, F⟩ := T.d_Time___init__
  obtain ⟨ds, hd, hb⟩ := F.binds1 (ps := ["self", "top", "bottom"]) 2 0 (List.cons_ne_nil _ _) rfl (fun _ _ _ _ _ _ _ us its h1 h2 => match us, its, h1, h2 with
    | [_, _], [_], _, _ => ⟨_, rfl, rfl⟩)
  exact ⟨_, fd, _, ds, T.g_Time, T.m_Time, ok_init T F, hb, hd⟩
section
variable {X : Cx} {σ : L2.St} {H : Hp} {Q : VK} {a b : Expr} {p pos : Pos} {k : Nat} {E : L2.St → XK}
/-- what a new time wants -/
def NewT (K : PySem.W.Frag) (t d : Int) (H : Hp) (Q : VK) : Prop := d ≠ 0 ∧ (g1 t d).natAbs < 2 ^ 9000 ∧ Ret H (TimeV (CT K) (Rat.divInt t d)) Q
theorem made_t {E : XK} {x dx : Addr} {t d : Int} {H : Hp} {Q : VK} (nx : H x = none) (nd : H dx = none) (ne : dx ≠ x) (h : NewT K t d H Q) : spInit K [.ref x, .int t, .int d] (upd (upd H dx (.own x)) x (.ins (CT K) dx [])) (fun v H2 => v = .non ∧ Q (.ref x) H2) E :=
  ⟨x, dx, t, d, rfl, upd_same, h.1, h.2.1, rfl, h.2.2 _ _ (Ex.made nx nd) ⟨x, dx, rfl, upd_same⟩⟩
theorem we_Time2 (B : Body X k E) (g : Gn X "Time") (T : Tm X.K X.mg) (hk : 3 ≤ k) (h : WE X a σ H fun x H1 => WE X b σ H1 fun y H2 => ∃ t d, x = .int t ∧ y = .int d ∧ NewT X.K t d H2 Q)
    (hs : starEach [a, b] X.env = (false, eval a X.env) :: starEach [b] X.env := by rfl) (ht : starEach [b] X.env = [(false, eval b X.env)] := by rfl) (hl : (backTo pos (starEach [b] X.env)).any (·.1) = false := by rfl) : WE X (.Call (.Name "Time" p) [a, b] [] pos) σ H Q :=
  we_make B g (k_Time2 (P := X.prog) (w := X.w) (base := X.base) T) hk (wa_two (we_mono h fun x H1 z => we_mono z fun y H2 z => by
    obtain ⟨t, d, rfl, rfl, z⟩ := z
    exact fun x dx nx nd ne => made_t nx nd ne z) hs ht) hs hl
theorem one_lt : (1 : Int).natAbs < 2 ^ 9000 := Nat.lt_of_lt_of_le (show 1 < 2 ^ 1 by decide) (Nat.pow_le_pow_right (by decide) (show 1 ≤ 9000 by decide))
theorem we_Time1 (B : Body X k E) (g : Gn X "Time") (T : Tm X.K X.mg) (hk : 3 ≤ k) (h : WE X a σ H fun x H1 => ∃ t, x = .int t ∧ Ret H1 (TimeV (CT X.K) (t : Rat)) Q)
    (hs : starEach [a] X.env = [(false, eval a X.env)] := by rfl) (hl : (backTo pos (starEach [] X.env)).any (·.1) = false := by rfl) : WE X (.Call (.Name "Time" p) [a] [] pos) σ H Q :=
  we_make B g (k_Time1 (P := X.prog) (w := X.w) (base := X.base) T) hk (wa_one (we_mono h fun x H1 z => by
    obtain ⟨t, rfl, z⟩ := z
    refine fun x dx nx nd ne => made_t nx nd ne ⟨by decide, ?_, by rw [int_eq]; exact z⟩
    exact g1_sz (by decide) one_lt) hs) hs hl
end
end
local macro_rules | `(tactic| walk_at "wE") => `(tactic| first | ((with_reducible refine' we_Time2 ?B ?g ?T ?hk ?_ ?h1 ?h2 ?h3); (case B => assumption); (case g => assumption); (case T => assumption); (case hk => decide); (case h1 => rfl); (case h2 => rfl); (case h3 => rfl)) | ((with_reducible refine' we_Time1 ?B ?g ?T ?hk ?_ ?h1 ?h2); (case B => assumption); (case g => assumption); (case T => assumption); (case hk => decide); (case h1 => rfl); (case h2 => rfl)) | fail)
section
variable {P : Program} {w : World} {K : PySem.W.Frag} {mg : Str → Option Value} {base : Heap}
def spTimeOf (K : PySem.W.Frag) : Sp := fun vs H Q E => ∃ v, vs = [v] ∧ ((∃ q, TimeV (CT K) q v H ∧ Q v H) ∨ (∃ i : Int, v = .int i ∧ Ret H (TimeV (CT K) (i : Rat)) Q) ∨
  ∃ t r1 r2, TyX K H v t ∧ PySem.W.kitOne K t (.ref (CT K)) = some false ∧ PySem.W.kitOne K t (.type "int") = some r1 ∧ PySem.W.kitOne K t (.type "bool") = some r2 ∧ (r1 && !r2) = false ∧ E (.ref (ga K "NoTime")) none H)
theorem f_time_of (T : Tm K mg) : GFn P w K mg base 4 "time_of" (spTimeOf K) := by
  obtain ⟨fd, F⟩ := T.d_time_of
  refine GFn.mk F T.g_time_of (def_ok F sc_time_of (fun vs H Q E h => by obtain ⟨v, rfl, _⟩ := h; rfl) ?_) (F.bindsN fun _ _ _ _ _ _ us hl => match us, hl with | [_], _ => rfl)
  intro X eP ew eK em eb eN es hf nd H vs Q E B h
  subst eP ew eK em eb
  have n0 : Sl X 0 "thing" := slot_of eN es hf nd rfl (by first | exact Or.inl rfl | exact Or.inr rfl) (by decide) (by decide)
  have z_isinstance : Bn X "isinstance" := bn_of es rfl T.z_isinstance
  have g_Time : Gn X "Time" := gn_of es rfl (by decide)
  have m_Time := T.g_Time
  have g_is_integer : Gn X "is_integer" := gn_of es rfl (by decide)
  have F_is_integer := f_is_integer (P := X.prog) (w := X.w) (base := X.base) T
  have g_NoTime : Gn X "NoTime" := gn_of es rfl (by decide)
  have m_NoTime := T.g_NoTime
  obtain ⟨v, rfl, h⟩ := h
  show WB X [_, _, _] _ [some v] H
  rcases h with ⟨q, hv, z⟩ | ⟨i, rfl, z⟩ | ⟨t, r1, r2, ht, h0, h1, h2, e, z⟩
  · repeat walk_at "w"
    refine ⟨true, ⟨_, _, .own _, tyT T hv, T.k_Time.self⟩, ?_⟩
    repeat walk_at "w"
    exact z
  · repeat walk_at "w"
    refine ⟨false, ⟨_, _, .own _, .base (.int i), T.k_Time.ofInt⟩, ?_⟩
    repeat walk_at "w"
    exact z
  · repeat walk_at "w"
    refine ⟨false, ⟨_, _, .own _, ht, h0⟩, ?_⟩
    repeat walk_at "w"
    refine ⟨v, t, r1, r2, rfl, ht, h1, h2, ?_⟩
    rw [e]
    repeat walk_at "w"
    exact ws_raise B g_NoTime m_NoTime T.x_NoTime z
theorem to_T {H : Hp} {Q : VK} {E : XK} {v : V} {q : Rat} (h : TimeV (CT K) q v H) (z : Q v H) : spTimeOf K [v] H Q E := ⟨v, rfl, .inl ⟨q, h, z⟩⟩
theorem to_int {H : Hp} {Q : VK} {E : XK} {i : Int} (z : Ret H (TimeV (CT K) (i : Rat)) Q) : spTimeOf K [.int i] H Q E := ⟨_, rfl, .inr (.inl ⟨i, rfl, z⟩)⟩
theorem to_tim {H : Hp} {Q : VK} {E : XK} {v : V} {q : Rat} (h : Tim K q v H) (z : Ret H (TimeV (CT K) q) Q) : spTimeOf K [v] H Q E := by
  rcases h with h | ⟨i, rfl, rfl⟩
  · exact to_T h (z.now h)
  · exact to_int z
end

/-! ### + - * of times -/
theorem tv_ok {C : Addr} {v : V} {H : Hp} {q : Rat} {R : Rat → Prop} (h : TimeV C q v H) (z : R q) : ∃ q, TimeV C q v H ∧ R q := ⟨q, h, z⟩
theorem cm_nn {q r : Rat} (h : Sz q 4000) (h' : Sz r 4000) : CMulW q.num r.num := wide_mul h.num h'.num (by decide) (by decide) (by decide)
theorem cm_nd {q r : Rat} (h : Sz q 4000) (h' : Sz r 4000) : CMulW q.num r.den := wide_mul h.num (by rw [Int.natAbs_natCast]; exact h'.den) (by decide) (by decide) (by decide)
theorem cm_dn {q r : Rat} (h : Sz q 4000) (h' : Sz r 4000) : CMulW q.den r.num := wide_mul (by rw [Int.natAbs_natCast]; exact h.den) h'.num (by decide) (by decide) (by decide)
theorem cm_dd {q r : Rat} (h : Sz q 4000) (h' : Sz r 4000) : CMulW q.den r.den := wide_mul (by rw [Int.natAbs_natCast]; exact h.den) (by rw [Int.natAbs_natCast]; exact h'.den) (by decide) (by decide) (by decide)
local macro_rules | `(tactic| walk_at "x") => `(tactic| first | assumption | exact Ex.refl _ | (refine Ex.trans ?_ (by assumption); walk_at "x"))
local macro_rules | `(tactic| walk_at "tv") => `(tactic| first | assumption | ((with_reducible refine' TimeV.mono ?x ?h); (case h => assumption); (case x => walk_at "x")))
local macro_rules | `(tactic| walk_at "sz") => `(tactic| first | exact cm_nd (by assumption) (by assumption) | exact cm_nn (by assumption) (by assumption) | exact cm_dd (by assumption) (by assumption) | exact cm_dn (by assumption) (by assumption))
local macro_rules | `(tactic| walk_at "wE") => `(tactic| first | ((with_reducible refine' we_over ?T ?_ ?hb); (case T => assumption); (case hb => rfl)) | ((with_reducible refine' we_under ?T ?_ ?hb); (case T => assumption); (case hb => rfl)) | fail)
local macro_rules | `(tactic| walk_at "wO") => `(tactic| first | ((with_reducible refine' o_mul ?hc ?_); (case hc => walk_at "sz")) | fail)
local macro_rules | `(tactic| walk_at "wX") => `(tactic| first | ((with_reducible refine' tv_ok ?h ?_); (case h => walk_at "tv")) | fail)
theorem dd_ne (q r : Rat) : (q.den : Int) * (r.den : Int) ≠ 0 := Int.mul_ne_zero (den_ne q) (den_ne r)
theorem dd_sz {q r : Rat} (h : Sz q 4000) (h' : Sz r 4000) : ((q.den : Int) * (r.den : Int)).natAbs < 2 ^ 9000 := by
  rw [Int.natAbs_mul, Int.natAbs_natCast, Int.natAbs_natCast]
  exact Nat.lt_of_lt_of_le (pow_add' h.den h'.den) (Nat.pow_le_pow_right (by decide) (by decide))
abbrev MT (K : PySem.W.Frag) (m : Str) : Addr := ma K (CT K) m

/-! ### + - * -/
section
variable {P : Program} {w : World} {K : PySem.W.Frag} {mg : Str → Option Value} {base : Heap}
/-- an operator of two times, or of a time and an int -/
def spOp (K : PySem.W.Frag) (f : Rat → Rat → Rat) : Sp := fun vs H Q _ => ∃ q r v u, vs = [v, u] ∧ TimeV (CT K) q v H ∧ Tim K r u H ∧ Sz q 4000 ∧ Sz r 4000 ∧ Ret H (TimeV (CT K) (f q r)) Q
theorem f_add (T : Tm K mg) : FnR P w K mg base (RX P w) 5 (MT K "__add__") (spOp K (· + ·)) := by
  obtain ⟨fd, F⟩ := T.d_Time___add__
  refine raw_of F (def_ok F sc_Time___add__ (fun vs H Q E h => by obtain ⟨q, r, v, u, rfl, _⟩ := h; rfl) ?_) (F.bindsN fun _ _ _ _ _ _ us hl => match us, hl with | [_, _], _ => rfl)
  intro X eP ew eK em eb eN es hf nd H vs Q E B h
  subst eP ew eK em eb
  have n0 : Sl X 0 "self" := slot_of eN es hf nd rfl (by first | exact Or.inl rfl | exact Or.inr rfl) (by decide) (by decide)
  have n1 : Sl X 1 "other" := slot_of eN es hf nd rfl (by first | exact Or.inl rfl | exact Or.inr rfl) (by decide) (by decide)
  have n2 : Sl X 2 "more" := slot_of eN es hf nd rfl (by first | exact Or.inl rfl | exact Or.inr rfl) (by decide) (by decide)
  have n3 : Sl X 3 "top" := slot_of eN es hf nd rfl (by first | exact Or.inl rfl | exact Or.inr rfl) (by decide) (by decide)
  have g_is_time : Gn X "is_time" := gn_of es rfl (by decide)
  have F_is_time := f_is_time (P := X.prog) (w := X.w) (base := X.base) T
  have g_time_of : Gn X "time_of" := gn_of es rfl (by decide)
  have F_time_of := f_time_of (P := X.prog) (w := X.w) (base := X.base) T
  have g_Time : Gn X "Time" := gn_of es rfl (by decide)
  have m_Time := T.g_Time
  obtain ⟨q, r, v, u, rfl, hv, hu, hq, hr, z⟩ := h
  show WB X [_, _, _, _] _ [some v, some u, none, none] H
  repeat walk_at "w"
  refine it_tim T hu ?_
  repeat walk_at "w"
  refine to_tim hu fun y H1 x1 hy => ?_
  repeat walk_at "w"
  exact ⟨_, _, rfl, rfl, dd_ne q r, g1_sz (dd_ne q r) (dd_sz hq hr), by rw [add_eq]; exact z.mono x1⟩
theorem f_sub (T : Tm K mg) : FnR P w K mg base (RX P w) 5 (MT K "__sub__") (spOp K (· - ·)) := by
  obtain ⟨fd, F⟩ := T.d_Time___sub__
  refine raw_of F (def_ok F sc_Time___sub__ (fun vs H Q E h => by obtain ⟨q, r, v, u, rfl, _⟩ := h; rfl) ?_) (F.bindsN fun _ _ _ _ _ _ us hl => match us, hl with | [_, _], _ => rfl)
  intro X eP ew eK em eb eN es hf nd H vs Q E B h
  subst eP ew eK em eb
  have n0 : Sl X 0 "self" := slot_of eN es hf nd rfl (by first | exact Or.inl rfl | exact Or.inr rfl) (by decide) (by decide)
  have n1 : Sl X 1 "other" := slot_of eN es hf nd rfl (by first | exact Or.inl rfl | exact Or.inr rfl) (by decide) (by decide)
  have n2 : Sl X 2 "less" := slot_of eN es hf nd rfl (by first | exact Or.inl rfl | exact Or.inr rfl) (by decide) (by decide)
  have n3 : Sl X 3 "top" := slot_of eN es hf nd rfl (by first | exact Or.inl rfl | exact Or.inr rfl) (by decide) (by decide)
  have g_is_time : Gn X "is_time" := gn_of es rfl (by decide)
  have F_is_time := f_is_time (P := X.prog) (w := X.w) (base := X.base) T
  have g_time_of : Gn X "time_of" := gn_of es rfl (by decide)
  have F_time_of := f_time_of (P := X.prog) (w := X.w) (base := X.base) T
  have g_Time : Gn X "Time" := gn_of es rfl (by decide)
  have m_Time := T.g_Time
  obtain ⟨q, r, v, u, rfl, hv, hu, hq, hr, z⟩ := h
  show WB X [_, _, _, _] _ [some v, some u, none, none] H
  repeat walk_at "w"
  refine it_tim T hu ?_
  repeat walk_at "w"
  refine to_tim hu fun y H1 x1 hy => ?_
  repeat walk_at "w"
  exact ⟨_, _, rfl, rfl, dd_ne q r, g1_sz (dd_ne q r) (dd_sz hq hr), by rw [sub_eq]; exact z.mono x1⟩
theorem f_mul (T : Tm K mg) : FnR P w K mg base (RX P w) 5 (MT K "__mul__") (spOp K (· * ·)) := by
  obtain ⟨fd, F⟩ := T.d_Time___mul__
  refine raw_of F (def_ok F sc_Time___mul__ (fun vs H Q E h => by obtain ⟨q, r, v, u, rfl, _⟩ := h; rfl) ?_) (F.bindsN fun _ _ _ _ _ _ us hl => match us, hl with | [_, _], _ => rfl)
  intro X eP ew eK em eb eN es hf nd H vs Q E B h
  subst eP ew eK em eb
  have n0 : Sl X 0 "self" := slot_of eN es hf nd rfl (by first | exact Or.inl rfl | exact Or.inr rfl) (by decide) (by decide)
  have n1 : Sl X 1 "other" := slot_of eN es hf nd rfl (by first | exact Or.inl rfl | exact Or.inr rfl) (by decide) (by decide)
  have n2 : Sl X 2 "by" := slot_of eN es hf nd rfl (by first | exact Or.inl rfl | exact Or.inr rfl) (by decide) (by decide)
  have g_is_time : Gn X "is_time" := gn_of es rfl (by decide)
  have F_is_time := f_is_time (P := X.prog) (w := X.w) (base := X.base) T
  have g_time_of : Gn X "time_of" := gn_of es rfl (by decide)
  have F_time_of := f_time_of (P := X.prog) (w := X.w) (base := X.base) T
  have g_Time : Gn X "Time" := gn_of es rfl (by decide)
  have m_Time := T.g_Time
  obtain ⟨q, r, v, u, rfl, hv, hu, hq, hr, z⟩ := h
  show WB X [_, _, _] _ [some v, some u, none] H
  repeat walk_at "w"
  refine it_tim T hu ?_
  repeat walk_at "w"
  refine to_tim hu fun y H1 x1 hy => ?_
  repeat walk_at "w"
  exact ⟨_, _, rfl, rfl, dd_ne q r, g1_sz (dd_ne q r) (dd_sz hq hr), by rw [mul_eq]; exact z.mono x1⟩
/-! the operators, by the kinds of their sides -/
section
variable {X : Cx} {k : Nat} {E : XK} {H : Hp} {Q : VK} {v u : V} {q r : Rat}
theorem o_addT (B : Body X k fun _ => E) (T : Tm X.K X.mg) (hk : 5 ≤ k) (hv : TimeV (CT X.K) q v H) (hu : Tim X.K r u H) (hq : Sz q 4000) (hr : Sz r 4000) (z : Ret H (TimeV (CT X.K) (q + r)) Q) : Op2 X (binaryOp .Add) v u H Q := by
  have s : spOp X.K (· + ·) [v, u] H Q E := ⟨q, r, v, u, rfl, hv, hu, hq, hr, z⟩
  obtain ⟨p, dx, rfl, hp⟩ := hv
  rcases hu with ⟨p', dx', rfl, hp'⟩ | ⟨i, rfl, _⟩
  · exact bin_tt B T.b_Time___add__ (f_add T) hk hp hp' s
  · exact bin_ti B T.b_Time___add__ (f_add T) hk hp s
theorem o_subT (B : Body X k fun _ => E) (T : Tm X.K X.mg) (hk : 5 ≤ k) (hv : TimeV (CT X.K) q v H) (hu : Tim X.K r u H) (hq : Sz q 4000) (hr : Sz r 4000) (z : Ret H (TimeV (CT X.K) (q - r)) Q) : Op2 X (binaryOp .Sub) v u H Q := by
  have s : spOp X.K (· - ·) [v, u] H Q E := ⟨q, r, v, u, rfl, hv, hu, hq, hr, z⟩
  obtain ⟨p, dx, rfl, hp⟩ := hv
  rcases hu with ⟨p', dx', rfl, hp'⟩ | ⟨i, rfl, _⟩
  · exact bin_tt B T.b_Time___sub__ (f_sub T) hk hp hp' s
  · exact bin_ti B T.b_Time___sub__ (f_sub T) hk hp s
theorem o_mulT (B : Body X k fun _ => E) (T : Tm X.K X.mg) (hk : 5 ≤ k) (hv : TimeV (CT X.K) q v H) (hu : Tim X.K r u H) (hq : Sz q 4000) (hr : Sz r 4000) (z : Ret H (TimeV (CT X.K) (q * r)) Q) : Op2 X (binaryOp .Mult) v u H Q := by
  have s : spOp X.K (· * ·) [v, u] H Q E := ⟨q, r, v, u, rfl, hv, hu, hq, hr, z⟩
  obtain ⟨p, dx, rfl, hp⟩ := hv
  rcases hu with ⟨p', dx', rfl, hp'⟩ | ⟨i, rfl, _⟩
  · exact bin_tt B T.b_Time___mul__ (f_mul T) hk hp hp' s
  · exact bin_ti B T.b_Time___mul__ (f_mul T) hk hp s
end
/-! ### int + time .. -/
def spROp (K : PySem.W.Frag) (f : Rat → Rat → Rat) : Sp := fun vs H Q _ => ∃ (q : Rat) (i : Int) (v : V), vs = [v, .int i] ∧ TimeV (CT K) q v H ∧ Sz q 4000 ∧ Sz (i : Rat) 4000 ∧ Ret H (TimeV (CT K) (f i q)) Q
theorem f_radd (T : Tm K mg) : FnR P w K mg base (RX P w) 6 (MT K "__radd__") (spROp K (· + ·)) := by
  obtain ⟨fd, F⟩ := T.d_Time___radd__
  refine raw_of F (def_ok F sc_Time___radd__ (fun vs H Q E h => by obtain ⟨q, i, v, rfl, _⟩ := h; rfl) ?_) (F.bindsN fun _ _ _ _ _ _ us hl => match us, hl with | [_, _], _ => rfl)
  intro X eP ew eK em eb eN es hf nd H vs Q E B h
  subst eP ew eK em eb
  have n0 : Sl X 0 "self" := slot_of eN es hf nd rfl (by first | exact Or.inl rfl | exact Or.inr rfl) (by decide) (by decide)
  have n1 : Sl X 1 "other" := slot_of eN es hf nd rfl (by first | exact Or.inl rfl | exact Or.inr rfl) (by decide) (by decide)
  have g_is_time : Gn X "is_time" := gn_of es rfl (by decide)
  have F_is_time := f_is_time (P := X.prog) (w := X.w) (base := X.base) T
  obtain ⟨q, i, v, rfl, hv, hq, hr, z⟩ := h
  show WB X [_, _] _ [some v, some (.int i)] H
  repeat walk_at "w"
  refine o_addT B T (by decide) hv (.inr ⟨i, rfl, rfl⟩) hq hr ?_
  rw [Rat.add_comm]
  exact z
theorem f_rmul (T : Tm K mg) : FnR P w K mg base (RX P w) 6 (MT K "__rmul__") (spROp K (· * ·)) := by
  obtain ⟨fd, F⟩ := T.d_Time___rmul__
  refine raw_of F (def_ok F sc_Time___rmul__ (fun vs H Q E h => by obtain ⟨q, i, v, rfl, _⟩ := h; rfl) ?_) (F.bindsN fun _ _ _ _ _ _ us hl => match us, hl with | [_, _], _ => rfl)
  intro X eP ew eK em eb eN es hf nd H vs Q E B h
  subst eP ew eK em eb
  have n0 : Sl X 0 "self" := slot_of eN es hf nd rfl (by first | exact Or.inl rfl | exact Or.inr rfl) (by decide) (by decide)
  have n1 : Sl X 1 "other" := slot_of eN es hf nd rfl (by first | exact Or.inl rfl | exact Or.inr rfl) (by decide) (by decide)
  have g_is_time : Gn X "is_time" := gn_of es rfl (by decide)
  have F_is_time := f_is_time (P := X.prog) (w := X.w) (base := X.base) T
  obtain ⟨q, i, v, rfl, hv, hq, hr, z⟩ := h
  show WB X [_, _] _ [some v, some (.int i)] H
  repeat walk_at "w"
  refine o_mulT B T (by decide) hv (.inr ⟨i, rfl, rfl⟩) hq hr ?_
  rw [Rat.mul_comm]
  exact z
theorem f_rsub (T : Tm K mg) : FnR P w K mg base (RX P w) 6 (MT K "__rsub__") (spROp K (· - ·)) := by
  obtain ⟨fd, F⟩ := T.d_Time___rsub__
  refine raw_of F (def_ok F sc_Time___rsub__ (fun vs H Q E h => by obtain ⟨q, i, v, rfl, _⟩ := h; rfl) ?_) (F.bindsN fun _ _ _ _ _ _ us hl => match us, hl with | [_, _], _ => rfl)
  intro X eP ew eK em eb eN es hf nd H vs Q E B h
  subst eP ew eK em eb
  have n0 : Sl X 0 "self" := slot_of eN es hf nd rfl (by first | exact Or.inl rfl | exact Or.inr rfl) (by decide) (by decide)
  have n1 : Sl X 1 "other" := slot_of eN es hf nd rfl (by first | exact Or.inl rfl | exact Or.inr rfl) (by decide) (by decide)
  have g_is_time : Gn X "is_time" := gn_of es rfl (by decide)
  have F_is_time := f_is_time (P := X.prog) (w := X.w) (base := X.base) T
  have g_time_of : Gn X "time_of" := gn_of es rfl (by decide)
  have F_time_of := f_time_of (P := X.prog) (w := X.w) (base := X.base) T
  obtain ⟨q, i, v, rfl, hv, hq, hr, z⟩ := h
  show WB X [_, _] _ [some v, some (.int i)] H
  repeat walk_at "w"
  refine to_int fun y H1 x1 hy => ?_
  repeat walk_at "w"
  exact o_subT B T (by decide) hy (.inl (hv.mono x1)) hr hq (z.mono x1)
section
variable {X : Cx} {k : Nat} {E : XK} {H : Hp} {Q : VK} {v : V} {q : Rat} {i : Int}
theorem o_addI (B : Body X k fun _ => E) (T : Tm X.K X.mg) (hk : 6 ≤ k) (hv : TimeV (CT X.K) q v H) (hq : Sz q 4000) (hr : Sz (i : Rat) 4000) (z : Ret H (TimeV (CT X.K) (i + q)) Q) : Op2 X (binaryOp .Add) (.int i) v H Q := by
  have s : spROp X.K (· + ·) [v, .int i] H Q E := ⟨q, i, v, rfl, hv, hq, hr, z⟩
  obtain ⟨p, dx, rfl, hp⟩ := hv
  exact bin_it B T.r_Time___radd__ PySem.F.fills_int_add idecl_add (f_radd T) hk hp s
theorem o_subI (B : Body X k fun _ => E) (T : Tm X.K X.mg) (hk : 6 ≤ k) (hv : TimeV (CT X.K) q v H) (hq : Sz q 4000) (hr : Sz (i : Rat) 4000) (z : Ret H (TimeV (CT X.K) (i - q)) Q) : Op2 X (binaryOp .Sub) (.int i) v H Q := by
  have s : spROp X.K (· - ·) [v, .int i] H Q E := ⟨q, i, v, rfl, hv, hq, hr, z⟩
  obtain ⟨p, dx, rfl, hp⟩ := hv
  exact bin_it B T.r_Time___rsub__ PySem.F.fills_int_sub idecl_sub (f_rsub T) hk hp s
theorem o_mulI (B : Body X k fun _ => E) (T : Tm X.K X.mg) (hk : 6 ≤ k) (hv : TimeV (CT X.K) q v H) (hq : Sz q 4000) (hr : Sz (i : Rat) 4000) (z : Ret H (TimeV (CT X.K) (i * q)) Q) : Op2 X (binaryOp .Mult) (.int i) v H Q := by
  have s : spROp X.K (· * ·) [v, .int i] H Q E := ⟨q, i, v, rfl, hv, hq, hr, z⟩
  obtain ⟨p, dx, rfl, hp⟩ := hv
  exact bin_it B T.r_Time___rmul__ PySem.F.fills_int_mul idecl_mul (f_rmul T) hk hp s
end
end

/-! ### -time, abs(time), top, bottom, += -= *= -/
section
variable {P : Program} {w : World} {K : PySem.W.Frag} {mg : Str → Option Value} {base : Heap}
abbrev rabs := Mt.rabs
def spUn (K : PySem.W.Frag) (f : Rat → Rat) : Sp := fun vs H Q _ => ∃ q v, vs = [v] ∧ TimeV (CT K) q v H ∧ Sz q 8000 ∧ Ret H (TimeV (CT K) (f q)) Q
theorem den_sz {q : Rat} (h : Sz q 8000) : (q.den : Int).natAbs < 2 ^ 9000 := by
  rw [Int.natAbs_natCast]
  exact (h.mono (show 8000 ≤ 9000 by decide)).den
theorem f_neg (T : Tm K mg) : FnR P w K mg base (RX P w) 4 (MT K "__neg__") (spUn K (- ·)) := by
  obtain ⟨fd, F⟩ := T.d_Time___neg__
  refine raw_of F (def_ok F sc_Time___neg__ (fun vs H Q E h => by obtain ⟨q, v, rfl, _⟩ := h; rfl) ?_) (F.bindsN fun _ _ _ _ _ _ us hl => match us, hl with | [_], _ => rfl)
  intro X eP ew eK em eb eN es hf nd H vs Q E B h
  subst eP ew eK em eb
  have n0 : Sl X 0 "self" := slot_of eN es hf nd rfl (by first | exact Or.inl rfl | exact Or.inr rfl) (by decide) (by decide)
  have g_Time : Gn X "Time" := gn_of es rfl (by decide)
  have m_Time := T.g_Time
  obtain ⟨q, v, rfl, hv, hq, z⟩ := h
  show WB X [_] _ [some v] H
  repeat walk_at "w"
  exact ⟨_, _, rfl, rfl, den_ne q, g1_sz (den_ne q) (den_sz hq), by rw [neg_eq]; exact z⟩
theorem f_abs (T : Tm K mg) : FnR P w K mg base (RX P w) 4 (MT K "__abs__") (spUn K rabs) := by
  obtain ⟨fd, F⟩ := T.d_Time___abs__
  refine raw_of F (def_ok F sc_Time___abs__ (fun vs H Q E h => by obtain ⟨q, v, rfl, _⟩ := h; rfl) ?_) (F.bindsN fun _ _ _ _ _ _ us hl => match us, hl with | [_], _ => rfl)
  intro X eP ew eK em eb eN es hf nd H vs Q E B h
  subst eP ew eK em eb
  have n0 : Sl X 0 "self" := slot_of eN es hf nd rfl (by first | exact Or.inl rfl | exact Or.inr rfl) (by decide) (by decide)
  have g_Time : Gn X "Time" := gn_of es rfl (by decide)
  have m_Time := T.g_Time
  have z_abs : Bn X "abs" := bn_of es rfl T.z_abs
  obtain ⟨q, v, rfl, hv, hq, z⟩ := h
  show WB X [_] _ [some v] H
  repeat walk_at "w"
  refine we_abs z_abs ?_
  repeat walk_at "w"
  exact ⟨_, _, rfl, rfl, den_ne q, g1_sz (den_ne q) (den_sz hq), z⟩
section
variable {X : Cx} {k : Nat} {E : XK} {σ : L2.St} {H : Hp} {Q : VK} {v u : V} {q r : Rat} {a e : Expr} {p pos : Pos}
theorem o_negT (B : Body X k fun _ => E) (T : Tm X.K X.mg) (hk : 4 ≤ k) (hv : TimeV (CT X.K) q v H) (hq : Sz q 8000) (z : Ret H (TimeV (CT X.K) (-q)) Q) : Op1 X (unaryOp .USub) v H Q := by
  have s : spUn X.K (- ·) [v] H Q E := ⟨q, v, rfl, hv, hq, z⟩
  obtain ⟨p, dx, rfl, hp⟩ := hv
  exact neg_t B T.u_Time_neg (f_neg T) hk hp s
theorem we_absTim (bn : Bn X "abs") (B : Body X k fun _ => E) (T : Tm X.K X.mg) (hk : 5 ≤ k) (h : WE X a σ H fun v H1 => ∃ q, TimeV (CT X.K) q v H1 ∧ Sz q 8000 ∧ Ret H1 (TimeV (CT X.K) (rabs q)) Q) (hs : starEach [a] X.env = [(false, eval a X.env)] := by rfl) (hl : (backTo pos (starEach [] X.env)).any (·.1) = false := by rfl) :
    WE X (.Call (.Name "abs" p) [a] [] pos) σ H Q := we_absT bn B T.u_Time_abs (f_abs T) hk (we_mono h fun v H1 z => by
  obtain ⟨q, ⟨x, dx, rfl, hp⟩, hq, z⟩ := z
  exact ⟨x, dx, _, rfl, hp, q, _, rfl, ⟨x, dx, rfl, hp⟩, hq, z⟩) hs hl
theorem i_addT (B : Body X k fun _ => E) (T : Tm X.K X.mg) (hk : 5 ≤ k) (hv : TimeV (CT X.K) q v H) (hu : TimeV (CT X.K) r u H) (hq : Sz q 4000) (hr : Sz r 4000) (z : Ret H (TimeV (CT X.K) (q + r)) Q) : Op2 X (inplaceOp .Add) v u H Q := by
  have s : spOp X.K (· + ·) [v, u] H Q E := ⟨q, r, v, u, rfl, hv, .inl hu, hq, hr, z⟩
  obtain ⟨p, dx, rfl, hp⟩ := hv
  obtain ⟨p', dx', rfl, hp'⟩ := hu
  exact inp_tt B T.ni_Time___add__ T.b_Time___add__ (f_add T) hk hp hp' s
theorem i_subT (B : Body X k fun _ => E) (T : Tm X.K X.mg) (hk : 5 ≤ k) (hv : TimeV (CT X.K) q v H) (hu : TimeV (CT X.K) r u H) (hq : Sz q 4000) (hr : Sz r 4000) (z : Ret H (TimeV (CT X.K) (q - r)) Q) : Op2 X (inplaceOp .Sub) v u H Q := by
  have s : spOp X.K (· - ·) [v, u] H Q E := ⟨q, r, v, u, rfl, hv, .inl hu, hq, hr, z⟩
  obtain ⟨p, dx, rfl, hp⟩ := hv
  obtain ⟨p', dx', rfl, hp'⟩ := hu
  exact inp_tt B T.ni_Time___sub__ T.b_Time___sub__ (f_sub T) hk hp hp' s
theorem i_mulT (B : Body X k fun _ => E) (T : Tm X.K X.mg) (hk : 5 ≤ k) (hv : TimeV (CT X.K) q v H) (hu : TimeV (CT X.K) r u H) (hq : Sz q 4000) (hr : Sz r 4000) (z : Ret H (TimeV (CT X.K) (q * r)) Q) : Op2 X (inplaceOp .Mult) v u H Q := by
  have s : spOp X.K (· * ·) [v, u] H Q E := ⟨q, r, v, u, rfl, hv, .inl hu, hq, hr, z⟩
  obtain ⟨p, dx, rfl, hp⟩ := hv
  obtain ⟨p', dx', rfl, hp'⟩ := hu
  exact inp_tt B T.ni_Time___mul__ T.b_Time___mul__ (f_mul T) hk hp hp' s
end
def spPart (K : PySem.W.Frag) (f : Rat → Int) : Sp := fun vs H Q _ => ∃ q v, vs = [v] ∧ TimeV (CT K) q v H ∧ Q (.int (f q)) H
theorem ok_top (T : Tm K mg) : ∃ fd, FnOk P w K mg base (RX P w) 1 (pgA K (CT K) "top") fd ["self"] (spPart K (·.num)) ∧ Binds K fd ["self"] [] := by
  obtain ⟨fd, F⟩ := T.d_Time_top
  refine ⟨fd, def_ok F sc_Time_top (fun vs H Q E h => by obtain ⟨q, v, rfl, _⟩ := h; rfl) ?_, (F.bindsN fun _ _ _ _ _ _ us hl => match us, hl with | [_], _ => rfl)⟩
  intro X eP ew eK em eb eN es hf nd H vs Q E B h
  subst eP ew eK em eb
  have n0 : Sl X 0 "self" := slot_of eN es hf nd rfl (by first | exact Or.inl rfl | exact Or.inr rfl) (by decide) (by decide)
  obtain ⟨q, v, rfl, hv, z⟩ := h
  show WB X [_] _ [some v] H
  repeat walk_at "w"
  exact z
theorem ok_bottom (T : Tm K mg) : ∃ fd, FnOk P w K mg base (RX P w) 1 (pgA K (CT K) "bottom") fd ["self"] (spPart K (·.den)) ∧ Binds K fd ["self"] [] := by
  obtain ⟨fd, F⟩ := T.d_Time_bottom
  refine ⟨fd, def_ok F sc_Time_bottom (fun vs H Q E h => by obtain ⟨q, v, rfl, _⟩ := h; rfl) ?_, (F.bindsN fun _ _ _ _ _ _ us hl => match us, hl with | [_], _ => rfl)⟩
  intro X eP ew eK em eb eN es hf nd H vs Q E B h
  subst eP ew eK em eb
  have n0 : Sl X 0 "self" := slot_of eN es hf nd rfl (by first | exact Or.inl rfl | exact Or.inr rfl) (by decide) (by decide)
  obtain ⟨q, v, rfl, hv, z⟩ := h
  show WB X [_] _ [some v] H
  repeat walk_at "w"
  exact z
end
section
variable {X : Cx} {k : Nat} {E : L2.St → XK} {σ : L2.St} {H : Hp} {Q : VK} {e : Expr} {pos : Pos}
theorem we_top (B : Body X k E) (T : Tm X.K X.mg) (hk : 2 ≤ k) (h : WE X e σ H fun y H1 => ∃ q, TimeV (CT X.K) q y H1 ∧ Q (.int q.num) H1) (he : attributeBase e "top" X.env (eval e X.env) = eval e X.env := by rfl) : WE X (.Attribute e "top" pos) σ H Q := by
  obtain ⟨fd, F, hb⟩ := ok_top (P := X.prog) (w := X.w) (base := X.base) T
  refine we_prop B T.c_Time.cl T.p_Time_top F hk hb .nil (we_mono h fun y H1 z => ?_) he
  obtain ⟨q, ⟨x, dx, rfl, hp⟩, z⟩ := z
  exact ⟨x, dx, _, rfl, hp, q, _, rfl, ⟨x, dx, rfl, hp⟩, z⟩
theorem we_bottom (B : Body X k E) (T : Tm X.K X.mg) (hk : 2 ≤ k) (h : WE X e σ H fun y H1 => ∃ q, TimeV (CT X.K) q y H1 ∧ Q (.int q.den) H1) (he : attributeBase e "bottom" X.env (eval e X.env) = eval e X.env := by rfl) : WE X (.Attribute e "bottom" pos) σ H Q := by
  obtain ⟨fd, F, hb⟩ := ok_bottom (P := X.prog) (w := X.w) (base := X.base) T
  refine we_prop B T.c_Time.cl T.p_Time_bottom F hk hb .nil (we_mono h fun y H1 z => ?_) he
  obtain ⟨q, ⟨x, dx, rfl, hp⟩, z⟩ := z
  exact ⟨x, dx, _, rfl, hp, q, _, rfl, ⟨x, dx, rfl, hp⟩, z⟩
end
local macro_rules | `(tactic| walk_at "wE") => `(tactic| first | ((with_reducible refine' we_top ?B ?T ?hk ?_ ?hb); (case B => assumption); (case T => assumption); (case hk => decide); (case hb => rfl)) | ((with_reducible refine' we_bottom ?B ?T ?hk ?_ ?hb); (case B => assumption); (case T => assumption); (case hk => decide); (case hb => rfl)) | fail)

/-! ### comparisons of times -/
def Bl (H : Hp) (r : Bool) (Q : VK) : Prop := ∀ H', Ex H H' → Q (.bl r) H'
theorem bl_i {H : Hp} {r : Bool} {Q : VK} (h : ∀ H', Ex H H' → Q (.bl r) H') : Bl H r Q := h
theorem Bl.mono {H H' : Hp} {r : Bool} {Q : VK} (k : Bl H r Q) (x : Ex H H') : Bl H' r Q := fun H2 y => k H2 (x.trans y)
theorem rat_ext {q r : Rat} : (q.num = r.num ∧ (q.den : Int) = r.den) ↔ q = r := by
  constructor
  · rintro ⟨h1, h2⟩
    exact Rat.ext h1 (by omega)
  · rintro rfl
    exact ⟨rfl, rfl⟩
local macro_rules | `(tactic| walk_at "wX") => `(tactic| first | with_reducible refine' bl_i fun _ _ => ?_ | with_reducible refine' ret_i fun _ _ _ _ => ?_ | fail)
section
variable {P : Program} {w : World} {K : PySem.W.Frag} {mg : Str → Option Value} {base : Heap}
def spCmp (K : PySem.W.Frag) (f : Rat → Rat → Bool) : Sp := fun vs H Q _ => ∃ q r v u, vs = [v, u] ∧ TimeV (CT K) q v H ∧ Tim K r u H ∧ Sz q 4000 ∧ Sz r 4000 ∧ Bl H (f q r) Q
theorem f_eq (T : Tm K mg) : FnR P w K mg base (RX P w) 5 (MT K "__eq__") (spCmp K fun q r => decide (q = r)) := by
  obtain ⟨fd, F⟩ := T.d_Time___eq__
  refine raw_of F (def_ok F sc_Time___eq__ (fun vs H Q E h => by obtain ⟨q, r, v, u, rfl, _⟩ := h; rfl) ?_) (F.bindsN fun _ _ _ _ _ _ us hl => match us, hl with | [_, _], _ => rfl)
  intro X eP ew eK em eb eN es hf nd H vs Q E B h
  subst eP ew eK em eb
  have n0 : Sl X 0 "self" := slot_of eN es hf nd rfl (by first | exact Or.inl rfl | exact Or.inr rfl) (by decide) (by decide)
  have n1 : Sl X 1 "other" := slot_of eN es hf nd rfl (by first | exact Or.inl rfl | exact Or.inr rfl) (by decide) (by decide)
  have n2 : Sl X 2 "same" := slot_of eN es hf nd rfl (by first | exact Or.inl rfl | exact Or.inr rfl) (by decide) (by decide)
  have g_is_time : Gn X "is_time" := gn_of es rfl (by decide)
  have F_is_time := f_is_time (P := X.prog) (w := X.w) (base := X.base) T
  have g_time_of : Gn X "time_of" := gn_of es rfl (by decide)
  have F_time_of := f_time_of (P := X.prog) (w := X.w) (base := X.base) T
  obtain ⟨q, r, v, u, rfl, hv, hu, hq, hr, z⟩ := h
  show WB X [_, _, _] _ [some (v), some (u), none] H
  repeat walk_at "w"
  refine it_tim T hu ?_
  repeat walk_at "w"
  refine to_tim hu fun y H1 x1 hy => ?_
  repeat walk_at "w"
  have e := rat_ext (q := q) (r := r)
  refine ite_dec (fun h1 => ?_) (fun h1 => ?_)
  · repeat walk_at "w"
    have e2 : decide ((q.den : Int) = r.den) = decide (q = r) := by
      congr 1
      exact propext ⟨fun h => e.mp ⟨h1, h⟩, fun h => (e.mpr h).2⟩
    rw [e2]
    exact z _ x1
  · have e2 : decide (q = r) = false := decide_eq_false fun h => h1 (e.mpr h).1
    have z : Bl H (decide (q = r)) Q := z
    rw [e2] at z
    exact z _ x1
theorem f_lt (T : Tm K mg) : FnR P w K mg base (RX P w) 5 (MT K "__lt__") (spCmp K fun q r => decide (q < r)) := by
  obtain ⟨fd, F⟩ := T.d_Time___lt__
  refine raw_of F (def_ok F sc_Time___lt__ (fun vs H Q E h => by obtain ⟨q, r, v, u, rfl, _⟩ := h; rfl) ?_) (F.bindsN fun _ _ _ _ _ _ us hl => match us, hl with | [_, _], _ => rfl)
  intro X eP ew eK em eb eN es hf nd H vs Q E B h
  subst eP ew eK em eb
  have n0 : Sl X 0 "self" := slot_of eN es hf nd rfl (by first | exact Or.inl rfl | exact Or.inr rfl) (by decide) (by decide)
  have n1 : Sl X 1 "other" := slot_of eN es hf nd rfl (by first | exact Or.inl rfl | exact Or.inr rfl) (by decide) (by decide)
  have n2 : Sl X 2 "later" := slot_of eN es hf nd rfl (by first | exact Or.inl rfl | exact Or.inr rfl) (by decide) (by decide)
  have g_is_time : Gn X "is_time" := gn_of es rfl (by decide)
  have F_is_time := f_is_time (P := X.prog) (w := X.w) (base := X.base) T
  have g_time_of : Gn X "time_of" := gn_of es rfl (by decide)
  have F_time_of := f_time_of (P := X.prog) (w := X.w) (base := X.base) T
  obtain ⟨q, r, v, u, rfl, hv, hu, hq, hr, z⟩ := h
  show WB X [_, _, _] _ [some (v), some (u), none] H
  repeat walk_at "w"
  refine it_tim T hu ?_
  repeat walk_at "w"
  refine to_tim hu fun y H1 x1 hy => ?_
  repeat walk_at "w"
  rw [show decide (q.num * (r.den : Int) < r.num * (q.den : Int)) = decide (q < r) from by congr 1; exact propext (Rat.lt_iff q r).symm]
  exact z _ x1
theorem f_le (T : Tm K mg) : FnR P w K mg base (RX P w) 5 (MT K "__le__") (spCmp K fun q r => decide (q ≤ r)) := by
  obtain ⟨fd, F⟩ := T.d_Time___le__
  refine raw_of F (def_ok F sc_Time___le__ (fun vs H Q E h => by obtain ⟨q, r, v, u, rfl, _⟩ := h; rfl) ?_) (F.bindsN fun _ _ _ _ _ _ us hl => match us, hl with | [_, _], _ => rfl)
  intro X eP ew eK em eb eN es hf nd H vs Q E B h
  subst eP ew eK em eb
  have n0 : Sl X 0 "self" := slot_of eN es hf nd rfl (by first | exact Or.inl rfl | exact Or.inr rfl) (by decide) (by decide)
  have n1 : Sl X 1 "other" := slot_of eN es hf nd rfl (by first | exact Or.inl rfl | exact Or.inr rfl) (by decide) (by decide)
  have n2 : Sl X 2 "later" := slot_of eN es hf nd rfl (by first | exact Or.inl rfl | exact Or.inr rfl) (by decide) (by decide)
  have g_is_time : Gn X "is_time" := gn_of es rfl (by decide)
  have F_is_time := f_is_time (P := X.prog) (w := X.w) (base := X.base) T
  have g_time_of : Gn X "time_of" := gn_of es rfl (by decide)
  have F_time_of := f_time_of (P := X.prog) (w := X.w) (base := X.base) T
  obtain ⟨q, r, v, u, rfl, hv, hu, hq, hr, z⟩ := h
  show WB X [_, _, _] _ [some (v), some (u), none] H
  repeat walk_at "w"
  refine it_tim T hu ?_
  repeat walk_at "w"
  refine to_tim hu fun y H1 x1 hy => ?_
  repeat walk_at "w"
  rw [show decide (q.num * (r.den : Int) ≤ r.num * (q.den : Int)) = decide (q ≤ r) from by congr 1; exact propext (Rat.le_iff q r).symm]
  exact z _ x1
theorem f_gt (T : Tm K mg) : FnR P w K mg base (RX P w) 5 (MT K "__gt__") (spCmp K fun q r => decide (r < q)) := by
  obtain ⟨fd, F⟩ := T.d_Time___gt__
  refine raw_of F (def_ok F sc_Time___gt__ (fun vs H Q E h => by obtain ⟨q, r, v, u, rfl, _⟩ := h; rfl) ?_) (F.bindsN fun _ _ _ _ _ _ us hl => match us, hl with | [_, _], _ => rfl)
  intro X eP ew eK em eb eN es hf nd H vs Q E B h
  subst eP ew eK em eb
  have n0 : Sl X 0 "self" := slot_of eN es hf nd rfl (by first | exact Or.inl rfl | exact Or.inr rfl) (by decide) (by decide)
  have n1 : Sl X 1 "other" := slot_of eN es hf nd rfl (by first | exact Or.inl rfl | exact Or.inr rfl) (by decide) (by decide)
  have n2 : Sl X 2 "sooner" := slot_of eN es hf nd rfl (by first | exact Or.inl rfl | exact Or.inr rfl) (by decide) (by decide)
  have g_is_time : Gn X "is_time" := gn_of es rfl (by decide)
  have F_is_time := f_is_time (P := X.prog) (w := X.w) (base := X.base) T
  have g_time_of : Gn X "time_of" := gn_of es rfl (by decide)
  have F_time_of := f_time_of (P := X.prog) (w := X.w) (base := X.base) T
  obtain ⟨q, r, v, u, rfl, hv, hu, hq, hr, z⟩ := h
  show WB X [_, _, _] _ [some (v), some (u), none] H
  repeat walk_at "w"
  refine it_tim T hu ?_
  repeat walk_at "w"
  refine to_tim hu fun y H1 x1 hy => ?_
  repeat walk_at "w"
  rw [show decide (r.num * (q.den : Int) < q.num * (r.den : Int)) = decide (r < q) from by congr 1; exact propext (Rat.lt_iff r q).symm]
  exact z _ x1
theorem f_ge (T : Tm K mg) : FnR P w K mg base (RX P w) 5 (MT K "__ge__") (spCmp K fun q r => decide (r ≤ q)) := by
  obtain ⟨fd, F⟩ := T.d_Time___ge__
  refine raw_of F (def_ok F sc_Time___ge__ (fun vs H Q E h => by obtain ⟨q, r, v, u, rfl, _⟩ := h; rfl) ?_) (F.bindsN fun _ _ _ _ _ _ us hl => match us, hl with | [_, _], _ => rfl)
  intro X eP ew eK em eb eN es hf nd H vs Q E B h
  subst eP ew eK em eb
  have n0 : Sl X 0 "self" := slot_of eN es hf nd rfl (by first | exact Or.inl rfl | exact Or.inr rfl) (by decide) (by decide)
  have n1 : Sl X 1 "other" := slot_of eN es hf nd rfl (by first | exact Or.inl rfl | exact Or.inr rfl) (by decide) (by decide)
  have n2 : Sl X 2 "sooner" := slot_of eN es hf nd rfl (by first | exact Or.inl rfl | exact Or.inr rfl) (by decide) (by decide)
  have g_is_time : Gn X "is_time" := gn_of es rfl (by decide)
  have F_is_time := f_is_time (P := X.prog) (w := X.w) (base := X.base) T
  have g_time_of : Gn X "time_of" := gn_of es rfl (by decide)
  have F_time_of := f_time_of (P := X.prog) (w := X.w) (base := X.base) T
  obtain ⟨q, r, v, u, rfl, hv, hu, hq, hr, z⟩ := h
  show WB X [_, _, _] _ [some (v), some (u), none] H
  repeat walk_at "w"
  refine it_tim T hu ?_
  repeat walk_at "w"
  refine to_tim hu fun y H1 x1 hy => ?_
  repeat walk_at "w"
  rw [show decide (r.num * (q.den : Int) ≤ q.num * (r.den : Int)) = decide (r ≤ q) from by congr 1; exact propext (Rat.le_iff r q).symm]
  exact z _ x1
/-- == of a value of another kind -/
def spEqN (K : PySem.W.Frag) : SpN := fun vs H D _ => ∃ v u t r1 r2, vs = [v, u] ∧ TyX K H u t ∧ PySem.W.kitOne K t (.ref (CT K)) = some false ∧ PySem.W.kitOne K t (.type "int") = some r1 ∧ PySem.W.kitOne K t (.type "bool") = some r2 ∧ (r1 && !r2) = false ∧ D H
theorem f_eqN (T : Tm K mg) : FnN P w K mg base (RX P w) 4 (MT K "__eq__") (spEqN K) := by
  obtain ⟨fd, F⟩ := T.d_Time___eq__
  refine def_ni F (F.bindsN fun _ _ _ _ _ _ us hl => match us, hl with | [_, _], _ => rfl) sc_Time___eq__ (fun vs H Q E h => by obtain ⟨v, u, t, r1, r2, rfl, _⟩ := h; rfl) ?_
  intro X eP ew eK em eb eN es hf nd H vs D E B h
  subst eP ew eK em eb
  have n0 : Sl X 0 "self" := slot_of eN es hf nd rfl (by first | exact Or.inl rfl | exact Or.inr rfl) (by decide) (by decide)
  have n1 : Sl X 1 "other" := slot_of eN es hf nd rfl (by first | exact Or.inl rfl | exact Or.inr rfl) (by decide) (by decide)
  have n2 : Sl X 2 "same" := slot_of eN es hf nd rfl (by first | exact Or.inl rfl | exact Or.inr rfl) (by decide) (by decide)
  have g_is_time : Gn X "is_time" := gn_of es rfl (by decide)
  have F_is_time := f_is_time (P := X.prog) (w := X.w) (base := X.base) T
  have g_time_of : Gn X "time_of" := gn_of es rfl (by decide)
  have F_time_of := f_time_of (P := X.prog) (w := X.w) (base := X.base) T
  have z_NI : Bn X "NotImplemented" := bn_of es rfl T.z_NotImplemented
  obtain ⟨v, u, t, r1, r2, rfl, ht, h0, h1, h2, e, z⟩ := h
  show WBN X (_ :: [_, _]) _ [some v, some u, none] H
  refine wbn_if z_NI ?_
  repeat walk_at "w"
  refine ⟨u, t, false, r1, r2, rfl, ht, h0, h1, h2, ?_⟩
  rw [e]
  repeat walk_at "w"
  exact ⟨rfl, z⟩
end
section
variable {X : Cx} {k : Nat} {E : XK} {H : Hp} {Q : VK} {v u : V} {q r : Rat} {i : Int}
theorem o_eqT (B : Body X k fun _ => E) (T : Tm X.K X.mg) (hk : 5 ≤ k) (hv : TimeV (CT X.K) q v H) (hu : Tim X.K r u H) (hq : Sz q 4000) (hr : Sz r 4000) (z : Bl H (decide (q = r)) Q) : Op2 X (compareOp .Eq) v u H Q := by
  have s : spCmp X.K (fun q r => decide (q = r)) [v, u] H Q E := ⟨q, r, v, u, rfl, hv, hu, hq, hr, z⟩
  obtain ⟨p, dx, rfl, hp⟩ := hv
  rcases hu with ⟨p', dx', rfl, hp'⟩ | ⟨i, rfl, _⟩
  · exact cmp_tt B rich_eq T.o_Time___eq__ (f_eq T) hk hp hp' s
  · exact cmp_ti B rich_eq T.o_Time___eq__ (f_eq T) hk hp s
theorem o_ltT (B : Body X k fun _ => E) (T : Tm X.K X.mg) (hk : 5 ≤ k) (hv : TimeV (CT X.K) q v H) (hu : Tim X.K r u H) (hq : Sz q 4000) (hr : Sz r 4000) (z : Bl H (decide (q < r)) Q) : Op2 X (compareOp .Lt) v u H Q := by
  have s : spCmp X.K (fun q r => decide (q < r)) [v, u] H Q E := ⟨q, r, v, u, rfl, hv, hu, hq, hr, z⟩
  obtain ⟨p, dx, rfl, hp⟩ := hv
  rcases hu with ⟨p', dx', rfl, hp'⟩ | ⟨i, rfl, _⟩
  · exact cmp_tt B rich_lt T.o_Time___lt__ (f_lt T) hk hp hp' s
  · exact cmp_ti B rich_lt T.o_Time___lt__ (f_lt T) hk hp s
theorem o_leT (B : Body X k fun _ => E) (T : Tm X.K X.mg) (hk : 5 ≤ k) (hv : TimeV (CT X.K) q v H) (hu : Tim X.K r u H) (hq : Sz q 4000) (hr : Sz r 4000) (z : Bl H (decide (q ≤ r)) Q) : Op2 X (compareOp .LtE) v u H Q := by
  have s : spCmp X.K (fun q r => decide (q ≤ r)) [v, u] H Q E := ⟨q, r, v, u, rfl, hv, hu, hq, hr, z⟩
  obtain ⟨p, dx, rfl, hp⟩ := hv
  rcases hu with ⟨p', dx', rfl, hp'⟩ | ⟨i, rfl, _⟩
  · exact cmp_tt B rich_le T.o_Time___le__ (f_le T) hk hp hp' s
  · exact cmp_ti B rich_le T.o_Time___le__ (f_le T) hk hp s
theorem o_gtT (B : Body X k fun _ => E) (T : Tm X.K X.mg) (hk : 5 ≤ k) (hv : TimeV (CT X.K) q v H) (hu : Tim X.K r u H) (hq : Sz q 4000) (hr : Sz r 4000) (z : Bl H (decide (r < q)) Q) : Op2 X (compareOp .Gt) v u H Q := by
  have s : spCmp X.K (fun q r => decide (r < q)) [v, u] H Q E := ⟨q, r, v, u, rfl, hv, hu, hq, hr, z⟩
  obtain ⟨p, dx, rfl, hp⟩ := hv
  rcases hu with ⟨p', dx', rfl, hp'⟩ | ⟨i, rfl, _⟩
  · exact cmp_tt B rich_gt T.o_Time___gt__ (f_gt T) hk hp hp' s
  · exact cmp_ti B rich_gt T.o_Time___gt__ (f_gt T) hk hp s
theorem o_geT (B : Body X k fun _ => E) (T : Tm X.K X.mg) (hk : 5 ≤ k) (hv : TimeV (CT X.K) q v H) (hu : Tim X.K r u H) (hq : Sz q 4000) (hr : Sz r 4000) (z : Bl H (decide (r ≤ q)) Q) : Op2 X (compareOp .GtE) v u H Q := by
  have s : spCmp X.K (fun q r => decide (r ≤ q)) [v, u] H Q E := ⟨q, r, v, u, rfl, hv, hu, hq, hr, z⟩
  obtain ⟨p, dx, rfl, hp⟩ := hv
  rcases hu with ⟨p', dx', rfl, hp'⟩ | ⟨i, rfl, _⟩
  · exact cmp_tt B rich_ge T.o_Time___ge__ (f_ge T) hk hp hp' s
  · exact cmp_ti B rich_ge T.o_Time___ge__ (f_ge T) hk hp s
theorem o_eqI (B : Body X k fun _ => E) (T : Tm X.K X.mg) (hk : 5 ≤ k) (hv : TimeV (CT X.K) q v H) (hq : Sz q 4000) (hr : Sz (i : Rat) 4000) (z : Bl H (decide (q = i)) Q) : Op2 X (compareOp .Eq) (.int i) v H Q := by
  have s : spCmp X.K (fun q r => decide (q = r)) [v, .int i] H Q E := ⟨q, _, v, _, rfl, hv, .inr ⟨i, rfl, rfl⟩, hq, hr, z⟩
  obtain ⟨p, dx, rfl, hp⟩ := hv
  exact cmp_it B rich_eq T.q_Time___eq__ idecl_eq (f_eq T) hk hp s
theorem o_ltI (B : Body X k fun _ => E) (T : Tm X.K X.mg) (hk : 5 ≤ k) (hv : TimeV (CT X.K) q v H) (hq : Sz q 4000) (hr : Sz (i : Rat) 4000) (z : Bl H (decide ((i : Rat) < q)) Q) : Op2 X (compareOp .Lt) (.int i) v H Q := by
  have s : spCmp X.K (fun q r => decide (r < q)) [v, .int i] H Q E := ⟨q, _, v, _, rfl, hv, .inr ⟨i, rfl, rfl⟩, hq, hr, z⟩
  obtain ⟨p, dx, rfl, hp⟩ := hv
  exact cmp_it B rich_lt T.q_Time___gt__ idecl_lt (f_gt T) hk hp s
theorem o_leI (B : Body X k fun _ => E) (T : Tm X.K X.mg) (hk : 5 ≤ k) (hv : TimeV (CT X.K) q v H) (hq : Sz q 4000) (hr : Sz (i : Rat) 4000) (z : Bl H (decide ((i : Rat) ≤ q)) Q) : Op2 X (compareOp .LtE) (.int i) v H Q := by
  have s : spCmp X.K (fun q r => decide (r ≤ q)) [v, .int i] H Q E := ⟨q, _, v, _, rfl, hv, .inr ⟨i, rfl, rfl⟩, hq, hr, z⟩
  obtain ⟨p, dx, rfl, hp⟩ := hv
  exact cmp_it B rich_le T.q_Time___ge__ idecl_le (f_ge T) hk hp s
theorem o_gtI (B : Body X k fun _ => E) (T : Tm X.K X.mg) (hk : 5 ≤ k) (hv : TimeV (CT X.K) q v H) (hq : Sz q 4000) (hr : Sz (i : Rat) 4000) (z : Bl H (decide (q < (i : Rat))) Q) : Op2 X (compareOp .Gt) (.int i) v H Q := by
  have s : spCmp X.K (fun q r => decide (q < r)) [v, .int i] H Q E := ⟨q, _, v, _, rfl, hv, .inr ⟨i, rfl, rfl⟩, hq, hr, z⟩
  obtain ⟨p, dx, rfl, hp⟩ := hv
  exact cmp_it B rich_gt T.q_Time___lt__ idecl_gt (f_lt T) hk hp s
theorem o_geI (B : Body X k fun _ => E) (T : Tm X.K X.mg) (hk : 5 ≤ k) (hv : TimeV (CT X.K) q v H) (hq : Sz q 4000) (hr : Sz (i : Rat) 4000) (z : Bl H (decide (q ≤ (i : Rat))) Q) : Op2 X (compareOp .GtE) (.int i) v H Q := by
  have s : spCmp X.K (fun q r => decide (q ≤ r)) [v, .int i] H Q E := ⟨q, _, v, _, rfl, hv, .inr ⟨i, rfl, rfl⟩, hq, hr, z⟩
  obtain ⟨p, dx, rfl, hp⟩ := hv
  exact cmp_it B rich_ge T.q_Time___le__ idecl_ge (f_le T) hk hp s
theorem o_neT (B : Body X k fun _ => E) (T : Tm X.K X.mg) (hk : 6 ≤ k) (hv : TimeV (CT X.K) q v H) (hu : Tim X.K r u H) (hq : Sz q 4000) (hr : Sz r 4000) (z : Bl H (!decide (q = r)) Q) : Op2 X (compareOp .NotEq) v u H Q := by
  have s : spCmp X.K (fun q r => decide (q = r)) [v, u] H (NotQ Q) E := ⟨q, r, v, u, rfl, hv, hu, hq, hr, fun H' x => ⟨_, rfl, z H' x⟩⟩
  obtain ⟨p, dx, rfl, hp⟩ := hv
  rcases hu with ⟨p', dx', rfl, hp'⟩ | ⟨i, rfl, _⟩
  · exact ne_tt B T.w_Time (f_eq T) hk hp hp' s
  · exact ne_ti B T.w_Time (f_eq T) hk hp s
theorem o_neI (B : Body X k fun _ => E) (T : Tm X.K X.mg) (hk : 6 ≤ k) (hv : TimeV (CT X.K) q v H) (hq : Sz q 4000) (hr : Sz (i : Rat) 4000) (z : Bl H (!decide (q = i)) Q) : Op2 X (compareOp .NotEq) (.int i) v H Q := by
  have s : spCmp X.K (fun q r => decide (q = r)) [v, .int i] H (NotQ Q) E := ⟨q, _, v, _, rfl, hv, .inr ⟨i, rfl, rfl⟩, hq, hr, fun H' x => ⟨_, rfl, z H' x⟩⟩
  obtain ⟨p, dx, rfl, hp⟩ := hv
  exact ne_it B T.w_Time (f_eq T) hk hp s
/-- the kinds that are no times -/
theorem fgn_ty {K : PySem.W.Frag} (T : Tm K X.mg) (g : Fgn H u) : ∃ t r1 r2, TyX K H u t ∧ PySem.W.kitOne K t (.ref (CT K)) = some false ∧ PySem.W.kitOne K t (.type "int") = some r1 ∧ PySem.W.kitOne K t (.type "bool") = some r2 ∧ (r1 && !r2) = false := by
  cases g with
  | non => exact ⟨_, _, _, .base .non, T.k_Time.ofNone, k_ni, k_nb, rfl⟩
  | bl b => exact ⟨_, _, _, .base (.bl b), T.k_Time.ofBool, k_bi, k_bb, rfl⟩
  | str z => exact ⟨_, _, _, .base (.str z), T.k_Time.ofStr, k_si, k_sb, rfl⟩
  | tup h => exact ⟨_, _, _, .base (.tup h), T.k_Time.ofTup, k_ti, k_tb, rfl⟩
  | lst h => exact ⟨_, _, _, .base (.lst h), T.k_Time.ofLst, k_li, k_lb, rfl⟩
theorem o_eqF (B : Body X k fun _ => E) (T : Tm X.K X.mg) (hk : 4 ≤ k) (hv : TimeV (CT X.K) q v H) (g : Fgn H u) (z : Q (.bl false) H) : Op2 X (compareOp .Eq) v u H Q := by
  obtain ⟨p, dx, rfl, hp⟩ := hv
  obtain ⟨t, r1, r2, h1, h2, h3, h4, h5⟩ := fgn_ty T g
  exact eq_fgn B T.w_Time (f_eqN T) hk hp g ⟨_, u, t, r1, r2, rfl, h1, h2, h3, h4, h5, hp, g, z⟩
theorem o_neF (B : Body X k fun _ => E) (T : Tm X.K X.mg) (hk : 5 ≤ k) (hv : TimeV (CT X.K) q v H) (g : Fgn H u) (z : Q (.bl true) H) : Op2 X (compareOp .NotEq) v u H Q := by
  obtain ⟨p, dx, rfl, hp⟩ := hv
  obtain ⟨t, r1, r2, h1, h2, h3, h4, h5⟩ := fgn_ty T g
  exact ne_fgn B T.w_Time (f_eqN T) hk hp g ⟨_, u, t, r1, r2, rfl, h1, h2, h3, h4, h5, hp, g, z⟩
end

/-! ### over, // -/
def Ix (H : Hp) (i : Int) (Q : VK) : Prop := ∀ H', Ex H H' → Q (.int i) H'
theorem ix_i {H : Hp} {i : Int} {Q : VK} (h : ∀ H', Ex H H' → Q (.int i) H') : Ix H i Q := h
theorem dn_ne {q r : Rat} (h : r.num ≠ 0) : (q.den : Int) * r.num ≠ 0 := Int.mul_ne_zero (den_ne q) h
theorem dn_sz {q r : Rat} (h : Sz q 4000) (h' : Sz r 4000) : ((q.den : Int) * r.num).natAbs < 2 ^ 8000 := by
  rw [Int.natAbs_mul, Int.natAbs_natCast]
  exact pow_add' h.den h'.num
local macro_rules | `(tactic| walk_at "w") => `(tactic| with_reducible refine' ix_i fun _ _ => ?_)
section
variable {P : Program} {w : World} {K : PySem.W.Frag} {mg : Str → Option Value} {base : Heap}
def spOver (K : PySem.W.Frag) : Sp := fun vs H Q E => ∃ q r v u, vs = [v, u] ∧ TimeV (CT K) q v H ∧ Tim K r u H ∧ Sz q 4000 ∧ Sz r 4000 ∧ ((r.num ≠ 0 ∧ Ret H (TimeV (CT K) (ov q r)) Q) ∨ (r.num = 0 ∧ ∀ H', Ex H H' → E (.ref (ga K "NoTime")) none H'))
theorem f_over (T : Tm K mg) : FnR P w K mg base (RX P w) 5 (MT K "over") (spOver K) := by
  obtain ⟨fd, F⟩ := T.d_Time_over
  refine raw_of F (def_ok F sc_Time_over (fun vs H Q E h => by obtain ⟨q, r, v, u, rfl, _⟩ := h; rfl) ?_) (F.bindsN fun _ _ _ _ _ _ us hl => match us, hl with | [_, _], _ => rfl)
  intro X eP ew eK em eb eN es hf nd H vs Q E B h
  subst eP ew eK em eb
  have n0 : Sl X 0 "self" := slot_of eN es hf nd rfl (by first | exact Or.inl rfl | exact Or.inr rfl) (by decide) (by decide)
  have n1 : Sl X 1 "other" := slot_of eN es hf nd rfl (by first | exact Or.inl rfl | exact Or.inr rfl) (by decide) (by decide)
  have n2 : Sl X 2 "by" := slot_of eN es hf nd rfl (by first | exact Or.inl rfl | exact Or.inr rfl) (by decide) (by decide)
  have g_time_of : Gn X "time_of" := gn_of es rfl (by decide)
  have F_time_of := f_time_of (P := X.prog) (w := X.w) (base := X.base) T
  have g_NoTime : Gn X "NoTime" := gn_of es rfl (by decide)
  have m_NoTime := T.g_NoTime
  have g_Time : Gn X "Time" := gn_of es rfl (by decide)
  have m_Time := T.g_Time
  obtain ⟨q, r, v, u, rfl, hv, hu, hq, hr, z⟩ := h
  show WB X [_, _, _] _ [some (v), some (u), none] H
  repeat walk_at "w"
  refine to_tim hu fun y H1 x1 hy => ?_
  repeat walk_at "w"
  refine ite_dec (fun h0 => ?_) (fun h0 => ?_)
  · rcases z with ⟨h1, _⟩ | ⟨_, z⟩
    · exact absurd h0 h1
    · repeat walk_at "w"
      exact ws_raise B g_NoTime m_NoTime T.x_NoTime (z _ x1)
  · rcases z with ⟨h1, z⟩ | ⟨h1, _⟩
    · repeat walk_at "w"
      exact ⟨_, _, rfl, rfl, dn_ne h0, g1_sz (dn_ne h0) (le_pow (dn_sz hq hr) (by decide)), z.mono x1⟩
    · exact absurd h1 h0
end

/-! ### powers -/
section
variable {P : Program} {w : World} {K : PySem.W.Frag} {mg : Str → Option Value} {base : Heap}
def spRaised : Sp := fun vs H Q _ => ∃ (b : Int) (n : Nat), vs = [.int b, .int n] ∧ m1 b ^ n < 2 ^ 400000 ∧ Q (.int (b ^ n)) H
theorem f_raised (T : Tm K mg) : GFn P w K mg base 1 "raised" spRaised := by
  obtain ⟨fd, F⟩ := T.d_raised
  refine GFn.mk F T.g_raised (def_ok F sc_raised (fun vs H Q E h => by obtain ⟨b, n, rfl, _⟩ := h; rfl) ?_) (F.bindsN fun _ _ _ _ _ _ us hl => match us, hl with | [_, _], _ => rfl)
  intro X eP ew eK em eb eN es hf nd H vs Q E B h
  subst eP ew eK em eb
  have n0 : Sl X 0 "base" := slot_of eN es hf nd rfl (by first | exact Or.inl rfl | exact Or.inr rfl) (by decide) (by decide)
  have n1 : Sl X 1 "count" := slot_of eN es hf nd rfl (by first | exact Or.inl rfl | exact Or.inr rfl) (by decide) (by decide)
  have n2 : Sl X 2 "result" := slot_of eN es hf nd rfl (by first | exact Or.inl rfl | exact Or.inr rfl) (by decide) (by decide)
  have n3 : Sl X 3 "square" := slot_of eN es hf nd rfl (by first | exact Or.inl rfl | exact Or.inr rfl) (by decide) (by decide)
  obtain ⟨b, n, rfl, hm, k⟩ := h
  show WB X [_, _, _, _] _ [some (.int b), some (.int n), none, none] H
  repeat walk_at "w"
  refine ws_while_by (fun σ H' => ∃ c r e : Nat, σ = [some (.int b), some (.int c), some (.int (b ^ r)), some (.int (b ^ e))] ∧ r + e * c = n ∧ H' = H) (fun σ _ => match σ with | [_, some (.int y), _, _] => y.toNat | _ => 0) B
    ⟨n, 0, 1, by rw [Int.pow_zero, Int.pow_succ, Int.pow_zero, Int.one_mul]; rfl, by omega, rfl⟩ ?_
  rintro σ H' ⟨c, r, e, rfl, hc, rfl⟩
  have big : ∀ {x y : Nat}, x ≤ n → y ≤ n → CMulW (b ^ x) (b ^ y) := fun h1 h2 => wide_mul (powB hm h1) (powB hm h2) (by decide) (by decide) (by decide)
  repeat walk_at "w"
  refine ite_dec (fun h0 => ?_) (fun h0 => ?_)
  · have h0 : 0 < c := by omega
    obtain ⟨l1, l2, l3⟩ := le_n hc h0
    have ef : (c : Int).fdiv 2 = ((c / 2 : Nat) : Int) := by rw [Int.fdiv_eq_ediv_of_nonneg _ (by decide)]; omega
    repeat walk_at "w"
    refine o_mod (by decide) ?_
    repeat walk_at "w"
    refine ite_dec (fun h1 => ?_) (fun h1 => ?_)
    · have st := step_odd hc (by omega)
      repeat walk_at "w"
      refine o_mul (big l2 l1) ?_
      repeat walk_at "w"
      refine o_fdiv (by decide) (by decide) ?_
      repeat walk_at "w"
      rw [ef]
      refine ite_dec (fun h2 => ?_) (fun h2 => ?_)
      · repeat walk_at "w"
        refine o_mul (big l1 l1) ?_
        rw [← Int.pow_add, ← Int.pow_add]
        exact ⟨⟨c / 2, r + e, e + e, rfl, st, rfl⟩, by show ((c / 2 : Nat) : Int).toNat < (c : Int).toNat; omega⟩
      · repeat walk_at "w"
        rw [← Int.pow_add]
        refine ⟨⟨c / 2, r + e, e, rfl, ?_, rfl⟩, by show ((c / 2 : Nat) : Int).toNat < (c : Int).toNat; omega⟩
        have : c / 2 = 0 := by omega
        rw [this] at st ⊢
        exact st
    · have st := step_even hc (by omega)
      repeat walk_at "w"
      refine o_fdiv (by decide) (by decide) ?_
      repeat walk_at "w"
      rw [ef]
      refine ite_dec (fun h2 => ?_) (fun h2 => ?_)
      · repeat walk_at "w"
        refine o_mul (big l1 l1) ?_
        rw [← Int.pow_add]
        exact ⟨⟨c / 2, r, e + e, rfl, st, rfl⟩, by show ((c / 2 : Nat) : Int).toNat < (c : Int).toNat; omega⟩
      · exfalso
        omega
  · have : c = 0 := by omega
    subst this
    have : r = n := by omega
    subst this
    repeat walk_at "w"
    exact k
/-- the power of a time -/
def spPower (K : PySem.W.Frag) : Sp := fun vs H Q _ => ∃ q v, ∃ n : Nat, vs = [v, .int n] ∧ TimeV (CT K) q v H ∧ n ≤ 10000 ∧ m1 q.num ^ n < 2 ^ 400000 ∧ m1 q.den ^ n < 2 ^ 400000 ∧ Ret H (TimeV (CT K) (qpow q n)) Q
theorem f_power (T : Tm K mg) : FnR P w K mg base (RX P w) 4 (MT K "power") (spPower K) := by
  obtain ⟨fd, F⟩ := T.d_Time_power
  refine raw_of F (def_ok F sc_Time_power (fun vs H Q E h => by obtain ⟨q, v, n, rfl, _⟩ := h; rfl) ?_) (F.bindsN fun _ _ _ _ _ _ us hl => match us, hl with | [_, _], _ => rfl)
  intro X eP ew eK em eb eN es hf nd H vs Q E B h
  subst eP ew eK em eb
  have n0 : Sl X 0 "self" := slot_of eN es hf nd rfl (by first | exact Or.inl rfl | exact Or.inr rfl) (by decide) (by decide)
  have n1 : Sl X 1 "count" := slot_of eN es hf nd rfl (by first | exact Or.inl rfl | exact Or.inr rfl) (by decide) (by decide)
  have g_is_integer : Gn X "is_integer" := gn_of es rfl (by decide)
  have F_is_integer := f_is_integer (P := X.prog) (w := X.w) (base := X.base) T
  have g_MOST_POWER : Gn X "MOST_POWER" := gn_of es rfl (by decide)
  obtain ⟨t_MOST_POWER, m_MOST_POWER⟩ := T.i_MOST_POWER
  have g_NoTime : Gn X "NoTime" := gn_of es rfl (by decide)
  have m_NoTime := T.g_NoTime
  have g_Time : Gn X "Time" := gn_of es rfl (by decide)
  have m_Time := T.g_Time
  have g_raised : Gn X "raised" := gn_of es rfl (by decide)
  have F_raised := f_raised (P := X.prog) (w := X.w) (base := X.base) T
  obtain ⟨q, v, n, rfl, hv, hn, m1, m2, k⟩ := h
  show WB X [_, _] _ [some (v), some (.int n)] H
  repeat walk_at "w"
  rw [decide_eq_true (show (0 : Int) ≤ n by omega)]
  repeat walk_at "w"
  rw [decide_eq_true (show (n : Int) ≤ 10000 by omega)]
  repeat walk_at "w"
  refine ⟨q.num, n, rfl, m1, ?_⟩
  repeat walk_at "w"
  refine ⟨q.den, n, rfl, m2, ?_⟩
  exact ⟨_, _, rfl, rfl, pow_ne (den_ne q) n, by rw [g1_pow]; exact one_lt, k⟩
/-- .. of no count -/
def spPowerX (K : PySem.W.Frag) : Sp := fun vs H _ E => ∃ v u, vs = [v, u] ∧ ((∃ t r1 r2, TyX K H u t ∧ PySem.W.kitOne K t (.type "int") = some r1 ∧ PySem.W.kitOne K t (.type "bool") = some r2 ∧ (r1 && !r2) = false) ∨ ∃ i : Int, u = .int i ∧ (i < 0 ∨ 10000 < i)) ∧ E (.ref (ga K "NoTime")) none H
theorem f_powerX (T : Tm K mg) : FnR P w K mg base (RX P w) 2 (MT K "power") (spPowerX K) := by
  obtain ⟨fd, F⟩ := T.d_Time_power
  refine raw_of F (def_ok F sc_Time_power (fun vs H Q E h => by obtain ⟨v, u, rfl, _⟩ := h; rfl) ?_) (F.bindsN fun _ _ _ _ _ _ us hl => match us, hl with | [_, _], _ => rfl)
  intro X eP ew eK em eb eN es hf nd H vs Q E B h
  subst eP ew eK em eb
  have n0 : Sl X 0 "self" := slot_of eN es hf nd rfl (by first | exact Or.inl rfl | exact Or.inr rfl) (by decide) (by decide)
  have n1 : Sl X 1 "count" := slot_of eN es hf nd rfl (by first | exact Or.inl rfl | exact Or.inr rfl) (by decide) (by decide)
  have g_is_integer : Gn X "is_integer" := gn_of es rfl (by decide)
  have F_is_integer := f_is_integer (P := X.prog) (w := X.w) (base := X.base) T
  have g_MOST_POWER : Gn X "MOST_POWER" := gn_of es rfl (by decide)
  obtain ⟨t_MOST_POWER, m_MOST_POWER⟩ := T.i_MOST_POWER
  have g_NoTime : Gn X "NoTime" := gn_of es rfl (by decide)
  have m_NoTime := T.g_NoTime
  have g_Time : Gn X "Time" := gn_of es rfl (by decide)
  have m_Time := T.g_Time
  have g_raised : Gn X "raised" := gn_of es rfl (by decide)
  have F_raised := f_raised (P := X.prog) (w := X.w) (base := X.base) T
  obtain ⟨v, u, rfl, h, k⟩ := h
  show WB X [_, _] _ [some (v), some (u)] H
  rcases h with ⟨t, r1, r2, h1, h2, h3, h4⟩ | ⟨i, rfl, h⟩
  · repeat walk_at "w"
    refine ⟨u, t, r1, r2, rfl, h1, h2, h3, ?_⟩
    rw [h4]
    repeat walk_at "w"
    exact ws_raise B g_NoTime m_NoTime T.x_NoTime k
  · repeat walk_at "w"
    by_cases h0 : 0 ≤ i
    · rw [decide_eq_true h0]
      repeat walk_at "w"
      rw [decide_eq_false (show ¬ i ≤ 10000 by omega)]
      repeat walk_at "w"
      exact ws_raise B g_NoTime m_NoTime T.x_NoTime k
    · rw [decide_eq_false h0]
      repeat walk_at "w"
      exact ws_raise B g_NoTime m_NoTime T.x_NoTime k
end

/-! ### methods of times -/
section
variable {X : Cx} {k j : Nat} {E : L2.St → XK} {σ : L2.St} {H : Hp} {Q : VK} {sp : Sp} {o e : Expr} {m : Str} {f : Addr} {pos apos : Pos}
theorem we_methT {pl : Sem Bool} (B : Body X k E) (T : Tm X.K X.mg) (hm : Meth X.K (CT X.K) m f) (F : FnR X.prog X.w X.K X.mg X.base (RX X.prog X.w) j f sp) (hj : j ≤ k) (hf : ∀ q, (tfs q).lookup m = none)
    (h : WE X o σ H fun y H1 => (∃ q, TimeV (CT X.K) q y H1) ∧ WE X e σ H1 fun z H2 => sp [y, z] H2 Q (E σ)) (hs : starEach [e] X.env = [(false, eval e X.env)] := by rfl) (hl : (backTo pos (starEach [] X.env)).any (·.1) = false := by rfl)
    (ht : eval (.Call (.Attribute o m apos) [e] [] pos) X.env = (do
      let it ← eval o X.env
      standAt apos.atName
      let (g, first) ← holding [it] (getMethod it m pl)
      callWith pos g first (backTo pos (starEach [e] X.env)) (backToKw pos (keywordEach [] X.env))) := by rfl) : WE X (.Call (.Attribute o m apos) [e] [] pos) σ H Q :=
  we_meth (pl := pl) B T.c_Time.cl ⟨f, hm, F⟩ hj (we_mono h fun y H1 z => by
    obtain ⟨⟨q, p, dx, rfl, hp⟩, z⟩ := z
    exact ⟨p, dx, _, rfl, hp, hf q, wa_one z hs⟩) hs hl ht
theorem no_power (q : Rat) : (tfs q).lookup ("power" : Str) = none := rfl
theorem no_over (q : Rat) : (tfs q).lookup ("over" : Str) = none := rfl
end
theorem and_t {C : Addr} {v : V} {H : Hp} {q : Rat} {A : Prop} (h : TimeV C q v H) (a : A) : (∃ q, TimeV C q v H) ∧ A := ⟨⟨q, h⟩, a⟩
local macro_rules | `(tactic| walk_at "w") => `(tactic| ((with_reducible refine' and_t ?h ?_); (case h => walk_at "tv")))

/-! ### steps for the operators of times (sizes: facts at hand) -/
theorem Sz.big {q : Rat} (h : Sz q 4000) : Sz q 8000 := h.mono (by decide)
local macro_rules | `(tactic| walk_at "sq") => `(tactic| assumption)
local macro_rules | `(tactic| walk_at "tim") => `(tactic| first | (refine Or.inl ?_; walk_at "tv") | exact Or.inr ⟨_, rfl, rfl⟩ | ((with_reducible refine' Tim.mono ?x ?h); (case h => assumption); (case x => walk_at "x")))
local macro_rules | `(tactic| walk_at "wO") => `(tactic| first | ((with_reducible refine' o_addT ?B ?T ?hk ?hv ?hu ?hq ?hr ?_); (case B => assumption); (case T => assumption); (case hk => decide); (case hv => walk_at "tv"); (case hu => walk_at "tim"); (case hq => walk_at "sq"); (case hr => walk_at "sq")) | ((with_reducible refine' o_subT ?B ?T ?hk ?hv ?hu ?hq ?hr ?_); (case B => assumption); (case T => assumption); (case hk => decide); (case hv => walk_at "tv"); (case hu => walk_at "tim"); (case hq => walk_at "sq"); (case hr => walk_at "sq")) | ((with_reducible refine' o_mulT ?B ?T ?hk ?hv ?hu ?hq ?hr ?_); (case B => assumption); (case T => assumption); (case hk => decide); (case hv => walk_at "tv"); (case hu => walk_at "tim"); (case hq => walk_at "sq"); (case hr => walk_at "sq")) | ((with_reducible refine' i_addT ?B ?T ?hk ?hv ?hu ?hq ?hr ?_); (case B => assumption); (case T => assumption); (case hk => decide); (case hv => walk_at "tv"); (case hu => walk_at "tv"); (case hq => walk_at "sq"); (case hr => walk_at "sq")) | ((with_reducible refine' i_subT ?B ?T ?hk ?hv ?hu ?hq ?hr ?_); (case B => assumption); (case T => assumption); (case hk => decide); (case hv => walk_at "tv"); (case hu => walk_at "tv"); (case hq => walk_at "sq"); (case hr => walk_at "sq")) | ((with_reducible refine' i_mulT ?B ?T ?hk ?hv ?hu ?hq ?hr ?_); (case B => assumption); (case T => assumption); (case hk => decide); (case hv => walk_at "tv"); (case hu => walk_at "tv"); (case hq => walk_at "sq"); (case hr => walk_at "sq")) | ((with_reducible refine' o_addI ?B ?T ?hk ?hv ?hq ?hr ?_); (case B => assumption); (case T => assumption); (case hk => decide); (case hv => walk_at "tv"); (case hq => walk_at "sq"); (case hr => walk_at "sq")) | ((with_reducible refine' o_subI ?B ?T ?hk ?hv ?hq ?hr ?_); (case B => assumption); (case T => assumption); (case hk => decide); (case hv => walk_at "tv"); (case hq => walk_at "sq"); (case hr => walk_at "sq")) | ((with_reducible refine' o_mulI ?B ?T ?hk ?hv ?hq ?hr ?_); (case B => assumption); (case T => assumption); (case hk => decide); (case hv => walk_at "tv"); (case hq => walk_at "sq"); (case hr => walk_at "sq")) | ((with_reducible refine' o_ltT ?B ?T ?hk ?hv ?hu ?hq ?hr ?_); (case B => assumption); (case T => assumption); (case hk => decide); (case hv => walk_at "tv"); (case hu => walk_at "tim"); (case hq => walk_at "sq"); (case hr => walk_at "sq")) | ((with_reducible refine' o_leT ?B ?T ?hk ?hv ?hu ?hq ?hr ?_); (case B => assumption); (case T => assumption); (case hk => decide); (case hv => walk_at "tv"); (case hu => walk_at "tim"); (case hq => walk_at "sq"); (case hr => walk_at "sq")) | ((with_reducible refine' o_gtT ?B ?T ?hk ?hv ?hu ?hq ?hr ?_); (case B => assumption); (case T => assumption); (case hk => decide); (case hv => walk_at "tv"); (case hu => walk_at "tim"); (case hq => walk_at "sq"); (case hr => walk_at "sq")) | ((with_reducible refine' o_geT ?B ?T ?hk ?hv ?hu ?hq ?hr ?_); (case B => assumption); (case T => assumption); (case hk => decide); (case hv => walk_at "tv"); (case hu => walk_at "tim"); (case hq => walk_at "sq"); (case hr => walk_at "sq")) | ((with_reducible refine' o_eqT ?B ?T ?hk ?hv ?hu ?hq ?hr ?_); (case B => assumption); (case T => assumption); (case hk => decide); (case hv => walk_at "tv"); (case hu => walk_at "tim"); (case hq => walk_at "sq"); (case hr => walk_at "sq")) | ((with_reducible refine' o_neT ?B ?T ?hk ?hv ?hu ?hq ?hr ?_); (case B => assumption); (case T => assumption); (case hk => decide); (case hv => walk_at "tv"); (case hu => walk_at "tim"); (case hq => walk_at "sq"); (case hr => walk_at "sq")) | ((with_reducible refine' o_ltI ?B ?T ?hk ?hv ?hq ?hr ?_); (case B => assumption); (case T => assumption); (case hk => decide); (case hv => walk_at "tv"); (case hq => walk_at "sq"); (case hr => walk_at "sq")) | ((with_reducible refine' o_leI ?B ?T ?hk ?hv ?hq ?hr ?_); (case B => assumption); (case T => assumption); (case hk => decide); (case hv => walk_at "tv"); (case hq => walk_at "sq"); (case hr => walk_at "sq")) | ((with_reducible refine' o_gtI ?B ?T ?hk ?hv ?hq ?hr ?_); (case B => assumption); (case T => assumption); (case hk => decide); (case hv => walk_at "tv"); (case hq => walk_at "sq"); (case hr => walk_at "sq")) | ((with_reducible refine' o_geI ?B ?T ?hk ?hv ?hq ?hr ?_); (case B => assumption); (case T => assumption); (case hk => decide); (case hv => walk_at "tv"); (case hq => walk_at "sq"); (case hr => walk_at "sq")) | ((with_reducible refine' o_eqI ?B ?T ?hk ?hv ?hq ?hr ?_); (case B => assumption); (case T => assumption); (case hk => decide); (case hv => walk_at "tv"); (case hq => walk_at "sq"); (case hr => walk_at "sq")) | ((with_reducible refine' o_neI ?B ?T ?hk ?hv ?hq ?hr ?_); (case B => assumption); (case T => assumption); (case hk => decide); (case hv => walk_at "tv"); (case hq => walk_at "sq"); (case hr => walk_at "sq")) | fail)
local macro_rules | `(tactic| walk_at "wX") => `(tactic| first | ((with_reducible refine' o_negT ?B ?T ?hk ?hv ?hq ?_); (case B => assumption); (case T => assumption); (case hk => decide); (case hv => walk_at "tv"); (case hq => refine Sz.big ?_; walk_at "sq")) | fail)

/-! ### times that may be missing -/
def OptT (K : PySem.W.Frag) (o : Option Rat) (v : V) (H : Hp) : Prop := match o with
  | none => v = .non
  | some q => TimeV (CT K) q v H
theorem OptT.mono {K : PySem.W.Frag} {o : Option Rat} {v : V} {H H' : Hp} (x : Ex H H') (h : OptT K o v H) : OptT K o v H' := by
  cases o with
  | none => exact h
  | some q => exact TimeV.mono x h
theorem upd2 {H : Hp} {p : Addr} {o u : HO} : upd (upd H p o) p u = upd H p u := upd_upd
theorem TimeV.up {C p : Addr} {q : Rat} {v : V} {H : Hp} {o u : HO} (hp : H p = some o) (ho : ∀ dx, o ≠ .ins C dx (tfs q)) (h : TimeV C q v H) : TimeV C q v (upd H p u) := by
  obtain ⟨t, dx, rfl, ht⟩ := h
  refine ⟨t, dx, rfl, (upd_ne fun e => ?_).trans ht⟩
  subst e
  rw [hp] at ht
  cases ht
  exact ho dx rfl

/-! ### values that are no times above 0 -/
/-- a value that is no time above 0, and not None -/
def BadV (K : PySem.W.Frag) (v : V) (H : Hp) : Prop := (∃ b, v = .bl b) ∨ (∃ z, v = .str z) ∨ (∃ p i, v = .ref p ∧ H p = some (.lst [.int i])) ∨ ∃ q, Tim K q v H ∧ q ≤ 0 ∧ Sz q 4000
theorem one_ns' {i : Int} : ¬ Src (.lst [.int i]) := not_src_ints (ns := [i])
section
variable {K : PySem.W.Frag} {v : V} {H H' : Hp} {p C dx : Addr}
theorem BadV.mono (x : Ex H H') (h : BadV K v H) : BadV K v H' := by
  rcases h with h | h | ⟨p, i, e, h⟩ | ⟨q, h, r⟩
  · exact .inl h
  · exact .inr (.inl h)
  · exact .inr (.inr (.inl ⟨p, i, e, x.keep _ _ h one_ns'⟩))
  · exact .inr (.inr (.inr ⟨q, h.mono x, r⟩))
theorem BadV.nn (h : BadV K v H) : v ≠ .non := by
  rintro rfl
  rcases h with ⟨b, e⟩ | ⟨z, e⟩ | ⟨p, i, e, h⟩ | ⟨q, h | ⟨i, e, _⟩, r⟩
  · cases e
  · cases e
  · cases e
  · obtain ⟨t, dx, e, _⟩ := h
    cases e
  · cases e
theorem BadV.kind (h : BadV K v H) : Fgn H v ∨ ∃ q, Tim K q v H ∧ q ≤ 0 ∧ Sz q 4000 := by
  rcases h with ⟨b, rfl⟩ | ⟨z, rfl⟩ | ⟨p, i, rfl, h⟩ | h
  · exact .inl (.bl b)
  · exact .inl (.str z)
  · exact .inl (.lst h)
  · exact .inr h
/-- .. or None -/
def WBad (K : PySem.W.Frag) (v : V) (H : Hp) : Prop := v = .non ∨ BadV K v H
theorem WBad.mono (x : Ex H H') (h : WBad K v H) : WBad K v H' := h.elim .inl fun h => .inr (h.mono x)
theorem WBad.kind (h : WBad K v H) : Fgn H v ∨ ∃ q, Tim K q v H ∧ q ≤ 0 ∧ Sz q 4000 := by
  rcases h with rfl | h
  · exact .inl .non
  · exact h.kind
end
section
variable {K : PySem.W.Frag} {mg : Str → Option Value} {H : Hp} {Q : VK} {E : XK} {v : V}
theorem fgn_tyK (T : Tm K mg) (g : Fgn H v) : ∃ t r1 r2, TyX K H v t ∧ PySem.W.kitOne K t (.ref (CT K)) = some false ∧ PySem.W.kitOne K t (.type "int") = some r1 ∧ PySem.W.kitOne K t (.type "bool") = some r2 ∧ (r1 && !r2) = false := by
  cases g with
  | non => exact ⟨_, _, _, .base .non, T.k_Time.ofNone, k_ni, k_nb, rfl⟩
  | bl b => exact ⟨_, _, _, .base (.bl b), T.k_Time.ofBool, k_bi, k_bb, rfl⟩
  | str z => exact ⟨_, _, _, .base (.str z), T.k_Time.ofStr, k_si, k_sb, rfl⟩
  | tup h => exact ⟨_, _, _, .base (.tup h), T.k_Time.ofTup, k_ti, k_tb, rfl⟩
  | lst h => exact ⟨_, _, _, .base (.lst h), T.k_Time.ofLst, k_li, k_lb, rfl⟩
theorem it_no (T : Tm K mg) (h : Fgn H v) (z : Q (.bl false) H) : spIsTime K [v] H Q E := by
  obtain ⟨t, r1, r2, h1, h2, h3, h4, h5⟩ := fgn_tyK T h
  exact ⟨v, t, false, r1, r2, rfl, h1, h2, h3, h4, by rw [h5]; exact z⟩
end

/-! ### into a comprehension's block -/
section
variable {X : Cx} {s : Shared} {H0 : Hp} {scope : Scope} {C : Addr} {cl : List (Str × Addr)} {fp : List Addr} {elt : Expr} {σ : L2.St} {H : Hp} {Q : VK} {k i : Nat} {E : L2.St → XK} {x : Str} {N : List Str} {sco : Scope}
theorem in_blk (B : Body X k E) (h0 : scope.names.lookup ("0" : Str) = none) (h : Body (Bk X s H0 scope C cl fp) k (fun _ => E0) → WE (Bk X s H0 scope C cl fp) elt σ H Q) : WE (Bk X s H0 scope C cl fp) elt σ H Q := h (B.blk h0)
theorem in_own (eN : X.N = N) (nd : N.Nodup) (hi : N[i]? = some x) (hx : scope.names.lookup x = some .local) (d1 : (x == ("__debug__" : Str)) = false) (d2 : (x == ("__classdict__" : Str)) = false) (h : Sl (Bk X s H0 scope C cl fp) i x → WE (Bk X s H0 scope C cl fp) elt σ H Q) : WE (Bk X s H0 scope C cl fp) elt σ H Q := h (own_of eN nd hi hx d1 d2)
theorem in_gn (x : Str) (hx : scope.names.lookup x = some .globalImplicit) (d1 : (x == ("__debug__" : Str)) = false) (h : Gn (Bk X s H0 scope C cl fp) x → WE (Bk X s H0 scope C cl fp) elt σ H Q) : WE (Bk X s H0 scope C cl fp) elt σ H Q := h (gn_blk hx d1)
theorem in_bn (x : Str) (hx : scope.names.lookup x = some .globalImplicit) (no : X.mg x = none) (h : Bn (Bk X s H0 scope C cl fp) x → WE (Bk X s H0 scope C cl fp) elt σ H Q) : WE (Bk X s H0 scope C cl fp) elt σ H Q := h (bn_blk hx no)
theorem in_free (eN : X.N = N) (es : X.env.scope = sco) (hi : N[i]? = some x) (hx : (relS scope sco).names.lookup x = some .cell) (d1 : (x == ("__debug__" : Str)) = false) (d2 : (x == ("__classdict__" : Str)) = false) (h : SlF (Bk X s H0 scope C cl fp) i x → WE (Bk X s H0 scope C cl fp) elt σ H Q) : WE (Bk X s H0 scope C cl fp) elt σ H Q := h (free_of eN es hi hx d1 d2)
end
local macro_rules | `(tactic| walk_at "wE") => `(tactic| first | ((with_reducible refine' we_nameF ?n ?h ?_); (case n => with_reducible assumption); (case h => exact rfl)) | fail)

/-! ### books of rules: what a book holds -/
/-- a book's nine parts -/
structure Bk where
  word : Str
  share : Rat
  latest : Option Nat
  factor : Rat
  margin : Rat
  floor : Option Rat
  roof : Option Rat
  doubled : Bool
  kept : Bool
structure BkOk (z : Bk) : Prop where
  word : z.word ∈ (["first", "last", "marked", "clean"] : List Str)
  sh0 : 0 < z.share
  sh1 : z.share ≤ 1
  lat : ∀ n, z.latest = some n → 1 ≤ n ∧ n ≤ 20 ∧ z.share = 1
  fa : 1 ≤ z.factor
  ma : 0 ≤ z.margin
  fl : ∀ f, z.floor = some f → 0 < f
  ro : ∀ r, z.roof = some r → 0 < r ∧ ∀ f, z.floor = some f → f ≤ r
  ke : z.kept = true → z.doubled = true
  z1 : Sz z.share 1000
  z2 : Sz z.factor 1000
  z3 : Sz z.margin 1000
  z4 : ∀ f, z.floor = some f → Sz f 1000
  z5 : ∀ f, z.roof = some f → Sz f 1000
def latV : Option Nat → V
  | none => .non
  | some n => .int n
def pn : List Str := ["sample", "share", "latest", "factor", "margin", "floor", "roof", "doubled", "kept"]
def pk : List Key := pn.map Sum.inr
theorem pk_nd : pk.Nodup := by decide +kernel
theorem pk_at {i : Nat} {x : Str} (h : pn[i]? = some x) : pk[i]? = some (.inr x) := by
  unfold pk
  rw [List.getElem?_map, h]
  rfl
/-- a time, an int or None -/
def OTim (K : PySem.W.Frag) (o : Option Rat) (v : V) (H : Hp) : Prop := match o with
  | none => v = .non
  | some q => Tim K q v H
theorem OTim.mono {K : PySem.W.Frag} {o : Option Rat} {v : V} {H H' : Hp} (x : Ex H H') (h : OTim K o v H) : OTim K o v H' := by
  cases o with
  | none => exact h
  | some q => exact Tim.mono x h
theorem Tim.nn {K : PySem.W.Frag} {q : Rat} {v : V} {H : Hp} (h : Tim K q v H) : v ≠ .non := by
  rintro rfl
  rcases h with ⟨t, dx, e, _⟩ | ⟨i, e, _⟩ <;> cases e
theorem OptT.oTim {K : PySem.W.Frag} {o : Option Rat} {v : V} {H : Hp} (h : OptT K o v H) : OTim K o v H := by
  cases o with
  | none => exact h
  | some q => exact .inl h
/-- the nine values: times or ints -/
structure Raw (K : PySem.W.Frag) (z : Bk) (sh fa ma fl ro : V) (H : Hp) : Prop where
  sh : Tim K z.share sh H
  fa : Tim K z.factor fa H
  ma : Tim K z.margin ma H
  fl : OTim K z.floor fl H
  ro : OTim K z.roof ro H
theorem Raw.mono {K : PySem.W.Frag} {z : Bk} {sh fa ma fl ro : V} {H H' : Hp} (x : Ex H H') (h : Raw K z sh fa ma fl ro H) : Raw K z sh fa ma fl ro H' := ⟨h.sh.mono x, h.fa.mono x, h.ma.mono x, h.fl.mono x, h.ro.mono x⟩
abbrev row9 (z : Bk) (sh fa ma fl ro : V) : List V := [.str z.word, sh, latV z.latest, fa, ma, fl, ro, .bl z.doubled, .bl z.kept]
abbrev dk9 (z : Bk) (sh fa ma fl ro : V) : HO := .dK (pk.zip (row9 z sh fa ma fl ro))
theorem val9 {z : Bk} {sh fa ma fl ro v : V} {x : Str} (i : Nat) (hx : pn[i]? = some x) (hv : (row9 z sh fa ma fl ro)[i]? = some v) : valV (pk.zip (row9 z sh fa ma fl ro)) (.inr x) = some v := valV_zip pk_nd (pk_at hx) hv
theorem o_eqSt {X : Cx} {H : Hp} {Q : VK} {x y : Str} (h : decide (x = y) = true) (q : Q (.bl true) H) : Op2 X (compareOp .Eq) (.str x) (.str y) H Q := o_eqS (by rw [h]; exact q)
theorem o_eqSf {X : Cx} {H : Hp} {Q : VK} {x y : Str} (h : decide (x = y) = false) (q : Q (.bl false) H) : Op2 X (compareOp .Eq) (.str x) (.str y) H Q := o_eqS (by rw [h]; exact q)
theorem gr_ok {H : Hp} {Q : V → Prop} {z : Bk} {d : Addr} {sh fa ma fl ro v : V} {x : Str} (hd : H d = some (dk9 z sh fa ma fl ro)) (i : Nat) (hx : pn[i]? = some x) (hv : (row9 z sh fa ma fl ro)[i]? = some v) (q : Q v) :
    ∃ a kvs x' v', V.ref d = .ref a ∧ V.str x = .str x' ∧ H a = some (.dK kvs) ∧ valV kvs (.inr x') = some v' ∧ Q v' := ⟨d, _, x, v, rfl, rfl, hd, val9 i hx hv, q⟩
theorem gs_ok {H : Hp} {Q : V → Prop} {z : Bk} {d : Addr} {sh fa ma fl ro v : V} {x : Str} (hd : H d = some (dk9 z sh fa ma fl ro)) (i : Nat) (hx : pn[i]? = some x) (hv : (row9 z sh fa ma fl ro)[i]? = some v) (q : Q v) :
    ∃ a kvs v', V.ref d = .ref a ∧ H a = some (.dK kvs) ∧ valV kvs (.inr x) = some v' ∧ Q v' := ⟨d, _, v, rfl, hd, val9 i hx hv, q⟩
local macro_rules | `(tactic| walk_at "wE") => `(tactic| first | ((with_reducible refine' we_dgetS ?B ?_ ?hs); (case B => assumption); (case hs => intro _ _; rfl)) | ((with_reducible refine' we_cmp ?_ ?hm); (case hm => rfl)) | fail)
local macro_rules | `(tactic| walk_at "wO") => `(tactic| first | ((with_reducible refine' o_eqSt ?h ?_); (case h => decide +kernel)) | ((with_reducible refine' o_eqSf ?h ?_); (case h => decide +kernel)) | with_reducible refine' o_isB ?_ | fail)
section
variable {P : Program} {w : World} {K : PySem.W.Frag} {mg : Str → Option Value} {base : Heap}
theorem z0s : Sz ((0 : Int) : Rat) 4000 := (Sz.int (n := 2) (by decide) (by decide)).mono (by decide)
theorem z1s : Sz ((1 : Int) : Rat) 4000 := (Sz.int (n := 2) (by decide) (by decide)).mono (by decide)
def spIsPos (K : PySem.W.Frag) : Sp := fun vs H Q _ => ∃ q v, vs = [v] ∧ Tim K q v H ∧ Sz q 4000 ∧ Bl H (decide (0 < q)) Q
theorem f_is_positive (T : Tm K mg) : GFn P w K mg base 6 "is_positive" (spIsPos K) := by
  obtain ⟨fd, F⟩ := T.d_is_positive
  refine GFn.mk F T.g_is_positive (def_ok F sc_is_positive (fun vs H Q E h => by obtain ⟨q, v, rfl, _⟩ := h; rfl) ?_) (F.bindsN fun _ _ _ _ _ _ us hl => match us, hl with | [_], _ => rfl)
  intro X eP ew eK em eb eN es hf nd H vs Q E B h
  subst eP ew eK em eb
  have n0 : Sl X 0 "thing" := slot_of eN es hf nd rfl (by first | exact Or.inl rfl | exact Or.inr rfl) (by decide) (by decide)
  have g_is_time : Gn X "is_time" := gn_of es rfl (by decide)
  have F_is_time := f_is_time (P := X.prog) (w := X.w) (base := X.base) T
  have g_time_of : Gn X "time_of" := gn_of es rfl (by decide)
  have F_time_of := f_time_of (P := X.prog) (w := X.w) (base := X.base) T
  obtain ⟨q, v, rfl, hv, hq, z⟩ := h
  show WB X [_] _ [some (v)] H
  have z0 := z0s
  repeat walk_at "w"
  refine it_tim T hv ?_
  repeat walk_at "w"
  refine to_tim hv fun y H1 x1 hy => ?_
  repeat walk_at "w"
  exact z _ (by walk_at "x")
def spIsLatest (K : PySem.W.Frag) : Sp := fun vs H Q _ => ∃ o q v, vs = [latV o, v] ∧ Tim K q v H ∧ Sz q 4000 ∧ (∀ n, o = some n → 1 ≤ n ∧ n ≤ 20 ∧ q = 1) ∧ Yes H Q
theorem f_is_latest (T : Tm K mg) : GFn P w K mg base 6 "is_latest" (spIsLatest K) := by
  obtain ⟨fd, F⟩ := T.d_is_latest
  refine GFn.mk F T.g_is_latest (def_ok F sc_is_latest (fun vs H Q E h => by obtain ⟨o, q, v, rfl, _⟩ := h; rfl) ?_) (F.bindsN fun _ _ _ _ _ _ us hl => match us, hl with | [_, _], _ => rfl)
  intro X eP ew eK em eb eN es hf nd H vs Q E B h
  subst eP ew eK em eb
  have n0 : Sl X 0 "thing" := slot_of eN es hf nd rfl (by first | exact Or.inl rfl | exact Or.inr rfl) (by decide) (by decide)
  have n1 : Sl X 1 "share" := slot_of eN es hf nd rfl (by first | exact Or.inl rfl | exact Or.inr rfl) (by decide) (by decide)
  have z_isinstance : Bn X "isinstance" := bn_of es rfl T.z_isinstance
  have z_int : Bn X "int" := bn_of es rfl T.z_int
  have z_bool : Bn X "bool" := bn_of es rfl T.z_bool
  have g_MOST_LATEST : Gn X "MOST_LATEST" := gn_of es rfl (by decide)
  obtain ⟨t_MOST_LATEST, m_MOST_LATEST⟩ := T.i_MOST_LATEST
  have g_time_of : Gn X "time_of" := gn_of es rfl (by decide)
  have F_time_of := f_time_of (P := X.prog) (w := X.w) (base := X.base) T
  obtain ⟨o, q, v, rfl, hv, hq, hn, z⟩ := h
  show WB X [_, _, _] _ [some (latV o), some (v)] H
  have z1 := z1s
  cases o with
  | none =>
    repeat walk_at "w"
    rw [decide_eq_true (show latV none = V.non from rfl)]
    repeat walk_at "w"
    exact z _ (.refl _)
  | some n =>
    obtain ⟨n1, n2, rfl⟩ := hn n rfl
    repeat walk_at "w"
    rw [decide_eq_false (show ¬ latV (some n) = V.non from fun e => nomatch e)]
    repeat walk_at "w"
    refine ⟨true, ⟨_, _, .ty _, .base (.int n), k_ii⟩, ?_⟩
    repeat walk_at "w"
    refine ⟨false, ⟨_, _, .ty _, .base (.int n), k_ib⟩, ?_⟩
    repeat walk_at "w"
    refine o_le (l := (n : Int)) ?_
    repeat walk_at "w"
    rw [decide_eq_true (show (1 : Int) ≤ (n : Int) by omega)]
    repeat walk_at "w"
    refine o_le (i := (n : Int)) ?_
    repeat walk_at "w"
    rw [decide_eq_true (show (n : Int) ≤ 20 by omega)]
    repeat walk_at "w"
    refine to_tim hv fun y H1 x1 hy => ?_
    repeat walk_at "w"
    rw [decide_eq_true (show (1 : Rat) = ((1 : Int) : Rat) from rfl)]
    exact z _ (by walk_at "x")
def spIsRoof (K : PySem.W.Frag) : Sp := fun vs H Q _ => ∃ r f v u, vs = [v, u] ∧ OTim K r v H ∧ OTim K f u H ∧ (∀ q, r = some q → Sz q 4000 ∧ 0 < q ∧ ∀ g, f = some g → Sz g 4000 ∧ g ≤ q) ∧ Yes H Q
theorem f_is_roof (T : Tm K mg) : GFn P w K mg base 7 "is_roof" (spIsRoof K) := by
  obtain ⟨fd, F⟩ := T.d_is_roof
  refine GFn.mk F T.g_is_roof (def_ok F sc_is_roof (fun vs H Q E h => by obtain ⟨r, f, v, u, rfl, _⟩ := h; rfl) ?_) (F.bindsN fun _ _ _ _ _ _ us hl => match us, hl with | [_, _], _ => rfl)
  intro X eP ew eK em eb eN es hf nd H vs Q E B h
  subst eP ew eK em eb
  have n0 : Sl X 0 "thing" := slot_of eN es hf nd rfl (by first | exact Or.inl rfl | exact Or.inr rfl) (by decide) (by decide)
  have n1 : Sl X 1 "floor" := slot_of eN es hf nd rfl (by first | exact Or.inl rfl | exact Or.inr rfl) (by decide) (by decide)
  have g_is_positive : Gn X "is_positive" := gn_of es rfl (by decide)
  have F_is_positive := f_is_positive (P := X.prog) (w := X.w) (base := X.base) T
  have g_time_of : Gn X "time_of" := gn_of es rfl (by decide)
  have F_time_of := f_time_of (P := X.prog) (w := X.w) (base := X.base) T
  obtain ⟨r, f, v, u, rfl, hv, hu, hr, z⟩ := h
  show WB X [_, _] _ [some (v), some (u)] H
  cases r with
  | none =>
    cases hv
    repeat walk_at "w"
    rw [decide_eq_true (rfl : V.non = V.non)]
    repeat walk_at "w"
    exact z _ (.refl _)
  | some q =>
    obtain ⟨zq, q0, hg⟩ := hr q rfl
    have hv : Tim X.K q v H := hv
    repeat walk_at "w"
    rw [decide_eq_false hv.nn]
    repeat walk_at "w"
    refine ⟨q, v, rfl, hv, zq, ?_⟩
    rw [decide_eq_true q0]
    repeat walk_at "w"
    rename_i H1 x1
    cases f with
    | none =>
      cases hu
      rw [decide_eq_true (rfl : V.non = V.non)]
      repeat walk_at "w"
      exact z _ x1
    | some g =>
      obtain ⟨zg, gq⟩ := hg g rfl
      have hu : Tim X.K g u H := hu
      rw [decide_eq_false hu.nn]
      repeat walk_at "w"
      refine to_tim (hv.mono x1) fun y H2 x2 hy => ?_
      repeat walk_at "w"
      have hu2 : Tim X.K g u H2 := hu.mono (x1.trans x2)
      rw [decide_eq_true gq]
      exact z _ (by walk_at "x")
end
section
variable {P : Program} {w : World} {K : PySem.W.Frag} {mg : Str → Option Value} {base : Heap}
def spAllowed (K : PySem.W.Frag) : Sp := fun vs H Q _ => ∃ z d sh fa ma fl ro x, ∃ i : Nat, vs = [.str x, .ref d] ∧ H d = some (dk9 z sh fa ma fl ro) ∧ Raw K z sh fa ma fl ro H ∧ BkOk z ∧ pn[i]? = some x ∧ Yes H Q
theorem f_is_allowed (T : Tm K mg) : GFn P w K mg base 8 "is_allowed" (spAllowed K) := by
  obtain ⟨fd, F⟩ := T.d_is_allowed
  refine GFn.mk F T.g_is_allowed (def_ok F sc_is_allowed (fun vs H Q E h => by obtain ⟨z, d, sh, fa, ma, fl, ro, x, i, rfl, _⟩ := h; rfl) ?_) (F.bindsN fun _ _ _ _ _ _ us hl => match us, hl with | [_, _], _ => rfl)
  intro X eP ew eK em eb eN es hf nd H vs Q E B h
  subst eP ew eK em eb
  have n0 : Sl X 0 "part" := slot_of eN es hf nd rfl (by first | exact Or.inl rfl | exact Or.inr rfl) (by decide) (by decide)
  have n1 : Sl X 1 "rules" := slot_of eN es hf nd rfl (by first | exact Or.inl rfl | exact Or.inr rfl) (by decide) (by decide)
  have n2 : Sl X 2 "thing" := slot_of eN es hf nd rfl (by first | exact Or.inl rfl | exact Or.inr rfl) (by decide) (by decide)
  have z_isinstance : Bn X "isinstance" := bn_of es rfl T.z_isinstance
  have z_str : Bn X "str" := bn_of es rfl T.z_str
  have g_SAMPLES : Gn X "SAMPLES" := gn_of es rfl (by decide)
  have m_SAMPLES := T.g_SAMPLES
  have g_is_positive : Gn X "is_positive" := gn_of es rfl (by decide)
  have F_is_positive := f_is_positive (P := X.prog) (w := X.w) (base := X.base) T
  have g_time_of : Gn X "time_of" := gn_of es rfl (by decide)
  have F_time_of := f_time_of (P := X.prog) (w := X.w) (base := X.base) T
  have g_is_latest : Gn X "is_latest" := gn_of es rfl (by decide)
  have F_is_latest := f_is_latest (P := X.prog) (w := X.w) (base := X.base) T
  have g_is_time : Gn X "is_time" := gn_of es rfl (by decide)
  have F_is_time := f_is_time (P := X.prog) (w := X.w) (base := X.base) T
  have g_is_roof : Gn X "is_roof" := gn_of es rfl (by decide)
  have F_is_roof := f_is_roof (P := X.prog) (w := X.w) (base := X.base) T
  obtain ⟨z, d, sh, fa, ma, fl, ro, x, i, rfl, hd, hr, ok, hx, k⟩ := h
  show WB X [_, _, _, _, _, _, _, _, _, _] _ [some (.str x), some (.ref d), none] H
  have z0 := z0s
  have z1 := z1s
  have up : ∀ {q : Rat}, Sz q 1000 → Sz q 4000 := fun h => h.mono (by decide)
  have zsh := up ok.z1
  have zfa := up ok.z2
  have zma := up ok.z3
  match i, hx with
  | 0, hx =>
    cases hx
    refine wb_cons (ws_set n2 (we_dget B ?_))
    repeat walk_at "w"
    refine gr_ok hd 0 rfl rfl ?_
    repeat walk_at "w"
    refine ⟨true, ⟨_, _, .ty _, .base (.str _), k_ss⟩, ?_⟩
    repeat walk_at "w"
    refine o_inT (v := .str z.word) (T.kt_SAMPLES.sq _) rfl (by decide +kernel) ?_
    rw [show inV (.str z.word) _ = true from ?h]
    exact k _ (.refl _)
    have := ok.word
    simp only [List.mem_cons, List.not_mem_nil, or_false] at this
    rcases this with e | e | e | e <;> rw [e] <;> decide +kernel
  | 1, hx =>
    cases hx
    refine wb_cons (ws_set n2 (we_dget B ?_))
    repeat walk_at "w"
    refine gr_ok hd 1 rfl rfl ?_
    repeat walk_at "w"
    refine ⟨_, _, rfl, hr.sh, zsh, ?_⟩
    rw [decide_eq_true ok.sh0]
    repeat walk_at "w"
    rename_i H1 x1
    refine to_tim (hr.sh.mono x1) fun y H2 x2 hy => ?_
    repeat walk_at "w"
    rw [decide_eq_true (show z.share ≤ ((1 : Int) : Rat) from ok.sh1)]
    exact k _ (by walk_at "x")
  | 2, hx =>
    cases hx
    refine wb_cons (ws_set n2 (we_dget B ?_))
    repeat walk_at "w"
    refine gr_ok hd 2 rfl rfl ?_
    repeat walk_at "w"
    refine gs_ok hd 1 rfl rfl ?_
    repeat walk_at "w"
    refine ⟨z.latest, z.share, sh, rfl, hr.sh, zsh, ok.lat, ?_⟩
    exact k
  | 3, hx =>
    cases hx
    refine wb_cons (ws_set n2 (we_dget B ?_))
    repeat walk_at "w"
    refine gr_ok hd 3 rfl rfl ?_
    repeat walk_at "w"
    refine it_tim T hr.fa ?_
    repeat walk_at "w"
    refine to_tim hr.fa fun y H2 x2 hy => ?_
    repeat walk_at "w"
    rw [decide_eq_true (show ((1 : Int) : Rat) ≤ z.factor from ok.fa)]
    exact k _ (by walk_at "x")
  | 4, hx =>
    cases hx
    refine wb_cons (ws_set n2 (we_dget B ?_))
    repeat walk_at "w"
    refine gr_ok hd 4 rfl rfl ?_
    repeat walk_at "w"
    refine it_tim T hr.ma ?_
    repeat walk_at "w"
    refine to_tim hr.ma fun y H2 x2 hy => ?_
    repeat walk_at "w"
    rw [decide_eq_true (show ((0 : Int) : Rat) ≤ z.margin from ok.ma)]
    exact k _ (by walk_at "x")
  | 5, hx =>
    cases hx
    refine wb_cons (ws_set n2 (we_dget B ?_))
    repeat walk_at "w"
    refine gr_ok hd 5 rfl rfl ?_
    repeat walk_at "w"
    have hfl := hr.fl
    have h0 := ok.fl
    have hz := ok.z4
    generalize z.floor = o at hfl h0 hz
    cases o with
    | none =>
      cases hfl
      rw [decide_eq_true (rfl : V.non = V.non)]
      repeat walk_at "w"
      exact k _ (.refl _)
    | some q =>
      have hfl : Tim X.K q fl H := hfl
      rw [decide_eq_false hfl.nn]
      repeat walk_at "w"
      refine ⟨q, fl, rfl, hfl, up (hz q rfl), ?_⟩
      rw [decide_eq_true (h0 q rfl)]
      exact k
  | 6, hx =>
    cases hx
    refine wb_cons (ws_set n2 (we_dget B ?_))
    repeat walk_at "w"
    refine gr_ok hd 6 rfl rfl ?_
    repeat walk_at "w"
    refine gs_ok hd 5 rfl rfl ?_
    repeat walk_at "w"
    exact ⟨z.roof, z.floor, ro, fl, rfl, hr.ro, hr.fl, fun q e => ⟨up (ok.z5 q e), (ok.ro q e).1, fun g eg => ⟨up (ok.z4 g eg), (ok.ro q e).2 g eg⟩⟩, k⟩
  | 7, hx =>
    cases hx
    refine wb_cons (ws_set n2 (we_dget B ?_))
    repeat walk_at "w"
    refine gr_ok hd 7 rfl rfl ?_
    repeat walk_at "w"
    cases z.doubled with
    | true => exact k _ (.refl _)
    | false =>
      rw [decide_eq_false (show ¬ false = true by decide)]
      repeat walk_at "w"
      exact k _ (.refl _)
  | 8, hx =>
    cases hx
    refine wb_cons (ws_set n2 (we_dget B ?_))
    repeat walk_at "w"
    refine gr_ok hd 8 rfl rfl ?_
    repeat walk_at "w"
    have hk := ok.ke
    cases q : z.kept with
    | false => exact k _ (.refl _)
    | true =>
      rw [decide_eq_false (show ¬ true = false by decide)]
      repeat walk_at "w"
      rw [decide_eq_true (rfl : true = true)]
      repeat walk_at "w"
      refine gs_ok hd 7 rfl rfl ?_
      rw [hk q]
      exact k _ (.refl _)
  | i + 9, hx => cases hx
end
/-! ### checked, Book(..) -/
section
variable {K : PySem.W.Frag} {C p : Addr} {q : Rat} {v : V} {H : Hp} {kvs : List (Key × V)} {u : HO}
theorem TimeV.upD (hp : H p = some (.dK kvs)) (h : TimeV C q v H) : TimeV C q v (upd H p u) := TimeV.up hp (fun _ e => nomatch e) h
theorem Tim.upD (hp : H p = some (.dK kvs)) (h : Tim K q v H) : Tim K q v (upd H p u) := h.elim (fun h => .inl (TimeV.upD hp h)) .inr
theorem OTim.upD {o : Option Rat} (hp : H p = some (.dK kvs)) (h : OTim K o v H) : OTim K o v (upd H p u) := by
  cases o with
  | none => exact h
  | some q => exact Tim.upD hp h
theorem OptT.upD {o : Option Rat} (hp : H p = some (.dK kvs)) (h : OptT K o v H) : OptT K o v (upd H p u) := by
  cases o with
  | none => exact h
  | some q => exact TimeV.upD hp h
theorem Raw.upD {z : Bk} {sh fa ma fl ro : V} (hp : H p = some (.dK kvs)) (h : Raw K z sh fa ma fl ro H) : Raw K z sh fa ma fl ro (upd H p u) := ⟨h.sh.upD hp, h.fa.upD hp, h.ma.upD hp, h.fl.upD hp, h.ro.upD hp⟩
end
/-- the nine values as a book keeps them -/
structure Kept (K : PySem.W.Frag) (z : Bk) (sh fa ma fl ro : V) (H : Hp) : Prop where
  sh : TimeV (CT K) z.share sh H
  fa : TimeV (CT K) z.factor fa H
  ma : TimeV (CT K) z.margin ma H
  fl : OptT K z.floor fl H
  ro : OptT K z.roof ro H
theorem Kept.mono {K : PySem.W.Frag} {z : Bk} {sh fa ma fl ro : V} {H H' : Hp} (x : Ex H H') (h : Kept K z sh fa ma fl ro H) : Kept K z sh fa ma fl ro H' := ⟨TimeV.mono x h.sh, TimeV.mono x h.fa, TimeV.mono x h.ma, h.fl.mono x, h.ro.mono x⟩
theorem Kept.raw {K : PySem.W.Frag} {z : Bk} {sh fa ma fl ro : V} {H : Hp} (h : Kept K z sh fa ma fl ro H) : Raw K z sh fa ma fl ro H := ⟨.inl h.sh, .inl h.fa, .inl h.ma, h.fl.oTim, h.ro.oTim⟩
/-- found[name i] = v -/
theorem put9 {z : Bk} {sh fa ma fl ro v : V} {x : Str} (i : Nat) (hx : pn[i]? = some x) : putK (pk.zip (row9 z sh fa ma fl ro)) (.inr x) v = pk.zip ((row9 z sh fa ma fl ro).set i v) := putK_zip pk_nd rfl (pk_at hx)
section
variable {P : Program} {w : World} {K : PySem.W.Frag} {mg : Str → Option Value} {base : Heap}
def spCheckedB (K : PySem.W.Frag) : Sp := fun vs H Q _ => ∃ z d sh fa ma fl ro, vs = [.ref d] ∧ H d = some (dk9 z sh fa ma fl ro) ∧ Raw K z sh fa ma fl ro H ∧ BkOk z ∧
  ∀ d' H' sh fa ma fl ro, Ex H H' → H d' = none → H' d' = some (dk9 z sh fa ma fl ro) → Kept K z sh fa ma fl ro H' → Q (.ref d') H'
theorem f_checked (T : Tm K mg) : GFn P w K mg base 9 "checked" (spCheckedB K) := by
  obtain ⟨fd, F⟩ := T.d_checked
  refine GFn.mk F T.g_checked (def_ok F sc_checked (fun vs H Q E h => by obtain ⟨z, d, sh, fa, ma, fl, ro, rfl, _⟩ := h; rfl) ?_) (F.bindsN fun _ _ _ _ _ _ us hl => match us, hl with | [_], _ => rfl)
  intro X eP ew eK em eb eN es hf nd H vs Q E B h
  subst eP ew eK em eb
  have n0 : Sl X 0 "rules" := slot_of eN es hf nd rfl (by first | exact Or.inl rfl | exact Or.inr rfl) (by decide) (by decide)
  have n1 : Sl X 1 "part" := slot_of eN es hf nd rfl (by first | exact Or.inl rfl | exact Or.inr rfl) (by decide) (by decide)
  have n2 : Sl X 2 "found" := slot_of eN es hf nd rfl (by first | exact Or.inl rfl | exact Or.inr rfl) (by decide) (by decide)
  have g_PARTS : Gn X "PARTS" := gn_of es rfl (by decide)
  have m_PARTS := T.g_PARTS
  have g_is_allowed : Gn X "is_allowed" := gn_of es rfl (by decide)
  have F_is_allowed := f_is_allowed (P := X.prog) (w := X.w) (base := X.base) T
  have g_BadBook : Gn X "BadBook" := gn_of es rfl (by decide)
  have m_BadBook := T.g_BadBook
  have z_dict : Bn X "dict" := bn_of es rfl T.z_dict
  have g_time_of : Gn X "time_of" := gn_of es rfl (by decide)
  have F_time_of := f_time_of (P := X.prog) (w := X.w) (base := X.base) T
  obtain ⟨z, d, sh, fa, ma, fl, ro, rfl, hd, hr, ok, k⟩ := h
  show WB X [_, _, _, _, _] _ [some (.ref d), none, none] H
  refine wb_cons (ws_to (fun σ' H' => (∃ a, σ' = [some (.ref d), a, none]) ∧ Ex H H') ?_ ?_)
  · refine ws_for_tupE B n1 ?_
    repeat walk_at "w"
    refine ⟨_, _, rfl, fun _ σ' H' => (∃ a, σ' = [some (.ref d), a, none]) ∧ Ex H H', ⟨⟨_, rfl⟩, .refl _⟩, fun j σ' H' _ _ => T.kt_PARTS.sq H', ?_, fun _ _ h => h⟩
    rintro j y σ' H' hy ⟨⟨a, rfl⟩, x1⟩
    obtain ⟨x, hx, rfl⟩ : ∃ x, pn[j]? = some x ∧ y = .str x := by
      have e : (pn.map V.str)[j]? = some y := hy
      rw [List.getElem?_map] at e
      cases q : pn[j]? with
      | none => rw [q] at e; cases e
      | some x => rw [q] at e; cases e; exact ⟨x, rfl, rfl⟩
    repeat walk_at "w"
    refine ⟨z, d, sh, fa, ma, fl, ro, x, j, rfl, x1.keep _ _ hd not_src_dk, hr.mono x1, ok, hx, fun H2 x2 => ?_⟩
    repeat walk_at "w"
    exact ⟨⟨_, rfl⟩, x1.trans x2⟩
  rintro σ' H1 ⟨⟨a, rfl⟩, x1⟩
  refine wb_cons (ws_set n2 (we_dictC z_dict ?_))
  repeat walk_at "w"
  refine ⟨d, _, rfl, x1.keep _ _ hd not_src_dk, fun d' nd' => ?_⟩
  have hd1 := x1.keep _ _ hd not_src_dk
  have hr1 := hr.mono x1
  have x2 : Ex H (upd H1 d' (dk9 z sh fa ma fl ro)) := x1.trans (Ex.new nd')
  have nd0 := x1.back nd'
  have ne : d ≠ d' := fun e => by subst e; rw [nd'] at hd1; cases hd1
  have p2 : upd H1 d' (dk9 z sh fa ma fl ro) d' = some (dk9 z sh fa ma fl ro) := upd_same
  have hr2 : Raw X.K z sh fa ma fl ro (upd H1 d' (dk9 z sh fa ma fl ro)) := hr1.mono (Ex.new nd')
  show WB X _ _ [some (.ref d), a, some (.ref d')] (upd H1 d' (dk9 z sh fa ma fl ro))
  generalize upd H1 d' (dk9 z sh fa ma fl ro) = H2 at x2 p2 hr2 ⊢
  clear hd1 hr1 nd' x1
  have hd0 : ∀ {G : Hp}, Ex H G → G d = some (dk9 z sh fa ma fl ro) := fun x => x.keep _ _ hd not_src_dk
  -- share, factor, margin
  refine wb_cons (ws_to (fun σ' H' => ∃ b sh2 fa2 ma2, σ' = [some (.ref d), b, some (.ref d')] ∧ Ex H H' ∧ H' d' = some (dk9 z sh2 fa2 ma2 fl ro) ∧ TimeV (CT X.K) z.share sh2 H' ∧ TimeV (CT X.K) z.factor fa2 H' ∧ TimeV (CT X.K) z.margin ma2 H') ?_ ?_)
  · refine ws_for_tupE B n1 ?_
    refine we_tup ?_
    repeat walk_at "w"
    refine tup_i len3 fun t H3 x3 ht => ?_
    have p3 := x3.keep _ _ p2 not_src_dk
    refine ⟨t, [.str "share", .str "factor", .str "margin"], rfl, fun j σ' H' => ∃ b sh2 fa2 ma2, σ' = [some (.ref d), b, some (.ref d')] ∧ Ex H H' ∧ H' t = some (.tup [.str "share", .str "factor", .str "margin"]) ∧ H' d' = some (dk9 z sh2 fa2 ma2 fl ro) ∧ (1 ≤ j → TimeV (CT X.K) z.share sh2 H') ∧ (2 ≤ j → TimeV (CT X.K) z.factor fa2 H') ∧ (3 ≤ j → TimeV (CT X.K) z.margin ma2 H'),
      ⟨_, _, _, _, rfl, x2.trans x3, ht, p3, fun h => absurd h (by decide), fun h => absurd h (by decide), fun h => absurd h (by decide)⟩, fun j σ' H' _ h => ?_, ?_, ?_⟩
    · obtain ⟨b, sh2, fa2, ma2, _, _, ht, _⟩ := h
      exact .of ht
    · rintro j y σ' H4 hy ⟨b, sh2, fa2, ma2, rfl, x4, ht4, p4, c1, c2, c3⟩
      have hr4 := hr.mono x4
      have nt : ∀ {u : HO} {H5 : Hp}, Ex H4 H5 → upd H5 d' u t = some (.tup [.str "share", .str "factor", .str "margin"]) := fun {u H5} x => (upd_ne (fun e => by subst e; rw [ht4] at p4; cases p4)).trans (x.tup ht4)
      match j, hy with
      | 0, hy =>
        cases hy
        refine wb_one (ws_dput B ?_)
        repeat walk_at "w"
        refine we_dget B ?_
        repeat walk_at "w"
        refine gr_ok (hd0 x4) 1 rfl rfl ?_
        refine to_tim hr4.sh fun v H5 x5 hv => ?_
        repeat walk_at "w"
        have p5 := x5.keep _ _ p4 not_src_dk
        refine ⟨d', _, "share", rfl, rfl, p5, (show 9 < sizeLine by decide), ?_⟩
        rw [put9 1 rfl]
        exact ⟨_, v, fa2, ma2, rfl, (x4.trans x5).put nd0, nt x5, upd_same, fun _ => TimeV.upD p5 hv, fun h => absurd h (by decide), fun h => absurd h (by decide)⟩
      | 1, hy =>
        cases hy
        refine wb_one (ws_dput B ?_)
        repeat walk_at "w"
        refine we_dget B ?_
        repeat walk_at "w"
        refine gr_ok (hd0 x4) 3 rfl rfl ?_
        refine to_tim hr4.fa fun v H5 x5 hv => ?_
        repeat walk_at "w"
        have p5 := x5.keep _ _ p4 not_src_dk
        refine ⟨d', _, "factor", rfl, rfl, p5, (show 9 < sizeLine by decide), ?_⟩
        rw [put9 3 rfl]
        exact ⟨_, sh2, v, ma2, rfl, (x4.trans x5).put nd0, nt x5, upd_same, fun _ => TimeV.upD p5 (TimeV.mono x5 (c1 (by decide))), fun _ => TimeV.upD p5 hv, fun h => absurd h (by decide)⟩
      | 2, hy =>
        cases hy
        refine wb_one (ws_dput B ?_)
        repeat walk_at "w"
        refine we_dget B ?_
        repeat walk_at "w"
        refine gr_ok (hd0 x4) 4 rfl rfl ?_
        refine to_tim hr4.ma fun v H5 x5 hv => ?_
        repeat walk_at "w"
        have p5 := x5.keep _ _ p4 not_src_dk
        refine ⟨d', _, "margin", rfl, rfl, p5, (show 9 < sizeLine by decide), ?_⟩
        rw [put9 4 rfl]
        exact ⟨_, sh2, fa2, v, rfl, (x4.trans x5).put nd0, nt x5, upd_same, fun _ => TimeV.upD p5 (TimeV.mono x5 (c1 (by decide))), fun _ => TimeV.upD p5 (TimeV.mono x5 (c2 (by decide))), fun _ => TimeV.upD p5 hv⟩
      | j + 3, hy => cases hy
    · rintro σ' H4 ⟨b, sh2, fa2, ma2, rfl, x4, _, p4, c1, c2, c3⟩
      exact ⟨b, sh2, fa2, ma2, rfl, x4, p4, c1 (by decide), c2 (by decide), c3 (by decide)⟩
  rintro σ' H3 ⟨b, sh2, fa2, ma2, rfl, x3, p3, h1, h2, h3⟩
  clear p2 hr2 x2
  -- floor, roof
  refine wb_cons (ws_to (fun σ' H' => ∃ b fl2 ro2, σ' = [some (.ref d), b, some (.ref d')] ∧ Ex H H' ∧ H' d' = some (dk9 z sh2 fa2 ma2 fl2 ro2) ∧ Kept X.K z sh2 fa2 ma2 fl2 ro2 H') ?_ ?_)
  · refine ws_for_tupE B n1 ?_
    refine we_tup ?_
    repeat walk_at "w"
    refine tup_i len2 fun t H4 x4 ht => ?_
    have p4 := x4.keep _ _ p3 not_src_dk
    have hr4 := hr.mono (x3.trans x4)
    refine ⟨t, [.str "floor", .str "roof"], rfl, fun j σ' H' => ∃ b fl2 ro2, σ' = [some (.ref d), b, some (.ref d')] ∧ Ex H H' ∧ H' t = some (.tup [.str "floor", .str "roof"]) ∧ H' d' = some (dk9 z sh2 fa2 ma2 fl2 ro2) ∧ TimeV (CT X.K) z.share sh2 H' ∧ TimeV (CT X.K) z.factor fa2 H' ∧ TimeV (CT X.K) z.margin ma2 H' ∧ (if 1 ≤ j then OptT X.K z.floor fl2 H' else fl2 = fl) ∧ (if 2 ≤ j then OptT X.K z.roof ro2 H' else ro2 = ro),
      ⟨_, fl, ro, rfl, x3.trans x4, ht, p4, TimeV.mono x4 h1, TimeV.mono x4 h2, TimeV.mono x4 h3, rfl, rfl⟩, fun j σ' H' _ h => ?_, ?_, ?_⟩
    · obtain ⟨b, fl2, ro2, _, _, ht, _⟩ := h
      exact .of ht
    · rintro j y σ' H5 hy ⟨b, fl2, ro2, rfl, x5, ht5, p5, g1, g2, g3, c1, c2⟩
      have hr5 := hr.mono x5
      have nt : ∀ {u : HO} {H6 : Hp}, Ex H5 H6 → upd H6 d' u t = some (.tup [.str "floor", .str "roof"]) := fun {u H6} x => (upd_ne (fun e => by subst e; rw [ht5] at p5; cases p5)).trans (x.tup ht5)
      match j, hy with
      | 0, hy =>
        cases hy
        have c1 : fl2 = fl := c1
        subst c1
        have hf := hr5.fl
        repeat walk_at "w"
        refine we_dget B ?_
        repeat walk_at "w"
        refine gr_ok (hd0 x5) 5 rfl rfl ?_
        repeat walk_at "w"
        cases eo : z.floor with
        | none =>
          rw [eo] at hf
          cases hf
          rw [decide_eq_true (rfl : V.non = V.non)]
          repeat walk_at "w"
          exact ⟨_, _, _, rfl, x5, ht5, p5, g1, g2, g3, rfl, c2⟩
        | some q =>
          rw [eo] at hf
          have hf : Tim X.K q fl2 H5 := hf
          rw [decide_eq_false hf.nn]
          repeat walk_at "w"
          refine ws_dput B ?_
          repeat walk_at "w"
          refine we_dget B ?_
          repeat walk_at "w"
          refine gr_ok (hd0 x5) 5 rfl rfl ?_
          refine to_tim hf fun v H6 x6 hv => ?_
          repeat walk_at "w"
          have p6 := x6.keep _ _ p5 not_src_dk
          refine ⟨d', _, "floor", rfl, rfl, p6, (show 9 < sizeLine by decide), ?_⟩
          rw [put9 5 rfl]
          exact ⟨_, v, _, rfl, (x5.trans x6).put nd0, nt x6, upd_same, TimeV.upD p6 (TimeV.mono x6 g1), TimeV.upD p6 (TimeV.mono x6 g2), TimeV.upD p6 (TimeV.mono x6 g3), TimeV.upD p6 hv, c2⟩
      | 1, hy =>
        cases hy
        have c2 : ro2 = ro := c2
        subst c2
        have c1 : OptT X.K z.floor fl2 H5 := c1
        have hf := hr5.ro
        repeat walk_at "w"
        refine we_dget B ?_
        repeat walk_at "w"
        refine gr_ok (hd0 x5) 6 rfl rfl ?_
        repeat walk_at "w"
        cases eo : z.roof with
        | none =>
          rw [eo] at hf
          cases hf
          rw [decide_eq_true (rfl : V.non = V.non)]
          repeat walk_at "w"
          exact ⟨_, _, _, rfl, x5, ht5, p5, g1, g2, g3, c1, rfl⟩
        | some q =>
          rw [eo] at hf
          have hf : Tim X.K q ro2 H5 := hf
          rw [decide_eq_false hf.nn]
          repeat walk_at "w"
          refine ws_dput B ?_
          repeat walk_at "w"
          refine we_dget B ?_
          repeat walk_at "w"
          refine gr_ok (hd0 x5) 6 rfl rfl ?_
          refine to_tim hf fun v H6 x6 hv => ?_
          repeat walk_at "w"
          have p6 := x6.keep _ _ p5 not_src_dk
          refine ⟨d', _, "roof", rfl, rfl, p6, (show 9 < sizeLine by decide), ?_⟩
          rw [put9 6 rfl]
          exact ⟨_, _, v, rfl, (x5.trans x6).put nd0, nt x6, upd_same, TimeV.upD p6 (TimeV.mono x6 g1), TimeV.upD p6 (TimeV.mono x6 g2), TimeV.upD p6 (TimeV.mono x6 g3), OptT.upD p6 (c1.mono x6), TimeV.upD p6 hv⟩
      | j + 2, hy => cases hy
    · rintro σ' H5 ⟨b, fl2, ro2, rfl, x5, _, p5, g1, g2, g3, c1, c2⟩
      exact ⟨b, fl2, ro2, rfl, x5, p5, g1, g2, g3, c1, c2⟩
  rintro σ' H4 ⟨b, fl2, ro2, rfl, x4, p4, hk⟩
  repeat walk_at "w"
  exact k _ _ _ _ _ _ _ x4 nd0 p4 hk
end

/-! ### Book(..) made -/
abbrev CB (K : PySem.W.Frag) : Addr := ga K "Book"
def BookV (K : PySem.W.Frag) (z : Bk) (v : V) (H : Hp) : Prop := ∃ p dx d sh fa ma fl ro, v = .ref p ∧ H p = some (.ins (CB K) dx [("rules", .ref d)]) ∧ H d = some (dk9 z sh fa ma fl ro) ∧ Kept K z sh fa ma fl ro H
theorem BookV.mono {K : PySem.W.Frag} {z : Bk} {v : V} {H H' : Hp} (x : Ex H H') (h : BookV K z v H) : BookV K z v H' := by
  obtain ⟨p, dx, d, sh, fa, ma, fl, ro, rfl, hp, hd, hk⟩ := h
  exact ⟨p, dx, d, sh, fa, ma, fl, ro, rfl, x.ins hp, x.keep _ _ hd not_src_dk, hk.mono x⟩
theorem bk_fld {H : Hp} {p C dx d : Addr} {P : V → Prop} (hp : H p = some (.ins C dx [("rules", .ref d)])) (q : P (.ref d)) : ∃ a dx fs v, V.ref p = .ref a ∧ H a = some (.ins C dx fs) ∧ fs.lookup ("rules" : Str) = some v ∧ P v := ⟨p, dx, _, _, rfl, hp, rfl, q⟩
section
variable {X : Cx} {σ : L2.St} {H : Hp} {D : Ends} {Q : VK} {e o value : Expr} {pos pos' : Pos}
theorem we_rules (T : Tm X.K X.mg) (h : WE X e σ H fun y H1 => ∃ a dx fs v, y = .ref a ∧ H1 a = some (.ins (CB X.K) dx fs) ∧ fs.lookup ("rules" : Str) = some v ∧ Q v H1) (hb : attributeBase e "rules" X.env (eval e X.env) = eval e X.env := by rfl) : WE X (.Attribute e "rules" pos) σ H Q := we_fld T.c_Book.cl T.n_Book_rules h hb
theorem ws_rules (T : Tm X.K X.mg) (h : WE X value σ H fun y H1 => WE X o σ H1 fun z H2 => ∃ a dx fs, z = .ref a ∧ H2 a = some (.ins (CB X.K) dx fs) ∧ fs.length < 1000 ∧ D.nx σ (upd H2 a (.ins (CB X.K) dx (putF ("rules" : Str) y fs)))) (hs : swapsWith value (some (.Attribute o "rules" pos')) pos.line X.env = pure false := by rfl) : WS X (.Assign [.Attribute o "rules" pos'] value pos) D σ H := ws_fld T.c_Book.cl T.n_Book_rules h hs
end
local macro_rules | `(tactic| walk_at "wE") => `(tactic| first | ((with_reducible refine' we_rules ?T ?_ ?hb); (case T => assumption); (case hb => rfl)) | fail)
local macro_rules | `(tactic| walk_at "wS") => `(tactic| first | ((with_reducible refine' ws_rules ?T ?_ ?hs); (case T => assumption); (case hs => rfl)) | fail)
section
variable {P : Program} {w : World} {K : PySem.W.Frag} {mg : Str → Option Value} {base : Heap}
def spBInit (K : PySem.W.Frag) : Sp := fun vs H Q _ => ∃ z p dx sh fa ma fl ro, vs = .ref p :: row9 z sh fa ma fl ro ∧ H p = some (.ins (CB K) dx []) ∧ Raw K z sh fa ma fl ro H ∧ BkOk z ∧
  ∀ H', ExX (fun a => a = p) H H' → BookV K z (.ref p) H' → Q .non H'
theorem ok_binit (T : Tm K mg) {fd : FuncData} {kws : List (Str × V)} (F : FunD K "__init__" "Book.__init__" (defArgs s_Book___init__) (defBody s_Book___init__) (defScope s_Book___init__) [] kws (ma K (CB K) "__init__") fd) :
    FnOk P w K mg base (RX P w) 10 (ma K (CB K) "__init__") fd ["self", "sample", "share", "latest", "factor", "margin", "floor", "roof", "doubled", "kept"] (spBInit K) := by
  refine def_ok F sc_Book___init__ (fun vs H Q E h => by obtain ⟨z, p, dx, sh, fa, ma, fl, ro, rfl, _⟩ := h; rfl) ?_
  intro X eP ew eK em eb eN es hf nd H vs Q E B h
  subst eP ew eK em eb
  have n0 : Sl X 0 "self" := slot_of eN es hf nd rfl (by first | exact Or.inl rfl | exact Or.inr rfl) (by decide) (by decide)
  have n1 : Sl X 1 "sample" := slot_of eN es hf nd rfl (by first | exact Or.inl rfl | exact Or.inr rfl) (by decide) (by decide)
  have n2 : Sl X 2 "share" := slot_of eN es hf nd rfl (by first | exact Or.inl rfl | exact Or.inr rfl) (by decide) (by decide)
  have n3 : Sl X 3 "latest" := slot_of eN es hf nd rfl (by first | exact Or.inl rfl | exact Or.inr rfl) (by decide) (by decide)
  have n4 : Sl X 4 "factor" := slot_of eN es hf nd rfl (by first | exact Or.inl rfl | exact Or.inr rfl) (by decide) (by decide)
  have n5 : Sl X 5 "margin" := slot_of eN es hf nd rfl (by first | exact Or.inl rfl | exact Or.inr rfl) (by decide) (by decide)
  have n6 : Sl X 6 "floor" := slot_of eN es hf nd rfl (by first | exact Or.inl rfl | exact Or.inr rfl) (by decide) (by decide)
  have n7 : Sl X 7 "roof" := slot_of eN es hf nd rfl (by first | exact Or.inl rfl | exact Or.inr rfl) (by decide) (by decide)
  have n8 : Sl X 8 "doubled" := slot_of eN es hf nd rfl (by first | exact Or.inl rfl | exact Or.inr rfl) (by decide) (by decide)
  have n9 : Sl X 9 "kept" := slot_of eN es hf nd rfl (by first | exact Or.inl rfl | exact Or.inr rfl) (by decide) (by decide)
  have g_checked : Gn X "checked" := gn_of es rfl (by decide)
  have F_checked := f_checked (P := X.prog) (w := X.w) (base := X.base) T
  obtain ⟨z, p, dx, sh, fa, ma, fl, ro, rfl, hp, hr, ok, k⟩ := h
  show WB X [_] _ [some (.ref p), some (.str z.word), some (sh), some (latV z.latest), some (fa), some (ma), some (fl), some (ro), some (.bl z.doubled), some (.bl z.kept)] H
  repeat walk_at "w"
  refine we_disp (fun e => nomatch e) fun d nd' => ?_
  iterate 9
    refine wp_cons ?_
    repeat walk_at "w"
  refine wp_nil ⟨upd_same, pk.zip (row9 z sh fa ma fl ro), rfl, (show 9 ≤ 15 by decide), ?_⟩
  rw [mergeK_zip pk_nd rfl, upd2]
  have x1 : Ex H (upd H d (dk9 z sh fa ma fl ro)) := Ex.new nd'
  have hd1 : upd H d (dk9 z sh fa ma fl ro) d = some (dk9 z sh fa ma fl ro) := upd_same
  show spCheckedB _ _ (upd H d (dk9 z sh fa ma fl ro)) _ _
  generalize upd H d (dk9 z sh fa ma fl ro) = H1 at x1 hd1 ⊢
  refine ⟨z, d, sh, fa, ma, fl, ro, rfl, hd1, hr.mono x1, ok, fun d' H2 sh' fa' ma' fl' ro' x2 nd2 hd2 hk => ?_⟩
  repeat walk_at "w"
  have hp2 := (x1.trans x2).ins hp
  refine ⟨p, dx, [], rfl, hp2, (show 0 < 1000 by decide), ?_⟩
  have ne : d' ≠ p := fun e => by subst e; rw [hp2] at hd2; cases hd2
  have tp : ∀ {q : Rat} {v : V}, TimeV (CT X.K) q v H2 → TimeV (CT X.K) q v (upd H2 p (.ins (CB X.K) dx [("rules", .ref d')])) := fun h => TimeV.up hp2 (fun dx e => by injection e with _ _ e; cases e) h
  have op : ∀ {o : Option Rat} {v : V}, OptT X.K o v H2 → OptT X.K o v (upd H2 p (.ins (CB X.K) dx [("rules", .ref d')])) := fun {o v} h => by
    cases o with
    | none => exact h
    | some q => exact tp h
  exact k _ ((x1.trans x2).x.put rfl) ⟨p, dx, d', sh', fa', ma', fl', ro', rfl, upd_same, (upd_ne ne).trans hd2, tp hk.sh, tp hk.fa, tp hk.ma, op hk.fl, op hk.ro⟩
/-- Book with all nine words, in order -/
theorem k_Book9 (T : Tm K mg) : GKk P w K mg base 10 "Book" (CB K) (spBInit K) 0 ["sample", "share", "latest", "factor", "margin", "floor", "roof", "doubled", "kept"] (fun vs zs => vs ++ zs) := by
  obtain ⟨fd, F⟩ := T.d_Book___init__
  obtain ⟨mv, hb⟩ := F.kbinds0 (ps := ["self", "sample", "share", "latest", "factor", "margin", "floor", "roof", "doubled", "kept"]) 1 ["sample", "share", "latest", "factor", "margin", "floor", "roof", "doubled", "kept"] [] (fun us _ ws => us ++ ws) (List.cons_ne_nil _ _) (fun q h => nomatch h) (fun r1 _ r3 => r1.append r3) (by
    intro D doc pm an cdv ct us mv ws l1 l2 l3
    match us, ws, l1, l3 with
    | [a], [b1, b2, b3, b4, b5, b6, b7, b8, b9], _, _ => rfl)
  exact ⟨_, fd, _, _, T.g_Book, T.m_Book, ok_binit T F, hb⟩
def ord4 {α : Type} (us mv ws : List α) : List α := match us, mv, ws with
  | [s], [a, b, c, d, e], [w0, w1, w2, w3] => [s, w1, w0, a, w3, w2, b, c, d, e]
  | _, _, _ => []
/-- Book(share=, sample=, margin=, factor=) -/
theorem k_Book4 (T : Tm K mg) : GKk P w K mg base 10 "Book" (CB K) (spBInit K) 0 ["share", "sample", "margin", "factor"] (fun vs zs => ord4 vs [.non, .non, .non, .bl false, .bl false] zs) := by
  obtain ⟨fd, F⟩ := T.d_Book___init__
  obtain ⟨mv, hb⟩ := F.kbinds0 (ps := ["self", "sample", "share", "latest", "factor", "margin", "floor", "roof", "doubled", "kept"]) 1 ["share", "sample", "margin", "factor"] [("latest", .non), ("floor", .non), ("roof", .non), ("doubled", .bl false), ("kept", .bl false)] ord4 (List.cons_ne_nil _ _) (fun q h => by
    simp only [List.mem_cons, List.not_mem_nil, or_false] at h
    rcases h with rfl | rfl | rfl | rfl | rfl <;> simp [Dv.v]) (by
    intro vs mz zs us mv ws r1 r2 r3
    cases r1 with
    | nil => exact .nil
    | cons h0 t0 =>
      cases t0 with
      | cons _ _ => exact .nil
      | nil =>
        cases r2 with
        | nil => exact .nil
        | cons h1 r2 =>
          cases r2 with
          | nil => exact .nil
          | cons h2 r2 =>
            cases r2 with
            | nil => exact .nil
            | cons h3 r2 =>
              cases r2 with
              | nil => exact .nil
              | cons h4 r2 =>
                cases r2 with
                | nil => exact .nil
                | cons h5 r2 =>
                  cases r2 with
                  | cons _ _ => exact .nil
                  | nil =>
                    cases r3 with
                    | nil => exact .nil
                    | cons g0 r3 =>
                      cases r3 with
                      | nil => exact .nil
                      | cons g1 r3 =>
                        cases r3 with
                        | nil => exact .nil
                        | cons g2 r3 =>
                          cases r3 with
                          | nil => exact .nil
                          | cons g3 r3 =>
                            cases r3 with
                            | cons _ _ => exact .nil
                            | nil => exact .cons h0 (.cons g1 (.cons g0 (.cons h1 (.cons g3 (.cons g2 (.cons h2 (.cons h3 (.cons h4 (.cons h5 .nil)))))))))) (by
    intro D doc pm an cdv ct us mv ws l1 l2 l3
    match us, mv, ws, l1, l2, l3 with
    | [a], [m1, m2, m3, m4, m5], [b1, b2, b3, b4], _, _, _ => exact ⟨_, _, _, _, _, _, rfl, rfl, _, _, _, _, _, _, rfl, rfl, _, _, _, _, _, _, rfl, rfl, _, _, _, _, _, _, rfl, rfl, _, _, _, _, _, _, rfl, rfl, rfl⟩)
  exact ⟨_, fd, _, _, T.g_Book, T.m_Book, ok_binit T F, hb⟩
theorem made_b {H : Hp} {E : XK} {Q : Addr → Hp → Prop} {z : Bk} {sh fa ma fl ro : V} (hr : Raw K z sh fa ma fl ro H) (ok : BkOk z) (k : ∀ a H', Ex H H' → BookV K z (.ref a) H' → Q a H') :
    ∀ a dx, H a = none → H dx = none → dx ≠ a → spBInit K (.ref a :: row9 z sh fa ma fl ro) (upd (upd H dx (.own a)) a (.ins (CB K) dx [])) (fun v H2 => v = .non ∧ Q a H2) E := by
  intro a dx na nd ne
  have x1 : Ex H (upd (upd H dx (.own a)) a (.ins (CB K) dx [])) := Ex.new2 na nd
  exact ⟨z, a, dx, sh, fa, ma, fl, ro, rfl, upd_same, hr.mono x1, ok, fun H' x3 hb => ⟨rfl, k _ _ (ExX.fresh x1 x3 fun c e => by subst e; exact na) hb⟩⟩
end
/-! ### its properties -/
section
variable {P : Program} {w : World} {K : PySem.W.Frag} {mg : Str → Option Value} {base : Heap}
def spBk (K : PySem.W.Frag) (i : Nat) : Sp := fun vs H Q _ => ∃ z p dx d sh fa ma fl ro v', vs = [.ref p] ∧ H p = some (.ins (CB K) dx [("rules", .ref d)]) ∧ H d = some (dk9 z sh fa ma fl ro) ∧ (row9 z sh fa ma fl ro)[i]? = some v' ∧ Q v' H
theorem ok_B_sample (T : Tm K mg) : ∃ fd, FnOk P w K mg base (RX P w) 1 (pgA K (CB K) "sample") fd ["self"] (spBk K 0) ∧ Binds K fd ["self"] [] := by
  obtain ⟨fd, F⟩ := T.d_Book_sample
  refine ⟨fd, def_ok F sc_Book_sample (fun vs H Q E h => by obtain ⟨z, p, dx, d, sh, fa, ma, fl, ro, v', rfl, _⟩ := h; rfl) ?_, (F.bindsN fun _ _ _ _ _ _ us hl => match us, hl with | [_], _ => rfl)⟩
  intro X eP ew eK em eb eN es hf nd H vs Q E B h
  subst eP ew eK em eb
  have n0 : Sl X 0 "self" := slot_of eN es hf nd rfl (by first | exact Or.inl rfl | exact Or.inr rfl) (by decide) (by decide)
  obtain ⟨z, p, dx, d, sh, fa, ma, fl, ro, v', rfl, hp, hd, hv, k⟩ := h
  show WB X [_] _ [some (.ref p)] H
  repeat walk_at "w"
  refine bk_fld hp ?_
  exact gs_ok hd 0 rfl hv k
theorem ok_B_share (T : Tm K mg) : ∃ fd, FnOk P w K mg base (RX P w) 1 (pgA K (CB K) "share") fd ["self"] (spBk K 1) ∧ Binds K fd ["self"] [] := by
  obtain ⟨fd, F⟩ := T.d_Book_share
  refine ⟨fd, def_ok F sc_Book_share (fun vs H Q E h => by obtain ⟨z, p, dx, d, sh, fa, ma, fl, ro, v', rfl, _⟩ := h; rfl) ?_, (F.bindsN fun _ _ _ _ _ _ us hl => match us, hl with | [_], _ => rfl)⟩
  intro X eP ew eK em eb eN es hf nd H vs Q E B h
  subst eP ew eK em eb
  have n0 : Sl X 0 "self" := slot_of eN es hf nd rfl (by first | exact Or.inl rfl | exact Or.inr rfl) (by decide) (by decide)
  obtain ⟨z, p, dx, d, sh, fa, ma, fl, ro, v', rfl, hp, hd, hv, k⟩ := h
  show WB X [_] _ [some (.ref p)] H
  repeat walk_at "w"
  refine bk_fld hp ?_
  exact gs_ok hd 1 rfl hv k
theorem ok_B_latest (T : Tm K mg) : ∃ fd, FnOk P w K mg base (RX P w) 1 (pgA K (CB K) "latest") fd ["self"] (spBk K 2) ∧ Binds K fd ["self"] [] := by
  obtain ⟨fd, F⟩ := T.d_Book_latest
  refine ⟨fd, def_ok F sc_Book_latest (fun vs H Q E h => by obtain ⟨z, p, dx, d, sh, fa, ma, fl, ro, v', rfl, _⟩ := h; rfl) ?_, (F.bindsN fun _ _ _ _ _ _ us hl => match us, hl with | [_], _ => rfl)⟩
  intro X eP ew eK em eb eN es hf nd H vs Q E B h
  subst eP ew eK em eb
  have n0 : Sl X 0 "self" := slot_of eN es hf nd rfl (by first | exact Or.inl rfl | exact Or.inr rfl) (by decide) (by decide)
  obtain ⟨z, p, dx, d, sh, fa, ma, fl, ro, v', rfl, hp, hd, hv, k⟩ := h
  show WB X [_] _ [some (.ref p)] H
  repeat walk_at "w"
  refine bk_fld hp ?_
  exact gs_ok hd 2 rfl hv k
theorem ok_B_factor (T : Tm K mg) : ∃ fd, FnOk P w K mg base (RX P w) 1 (pgA K (CB K) "factor") fd ["self"] (spBk K 3) ∧ Binds K fd ["self"] [] := by
  obtain ⟨fd, F⟩ := T.d_Book_factor
  refine ⟨fd, def_ok F sc_Book_factor (fun vs H Q E h => by obtain ⟨z, p, dx, d, sh, fa, ma, fl, ro, v', rfl, _⟩ := h; rfl) ?_, (F.bindsN fun _ _ _ _ _ _ us hl => match us, hl with | [_], _ => rfl)⟩
  intro X eP ew eK em eb eN es hf nd H vs Q E B h
  subst eP ew eK em eb
  have n0 : Sl X 0 "self" := slot_of eN es hf nd rfl (by first | exact Or.inl rfl | exact Or.inr rfl) (by decide) (by decide)
  obtain ⟨z, p, dx, d, sh, fa, ma, fl, ro, v', rfl, hp, hd, hv, k⟩ := h
  show WB X [_] _ [some (.ref p)] H
  repeat walk_at "w"
  refine bk_fld hp ?_
  exact gs_ok hd 3 rfl hv k
theorem ok_B_margin (T : Tm K mg) : ∃ fd, FnOk P w K mg base (RX P w) 1 (pgA K (CB K) "margin") fd ["self"] (spBk K 4) ∧ Binds K fd ["self"] [] := by
  obtain ⟨fd, F⟩ := T.d_Book_margin
  refine ⟨fd, def_ok F sc_Book_margin (fun vs H Q E h => by obtain ⟨z, p, dx, d, sh, fa, ma, fl, ro, v', rfl, _⟩ := h; rfl) ?_, (F.bindsN fun _ _ _ _ _ _ us hl => match us, hl with | [_], _ => rfl)⟩
  intro X eP ew eK em eb eN es hf nd H vs Q E B h
  subst eP ew eK em eb
  have n0 : Sl X 0 "self" := slot_of eN es hf nd rfl (by first | exact Or.inl rfl | exact Or.inr rfl) (by decide) (by decide)
  obtain ⟨z, p, dx, d, sh, fa, ma, fl, ro, v', rfl, hp, hd, hv, k⟩ := h
  show WB X [_] _ [some (.ref p)] H
  repeat walk_at "w"
  refine bk_fld hp ?_
  exact gs_ok hd 4 rfl hv k
theorem ok_B_floor (T : Tm K mg) : ∃ fd, FnOk P w K mg base (RX P w) 1 (pgA K (CB K) "floor") fd ["self"] (spBk K 5) ∧ Binds K fd ["self"] [] := by
  obtain ⟨fd, F⟩ := T.d_Book_floor
  refine ⟨fd, def_ok F sc_Book_floor (fun vs H Q E h => by obtain ⟨z, p, dx, d, sh, fa, ma, fl, ro, v', rfl, _⟩ := h; rfl) ?_, (F.bindsN fun _ _ _ _ _ _ us hl => match us, hl with | [_], _ => rfl)⟩
  intro X eP ew eK em eb eN es hf nd H vs Q E B h
  subst eP ew eK em eb
  have n0 : Sl X 0 "self" := slot_of eN es hf nd rfl (by first | exact Or.inl rfl | exact Or.inr rfl) (by decide) (by decide)
  obtain ⟨z, p, dx, d, sh, fa, ma, fl, ro, v', rfl, hp, hd, hv, k⟩ := h
  show WB X [_] _ [some (.ref p)] H
  repeat walk_at "w"
  refine bk_fld hp ?_
  exact gs_ok hd 5 rfl hv k
theorem ok_B_roof (T : Tm K mg) : ∃ fd, FnOk P w K mg base (RX P w) 1 (pgA K (CB K) "roof") fd ["self"] (spBk K 6) ∧ Binds K fd ["self"] [] := by
  obtain ⟨fd, F⟩ := T.d_Book_roof
  refine ⟨fd, def_ok F sc_Book_roof (fun vs H Q E h => by obtain ⟨z, p, dx, d, sh, fa, ma, fl, ro, v', rfl, _⟩ := h; rfl) ?_, (F.bindsN fun _ _ _ _ _ _ us hl => match us, hl with | [_], _ => rfl)⟩
  intro X eP ew eK em eb eN es hf nd H vs Q E B h
  subst eP ew eK em eb
  have n0 : Sl X 0 "self" := slot_of eN es hf nd rfl (by first | exact Or.inl rfl | exact Or.inr rfl) (by decide) (by decide)
  obtain ⟨z, p, dx, d, sh, fa, ma, fl, ro, v', rfl, hp, hd, hv, k⟩ := h
  show WB X [_] _ [some (.ref p)] H
  repeat walk_at "w"
  refine bk_fld hp ?_
  exact gs_ok hd 6 rfl hv k
theorem ok_B_doubled (T : Tm K mg) : ∃ fd, FnOk P w K mg base (RX P w) 1 (pgA K (CB K) "doubled") fd ["self"] (spBk K 7) ∧ Binds K fd ["self"] [] := by
  obtain ⟨fd, F⟩ := T.d_Book_doubled
  refine ⟨fd, def_ok F sc_Book_doubled (fun vs H Q E h => by obtain ⟨z, p, dx, d, sh, fa, ma, fl, ro, v', rfl, _⟩ := h; rfl) ?_, (F.bindsN fun _ _ _ _ _ _ us hl => match us, hl with | [_], _ => rfl)⟩
  intro X eP ew eK em eb eN es hf nd H vs Q E B h
  subst eP ew eK em eb
  have n0 : Sl X 0 "self" := slot_of eN es hf nd rfl (by first | exact Or.inl rfl | exact Or.inr rfl) (by decide) (by decide)
  obtain ⟨z, p, dx, d, sh, fa, ma, fl, ro, v', rfl, hp, hd, hv, k⟩ := h
  show WB X [_] _ [some (.ref p)] H
  repeat walk_at "w"
  refine bk_fld hp ?_
  exact gs_ok hd 7 rfl hv k
theorem ok_B_kept (T : Tm K mg) : ∃ fd, FnOk P w K mg base (RX P w) 1 (pgA K (CB K) "kept") fd ["self"] (spBk K 8) ∧ Binds K fd ["self"] [] := by
  obtain ⟨fd, F⟩ := T.d_Book_kept
  refine ⟨fd, def_ok F sc_Book_kept (fun vs H Q E h => by obtain ⟨z, p, dx, d, sh, fa, ma, fl, ro, v', rfl, _⟩ := h; rfl) ?_, (F.bindsN fun _ _ _ _ _ _ us hl => match us, hl with | [_], _ => rfl)⟩
  intro X eP ew eK em eb eN es hf nd H vs Q E B h
  subst eP ew eK em eb
  have n0 : Sl X 0 "self" := slot_of eN es hf nd rfl (by first | exact Or.inl rfl | exact Or.inr rfl) (by decide) (by decide)
  obtain ⟨z, p, dx, d, sh, fa, ma, fl, ro, v', rfl, hp, hd, hv, k⟩ := h
  show WB X [_] _ [some (.ref p)] H
  repeat walk_at "w"
  refine bk_fld hp ?_
  exact gs_ok hd 8 rfl hv k
end
section
variable {X : Cx} {k : Nat} {E : L2.St → XK} {σ : L2.St} {H : Hp} {Q : VK} {e : Expr} {pos apos : Pos}
theorem bv_ok {K : PySem.W.Frag} {z : Bk} {v : V} {H : Hp} {R : Bk → Prop} (h : BookV K z v H) (r : R z) : ∃ z, BookV K z v H ∧ R z := ⟨z, h, r⟩
theorem tq_i {C : Addr} {q : Rat} {H : Hp} {Q : VK} (h : ∀ v, TimeV C q v H → Q v H) : ∀ v, TimeV C q v H → Q v H := h
theorem oq_i {K : PySem.W.Frag} {q : Option Rat} {H : Hp} {Q : VK} (h : ∀ v, OptT K q v H → Q v H) : ∀ v, OptT K q v H → Q v H := h
theorem we_B_sample (B : Body X k E) (T : Tm X.K X.mg) (hk : 2 ≤ k) (h : WE X e σ H fun y H1 => ∃ z, BookV X.K z y H1 ∧ Q (.str z.word) H1) (he : attributeBase e "sample" X.env (eval e X.env) = eval e X.env := by rfl) : WE X (.Attribute e "sample" pos) σ H Q := by
  obtain ⟨fd, F, hb⟩ := ok_B_sample (P := X.prog) (w := X.w) (base := X.base) T
  refine we_prop B T.c_Book.cl T.p_Book_sample F hk hb .nil (we_mono h fun y H1 r => ?_) he
  obtain ⟨z, ⟨p, dx, d, sh, fa, ma, fl, ro, rfl, hp, hd, hk⟩, q⟩ := r
  exact ⟨p, dx, _, rfl, hp, z, p, dx, d, sh, fa, ma, fl, ro, _, rfl, hp, hd, rfl, q⟩
theorem we_B_share (B : Body X k E) (T : Tm X.K X.mg) (hk : 2 ≤ k) (h : WE X e σ H fun y H1 => ∃ z, BookV X.K z y H1 ∧ ∀ v', TimeV (CT X.K) z.share v' H1 → Q v' H1) (he : attributeBase e "share" X.env (eval e X.env) = eval e X.env := by rfl) : WE X (.Attribute e "share" pos) σ H Q := by
  obtain ⟨fd, F, hb⟩ := ok_B_share (P := X.prog) (w := X.w) (base := X.base) T
  refine we_prop B T.c_Book.cl T.p_Book_share F hk hb .nil (we_mono h fun y H1 r => ?_) he
  obtain ⟨z, ⟨p, dx, d, sh, fa, ma, fl, ro, rfl, hp, hd, hk⟩, q⟩ := r
  exact ⟨p, dx, _, rfl, hp, z, p, dx, d, sh, fa, ma, fl, ro, _, rfl, hp, hd, rfl, q _ hk.sh⟩
theorem we_B_latest (B : Body X k E) (T : Tm X.K X.mg) (hk : 2 ≤ k) (h : WE X e σ H fun y H1 => ∃ z, BookV X.K z y H1 ∧ Q (latV z.latest) H1) (he : attributeBase e "latest" X.env (eval e X.env) = eval e X.env := by rfl) : WE X (.Attribute e "latest" pos) σ H Q := by
  obtain ⟨fd, F, hb⟩ := ok_B_latest (P := X.prog) (w := X.w) (base := X.base) T
  refine we_prop B T.c_Book.cl T.p_Book_latest F hk hb .nil (we_mono h fun y H1 r => ?_) he
  obtain ⟨z, ⟨p, dx, d, sh, fa, ma, fl, ro, rfl, hp, hd, hk⟩, q⟩ := r
  exact ⟨p, dx, _, rfl, hp, z, p, dx, d, sh, fa, ma, fl, ro, _, rfl, hp, hd, rfl, q⟩
theorem we_B_factor (B : Body X k E) (T : Tm X.K X.mg) (hk : 2 ≤ k) (h : WE X e σ H fun y H1 => ∃ z, BookV X.K z y H1 ∧ ∀ v', TimeV (CT X.K) z.factor v' H1 → Q v' H1) (he : attributeBase e "factor" X.env (eval e X.env) = eval e X.env := by rfl) : WE X (.Attribute e "factor" pos) σ H Q := by
  obtain ⟨fd, F, hb⟩ := ok_B_factor (P := X.prog) (w := X.w) (base := X.base) T
  refine we_prop B T.c_Book.cl T.p_Book_factor F hk hb .nil (we_mono h fun y H1 r => ?_) he
  obtain ⟨z, ⟨p, dx, d, sh, fa, ma, fl, ro, rfl, hp, hd, hk⟩, q⟩ := r
  exact ⟨p, dx, _, rfl, hp, z, p, dx, d, sh, fa, ma, fl, ro, _, rfl, hp, hd, rfl, q _ hk.fa⟩
theorem we_B_margin (B : Body X k E) (T : Tm X.K X.mg) (hk : 2 ≤ k) (h : WE X e σ H fun y H1 => ∃ z, BookV X.K z y H1 ∧ ∀ v', TimeV (CT X.K) z.margin v' H1 → Q v' H1) (he : attributeBase e "margin" X.env (eval e X.env) = eval e X.env := by rfl) : WE X (.Attribute e "margin" pos) σ H Q := by
  obtain ⟨fd, F, hb⟩ := ok_B_margin (P := X.prog) (w := X.w) (base := X.base) T
  refine we_prop B T.c_Book.cl T.p_Book_margin F hk hb .nil (we_mono h fun y H1 r => ?_) he
  obtain ⟨z, ⟨p, dx, d, sh, fa, ma, fl, ro, rfl, hp, hd, hk⟩, q⟩ := r
  exact ⟨p, dx, _, rfl, hp, z, p, dx, d, sh, fa, ma, fl, ro, _, rfl, hp, hd, rfl, q _ hk.ma⟩
theorem we_B_floor (B : Body X k E) (T : Tm X.K X.mg) (hk : 2 ≤ k) (h : WE X e σ H fun y H1 => ∃ z, BookV X.K z y H1 ∧ ∀ v', OptT X.K z.floor v' H1 → Q v' H1) (he : attributeBase e "floor" X.env (eval e X.env) = eval e X.env := by rfl) : WE X (.Attribute e "floor" pos) σ H Q := by
  obtain ⟨fd, F, hb⟩ := ok_B_floor (P := X.prog) (w := X.w) (base := X.base) T
  refine we_prop B T.c_Book.cl T.p_Book_floor F hk hb .nil (we_mono h fun y H1 r => ?_) he
  obtain ⟨z, ⟨p, dx, d, sh, fa, ma, fl, ro, rfl, hp, hd, hk⟩, q⟩ := r
  exact ⟨p, dx, _, rfl, hp, z, p, dx, d, sh, fa, ma, fl, ro, _, rfl, hp, hd, rfl, q _ hk.fl⟩
theorem we_B_roof (B : Body X k E) (T : Tm X.K X.mg) (hk : 2 ≤ k) (h : WE X e σ H fun y H1 => ∃ z, BookV X.K z y H1 ∧ ∀ v', OptT X.K z.roof v' H1 → Q v' H1) (he : attributeBase e "roof" X.env (eval e X.env) = eval e X.env := by rfl) : WE X (.Attribute e "roof" pos) σ H Q := by
  obtain ⟨fd, F, hb⟩ := ok_B_roof (P := X.prog) (w := X.w) (base := X.base) T
  refine we_prop B T.c_Book.cl T.p_Book_roof F hk hb .nil (we_mono h fun y H1 r => ?_) he
  obtain ⟨z, ⟨p, dx, d, sh, fa, ma, fl, ro, rfl, hp, hd, hk⟩, q⟩ := r
  exact ⟨p, dx, _, rfl, hp, z, p, dx, d, sh, fa, ma, fl, ro, _, rfl, hp, hd, rfl, q _ hk.ro⟩
theorem we_B_doubled (B : Body X k E) (T : Tm X.K X.mg) (hk : 2 ≤ k) (h : WE X e σ H fun y H1 => ∃ z, BookV X.K z y H1 ∧ Q (.bl z.doubled) H1) (he : attributeBase e "doubled" X.env (eval e X.env) = eval e X.env := by rfl) : WE X (.Attribute e "doubled" pos) σ H Q := by
  obtain ⟨fd, F, hb⟩ := ok_B_doubled (P := X.prog) (w := X.w) (base := X.base) T
  refine we_prop B T.c_Book.cl T.p_Book_doubled F hk hb .nil (we_mono h fun y H1 r => ?_) he
  obtain ⟨z, ⟨p, dx, d, sh, fa, ma, fl, ro, rfl, hp, hd, hk⟩, q⟩ := r
  exact ⟨p, dx, _, rfl, hp, z, p, dx, d, sh, fa, ma, fl, ro, _, rfl, hp, hd, rfl, q⟩
theorem we_B_kept (B : Body X k E) (T : Tm X.K X.mg) (hk : 2 ≤ k) (h : WE X e σ H fun y H1 => ∃ z, BookV X.K z y H1 ∧ Q (.bl z.kept) H1) (he : attributeBase e "kept" X.env (eval e X.env) = eval e X.env := by rfl) : WE X (.Attribute e "kept" pos) σ H Q := by
  obtain ⟨fd, F, hb⟩ := ok_B_kept (P := X.prog) (w := X.w) (base := X.base) T
  refine we_prop B T.c_Book.cl T.p_Book_kept F hk hb .nil (we_mono h fun y H1 r => ?_) he
  obtain ⟨z, ⟨p, dx, d, sh, fa, ma, fl, ro, rfl, hp, hd, hk⟩, q⟩ := r
  exact ⟨p, dx, _, rfl, hp, z, p, dx, d, sh, fa, ma, fl, ro, _, rfl, hp, hd, rfl, q⟩
end
local macro_rules | `(tactic| walk_at "bv") => `(tactic| first | assumption | ((with_reducible refine' BookV.mono ?x ?h); (case h => assumption); (case x => walk_at "x")) | fail)
local macro_rules | `(tactic| walk_at "wE") => `(tactic| first | ((with_reducible refine' we_B_sample ?B ?T ?hk ?_ ?he); (case B => assumption); (case T => assumption); (case hk => decide); (case he => rfl)) | ((with_reducible refine' we_B_share ?B ?T ?hk ?_ ?he); (case B => assumption); (case T => assumption); (case hk => decide); (case he => rfl)) | ((with_reducible refine' we_B_latest ?B ?T ?hk ?_ ?he); (case B => assumption); (case T => assumption); (case hk => decide); (case he => rfl)) | ((with_reducible refine' we_B_factor ?B ?T ?hk ?_ ?he); (case B => assumption); (case T => assumption); (case hk => decide); (case he => rfl)) | ((with_reducible refine' we_B_margin ?B ?T ?hk ?_ ?he); (case B => assumption); (case T => assumption); (case hk => decide); (case he => rfl)) | ((with_reducible refine' we_B_floor ?B ?T ?hk ?_ ?he); (case B => assumption); (case T => assumption); (case hk => decide); (case he => rfl)) | ((with_reducible refine' we_B_roof ?B ?T ?hk ?_ ?he); (case B => assumption); (case T => assumption); (case hk => decide); (case he => rfl)) | ((with_reducible refine' we_B_doubled ?B ?T ?hk ?_ ?he); (case B => assumption); (case T => assumption); (case hk => decide); (case he => rfl)) | ((with_reducible refine' we_B_kept ?B ?T ?hk ?_ ?he); (case B => assumption); (case T => assumption); (case hk => decide); (case he => rfl)) | fail)
local macro_rules | `(tactic| walk_at "wX") => `(tactic| first | ((with_reducible refine' bv_ok ?h ?_); (case h => walk_at "bv")) | fail)
/-! ### lesser, greater, made_of, wait_for -/
def rmin (q r : Rat) : Rat := if r < q then r else q
def rmax (q r : Rat) : Rat := if q < r then r else q
def lowW (f : Option Rat) (u : Rat) : Rat := match f with
  | none => u
  | some f => rmax u f
def highW (f : Option Rat) (u : Rat) : Rat := match f with
  | none => u
  | some f => rmin u f
/-- the wait that a book makes of an estimate -/
def madeW (z : Bk) (q : Rat) : Rat := highW z.roof (lowW z.floor (z.factor * q + z.margin))
theorem sz_rmin {q r : Rat} {n : Nat} (h : Sz q n) (h' : Sz r n) : Sz (rmin q r) n := by
  unfold rmin
  split
  · exact h'
  · exact h
theorem sz_rmax {q r : Rat} {n : Nat} (h : Sz q n) (h' : Sz r n) : Sz (rmax q r) n := by
  unfold rmax
  split
  · exact h'
  · exact h
section
variable {P : Program} {w : World} {K : PySem.W.Frag} {mg : Str → Option Value} {base : Heap}
def spTwo (K : PySem.W.Frag) (f : Rat → Rat → Rat) : Sp := fun vs H Q _ => ∃ q r v u, vs = [v, u] ∧ Tim K q v H ∧ Tim K r u H ∧ Sz q 4000 ∧ Sz r 4000 ∧ Ret H (TimeV (CT K) (f q r)) Q
theorem f_lesser (T : Tm K mg) : GFn P w K mg base 6 "lesser" (spTwo K rmin) := by
  obtain ⟨fd, F⟩ := T.d_lesser
  refine GFn.mk F T.g_lesser (def_ok F sc_lesser (fun vs H Q E h => by obtain ⟨q, r, v, u, rfl, _⟩ := h; rfl) ?_) (F.bindsN fun _ _ _ _ _ _ us hl => match us, hl with | [_, _], _ => rfl)
  intro X eP ew eK em eb eN es hf nd H vs Q E B h
  subst eP ew eK em eb
  have n0 : Sl X 0 "one" := slot_of eN es hf nd rfl (by first | exact Or.inl rfl | exact Or.inr rfl) (by decide) (by decide)
  have n1 : Sl X 1 "other" := slot_of eN es hf nd rfl (by first | exact Or.inl rfl | exact Or.inr rfl) (by decide) (by decide)
  have n2 : Sl X 2 "first" := slot_of eN es hf nd rfl (by first | exact Or.inl rfl | exact Or.inr rfl) (by decide) (by decide)
  have n3 : Sl X 3 "second" := slot_of eN es hf nd rfl (by first | exact Or.inl rfl | exact Or.inr rfl) (by decide) (by decide)
  have g_time_of : Gn X "time_of" := gn_of es rfl (by decide)
  have F_time_of := f_time_of (P := X.prog) (w := X.w) (base := X.base) T
  obtain ⟨q, r, v, u, rfl, hv, hu, hq, hr, z⟩ := h
  show WB X [_, _, _] _ [some (v), some (u), none, none] H
  repeat walk_at "w"
  refine to_tim hv fun y H1 x1 hy => ?_
  repeat walk_at "w"
  refine to_tim (hu.mono x1) fun y2 H2 x2 hy2 => ?_
  repeat walk_at "w"
  refine ite_dec (fun hc => ?_) (fun hc => ?_)
  · repeat walk_at "w"
    refine z _ _ (by walk_at "x") ?_
    rw [show rmin q r = r from if_pos hc]
    walk_at "tv"
  · repeat walk_at "w"
    refine z _ _ (by walk_at "x") ?_
    rw [show rmin q r = q from if_neg hc]
    walk_at "tv"
theorem f_greater (T : Tm K mg) : GFn P w K mg base 6 "greater" (spTwo K rmax) := by
  obtain ⟨fd, F⟩ := T.d_greater
  refine GFn.mk F T.g_greater (def_ok F sc_greater (fun vs H Q E h => by obtain ⟨q, r, v, u, rfl, _⟩ := h; rfl) ?_) (F.bindsN fun _ _ _ _ _ _ us hl => match us, hl with | [_, _], _ => rfl)
  intro X eP ew eK em eb eN es hf nd H vs Q E B h
  subst eP ew eK em eb
  have n0 : Sl X 0 "one" := slot_of eN es hf nd rfl (by first | exact Or.inl rfl | exact Or.inr rfl) (by decide) (by decide)
  have n1 : Sl X 1 "other" := slot_of eN es hf nd rfl (by first | exact Or.inl rfl | exact Or.inr rfl) (by decide) (by decide)
  have n2 : Sl X 2 "first" := slot_of eN es hf nd rfl (by first | exact Or.inl rfl | exact Or.inr rfl) (by decide) (by decide)
  have n3 : Sl X 3 "second" := slot_of eN es hf nd rfl (by first | exact Or.inl rfl | exact Or.inr rfl) (by decide) (by decide)
  have g_time_of : Gn X "time_of" := gn_of es rfl (by decide)
  have F_time_of := f_time_of (P := X.prog) (w := X.w) (base := X.base) T
  obtain ⟨q, r, v, u, rfl, hv, hu, hq, hr, z⟩ := h
  show WB X [_, _, _] _ [some (v), some (u), none, none] H
  repeat walk_at "w"
  refine to_tim hv fun y H1 x1 hy => ?_
  repeat walk_at "w"
  refine to_tim (hu.mono x1) fun y2 H2 x2 hy2 => ?_
  repeat walk_at "w"
  refine ite_dec (fun hc => ?_) (fun hc => ?_)
  · repeat walk_at "w"
    refine z _ _ (by walk_at "x") ?_
    rw [show rmax q r = r from if_pos hc]
    walk_at "tv"
  · repeat walk_at "w"
    refine z _ _ (by walk_at "x") ?_
    rw [show rmax q r = q from if_neg hc]
    walk_at "tv"
def spMadeOfG (K : PySem.W.Frag) : Sp := fun vs H Q _ => ∃ z q v u, vs = [v, u] ∧ BookV K z v H ∧ BkOk z ∧ TimeV (CT K) q u H ∧ Sz q 4000 ∧ Sz (z.factor * q) 4000 ∧ Sz (z.factor * q + z.margin) 4000 ∧ Ret H (TimeV (CT K) (madeW z q)) Q
theorem f_made_ofG (T : Tm K mg) : GFn P w K mg base 7 "made_of" (spMadeOfG K) := by
  obtain ⟨fd, F⟩ := T.d_made_of
  refine GFn.mk F T.g_made_of (def_ok F sc_made_of (fun vs H Q E h => by obtain ⟨z, q, v, u, rfl, _⟩ := h; rfl) ?_) (F.bindsN fun _ _ _ _ _ _ us hl => match us, hl with | [_, _], _ => rfl)
  intro X eP ew eK em eb eN es hf nd H vs Q E B h
  subst eP ew eK em eb
  have n0 : Sl X 0 "book" := slot_of eN es hf nd rfl (by first | exact Or.inl rfl | exact Or.inr rfl) (by decide) (by decide)
  have n1 : Sl X 1 "estimate" := slot_of eN es hf nd rfl (by first | exact Or.inl rfl | exact Or.inr rfl) (by decide) (by decide)
  have n2 : Sl X 2 "wait" := slot_of eN es hf nd rfl (by first | exact Or.inl rfl | exact Or.inr rfl) (by decide) (by decide)
  have g_greater : Gn X "greater" := gn_of es rfl (by decide)
  have F_greater := f_greater (P := X.prog) (w := X.w) (base := X.base) T
  have g_lesser : Gn X "lesser" := gn_of es rfl (by decide)
  have F_lesser := f_lesser (P := X.prog) (w := X.w) (base := X.base) T
  obtain ⟨z, q, v, u, rfl, hv, ok, hu, zq, zp4, zw, k⟩ := h
  show WB X [_, _, _, _] _ [some (v), some (u), none] H
  have zf : Sz z.factor 4000 := ok.z2.mono (by decide)
  have zm : Sz z.margin 4000 := ok.z3.mono (by decide)
  refine wb_cons (ws_to (fun σ' H' => ∃ y, σ' = [some v, some u, some y] ∧ Ex H H' ∧ TimeV (CT X.K) (z.factor * q + z.margin) y H') ?_ ?_)
  · repeat walk_at "w"
    intro v1 hv1
    repeat walk_at "w"
    intro v2 hv2
    repeat walk_at "w"
    exact ⟨_, rfl, by walk_at "x", by assumption⟩
  rintro σ' H1 ⟨y, rfl, x1, hy⟩
  have zl : Sz (lowW z.floor (z.factor * q + z.margin)) 4000 := by
    unfold lowW
    have h4 := ok.z4
    generalize z.floor = o at h4 ⊢
    cases o with
    | none => exact zw
    | some f => exact sz_rmax zw ((h4 f rfl).mono (by decide))
  refine wb_cons (ws_to (fun σ' H' => ∃ y, σ' = [some v, some u, some y] ∧ Ex H H' ∧ TimeV (CT X.K) (lowW z.floor (z.factor * q + z.margin)) y H') ?_ ?_)
  · have h4 := ok.z4
    repeat walk_at "w"
    intro v3 hv3
    cases eo : z.floor with
    | none =>
      rw [eo] at hv3
      cases hv3
      repeat walk_at "w"
      rw [decide_eq_true (rfl : V.non = V.non)]
      repeat walk_at "w"
      exact ⟨_, rfl, x1, hy⟩
    | some f =>
      rw [eo] at hv3
      have zf4 : Sz f 4000 := (h4 f eo).mono (by decide)
      have h3 : Tim X.K f v3 H1 := .inl hv3
      repeat walk_at "w"
      rw [decide_eq_false h3.nn]
      repeat walk_at "w"
      intro v4 hv4
      rw [eo] at hv4
      refine ⟨_, f, y, v4, rfl, .inl hy, .inl hv4, zw, zf4, fun v5 H2 x2 hv5 => ?_⟩
      repeat walk_at "w"
      exact ⟨_, rfl, x1.trans x2, hv5⟩
  rintro σ' H2 ⟨y2, rfl, x2, hy2⟩
  refine wb_cons (ws_to (fun σ' H' => ∃ y, σ' = [some v, some u, some y] ∧ Ex H H' ∧ TimeV (CT X.K) (madeW z q) y H') ?_ ?_)
  · have h5 := ok.z5
    unfold madeW
    repeat walk_at "w"
    intro v3 hv3
    cases eo : z.roof with
    | none =>
      rw [eo] at hv3
      cases hv3
      repeat walk_at "w"
      rw [decide_eq_true (rfl : V.non = V.non)]
      repeat walk_at "w"
      exact ⟨_, rfl, x2, hy2⟩
    | some f =>
      rw [eo] at hv3
      have zf4 : Sz f 4000 := (h5 f eo).mono (by decide)
      have h3 : Tim X.K f v3 H2 := .inl hv3
      repeat walk_at "w"
      rw [decide_eq_false h3.nn]
      repeat walk_at "w"
      intro v4 hv4
      rw [eo] at hv4
      refine ⟨_, f, y2, v4, rfl, .inl hy2, .inl hv4, zl, zf4, fun v5 H3 x3 hv5 => ?_⟩
      repeat walk_at "w"
      exact ⟨_, rfl, x2.trans x3, hv5⟩
  rintro σ' H3 ⟨y3, rfl, x3, hy3⟩
  repeat walk_at "w"
  exact k _ _ x3 hy3
def spMadeOf (K : PySem.W.Frag) : Sp := fun vs H Q _ => ∃ z q v u, vs = [v, u] ∧ BookV K z v H ∧ BkOk z ∧ TimeV (CT K) q u H ∧ Sz q 1500 ∧ Ret H (TimeV (CT K) (madeW z q)) Q
theorem f_made_of (T : Tm K mg) : GFn P w K mg base 7 "made_of" (spMadeOf K) := by
  obtain ⟨f, h1, h2, h3⟩ := f_made_ofG (P := P) (w := w) (base := base) T
  refine ⟨f, h1, h2, h3.imp fun vs H Q E h => ?_⟩
  obtain ⟨z, q, v, u, rfl, hv, ok, hu, hq, k⟩ := h
  have zp := ok.z2.mul hq
  exact ⟨z, q, v, u, rfl, hv, ok, hu, hq.mono (by decide), zp.mono (by decide), (zp.add ok.z3).mono (by decide), k⟩
def spWaitForG (K : PySem.W.Frag) : Sp := fun vs H Q _ => ∃ z q v u, vs = [v, u] ∧ BookV K z v H ∧ BkOk z ∧ Tim K q u H ∧ 0 < q ∧ Sz q 4000 ∧ Sz (z.factor * q) 4000 ∧ Sz (z.factor * q + z.margin) 4000 ∧ Ret H (TimeV (CT K) (madeW z q)) Q
theorem f_wait_forG (T : Tm K mg) : FnR P w K mg base (RX P w) 8 (ma K (CB K) "wait_for") (spWaitForG K) := by
  obtain ⟨fd, F⟩ := T.d_Book_wait_for
  refine raw_of F (def_ok F sc_Book_wait_for (fun vs H Q E h => by obtain ⟨z, q, v, u, rfl, _⟩ := h; rfl) ?_) (F.bindsN fun _ _ _ _ _ _ us hl => match us, hl with | [_, _], _ => rfl)
  intro X eP ew eK em eb eN es hf nd H vs Q E B h
  subst eP ew eK em eb
  have n0 : Sl X 0 "self" := slot_of eN es hf nd rfl (by first | exact Or.inl rfl | exact Or.inr rfl) (by decide) (by decide)
  have n1 : Sl X 1 "estimate" := slot_of eN es hf nd rfl (by first | exact Or.inl rfl | exact Or.inr rfl) (by decide) (by decide)
  have g_is_positive : Gn X "is_positive" := gn_of es rfl (by decide)
  have F_is_positive := f_is_positive (P := X.prog) (w := X.w) (base := X.base) T
  have g_NoTime : Gn X "NoTime" := gn_of es rfl (by decide)
  have m_NoTime := T.g_NoTime
  have g_made_of : Gn X "made_of" := gn_of es rfl (by decide)
  have F_made_of := f_made_of (P := X.prog) (w := X.w) (base := X.base) T
  have g_time_of : Gn X "time_of" := gn_of es rfl (by decide)
  have F_time_of := f_time_of (P := X.prog) (w := X.w) (base := X.base) T
  have F_made_of := f_made_ofG (P := X.prog) (w := X.w) (base := X.base) T
  obtain ⟨z, q, v, u, rfl, hv, ok, hu, q0, hq, zp4, zw, k⟩ := h
  show WB X [_, _] _ [some (v), some (u)] H
  repeat walk_at "w"
  refine ⟨q, u, rfl, hu, hq, ?_⟩
  rw [decide_eq_true q0]
  repeat walk_at "w"
  rename_i H1 x1
  refine to_tim (hu.mono x1) fun y H2 x2 hy => ?_
  repeat walk_at "w"
  have x12 := x1.trans x2
  exact ⟨z, q, v, y, rfl, hv.mono x12, ok, hy, hq, zp4, zw, fun y2 H3 x3 hy2 => k _ _ (x12.trans x3) hy2⟩
def spWaitFor (K : PySem.W.Frag) : Sp := fun vs H Q _ => ∃ z q v u, vs = [v, u] ∧ BookV K z v H ∧ BkOk z ∧ Tim K q u H ∧ 0 < q ∧ Sz q 1500 ∧ Ret H (TimeV (CT K) (madeW z q)) Q
theorem f_wait_for (T : Tm K mg) : FnR P w K mg base (RX P w) 8 (ma K (CB K) "wait_for") (spWaitFor K) := (f_wait_forG T).imp fun vs H Q E h => by
  obtain ⟨z, q, v, u, rfl, hv, ok, hu, q0, hq, k⟩ := h
  have zp := ok.z2.mul hq
  exact ⟨z, q, v, u, rfl, hv, ok, hu, q0, hq.mono (by decide), zp.mono (by decide), (zp.add ok.z3).mono (by decide), k⟩
def spIsPosN (K : PySem.W.Frag) : Sp := fun vs H Q _ => ∃ v, vs = [v] ∧ WBad K v H ∧ Bl H false Q
theorem f_is_positiveN (T : Tm K mg) : GFn P w K mg base 6 "is_positive" (spIsPosN K) := by
  obtain ⟨fd, F⟩ := T.d_is_positive
  refine GFn.mk F T.g_is_positive (def_ok F sc_is_positive (fun vs H Q E h => by obtain ⟨v, rfl, _⟩ := h; rfl) ?_) (F.bindsN fun _ _ _ _ _ _ us hl => match us, hl with | [_], _ => rfl)
  intro X eP ew eK em eb eN es hf nd H vs Q E B h
  subst eP ew eK em eb
  have n0 : Sl X 0 "thing" := slot_of eN es hf nd rfl (by first | exact Or.inl rfl | exact Or.inr rfl) (by decide) (by decide)
  have g_is_time : Gn X "is_time" := gn_of es rfl (by decide)
  have F_is_time := f_is_time (P := X.prog) (w := X.w) (base := X.base) T
  have g_time_of : Gn X "time_of" := gn_of es rfl (by decide)
  have F_time_of := f_time_of (P := X.prog) (w := X.w) (base := X.base) T
  obtain ⟨v, rfl, hv, z⟩ := h
  show WB X [_] _ [some (v)] H
  have z0 := z0s
  rcases hv.kind with hg | ⟨q, hq, q0, zq⟩
  · repeat walk_at "w"
    refine it_no T hg ?_
    repeat walk_at "w"
    exact z _ (.refl _)
  · repeat walk_at "w"
    refine it_tim T hq ?_
    repeat walk_at "w"
    refine to_tim hq fun y H1 x1 hy => ?_
    repeat walk_at "w"
    rw [decide_eq_false (show ¬ ((0 : Int) : Rat) < q from Rat.not_lt.mpr q0)]
    exact z _ (by walk_at "x")
def spWaitForX (K : PySem.W.Frag) : Sp := fun vs H _ E => ∃ v u, vs = [v, u] ∧ WBad K u H ∧ ∀ H', Ex H H' → E (.ref (ga K "NoTime")) none H'
theorem f_wait_forX (T : Tm K mg) : FnR P w K mg base (RX P w) 8 (ma K (CB K) "wait_for") (spWaitForX K) := by
  obtain ⟨fd, F⟩ := T.d_Book_wait_for
  refine raw_of F (def_ok F sc_Book_wait_for (fun vs H Q E h => by obtain ⟨v, u, rfl, _⟩ := h; rfl) ?_) (F.bindsN fun _ _ _ _ _ _ us hl => match us, hl with | [_, _], _ => rfl)
  intro X eP ew eK em eb eN es hf nd H vs Q E B h
  subst eP ew eK em eb
  have n0 : Sl X 0 "self" := slot_of eN es hf nd rfl (by first | exact Or.inl rfl | exact Or.inr rfl) (by decide) (by decide)
  have n1 : Sl X 1 "estimate" := slot_of eN es hf nd rfl (by first | exact Or.inl rfl | exact Or.inr rfl) (by decide) (by decide)
  have g_is_positive : Gn X "is_positive" := gn_of es rfl (by decide)
  have F_is_positive := f_is_positive (P := X.prog) (w := X.w) (base := X.base) T
  have g_NoTime : Gn X "NoTime" := gn_of es rfl (by decide)
  have m_NoTime := T.g_NoTime
  have g_made_of : Gn X "made_of" := gn_of es rfl (by decide)
  have F_made_of := f_made_of (P := X.prog) (w := X.w) (base := X.base) T
  have g_time_of : Gn X "time_of" := gn_of es rfl (by decide)
  have F_time_of := f_time_of (P := X.prog) (w := X.w) (base := X.base) T
  obtain ⟨v, u, rfl, hu, k⟩ := h
  show WB X [_, _] _ [some (v), some (u)] H
  clear F_is_positive
  have FX := f_is_positiveN (P := X.prog) (w := X.w) (base := X.base) T
  repeat walk_at "w"
  refine ⟨u, rfl, hu, ?_⟩
  repeat walk_at "w"
  exact ws_raise B g_NoTime m_NoTime T.x_NoTime (k _ (by assumption))
end

/-! ### the heap grown, then changed -/
theorem ex_xx {S : Addr → Prop} {H H1 H2 : Hp} (x : Ex H H1) (y : ExX S H1 H2) : ExX S H H2 := ⟨fun a o n h g => y.kp a o n (x.kp a o h g) (g.mono x), fun a l o n h s => by
  obtain ⟨o1, h1, s1⟩ := x.src a l o h s
  exact y.src a l o1 n h1 s1, fun a h => y.th a (x.there a h)⟩

/-! ### a book made anew (stands in booke too) -/
section
variable {K : PySem.W.Frag}
theorem made_bn {H : Hp} {E : XK} {Q : Addr → Hp → Prop} {z : Bk} {sh fa ma fl ro : V} (hr : Raw K z sh fa ma fl ro H) (ok : BkOk z) (k : ∀ a H', H a = none → Ex H H' → BookV K z (.ref a) H' → Q a H') :
    ∀ a dx, H a = none → H dx = none → dx ≠ a → spBInit K (.ref a :: row9 z sh fa ma fl ro) (upd (upd H dx (.own a)) a (.ins (CB K) dx [])) (fun v H2 => v = .non ∧ Q a H2) E := by
  intro a dx na nd ne
  have x1 : Ex H (upd (upd H dx (.own a)) a (.ins (CB K) dx [])) := Ex.new2 na nd
  exact ⟨z, a, dx, sh, fa, ma, fl, ro, rfl, upd_same, hr.mono x1, ok, fun H' x3 hb => ⟨rfl, k _ _ na (ExX.fresh x1 x3 fun c e => by subst e; exact na) hb⟩⟩
end

/-! ### the source of draws -/
local macro_rules | `(tactic| walk_at "hp") => `(tactic| first | assumption | exact upd_same)
local macro_rules | `(tactic| walk_at "wE") => `(tactic| first | ((with_reducible refine' we_at ?_ ?hb); (case hb => intro _ _; rfl)) | ((with_reducible refine' we_len ?b ?_ ?h1 ?h2); (case b => with_reducible assumption); (case h1 => rfl); (case h2 => rfl)) | ((with_reducible refine' we_int1 ?b ?_ ?h1 ?h2); (case b => with_reducible assumption); (case h1 => rfl); (case h2 => rfl)) | fail)
local macro_rules | `(tactic| walk_at "wO") => `(tactic| first | ((with_reducible refine' o_pow ?hc ?_); (case hc => exact cpow_of (by decide))) | fail)
local macro_rules | `(tactic| walk_at "wS") => `(tactic| first | ((with_reducible refine' ws_put ?_ ?hs ?hw ?ha); (case hs => rfl); (case hw => rfl); (case ha => intro _; rfl)) | fail)
local macro_rules | `(tactic| walk_at "wR") => `(tactic| first | ((with_reducible refine' at_l ?hp ?he ?_); (case hp => walk_at "hp"); (case he => rfl)) | ((with_reducible refine' at_t ?hp ?he ?_); (case hp => walk_at "hp"); (case he => rfl)) | fail)
local macro_rules | `(tactic| walk_at "wX") => `(tactic| first | ((with_reducible refine' len_l ?hp ?_); (case hp => walk_at "hp")) | ((with_reducible refine' len_t ?hp ?_); (case hp => walk_at "hp")) | fail)
section
variable {P : Program} {w : World} {K : PySem.W.Frag} {mg : Str → Option Value} {base : Heap}
theorem f__law_draw (T : Tm K mg) : GFn P w K mg base 1 "_law_draw" spDraw := by
  obtain ⟨fd, F⟩ := T.d__law_draw
  refine GFn.mk F T.g__law_draw (def_ok F sc__law_draw (fun vs H Q E h => by obtain ⟨p, n, rfl, _⟩ := h; rfl) ?_) (F.bindsN fun _ _ _ _ _ _ us hl => match us, hl with | [_, _], _ => rfl)
  intro X eP ew eK em eb eN es hf nd H vs Q E B h
  subst eP ew eK em eb
  have n0 : Sl X 0 "_law_source" := slot_of eN es hf nd rfl (by first | exact Or.inl rfl | exact Or.inr rfl) (by decide) (by decide)
  have n1 : Sl X 1 "_law_limit" := slot_of eN es hf nd rfl (by first | exact Or.inl rfl | exact Or.inr rfl) (by decide) (by decide)
  have n2 : Sl X 2 "_law_cell" := slot_of eN es hf nd rfl (by first | exact Or.inl rfl | exact Or.inr rfl) (by decide) (by decide)
  have n3 : Sl X 3 "_law_digit" := slot_of eN es hf nd rfl (by first | exact Or.inl rfl | exact Or.inr rfl) (by decide) (by decide)
  have z_len : Bn X "len" := bn_of es rfl T.z_len
  have z_int : Bn X "int" := bn_of es rfl T.z_int
  obtain ⟨p, n, rfl, so, h0, hn, k⟩ := h
  obtain ⟨l, o, ns, hp, s, hl⟩ := so.ex
  obtain ⟨i, b, r, rfl, hi, hr, hr2⟩ := s
  have s : SrcL l (.lst [.ref l, .int i, .int b, .int r]) := ⟨i, b, r, rfl, hi, hr, hr2⟩
  show WB X [_, _, _, _] _ [some (.ref p), some (.int n), none, none] H
  have fin : ∀ {b r : Int} {i : Int} {H1 : Hp} {D : Ends} {c d : Option V}, D.rt = Q → Ex H H1 → H1 l = some (.lst (List.map V.int ns)) → H1 p = some (.lst [.ref l, .int i, .int b, .int r]) → SrcL l (.lst [.ref l, .int i, .int b, .int r]) → WB X (List.drop 1 (defBody s__law_draw)) D [some (.ref p), some (.int n), c, d] H1 := by
    intro b r i H1 D c d eD x1 hl hp s
    have hr : 0 ≤ r ∧ r < 2147483647 := by
      obtain ⟨i2, b2, r2, e, h1, h2, h3⟩ := s
      injection e with e; injection e with _ e; injection e with e1 e; injection e with e2 e; injection e with e3 e
      cases e3
      exact ⟨h2, h3⟩
    show WB X [_, _, _] _ _ _
    repeat walk_at "w"
    refine ite_dec (fun hb => ?_) (fun hb => ?_)
    · repeat walk_at "w"
      refine o_mod h0 ?_
      repeat walk_at "w"
      refine o_fdiv (by omega) (log2_small hn (by decide) (by decide)) ?_
      repeat walk_at "w"
      refine putS2 hl hp s fun H2 x2 hl hp s => ?_
      repeat walk_at "w"
      rw [eD]
      exact k _ _ (x1.trans x2) (Int.emod_nonneg _ (by omega)) (Int.emod_lt_of_pos _ h0)
    · repeat walk_at "w"
      refine o_mul (cmul31 hr.1 hr.2 (by decide)) ?_
      repeat walk_at "w"
      refine o_mod (by decide) ?_
      repeat walk_at "w"
      refine putS3 hl hp s (Int.emod_nonneg _ (by decide)) (Int.emod_lt_of_pos _ (by decide)) fun H2 x2 hl hp s => ?_
      repeat walk_at "w"
      refine o_fdiv (by decide) (by decide) ?_
      repeat walk_at "w"
      refine o_mod h0 ?_
      repeat walk_at "w"
      rw [eD]
      exact k _ _ (x1.trans x2) (Int.emod_nonneg _ (by omega)) (Int.emod_lt_of_pos _ h0)
  refine wb_cons (ws_if (wt_and2 ?_))
  repeat walk_at "w"
  refine ite_dec (fun hb => ?_) (fun hb => by refine iteF (wb_nil ?_); exact fin rfl (.refl H) hl hp s)
  repeat walk_at "w"
  refine ite_dec (fun hi2 => ?_) (fun hb => by refine wb_nil ?_; exact fin rfl (.refl H) hl hp s)
  repeat walk_at "w"
  have hlt : i.toNat < ns.length := by rw [List.length_map] at hi2; omega
  have hat : atI (ns.map V.int) i = some (.int ns[i.toNat]) := by
    unfold atI ixN
    rw [if_pos hi, if_pos (by rw [List.length_map]; omega)]
    show (ns.map V.int)[i.toNat]? = _
    rw [List.getElem?_map, List.getElem?_eq_getElem hlt]
    rfl
  refine at_l hl hat ?_
  repeat walk_at "w"
  refine putS1 hl hp s (by omega) fun H1 x1 hl hp s => ?_
  repeat walk_at "w"
  refine putS2 hl hp s fun H2 x2 hl hp s => ?_
  repeat walk_at "w"
  refine ite_dec (fun hb => ?_) (fun hb => ?_)
  · repeat walk_at "w"
    refine putS2 hl hp s fun H3 x3 hl hp s => ?_
    repeat walk_at "w"
    refine o_mul (cmul31 hr hr2 (by decide)) ?_
    repeat walk_at "w"
    refine o_mod (by decide) ?_
    repeat walk_at "w"
    refine o_mod (by decide) ?_
    repeat walk_at "w"
    refine putS3 hl hp s (Int.emod_nonneg _ (by decide)) (Int.emod_lt_of_pos _ (by decide)) fun H4 x4 hl hp s => ?_
    exact fin rfl (((x1.trans x2).trans x3).trans x4) hl hp s
  · repeat walk_at "w"
    refine o_mul (cmul31 hr hr2 (by decide)) ?_
    repeat walk_at "w"
    refine o_mod (by decide) ?_
    repeat walk_at "w"
    refine o_mod (by decide) ?_
    repeat walk_at "w"
    refine putS3 hl hp s (Int.emod_nonneg _ (by decide)) (Int.emod_lt_of_pos _ (by decide)) fun H4 x4 hl hp s => ?_
    exact fin rfl ((x1.trans x2).trans x4) hl hp s
end

/-! ### _law_divisor, _law_lowest, _law_integer -/
local macro_rules | `(tactic| walk_at "sou") => `(tactic| first | assumption | ((with_reducible refine' Sou.mono ?s ?x); (case s => assumption); (case x => walk_at "x")))
local macro_rules | `(tactic| walk_at "wO") => `(tactic| first | ((with_reducible refine' o_fdiv ?h0 ?h1 ?_); (case h0 => decide); (case h1 => decide)) | ((with_reducible refine' o_mod ?h0 ?_); (case h0 => decide)) | fail)
local macro_rules | `(tactic| walk_at "wX") => `(tactic| first | ((with_reducible refine' dr_ok ?s ?h0 ?h1 ?_); (case s => walk_at "sou"); (case h0 => decide); (case h1 => exact small_n (by decide))) | fail)

/-! ### _law_number, _law_under -/
local macro_rules | `(tactic| walk_at "hp") => `(tactic| ((with_reducible refine' Ex.tup ?x ?h); (case h => assumption); (case x => walk_at "x")))
local macro_rules | `(tactic| walk_at "wS") => `(tactic| first | ((with_reducible refine' ws_aug ?n ?h0 ?_); (case n => with_reducible assumption); (case h0 => rfl)) | fail)
local macro_rules | `(tactic| walk_at "wX") => `(tactic| first | with_reducible refine' ret_i fun _ _ _ _ => ?_ | with_reducible refine' draw_i fun _ _ _ _ _ => ?_ | with_reducible refine' num_i fun _ _ _ _ => ?_ | with_reducible refine' und_i fun _ _ _ _ _ => ?_ | with_reducible refine' prs_i fun _ _ _ _ => ?_ | with_reducible refine' yes_i fun _ _ => ?_ | fail)

/-! ### _law_begin -/
local macro_rules | `(tactic| walk_at "wX") => `(tactic| first | ((with_reducible refine' tup_i ?hl fun _ _ _ _ => ?_); (case hl => first | exact len2 | exact len3 | exact len4 | exact len1 | exact len5)) | ((with_reducible refine' lst_i ?hl fun _ _ _ _ _ => ?_); (case hl => first | exact len2 | exact len3 | exact len4 | exact len1 | exact len5)) | fail)
section
variable {P : Program} {w : World} {K : PySem.W.Frag} {mg : Str → Option Value} {base : Heap}
theorem f__law_begin (T : Tm K mg) : GFn P w K mg base 1 "_law_begin" (spBegin K) := by
  obtain ⟨fd, F⟩ := T.d__law_begin
  refine GFn.mk F T.g__law_begin (def_ok F sc__law_begin (fun vs H Q E h => by obtain ⟨a, ns, rfl, _⟩ := h; rfl) ?_) (F.bindsN fun _ _ _ _ _ _ us hl => match us, hl with | [_], _ => rfl)
  intro X eP ew eK em eb eN es hf nd H vs Q E B h
  subst eP ew eK em eb
  have n0 : Sl X 0 "_law_script" := slot_of eN es hf nd rfl (by first | exact Or.inl rfl | exact Or.inr rfl) (by decide) (by decide)
  have z_list : Bn X "list" := bn_of es rfl T.z_list
  obtain ⟨a, ns, rfl, hs, k⟩ := h
  show WB X [_] _ [some (.ref a)] H
  refine wb_one (ws_ret (we_lst (wa_cons (we_listof z_list (we_cutU ?_)) ?_)))
  case refine_2 => rfl
  repeat walk_at "w"
  obtain ⟨ms, em⟩ := cut_ints ns 63
  refine ⟨a, _, 63, rfl, rfl, hs, ?_⟩
  rw [em]
  intro l0 h0
  refine ⟨l0, _, rfl, .inl (.of upd_same), fun l h1 => ?_⟩
  refine wa_three ?_
  repeat walk_at "w"
  rename_i p H2 hp x e
  refine k p H2 (((Ex.new h0).trans (Ex.new h1)).trans x) ⟨l, _, ms, e, src0 (by decide) (by decide) (by decide), ?_⟩
  exact x.keep _ _ upd_same not_src_ints
end

/-! ### for x in range(n), the end not known before -/
section
variable {X : Cx} {k : Nat} {E : L2.St → XK} {x : Str} {D : Ends} {σ : L2.St} {H : Hp} {a : Expr} {i : Nat} {body : List Stmt} {px pr pc pos : Pos}
/-- for x in range(a), the end not known before -/
theorem ws_for_rangeE (B : Body X k E) (s : Sl X i x) (bn : Bn X "range")
    (h : WE X a σ H fun v H1 => ∃ n : Nat, v = .int n ∧ n ≤ 1000000000 ∧ ∃ P : Nat → L2.St → Hp → Prop, P 0 σ H1 ∧ (∀ j σ H, j < n → P j σ H → WB X body { D with nx := P (j + 1), ct := P (j + 1), bk := D.nx } (σ.set i (some (.int j))) H) ∧ ∀ σ H, P n σ H → D.nx σ H)
    (hs : starEach [a] X.env = [(false, eval a X.env)] := by rfl) : WS X (.For (.Name x px) (.Call (.Name "range" pr) [a] [] pc) body [] pos) D σ H := by
  refine wsP (ps_for B.po B.calm (pi_range1 bn.gl bn.no paS hs) (pg_name s.nd s.at_ s.loc s.fn) pbS) ?_
  refine wa_one (we_mono h fun v H1 q => ?_) hs
  obtain ⟨n, rfl, hn, P, p0, ht, hd⟩ := q
  refine ⟨n, rfl, by omega, by omega, for_range (lo := 0) P p0 (fun j σ H hj p => ?_) hd⟩
  have z := ht j σ H (by rw [Int.toNat_natCast] at hj; exact hj) p
  show WB X body _ (σ.set i (some (.int (0 + (j : Int))))) H
  rw [Int.zero_add]
  exact z
end

/-! ### items of drawn lists -/
theorem at_all {K : PySem.W.Frag} {H : Hp} {p : Addr} {xs : List V} {d : Int} {Q : VK} (hp : H p = some (.lst xs)) (d0 : 0 ≤ d) (d1 : d < xs.length) (q : ∀ x ∈ xs, Q x H) : rIx K (.ref p) (.int d) H Q := by
  obtain ⟨n, rfl⟩ := Int.eq_ofNat_of_zero_le d0
  have hn : n < xs.length := by omega
  exact at_l hp (atI_nat (List.getElem?_eq_getElem hn)) (q _ (List.getElem_mem hn))
theorem ns_len {vs : List V} (h : vs.length ≠ 4) : ¬ Src (.lst vs) := fun ⟨_, _, _, _, e, _⟩ => by
  injection e with e
  subst e
  exact h rfl
theorem ns_snd {a : V} {b : Addr} {r : List V} : ¬ Src (.lst (a :: .ref b :: r)) := fun ⟨_, _, _, _, e, _⟩ => by
  injection e with e
  injection e with _ e
  injection e with e _
  cases e
theorem ns_non {r : List V} : ¬ Src (.lst (.non :: r)) := fun ⟨_, _, _, _, e, _⟩ => by
  injection e with e
  injection e with e _
  cases e
theorem ns_str {x : Str} {r : List V} : ¬ Src (.lst (.str x :: r)) := fun ⟨_, _, _, _, e, _⟩ => by
  injection e with e
  injection e with e _
  cases e
theorem lenk {vs : List V} (n : Nat) (h : vs.length = n) (l : n ≤ 1000 := by decide) : vs.length ≤ sizeLine := by
  rw [h]
  exact Nat.le_trans l (by decide)
theorem o_catL {X : Cx} {H : Hp} {Q : VK} {l b : Addr} {xs zs : List V} (h1 : H l = some (.lst xs)) (h2 : H b = some (.lst zs)) (h3 : xs.length + zs.length ≤ sizeLine) (q : ∀ p, H p = none → Q (.ref p) (upd H p (.lst (xs ++ zs)))) : Op2 X (binaryOp .Add) (.ref l) (.ref b) H Q :=
  op2_of op_cat ⟨l, b, xs, zs, rfl, rfl, h1, h2, h3, q⟩

--IMPORT Mt14
/-! ### pairs as drawn -/
abbrev IP : Type := Int × Int
def pq (c : IP) : Rat := Rat.divInt c.1 c.2
def PrU (c : IP) (v : V) (H : Hp) : Prop := ∃ p, v = .ref p ∧ H p = some (.tup [.int c.1, .int c.2])
theorem PrU.mono {c : IP} {v : V} {H H' : Hp} (x : Ex H H') (h : PrU c v H) : PrU c v H' := by
  obtain ⟨p, e, h⟩ := h
  exact ⟨p, e, x.tup h⟩
def OPu (o : Option IP) (v : V) (H : Hp) : Prop := match o with
  | none => v = .non
  | some c => PrU c v H
theorem OPu.mono {o : Option IP} {v : V} {H H' : Hp} (x : Ex H H') (h : OPu o v H) : OPu o v H' := by
  cases o with
  | none => exact h
  | some c => exact PrU.mono x h
theorem PrU.nn {c : IP} {v : V} {H : Hp} (h : PrU c v H) : v ≠ .non := by
  obtain ⟨p, rfl, _⟩ := h
  exact fun e => nomatch e
theorem OPu.nn {o : Option IP} {v : V} {H : Hp} (h : OPu o v H) : decide (v = .non) = o.isNone := by
  cases o with
  | none => cases h; rfl
  | some c => rw [decide_eq_false (PrU.nn h)]; rfl
theorem pu_at0 {K : PySem.W.Frag} {c : IP} {v : V} {H : Hp} {Q : VK} (h : PrU c v H) (q : Q (.int c.1) H) : rIx K v (.int 0) H Q := by
  obtain ⟨p, rfl, h⟩ := h
  exact at_t h rfl q
theorem pu_at1 {K : PySem.W.Frag} {c : IP} {v : V} {H : Hp} {Q : VK} (h : PrU c v H) (q : Q (.int c.2) H) : rIx K v (.int 1) H Q := by
  obtain ⟨p, rfl, h⟩ := h
  exact at_t h rfl q
local macro_rules | `(tactic| walk_at "pu") => `(tactic| first | assumption | ((with_reducible refine' PrU.mono ?x ?h); (case h => assumption); (case x => walk_at "x")) | fail)
local macro_rules | `(tactic| walk_at "wR") => `(tactic| first | ((with_reducible refine' pu_at0 ?h ?_); (case h => walk_at "pu")) | ((with_reducible refine' pu_at1 ?h ?_); (case h => walk_at "pu")) | fail)
/-! ### drawn rules -/
structure RB where
  word : Str
  sh : IP
  lat : Option Nat
  fa : IP
  ma : IP
  fl : Option IP
  ro : Option IP
  db : Bool
  kp : Bool
def RB.bk (r : RB) : Bk := ⟨r.word, pq r.sh, r.lat, pq r.fa, pq r.ma, r.fl.map pq, r.ro.map pq, r.db, r.kp⟩
structure RuU (r : RB) (v1 v3 v4 v5 v6 : V) (H : Hp) : Prop where
  sh : PrU r.sh v1 H
  fa : PrU r.fa v3 H
  ma : PrU r.ma v4 H
  fl : OPu r.fl v5 H
  ro : OPu r.ro v6 H
theorem RuU.mono {r : RB} {v1 v3 v4 v5 v6 : V} {H H' : Hp} (x : Ex H H') (h : RuU r v1 v3 v4 v5 v6 H) : RuU r v1 v3 v4 v5 v6 H' := ⟨h.sh.mono x, h.fa.mono x, h.ma.mono x, h.fl.mono x, h.ro.mono x⟩
def ShP (c : IP) : Prop := 1 ≤ c.1 ∧ c.1 ≤ c.2 ∧ c.2 ≤ 119
def FaP (c : IP) : Prop := 1 ≤ c.2 ∧ c.2 ≤ c.1 ∧ c.2 ≤ 12 ∧ c.1 ≤ 41
def FlP (c : IP) : Prop := 1 ≤ c.1 ∧ c.1 ≤ 40 ∧ 1 ≤ c.2 ∧ c.2 ≤ 4
def RoP (c : IP) (fl : Option IP) : Prop := 1 ≤ c.1 ∧ c.1 ≤ 320 ∧ 1 ≤ c.2 ∧ c.2 ≤ 16 ∧ ∀ f, fl = some f → f.1 * c.2 ≤ c.1 * f.2
structure RbOk (r : RB) : Prop where
  word : r.word ∈ (["first", "last", "marked", "clean"] : List Str)
  sh : ShP r.sh
  lat : ∀ n, r.lat = some n → 1 ≤ n ∧ n ≤ 20 ∧ r.sh.1 = r.sh.2
  fa : FaP r.fa
  ma : 0 ≤ r.ma.1 ∧ r.ma.1 ≤ 8 ∧ 1 ≤ r.ma.2 ∧ r.ma.2 ≤ 4
  fl : ∀ c, r.fl = some c → FlP c
  ro : ∀ c, r.ro = some c → RoP c r.fl
  kp : r.kp = true → r.db = true
theorem sz_pq {c : IP} (h0 : c.2 ≠ 0) (h1 : c.1.natAbs < 512) (h2 : c.2.natAbs < 512) : Sz (pq c) 9 := Sz.div h0 h1 h2
theorem RbOk.bk {r : RB} (h : RbOk r) : BkOk r.bk := by
  obtain ⟨a1, a2, a3⟩ := h.sh
  obtain ⟨b1, b2, b3, b4⟩ := h.fa
  obtain ⟨c1, c2, c3, c4⟩ := h.ma
  have up : ∀ {q : Rat}, Sz q 9 → Sz q 1000 := fun h => h.mono (by decide)
  refine ⟨h.word, (dv_pos (by omega)).mpr (by omega), (dv_le1 (by omega)).mpr a2, fun n e => ?_, (dv_ge1 (by omega)).mpr b2, (dv_nn (by omega)).mpr c1, fun f e => ?_, fun q e => ?_, h.kp, up (sz_pq (by omega) (by omega) (by omega)), up (sz_pq (by omega) (by omega) (by omega)), up (sz_pq (by omega) (by omega) (by omega)), fun f e => ?_, fun f e => ?_⟩
  · obtain ⟨l1, l2, l3⟩ := h.lat n e
    refine ⟨l1, l2, ?_⟩
    show Rat.divInt r.sh.1 r.sh.2 = 1
    rw [l3]
    exact dv_one (by omega)
  · obtain ⟨c, ec, rfl⟩ := Option.map_eq_some_iff.mp (show r.fl.map pq = some f from e)
    obtain ⟨d1, _, d3, _⟩ := h.fl c ec
    exact (dv_pos (by omega)).mpr (by omega)
  · obtain ⟨c, ec, rfl⟩ := Option.map_eq_some_iff.mp (show r.ro.map pq = some q from e)
    obtain ⟨d1, d2, d3, d4, d5⟩ := h.ro c ec
    refine ⟨(dv_pos (by omega)).mpr (by omega), fun f ef => ?_⟩
    obtain ⟨g, eg, rfl⟩ := Option.map_eq_some_iff.mp (show r.fl.map pq = some f from ef)
    obtain ⟨g1, _, g3, _⟩ := h.fl g eg
    exact (dv_le (by omega) (by omega)).mpr (d5 g eg)
  · obtain ⟨c, ec, rfl⟩ := Option.map_eq_some_iff.mp (show r.fl.map pq = some f from e)
    obtain ⟨d1, d2, d3, d4⟩ := h.fl c ec
    exact up (sz_pq (by omega) (by omega) (by omega))
  · obtain ⟨c, ec, rfl⟩ := Option.map_eq_some_iff.mp (show r.ro.map pq = some f from e)
    obtain ⟨d1, d2, d3, d4, _⟩ := h.ro c ec
    exact up (sz_pq (by omega) (by omega) (by omega))
section
variable {P : Program} {w : World} {K : PySem.W.Frag} {mg : Str → Option Value} {base : Heap}
def spShareB : Sp := fun vs H Q _ => ∃ p, vs = [.ref p] ∧ Sou H p ∧ ∀ c v H', Ex H H' → PrU c v H' → ShP c → Q v H'
theorem f__law_share (T : Tm K mg) : GFn P w K mg base 3 "_law_share" spShareB := by
  obtain ⟨fd, F⟩ := T.d__law_share
  refine GFn.mk F T.g__law_share (def_ok F sc__law_share (fun vs H Q E h => by obtain ⟨p, rfl, _⟩ := h; rfl) ?_) (F.bindsN fun _ _ _ _ _ _ us hl => match us, hl with | [_], _ => rfl)
  intro X eP ew eK em eb eN es hf nd H vs Q E B h
  subst eP ew eK em eb
  have n0 : Sl X 0 "_law_source" := slot_of eN es hf nd rfl (by first | exact Or.inl rfl | exact Or.inr rfl) (by decide) (by decide)
  have n1 : Sl X 1 "_law_kind" := slot_of eN es hf nd rfl (by first | exact Or.inl rfl | exact Or.inr rfl) (by decide) (by decide)
  have n2 : Sl X 2 "_law_upper" := slot_of eN es hf nd rfl (by first | exact Or.inl rfl | exact Or.inr rfl) (by decide) (by decide)
  have g__law_draw : Gn X "_law_draw" := gn_of es rfl (by decide)
  have F__law_draw := f__law_draw (P := X.prog) (w := X.w) (base := X.base) T
  obtain ⟨p, rfl, so, k⟩ := h
  show WB X [_, _, _, _] _ [some (.ref p), none, none] H
  with_reducible refine' wb_cons ?_
  with_reducible refine' ws_to (fun σ' H' => ∃ d, σ' = [some (.ref p), some (.int d), none] ∧ Ex H H' ∧ 0 ≤ d ∧ d < 5) ?_ ?_
  · repeat walk_at "w"
    rename_i d H1 x1 d0 d1
    exact ⟨d, rfl, x1, d0, d1⟩
  rintro σ' H1 ⟨d, rfl, x1, d0, d5⟩
  have so1 := so.mono x1
  show WB X _ _ _ _
  repeat walk_at "w"
  refine ite_dec (fun h4 => ?_) (fun h4 => ?_)
  · repeat walk_at "w"
    rename_i t1 H2 x2 e1 t2 H3 x3 e2 t3 H4 x4 e3 t4 H5 x5 e4 l H6 nl x6 hl
    refine at_all hl d0 (by exact h4) fun y hy => ?_
    have b3 := x5.trans x6
    have b2 := x4.trans b3
    have b1 := x3.trans b2
    have b0 := x2.trans b1
    simp only [List.mem_cons, List.not_mem_nil, or_false] at hy
    rcases hy with rfl | rfl | rfl | rfl
    · exact k (1, 1) _ _ (x1.trans b0) ⟨_, rfl, b1.tup e1⟩ ⟨by decide, by decide, by decide⟩
    · exact k (1, 1) _ _ (x1.trans b0) ⟨_, rfl, b2.tup e2⟩ ⟨by decide, by decide, by decide⟩
    · exact k (1, 2) _ _ (x1.trans b0) ⟨_, rfl, b3.tup e3⟩ ⟨by decide, by decide, by decide⟩
    · exact k (1, 8) _ _ (x1.trans b0) ⟨_, rfl, x6.tup e4⟩ ⟨by decide, by decide, by decide⟩
  · repeat walk_at "w"
    rename_i a H2 x2 a0 a1 b H3 x3 b0 b1 t H4 x4 e4
    exact k (1 + a, 1 + a + b) _ _ ((x1.trans x2).trans (x3.trans x4)) ⟨_, rfl, e4⟩ ⟨by show 1 ≤ 1 + a; omega, by show 1 + a ≤ 1 + a + b; omega, by show 1 + a + b ≤ 119; omega⟩
def spFactorB : Sp := fun vs H Q _ => ∃ p, vs = [.ref p] ∧ Sou H p ∧ ∀ c v H', Ex H H' → PrU c v H' → FaP c → Q v H'
theorem f__law_factor (T : Tm K mg) : GFn P w K mg base 3 "_law_factor" spFactorB := by
  obtain ⟨fd, F⟩ := T.d__law_factor
  refine GFn.mk F T.g__law_factor (def_ok F sc__law_factor (fun vs H Q E h => by obtain ⟨p, rfl, _⟩ := h; rfl) ?_) (F.bindsN fun _ _ _ _ _ _ us hl => match us, hl with | [_], _ => rfl)
  intro X eP ew eK em eb eN es hf nd H vs Q E B h
  subst eP ew eK em eb
  have n0 : Sl X 0 "_law_source" := slot_of eN es hf nd rfl (by first | exact Or.inl rfl | exact Or.inr rfl) (by decide) (by decide)
  have n1 : Sl X 1 "_law_kind" := slot_of eN es hf nd rfl (by first | exact Or.inl rfl | exact Or.inr rfl) (by decide) (by decide)
  have n2 : Sl X 2 "_law_lower" := slot_of eN es hf nd rfl (by first | exact Or.inl rfl | exact Or.inr rfl) (by decide) (by decide)
  have g__law_draw : Gn X "_law_draw" := gn_of es rfl (by decide)
  have F__law_draw := f__law_draw (P := X.prog) (w := X.w) (base := X.base) T
  obtain ⟨p, rfl, so, k⟩ := h
  show WB X [_, _, _, _] _ [some (.ref p), none, none] H
  with_reducible refine' wb_cons ?_
  with_reducible refine' ws_to (fun σ' H' => ∃ d, σ' = [some (.ref p), some (.int d), none] ∧ Ex H H' ∧ 0 ≤ d ∧ d < 4) ?_ ?_
  · repeat walk_at "w"
    rename_i d H1 x1 d0 d1
    exact ⟨d, rfl, x1, d0, d1⟩
  rintro σ' H1 ⟨d, rfl, x1, d0, d5⟩
  have so1 := so.mono x1
  show WB X _ _ _ _
  repeat walk_at "w"
  refine ite_dec (fun h4 => ?_) (fun h4 => ?_)
  · repeat walk_at "w"
    rename_i t1 H2 x2 e1 t2 H3 x3 e2 t3 H4 x4 e3 l H6 nl x6 hl
    refine at_all hl d0 (by exact h4) fun y hy => ?_
    have b2 := x4.trans x6
    have b1 := x3.trans b2
    have b0 := x2.trans b1
    simp only [List.mem_cons, List.not_mem_nil, or_false] at hy
    rcases hy with rfl | rfl | rfl
    · exact k (1, 1) _ _ (x1.trans b0) ⟨_, rfl, b1.tup e1⟩ ⟨by decide, by decide, by decide, by decide⟩
    · exact k (2, 1) _ _ (x1.trans b0) ⟨_, rfl, b2.tup e2⟩ ⟨by decide, by decide, by decide, by decide⟩
    · exact k (3, 2) _ _ (x1.trans b0) ⟨_, rfl, x6.tup e3⟩ ⟨by decide, by decide, by decide, by decide⟩
  · repeat walk_at "w"
    rename_i a H2 x2 a0 a1 b H3 x3 b0 b1 t H4 x4 e4
    exact k (1 + a + b, 1 + a) _ _ ((x1.trans x2).trans (x3.trans x4)) ⟨_, rfl, e4⟩ ⟨by show 1 ≤ 1 + a; omega, by show 1 + a ≤ 1 + a + b; omega, by show 1 + a ≤ 12; omega, by show 1 + a + b ≤ 41; omega⟩
def spRoofB : Sp := fun vs H Q _ => ∃ p v fl, vs = [.ref p, v] ∧ Sou H p ∧ OPu fl v H ∧ (∀ c, fl = some c → FlP c) ∧ ∀ ro u H', Ex H H' → OPu ro u H' → (∀ c, ro = some c → RoP c fl ∧ (fl = none → c.1 ≤ 90 ∧ c.2 ≤ 4)) → Q u H'
theorem f__law_roof (T : Tm K mg) : GFn P w K mg base 3 "_law_roof" spRoofB := by
  obtain ⟨fd, F⟩ := T.d__law_roof
  refine GFn.mk F T.g__law_roof (def_ok F sc__law_roof (fun vs H Q E h => by obtain ⟨p, v, fl, rfl, _⟩ := h; rfl) ?_) (F.bindsN fun _ _ _ _ _ _ us hl => match us, hl with | [_, _], _ => rfl)
  intro X eP ew eK em eb eN es hf nd H vs Q E B h
  subst eP ew eK em eb
  have n0 : Sl X 0 "_law_source" := slot_of eN es hf nd rfl (by first | exact Or.inl rfl | exact Or.inr rfl) (by decide) (by decide)
  have n1 : Sl X 1 "_law_least" := slot_of eN es hf nd rfl (by first | exact Or.inl rfl | exact Or.inr rfl) (by decide) (by decide)
  have n2 : Sl X 2 "_law_lower" := slot_of eN es hf nd rfl (by first | exact Or.inl rfl | exact Or.inr rfl) (by decide) (by decide)
  have g__law_draw : Gn X "_law_draw" := gn_of es rfl (by decide)
  have F__law_draw := f__law_draw (P := X.prog) (w := X.w) (base := X.base) T
  obtain ⟨p, v, fl, rfl, so, hv, hfl, k⟩ := h
  show WB X [_, _, _, _] _ [some (.ref p), some (v), none] H
  repeat walk_at "w"
  rename_i d H1 x1 d0 d1
  have so1 := so.mono x1
  have hv1 := hv.mono x1
  refine ite_dec (fun h4 => ?_) (fun h4 => ?_)
  · repeat walk_at "w"
    exact k none _ _ x1 rfl fun c e => nomatch e
  · repeat walk_at "w"
    cases fl with
    | none =>
      cases hv1
      rw [decide_eq_true (rfl : V.non = V.non)]
      repeat walk_at "w"
      rename_i a H2 x2 a0 a1 b H3 x3 b0 b1 t H4 x4 e4
      exact k (some (1 + a, 1 + b)) _ _ ((x1.trans x2).trans (x3.trans x4)) ⟨_, rfl, e4⟩ fun c e => by cases e; exact ⟨⟨by show 1 ≤ 1 + a; omega, by show 1 + a ≤ 320; omega, by show 1 ≤ 1 + b; omega, by show 1 + b ≤ 16; omega, (fun f e => nomatch e)⟩, fun _ => ⟨by show 1 + a ≤ 90; omega, by show 1 + b ≤ 4; omega⟩⟩
    | some f =>
      have hf0 : PrU f v H1 := hv1
      obtain ⟨g1, g2, g3, g4⟩ := hfl f rfl
      rw [decide_eq_false (PrU.nn hf0)]
      repeat walk_at "w"
      rename_i a H2 x2 a0 a1
      have so2 := so1.mono x2
      have hf2 := hf0.mono x2
      have sm : ∀ {i j : Int}, i.natAbs < 2 ^ 10 → j.natAbs < 2 ^ 10 → CMulW i j := fun h h' => wide_mul h h' (by decide) (by decide) (by decide)
      refine o_mul (sm (by omega) (by omega)) ?_
      repeat walk_at "w"
      rename_i b H3 x3 b0 b1
      refine o_mul (sm (by omega) (by omega)) ?_
      repeat walk_at "w"
      refine o_mul (sm (by omega) (by omega)) ?_
      repeat walk_at "w"
      rename_i t H4 x4 e4
      have p1 : 1 ≤ f.1 * (1 + a) := by
        have := Int.mul_le_mul g1 (show 1 ≤ 1 + a by omega) (by decide) (by omega)
        omega
      have p2 : 1 ≤ f.2 * (1 + a) := by
        have := Int.mul_le_mul g3 (show 1 ≤ 1 + a by omega) (by decide) (by omega)
        omega
      have p3 : f.1 * (1 + a) ≤ 40 * 4 := Int.mul_le_mul g2 (by omega) (by omega) (by decide)
      have p4 : f.2 * (1 + a) ≤ 4 * 4 := Int.mul_le_mul g4 (by omega) (by omega) (by decide)
      have p5 : b * f.2 ≤ 39 * 4 := Int.mul_le_mul (by omega) g4 (by omega) (by decide)
      have p6 : 0 ≤ b * f.2 := Int.mul_nonneg b0 (by omega)
      refine k (some (f.1 * (1 + a) + b * f.2, f.2 * (1 + a))) _ _ ((x1.trans x2).trans (x3.trans x4)) ⟨_, rfl, e4⟩ fun c e => ?_
      cases e
      refine ⟨⟨by show 1 ≤ f.1 * (1 + a) + b * f.2; omega, by show f.1 * (1 + a) + b * f.2 ≤ 320; omega, p2, by show f.2 * (1 + a) ≤ 16; omega, fun g e => ?_⟩, fun e => nomatch e⟩
      cases e
      show f.1 * (f.2 * (1 + a)) ≤ (f.1 * (1 + a) + b * f.2) * f.2
      have e1 : (f.1 * (1 + a) + b * f.2) * f.2 = f.1 * (f.2 * (1 + a)) + b * f.2 * f.2 := by
        rw [Int.add_mul, Int.mul_assoc f.1 (1 + a) f.2, Int.mul_comm (1 + a) f.2]
      rw [e1]
      have := Int.mul_nonneg p6 (show 0 ≤ f.2 by omega)
      omega
/-- what the law's rules are -/
def spRulesB : Sp := fun vs H Q _ => ∃ p, vs = [.ref p] ∧ Sou H p ∧ ∀ r l v1 v3 v4 v5 v6 H', Ex H H' → H l = none → H' l = some (.lst (row9 r.bk v1 v3 v4 v5 v6)) → RuU r v1 v3 v4 v5 v6 H' → RbOk r → (∀ c, r.ro = some c → r.fl = none → c.1 ≤ 90 ∧ c.2 ≤ 4) → Q (.ref l) H'
theorem f__law_rules (T : Tm K mg) : GFn P w K mg base 4 "_law_rules" spRulesB := by
  obtain ⟨fd, F⟩ := T.d__law_rules
  refine GFn.mk F T.g__law_rules (def_ok F sc__law_rules (fun vs H Q E h => by obtain ⟨p, rfl, _⟩ := h; rfl) ?_) (F.bindsN fun _ _ _ _ _ _ us hl => match us, hl with | [_], _ => rfl)
  intro X eP ew eK em eb eN es hf nd H vs Q E B h
  subst eP ew eK em eb
  have n0 : Sl X 0 "_law_source" := slot_of eN es hf nd rfl (by first | exact Or.inl rfl | exact Or.inr rfl) (by decide) (by decide)
  have n1 : Sl X 1 "_law_word" := slot_of eN es hf nd rfl (by first | exact Or.inl rfl | exact Or.inr rfl) (by decide) (by decide)
  have n2 : Sl X 2 "_law_portion" := slot_of eN es hf nd rfl (by first | exact Or.inl rfl | exact Or.inr rfl) (by decide) (by decide)
  have n3 : Sl X 3 "_law_number" := slot_of eN es hf nd rfl (by first | exact Or.inl rfl | exact Or.inr rfl) (by decide) (by decide)
  have n4 : Sl X 4 "_law_times" := slot_of eN es hf nd rfl (by first | exact Or.inl rfl | exact Or.inr rfl) (by decide) (by decide)
  have n5 : Sl X 5 "_law_more" := slot_of eN es hf nd rfl (by first | exact Or.inl rfl | exact Or.inr rfl) (by decide) (by decide)
  have n6 : Sl X 6 "_law_least" := slot_of eN es hf nd rfl (by first | exact Or.inl rfl | exact Or.inr rfl) (by decide) (by decide)
  have n7 : Sl X 7 "_law_twofold" := slot_of eN es hf nd rfl (by first | exact Or.inl rfl | exact Or.inr rfl) (by decide) (by decide)
  have n8 : Sl X 8 "_law_held" := slot_of eN es hf nd rfl (by first | exact Or.inl rfl | exact Or.inr rfl) (by decide) (by decide)
  have g__law_draw : Gn X "_law_draw" := gn_of es rfl (by decide)
  have F__law_draw := f__law_draw (P := X.prog) (w := X.w) (base := X.base) T
  have g__law_share : Gn X "_law_share" := gn_of es rfl (by decide)
  have F__law_share := f__law_share (P := X.prog) (w := X.w) (base := X.base) T
  have g__law_factor : Gn X "_law_factor" := gn_of es rfl (by decide)
  have F__law_factor := f__law_factor (P := X.prog) (w := X.w) (base := X.base) T
  have g__law_roof : Gn X "_law_roof" := gn_of es rfl (by decide)
  have F__law_roof := f__law_roof (P := X.prog) (w := X.w) (base := X.base) T
  obtain ⟨p, rfl, so, k⟩ := h
  show WB X [_, _, _, _, _, _, _, _, _, _, _, _] _ [some (.ref p), none, none, none, none, none, none, none, none] H
  with_reducible refine' wb_cons ?_
  with_reducible refine' ws_to (fun σ' H' => ∃ x, σ' = [some (.ref p), some (.str x), none, none, none, none, none, none, none] ∧ Ex H H' ∧ x ∈ (["first", "last", "marked", "clean"] : List Str)) ?_ ?_
  · repeat walk_at "w"
    rename_i l H1 nl x1 hl d H2 x2 d0 d1
    refine at_all (x2.keep _ _ hl ns_str) d0 d1 fun y hy => ?_
    simp only [List.mem_cons, List.not_mem_nil, or_false] at hy
    rcases hy with rfl | rfl | rfl | rfl
    · exact ⟨_, rfl, x1.trans x2, by decide +kernel⟩
    · exact ⟨_, rfl, x1.trans x2, by decide +kernel⟩
    · exact ⟨_, rfl, x1.trans x2, by decide +kernel⟩
    · exact ⟨_, rfl, x1.trans x2, by decide +kernel⟩
  rintro σ' H1 ⟨x, rfl, x1, hx⟩
  have so1 := so.mono x1
  show WB X _ _ _ _
  with_reducible refine' wb_cons ?_
  with_reducible refine' ws_to (fun σ' H' => ∃ c v, σ' = [some (.ref p), some (.str x), some v, none, none, none, none, none, none] ∧ Ex H1 H' ∧ PrU c v H' ∧ ShP c) ?_ ?_
  · repeat walk_at "w"
    refine ⟨p, rfl, so1, fun c v H2 x2 hv hc => ?_⟩
    exact ⟨c, v, rfl, x2, hv, hc⟩
  rintro σ' H2 ⟨c1, v1, rfl, x2, hv1, hc1⟩
  have so2 := so1.mono x2
  show WB X _ _ _ _
  refine wb_cons (ws_set n3 (we_none ?_) (by rfl))
  show WB X _ _ _ _
  with_reducible refine' wb_cons ?_
  with_reducible refine' ws_to (fun σ' H' => ∃ o : Option Nat, σ' = [some (.ref p), some (.str x), some v1, some (latV o), none, none, none, none, none] ∧ Ex H2 H' ∧ ∀ n, o = some n → 1 ≤ n ∧ n ≤ 20 ∧ c1.1 = c1.2) ?_ ?_
  · refine ws_if (wt_and2 ?_)
    repeat walk_at "w"
    refine ite_dec (fun he => ?_) (fun he => ?_)
    · repeat walk_at "w"
      rename_i d Ha xa d0 d1
      refine ite_dec (fun h1 => ?_) (fun h1 => ?_)
      · repeat walk_at "w"
        rename_i l Hb nl xb hl g Hc xc g0 g1
        refine at_all (xc.keep _ _ hl (ns_len (show 5 ≠ 4 by decide))) g0 g1 fun y hy => ?_
        have xx := (xa.trans xb).trans xc
        simp only [List.mem_cons, List.not_mem_nil, or_false] at hy
        rcases hy with rfl | rfl | rfl | rfl | rfl
        · exact ⟨some 1, rfl, xx, fun n e => by cases e; exact ⟨by decide, by decide, he⟩⟩
        · exact ⟨some 2, rfl, xx, fun n e => by cases e; exact ⟨by decide, by decide, he⟩⟩
        · exact ⟨some 3, rfl, xx, fun n e => by cases e; exact ⟨by decide, by decide, he⟩⟩
        · exact ⟨some 4, rfl, xx, fun n e => by cases e; exact ⟨by decide, by decide, he⟩⟩
        · exact ⟨some 20, rfl, xx, fun n e => by cases e; exact ⟨by decide, by decide, he⟩⟩
      · repeat walk_at "w"
        exact ⟨none, rfl, xa, fun n e => nomatch e⟩
    · repeat walk_at "w"
      exact ⟨none, rfl, .refl _, fun n e => nomatch e⟩
  rintro σ' H3 ⟨o, rfl, x3, ho⟩
  have so3 := so2.mono x3
  show WB X _ _ _ _
  with_reducible refine' wb_cons ?_
  with_reducible refine' ws_to (fun σ' H' => ∃ c v, σ' = [some (.ref p), some (.str x), some v1, some (latV o), some v, none, none, none, none] ∧ Ex H3 H' ∧ PrU c v H' ∧ FaP c) ?_ ?_
  · repeat walk_at "w"
    refine ⟨p, rfl, so3, fun c v H4 x4 hv hc => ?_⟩
    exact ⟨c, v, rfl, x4, hv, hc⟩
  rintro σ' H4 ⟨c3, v3, rfl, x4, hv3, hc3⟩
  have so4 := so3.mono x4
  show WB X _ _ _ _
  with_reducible refine' wb_cons ?_
  with_reducible refine' ws_to (fun σ' H' => ∃ v, σ' = [some (.ref p), some (.str x), some v1, some (latV o), some v3, some v, none, none, none] ∧ Ex H4 H' ∧ PrU (0, 1) v H') ?_ ?_
  · repeat walk_at "w"
    rename_i t Ha xa ha
    exact ⟨_, rfl, xa, t, rfl, ha⟩
  rintro σ' H5 ⟨v4', rfl, x5, hv4'⟩
  have so5 := so4.mono x5
  show WB X _ _ _ _
  with_reducible refine' wb_cons ?_
  with_reducible refine' ws_to (fun σ' H' => ∃ c v, σ' = [some (.ref p), some (.str x), some v1, some (latV o), some v3, some v, none, none, none] ∧ Ex H5 H' ∧ PrU c v H' ∧ 0 ≤ c.1 ∧ c.1 ≤ 8 ∧ 1 ≤ c.2 ∧ c.2 ≤ 4) ?_ ?_
  · refine ws_if ?_
    repeat walk_at "w"
    rename_i d Ha xa d0 d1
    refine ite_dec (fun h1 => ?_) (fun h1 => ?_)
    · repeat walk_at "w"
      rename_i a Hb xb a0 a1 b Hc xc b0 b1 t Hd xd ht
      exact ⟨(a, 1 + b), _, rfl, (xa.trans xb).trans (xc.trans xd), ⟨t, rfl, ht⟩, a0, by show a ≤ 8; omega, by show 1 ≤ 1 + b; omega, by show 1 + b ≤ 4; omega⟩
    · repeat walk_at "w"
      exact ⟨(0, 1), _, rfl, xa, hv4'.mono xa, by decide, by decide, by decide, by decide⟩
  rintro σ' H6 ⟨c4, v4, rfl, x6, hv4, hc4⟩
  have so6 := so5.mono x6
  show WB X _ _ _ _
  refine wb_cons (ws_set n6 (we_none ?_) (by rfl))
  show WB X _ _ _ _
  with_reducible refine' wb_cons ?_
  with_reducible refine' ws_to (fun σ' H' => ∃ fl v, σ' = [some (.ref p), some (.str x), some v1, some (latV o), some v3, some v4, some v, none, none] ∧ Ex H6 H' ∧ OPu fl v H' ∧ ∀ c, fl = some c → FlP c) ?_ ?_
  · refine ws_if ?_
    repeat walk_at "w"
    rename_i d Ha xa d0 d1
    refine ite_dec (fun h1 => ?_) (fun h1 => ?_)
    · repeat walk_at "w"
      rename_i a Hb xb a0 a1 b Hc xc b0 b1 t Hd xd ht
      exact ⟨some (1 + a, 1 + b), _, rfl, (xa.trans xb).trans (xc.trans xd), ⟨t, rfl, ht⟩, fun c e => by cases e; exact ⟨by show 1 ≤ 1 + a; omega, by show 1 + a ≤ 40; omega, by show 1 ≤ 1 + b; omega, by show 1 + b ≤ 4; omega⟩⟩
    · repeat walk_at "w"
      exact ⟨none, _, rfl, xa, rfl, fun c e => nomatch e⟩
  rintro σ' H7 ⟨fl, v5, rfl, x7, hv5, hfl⟩
  have so7 := so6.mono x7
  show WB X _ _ _ _
  with_reducible refine' wb_cons ?_
  with_reducible refine' ws_to (fun σ' H' => ∃ b, σ' = [some (.ref p), some (.str x), some v1, some (latV o), some v3, some v4, some v5, some (.bl b), none] ∧ Ex H7 H') ?_ ?_
  · repeat walk_at "w"
    rename_i d Ha xa d0 d1
    exact ⟨_, rfl, xa⟩
  rintro σ' H8 ⟨db, rfl, x8⟩
  have so8 := so7.mono x8
  show WB X _ _ _ _
  with_reducible refine' wb_cons ?_
  with_reducible refine' ws_to (fun σ' H' => ∃ b, σ' = [some (.ref p), some (.str x), some v1, some (latV o), some v3, some v4, some v5, some (.bl db), some (.bl b)] ∧ Ex H8 H' ∧ (b = true → db = true)) ?_ ?_
  · repeat walk_at "w"
    cases db with
    | true =>
      repeat walk_at "w"
      rename_i d Ha xa d0 d1
      exact ⟨_, rfl, xa, fun _ => rfl⟩
    | false =>
      repeat walk_at "w"
      exact ⟨_, rfl, .refl _, fun e => e⟩
  rintro σ' H9 ⟨kp, rfl, x9, hkp⟩
  have so9 := so8.mono x9
  have x79 := x8.trans x9
  show WB X _ _ _ _
  repeat walk_at "w"
  refine ⟨p, v5, fl, rfl, so9, hv5.mono x79, hfl, fun ro u Ha xa hro hrp => ?_⟩
  repeat walk_at "w"
  refine lst_i (lenk 9 rfl) fun l Hb nl xb hl => ?_
  have b9 := xa.trans xb
  have b7 := x79.trans b9
  have b6 := x7.trans b7
  have b5 := x6.trans b6
  have b4 := x5.trans b5
  have b3 := x4.trans b4
  have b2 := x3.trans b3
  have b1 := x2.trans b2
  have b0 := x1.trans b1
  refine k ⟨x, c1, o, c3, c4, fl, ro, db, kp⟩ l v1 v3 v4 v5 u Hb b0 ?_ hl ⟨hv1.mono b2, hv3.mono b4, hv4.mono b6, hv5.mono b7, hro.mono xb⟩ ⟨hx, hc1, ho, hc3, hc4, hfl, fun c e => (hrp c e).1, hkp⟩ (fun c e ef => (hrp c e).2 ef)
  exact (((((((((x1.trans x2).trans x3).trans x4).trans x5).trans x6).trans x7).trans x8).trans x9).trans xa).back nl
/-! ### the law's book -/
def DnP (c : IP) : Prop := c.2 ≠ 0 ∧ c.2.natAbs < 2 ^ 200
theorem DnP.g {c : IP} (h : DnP c) : (g1 c.1 c.2).natAbs < 2 ^ 9000 := g1_sz h.1 (Nat.lt_of_lt_of_le h.2 (Nat.pow_le_pow_right (by decide) (by decide)))
def spPairB (K : PySem.W.Frag) : Sp := fun vs H Q _ => ∃ o v, vs = [v] ∧ OPu o v H ∧ (∀ c, o = some c → DnP c) ∧ ∀ v' H', Ex H H' → OptT K (o.map pq) v' H' → Q v' H'
theorem f__law_pair (T : Tm K mg) : GFn P w K mg base 4 "_law_pair" (spPairB K) := by
  obtain ⟨fd, F⟩ := T.d__law_pair
  refine GFn.mk F T.g__law_pair (def_ok F sc__law_pair (fun vs H Q E h => by obtain ⟨o, v, rfl, _⟩ := h; rfl) ?_) (F.bindsN fun _ _ _ _ _ _ us hl => match us, hl with | [_], _ => rfl)
  intro X eP ew eK em eb eN es hf nd H vs Q E B h
  subst eP ew eK em eb
  have n0 : Sl X 0 "_law_pair_here" := slot_of eN es hf nd rfl (by first | exact Or.inl rfl | exact Or.inr rfl) (by decide) (by decide)
  have g_Time : Gn X "Time" := gn_of es rfl (by decide)
  have m_Time := T.g_Time
  obtain ⟨o, v, rfl, hv, hd, k⟩ := h
  show WB X [_, _] _ [some (v)] H
  repeat walk_at "w"
  cases o with
  | none =>
    cases hv
    rw [decide_eq_true (rfl : V.non = V.non)]
    repeat walk_at "w"
    exact k _ _ (.refl _) rfl
  | some c =>
    have hc : PrU c v H := hv
    have hdc := hd c rfl
    rw [decide_eq_false (PrU.nn hc)]
    repeat walk_at "w"
    exact ⟨_, _, rfl, rfl, hdc.1, hdc.g, fun y H1 x1 hy => k y H1 x1 hy⟩
structure RbD (r : RB) : Prop where
  sh : DnP r.sh
  fa : DnP r.fa
  ma : DnP r.ma
  fl : ∀ c, r.fl = some c → DnP c
  ro : ∀ c, r.ro = some c → DnP c
def spBookB (K : PySem.W.Frag) : Sp := fun vs H Q _ => ∃ r l v1 v3 v4 v5 v6, vs = [.ref l] ∧ H l = some (.lst (row9 r.bk v1 v3 v4 v5 v6)) ∧ RuU r v1 v3 v4 v5 v6 H ∧ RbD r ∧ BkOk r.bk ∧ ∀ a H', H a = none → Ex H H' → BookV K r.bk (.ref a) H' → Q (.ref a) H'
theorem ns9b {z : Bk} {v1 v3 v4 v5 v6 : V} : ¬ Src (.lst (row9 z v1 v3 v4 v5 v6)) := ns_len (show 9 ≠ 4 by decide)
theorem f__law_book (T : Tm K mg) : GFn P w K mg base 12 "_law_book" (spBookB K) := by
  obtain ⟨fd, F⟩ := T.d__law_book
  refine GFn.mk F T.g__law_book (def_ok F sc__law_book (fun vs H Q E h => by obtain ⟨r, l, v1, v3, v4, v5, v6, rfl, _⟩ := h; rfl) ?_) (F.bindsN fun _ _ _ _ _ _ us hl => match us, hl with | [_], _ => rfl)
  intro X eP ew eK em eb eN es hf nd H vs Q E B h
  subst eP ew eK em eb
  have n0 : Sl X 0 "_law_rules_here" := slot_of eN es hf nd rfl (by first | exact Or.inl rfl | exact Or.inr rfl) (by decide) (by decide)
  have n1 : Sl X 1 "_law_portion" := slot_of eN es hf nd rfl (by first | exact Or.inl rfl | exact Or.inr rfl) (by decide) (by decide)
  have n2 : Sl X 2 "_law_times" := slot_of eN es hf nd rfl (by first | exact Or.inl rfl | exact Or.inr rfl) (by decide) (by decide)
  have n3 : Sl X 3 "_law_more" := slot_of eN es hf nd rfl (by first | exact Or.inl rfl | exact Or.inr rfl) (by decide) (by decide)
  have n4 : Sl X 4 "_law_least" := slot_of eN es hf nd rfl (by first | exact Or.inl rfl | exact Or.inr rfl) (by decide) (by decide)
  have n5 : Sl X 5 "_law_most" := slot_of eN es hf nd rfl (by first | exact Or.inl rfl | exact Or.inr rfl) (by decide) (by decide)
  have g_Time : Gn X "Time" := gn_of es rfl (by decide)
  have m_Time := T.g_Time
  have g__law_pair : Gn X "_law_pair" := gn_of es rfl (by decide)
  have F__law_pair := f__law_pair (P := X.prog) (w := X.w) (base := X.base) T
  have g_Book : Gn X "Book" := gn_of es rfl (by decide)
  have m_Book := T.g_Book
  obtain ⟨r, l, v1, v3, v4, v5, v6, rfl, hl, hr, hd, ok, k⟩ := h
  show WB X [_, _, _, _, _, _] _ [some (.ref l), none, none, none, none, none] H
  have kl : ∀ {G : Hp}, Ex H G → G l = some (.lst (row9 r.bk v1 v3 v4 v5 v6)) := fun x => x.keep _ _ hl ns9b
  have hsh := hr.sh
  have hfa := hr.fa
  have hma := hr.ma
  with_reducible refine' wb_cons ?_
  with_reducible refine' ws_to (fun σ' H' => ∃ y, σ' = [some (.ref l), some y, none, none, none, none] ∧ Ex H H' ∧ TimeV (CT X.K) (pq r.sh) y H') ?_ ?_
  · repeat walk_at "w"
    exact ⟨_, _, rfl, rfl, hd.sh.1, hd.sh.g, fun y H1 x1 hy => ⟨y, rfl, x1, hy⟩⟩
  rintro σ' H1 ⟨y1, rfl, x1, h1⟩
  have hl1 := kl x1
  have hfa1 := hfa.mono x1
  show WB X _ _ _ _
  with_reducible refine' wb_cons ?_
  with_reducible refine' ws_to (fun σ' H' => ∃ y, σ' = [some (.ref l), some y1, some y, none, none, none] ∧ Ex H1 H' ∧ TimeV (CT X.K) (pq r.fa) y H') ?_ ?_
  · repeat walk_at "w"
    exact ⟨_, _, rfl, rfl, hd.fa.1, hd.fa.g, fun y H1 x1 hy => ⟨y, rfl, x1, hy⟩⟩
  rintro σ' H2 ⟨y2, rfl, x2, h2⟩
  have hl2 := kl (x1.trans x2)
  have hma2 := hma.mono (x1.trans x2)
  show WB X _ _ _ _
  with_reducible refine' wb_cons ?_
  with_reducible refine' ws_to (fun σ' H' => ∃ y, σ' = [some (.ref l), some y1, some y2, some y, none, none] ∧ Ex H2 H' ∧ TimeV (CT X.K) (pq r.ma) y H') ?_ ?_
  · repeat walk_at "w"
    exact ⟨_, _, rfl, rfl, hd.ma.1, hd.ma.g, fun y H1 x1 hy => ⟨y, rfl, x1, hy⟩⟩
  rintro σ' H3 ⟨y3, rfl, x3, h3⟩
  have x13 := (x1.trans x2).trans x3
  have hl3 := kl x13
  show WB X _ _ _ _
  with_reducible refine' wb_cons ?_
  with_reducible refine' ws_to (fun σ' H' => ∃ y, σ' = [some (.ref l), some y1, some y2, some y3, some y, none] ∧ Ex H3 H' ∧ OptT X.K (r.fl.map pq) y H') ?_ ?_
  · repeat walk_at "w"
    exact ⟨r.fl, v5, rfl, hr.fl.mono x13, hd.fl, fun y H1 x1 hy => ⟨y, rfl, x1, hy⟩⟩
  rintro σ' H4 ⟨y4, rfl, x4, h4⟩
  have x14 := x13.trans x4
  have hl4 := kl x14
  show WB X _ _ _ _
  with_reducible refine' wb_cons ?_
  with_reducible refine' ws_to (fun σ' H' => ∃ y, σ' = [some (.ref l), some y1, some y2, some y3, some y4, some y] ∧ Ex H4 H' ∧ OptT X.K (r.ro.map pq) y H') ?_ ?_
  · repeat walk_at "w"
    exact ⟨r.ro, v6, rfl, hr.ro.mono x14, hd.ro, fun y H1 x1 hy => ⟨y, rfl, x1, hy⟩⟩
  rintro σ' H5 ⟨y5, rfl, x5, h5⟩
  have x15 := x14.trans x5
  have hl5 := kl x15
  show WB X _ _ _ _
  refine wb_one (ws_ret ?_)
  refine we_makeK0 B g_Book (k_Book9 T) (by decide) ?_
  iterate 9
    refine wk_cons ?_
    repeat walk_at "w"
  refine wk_nil ⟨rfl, ?_⟩
  have raw : Raw X.K r.bk y1 y2 y3 y4 y5 H5 := ⟨.inl (TimeV.mono ((((x2.trans x3).trans x4).trans x5)) h1), .inl (TimeV.mono ((x3.trans x4).trans x5) h2), .inl (TimeV.mono (x4.trans x5) h3), OptT.oTim (h4.mono x5), OptT.oTim h5⟩
  exact made_bn (K := X.K) raw ok fun a H' na xa ha => k a H' (x15.back na) (x15.trans xa) ha
end

--IMPORT Mt13
/-! ### steady worlds: check_times, check_count, waits_until, mark, resent -/
section
variable {P : Program} {w : World} {K : PySem.W.Frag} {mg : Str → Option Value} {base : Heap}
/-- times above 0 -/
def PosT (K : PySem.W.Frag) (v : V) (H : Hp) : Prop := ∃ q, Tim K q v H ∧ 0 < q ∧ Sz q 4000
theorem PosT.mono {v : V} {H H' : Hp} (x : Ex H H') (h : PosT K v H) : PosT K v H' := h.elim fun q h => ⟨q, h.1.mono x, h.2⟩
def spChT (K : PySem.W.Frag) : Sp := fun vs H Q _ => ∃ p ys, vs = [.ref p] ∧ H p = some (.tup ys) ∧ (∀ v ∈ ys, PosT K v H) ∧ ∀ H', Ex H H' → Q .non H'
def spCheckT (K : PySem.W.Frag) : Sp := fun vs H Q _ => vs.length ≤ 100 ∧ (∀ v ∈ vs, PosT K v H) ∧ ∀ H', Ex H H' → Q .non H'
theorem b_check_times (T : Tm K mg) : ∀ (X : Cx), X.prog = P → X.w = w → X.K = K → X.mg = mg → X.base = base → X.N = ([("things" : Str), "thing"] : List Str) → X.env.scope = defScope s_check_times → (∀ x, X.fn x = true) → ([("things" : Str), "thing"] : List Str).Nodup → ∀ (H : Hp) (vs : List V) (Q : VK) (E : XK), Body X 7 (fun _ => E) → spChT K vs H Q E →
    WB X (defBody s_check_times) { nx := fun _ H' => Q .non H', rt := Q } (L2.start ([("things" : Str), "thing"] : List Str) vs) H := by
  intro X eP ew eK em eb eN es hf nd H vs Q E B h
  subst eP ew eK em eb
  have n0 : Sl X 0 "things" := slot_of eN es hf nd rfl (by first | exact Or.inl rfl | exact Or.inr rfl) (by decide) (by decide)
  have n1 : Sl X 1 "thing" := slot_of eN es hf nd rfl (by first | exact Or.inl rfl | exact Or.inr rfl) (by decide) (by decide)
  have g_is_positive : Gn X "is_positive" := gn_of es rfl (by decide)
  have F_is_positive := f_is_positive (P := X.prog) (w := X.w) (base := X.base) T
  have g_NoTime : Gn X "NoTime" := gn_of es rfl (by decide)
  have m_NoTime := T.g_NoTime
  obtain ⟨p, ys, rfl, hp, hy, k⟩ := h
  show WB X [_] _ [some (.ref p), none] H
  refine wb_one (ws_for_tupE B n1 ?_)
  repeat walk_at "w"
  refine ⟨p, ys, rfl, fun _ σ H' => (∃ c, σ = [some (.ref p), c]) ∧ Ex H H', ⟨⟨_, rfl⟩, .refl _⟩, fun _ _ H' _ h => .of (h.2.tup hp), ?_, fun σ H' h => k _ h.2⟩
  rintro j v σ H' hv ⟨⟨c, rfl⟩, x⟩
  obtain ⟨q, h1, h2, h3⟩ := (hy v (List.mem_of_getElem? hv)).mono x
  repeat walk_at "w"
  refine ⟨q, v, rfl, h1, h3, fun H2 x2 => ?_⟩
  rw [decide_eq_true h2]
  repeat walk_at "w"
  exact ⟨⟨_, rfl⟩, x.trans x2⟩
theorem f_check_times (T : Tm K mg) : GFn P w K mg base 8 "check_times" (spCheckT K) := by
  obtain ⟨fd, F⟩ := T.d_check_times
  refine ⟨_, T.g_check_times, F.kp, FnR.imp (def_starP (k := 7) (ps := []) (pv := "things") (sp := spChT K) F sc_check_times ?_ (b_check_times T)) fun vs H Q E h => ?_⟩
  · intro kV doc pm an cdv ct us rest l
    match us, l with
    | [], _ =>
      cases rest with
      | nil => rfl
      | cons r rs => rfl
  · obtain ⟨l, h, k⟩ := h
    refine ⟨[], vs, rfl, rfl, Nat.le_trans l (by decide), fun p hp => ?_⟩
    have x := Ex.new (o := .tup vs) hp
    exact ⟨p, vs, rfl, upd_same, fun v hv => (h v hv).mono x, fun H' x2 => k _ (x.trans x2)⟩
def spWaits : Sp := fun vs H Q _ => ∃ n : Nat, ∃ b, vs = [.int n, .bl b] ∧ n ≤ 20000 ∧ Q (.int (Mt.mk b n)) H
theorem f_waits_until (T : Tm K mg) : GFn P w K mg base 1 "waits_until" spWaits := by
  obtain ⟨fd, F⟩ := T.d_waits_until
  refine GFn.mk F T.g_waits_until (def_ok F sc_waits_until (fun vs H Q E h => by obtain ⟨n, b, rfl, _⟩ := h; rfl) ?_) (F.bindsN fun _ _ _ _ _ _ us hl => match us, hl with | [_, _], _ => rfl)
  intro X eP ew eK em eb eN es hf nd H vs Q E B h
  subst eP ew eK em eb
  have n0 : Sl X 0 "count" := slot_of eN es hf nd rfl (by first | exact Or.inl rfl | exact Or.inr rfl) (by decide) (by decide)
  have n1 : Sl X 1 "doubled" := slot_of eN es hf nd rfl (by first | exact Or.inl rfl | exact Or.inr rfl) (by decide) (by decide)
  obtain ⟨n, b, rfl, hn, k⟩ := h
  show WB X [_] _ [some (.int n), some (.bl b)] H
  cases b with
  | true =>
    repeat walk_at "w"
    refine o_oneShl (by omega) ?_
    repeat walk_at "w"
    exact k
  | false =>
    repeat walk_at "w"
    exact k
def ord1 {α : Type} (us _mv ws : List α) : List α := us ++ ws
end
section
variable {P : Program} {w : World} {K : PySem.W.Frag} {mg : Str → Option Value} {base : Heap}
end

/-! ### ascending lists -/
abbrev Asc (l : List Rat) : Prop := l.Pairwise (· ≤ ·)
theorem asc_eq {l m : List Rat} (h : Asc l) (h' : Asc m) (p : l.Perm m) : l = m := p.eq_of_pairwise (fun _ _ _ _ => Rat.le_antisymm) h h'
def leB (a b : Rat) : Bool := decide (a ≤ b)
def mrg (xs ys : List Rat) : List Rat := List.merge xs ys leB
theorem mrg_nil {ys : List Rat} : mrg [] ys = ys := by
  unfold mrg
  rw [List.merge]
theorem mrg_nilR {xs : List Rat} : mrg xs [] = xs := by
  unfold mrg
  cases xs with
  | nil => rw [List.merge]
  | cons x xs => rw [List.merge]; exact fun h => nomatch h
theorem mrg_lt {x y : Rat} {xs ys : List Rat} (h : y < x) : mrg (x :: xs) (y :: ys) = y :: mrg (x :: xs) ys := by
  unfold mrg
  rw [List.merge, if_neg]
  unfold leB
  rw [decide_eq_true_eq]
  exact Rat.not_le.mpr h
theorem mrg_ge {x y : Rat} {xs ys : List Rat} (h : ¬ y < x) : mrg (x :: xs) (y :: ys) = x :: mrg xs (y :: ys) := by
  unfold mrg
  rw [List.merge, if_pos]
  unfold leB
  rw [decide_eq_true_eq]
  exact Rat.not_lt.mp h
theorem mrg_perm {xs ys : List Rat} : (mrg xs ys).Perm (xs ++ ys) := List.merge_perm_append leB
theorem mrg_asc {xs ys : List Rat} (h : Asc xs) (h' : Asc ys) : Asc (mrg xs ys) := by
  have z := List.pairwise_merge (le := leB) (fun a b c h1 h2 => decide_eq_true (Rat.le_trans (of_decide_eq_true h1) (of_decide_eq_true h2))) (fun a b => by
    unfold leB
    rcases Rat.le_total (a := a) (b := b) with h | h
    · rw [decide_eq_true h, Bool.true_or]
    · rw [decide_eq_true h, Bool.or_true]) xs ys (h.imp fun h => decide_eq_true h) (h'.imp fun h => decide_eq_true h)
  exact z.imp fun h => of_decide_eq_true h
theorem mrg_len {xs ys : List Rat} : (mrg xs ys).length = xs.length + ys.length := by rw [mrg_perm.length_eq, List.length_append]
/-- neighbours as one -/
def half : List (List Rat) → List (List Rat)
  | a :: b :: r => mrg a b :: half r
  | [a] => [a]
  | [] => []
theorem half_perm : ∀ {R : List (List Rat)}, (half R).flatten.Perm R.flatten
  | [] => .refl _
  | [a] => .refl _
  | a :: b :: r => by
    show (mrg a b ++ (half r).flatten).Perm (a ++ (b ++ r.flatten))
    rw [← List.append_assoc]
    exact mrg_perm.append half_perm
theorem half_asc : ∀ {R : List (List Rat)}, (∀ r ∈ R, Asc r) → ∀ r ∈ half R, Asc r
  | [], h => h
  | [a], h => h
  | a :: b :: r, h => fun x hx => by
    rcases List.mem_cons.mp hx with rfl | hx
    · exact mrg_asc (h a List.mem_cons_self) (h b (List.mem_cons_of_mem _ List.mem_cons_self))
    · exact half_asc (fun y hy => h y (List.mem_cons_of_mem _ (List.mem_cons_of_mem _ hy))) x hx
theorem half_at : ∀ {R : List (List Rat)} {j : Nat}, 2 * j + 1 < R.length → (half R)[j]? = some (mrg (R.getD (2 * j) []) (R.getD (2 * j + 1) []))
  | [], j, h => absurd h (Nat.not_lt_zero _)
  | [a], j, h => by
    have : 2 * j + 1 < 1 := h
    omega
  | a :: b :: r, 0, h => rfl
  | a :: b :: r, j + 1, h => half_at (R := r) (j := j) (by
    have : 2 * (j + 1) + 1 < r.length + 1 + 1 := h
    omega)
theorem half_len : ∀ {R : List (List Rat)}, (half R).length = (R.length + 1) / 2
  | [] => rfl
  | [a] => by
    show 1 = (0 + 1 + 1) / 2
    decide
  | a :: b :: r => by
    show (half r).length + 1 = (r.length + 1 + 1 + 1) / 2
    rw [half_len]
    omega
theorem half_odd : ∀ {R : List (List Rat)} {n : Nat}, R.length = 2 * n + 1 → (half R)[n]? = R[2 * n]?
  | [], n, h => by
    have : 0 = 2 * n + 1 := h
    omega
  | [a], 0, h => rfl
  | [a], n + 1, h => by
    have : 1 = 2 * (n + 1) + 1 := h
    omega
  | a :: b :: r, 0, h => by
    have : r.length + 1 + 1 = 2 * 0 + 1 := h
    omega
  | a :: b :: r, n + 1, h => half_odd (R := r) (n := n) (by
    have : r.length + 1 + 1 = 2 * (n + 1) + 1 := h
    omega)
/-- the later ones, and those of before -/
theorem asc_step {x : Rat} {L A B : List Rat} (hL : Asc (x :: L)) (hA : Asc A) (hB : Asc B) (p : (x :: L).Perm (A ++ B)) :
    (∃ A', A = x :: A' ∧ L.Perm (A' ++ B)) ∨ (A.head? ≠ some x ∧ ∃ B', B = x :: B' ∧ L.Perm (A ++ B')) := by
  by_cases e : A.head? = some x
  · cases A with
    | nil => cases e
    | cons a A' =>
      cases e
      exact .inl ⟨A', rfl, List.Perm.cons_inv p⟩
  · refine .inr ⟨e, ?_⟩
    have low : ∀ y ∈ A ++ B, x ≤ y := fun y hy => by
      rcases List.mem_cons.mp (p.mem_iff.mpr hy) with rfl | h
      · exact Rat.le_refl
      · exact List.rel_of_pairwise_cons hL h
    have hx : x ∈ A ++ B := p.mem_iff.mp List.mem_cons_self
    have nA : x ∉ A := fun h => by
      cases A with
      | nil => cases h
      | cons a A' =>
        have h1 := low a (List.mem_append_left _ List.mem_cons_self)
        have h2 : a ≤ x := by
          rcases List.mem_cons.mp h with rfl | h
          · exact Rat.le_refl
          · exact List.rel_of_pairwise_cons hA h
        exact e (congrArg some (Rat.le_antisymm h2 h1))
    have xB : x ∈ B := (List.mem_append.mp hx).resolve_left nA
    cases B with
    | nil => cases xB
    | cons b B' =>
      have h1 := low b (List.mem_append_right _ List.mem_cons_self)
      have h2 : b ≤ x := by
        rcases List.mem_cons.mp xB with rfl | h
        · exact Rat.le_refl
        · exact List.rel_of_pairwise_cons hB h
      have e2 := Rat.le_antisymm h1 h2
      subst e2
      exact ⟨B', rfl, List.Perm.cons_inv (p.trans List.perm_middle)⟩
/-! ### bounds -/
theorem q_lt_le {x y z : Rat} (h : x < y) (h' : y ≤ z) : x < z := by grind
theorem q_le_lt {x y z : Rat} (h : x ≤ y) (h' : y < z) : x < z := by grind
theorem q_lt_lt {x y z : Rat} (h : x < y) (h' : y < z) : x < z := by grind
def lowB (fl : Option Rat) (p x : Rat) : Rat := match fl with
  | none => x
  | some f => rmax x (f * p)
def highB (ro : Option Rat) (p : Rat) (o : Option Rat) : Option Rat := match ro with
  | none => o
  | some r => match o with
    | none => some (r * p)
    | some x => some (rmin x (r * p))
def bdO (fl ro : Option Rat) (a c p : Rat) : Option Rat := highB ro p (if c * p < 1 then some (lowB fl p (a * p / (1 - c * p))) else none)
/-- a delay is longer than so many waits -/
def Ov (fl ro : Option Rat) (a c p d : Rat) : Prop := (∃ r, ro = some r ∧ r * p < d) ∨ ((∀ f, fl = some f → f * p < d) ∧ (a + c * d) * p < d)
def Bel (o : Option Rat) (d : Rat) : Prop := ∃ b, o = some b ∧ b < d
theorem rmax_lt {x y d : Rat} : rmax x y < d ↔ x < d ∧ y < d := by
  unfold rmax
  split
  · rename_i h
    exact ⟨fun z => ⟨q_lt_lt h z, z⟩, fun z => z.2⟩
  · rename_i h
    exact ⟨fun z => ⟨z, q_le_lt (Rat.not_lt.mp h) z⟩, fun z => z.1⟩
theorem rmin_lt {x y d : Rat} : rmin x y < d ↔ x < d ∨ y < d := by
  unfold rmin
  split
  · rename_i h
    exact ⟨.inr, fun z => z.elim (fun z => q_lt_lt h z) id⟩
  · rename_i h
    exact ⟨.inl, fun z => z.elim id (fun z => q_le_lt (Rat.not_lt.mp h) z)⟩
section
variable {fl ro : Option Rat} {a c p d : Rat}
theorem core_cut (a0 : 0 ≤ a) (p0 : 0 < p) (d0 : 0 < d) : (c * p < 1 ∧ a * p / (1 - c * p) < d) ↔ (a + c * d) * p < d := by
  by_cases h : c * p < 1
  · rw [Rat.div_lt_iff (by grind)]
    constructor
    · rintro ⟨_, z⟩
      grind
    · intro z
      exact ⟨h, by grind⟩
  · constructor
    · rintro ⟨z, _⟩
      exact absurd z h
    · intro z
      exfalso
      have h1 : 1 * d ≤ (c * p) * d := Rat.mul_le_mul_of_nonneg_right (Rat.not_lt.mp h) (Rat.le_of_lt d0)
      have h2 : 0 ≤ a * p := Rat.mul_nonneg a0 (Rat.le_of_lt p0)
      grind
theorem bd_cut (a0 : 0 ≤ a) (p0 : 0 < p) (d0 : 0 < d) : Bel (bdO fl ro a c p) d ↔ Ov fl ro a c p d := by
  have cc := core_cut (c := c) a0 p0 d0
  have low : Bel (if c * p < 1 then some (lowB fl p (a * p / (1 - c * p))) else none) d ↔ ((∀ f, fl = some f → f * p < d) ∧ (a + c * d) * p < d) := by
    rw [← cc]
    by_cases h : c * p < 1
    · rw [if_pos h]
      unfold Bel lowB
      cases fl with
      | none =>
        constructor
        · rintro ⟨b, e, z⟩
          cases e
          exact ⟨(fun f e => nomatch e), h, z⟩
        · rintro ⟨_, _, z⟩
          exact ⟨_, rfl, z⟩
      | some f =>
        constructor
        · rintro ⟨b, e, z⟩
          cases e
          obtain ⟨z1, z2⟩ := rmax_lt.mp z
          exact ⟨fun f e => by cases e; exact z2, h, z1⟩
        · rintro ⟨z2, _, z1⟩
          exact ⟨_, rfl, rmax_lt.mpr ⟨z1, z2 f rfl⟩⟩
    · rw [if_neg h]
      constructor
      · rintro ⟨b, e, _⟩
        cases e
      · rintro ⟨_, z, _⟩
        exact absurd z h
  unfold Ov
  rw [← low]
  unfold bdO
  generalize (if c * p < 1 then some (lowB fl p (a * p / (1 - c * p))) else none) = o
  unfold highB Bel
  cases ro with
  | none =>
    constructor
    · exact .inr
    · rintro (⟨r, e, _⟩ | h)
      · cases e
      · exact h
  | some r =>
    cases o with
    | none =>
      constructor
      · rintro ⟨b, e, z⟩
        cases e
        exact .inl ⟨r, rfl, z⟩
      · rintro (⟨r, e, z⟩ | ⟨b, e, _⟩)
        · cases e
          exact ⟨_, rfl, z⟩
        · cases e
    | some x =>
      constructor
      · rintro ⟨b, e, z⟩
        cases e
        rcases rmin_lt.mp z with z | z
        · exact .inr ⟨x, rfl, z⟩
        · exact .inl ⟨r, rfl, z⟩
      · rintro (⟨r, e, z⟩ | ⟨b, e, z⟩)
        · cases e
          exact ⟨_, rfl, rmin_lt.mpr (.inr z)⟩
        · cases e
          exact ⟨_, rfl, rmin_lt.mpr (.inl z)⟩
theorem bd_nn (a0 : 0 ≤ a) (p0 : 0 < p) (hf : ∀ f, fl = some f → 0 < f) (hr : ∀ r, ro = some r → 0 < r) {b : Rat} (h : bdO fl ro a c p = some b) : 0 ≤ b := by
  have n1 : ∀ x y : Rat, 0 ≤ x → 0 ≤ y → 0 ≤ rmin x y := fun x y h1 h2 => by
    unfold rmin
    split <;> assumption
  have n2 : ∀ x y : Rat, 0 ≤ x → 0 ≤ rmax x y := fun x y h1 => by
    unfold rmax
    split
    · rename_i h
      exact Rat.le_of_lt (q_le_lt h1 h)
    · assumption
  have low : ∀ x, (if c * p < 1 then some (lowB fl p (a * p / (1 - c * p))) else none) = some x → 0 ≤ x := fun x e => by
    by_cases h : c * p < 1
    · rw [if_pos h] at e
      cases e
      have h0 : 0 ≤ a * p / (1 - c * p) := by
        rw [Rat.div_def]
        exact Rat.mul_nonneg (Rat.mul_nonneg a0 (Rat.le_of_lt p0)) (Rat.le_of_lt (Rat.inv_pos.mpr (by grind)))
      unfold lowB
      cases fl with
      | none => exact h0
      | some f => exact n2 _ _ h0
    · rw [if_neg h] at e
      cases e
  unfold bdO at h
  generalize (if c * p < 1 then some (lowB fl p (a * p / (1 - c * p))) else none) = o at low h
  unfold highB at h
  cases ro with
  | none => exact low b h
  | some r =>
    have h2 : 0 ≤ r * p := Rat.mul_nonneg (Rat.le_of_lt (hr r rfl)) (Rat.le_of_lt p0)
    cases o with
    | none => cases h; exact h2
    | some x => cases h; exact n1 _ _ (low x rfl) h2
end
/-- one bound is nowhere above another one -/
theorem cut_le {o o' : Option Rat} {b : Rat} (h : ∀ d, 0 < d → Bel o d → Bel o' d) (e : o = some b) (b0 : 0 ≤ b) : ∃ b', o' = some b' ∧ b' ≤ b := by
  obtain ⟨b', e', l⟩ := h (b + 1) (by grind) ⟨b, e, by grind⟩
  refine ⟨b', e', Rat.not_lt.mp fun l2 => ?_⟩
  obtain ⟨b2, e2, l3⟩ := h b' (q_le_lt b0 l2) ⟨b, e, l2⟩
  rw [e'] at e2
  cases e2
  exact Rat.lt_irrefl l3
theorem cut_eq {o o' : Option Rat} (h : ∀ d, 0 < d → (Bel o d ↔ Bel o' d)) (n : ∀ b, o = some b → 0 ≤ b) (n' : ∀ b, o' = some b → 0 ≤ b) : o = o' := by
  cases o with
  | some b =>
    obtain ⟨b', e', l⟩ := cut_le (fun d d0 => (h d d0).mp) rfl (n b rfl)
    obtain ⟨b2, e2, l2⟩ := cut_le (fun d d0 => (h d d0).mpr) e' (n' b' e')
    cases e2
    rw [e', Rat.le_antisymm l l2]
  | none =>
    cases o' with
    | none => rfl
    | some b' =>
      obtain ⟨b2, e2, _⟩ := cut_le (fun d d0 => (h d d0).mpr) rfl (n' b' rfl)
      cases e2

/-! ### powers of a fraction between 0 and 1 -/
theorem q56_z (q : Rat) : qpow q 0 = 1 := by
  unfold qpow
  rw [Int.pow_zero, Int.pow_zero]
  rfl
theorem q56_o (q : Rat) : qpow q 1 = q := by
  unfold qpow
  rw [Int.pow_succ, Int.pow_succ, Int.pow_zero, Int.pow_zero, Int.one_mul, Int.one_mul]
  exact Rat.num_divInt_den q
theorem q56_s (q : Rat) (n : Nat) : qpow q (n + 1) = qpow q n * q := by rw [qpow_add, q56_o]
theorem q56_pos {q : Rat} (h : 0 < q) (n : Nat) : 0 < qpow q n := by
  induction n with
  | zero => rw [q56_z]; decide
  | succ n ih => rw [q56_s]; exact Rat.mul_pos ih h
theorem q56_nn {q : Rat} (h : 0 ≤ q) (n : Nat) : 0 ≤ qpow q n := by
  induction n with
  | zero => rw [q56_z]; decide
  | succ n ih => rw [q56_s]; exact Rat.mul_nonneg ih h
theorem q56_dn {q : Rat} (h0 : 0 ≤ q) (h1 : q ≤ 1) (n : Nat) : qpow q (n + 1) ≤ qpow q n := by
  rw [q56_s]
  have := Rat.mul_le_mul_of_nonneg_left h1 (q56_nn h0 n)
  rwa [Rat.mul_one] at this
theorem q56_anti {q : Rat} (h0 : 0 ≤ q) (h1 : q ≤ 1) {n m : Nat} (l : n ≤ m) : qpow q m ≤ qpow q n := by
  induction m with
  | zero =>
    obtain rfl : n = 0 := by omega
    exact Rat.le_refl
  | succ m ih =>
    by_cases e : n = m + 1
    · subst e
      exact Rat.le_refl
    · exact Rat.le_trans (q56_dn h0 h1 m) (ih (by omega))
theorem q56_le1 {q : Rat} (h0 : 0 ≤ q) (h1 : q ≤ 1) (n : Nat) : qpow q n ≤ 1 := by
  have := q56_anti h0 h1 (Nat.zero_le n)
  rwa [q56_z] at this
/-! ### the bounds of a book -/
/-- what is left of the first estimate behind so many rounds -/
def rstZ (z : Bk) (m : Nat) : Rat := qpow (((1 : Int) : Rat) - z.share) m
def lnA (z : Bk) (e : Rat) (m : Nat) : Rat := z.factor * rstZ z m * e + z.margin
def lnC (z : Bk) (m : Nat) : Rat := z.factor * (((1 : Int) : Rat) - rstZ z m)
def mkQ (z : Bk) (k : Nat) : Rat := (Mt.mk z.doubled k : Rat)
def bdz (z : Bk) (e : Rat) (m k : Nat) : Option Rat := bdO z.floor z.roof (lnA z e m) (lnC z m) (mkQ z k)
section
variable {z : Bk} {e d : Rat} {m k : Nat}
theorem one_c : ((1 : Int) : Rat) = 1 := rfl
theorem rst_nn (h : BkOk z) : 0 ≤ rstZ z m := q56_nn (by have := h.sh1; rw [one_c]; grind) m
theorem rst_le (h : BkOk z) : rstZ z m ≤ 1 := q56_le1 (by have := h.sh1; rw [one_c]; grind) (by have := h.sh0; rw [one_c]; grind) m
theorem rst_dn (h : BkOk z) : rstZ z (m + 1) ≤ rstZ z m := q56_dn (by have := h.sh1; rw [one_c]; grind) (by have := h.sh0; rw [one_c]; grind) m
theorem rst_0 : rstZ z 0 = 1 := q56_z _
theorem lnA_nn (h : BkOk z) (e0 : 0 < e) : 0 ≤ lnA z e m := by
  have h1 := Rat.mul_nonneg (Rat.mul_nonneg (Rat.le_trans (by decide) h.fa) (rst_nn (m := m) h)) (Rat.le_of_lt e0)
  have h2 := h.ma
  unfold lnA
  grind
theorem lnC_nn (h : BkOk z) : 0 ≤ lnC z m := Rat.mul_nonneg (Rat.le_trans (by decide) h.fa) (by have := rst_le (m := m) h; rw [one_c]; grind)
theorem mkQ_le {j k : Nat} (l : j ≤ k) : mkQ z j ≤ mkQ z k := by
  refine Rat.intCast_le_intCast.mpr ?_
  induction l with
  | refl => exact Int.le_refl _
  | step l ih =>
    refine Int.le_trans ih (Int.le_of_lt ?_)
    unfold Mt.mk
    have := Mt.pow_pos2 (‹Nat› : Nat)
    cases z.doubled with
    | false => simp only [Bool.false_eq_true, if_false]; omega
    | true => simp only [if_true]; rw [Int.pow_succ]; omega
theorem mkQ_ge (h : 1 ≤ k) : 1 ≤ mkQ z k := by
  have h1 := mkQ_le (z := z) h
  have h2 : mkQ z 1 = 1 := by
    unfold mkQ Mt.mk
    cases z.doubled <;> rfl
  rwa [h2] at h1
theorem mkQ_nat : (k : Rat) ≤ mkQ z k := by
  have h : ((k : Nat) : Int) ≤ Mt.mk z.doubled k := by
    unfold Mt.mk
    cases z.doubled with
    | false => exact Int.le_refl _
    | true =>
      have : k < 2 ^ k := Nat.lt_two_pow_self
      have : ((2 ^ k : Nat) : Int) = 2 ^ k := by norm_cast
      show (k : Int) ≤ 2 ^ k - 1
      omega
  have z := Rat.intCast_le_intCast.mpr h
  exact z
def OvZ (z : Bk) (e : Rat) (m k : Nat) (d : Rat) : Prop := Ov z.floor z.roof (lnA z e m) (lnC z m) (mkQ z k) d
theorem bdz_cut (h : BkOk z) (e0 : 0 < e) (k1 : 1 ≤ k) (d0 : 0 < d) : Bel (bdz z e m k) d ↔ OvZ z e m k d := bd_cut (lnA_nn h e0) (by have := mkQ_ge (z := z) k1; grind) d0
theorem bdz_nn (h : BkOk z) (e0 : 0 < e) (k1 : 1 ≤ k) {b : Rat} (eb : bdz z e m k = some b) : 0 ≤ b := bd_nn (lnA_nn h e0) (by have := mkQ_ge (z := z) k1; grind) h.fl (fun r er => (h.ro r er).1) eb
/-- more waits -/
theorem ov_dn {j : Nat} (h : BkOk z) (e0 : 0 < e) (l : j ≤ k) (d0 : 0 < d) (o : OvZ z e m k d) : OvZ z e m j d := by
  have pl := mkQ_le (z := z) l
  rcases o with ⟨r, er, o⟩ | ⟨of, o⟩
  · exact .inl ⟨r, er, q_le_lt (Rat.mul_le_mul_of_nonneg_left pl (Rat.le_of_lt (h.ro r er).1)) o⟩
  · refine .inr ⟨fun f ef => q_le_lt (Rat.mul_le_mul_of_nonneg_left pl (Rat.le_of_lt (h.fl f ef))) (of f ef), q_le_lt (Rat.mul_le_mul_of_nonneg_left pl ?_) o⟩
    have h1 := lnA_nn (m := m) h e0
    have h2 := Rat.mul_nonneg (lnC_nn (m := m) h) (Rat.le_of_lt d0)
    grind
/-- a later round -/
theorem ov_up (h : BkOk z) (e0 : 0 < e) (k1 : 1 ≤ k) (d0 : 0 < d) (o : OvZ z e (m + 1) k d) : OvZ z e m k d := by
  rcases o with o | ⟨of, o⟩
  · exact .inl o
  · refine .inr ⟨of, ?_⟩
    have p1 := mkQ_ge (z := z) k1
    have f1 := h.fa
    have g0 := h.ma
    have r0 := rst_nn (m := m + 1) h
    have rl := rst_le (m := m + 1) h
    have rd := rst_dn (m := m) h
    have a0 := lnA_nn (m := m + 1) h e0
    have c0 := Rat.mul_nonneg (lnC_nn (m := m + 1) h) (Rat.le_of_lt d0)
    unfold lnA lnC at *
    rw [one_c] at *
    generalize rstZ z (m + 1) = r at *
    generalize rstZ z m = s at *
    generalize mkQ z k = p at *
    generalize z.factor = f at *
    generalize z.margin = g at *
    have w1 : f * r * e + g + f * (1 - r) * d < d := by
      have : (f * r * e + g + f * (1 - r) * d) * 1 ≤ (f * r * e + g + f * (1 - r) * d) * p := Rat.mul_le_mul_of_nonneg_left p1 (by grind)
      grind
    have x1 : 1 * (r * e + (1 - r) * d) ≤ f * (r * e + (1 - r) * d) := Rat.mul_le_mul_of_nonneg_right f1 (by
      have := Rat.mul_nonneg r0 (Rat.le_of_lt e0)
      have := Rat.mul_nonneg (show 0 ≤ 1 - r by grind) (Rat.le_of_lt d0)
      grind)
    have ed : r * e < r * d := by grind
    have ed2 : e < d := Rat.not_le.mp fun l => by
      have := Rat.mul_le_mul_of_nonneg_left l r0
      grind
    have x2 : r * (d - e) ≤ s * (d - e) := Rat.mul_le_mul_of_nonneg_right rd (by grind)
    have x3 : f * (r * (d - e)) ≤ f * (s * (d - e)) := Rat.mul_le_mul_of_nonneg_left x2 (by grind)
    have x4 : (f * s * e + g + f * (1 - s) * d) * p ≤ (f * r * e + g + f * (1 - r) * d) * p := Rat.mul_le_mul_of_nonneg_right (by grind) (by grind)
    exact q_le_lt x4 o
/-- the first round -/
theorem ov_0 (h : BkOk z) (k1 : 1 ≤ k) : OvZ z e 0 k d ↔ madeW z e * mkQ z k < d := by
  have p0 : 0 < mkQ z k := by have := mkQ_ge (z := z) k1; grind
  have ea : lnA z e 0 = z.factor * e + z.margin := by
    unfold lnA
    rw [rst_0]
    grind
  have ec : lnC z 0 = 0 := by
    unfold lnC
    rw [rst_0, one_c]
    grind
  unfold OvZ Ov madeW
  rw [ea, ec]
  generalize z.factor * e + z.margin = u
  generalize mkQ z k = p at *
  have mx : ∀ x y : Rat, rmax x y * p = rmax (x * p) (y * p) := fun x y => by
    unfold rmax
    by_cases c : x < y
    · rw [if_pos c, if_pos (Rat.mul_lt_mul_of_pos_right c p0)]
    · rw [if_neg c, if_neg (Rat.not_lt.mpr (Rat.mul_le_mul_of_nonneg_right (Rat.not_lt.mp c) (Rat.le_of_lt p0)))]
  have mn : ∀ x y : Rat, rmin x y * p = rmin (x * p) (y * p) := fun x y => by
    unfold rmin
    by_cases c : y < x
    · rw [if_pos c, if_pos (Rat.mul_lt_mul_of_pos_right c p0)]
    · rw [if_neg c, if_neg (Rat.not_lt.mpr (Rat.mul_le_mul_of_nonneg_right (Rat.not_lt.mp c) (Rat.le_of_lt p0)))]
  have lo : ((∀ f, z.floor = some f → f * p < d) ∧ (u + 0 * d) * p < d) ↔ lowW z.floor u * p < d := by
    have e0 : u + 0 * d = u := by grind
    rw [e0]
    unfold lowW
    cases z.floor with
    | none => exact ⟨fun h => h.2, fun h => ⟨(fun f e => nomatch e), h⟩⟩
    | some f =>
      show _ ↔ rmax u f * p < d
      rw [mx, rmax_lt]
      exact ⟨fun h => ⟨h.2, h.1 f rfl⟩, fun h => ⟨fun g e => by cases e; exact h.2, h.1⟩⟩
  rw [lo]
  generalize lowW z.floor u = x
  unfold highW
  cases z.roof with
  | none => exact ⟨fun h => h.resolve_left (fun ⟨r, e, _⟩ => nomatch e), .inr⟩
  | some r =>
    show _ ↔ rmin x r * p < d
    rw [mn, rmin_lt]
    exact ⟨fun h => h.elim (fun ⟨s, e, h⟩ => by cases e; exact .inr h) .inl, fun h => h.elim .inr (fun h => .inl ⟨r, rfl, h⟩)⟩
theorem madeW_pos (h : BkOk z) (e0 : 0 < e) : 0 < madeW z e := by
  have f1 := h.fa
  have g0 := h.ma
  have h1 : 0 < z.factor * e := Rat.mul_pos (by grind) e0
  have n1 : 0 < lowW z.floor (z.factor * e + z.margin) := by
    unfold lowW
    cases z.floor with
    | none => show 0 < z.factor * e + z.margin; grind
    | some f =>
      show 0 < rmax _ f
      unfold rmax
      split <;> grind
  unfold madeW highW
  cases er : z.roof with
  | none => exact n1
  | some r =>
    show 0 < rmin _ r
    have := (h.ro r er).1
    unfold rmin
    split <;> assumption
/-- the marks of the first round -/
theorem bdz_0 (h : BkOk z) (e0 : 0 < e) (k1 : 1 ≤ k) : bdz z e 0 k = some (madeW z e * mkQ z k) := by
  have p0 : 0 < mkQ z k := by have := mkQ_ge (z := z) k1; grind
  refine cut_eq (fun d d0 => ?_) (fun b eb => bdz_nn h e0 k1 eb) (fun b eb => by cases eb; exact Rat.le_of_lt (Rat.mul_pos (madeW_pos h e0) p0))
  rw [bdz_cut h e0 k1 d0, ov_0 h k1]
  exact ⟨fun h => ⟨_, rfl, h⟩, fun ⟨b, e, h⟩ => by cases e; exact h⟩
end
/-! ### rows of bounds -/
def rowB (B : Nat → Option Rat) (n : Nat) : List Rat := (List.range n).map fun j => (B (j + 1)).getD 0
/-- so many bounds are below -/
structure Run (B : Nat → Option Rat) (h : Rat) (n : Nat) : Prop where
  go : ∀ j, j < n → Bel (B (j + 1)) h
  st : ¬ Bel (B (n + 1)) h
def colB (B : Nat → Nat → Option Rat) (n : Nat → Nat) (many : Nat) : List Rat := ((List.range many).map fun m => rowB (B m) (n m)).flatten
theorem colB_succ {B : Nat → Nat → Option Rat} {n : Nat → Nat} {m : Nat} : colB B n (m + 1) = colB B n m ++ rowB (B m) (n m) := by
  unfold colB
  rw [List.range_succ, List.map_append, List.flatten_append]
  show _ ++ (rowB (B m) (n m) ++ []) = _
  rw [List.append_nil]
theorem colB_0 {B : Nat → Nat → Option Rat} {n : Nat → Nat} : colB B n 0 = [] := rfl
theorem rowB_len {B : Nat → Option Rat} {n : Nat} : (rowB B n).length = n := by
  unfold rowB
  rw [List.length_map, List.length_range]
theorem rowB_at {B : Nat → Option Rat} {n j : Nat} (h : j < n) : (rowB B n)[j]? = some ((B (j + 1)).getD 0) := by
  unfold rowB
  rw [List.getElem?_map, List.getElem?_range h]
  rfl
theorem rowB_succ {B : Nat → Option Rat} {n : Nat} : rowB B (n + 1) = rowB B n ++ [(B (n + 1)).getD 0] := by
  unfold rowB
  rw [List.range_succ, List.map_append]
  rfl
/-- bounds of ascending counts -/
def Up (B : Nat → Option Rat) : Prop := ∀ k d, 0 < d → 1 ≤ k → Bel (B (k + 1)) d → Bel (B k) d
def NnB (B : Nat → Option Rat) : Prop := ∀ k b, 1 ≤ k → B k = some b → 0 ≤ b
section
variable {B B' : Nat → Option Rat} {h g : Rat} {n n' : Nat}
theorem Up.dn (u : Up B) {j k : Nat} {d : Rat} (d0 : 0 < d) (j1 : 1 ≤ j) (l : j ≤ k) (b : Bel (B k) d) : Bel (B j) d := by
  induction l with
  | refl => exact b
  | step l ih => exact ih (u _ d d0 (Nat.le_trans j1 l) b)
theorem run_ex (u : ¬ Bel (B (n + 1)) h) : ∃ n', n' ≤ n ∧ Run B h n' := by
  induction n with
  | zero => exact ⟨0, Nat.le_refl _, fun j hj => absurd hj (Nat.not_lt_zero _), u⟩
  | succ n ih =>
    by_cases c : ∀ j, j < n + 1 → Bel (B (j + 1)) h
    · exact ⟨n + 1, Nat.le_refl _, c, u⟩
    · by_cases q : Bel (B (n + 1)) h
      · obtain ⟨j, hj⟩ := Classical.not_forall.mp c
        obtain ⟨hj, nb⟩ := Classical.not_imp.mp hj
        have : ∃ n', n' ≤ n ∧ Run B h n' := by
          have key : ∀ i, i ≤ n → ¬ Bel (B (i + 1)) h → ∃ n', n' ≤ n ∧ Run B h n' := by
            intro i
            induction i using Nat.strongRecOn with
            | _ i ih2 =>
              intro li nb
              by_cases c2 : ∀ j, j < i → Bel (B (j + 1)) h
              · exact ⟨i, li, c2, nb⟩
              · obtain ⟨j2, hj2⟩ := Classical.not_forall.mp c2
                obtain ⟨hj2, nb2⟩ := Classical.not_imp.mp hj2
                exact ih2 j2 hj2 (by omega) nb2
          exact key j (by omega) nb
        obtain ⟨n', l, r⟩ := this
        exact ⟨n', by omega, r⟩
      · obtain ⟨n', l, r⟩ := ih q
        exact ⟨n', by omega, r⟩
theorem Run.val (r : Run B h n) {j : Nat} (l : j < n) : ∃ b, B (j + 1) = some b ∧ b < h := r.go j l
theorem rowB_asc (u : Up B) (nn : NnB B) (r : Run B h n) : Asc (rowB B n) := by
  have h0 : ∀ i j, i < j → j < n → (B (i + 1)).getD 0 ≤ (B (j + 1)).getD 0 := fun i j l lj => by
    obtain ⟨b, eb, _⟩ := r.go j lj
    obtain ⟨b', eb', l2⟩ := cut_le (o' := B (i + 1)) (fun d d0 hb => u.dn d0 (by omega) (show i + 1 ≤ j + 1 by omega) hb) eb (nn _ _ (by omega) eb)
    rw [eb, eb']
    exact l2
  refine List.pairwise_iff_getElem.mpr fun i j hi hj l => ?_
  rw [rowB_len] at hi hj
  have e1 := rowB_at (B := B) hi
  have e2 := rowB_at (B := B) hj
  rw [List.getElem?_eq_getElem (by rw [rowB_len]; exact hi)] at e1
  rw [List.getElem?_eq_getElem (by rw [rowB_len]; exact hj)] at e2
  rw [Option.some.inj e1, Option.some.inj e2]
  exact h0 i j l hj
theorem run_len (le : ∀ k d, 1 ≤ k → 0 < d → Bel (B' k) d → Bel (B k) d) (h0 : 0 < h) (r : Run B h n) (r' : Run B' h n') : n' ≤ n := by
  refine Nat.not_lt.mp fun l => r.st ?_
  exact le (n + 1) h (by omega) h0 (r'.go n l)
theorem run_at (le : ∀ k d, 1 ≤ k → 0 < d → Bel (B' k) d → Bel (B k) d) (nn' : NnB B') (r' : Run B' h n') {j : Nat} (hj : j < n') : (B (j + 1)).getD 0 ≤ (B' (j + 1)).getD 0 := by
  obtain ⟨b, eb, _⟩ := r'.go j hj
  obtain ⟨b', eb', l2⟩ := cut_le (o' := B (j + 1)) (fun d d0 hb => le (j + 1) d (by omega) d0 hb) eb (nn' _ _ (by omega) eb)
  rw [eb, eb']
  exact l2
theorem row_low (u : Up B) (g0 : 0 < g) (l : g ≤ h) (r : Run B h n) (r' : Run B g n') : (rowB B n).filter (fun b => decide (b < g)) = rowB B n' := by
  have ln : n' ≤ n := Nat.not_lt.mp fun c => r.st (by
    obtain ⟨b, eb, lb⟩ := r'.go n c
    exact ⟨b, eb, q_lt_le lb l⟩)
  obtain ⟨t, rfl⟩ : ∃ t, n = n' + t := ⟨n - n', by omega⟩
  clear ln
  induction t with
  | zero =>
    refine List.filter_eq_self.mpr fun b hb => ?_
    obtain ⟨j, hj, rfl⟩ := List.mem_map.mp hb
    obtain ⟨b, eb, lb⟩ := r'.go j (List.mem_range.mp hj)
    rw [eb]
    exact decide_eq_true lb
  | succ t ih =>
    have r2 : Run B h n' ∨ True := .inr trivial
    rw [show n' + (t + 1) = (n' + t) + 1 from rfl, rowB_succ, List.filter_append]
    have nb : ¬ (B (n' + t + 1)).getD 0 < g := fun c => by
      obtain ⟨b, eb, _⟩ := r.go (n' + t) (by omega)
      rw [eb] at c
      exact r'.st (u.dn g0 (by omega) (show n' + 1 ≤ n' + t + 1 by omega) ⟨b, eb, c⟩)
    rw [show [(B (n' + t + 1)).getD 0].filter (fun b => decide (b < g)) = [] from by
      rw [List.filter_cons, if_neg (by rw [decide_eq_true_eq]; exact nb)]
      rfl, List.append_nil]
    clear r2
    have key : ∀ s, s ≤ t → (rowB B (n' + s)).filter (fun b => decide (b < g)) = rowB B n' := by
      intro s
      induction s with
      | zero =>
        intro _
        refine List.filter_eq_self.mpr fun b hb => ?_
        obtain ⟨j, hj, rfl⟩ := List.mem_map.mp hb
        obtain ⟨b, eb, lb⟩ := r'.go j (List.mem_range.mp hj)
        rw [eb]
        exact decide_eq_true lb
      | succ s ihs =>
        intro ls
        rw [show n' + (s + 1) = (n' + s) + 1 from rfl, rowB_succ, List.filter_append, ihs (by omega)]
        have nb : ¬ (B (n' + s + 1)).getD 0 < g := fun c => by
          obtain ⟨b, eb, _⟩ := r.go (n' + s) (by omega)
          rw [eb] at c
          exact r'.st (u.dn g0 (by omega) (show n' + 1 ≤ n' + s + 1 by omega) ⟨b, eb, c⟩)
        rw [List.filter_cons, if_neg (by rw [decide_eq_true_eq]; exact nb)]
        exact List.append_nil _
    exact key t (Nat.le_refl _)
end
theorem col_low {B : Nat → Nat → Option Rat} {h g : Rat} {n n' : Nat → Nat} (u : ∀ m, Up (B m)) (g0 : 0 < g) (l : g ≤ h) : ∀ {many : Nat}, (∀ m, m < many → Run (B m) h (n m)) → (∀ m, m < many → Run (B m) g (n' m)) → (colB B n many).filter (fun b => decide (b < g)) = colB B n' many
  | 0, _, _ => rfl
  | m + 1, r, r' => by
    rw [colB_succ, colB_succ, List.filter_append, col_low u g0 l (fun i hi => r i (by omega)) (fun i hi => r' i (by omega)), row_low (u m) g0 l (r m (by omega)) (r' m (by omega))]
theorem row_mul {B B' : Nat → Option Rat} {u : Rat} {n : Nat} (h : ∀ k, 1 ≤ k → B' k = (B k).map (u * ·)) (r : ∀ j, j < n → ∃ b, B (j + 1) = some b) : rowB B' n = (rowB B n).map (u * ·) := by
  unfold rowB
  rw [List.map_map]
  refine List.map_congr_left fun j hj => ?_
  obtain ⟨b, eb⟩ := r j (List.mem_range.mp hj)
  show (B' (j + 1)).getD 0 = u * (B (j + 1)).getD 0
  rw [h _ (by omega), eb]
  rfl
theorem run_mul {B B' : Nat → Option Rat} {u h : Rat} {n : Nat} (u0 : 0 < u) (hB : ∀ k, 1 ≤ k → B' k = (B k).map (u * ·)) (r : Run B h n) : Run B' (u * h) n := by
  refine ⟨fun j hj => ?_, fun ⟨b, eb, lb⟩ => r.st ?_⟩
  · obtain ⟨b, eb, lb⟩ := r.go j hj
    exact ⟨u * b, by rw [hB _ (by omega), eb]; rfl, Rat.mul_lt_mul_of_pos_left lb u0⟩
  · rw [hB _ (by omega)] at eb
    obtain ⟨c, ec, rfl⟩ := Option.map_eq_some_iff.mp eb
    exact ⟨c, ec, Rat.not_le.mp fun l => absurd lb (Rat.not_lt.mpr (Rat.mul_le_mul_of_nonneg_left l (Rat.le_of_lt u0)))⟩
theorem col_mul {B B' : Nat → Nat → Option Rat} {u h : Rat} {n : Nat → Nat} (hB : ∀ m k, 1 ≤ k → B' m k = (B m k).map (u * ·)) : ∀ {many : Nat}, (∀ m, m < many → Run (B m) h (n m)) → colB B' n many = (colB B n many).map (u * ·)
  | 0, _ => rfl
  | m + 1, r => by
    rw [colB_succ, colB_succ, List.map_append, col_mul hB (fun i hi => r i (by omega)), row_mul (hB m) fun j hj => by
      obtain ⟨b, eb, _⟩ := (r m (by omega)).go j hj
      exact ⟨b, eb⟩]
theorem asc_mul {l : List Rat} {u : Rat} (u0 : 0 < u) (h : Asc l) : Asc (l.map (u * ·)) := by
  refine List.pairwise_map.mpr (h.imp fun h => ?_)
  exact Rat.mul_le_mul_of_nonneg_left h (Rat.le_of_lt u0)
theorem asc_filter {l : List Rat} {p : Rat → Bool} (h : Asc l) : Asc (l.filter p) := List.Pairwise.filter p h
/-! ### a book in another unit -/
def scz (u : Rat) (z : Bk) : Bk := { z with margin := u * z.margin, floor := z.floor.map (u * ·), roof := z.roof.map (u * ·) }
theorem bdz_scale {z : Bk} {u e : Rat} (u0 : 0 < u) (m k : Nat) : bdz (scz u z) (u * e) m k = (bdz z e m k).map (u * ·) := by
  have ea : lnA (scz u z) (u * e) m = u * lnA z e m := by
    show z.factor * rstZ z m * (u * e) + u * z.margin = u * (z.factor * rstZ z m * e + z.margin)
    grind
  have ec : lnC (scz u z) m = lnC z m := rfl
  have ep : mkQ (scz u z) k = mkQ z k := rfl
  unfold bdz bdO
  rw [ea, ec, ep]
  have mx : ∀ x y : Rat, rmax (u * x) (u * y) = u * rmax x y := fun x y => by
    unfold rmax
    by_cases c : x < y
    · rw [if_pos c, if_pos (Rat.mul_lt_mul_of_pos_left c u0)]
    · rw [if_neg c, if_neg (Rat.not_lt.mpr (Rat.mul_le_mul_of_nonneg_left (Rat.not_lt.mp c) (Rat.le_of_lt u0)))]
  have mn : ∀ x y : Rat, rmin (u * x) (u * y) = u * rmin x y := fun x y => by
    unfold rmin
    by_cases c : y < x
    · rw [if_pos c, if_pos (Rat.mul_lt_mul_of_pos_left c u0)]
    · rw [if_neg c, if_neg (Rat.not_lt.mpr (Rat.mul_le_mul_of_nonneg_left (Rat.not_lt.mp c) (Rat.le_of_lt u0)))]
  have lo : (if lnC z m * mkQ z k < 1 then some (lowB (scz u z).floor (mkQ z k) (u * lnA z e m * mkQ z k / (1 - lnC z m * mkQ z k))) else none) = Option.map (u * ·) (if lnC z m * mkQ z k < 1 then some (lowB z.floor (mkQ z k) (lnA z e m * mkQ z k / (1 - lnC z m * mkQ z k))) else none) := by
    by_cases c : lnC z m * mkQ z k < 1
    · rw [if_pos c, if_pos c]
      show some _ = some _
      congr 1
      have e1 : u * lnA z e m * mkQ z k / (1 - lnC z m * mkQ z k) = u * (lnA z e m * mkQ z k / (1 - lnC z m * mkQ z k)) := by
        rw [Rat.div_def, Rat.div_def]
        grind
      rw [e1]
      unfold lowB
      show (match z.floor.map (u * ·) with | none => _ | some f => _) = _
      cases z.floor with
      | none => rfl
      | some f =>
        show rmax _ (u * f * mkQ z k) = u * rmax _ _
        rw [Rat.mul_assoc, mx]
    · rw [if_neg c, if_neg c]
      rfl
  rw [lo]
  generalize (if lnC z m * mkQ z k < 1 then some (lowB z.floor (mkQ z k) (lnA z e m * mkQ z k / (1 - lnC z m * mkQ z k))) else none) = o
  unfold highB
  show (match z.roof.map (u * ·) with | none => _ | some r => _) = _
  cases z.roof with
  | none => rfl
  | some r =>
    cases o with
    | none =>
      show some (u * r * mkQ z k) = some (u * (r * mkQ z k))
      rw [Rat.mul_assoc]
    | some x =>
      show some (rmin (u * x) (u * r * mkQ z k)) = some (u * rmin x (r * mkQ z k))
      rw [Rat.mul_assoc, mn]
/-- the book's rows -/
theorem bdz_up {z : Bk} {e : Rat} (h : BkOk z) (e0 : 0 < e) (m : Nat) : Up (bdz z e m) := fun k d d0 k1 b => (bdz_cut h e0 k1 d0).mpr (ov_dn h e0 (Nat.le_succ k) d0 ((bdz_cut h e0 (by omega) d0).mp b))
theorem bdz_nnB {z : Bk} {e : Rat} (h : BkOk z) (e0 : 0 < e) (m : Nat) : NnB (bdz z e m) := fun k b k1 eb => bdz_nn h e0 k1 eb
theorem bdz_le {z : Bk} {e : Rat} (h : BkOk z) (e0 : 0 < e) (m : Nat) : ∀ k d, 1 ≤ k → 0 < d → Bel (bdz z e (m + 1) k) d → Bel (bdz z e m k) d := fun k d k1 d0 b => (bdz_cut h e0 k1 d0).mpr (ov_up h e0 k1 d0 ((bdz_cut h e0 k1 d0).mp b))
theorem bdz_le0 {z : Bk} {e d : Rat} {k : Nat} (h : BkOk z) (e0 : 0 < e) (k1 : 1 ≤ k) (d0 : 0 < d) : ∀ m, Bel (bdz z e m k) d → Bel (bdz z e 0 k) d
  | 0, b => b
  | m + 1, b => bdz_le0 h e0 k1 d0 m (bdz_le h e0 m k d k1 d0 b)
/-- the number of bounds of a round below twelve waits -/
theorem bdz_few {z : Bk} {e d : Rat} (h : BkOk z) (e0 : 0 < e) (d0 : 0 < d) (n : Nat) (l : d ≤ madeW z e * ((n + 1 : Nat) : Rat)) (m : Nat) : ∃ n', n' ≤ n ∧ Run (bdz z e m) d n' := by
  refine run_ex fun b => ?_
  have b0 := bdz_le0 h e0 (by omega) d0 m b
  rw [bdz_0 h e0 (by omega)] at b0
  obtain ⟨b, eb, lb⟩ := b0
  cases eb
  have := Rat.mul_le_mul_of_nonneg_left (mkQ_nat (z := z) (k := n + 1)) (Rat.le_of_lt (madeW_pos h e0))
  exact absurd (q_lt_le lb l) (Rat.not_lt.mpr this)

/-! ### check_sample, check_smoothed, wait_line, bound_of -/
section
variable {X : Cx} {k : Nat} {E : L2.St → XK} {σ : L2.St} {H : Hp} {D : Ends} {e : Expr} {pos : Pos}
/-- a, b = a tuple (stands in Fw43 too) -/
theorem ws_unpT {i i' : Nat} {x y : Str} {px py pt : Pos} {kt : Nat} (B : Body X k E) (n : Sl X i x) (n' : Sl X i' y)
    (h : WE X e σ H fun v H1 => ∃ p v0 v1, v = .ref p ∧ SqT X.K H1 p [v0, v1] ∧ D.nx ((σ.set i (some v0)).set i' (some v1)) H1)
    (hs : swapsWithSole [.Tuple [.Name x px, .Name y py] kt pt] e pos.line X.env = pure false := by rfl) (hw : swappedStores [.Tuple [.Name x px, .Name y py] kt pt] e X.env = pure none := by rfl)
    (hn : (assignEach [Expr.Name x px, .Name y py] X.env).length = 2 := by rfl) (hst : (assignEach [Expr.Name x px, .Name y py] X.env).findIdx? (·.1) = none := by rfl)
    (h3 : (assignEach [Expr.Tuple [.Name x px, .Name y py] kt pt] X.env).map (·.2) = [assign (.Tuple [.Name x px, .Name y py] kt pt) X.env] := by rfl) :
    WS X (.Assign [.Tuple [.Name x px, .Name y py] kt pt] e pos) D σ H := by
  refine wsP (ps_asg peS (pg_tup B.calm (pgs_cons (pg_name n.nd n.at_ n.loc n.fn) (pgs_cons (pg_name n'.nd n'.at_ n'.loc n'.fn) pgs_nil)) hn hst) hs hw h3) ?_
  refine we_mono h fun v H1 q => ?_
  obtain ⟨p, v0, v1, rfl, hq, z⟩ := q
  exact ⟨p, _, rfl, hq, rfl, v0, _, rfl, v1, _, rfl, rfl, z⟩
theorem o_notInT {X : Cx} {H : Hp} {Q : VK} {v : V} {a : Addr} {xs : List V} (h : SqT X.K H a xs) (hv : flatV v = true) (hx : xs.all flatV = true) (q : Q (.bl (!inV v xs)) H) : Op2 X (compareOp .NotIn) v (.ref a) H Q := op2_of op_notIn_seq ⟨a, xs, rfl, .inr h, hv, hx, q⟩
end
theorem inV_str (x : Str) (ws : List Str) : inV (.str x) (ws.map V.str) = decide (x ∈ ws) := by
  have e : ∀ ys : List Str, (ys.map V.str).any (fun y => eqV y (.str x)) = decide (x ∈ ys) := fun ys => by
    induction ys with
    | nil => rfl
    | cons y ys ih =>
      rw [List.map_cons, List.any_cons, ih]
      have h1 : eqV (.str y) (.str x) = decide (x = y) := by
        show (y == x) = decide (x = y)
        by_cases h : x = y
        · subst h; simp
        · rw [decide_eq_false h]
          exact beq_eq_false_iff_ne.mpr (Ne.symm h)
      rw [h1, ← Bool.decide_or]
      congr 1
      rw [List.mem_cons]
  exact e ws
theorem powm {b : Int} {a n N M : Nat} (h : m1 b < 2 ^ a) (hn : n ≤ N) (hM : a * N < M) : m1 b ^ n < 2 ^ M := by
  have h1 : m1 b ^ n ≤ (2 ^ a) ^ n := Nat.pow_le_pow_left (Nat.le_of_lt h) n
  rw [← Nat.pow_mul] at h1
  have h2 : 2 ^ (a * n) < 2 ^ M := Nat.pow_lt_pow_right (by decide) (Nat.lt_of_le_of_lt (Nat.mul_le_mul_left a hn) hM)
  omega
theorem m1_sz {b : Int} {k : Nat} (h : b.natAbs < 2 ^ k) (hk : 0 < k) : m1 b < 2 ^ k := by
  have := Nat.one_lt_two_pow (n := k) (by omega)
  unfold m1
  split <;> omega
theorem qpow_sz {q : Rat} {a n N : Nat} (h : Sz q a) (hn : n ≤ N) : Sz (qpow q n) (a * N + 1) := by
  have up : ∀ {x : Nat}, x < 2 ^ a → x ^ n < 2 ^ (a * N + 1) := fun {x} hx => by
    have h1 : x ^ n ≤ (2 ^ a) ^ n := Nat.pow_le_pow_left (Nat.le_of_lt hx) n
    rw [← Nat.pow_mul] at h1
    have h2 : 2 ^ (a * n) ≤ 2 ^ (a * N) := Nat.pow_le_pow_right (by decide) (Nat.mul_le_mul_left a hn)
    rw [Nat.pow_succ]
    have := Nat.two_pow_pos (a * N)
    omega
  constructor
  · rw [qpow_num, Int.natAbs_pow]
    exact up h.num
  · have := qpow_den q n
    have e : (qpow q n).den = q.den ^ n := by
      have h3 : ((q.den ^ n : Nat) : Int) = (q.den : Int) ^ n := Int.natCast_pow _ _
      omega
    rw [e]
    exact up h.den
theorem over_eq {q r : Rat} (h : r.num ≠ 0) : Rat.divInt (q.num * r.den) (q.den * r.num) = q / r := by
  rw [Rat.div_def, Rat.inv_def, show q * Rat.divInt r.den r.num = Rat.divInt q.num q.den * Rat.divInt r.den r.num from by rw [Rat.num_divInt_den], Rat.divInt_mul_divInt]
theorem Sz.quot {q r : Rat} {n m : Nat} (h : Sz q n) (h' : Sz r m) (r0 : r.num ≠ 0) : Sz (q / r) (n + m) := by
  rw [← over_eq r0]
  refine Sz.div (Int.mul_ne_zero (den_ne q) r0) ?_ ?_
  · rw [Int.natAbs_mul, Int.natAbs_natCast]
    exact pow_add' h.num h'.den
  · rw [Int.natAbs_mul, Int.natAbs_natCast]
    exact pow_add' h.den h'.num
/-- a book of small parts, an estimate and a high that are not large -/
structure BkJ (z : Bk) : Prop where
  ok : BkOk z
  s1 : Sz z.share 9
  s2 : Sz z.factor 9
  s3 : Sz z.margin 60
  s4 : ∀ f, z.floor = some f → Sz f 60
  s5 : ∀ f, z.roof = some f → Sz f 60
theorem rst_sz {z : Bk} (h : BkJ z) {m : Nat} (hm : m ≤ 12) : Sz (rstZ z m) 150 := (qpow_sz (N := 12) (((Sz.int (n := 2) (by decide) (by decide)).sub h.s1).mono (show _ ≤ 12 by decide)) hm).mono (by decide)
theorem lnA_sz {z : Bk} {e : Rat} (h : BkJ z) (ze : Sz e 100) {m : Nat} (hm : m ≤ 12) : Sz (lnA z e m) 340 := (((h.s2.mul (rst_sz h hm)).mul ze).add h.s3).mono (by decide)
theorem lnC_sz {z : Bk} (h : BkJ z) {m : Nat} (hm : m ≤ 12) : Sz (lnC z m) 170 := (h.s2.mul ((Sz.int (n := 2) (by decide) (by decide)).sub (rst_sz h hm))).mono (by decide)
theorem mkQ_sz {z : Bk} {k : Nat} (hk : k ≤ 1100) : Sz (mkQ z k) 1110 := Sz.int (Nat.lt_of_le_of_lt (Mt.mk_le z.doubled k) (Nat.pow_lt_pow_right (by decide) (by omega))) (by decide)
theorem lowO_sz {z : Bk} (h : BkJ z) {a c : Rat} (za : Sz a 340) (zc : Sz c 170) {k : Nat} (hk : k ≤ 1100) {x : Rat} (e : some x = (if c * mkQ z k < 1 then some (lowB z.floor (mkQ z k) (a * mkQ z k / (1 - c * mkQ z k))) else none)) : Sz x 2740 := by
  have zp := mkQ_sz (z := z) hk
  by_cases hc : c * mkQ z k < 1
  · rw [if_pos hc] at e
    cases e
    have nz : (((1 : Int) : Rat) - c * mkQ z k).num ≠ 0 := by
      have : 0 < (((1 : Int) : Rat) - c * mkQ z k).num := Mt.num_pos0 (by rw [one_c]; grind)
      omega
    have zq : Sz (a * mkQ z k / (((1 : Int) : Rat) - c * mkQ z k)) 2740 := (Sz.quot (za.mul zp) ((Sz.int (i := 1) (n := 2) (by decide) (by decide)).sub (zc.mul zp)) nz).mono (by decide)
    unfold lowB
    cases ef : z.floor with
    | none => exact zq
    | some f => exact sz_rmax zq (((h.s4 f ef).mul zp).mono (by decide))
  · rw [if_neg hc] at e
    cases e
theorem bd_sz {z : Bk} (h : BkJ z) {a c : Rat} (za : Sz a 340) (zc : Sz c 170) {k : Nat} (hk : k ≤ 1100) {b : Rat} (e : bdO z.floor z.roof a c (mkQ z k) = some b) : Sz b 2740 := by
  have lo := fun x => lowO_sz h za zc hk (x := x)
  have zp := mkQ_sz (z := z) hk
  unfold bdO at e
  generalize (if c * mkQ z k < 1 then some (lowB z.floor (mkQ z k) (a * mkQ z k / (1 - c * mkQ z k))) else none) = o at lo e
  unfold highB at e
  cases er : z.roof with
  | none =>
    rw [er] at e
    exact lo b e.symm
  | some r =>
    rw [er] at e
    have zr : Sz (r * mkQ z k) 2740 := ((h.s5 r er).mul zp).mono (by decide)
    cases o with
    | none => cases e; exact zr
    | some x => cases e; exact sz_rmin (lo x rfl) zr
theorem bdz_sz {z : Bk} (h : BkJ z) {e : Rat} (ze : Sz e 100) {m k : Nat} (hm : m ≤ 12) (hk : k ≤ 1100) {b : Rat} (eb : bdz z e m k = some b) : Sz b 2740 := bd_sz h (lnA_sz h ze hm) (lnC_sz h hm) hk eb
section
variable {P : Program} {w : World} {K : PySem.W.Frag} {mg : Str → Option Value} {base : Heap}
def spChkS (K : PySem.W.Frag) : Sp := fun vs H Q _ => ∃ z v t, ∃ ws : List Str, vs = [v, .ref t] ∧ BookV K z v H ∧ H t = some (.tup (ws.map V.str)) ∧ z.word ∈ ws ∧ Q .non H
theorem f_check_sample (T : Tm K mg) : GFn P w K mg base 3 "check_sample" (spChkS K) := by
  obtain ⟨fd, F⟩ := T.d_check_sample
  refine GFn.mk F T.g_check_sample (def_ok F sc_check_sample (fun vs H Q E h => by obtain ⟨z, v, t, ws, rfl, _⟩ := h; rfl) ?_) (F.bindsN fun _ _ _ _ _ _ us hl => match us, hl with | [_, _], _ => rfl)
  intro X eP ew eK em eb eN es hf nd H vs Q E B h
  subst eP ew eK em eb
  have n0 : Sl X 0 "book" := slot_of eN es hf nd rfl (by first | exact Or.inl rfl | exact Or.inr rfl) (by decide) (by decide)
  have n1 : Sl X 1 "words" := slot_of eN es hf nd rfl (by first | exact Or.inl rfl | exact Or.inr rfl) (by decide) (by decide)
  have g_NotFor : Gn X "NotFor" := gn_of es rfl (by decide)
  have m_NotFor := T.g_NotFor
  obtain ⟨z, v, t, ws, rfl, hb, ht, hw, k⟩ := h
  show WB X [_] _ [some (v), some (.ref t)] H
  refine wb_one (ws_if (wt_cmp ?_ ?hm))
  case hm => rfl
  repeat walk_at "w"
  refine o_notInT (.of ht) rfl ?_ ?_
  · rw [List.all_map]
    exact List.all_eq_true.mpr fun _ _ => rfl
  rw [inV_str, decide_eq_true hw]
  repeat walk_at "w"
  exact k
def spSmo (K : PySem.W.Frag) : Sp := fun vs H Q _ => ∃ z v, vs = [v] ∧ BookV K z v H ∧ z.latest = none ∧ Q .non H
theorem f_check_smoothed (T : Tm K mg) : GFn P w K mg base 3 "check_smoothed" (spSmo K) := by
  obtain ⟨fd, F⟩ := T.d_check_smoothed
  refine GFn.mk F T.g_check_smoothed (def_ok F sc_check_smoothed (fun vs H Q E h => by obtain ⟨z, v, rfl, _⟩ := h; rfl) ?_) (F.bindsN fun _ _ _ _ _ _ us hl => match us, hl with | [_], _ => rfl)
  intro X eP ew eK em eb eN es hf nd H vs Q E B h
  subst eP ew eK em eb
  have n0 : Sl X 0 "book" := slot_of eN es hf nd rfl (by first | exact Or.inl rfl | exact Or.inr rfl) (by decide) (by decide)
  have g_NotFor : Gn X "NotFor" := gn_of es rfl (by decide)
  have m_NotFor := T.g_NotFor
  obtain ⟨z, v, rfl, hb, el, k⟩ := h
  show WB X [_] _ [some (v)] H
  repeat walk_at "w"
  rw [el, decide_eq_true (show latV none = V.non from rfl)]
  repeat walk_at "w"
  exact k
def spLine (K : PySem.W.Frag) : Sp := fun vs H Q _ => ∃ z e v ev, ∃ m : Nat, vs = [v, ev, .int m] ∧ BookV K z v H ∧ BkJ z ∧ TimeV (CT K) e ev H ∧ Sz e 100 ∧ m ≤ 12 ∧ ∀ t y1 y2 H', Ex H H' → H' t = some (.tup [y1, y2]) → TimeV (CT K) (lnA z e m) y1 H' → TimeV (CT K) (lnC z m) y2 H' → Q (.ref t) H'
theorem f_wait_line (T : Tm K mg) : GFn P w K mg base 8 "wait_line" (spLine K) := by
  obtain ⟨fd, F⟩ := T.d_wait_line
  refine GFn.mk F T.g_wait_line (def_ok F sc_wait_line (fun vs H Q E h => by obtain ⟨z, e, v, ev, m, rfl, _⟩ := h; rfl) ?_) (F.bindsN fun _ _ _ _ _ _ us hl => match us, hl with | [_, _, _], _ => rfl)
  intro X eP ew eK em eb eN es hf nd H vs Q E B h
  subst eP ew eK em eb
  have n0 : Sl X 0 "book" := slot_of eN es hf nd rfl (by first | exact Or.inl rfl | exact Or.inr rfl) (by decide) (by decide)
  have n1 : Sl X 1 "start" := slot_of eN es hf nd rfl (by first | exact Or.inl rfl | exact Or.inr rfl) (by decide) (by decide)
  have n2 : Sl X 2 "many" := slot_of eN es hf nd rfl (by first | exact Or.inl rfl | exact Or.inr rfl) (by decide) (by decide)
  have n3 : Sl X 3 "rest" := slot_of eN es hf nd rfl (by first | exact Or.inl rfl | exact Or.inr rfl) (by decide) (by decide)
  obtain ⟨z, e, v, ev, m, rfl, hb, bj, he, ze, hm, k⟩ := h
  show WB X [_, _] _ [some (v), some (ev), some (.int m), none] H
  with_reducible refine' wb_cons ?_
  with_reducible refine' ws_to (fun σ' H' => ∃ r, σ' = [some v, some ev, some (.int m), some r] ∧ Ex H H' ∧ TimeV (CT X.K) (rstZ z m) r H') ?_ ?_
  · repeat walk_at "w"
    refine we_methT (pl := _) B T T.e_Time_power (f_power T) (by decide) no_power ?_
    have zs4 : Sz z.share 4000 := bj.s1.mono (by decide)
    have zz1 := z1s
    repeat walk_at "w"
    intro sv hsv
    repeat walk_at "w"
    have zr : Sz (((1 : Int) : Rat) - z.share) 12 := ((Sz.int (n := 2) (by decide) (by decide)).sub bj.s1).mono (by decide)
    refine ⟨_, _, m, rfl, by assumption, by omega, powm (m1_sz zr.num (by decide)) hm (by decide), powm (m1_sz (by rw [Int.natAbs_natCast]; exact zr.den) (by decide)) hm (by decide), fun y2 H8 x8 hy2 => ?_⟩
    exact ⟨y2, rfl, by walk_at "x", hy2⟩
  rintro σ' H1 ⟨r, rfl, x1, hr⟩
  have hb1 := hb.mono x1
  have he1 := TimeV.mono x1 he
  have zf : Sz z.factor 4000 := bj.s2.mono (by decide)
  have zr : Sz (rstZ z m) 4000 := (rst_sz bj hm).mono (by decide)
  have zfr0 := bj.s2.mul (rst_sz bj hm)
  have zfr : Sz (z.factor * rstZ z m) 4000 := zfr0.mono (by decide)
  have ze4 : Sz e 4000 := ze.mono (by decide)
  have zfre : Sz (z.factor * rstZ z m * e) 4000 := (zfr0.mul ze).mono (by decide)
  have zma : Sz z.margin 4000 := bj.s3.mono (by decide)
  have zz1 := z1s
  have zor : Sz (((1 : Int) : Rat) - rstZ z m) 4000 := ((Sz.int (n := 2) (by decide) (by decide)).sub (rst_sz bj hm)).mono (by decide)
  show WB X _ _ _ _
  repeat walk_at "w"
  intro fv hfv
  repeat walk_at "w"
  intro gv hgv
  repeat walk_at "w"
  intro fv2 hfv2
  repeat walk_at "w"
  exact k _ _ _ _ (x1.trans (by walk_at "x")) (by assumption) (by unfold lnA; walk_at "tv") (by unfold lnC; walk_at "tv")
def spBound (K : PySem.W.Frag) : Sp := fun vs H Q _ => ∃ z a c v t y1 y2, ∃ k : Nat, vs = [v, .ref t, .int (Mt.mk z.doubled k)] ∧ BookV K z v H ∧ BkJ z ∧ H t = some (.tup [y1, y2]) ∧ TimeV (CT K) a y1 H ∧ TimeV (CT K) c y2 H ∧ Sz a 340 ∧ Sz c 170 ∧ k ≤ 1100 ∧ ∀ o u H', Ex H H' → o = bdO z.floor z.roof a c (mkQ z k) → OptT K o u H' → Q u H'
theorem f_bound_of (T : Tm K mg) : GFn P w K mg base 9 "bound_of" (spBound K) := by
  obtain ⟨fd, F⟩ := T.d_bound_of
  refine GFn.mk F T.g_bound_of (def_ok F sc_bound_of (fun vs H Q E h => by obtain ⟨z, a, c, v, t, y1, y2, k, rfl, _⟩ := h; rfl) ?_) (F.bindsN fun _ _ _ _ _ _ us hl => match us, hl with | [_, _, _], _ => rfl)
  intro X eP ew eK em eb eN es hf nd H vs Q E B h
  subst eP ew eK em eb
  have n0 : Sl X 0 "book" := slot_of eN es hf nd rfl (by first | exact Or.inl rfl | exact Or.inr rfl) (by decide) (by decide)
  have n1 : Sl X 1 "line" := slot_of eN es hf nd rfl (by first | exact Or.inl rfl | exact Or.inr rfl) (by decide) (by decide)
  have n2 : Sl X 2 "parts" := slot_of eN es hf nd rfl (by first | exact Or.inl rfl | exact Or.inr rfl) (by decide) (by decide)
  have n3 : Sl X 3 "shift" := slot_of eN es hf nd rfl (by first | exact Or.inl rfl | exact Or.inr rfl) (by decide) (by decide)
  have n4 : Sl X 4 "slope" := slot_of eN es hf nd rfl (by first | exact Or.inl rfl | exact Or.inr rfl) (by decide) (by decide)
  have n5 : Sl X 5 "found" := slot_of eN es hf nd rfl (by first | exact Or.inl rfl | exact Or.inr rfl) (by decide) (by decide)
  have g_greater : Gn X "greater" := gn_of es rfl (by decide)
  have F_greater := f_greater (P := X.prog) (w := X.w) (base := X.base) T
  have g_lesser : Gn X "lesser" := gn_of es rfl (by decide)
  have F_lesser := f_lesser (P := X.prog) (w := X.w) (base := X.base) T
  obtain ⟨z, a, c, v, t, y1, y2, kk, rfl, hb, bj, ht, h1, h2, za, zc, hk, k⟩ := h
  show WB X [_, _, _, _, _] _ [some (v), some (.ref t), some (.int (Mt.mk z.doubled kk)), none, none, none] H
  have zp : Sz (Mt.mk z.doubled kk : Rat) 1110 := mkQ_sz (z := z) hk
  have zcp := zc.mul zp
  have zap := za.mul zp
  have za4 : Sz a 4000 := za.mono (by decide)
  have zc4 : Sz c 4000 := zc.mono (by decide)
  have zp4 : Sz (Mt.mk z.doubled kk : Rat) 4000 := zp.mono (by decide)
  have zcp4 : Sz (c * (Mt.mk z.doubled kk : Rat)) 4000 := zcp.mono (by decide)
  have zap4 : Sz (a * (Mt.mk z.doubled kk : Rat)) 4000 := zap.mono (by decide)
  have zz1 := z1s
  have zoc0 := (Sz.int (i := 1) (n := 2) (by decide) (by decide)).sub zcp
  have zoc : Sz (((1 : Int) : Rat) - c * (Mt.mk z.doubled kk : Rat)) 4000 := zoc0.mono (by decide)
  with_reducible refine' wb_cons ?_
  with_reducible refine' ws_to (fun σ' H' => σ' = [some v, some (.ref t), some (.int (Mt.mk z.doubled kk)), some y1, some y2, none] ∧ H' = H) ?_ ?_
  · refine ws_unpT B n3 n4 ?_
    repeat walk_at "w"
    exact ⟨t, y1, y2, rfl, .of ht, rfl, rfl⟩
  rintro σ' H1 ⟨rfl, rfl⟩
  show WB X _ _ _ _
  refine wb_cons (ws_set n5 (we_none ?_) (by rfl))
  show WB X _ _ _ _
  with_reducible refine' wb_cons ?_
  with_reducible refine' ws_to (fun σ' H' => ∃ o u, σ' = [some v, some (.ref t), some (.int (Mt.mk z.doubled kk)), some y1, some y2, some u] ∧ Ex H1 H' ∧ OptT X.K o u H' ∧ o = (if c * mkQ z kk < 1 then some (lowB z.floor (mkQ z kk) (a * mkQ z kk / (1 - c * mkQ z kk))) else none)) ?_ ?_
  · refine ws_if (wt_cmp ?_ ?hm)
    case hm => rfl
    repeat walk_at "w"
    rename_i cv Ha xa hcv H3 xb
    have x3 := xa.trans xb
    refine ite_dec (fun hc => ?_) (fun hc => ?_)
    · have hc' : c * mkQ z kk < 1 := hc
      have hb3 := hb.mono x3
      have h13 := TimeV.mono x3 h1
      have h23 := TimeV.mono x3 h2
      rw [if_pos hc']
      have nz : (((1 : Int) : Rat) - c * (Mt.mk z.doubled kk : Rat)).num ≠ 0 := by
        have : 0 < (((1 : Int) : Rat) - c * (Mt.mk z.doubled kk : Rat)).num := Mt.num_pos0 (by rw [one_c]; grind)
        omega
      have zq0 : Sz (a * (Mt.mk z.doubled kk : Rat) / (((1 : Int) : Rat) - c * (Mt.mk z.doubled kk : Rat))) 2740 := (Sz.quot zap zoc0 nz).mono (by decide)
      have zq : Sz (a * (Mt.mk z.doubled kk : Rat) / (((1 : Int) : Rat) - c * (Mt.mk z.doubled kk : Rat))) 4000 := zq0.mono (by decide)
      with_reducible refine' wb_cons ?_
      with_reducible refine' ws_to (fun σ' H' => ∃ u, σ' = [some v, some (.ref t), some (.int (Mt.mk z.doubled kk)), some y1, some y2, some u] ∧ Ex H3 H' ∧ TimeV (CT X.K) (a * (Mt.mk z.doubled kk : Rat) / (((1 : Int) : Rat) - c * (Mt.mk z.doubled kk : Rat))) u H') ?_ ?_
      · repeat walk_at "w"
        refine we_methT (pl := _) B T T.e_Time_over (f_over T) (by decide) no_over ?_
        repeat walk_at "w"
        rename_i av Hb xb2 hav bv Hc xc2 hbv dv Hd xd hdv
        refine ⟨_, _, av, dv, rfl, TimeV.mono (xc2.trans xd) hav, .inl hdv, zap4, zoc, .inl ⟨nz, fun y H5 x5 hy => ?_⟩⟩
        have e : ov (a * (Mt.mk z.doubled kk : Rat)) (((1 : Int) : Rat) - c * (Mt.mk z.doubled kk : Rat)) = _ := over_eq nz
        rw [e] at hy
        exact ⟨y, rfl, ((xb2.trans xc2).trans xd).trans x5, hy⟩
      rintro σ' H4 ⟨u, rfl, x4, hu⟩
      have hb4 := hb3.mono x4
      show WB X _ _ _ _
      repeat walk_at "w"
      intro fv hfv
      repeat walk_at "w"
      cases ef : z.floor with
      | none =>
        rw [ef] at hfv
        cases hfv
        rw [decide_eq_true (rfl : V.non = V.non)]
        repeat walk_at "w"
        exact ⟨some (a * (Mt.mk z.doubled kk : Rat) / (((1 : Int) : Rat) - c * (Mt.mk z.doubled kk : Rat))), u, rfl, x3.trans x4, hu, rfl⟩
      | some f =>
        rw [ef] at hfv
        have hfv : TimeV (CT X.K) f fv H4 := hfv
        rw [decide_eq_false (Tim.nn (.inl hfv : Tim X.K f fv H4))]
        have zff : Sz f 60 := bj.s4 f ef
        have zf4 : Sz f 4000 := zff.mono (by decide)
        have zfp : Sz (f * (Mt.mk z.doubled kk : Rat)) 4000 := (zff.mul zp).mono (by decide)
        repeat walk_at "w"
        intro fv2 hfv2
        rw [ef] at hfv2
        have hfv2 : TimeV (CT X.K) f fv2 H4 := hfv2
        repeat walk_at "w"
        rename_i pv Hb xb2 hpv
        refine ⟨_, _, u, pv, rfl, .inl (TimeV.mono xb2 hu), .inl hpv, zq, zfp, fun y Hc xc hy => ?_⟩
        exact ⟨some (rmax (a * (Mt.mk z.doubled kk : Rat) / (((1 : Int) : Rat) - c * (Mt.mk z.doubled kk : Rat))) (f * (Mt.mk z.doubled kk : Rat))), y, rfl, ((x3.trans x4).trans xb2).trans xc, hy, rfl⟩
    · repeat walk_at "w"
      exact ⟨none, _, rfl, x3, rfl, (if_neg hc).symm⟩
  rintro σ' H2 ⟨o, u, rfl, x2, ho, eo⟩
  have hb2 := hb.mono x2
  show WB X _ _ _ _
  repeat walk_at "w"
  intro rv hrv
  repeat walk_at "w"
  have kb : ∀ u H', Ex H1 H' → OptT X.K (highB z.roof (mkQ z kk) o) u H' → Q u H' := fun u H' x h => k _ u H' x (by rw [eo]; rfl) h
  cases er : z.roof with
  | none =>
    rw [er] at hrv kb
    cases hrv
    rw [decide_eq_true (rfl : V.non = V.non)]
    repeat walk_at "w"
    exact kb _ _ x2 ho
  | some r =>
    rw [er] at hrv kb
    have hrv : TimeV (CT X.K) r rv H2 := hrv
    have nn : rv ≠ .non := Tim.nn (.inl hrv : Tim X.K r rv H2)
    rw [decide_eq_false nn]
    have zrr : Sz r 60 := bj.s5 r er
    have zr4 : Sz r 4000 := zrr.mono (by decide)
    have zrp : Sz (r * (Mt.mk z.doubled kk : Rat)) 4000 := (zrr.mul zp).mono (by decide)
    repeat walk_at "w"
    cases o with
    | none =>
      cases ho
      rw [decide_eq_true (rfl : V.non = V.non)]
      repeat walk_at "w"
      intro rv2 hrv2
      rw [er] at hrv2
      have hrv2 : TimeV (CT X.K) r rv2 H2 := hrv2
      repeat walk_at "w"
      rename_i pv Hb xb2 hpv
      exact kb pv Hb (x2.trans xb2) hpv
    | some x =>
      have ho : TimeV (CT X.K) x u H2 := ho
      rw [decide_eq_false (Tim.nn (.inl ho : Tim X.K x u H2))]
      repeat walk_at "w"
      intro rv2 hrv2
      rw [er] at hrv2
      have hrv2 : TimeV (CT X.K) r rv2 H2 := hrv2
      repeat walk_at "w"
      rename_i pv Hb xb2 hpv
      exact ⟨_, _, u, pv, rfl, .inl (TimeV.mono xb2 ho), .inl hpv, (lowO_sz bj za zc hk eo).mono (by decide), zrp, fun y Hc xc hy => kb y Hc ((x2.trans xb2).trans xc) hy⟩
end

/-! ### rows of times (stands in law13a too) -/
def Tms (C : Addr) (qs : List Rat) (vs : List V) (H : Hp) : Prop := vs.length = qs.length ∧ ∀ (j : Nat) (v : V) (q : Rat), vs[j]? = some v → qs[j]? = some q → TimeV C q v H
section
variable {C : Addr} {qs rs : List Rat} {vs us : List V} {H H' : Hp} {v : V} {q : Rat}
theorem Tms.mono (x : Ex H H') (h : Tms C qs vs H) : Tms C qs vs H' := ⟨h.1, fun j v q e e2 => (h.2 j v q e e2).mono x⟩
theorem TimeV.upL {l : Addr} {xs ys : List V} (hl : H l = some (.lst xs)) (h : TimeV C q v H) : TimeV C q v (upd H l (.lst ys)) := by
  obtain ⟨p, dx, rfl, hp⟩ := h
  exact ⟨p, dx, rfl, (upd_ne (fun e => by subst e; rw [hl] at hp; cases hp)).trans hp⟩
theorem OptT.upL {K : PySem.W.Frag} {o : Option Rat} {l : Addr} {xs ys : List V} (h : OptT K o v H) (hl : H l = some (.lst xs)) : OptT K o v (upd H l (.lst ys)) := by
  cases o with
  | none => exact h
  | some q => exact TimeV.upL hl h
theorem Tms.upL {l : Addr} {xs ys : List V} (h : Tms C qs vs H) (hl : H l = some (.lst xs)) : Tms C qs vs (upd H l (.lst ys)) := ⟨h.1, fun j v q e e2 => TimeV.upL hl (h.2 j v q e e2)⟩
theorem Tms.nil : Tms C [] [] H := ⟨rfl, fun j v q e => nomatch e⟩
theorem Tms.one (h : TimeV C q v H) : Tms C [q] [v] H := ⟨rfl, fun j u r e e2 => by
  cases j with
  | zero => cases e; cases e2; exact h
  | succ j => cases e⟩
theorem Tms.app (h : Tms C qs vs H) (h' : Tms C rs us H) : Tms C (qs ++ rs) (vs ++ us) H := by
  refine ⟨by rw [List.length_append, List.length_append, h.1, h'.1], fun j v q e e2 => ?_⟩
  by_cases c : j < vs.length
  · rw [List.getElem?_append_left c] at e
    rw [List.getElem?_append_left (by rw [← h.1]; exact c)] at e2
    exact h.2 j v q e e2
  · rw [List.getElem?_append_right (by omega)] at e
    rw [List.getElem?_append_right (by rw [← h.1]; omega), ← h.1] at e2
    exact h'.2 _ v q e e2
theorem Tms.ns (h : Tms C qs vs H) : ¬ Src (.lst vs) := by
  rintro ⟨l, i, b, r, e, _⟩
  cases e
  have l4 := h.1
  match qs, l4, h with
  | [q0, q1, q2, q3], _, h =>
    obtain ⟨p, dx, e, _⟩ := h.2 1 _ _ rfl rfl
    cases e
theorem Tms.drop (h : Tms C qs vs H) (n : Nat) : Tms C (qs.drop n) (vs.drop n) H := ⟨by rw [List.length_drop, List.length_drop, h.1], fun j v q e e2 => by
  rw [List.getElem?_drop] at e e2
  exact h.2 _ v q e e2⟩
theorem Tms.get (h : Tms C qs vs H) {j : Nat} (e : vs[j]? = some v) : ∃ q, qs[j]? = some q ∧ TimeV C q v H := by
  have hj : j < qs.length := by
    have := (List.getElem?_eq_some_iff.mp e).1
    rw [h.1] at this
    exact this
  exact ⟨qs[j], List.getElem?_eq_getElem hj, h.2 j v _ e (List.getElem?_eq_getElem hj)⟩
theorem tms_at {K : PySem.W.Frag} {l : Addr} {j : Nat} {Q : VK} (hl : H l = some (.lst vs)) (h : Tms C qs vs H) (hj : j < qs.length) (k : ∀ v q, vs[j]? = some v → qs[j]? = some q → TimeV C q v H → Q v H) : rIx K (.ref l) (.int (j : Nat)) H Q := by
  have hv : j < vs.length := by rw [h.1]; exact hj
  have e := List.getElem?_eq_getElem hv
  have e2 := List.getElem?_eq_getElem hj
  exact at_l hl (atI_nat e) (k _ _ e e2 (h.2 j _ _ e e2))
end
theorem cutV_drop {xs : List V} {n : Nat} (h : n ≤ xs.length) : cutV xs (some (n : Int)) none = xs.drop n := by
  unfold cutV
  rw [HT.sIx_nat, HT.sIx_none]
  rw [Nat.min_eq_left h, List.take_of_length_le]
  rw [List.length_drop]
  omega

/-! ### merged, ordered -/
theorem ln_ok {n : Nat} (h : n ≤ 1200) : n < sizeLine := Nat.lt_of_le_of_lt h (by decide)
section
variable {P : Program} {w : World} {K : PySem.W.Frag} {mg : Str → Option Value} {base : Heap}
def AllZ (qs : List Rat) : Prop := ∀ q ∈ qs, Sz q 4000
def spMerged (K : PySem.W.Frag) : Sp := fun vs H Q _ => ∃ a b xs ys qs rs, vs = [.ref a, .ref b] ∧ H a = some (.lst xs) ∧ H b = some (.lst ys) ∧ Tms (CT K) qs xs H ∧ Tms (CT K) rs ys H ∧ AllZ qs ∧ AllZ rs ∧ qs.length + rs.length ≤ 1100 ∧ ∀ l zs H', Ex H H' → H l = none → H' l = some (.lst zs) → Tms (CT K) (mrg qs rs) zs H' → Q (.ref l) H'
theorem f_merged (T : Tm K mg) : GFn P w K mg base 6 "merged" (spMerged K) := by
  obtain ⟨fd, F⟩ := T.d_merged
  refine GFn.mk F T.g_merged (def_ok F sc_merged (fun vs H Q E h => by obtain ⟨a, b, xs, ys, qs, rs, rfl, _⟩ := h; rfl) ?_) (F.bindsN fun _ _ _ _ _ _ us hl => match us, hl with | [_, _], _ => rfl)
  intro X eP ew eK em eb eN es hf nd H vs Q E B h
  subst eP ew eK em eb
  have n0 : Sl X 0 "some" := slot_of eN es hf nd rfl (by first | exact Or.inl rfl | exact Or.inr rfl) (by decide) (by decide)
  have n1 : Sl X 1 "others" := slot_of eN es hf nd rfl (by first | exact Or.inl rfl | exact Or.inr rfl) (by decide) (by decide)
  have n2 : Sl X 2 "row" := slot_of eN es hf nd rfl (by first | exact Or.inl rfl | exact Or.inr rfl) (by decide) (by decide)
  have n3 : Sl X 3 "at" := slot_of eN es hf nd rfl (by first | exact Or.inl rfl | exact Or.inr rfl) (by decide) (by decide)
  have n4 : Sl X 4 "moment" := slot_of eN es hf nd rfl (by first | exact Or.inl rfl | exact Or.inr rfl) (by decide) (by decide)
  have z_len : Bn X "len" := bn_of es rfl T.z_len
  obtain ⟨a, b, xs, ys, qs, rs, rfl, ha, hb, hq, hr, zq, zr, len, k⟩ := h
  show WB X [_, _, _, _] _ [some (.ref a), some (.ref b), none, none, none] H
  with_reducible refine' wb_cons ?_
  with_reducible refine' ws_to (fun σ' H' => ∃ r, σ' = [some (.ref a), some (.ref b), some (.ref r), none, none] ∧ Ex H H' ∧ H r = none ∧ H' r = some (.lst [])) ?_ ?_
  · repeat walk_at "w"
    refine ⟨Nat.zero_le _, fun l H1 nl x1 e => ⟨l, rfl, x1, nl, by rw [e]; exact upd_same⟩⟩
  rintro σ' H1 ⟨r, rfl, x1, nr, hr1⟩
  show WB X _ _ _ _
  with_reducible refine' wb_cons ?_
  with_reducible refine' ws_to (fun σ' H' => σ' = [some (.ref a), some (.ref b), some (.ref r), some (.int 0), none] ∧ H' = H1) ?_ ?_
  · repeat walk_at "w"
    exact ⟨rfl, rfl⟩
  rintro σ' _ ⟨rfl, rfl⟩
  show WB X _ _ _ _
  have sa : ∀ {G : Hp}, Ex H G → G a = some (.lst xs) := fun x => x.keep _ _ ha hq.ns
  have sb : ∀ {G : Hp}, Ex H G → G b = some (.lst ys) := fun x => x.keep _ _ hb hr.ns
  with_reducible refine' wb_cons ?_
  with_reducible refine' ws_to (fun σ' H' => ∃ c zs t out, σ' = [some (.ref a), some (.ref b), some (.ref r), some (.int (t : Nat)), c] ∧ Ex H H' ∧ H' r = some (.lst zs) ∧ t ≤ rs.length ∧ Tms (CT X.K) out zs H' ∧ mrg qs rs = out ++ mrg [] (rs.drop t)) ?_ ?_
  · refine ws_for_listE B n4 ?_
    repeat walk_at "w"
    refine ⟨a, xs, rfl, fun j σ' H' => ∃ c zs t out, σ' = [some (.ref a), some (.ref b), some (.ref r), some (.int (t : Nat)), c] ∧ Ex H H' ∧ H' r = some (.lst zs) ∧ t ≤ rs.length ∧ out.length = j + t ∧ Tms (CT X.K) out zs H' ∧ mrg qs rs = out ++ mrg (qs.drop j) (rs.drop t), ⟨none, [], 0, [], rfl, x1, hr1, Nat.zero_le _, rfl, .nil, rfl⟩, fun j σ' H' _ ⟨_, _, _, _, _, x, _⟩ => .of (sa x), ?_, ?_⟩
    · rintro j v σ' H' hv ⟨c, zs, t, out, rfl, x, hz, lt, lo, ho, em⟩
      obtain ⟨q, hqj, hvq⟩ := (hq.mono x).get hv
      have zq1 := zq q (List.mem_of_getElem? hqj)
      have hj : j < qs.length := (List.getElem?_eq_some_iff.mp hqj).1
      have ed : qs.drop j = q :: qs.drop (j + 1) := by
        rw [List.drop_eq_getElem_cons hj]
        congr 1
        have := List.getElem?_eq_getElem hj
        rw [hqj] at this
        exact (Option.some.inj this).symm
      rw [ed] at em
      show WB X _ _ [some (.ref a), some (.ref b), some (.ref r), some (.int (t : Nat)), some v] H'
      with_reducible refine' wb_cons ?_
      with_reducible refine' ws_to (fun σ' G => ∃ zs t out, σ' = [some (.ref a), some (.ref b), some (.ref r), some (.int (t : Nat)), some v] ∧ Ex H G ∧ TimeV (CT X.K) q v G ∧ G r = some (.lst zs) ∧ t ≤ rs.length ∧ out.length = j + t ∧ Tms (CT X.K) out zs G ∧ mrg qs rs = (out ++ [q]) ++ mrg (qs.drop (j + 1)) (rs.drop t)) ?_ ?_
      · refine ws_while_by (fun σ' G => ∃ zs t out, σ' = [some (.ref a), some (.ref b), some (.ref r), some (.int (t : Nat)), some v] ∧ Ex H G ∧ TimeV (CT X.K) q v G ∧ G r = some (.lst zs) ∧ t ≤ rs.length ∧ out.length = j + t ∧ Tms (CT X.K) out zs G ∧ mrg qs rs = out ++ mrg (q :: qs.drop (j + 1)) (rs.drop t)) (fun σ _ => match σ with | [_, _, _, some (.int m), _] => (rs.length - m).toNat | _ => 0) B ⟨zs, t, out, rfl, x, hvq, hz, lt, lo, ho, em⟩ ?_
        clear lt lo ho em x hvq hz
        rintro σ' G ⟨zs, t, out, rfl, xg, hvg, hzg, lt, lo, ho, em⟩
        have hbg := sb xg
        have hrg := hr.mono xg
        repeat walk_at "w"
        rw [hr.1]
        refine ite_dec (fun hlt => ?_) (fun hlt => ?_)
        · have htr : t < rs.length := by omega
          have ed2 : ∀ p, rs[t]? = some p → rs.drop t = p :: rs.drop (t + 1) := fun p hp => by
            rw [List.drop_eq_getElem_cons htr]
            congr 1
            have := List.getElem?_eq_getElem htr
            rw [hp] at this
            exact (Option.some.inj this).symm
          repeat walk_at "w"
          refine tms_at hbg hrg htr fun u p hu hp hup => ?_
          have zp1 := zr p (List.mem_of_getElem? hp)
          rw [ed2 p hp] at em
          repeat walk_at "w"
          rename_i G2 xg2
          have hz2 := xg2.keep _ _ hzg ho.ns
          have hb2 := xg2.keep _ _ hbg hrg.ns
          refine ite_dec (fun hc => ?_) (fun hc => ?_)
          · show WB X _ _ _ _
            rw [mrg_lt hc] at em
            refine wb_cons (ws_expr (we_append ?_))
            repeat walk_at "w"
            refine ⟨r, _, rfl, hz2, ?_⟩
            repeat walk_at "w"
            refine tms_at hb2 (hrg.mono xg2) htr fun u2 p2 hu2 hp2 hup2 => ?_
            rw [hp] at hp2
            cases hp2
            refine ⟨_, hz2, ln_ok (by rw [ho.1]; omega), ?_⟩
            show WB X _ _ [some (.ref a), some (.ref b), some (.ref r), some (.int (t : Nat)), some v] (upd G2 r (.lst (zs ++ [u2])))
            repeat walk_at "w"
            have ei : ((t : Nat) : Int) + 1 = ((t + 1 : Nat) : Int) := rfl
            rw [ei]
            refine ⟨⟨zs ++ [u2], t + 1, out ++ [p], rfl, (xg.trans xg2).put nr, TimeV.upL hz2 (TimeV.mono xg2 hvg), upd_same, htr, by rw [List.length_append, lo]; show j + t + 1 = _; omega, Tms.upL (Tms.app (ho.mono xg2) (.one hup2)) hz2, by rw [em, List.append_assoc]; rfl⟩, ?_⟩
            show ((rs.length : Int) - ((t + 1 : Nat) : Int)).toNat < ((rs.length : Int) - ((t : Nat) : Int)).toNat
            omega
          · rw [mrg_ge hc, ← ed2 p hp] at em
            exact ⟨zs, t, out, rfl, xg.trans xg2, TimeV.mono xg2 hvg, hz2, lt, lo, ho.mono xg2, by rw [em, List.append_assoc]; rfl⟩
        · obtain rfl : t = rs.length := by omega
          rw [List.drop_eq_nil_of_le (Nat.le_refl _), mrg_nilR] at em
          exact ⟨zs, rs.length, out, rfl, xg, hvg, hzg, lt, lo, ho, by rw [em, List.drop_eq_nil_of_le (Nat.le_refl _), mrg_nilR, List.append_assoc]; rfl⟩
      clear lt lo ho em x hvq hz
      rintro σ' G ⟨zs, t, out, rfl, xg, hvg, hzg, lt, lo, ho, em⟩
      show WB X _ _ _ _
      refine wb_one (ws_expr (we_append ?_))
      repeat walk_at "w"
      refine ⟨r, _, rfl, hzg, ?_⟩
      repeat walk_at "w"
      refine ⟨_, hzg, ln_ok (by rw [ho.1]; omega), _, _, t, out ++ [q], rfl, xg.put nr, upd_same, lt, by rw [List.length_append, lo]; show j + t + 1 = _; omega, ?_, em⟩
      exact Tms.upL (Tms.app ho (.one hvg)) hzg
    · rintro σ' H' ⟨c, zs, t, out, rfl, x, hz, lt, lo, ho, em⟩
      rw [hq.1, List.drop_eq_nil_of_le (Nat.le_refl _)] at em
      exact ⟨c, zs, t, out, rfl, x, hz, lt, ho, em⟩
  rintro σ' H2 ⟨c, zs, t, out, rfl, x2, hz, lt, ho, em⟩
  rw [mrg_nil] at em
  show WB X _ _ _ _
  refine wb_one (ws_ret (we_lst (wa_star ?_)))
  repeat walk_at "w"
  refine ⟨r, zs, rfl, .inr (.of hz), wa_star ?_⟩
  refine we_cutL ?_
  repeat walk_at "w"
  have hb2 := sb x2
  have hr2 := hr.mono x2
  refine ⟨b, ys, _, rfl, rfl, .of hb2, fun l nl => ?_⟩
  rw [cutV_drop (by rw [hr.1]; exact lt)]
  have x3 : Ex H2 (upd H2 l (.lst (ys.drop t))) := Ex.new nl
  have hl3 : (upd H2 l (.lst (ys.drop t))) l = some (.lst (ys.drop t)) := upd_same
  generalize upd H2 l (.lst (ys.drop t)) = H3 at x3 hl3 ⊢
  refine ⟨l, _, rfl, .inr (.of hl3), wa_nil ?_⟩
  have hall : Tms (CT X.K) (mrg qs rs) (zs ++ ys.drop t) H3 := by
    rw [em]
    exact (ho.mono x3).app ((hr2.mono x3).drop t)
  have el : zs ++ (ys.drop t ++ []) = zs ++ ys.drop t := by rw [List.append_nil]
  rw [el]
  refine ⟨Nat.le_of_lt (ln_ok (by rw [hall.1, mrg_len]; omega)), fun p H4 np x4 e => ?_⟩
  exact k p _ H4 ((x2.trans x3).trans x4) ((x2.trans x3).back np) (by rw [e]; exact upd_same) (hall.mono x4)
end

/-! ### [e for x in range(a, b, c)] -/
theorem lc_rangeC {lo c : Int} {n : Nat} {g : TG} {tt : TT} {te : TE} {vs : List Nat} {σ : L2.St} {H1 : Hp} {D : Addr} {Qd : Hp → Prop} (Pv : Nat → Hp → Prop) (h0 : Pv 0 (upd H1 D (.lst [])))
    (hs : ∀ i H, i < n → Pv i H → g (.int (lo + (i : Nat) * c)) (wipe σ vs) H fun σ2 H2 => wipe σ2 vs = wipe σ vs ∧ tt σ2 H2 fun b H3 =>
      if b = true then te σ2 H3 fun y H4 => ∃ acc, H4 D = some (.lst acc) ∧ acc.length < sizeLine ∧ Pv (i + 1) (upd H4 D (.lst (acc ++ [y]))) else Pv (i + 1) H3) (hd : ∀ H, Pv n H → Qd H) :
    ∃ W : Nat → Nat → Hp → Prop, (∃ m, W 0 m (upd H1 D (.lst []))) ∧ ∀ i m H, W i m H →
      ((Itc lo c n).stop i H ∧ Qd H) ∨ ((Itc lo c n).go i H ∧ ∃ Nx : Hp → Prop, (∀ H', Nx H' → ∃ m', m' < m ∧ W (i + 1) m' H') ∧ ∀ x H', (Itc lo c n).yld i H x H' → g x (wipe σ vs) H' fun σ2 H2 => wipe σ2 vs = wipe σ vs ∧ tt σ2 H2 fun b H3 =>
        if b = true then te σ2 H3 fun y H4 => ∃ acc, H4 D = some (.lst acc) ∧ acc.length < sizeLine ∧ Nx (upd H4 D (.lst (acc ++ [y]))) else Nx H3) := by
  refine ⟨fun i m H => m = n - i ∧ i ≤ n ∧ Pv i H, ⟨n, by simp, Nat.zero_le _, h0⟩, ?_⟩
  rintro i m H ⟨rfl, hi, p⟩
  by_cases hlt : i < n
  · refine .inr ⟨hlt, Pv (i + 1), fun H' p' => ⟨n - (i + 1), by omega, rfl, hlt, p'⟩, fun x H' y => ?_⟩
    obtain ⟨e, y⟩ := y
    subst e y
    exact hs i _ hlt p
  · have e : i = n := by omega
    subst e
    exact .inl ⟨Nat.le_refl _, hd H p⟩
/-- what the items come to -/
def LcC (X : Cx) (scope : Scope) (elt : Expr) (i : Nat) (σ : L2.St) (lo c : Int) (n : Nat) (Q : VK) (H1 : Hp) : Prop :=
  ∀ D, H1 D = none → ∃ P : Nat → Hp → Prop, P 0 (upd H1 D (.lst [])) ∧
    (∀ j H, j < n → P j H → ∀ s H0 C cl fp, WE (Rs.Bk X s H0 scope C cl fp) elt (σ.set i (some (.int (lo + (j : Nat) * c)))) H fun y H4 => ∃ acc, H4 D = some (.lst acc) ∧ acc.length < sizeLine ∧ P (j + 1) (upd H4 D (.lst (acc ++ [y])))) ∧ ∀ H, P n H → Q (.ref D) H
section
variable {X : Cx} {σ : L2.St} {H : Hp} {Q : VK} {D : Ends} {k i n : Nat} {E : L2.St → XK} {x y : Str} {scope : Scope} {elt a b c : Expr} {px py pos spos pr pc : Pos}
theorem ws_setLcC (B : Body X k E) (m : Sl X n y) (bn : Bn X "range") (hy : X.env.scope.names.lookup y = some .local) (hk : X.env.scope.kind = .function) (hi : X.N[i]? = some x) (hx : scope.names.lookup x = some .local) (ok : BlkOk X.N X.env.scope scope [(x, i)])
    (h : WA X [a, b, c] σ H fun vs H1 => ∃ lo hi st, ∃ n' : Nat, vs = [.int lo, .int hi, .int st] ∧ RgC lo hi st n' ∧ LcC X scope elt i σ lo st n' (fun v H' => D.nx (σ.set n (some v)) H') H1) (hl : (py.line == spos.line) = true := by rfl)
    (ha : (scope.names.any fun (n, k) => n == y && (k == .local || k == .cell)) = false := by decide +kernel) (he : pos.line = spos.line := by rfl) (hst : starEach [a, b, c] X.env = (false, eval a X.env) :: starEach [b, c] X.env := by rfl) (hpl : (backTo pc (starEach [b, c] X.env)).any (·.1) = false := by rfl) (hs : ∀ v, foldedSetIterable (.Call (.Name "range" pr) [a, b, c] [] pc) X.env v = pure v := by intro _; rfl) :
    WS X (.Assign [.Name y py] (.ListComp elt [⟨.Name x px, .Call (.Name "range" pr) [a, b, c] [] pc, [], 0⟩] scope pos) spos) D σ H := by
  refine wsP (ps_setLc (own := [(x, i)]) (g := gName i) (tt := tYes) B.calm m.nd m.at_ hy (sw_true hk hy (by rw [he]; exact hl) ha) (pi_range3 bn.gl bn.no paS hst hpl) ok (fun _ _ _ _ _ => pg_name m.nd hi (.inl (lookup_relS_keep (by decide) hx)) (.inr (lookup_relS_keep (by decide) hx))) (fun _ _ _ _ _ => pts_nil) peB hs) ?_
  refine wa_mono h fun vs H1 q => ?_
  obtain ⟨lo, hi, st, n', rfl, rg, q⟩ := q
  refine ⟨lo, hi, st, n', rfl, rg, fun D hD => ?_⟩
  obtain ⟨P, h0, hs, hd⟩ := q D hD
  refine lc_rangeC P h0 (fun j H hj p => ?_) hd
  refine ⟨(show ((σ.set i none).set i (some (.int (lo + (j : Nat) * st)))).set i none = σ.set i none by rw [set2, set2]), (iteT (B := P (j + 1) H) ?_ : if true = true then teB X scope elt ((σ.set i none).set i (some (.int (lo + (j : Nat) * st)))) H fun y H4 => ∃ acc, H4 D = some (.lst acc) ∧ acc.length < sizeLine ∧ P (j + 1) (upd H4 D (.lst (acc ++ [y]))) else P (j + 1) H)⟩
  intro s H0 C cl fp
  have e : (σ.set i none).set i (some (.int (lo + (j : Nat) * st))) = σ.set i (some (.int (lo + (j : Nat) * st))) := set2
  have z := hs j H hj p s H0 C cl fp
  rw [← e] at z
  exact z
end
theorem rg_two {n : Nat} (h : n ≤ 100000) : RgC 0 (n : Int) 2 ((n + 1) / 2) := by
  have e : Builtin.Range.rangeSize 0 (n : Int) 2 = (((n + 1) / 2 : Nat) : Int) := by
    unfold Builtin.Range.rangeSize
    rw [if_pos (by decide)]
    split <;> omega
  refine ⟨by decide, by decide, ?_, e⟩
  have h2 : (2 : Int) ^ 63 = 9223372036854775808 := by decide
  unfold Builtin.Range.small Builtin.Range.rangeFitsLong
  rw [e]
  simp only [Bool.and_eq_true, Bool.or_eq_true, decide_eq_true_eq, beq_iff_eq, h2, show (2 : Int) > 0 by decide, if_true]
  have h3 : ((n : Nat) : Int) ≤ 100000 := by omega
  have h4 : (((n + 1) / 2 : Nat) : Int) ≤ 100000 := by omega
  refine ⟨⟨⟨⟨⟨by decide, by decide⟩, by omega, by omega⟩, by decide, by decide⟩, by omega, by omega⟩, .inr ⟨by omega, by omega⟩⟩
theorem at_m1 {xs : List V} {y : V} (h : xs[xs.length - 1]? = some y) : atI xs (-1) = some y := by
  have l := (List.getElem?_eq_some_iff.mp h).1
  have e : ixN xs.length (-1) = some (xs.length - 1) := by
    unfold ixN
    rw [if_neg (by decide), if_pos (by omega)]
    congr 1
    omega
  unfold atI
  rw [e]
  exact h
theorem sw_cell {elt : Expr} {gs : List Comprehension} {scope : Scope} {pos py : Pos} {y : Str} {l : Nat} {env : Env} (hy : env.scope.names.lookup y = some .cell) : swapsWith (.ListComp elt gs scope pos) (some (.Name y py)) l env = pure false := by
  have ky : env.kindOf y = some .cell := hy
  have e : (some NameKind.cell == some NameKind.local) = false := rfl
  unfold swapsWith
  simp only [ky, e, Bool.and_false, Bool.false_and]
/-! ### rows of rows of times -/
def RwD (K : PySem.W.Frag) (D : Addr) (R : List (List Rat)) (vs : List V) (H : Hp) : Prop := vs.length = R.length ∧ ∀ (j : Nat) (v : V) (r : List Rat), vs[j]? = some v → R[j]? = some r → ∃ l zs, v = .ref l ∧ l ≠ D ∧ H l = some (.lst zs) ∧ Tms (CT K) r zs H
section
variable {K : PySem.W.Frag} {D : Addr} {R S : List (List Rat)} {vs us : List V} {H H' : Hp} {v : V} {r : List Rat}
theorem RwD.mono (x : Ex H H') (h : RwD K D R vs H) : RwD K D R vs H' := ⟨h.1, fun j v r e e2 => by
  obtain ⟨l, zs, rfl, n, hl, ht⟩ := h.2 j v r e e2
  exact ⟨l, zs, rfl, n, x.keep _ _ hl ht.ns, ht.mono x⟩⟩
theorem RwD.ns (h : RwD K D R vs H) : ¬ Src (.lst vs) := by
  rintro ⟨l, i, b, r, e, _⟩
  cases e
  have l4 := h.1
  match R, l4, h with
  | [q0, q1, q2, q3], _, h =>
    obtain ⟨p, dx, e, _⟩ := h.2 1 _ _ rfl rfl
    cases e
theorem RwD.put {xs ys : List V} (h : RwD K D R vs H) (hl : H D = some (.lst xs)) : RwD K D R vs (upd H D (.lst ys)) := ⟨h.1, fun j v r e e2 => by
  obtain ⟨l, zs, rfl, n, hz, ht⟩ := h.2 j v r e e2
  exact ⟨l, zs, rfl, n, (upd_ne n).trans hz, ht.upL hl⟩⟩
theorem RwD.nil : RwD K D [] [] H := ⟨rfl, fun j v q e => nomatch e⟩
theorem RwD.app (h : RwD K D R vs H) (h' : RwD K D S us H) : RwD K D (R ++ S) (vs ++ us) H := by
  refine ⟨by rw [List.length_append, List.length_append, h.1, h'.1], fun j v q e e2 => ?_⟩
  by_cases c : j < vs.length
  · rw [List.getElem?_append_left c] at e
    rw [List.getElem?_append_left (by rw [← h.1]; exact c)] at e2
    exact h.2 j v q e e2
  · rw [List.getElem?_append_right (by omega)] at e
    rw [List.getElem?_append_right (by rw [← h.1]; omega), ← h.1] at e2
    exact h'.2 _ v q e e2
theorem RwD.one {l : Addr} {zs : List V} (n : l ≠ D) (hl : H l = some (.lst zs)) (h : Tms (CT K) r zs H) : RwD K D [r] [.ref l] H := ⟨rfl, fun j u s e e2 => by
  cases j with
  | zero => cases e; cases e2; exact ⟨l, zs, rfl, n, hl, h⟩
  | succ j => cases e⟩
theorem RwD.as {D' : Addr} (h : RwD K D R vs H) (n : H D' = none) : RwD K D' R vs H := ⟨h.1, fun j v r e e2 => by
  obtain ⟨l, zs, rfl, _, hz, ht⟩ := h.2 j v r e e2
  exact ⟨l, zs, rfl, (fun e => by subst e; rw [n] at hz; cases hz), hz, ht⟩⟩
theorem RwD.get (h : RwD K D R vs H) {j : Nat} (hj : j < R.length) : ∃ l zs, vs[j]? = some (.ref l) ∧ H l = some (.lst zs) ∧ Tms (CT K) (R.getD j []) zs H := by
  have hv : j < vs.length := by rw [h.1]; exact hj
  obtain ⟨l, zs, e, _, hl, ht⟩ := h.2 j _ _ (List.getElem?_eq_getElem hv) (List.getElem?_eq_getElem hj)
  refine ⟨l, zs, by rw [List.getElem?_eq_getElem hv, e], hl, ?_⟩
  rw [List.getD_eq_getElem?_getD, List.getElem?_eq_getElem hj]
  exact ht
end
theorem two_len : ∀ {R : List (List Rat)} {i : Nat}, (R.getD i []).length + (R.getD (i + 1) []).length ≤ R.flatten.length
  | [], i => Nat.le_refl 0
  | [a], 0 => by
    show a.length + 0 ≤ (a ++ []).length
    rw [List.append_nil]
    exact Nat.le_refl _
  | [a], i + 1 => Nat.zero_le _
  | a :: b :: r, 0 => by
    show a.length + b.length ≤ (a ++ (b ++ r.flatten)).length
    rw [List.length_append, List.length_append]
    omega
  | a :: b :: r, i + 1 => by
    have := two_len (R := b :: r) (i := i)
    show ((b :: r).getD i []).length + ((b :: r).getD (i + 1) []).length ≤ (a ++ (b :: r).flatten).length
    rw [List.length_append]
    omega
theorem getD_mem {R : List (List Rat)} {j : Nat} {q : Rat} (h : q ∈ R.getD j []) : q ∈ R.flatten := by
  rw [List.getD_eq_getElem?_getD] at h
  cases e : R[j]? with
  | none => rw [e] at h; cases h
  | some r =>
    rw [e] at h
    exact List.mem_flatten.mpr ⟨r, List.mem_of_getElem? e, h⟩
theorem take_next {α : Type} {l : List α} {j : Nat} {a : α} (h : l[j]? = some a) : l.take (j + 1) = l.take j ++ [a] := by
  have hj := (List.getElem?_eq_some_iff.mp h).1
  rw [List.take_add_one, h]
  rfl
theorem half_take {R : List (List Rat)} : half R = (half R).take (R.length / 2) ++ (if R.length % 2 = 1 then [R.getD (R.length - 1) []] else []) := by
  have hl := half_len (R := R)
  by_cases c : R.length % 2 = 1
  · rw [if_pos c]
    have e := half_odd (R := R) (n := R.length / 2) (by omega)
    have e2 : R[2 * (R.length / 2)]? = some (R.getD (R.length - 1) []) := by
      rw [List.getD_eq_getElem?_getD, show 2 * (R.length / 2) = R.length - 1 by omega, List.getElem?_eq_getElem (show R.length - 1 < R.length by omega)]
      rfl
    rw [e2] at e
    rw [← take_next e, List.take_of_length_le (by omega)]
  · rw [if_neg c, List.append_nil, List.take_of_length_le (by omega)]
def ones (qs : List Rat) : List (List Rat) := qs.map fun q => [q]
theorem ones_flat : ∀ {qs : List Rat}, (ones qs).flatten = qs
  | [] => rfl
  | q :: qs => by
    show [q] ++ (ones qs).flatten = q :: qs
    rw [ones_flat]
    rfl
def rlen (H : Hp) (v : Option V) : Nat := match v with
  | some (.ref r) => match H r with
    | some (.lst vs) => vs.length
    | _ => 0
  | _ => 0
theorem rlen_eq {H : Hp} {r : Addr} {vs : List V} (h : H r = some (.lst vs)) : rlen H (some (.ref r)) = vs.length := by
  show (match H r with | some (.lst vs) => vs.length | _ => 0) = vs.length
  rw [h]
theorem wt_tru {X : Cx} {σ : L2.St} {H : Hp} {e : Expr} {QT : Bool → Hp → Prop} (h : WE X e σ H fun x H1 => ∃ k, TruV X.K x H1 k ∧ QT k H1) (he : ∀ whole, isTrue e X.env whole = (do let v ← whole; standAt e.pos; holding [v] (truthy v)) := by intro _; rfl) : WT X e σ H QT := wtP (pt_truth peS he) h
def Rws (K : PySem.W.Frag) (R : List (List Rat)) (vs : List V) (H : Hp) : Prop := ∃ D, RwD K D R vs H
section
variable {P : Program} {w : World} {K : PySem.W.Frag} {mg : Str → Option Value} {base : Heap}
def spOrdered (K : PySem.W.Frag) : Sp := fun vs H Q _ => ∃ a xs qs, vs = [.ref a] ∧ H a = some (.lst xs) ∧ Tms (CT K) qs xs H ∧ AllZ qs ∧ qs.length ≤ 1100 ∧ ∀ l zs rs H', Ex H H' → H' l = some (.lst zs) → Tms (CT K) rs zs H' → Asc rs → rs.Perm qs → Q (.ref l) H'
theorem f_ordered (T : Tm K mg) : GFn P w K mg base 7 "ordered" (spOrdered K) := by
  obtain ⟨fd, F⟩ := T.d_ordered
  refine GFn.mk F T.g_ordered (def_ok F sc_ordered (fun vs H Q E h => by obtain ⟨a, xs, qs, rfl, _⟩ := h; rfl) ?_) (F.bindsN fun _ _ _ _ _ _ us hl => match us, hl with | [_], _ => rfl)
  intro X eP ew eK em eb eN es hf nd H vs Q E B h
  subst eP ew eK em eb
  have n0 : Sl X 0 "times" := slot_of eN es hf nd rfl (by first | exact Or.inl rfl | exact Or.inr rfl) (by decide) (by decide)
  have n1 : Sl X 1 "rows" := slot_of eN es hf nd rfl (by first | exact Or.inl rfl | exact Or.inr rfl) (by decide) (by decide)
  have n2 : Sl X 2 "halves" := slot_of eN es hf nd rfl (by first | exact Or.inl rfl | exact Or.inr rfl) (by decide) (by decide)
  have z_len : Bn X "len" := bn_of es rfl T.z_len
  have z_range : Bn X "range" := bn_of es rfl T.z_range
  have F_merged := f_merged (P := X.prog) (w := X.w) (base := X.base) T
  obtain ⟨a, xs, qs, rfl, ha, hq, zq, len, k⟩ := h
  show WB X [_, _, _] _ [some (.ref a), none, none, none, none] H
  have sa : ∀ {G : Hp}, Ex H G → G a = some (.lst xs) := fun x => x.keep _ _ ha hq.ns
  with_reducible refine' wb_cons ?_
  with_reducible refine' ws_to (fun σ' H' => ∃ rw ys, σ' = [some (.ref a), some (.ref rw), none, none, none] ∧ Ex H H' ∧ H' rw = some (.lst ys) ∧ Rws X.K (ones qs) ys H') ?_ ?_
  · refine ws_set n1 (we_lc (i := 3) (x := "moment") B (by rw [eN]; exact nd) (by rw [eN]; rfl) rfl (by rw [eN, es]; exact blkOk_by (by decide +kernel)) ?_) ?hsw
    case hsw => exact sw_cell (by rw [es]; rfl)
    repeat walk_at "w"
    refine ⟨a, xs, rfl, .of ha, fun D hD => ⟨fun j G => ∃ ys, Ex H G ∧ G D = some (.lst ys) ∧ RwD X.K D ((ones qs).take j) ys G, ⟨[], Ex.new hD, upd_same, .nil⟩, fun j G _ ⟨_, x, _⟩ => .of (sa x), ?_, ?_⟩⟩
    · rintro j v G hv ⟨ys, xg, hD2, hys⟩ s H0 C cl fp
      refine in_blk B rfl fun B => ?_
      refine in_own (i := 3) (x := "moment") eN nd rfl rfl (by decide) (by decide) fun n3 => ?_
      obtain ⟨q, hqj, hvq⟩ := (hq.mono xg).get hv
      have hj : j < qs.length := (List.getElem?_eq_some_iff.mp hqj).1
      repeat walk_at "w"
      rename_i p G2 np x2 hp2
      have hD3 := x2.keep _ _ hD2 hys.ns
      have pD : p ≠ D := fun e => by subst e; rw [np] at hD2; cases hD2
      refine ⟨ys, hD3, ln_ok (by rw [hys.1]; exact Nat.le_trans (List.length_take_le _ _) (by omega)), ys ++ [.ref p], (xg.trans x2).put hD, upd_same, ?_⟩
      rw [take_next (show (ones qs)[j]? = some [q] by unfold ones; rw [List.getElem?_map, hqj]; rfl)]
      exact ((hys.mono x2).app (.one pD hp2 (.one (TimeV.mono x2 hvq)))).put hD3
    · rintro G ⟨ys, xg, hD2, hys⟩
      rw [hq.1, List.take_of_length_le (by unfold ones; rw [List.length_map]; exact Nat.le_refl _)] at hys
      exact ⟨D, ys, rfl, xg, hD2, D, hys⟩
  rintro σ' H1 ⟨rw1, ys1, rfl, x1, hrw1, hys1⟩
  show WB X _ _ _ _
  with_reducible refine' wb_cons ?_
  with_reducible refine' ws_to (fun σ' H' => ∃ rw ys R c1 c2 c3, σ' = [some (.ref a), some (.ref rw), c1, c2, c3] ∧ Ex H H' ∧ H' rw = some (.lst ys) ∧ Rws X.K R ys H' ∧ (∀ r ∈ R, Asc r) ∧ R.flatten.Perm qs ∧ R.length ≤ 1) ?_ ?_
  · refine ws_while_by (fun σ' H' => ∃ rw ys R c1 c2 c3, σ' = [some (.ref a), some (.ref rw), c1, c2, c3] ∧ Ex H H' ∧ H' rw = some (.lst ys) ∧ Rws X.K R ys H' ∧ (∀ r ∈ R, Asc r) ∧ R.flatten.Perm qs ∧ R.length ≤ 1100) (fun σ G => rlen G ((σ[1]?).getD none)) B ⟨rw1, ys1, ones qs, none, none, none, rfl, x1, hrw1, hys1, ?_, by rw [ones_flat], by unfold ones; rw [List.length_map]; exact len⟩ ?_
    · intro r hr
      obtain ⟨q, _, rfl⟩ := List.mem_map.mp hr
      exact List.pairwise_singleton _ _
    rintro σ' G ⟨rw, ys, R, c1, c2, c3, rfl, xg, hrw, ⟨D0, hys⟩, hR, hp, lR⟩
    repeat walk_at "w"
    rw [hys.1]
    refine ite_dec (fun h1 => ?_) (fun h1 => ?_)
    · have h1 : 1 < R.length := by omega
      show WB X _ _ _ _
      with_reducible refine' wb_cons ?_
      with_reducible refine' ws_to (fun σ' G2 => ∃ hv us c2 c3, σ' = [some (.ref a), some (.ref rw), some (.ref hv), c2, c3] ∧ Ex G G2 ∧ G hv = none ∧ G2 hv = some (.lst us) ∧ RwD X.K hv ((half R).take (R.length / 2)) us G2) ?_ ?_
      · refine ws_setLcC (i := 4) (x := "at") B n2 z_range (by rw [es]; rfl) (by rw [es]; rfl) (by rw [eN]; rfl) rfl (by rw [eN, es]; exact blkOk_by (by decide +kernel)) ?_
        repeat walk_at "w"
        rw [hys.1]
        have el : (R.length : Int) - 1 = ((R.length - 1 : Nat) : Int) := by omega
        have en : (R.length - 1 + 1) / 2 = R.length / 2 := by omega
        refine ⟨0, _, 2, R.length / 2, rfl, by rw [el, ← en]; exact rg_two (by omega), fun D hD => ⟨fun j G2 => ∃ us, Ex G G2 ∧ G2 D = some (.lst us) ∧ RwD X.K D ((half R).take j) us G2, ⟨[], Ex.new hD, upd_same, .nil⟩, ?_, ?_⟩⟩
        · rintro j G2 hj ⟨us, x2, hD2, hus⟩ s H0 C cl fp
          refine in_blk B rfl fun B => ?_
          refine in_own (i := 4) (x := "at") eN nd rfl rfl (by decide) (by decide) fun n4 => ?_
          refine in_free (i := 1) (x := "rows") eN es rfl (by decide +kernel) (by decide) (by decide) fun n1 => ?_
          refine in_gn "merged" rfl (by decide) fun g_m => ?_
          have hrw2 := x2.keep _ _ hrw hys.ns
          have hys2 := hys.mono x2
          have e1 : (0 : Int) + (j : Nat) * 2 = ((2 * j : Nat) : Int) := by omega
          rw [e1]
          obtain ⟨l1, z1, a1, b1, t1⟩ := hys2.get (j := 2 * j) (by omega)
          obtain ⟨l2, z2, a2, b2, t2⟩ := hys2.get (j := 2 * j + 1) (by omega)
          refine we_call B g_m (f_merged (P := X.prog) (w := X.w) (base := X.base) T) (by decide) ?_
          repeat walk_at "w"
          refine at_l hrw2 (atI_nat a1) ?_
          repeat walk_at "w"
          have e2 : ((2 * j : Nat) : Int) + 1 = ((2 * j + 1 : Nat) : Int) := rfl
          rw [e2]
          refine at_l hrw2 (atI_nat a2) ?_
          have zz : AllZ R.flatten := fun q hq => zq q (hp.mem_iff.mp hq)
          have tl := two_len (R := R) (i := 2 * j)
          have pl := hp.length_eq
          refine ⟨l1, l2, z1, z2, _, _, rfl, b1, b2, t1, t2, fun q h => zz q (getD_mem h), fun q h => zz q (getD_mem h), by omega, fun l zs G3 x3 nl hl ht => ?_⟩
          have hD3 := x3.keep _ _ hD2 hus.ns
          have lD : l ≠ D := fun e => by subst e; rw [nl] at hD2; cases hD2
          refine ⟨us, hD3, ln_ok (by rw [hus.1]; exact Nat.le_trans (List.length_take_le _ _) (by omega)), us ++ [.ref l], (x2.trans x3).put hD, upd_same, ?_⟩
          rw [take_next (half_at (R := R) (j := j) (by omega))]
          exact ((hus.mono x3).app (.one lD hl ht)).put hD3
        · rintro G2 ⟨us, x2, hD2, hus⟩
          exact ⟨D, us, _, _, rfl, x2, hD, hD2, hus⟩
      rintro σ' G2 ⟨hv, us, d2, d3, rfl, x2, nhv, hhv, hus⟩
      have hrw2 := x2.keep _ _ hrw hys.ns
      have hys2 := hys.mono x2
      show WB X _ _ _ _
      with_reducible refine' wb_cons ?_
      with_reducible refine' ws_to (fun σ' G3 => ∃ us, σ' = [some (.ref a), some (.ref rw), some (.ref hv), d2, d3] ∧ Ex G G3 ∧ G3 hv = some (.lst us) ∧ Rws X.K (half R) us G3) ?_ ?_
      · refine ws_if (wt_cmp ?_ ?hm)
        case hm => rfl
        repeat walk_at "w"
        rw [hys.1]
        have ht := half_take (R := R)
        refine ite_dec (fun ho => ?_) (fun ho => ?_)
        · have ho : R.length % 2 = 1 := by omega
          rw [if_pos ho] at ht
          refine wb_one (ws_expr (we_append ?_))
          repeat walk_at "w"
          refine ⟨hv, _, rfl, hhv, ?_⟩
          repeat walk_at "w"
          obtain ⟨l1, z1, a1, b1, t1⟩ := hys2.get (j := R.length - 1) (by omega)
          refine at_l hrw2 (at_m1 (by rw [hys2.1]; exact a1)) ?_
          have hus2 := hus
          refine ⟨_, hhv, ln_ok (by rw [hus.1]; exact Nat.le_trans (List.length_take_le _ _) (by omega)), us ++ [.ref l1], rfl, x2.put nhv, upd_same, hv, ?_⟩
          rw [ht]
          have lv : l1 ≠ hv := fun e => by
            subst e
            obtain ⟨l3, z3, a3, b3, _⟩ := hys.get (j := R.length - 1) (by omega)
            rw [a1] at a3
            cases a3
            rw [nhv] at b3
            cases b3
          exact (hus.app (.one lv b1 t1)).put hhv
        · rw [if_neg (by omega), List.append_nil] at ht
          rw [ht]
          repeat walk_at "w"
          exact ⟨us, rfl, x2, hhv, hv, hus⟩
      rintro σ' G3 ⟨us, rfl, x3, hhv, hus⟩
      show WB X _ _ _ _
      repeat walk_at "w"
      refine ⟨⟨hv, us, half R, _, d2, d3, rfl, xg.trans x3, hhv, hus, half_asc hR, half_perm.trans hp, by rw [half_len]; omega⟩, ?_⟩
      show rlen G3 (some (.ref hv)) < rlen G (some (.ref rw))
      obtain ⟨D2, hus⟩ := hus
      rw [rlen_eq hhv, rlen_eq hrw, hus.1, hys.1, half_len]
      omega
    · exact ⟨rw, ys, R, c1, c2, c3, rfl, xg, hrw, ⟨D0, hys⟩, hR, hp, by omega⟩
  rintro σ' H2 ⟨rw, ys, R, c1, c2, c3, rfl, x2, hrw, ⟨D0, hys⟩, hR, hp, l1⟩
  show WB X _ _ _ _
  refine wb_one (ws_ret (we_if (wt_tru ?_)))
  repeat walk_at "w"
  refine ⟨_, .inl ⟨ys, .of hrw, rfl⟩, ?_⟩
  match R, l1, hys, hR, hp with
  | [], _, hys, _, hp =>
    obtain rfl : ys = [] := List.eq_nil_of_length_eq_zero hys.1
    show WE X _ _ _ _
    repeat walk_at "w"
    refine ⟨Nat.zero_le _, fun p H3 np x3 e => ?_⟩
    have : qs = [] := List.Perm.nil_eq hp |>.symm
    subst this
    exact k p [] [] H3 (x2.trans x3) (by rw [e]; exact upd_same) .nil List.Pairwise.nil (.refl _)
  | [r], _, hys, hR, hp =>
    obtain ⟨l, zs, e0, hl, ht⟩ := hys.get (j := 0) (show 0 < 1 by decide)
    match ys, e0, hys with
    | y :: ys', e0, hys =>
      cases e0
      show WE X _ _ _ _
      repeat walk_at "w"
      refine at_l hrw (atI_nat (j := 0) rfl) ?_
      refine k l zs r H2 x2 hl ht (hR r List.mem_cons_self) ?_
      have : [r].flatten = r := by show r ++ [] = r; exact List.append_nil _
      rwa [this] at hp
  | _ :: _ :: _, l1, _, _, _ => exact absurd (Nat.le_of_succ_le_succ l1) (by show ¬ _ + 1 ≤ 0; omega)
end

/-! ### check_breaks, check_book, bounds_below, breaks -/
theorem colB_mem {B : Nat → Nat → Option Rat} {n : Nat → Nat} {many : Nat} {q : Rat} (h : q ∈ colB B n many) : ∃ m j, m < many ∧ j < n m ∧ q = (B m (j + 1)).getD 0 := by
  obtain ⟨r, hr, hq⟩ := List.mem_flatten.mp h
  obtain ⟨m, hm, rfl⟩ := List.mem_map.mp hr
  obtain ⟨j, hj, rfl⟩ := List.mem_map.mp hq
  exact ⟨m, j, List.mem_range.mp hm, List.mem_range.mp hj, rfl⟩
theorem colB_len_mono {B : Nat → Nat → Option Rat} {n : Nat → Nat} {m many : Nat} (h : m ≤ many) : (colB B n m).length ≤ (colB B n many).length := by
  induction h with
  | refl => exact Nat.le_refl _
  | step h ih =>
    rw [colB_succ, List.length_append]
    omega
theorem mk_one (b : Bool) : Mt.mk b 1 = 1 := by cases b <;> rfl
section
variable {P : Program} {w : World} {K : PySem.W.Frag} {mg : Str → Option Value} {base : Heap}
def spChkB (K : PySem.W.Frag) : Sp := fun vs H Q _ => ∃ ev hv, ∃ r : Int, vs = [ev, .int r, hv] ∧ PosT K ev H ∧ PosT K hv H ∧ 1 ≤ r ∧ r ≤ 12 ∧ ∀ H', Ex H H' → Q .non H'
theorem f_check_breaks (T : Tm K mg) : GFn P w K mg base 9 "check_breaks" (spChkB K) := by
  obtain ⟨fd, F⟩ := T.d_check_breaks
  refine GFn.mk F T.g_check_breaks (def_ok F sc_check_breaks (fun vs H Q E h => by obtain ⟨ev, hv, r, rfl, _⟩ := h; rfl) ?_) (F.bindsN fun _ _ _ _ _ _ us hl => match us, hl with | [_, _, _], _ => rfl)
  intro X eP ew eK em eb eN es hf nd H vs Q E B h
  subst eP ew eK em eb
  have n0 : Sl X 0 "estimate" := slot_of eN es hf nd rfl (by first | exact Or.inl rfl | exact Or.inr rfl) (by decide) (by decide)
  have n1 : Sl X 1 "rounds" := slot_of eN es hf nd rfl (by first | exact Or.inl rfl | exact Or.inr rfl) (by decide) (by decide)
  have n2 : Sl X 2 "high" := slot_of eN es hf nd rfl (by first | exact Or.inl rfl | exact Or.inr rfl) (by decide) (by decide)
  have g_check_times : Gn X "check_times" := gn_of es rfl (by decide)
  have F_check_times := f_check_times (P := X.prog) (w := X.w) (base := X.base) T
  have g_is_integer : Gn X "is_integer" := gn_of es rfl (by decide)
  have F_is_integer := f_is_integer (P := X.prog) (w := X.w) (base := X.base) T
  have g_MOST_ROUNDS : Gn X "MOST_ROUNDS" := gn_of es rfl (by decide)
  obtain ⟨t_MOST_ROUNDS, m_MOST_ROUNDS⟩ := T.i_MOST_ROUNDS
  have g_NoCount : Gn X "NoCount" := gn_of es rfl (by decide)
  have m_NoCount := T.g_NoCount
  obtain ⟨ev, hv, r, rfl, he, hh, r1, r12, k⟩ := h
  show WB X [_, _, _] _ [some (ev), some (.int r), some (hv)] H
  with_reducible refine' wb_cons ?_
  with_reducible refine' ws_to (fun σ' H' => σ' = [some ev, some (.int r), some hv] ∧ Ex H H') ?_ ?_
  · with_reducible refine' ws_expr ?_ ?hs
    case hs => rfl
    repeat walk_at "w"
    refine ⟨(show 1 ≤ 100 by decide), fun y hy => ?_, fun H1 x1 => ?_⟩
    · obtain rfl := List.mem_singleton.mp hy
      exact he
    · repeat walk_at "w"
      exact ⟨rfl, x1⟩
  rintro σ' H1 ⟨rfl, x1⟩
  show WB X _ _ _ _
  with_reducible refine' wb_cons ?_
  with_reducible refine' ws_to (fun σ' H' => σ' = [some ev, some (.int r), some hv] ∧ Ex H1 H') ?_ ?_
  · repeat walk_at "w"
    rw [decide_eq_true r1]
    repeat walk_at "w"
    rw [decide_eq_true r12]
    repeat walk_at "w"
    exact ⟨rfl, by walk_at "x"⟩
  rintro σ' H2 ⟨rfl, x2⟩
  show WB X _ _ _ _
  refine wb_one ?_
  with_reducible refine' ws_expr ?_ ?hs
  case hs => rfl
  repeat walk_at "w"
  refine ⟨(show 1 ≤ 100 by decide), fun y hy => ?_, fun H3 x3 => ?_⟩
  · obtain rfl := List.mem_singleton.mp hy
    exact hh.mono (x1.trans x2)
  · repeat walk_at "w"
    exact k _ ((x1.trans x2).trans x3)
def spChkK (K : PySem.W.Frag) : Sp := fun vs H Q _ => ∃ z v, vs = [v] ∧ BookV K z v H ∧ z.word ∈ (["first", "marked"] : List Str) ∧ z.latest = none ∧ ∀ H', Ex H H' → Q .non H'
theorem f_check_book (T : Tm K mg) : GFn P w K mg base 5 "check_book" (spChkK K) := by
  obtain ⟨fd, F⟩ := T.d_check_book
  refine GFn.mk F T.g_check_book (def_ok F sc_check_book (fun vs H Q E h => by obtain ⟨z, v, rfl, _⟩ := h; rfl) ?_) (F.bindsN fun _ _ _ _ _ _ us hl => match us, hl with | [_], _ => rfl)
  intro X eP ew eK em eb eN es hf nd H vs Q E B h
  subst eP ew eK em eb
  have n0 : Sl X 0 "book" := slot_of eN es hf nd rfl (by first | exact Or.inl rfl | exact Or.inr rfl) (by decide) (by decide)
  have g_check_sample : Gn X "check_sample" := gn_of es rfl (by decide)
  have F_check_sample := f_check_sample (P := X.prog) (w := X.w) (base := X.base) T
  have g_check_smoothed : Gn X "check_smoothed" := gn_of es rfl (by decide)
  have F_check_smoothed := f_check_smoothed (P := X.prog) (w := X.w) (base := X.base) T
  obtain ⟨z, v, rfl, hb, hw, hl, k⟩ := h
  show WB X [_, _] _ [some (v)] H
  with_reducible refine' wb_cons ?_
  with_reducible refine' ws_to (fun σ' H' => σ' = [some v] ∧ Ex H H') ?_ ?_
  · with_reducible refine' ws_expr ?_ ?hs
    case hs => rfl
    repeat walk_at "w"
    rename_i t0 H1 x1 h0
    refine ⟨z, v, t0, ["first", "marked"], rfl, hb.mono x1, h0, hw, ?_⟩
    repeat walk_at "w"
    exact ⟨rfl, x1⟩
  rintro σ' H1 ⟨rfl, x1⟩
  have hb1 := hb.mono x1
  show WB X _ _ _ _
  refine wb_one ?_
  with_reducible refine' ws_expr ?_ ?hs
  case hs => rfl
  repeat walk_at "w"
  refine ⟨z, v, rfl, hb1, hl, ?_⟩
  repeat walk_at "w"
  exact k _ x1
def spBelow (K : PySem.W.Frag) : Sp := fun vs H Q _ => ∃ z e h v ev hv, ∃ rounds : Nat, ∃ n : Nat → Nat, vs = [v, ev, .int rounds, hv] ∧ BookV K z v H ∧ BkJ z ∧ Tim K e ev H ∧ Sz e 100 ∧ Tim K h hv H ∧ Sz h 4000 ∧ rounds ≤ 12 ∧ (∀ m, m < rounds → Run (bdz z e m) h (n m)) ∧ (colB (bdz z e) n rounds).length ≤ 1000 ∧ ∀ l zs rs H', Ex H H' → H' l = some (.lst zs) → Tms (CT K) rs zs H' → Asc rs → rs.Perm (colB (bdz z e) n rounds) → Q (.ref l) H'
theorem f_bounds_below (T : Tm K mg) : GFn P w K mg base 10 "bounds_below" (spBelow K) := by
  obtain ⟨fd, F⟩ := T.d_bounds_below
  refine GFn.mk F T.g_bounds_below (def_ok F sc_bounds_below (fun vs H Q E h => by obtain ⟨z, e, h, v, ev, hv, rounds, n, rfl, _⟩ := h; rfl) ?_) (F.bindsN fun _ _ _ _ _ _ us hl => match us, hl with | [_, _, _, _], _ => rfl)
  intro X eP ew eK em eb eN es hf nd H vs Q E B h
  subst eP ew eK em eb
  have n0 : Sl X 0 "book" := slot_of eN es hf nd rfl (by first | exact Or.inl rfl | exact Or.inr rfl) (by decide) (by decide)
  have n1 : Sl X 1 "estimate" := slot_of eN es hf nd rfl (by first | exact Or.inl rfl | exact Or.inr rfl) (by decide) (by decide)
  have n2 : Sl X 2 "rounds" := slot_of eN es hf nd rfl (by first | exact Or.inl rfl | exact Or.inr rfl) (by decide) (by decide)
  have n3 : Sl X 3 "high" := slot_of eN es hf nd rfl (by first | exact Or.inl rfl | exact Or.inr rfl) (by decide) (by decide)
  have n4 : Sl X 4 "found" := slot_of eN es hf nd rfl (by first | exact Or.inl rfl | exact Or.inr rfl) (by decide) (by decide)
  have n5 : Sl X 5 "many" := slot_of eN es hf nd rfl (by first | exact Or.inl rfl | exact Or.inr rfl) (by decide) (by decide)
  have n6 : Sl X 6 "line" := slot_of eN es hf nd rfl (by first | exact Or.inl rfl | exact Or.inr rfl) (by decide) (by decide)
  have n7 : Sl X 7 "count" := slot_of eN es hf nd rfl (by first | exact Or.inl rfl | exact Or.inr rfl) (by decide) (by decide)
  have n8 : Sl X 8 "bound" := slot_of eN es hf nd rfl (by first | exact Or.inl rfl | exact Or.inr rfl) (by decide) (by decide)
  have z_range : Bn X "range" := bn_of es rfl T.z_range
  have g_wait_line : Gn X "wait_line" := gn_of es rfl (by decide)
  have F_wait_line := f_wait_line (P := X.prog) (w := X.w) (base := X.base) T
  have g_time_of : Gn X "time_of" := gn_of es rfl (by decide)
  have F_time_of := f_time_of (P := X.prog) (w := X.w) (base := X.base) T
  have g_bound_of : Gn X "bound_of" := gn_of es rfl (by decide)
  have F_bound_of := f_bound_of (P := X.prog) (w := X.w) (base := X.base) T
  have z_len : Bn X "len" := bn_of es rfl T.z_len
  have g_MOST_BREAKS : Gn X "MOST_BREAKS" := gn_of es rfl (by decide)
  obtain ⟨t_MOST_BREAKS, m_MOST_BREAKS⟩ := T.i_MOST_BREAKS
  have g_TooMany : Gn X "TooMany" := gn_of es rfl (by decide)
  have m_TooMany := T.g_TooMany
  have g_waits_until : Gn X "waits_until" := gn_of es rfl (by decide)
  have F_waits_until := f_waits_until (P := X.prog) (w := X.w) (base := X.base) T
  have g_ordered : Gn X "ordered" := gn_of es rfl (by decide)
  have F_ordered := f_ordered (P := X.prog) (w := X.w) (base := X.base) T
  obtain ⟨z, e, h, v, ev, hv, rounds, n, rfl, hb, bj, he, ze, hh, zh, r12, hrun, len, k⟩ := h
  show WB X [_, _, _] _ [some (v), some (ev), some (.int (rounds : Nat)), some (hv), none, none, none, none, none] H
  with_reducible refine' wb_cons ?_
  with_reducible refine' ws_to (fun σ' H' => ∃ f, σ' = [some v, some ev, some (.int (rounds : Nat)), some hv, some (.ref f), none, none, none, none] ∧ Ex H H' ∧ H f = none ∧ H' f = some (.lst [])) ?_ ?_
  · repeat walk_at "w"
    refine ⟨Nat.zero_le _, fun l H1 nl x1 e => ⟨l, rfl, x1, nl, by rw [e]; exact upd_same⟩⟩
  rintro σ' H1 ⟨f, rfl, x1, nf, hf1⟩
  show WB X _ _ _ _
  have nm : ∀ m, m < rounds → n m ≤ 1000 := fun m hm => by
    have h1 := colB_len_mono (B := bdz z e) (n := n) (show m + 1 ≤ rounds from hm)
    rw [colB_succ, List.length_append, rowB_len] at h1
    omega
  with_reducible refine' wb_cons ?_
  with_reducible refine' ws_to (fun σ' H' => ∃ c1 c2 c3 c4 ys, σ' = [some v, some ev, some (.int (rounds : Nat)), some hv, some (.ref f), c1, c2, c3, c4] ∧ Ex H H' ∧ H' f = some (.lst ys) ∧ Tms (CT X.K) (colB (bdz z e) n rounds) ys H') ?_ ?_
  · refine ws_for_rangeE B n5 z_range ?_
    repeat walk_at "w"
    refine ⟨rounds, rfl, by omega, fun m σ' H' => ∃ c1 c2 c3 c4 ys, σ' = [some v, some ev, some (.int (rounds : Nat)), some hv, some (.ref f), c1, c2, c3, c4] ∧ Ex H H' ∧ H' f = some (.lst ys) ∧ Tms (CT X.K) (colB (bdz z e) n m) ys H', ⟨none, none, none, none, [], rfl, x1, hf1, .nil⟩, ?_, fun σ' H' h => h⟩
    rintro m σ' G hm ⟨c1, c2, c3, c4, ys, rfl, xg, hfg, hys⟩
    show WB X _ _ [some v, some ev, some (.int (rounds : Nat)), some hv, some (.ref f), some (.int (m : Nat)), c2, c3, c4] G
    have hrm := hrun m hm
    have hnm := nm m hm
    with_reducible refine' wb_cons ?_
    with_reducible refine' ws_to (fun σ' G2 => ∃ t y1 y2, σ' = [some v, some ev, some (.int (rounds : Nat)), some hv, some (.ref f), some (.int (m : Nat)), some (.ref t), c3, c4] ∧ Ex G G2 ∧ G2 t = some (.tup [y1, y2]) ∧ TimeV (CT X.K) (lnA z e m) y1 G2 ∧ TimeV (CT X.K) (lnC z m) y2 G2) ?_ ?_
    · repeat walk_at "w"
      refine to_tim (he.mono xg) fun y G2 x2 hy => ?_
      repeat walk_at "w"
      exact ⟨z, e, v, y, m, rfl, hb.mono (xg.trans x2), bj, hy, ze, by omega, fun t y1 y2 G3 x3 ht h1 h2 => ⟨t, y1, y2, rfl, x2.trans x3, ht, h1, h2⟩⟩
    rintro σ' G2 ⟨t, y1, y2, rfl, x2, ht, h1, h2⟩
    show WB X _ _ _ _
    refine wb_cons (ws_set n7 (we_int ?_) (by rfl))
    show WB X _ _ [some v, some ev, some (.int (rounds : Nat)), some hv, some (.ref f), some (.int (m : Nat)), some (.ref t), some (.int 1), c4] G2
    with_reducible refine' wb_cons ?_
    with_reducible refine' ws_to (fun σ' G3 => ∃ u, σ' = [some v, some ev, some (.int (rounds : Nat)), some hv, some (.ref f), some (.int (m : Nat)), some (.ref t), some (.int 1), some u] ∧ Ex G2 G3 ∧ OptT X.K (bdz z e m 1) u G3) ?_ ?_
    · repeat walk_at "w"
      exact ⟨z, _, _, v, t, y1, y2, 1, by rw [mk_one], hb.mono (xg.trans x2), bj, ht, h1, h2, lnA_sz bj ze (by omega), lnC_sz bj (by omega), by decide, fun o u G3 x3 eo hu => ⟨u, rfl, x3, by rw [eo] at hu; exact hu⟩⟩
    rintro σ' G3 ⟨u, rfl, x3, hu⟩
    have xg3 := (xg.trans x2).trans x3
    have hf3 := (x2.trans x3).keep _ _ hfg hys.ns
    show WB X _ _ _ _
    refine wb_one ?_
    refine ws_while_by (fun σ' G => ∃ i, ∃ u ys, σ' = [some v, some ev, some (.int (rounds : Nat)), some hv, some (.ref f), some (.int (m : Nat)), some (.ref t), some (.int ((i + 1 : Nat) : Int)), some u] ∧ i ≤ n m ∧ Ex H G ∧ G t = some (.tup [y1, y2]) ∧ TimeV (CT X.K) (lnA z e m) y1 G ∧ TimeV (CT X.K) (lnC z m) y2 G ∧ OptT X.K (bdz z e m (i + 1)) u G ∧ G f = some (.lst ys) ∧ Tms (CT X.K) (colB (bdz z e) n m ++ rowB (bdz z e m) i) ys G) (fun σ _ => match σ with | [_, _, _, _, _, _, _, some (.int c), _] => (n m + 1 - c).toNat | _ => 0) B ⟨0, u, ys, rfl, Nat.zero_le _, xg3, x3.tup ht, TimeV.mono x3 h1, TimeV.mono x3 h2, hu, hf3, ?_⟩ ?_
    · show Tms _ (_ ++ []) _ _
      rw [List.append_nil]
      exact hys.mono (x2.trans x3)
    clear hu hf3 xg3 x3 u h1 h2 ht x2 hfg hys xg ys
    rintro σ' G ⟨i, u, ys, rfl, li, xg, ht, h1, h2, hu, hfg, hys⟩
    have hbg := hb.mono xg
    have hhg := hh.mono xg
    refine wt_and2 (wt_cmp ?_ ?hm)
    case hm => rfl
    have fin : ∀ {G' : Hp}, Ex G G' → ¬ i < n m → (∃ c1 c2 c3 c4 ys, ([some v, some ev, some (.int (rounds : Nat)), some hv, some (.ref f), some (.int (m : Nat)), some (.ref t), some (.int ((i + 1 : Nat) : Int)), some u] : L2.St) = [some v, some ev, some (.int (rounds : Nat)), some hv, some (.ref f), c1, c2, c3, c4] ∧ Ex H G' ∧ G' f = some (.lst ys) ∧ Tms (CT X.K) (colB (bdz z e) n (m + 1)) ys G') := fun xx ni => by
      obtain rfl : i = n m := by omega
      refine ⟨_, _, _, _, ys, rfl, xg.trans xx, xx.keep _ _ hfg hys.ns, ?_⟩
      rw [colB_succ]
      exact hys.mono xx
    repeat walk_at "w"
    cases eb : bdz z e m (i + 1) with
    | none =>
      rw [eb] at hu
      cases hu
      rw [decide_eq_true (rfl : V.non = V.non)]
      refine fin (.refl _) fun l => ?_
      obtain ⟨b, e1, _⟩ := hrm.go i l
      rw [eb] at e1
      cases e1
    | some b =>
      rw [eb] at hu
      have hu : TimeV (CT X.K) b u G := hu
      have zb : Sz b 4000 := (bdz_sz bj ze (by omega) (by omega) eb).mono (by decide)
      rw [decide_eq_false (Tim.nn (.inl hu : Tim X.K b u G))]
      repeat walk_at "w"
      rename_i G2 x2
      have hf2 := x2.keep _ _ hfg hys.ns
      refine ite_dec (fun hlt => ?_) (fun hlt => ?_)
      · have li2 : i < n m := by
          refine Nat.lt_of_le_of_ne li fun e => hrm.st ?_
          subst e
          exact ⟨b, eb, hlt⟩
        have lc := colB_len_mono (B := bdz z e) (n := n) (show m + 1 ≤ rounds from hm)
        rw [colB_succ, List.length_append, rowB_len] at lc
        show WB X _ _ _ _
        with_reducible refine' wb_cons ?_
        with_reducible refine' ws_to (fun σ' G3 => ∃ ys, σ' = [some v, some ev, some (.int (rounds : Nat)), some hv, some (.ref f), some (.int (m : Nat)), some (.ref t), some (.int ((i + 1 : Nat) : Int)), some u] ∧ Ex H G3 ∧ G3 t = some (.tup [y1, y2]) ∧ TimeV (CT X.K) (lnA z e m) y1 G3 ∧ TimeV (CT X.K) (lnC z m) y2 G3 ∧ G3 f = some (.lst ys) ∧ Tms (CT X.K) (colB (bdz z e) n m ++ rowB (bdz z e m) (i + 1)) ys G3) ?_ ?_
        · refine ws_expr (we_append ?_)
          repeat walk_at "w"
          refine ⟨f, _, rfl, hf2, ?_⟩
          repeat walk_at "w"
          have tf : t ≠ f := fun e => by subst e; rw [ht] at hfg; cases hfg
          refine ⟨_, hf2, ln_ok (by rw [hys.1, List.length_append, rowB_len]; omega), _, rfl, (xg.trans x2).put nf, (upd_ne tf).trans (x2.tup ht), TimeV.upL hf2 (TimeV.mono x2 h1), TimeV.upL hf2 (TimeV.mono x2 h2), upd_same, ?_⟩
          rw [rowB_succ, ← List.append_assoc]
          refine Tms.upL (Tms.app (hys.mono x2) (.one ?_)) hf2
          rw [eb]
          exact TimeV.mono x2 hu
        clear fin hu hfg hf2 hys h1 h2 ht xg x2 hbg hhg
        rintro σ' G3 ⟨ys, rfl, xg, ht, h1, h2, hfg, hys⟩
        have hbg := hb.mono xg
        show WB X _ _ _ _
        with_reducible refine' wb_cons ?_
        with_reducible refine' ws_to (fun σ' G4 => σ' = [some v, some ev, some (.int (rounds : Nat)), some hv, some (.ref f), some (.int (m : Nat)), some (.ref t), some (.int ((i + 1 : Nat) : Int)), some u] ∧ G3 = G4) ?_ ?_
        · repeat walk_at "w"
          rw [decide_eq_false (show ¬ (1000 : Int) < (ys.length : Nat) by rw [hys.1, List.length_append, rowB_len]; omega)]
          repeat walk_at "w"
          exact ⟨rfl, rfl⟩
        rintro σ' _ ⟨rfl, rfl⟩
        show WB X _ _ _ _
        repeat walk_at "w"
        refine ⟨i + 2, z.doubled, rfl, by omega, ?_⟩
        refine ⟨z, _, _, v, t, y1, y2, i + 2, rfl, hbg, bj, ht, h1, h2, lnA_sz bj ze (by omega), lnC_sz bj (by omega), by omega, fun o u2 G4 x4 eo hu2 => ?_⟩
        subst eo
        have hf4 := x4.keep _ _ hfg hys.ns
        refine ⟨⟨i + 1, u2, ys, rfl, li2, xg.trans x4, x4.tup ht, TimeV.mono x4 h1, TimeV.mono x4 h2, hu2, hf4, hys.mono x4⟩, ?_⟩
        show ((n m : Int) + 1 - ((i + 1 + 1 : Nat) : Int)).toNat < ((n m : Int) + 1 - ((i + 1 : Nat) : Int)).toNat
        omega
      · exact fin x2 fun l => by
          obtain ⟨b', e1, l1⟩ := hrm.go i l
          rw [eb] at e1
          cases e1
          exact hlt l1
  rintro σ' H2 ⟨c1, c2, c3, c4, ys, rfl, x2, hf2, hys⟩
  show WB X _ _ _ _
  repeat walk_at "w"
  have az : AllZ (colB (bdz z e) n rounds) := fun q hq => by
    obtain ⟨m, j, hm, hj, rfl⟩ := colB_mem hq
    obtain ⟨b, eb, _⟩ := (hrun m hm).go j hj
    rw [eb]
    exact (bdz_sz bj ze (by omega) (by have := nm m hm; omega) eb).mono (by decide)
  exact ⟨f, ys, _, rfl, hf2, hys, az, by omega, fun l zs rs H3 x3 hl ht ha hp => k l zs rs H3 (x2.trans x3) hl ht ha hp⟩
def spBreaks (K : PySem.W.Frag) : Sp := fun vs H Q _ => ∃ z e h v ev hv, ∃ rounds : Nat, ∃ n : Nat → Nat, vs = [v, ev, .int rounds, hv] ∧ BookV K z v H ∧ BkJ z ∧ z.word ∈ (["first", "marked"] : List Str) ∧ z.latest = none ∧ Tim K e ev H ∧ 0 < e ∧ Sz e 100 ∧ Tim K h hv H ∧ 0 < h ∧ Sz h 4000 ∧ 1 ≤ rounds ∧ rounds ≤ 12 ∧ (∀ m, m < rounds → Run (bdz z e m) h (n m)) ∧ (colB (bdz z e) n rounds).length ≤ 1000 ∧ ∀ l zs rs H', Ex H H' → H' l = some (.lst zs) → Tms (CT K) rs zs H' → Asc rs → rs.Perm (colB (bdz z e) n rounds) → Q (.ref l) H'
theorem f_breaks (T : Tm K mg) : GFn P w K mg base 11 "breaks" (spBreaks K) := by
  obtain ⟨fd, F⟩ := T.d_breaks
  refine GFn.mk F T.g_breaks (def_ok F sc_breaks (fun vs H Q E h => by obtain ⟨z, e, h, v, ev, hv, rounds, n, rfl, _⟩ := h; rfl) ?_) (F.bindsN fun _ _ _ _ _ _ us hl => match us, hl with | [_, _, _, _], _ => rfl)
  intro X eP ew eK em eb eN es hf nd H vs Q E B h
  subst eP ew eK em eb
  have n0 : Sl X 0 "book" := slot_of eN es hf nd rfl (by first | exact Or.inl rfl | exact Or.inr rfl) (by decide) (by decide)
  have n1 : Sl X 1 "estimate" := slot_of eN es hf nd rfl (by first | exact Or.inl rfl | exact Or.inr rfl) (by decide) (by decide)
  have n2 : Sl X 2 "rounds" := slot_of eN es hf nd rfl (by first | exact Or.inl rfl | exact Or.inr rfl) (by decide) (by decide)
  have n3 : Sl X 3 "high" := slot_of eN es hf nd rfl (by first | exact Or.inl rfl | exact Or.inr rfl) (by decide) (by decide)
  have g_check_book : Gn X "check_book" := gn_of es rfl (by decide)
  have F_check_book := f_check_book (P := X.prog) (w := X.w) (base := X.base) T
  have g_check_breaks : Gn X "check_breaks" := gn_of es rfl (by decide)
  have F_check_breaks := f_check_breaks (P := X.prog) (w := X.w) (base := X.base) T
  have g_bounds_below : Gn X "bounds_below" := gn_of es rfl (by decide)
  have F_bounds_below := f_bounds_below (P := X.prog) (w := X.w) (base := X.base) T
  obtain ⟨z, e, h, v, ev, hv, rounds, n, rfl, hb, bj, hw, hl, he, e0, ze, hh, h0, zh, r1, r12, hrun, len, k⟩ := h
  show WB X [_, _, _] _ [some (v), some (ev), some (.int (rounds : Nat)), some (hv)] H
  with_reducible refine' wb_cons ?_
  with_reducible refine' ws_to (fun σ' H' => σ' = [some v, some ev, some (.int (rounds : Nat)), some hv] ∧ Ex H H') ?_ ?_
  · with_reducible refine' ws_expr ?_ ?hs
    case hs => rfl
    repeat walk_at "w"
    refine ⟨z, v, rfl, hb, hw, hl, fun H1 x1 => ?_⟩
    repeat walk_at "w"
    exact ⟨rfl, x1⟩
  rintro σ' H1 ⟨rfl, x1⟩
  show WB X _ _ _ _
  with_reducible refine' wb_cons ?_
  with_reducible refine' ws_to (fun σ' H' => σ' = [some v, some ev, some (.int (rounds : Nat)), some hv] ∧ Ex H1 H') ?_ ?_
  · with_reducible refine' ws_expr ?_ ?hs
    case hs => rfl
    repeat walk_at "w"
    refine ⟨ev, hv, _, rfl, ⟨e, he.mono x1, e0, ze.mono (by decide)⟩, ⟨h, hh.mono x1, h0, zh⟩, by omega, by omega, fun H2 x2 => ?_⟩
    repeat walk_at "w"
    exact ⟨rfl, x2⟩
  rintro σ' H2 ⟨rfl, x2⟩
  have x12 := x1.trans x2
  show WB X _ _ _ _
  repeat walk_at "w"
  exact ⟨z, e, h, v, ev, hv, rounds, n, rfl, hb.mono x12, bj, he.mono x12, ze, hh.mono x12, zh, r12, hrun, len, fun l zs rs H3 x3 hl ht ha hp => k l zs rs H3 (x12.trans x3) hl ht ha hp⟩
end

--IMPORT Fw28
/-! ### _law_marks, _law_less_by -/
theorem mk_wk (b : Bool) (k : Nat) : Mt.mk b k + Mt.wk b k = Mt.mk b (k + 1) := by
  cases b with
  | false =>
    show ((k : Nat) : Int) + 1 = ((k + 1 : Nat) : Int)
    rfl
  | true =>
    show (2 : Int) ^ k - 1 + 2 ^ k = 2 ^ (k + 1) - 1
    rw [Int.pow_succ]
    omega
def marksW (w : Rat) (b : Bool) (n : Nat) : List Rat := (List.range n).map fun j => w * (Mt.mk b (j + 1) : Rat)
theorem marksW_succ {w : Rat} {b : Bool} {n : Nat} : marksW w b (n + 1) = marksW w b n ++ [w * (Mt.mk b (n + 1) : Rat)] := by
  unfold marksW
  rw [List.range_succ, List.map_append]
  rfl
theorem wk_sz (b : Bool) {k : Nat} (h : k ≤ 100) : Sz (Mt.wk b k : Rat) 110 := by
  cases b with
  | false => exact (Sz.int (i := 1) (n := 2) (by decide) (by decide)).mono (by decide)
  | true =>
    refine Sz.int (Nat.lt_of_le_of_lt (show ((2 : Int) ^ k).natAbs ≤ 2 ^ k from ?_) (Nat.pow_lt_pow_right (by decide) (by omega))) (by decide)
    rw [Int.natAbs_pow]
    exact Nat.le_refl _
theorem mk_szB (b : Bool) {k : Nat} (h : k ≤ 100) : Sz (Mt.mk b k : Rat) 110 := Sz.int (Nat.lt_of_le_of_lt (Mt.mk_le b k) (Nat.pow_lt_pow_right (by decide) (by omega))) (by decide)
section
variable {P : Program} {w : World} {K : PySem.W.Frag} {mg : Str → Option Value} {base : Heap}
def spMarks (K : PySem.W.Frag) : Sp := fun vs H Q _ => ∃ u h v hv b n, vs = [v, hv, .bl b] ∧ TimeV (CT K) u v H ∧ TimeV (CT K) h hv H ∧ Sz u 1000 ∧ Sz h 4000 ∧ n ≤ 90 ∧ (∀ j, j < n → u * (Mt.mk b (j + 1) : Rat) < h) ∧ ¬ u * (Mt.mk b (n + 1) : Rat) < h ∧ ∀ l zs H', Ex H H' → H' l = some (.lst zs) → Tms (CT K) (marksW u b n) zs H' → Q (.ref l) H'
theorem f__law_marks (T : Tm K mg) : GFn P w K mg base 7 "_law_marks" (spMarks K) := by
  obtain ⟨fd, F⟩ := T.d__law_marks
  refine GFn.mk F T.g__law_marks (def_ok F sc__law_marks (fun vs H Q E h => by obtain ⟨u, h, v, hv, b, n, rfl, _⟩ := h; rfl) ?_) (F.bindsN fun _ _ _ _ _ _ us hl => match us, hl with | [_, _, _], _ => rfl)
  intro X eP ew eK em eb eN es hf nd H vs Q E B h
  subst eP ew eK em eb
  have n0 : Sl X 0 "_law_wait" := slot_of eN es hf nd rfl (by first | exact Or.inl rfl | exact Or.inr rfl) (by decide) (by decide)
  have n1 : Sl X 1 "_law_high" := slot_of eN es hf nd rfl (by first | exact Or.inl rfl | exact Or.inr rfl) (by decide) (by decide)
  have n2 : Sl X 2 "_law_twofold" := slot_of eN es hf nd rfl (by first | exact Or.inl rfl | exact Or.inr rfl) (by decide) (by decide)
  have n3 : Sl X 3 "_law_marks_here" := slot_of eN es hf nd rfl (by first | exact Or.inl rfl | exact Or.inr rfl) (by decide) (by decide)
  have n4 : Sl X 4 "_law_moment" := slot_of eN es hf nd rfl (by first | exact Or.inl rfl | exact Or.inr rfl) (by decide) (by decide)
  have n5 : Sl X 5 "_law_gap" := slot_of eN es hf nd rfl (by first | exact Or.inl rfl | exact Or.inr rfl) (by decide) (by decide)
  obtain ⟨u, h, v, hv, b, n, rfl, hu, hh, zu, zh, hn, go, st, k⟩ := h
  show WB X [_, _, _, _, _] _ [some (v), some (hv), some (.bl b), none, none, none] H
  with_reducible refine' wb_cons ?_
  with_reducible refine' ws_to (fun σ' H' => ∃ f, σ' = [some v, some hv, some (.bl b), some (.ref f), none, none] ∧ Ex H H' ∧ H f = none ∧ H' f = some (.lst [])) ?_ ?_
  · repeat walk_at "w"
    refine ⟨Nat.zero_le _, fun l H1 nl x1 e => ⟨l, rfl, x1, nl, by rw [e]; exact upd_same⟩⟩
  rintro σ' H1 ⟨f, rfl, x1, nf, hf1⟩
  show WB X _ _ _ _
  with_reducible refine' wb_cons ?_
  with_reducible refine' ws_to (fun σ' H' => σ' = [some v, some hv, some (.bl b), some (.ref f), some v, none] ∧ H1 = H') ?_ ?_
  · repeat walk_at "w"
    exact ⟨rfl, rfl⟩
  rintro σ' _ ⟨rfl, rfl⟩
  show WB X _ _ _ _
  with_reducible refine' wb_cons ?_
  with_reducible refine' ws_to (fun σ' H' => σ' = [some v, some hv, some (.bl b), some (.ref f), some v, some v] ∧ H1 = H') ?_ ?_
  · repeat walk_at "w"
    exact ⟨rfl, rfl⟩
  rintro σ' _ ⟨rfl, rfl⟩
  show WB X _ _ _ _
  have e1 : u * (Mt.mk b (0 + 1) : Rat) = u := by
    rw [show Mt.mk b (0 + 1) = 1 from mk_one b]
    exact Rat.mul_one u
  have e2 : u * (Mt.wk b 0 : Rat) = u := by
    rw [show Mt.wk b 0 = 1 by cases b <;> rfl]
    exact Rat.mul_one u
  have zm : ∀ {i}, i ≤ 95 → Sz (u * (Mt.mk b i : Rat)) 4000 := fun h => (zu.mul (mk_szB b (by omega))).mono (by decide)
  have zw : ∀ {i}, i ≤ 95 → Sz (u * (Mt.wk b i : Rat)) 4000 := fun h => (zu.mul (wk_sz b (by omega))).mono (by decide)
  with_reducible refine' wb_cons ?_
  with_reducible refine' ws_to (fun σ' G => ∃ c1 c2 ys, σ' = [some v, some hv, some (.bl b), some (.ref f), c1, c2] ∧ Ex H G ∧ G f = some (.lst ys) ∧ Tms (CT X.K) (marksW u b n) ys G) ?_ ?_
  · refine ws_while_by (fun σ' G => ∃ i, ∃ m g ys, σ' = [some v, some hv, some (.bl b), some (.ref f), some m, some g] ∧ i ≤ n ∧ Ex H G ∧ TimeV (CT X.K) (u * (Mt.mk b (i + 1) : Rat)) m G ∧ TimeV (CT X.K) (u * (Mt.wk b i : Rat)) g G ∧ G f = some (.lst ys) ∧ Tms (CT X.K) (marksW u b i) ys G) (fun σ G => n - rlen G ((σ[3]?).getD none)) B ⟨0, v, v, [], rfl, Nat.zero_le _, x1, by rw [e1]; exact TimeV.mono x1 hu, by rw [e2]; exact TimeV.mono x1 hu, hf1, .nil⟩ ?_
    rintro σ' G ⟨i, m, g, ys, rfl, li, xg, hm, hg, hfg, hys⟩
    have hhg := TimeV.mono xg hh
    have ylen : ys.length = i := by rw [hys.1]; unfold marksW; rw [List.length_map, List.length_range]
    refine wt_cmp ?_ ?hm
    case hm => rfl
    have zm1 := zm (i := i + 1) (by omega)
    repeat walk_at "w"
    rename_i G2 x2
    have hf2 := x2.keep _ _ hfg hys.ns
    refine ite_dec (fun hlt => ?_) (fun hlt => ?_)
    · have li2 : i < n := Nat.lt_of_le_of_ne li fun e => by
        subst e
        exact st hlt
      show WB X _ _ _ _
      with_reducible refine' wb_cons ?_
      with_reducible refine' ws_to (fun σ' G3 => σ' = [some v, some hv, some (.bl b), some (.ref f), some m, some g] ∧ Ex H G3 ∧ TimeV (CT X.K) (u * (Mt.mk b (i + 1) : Rat)) m G3 ∧ TimeV (CT X.K) (u * (Mt.wk b i : Rat)) g G3 ∧ G3 f = some (.lst (ys ++ [m])) ∧ Tms (CT X.K) (marksW u b (i + 1)) (ys ++ [m]) G3) ?_ ?_
      · refine ws_expr (we_append ?_)
        repeat walk_at "w"
        refine ⟨f, _, rfl, hf2, ?_⟩
        repeat walk_at "w"
        refine ⟨_, hf2, ln_ok (by omega), rfl, (xg.trans x2).put nf, TimeV.upL hf2 (TimeV.mono x2 hm), TimeV.upL hf2 (TimeV.mono x2 hg), upd_same, ?_⟩
        rw [marksW_succ]
        exact Tms.upL (Tms.app (hys.mono x2) (.one (TimeV.mono x2 hm))) hf2
      have hfg0 := hfg
      clear hm hg hf2 hhg
      rintro σ' G3 ⟨rfl, x3, hm, hg, hfg, hys⟩
      show WB X _ _ _ _
      with_reducible refine' wb_cons ?_
      with_reducible refine' ws_to (fun σ' G4 => ∃ g, σ' = [some v, some hv, some (.bl b), some (.ref f), some m, some g] ∧ Ex G3 G4 ∧ TimeV (CT X.K) (u * (Mt.wk b (i + 1) : Rat)) g G4) ?_ ?_
      · cases b with
        | true =>
          have z1 := zw (i := i) (by omega)
          have z2 : Sz ((2 : Int) : Rat) 4000 := (Sz.int (n := 2) (by decide) (by decide)).mono (by decide)
          have ew : ((2 : Int) : Rat) * (u * (Mt.wk true i : Rat)) = u * (Mt.wk true (i + 1) : Rat) := by
            have e3 : Mt.wk true (i + 1) = 2 * Mt.wk true i := by
              show (2 : Int) ^ (i + 1) = 2 * 2 ^ i
              rw [Int.pow_succ, Int.mul_comm]
            rw [e3, Rat.intCast_mul]
            grind
          have z3 : Sz (((2 : Int) : Rat) * (u * (Mt.wk true i : Rat))) 4000 := by rw [ew]; exact zw (by omega)
          repeat walk_at "w"
          rename_i y G4 x4 hy
          rw [ew] at hy
          exact ⟨y, rfl, x4, hy⟩
        | false =>
          repeat walk_at "w"
          exact ⟨g, rfl, .refl _, hg⟩
      clear hg
      rintro σ' G4 ⟨g, rfl, x4, hg⟩
      have hm4 := TimeV.mono x4 hm
      have hf4 := x4.keep _ _ hfg hys.ns
      have hys4 := hys.mono x4
      have z1 := zm (i := i + 1) (by omega)
      have z2 := zw (i := i + 1) (by omega)
      have ea : u * (Mt.mk b (i + 1) : Rat) + u * (Mt.wk b (i + 1) : Rat) = u * (Mt.mk b (i + 1 + 1) : Rat) := by
        rw [← mk_wk b (i + 1), Rat.intCast_add]
        grind
      have z3 : Sz (u * (Mt.mk b (i + 1) : Rat) + u * (Mt.wk b (i + 1) : Rat)) 4000 := by rw [ea]; exact zm (by omega)
      show WB X _ _ _ _
      repeat walk_at "w"
      rename_i m2 G5 x5 hm5
      rw [ea] at hm5
      have hf5 := x5.keep _ _ hf4 hys4.ns
      refine ⟨⟨i + 1, m2, g, _, rfl, li2, (x3.trans x4).trans x5, hm5, TimeV.mono x5 hg, hf5, hys4.mono x5⟩, ?_⟩
      show n - rlen G5 (some (.ref f)) < n - rlen G (some (.ref f))
      rw [rlen_eq hf5, rlen_eq hfg0, List.length_append]
      show n - (ys.length + 1) < n - ys.length
      omega
    · obtain rfl : i = n := by
        refine Nat.le_antisymm li (Nat.not_lt.mp fun l => hlt (go i l))
      exact ⟨_, _, ys, rfl, xg.trans x2, hf2, hys.mono x2⟩
  rintro σ' G ⟨c1, c2, ys, rfl, xg, hfg, hys⟩
  show WB X _ _ _ _
  repeat walk_at "w"
  exact k f ys G xg hfg hys
def spLessBy (K : PySem.W.Frag) : Sp := fun vs H Q _ => ∃ a b xs ys L A C, vs = [.ref a, .ref b] ∧ H a = some (.lst xs) ∧ H b = some (.lst ys) ∧ Tms (CT K) L xs H ∧ Tms (CT K) A ys H ∧ AllZ L ∧ AllZ A ∧ Asc L ∧ Asc A ∧ Asc C ∧ L.Perm (A ++ C) ∧ L.length ≤ 1000 ∧ ∀ l zs H', Ex H H' → H' l = some (.lst zs) → Tms (CT K) C zs H' → Q (.ref l) H'
theorem f__law_less_by (T : Tm K mg) : GFn P w K mg base 6 "_law_less_by" (spLessBy K) := by
  obtain ⟨fd, F⟩ := T.d__law_less_by
  refine GFn.mk F T.g__law_less_by (def_ok F sc__law_less_by (fun vs H Q E h => by obtain ⟨a, b, xs, ys, L, A, C, rfl, _⟩ := h; rfl) ?_) (F.bindsN fun _ _ _ _ _ _ us hl => match us, hl with | [_, _], _ => rfl)
  intro X eP ew eK em eb eN es hf nd H vs Q E B h
  subst eP ew eK em eb
  have n0 : Sl X 0 "_law_more" := slot_of eN es hf nd rfl (by first | exact Or.inl rfl | exact Or.inr rfl) (by decide) (by decide)
  have n1 : Sl X 1 "_law_few" := slot_of eN es hf nd rfl (by first | exact Or.inl rfl | exact Or.inr rfl) (by decide) (by decide)
  have n2 : Sl X 2 "_law_rest" := slot_of eN es hf nd rfl (by first | exact Or.inl rfl | exact Or.inr rfl) (by decide) (by decide)
  have n3 : Sl X 3 "_law_at" := slot_of eN es hf nd rfl (by first | exact Or.inl rfl | exact Or.inr rfl) (by decide) (by decide)
  have n4 : Sl X 4 "_law_bound" := slot_of eN es hf nd rfl (by first | exact Or.inl rfl | exact Or.inr rfl) (by decide) (by decide)
  have z_len : Bn X "len" := bn_of es rfl T.z_len
  obtain ⟨a, b, xs, ys, L, A, C, rfl, ha, hb, hL, hA, zL, zA, aL, aA, aC, per, len, k⟩ := h
  show WB X [_, _, _, _, _] _ [some (.ref a), some (.ref b), none, none, none] H
  with_reducible refine' wb_cons ?_
  with_reducible refine' ws_to (fun σ' H' => ∃ f, σ' = [some (.ref a), some (.ref b), some (.ref f), none, none] ∧ Ex H H' ∧ H f = none ∧ H' f = some (.lst [])) ?_ ?_
  · repeat walk_at "w"
    refine ⟨Nat.zero_le _, fun l H1 nl x1 e => ⟨l, rfl, x1, nl, by rw [e]; exact upd_same⟩⟩
  rintro σ' H1 ⟨f, rfl, x1, nf, hf1⟩
  show WB X _ _ _ _
  with_reducible refine' wb_cons ?_
  with_reducible refine' ws_to (fun σ' H' => σ' = [some (.ref a), some (.ref b), some (.ref f), some (.int ((0 : Nat) : Int)), none] ∧ H1 = H') ?_ ?_
  · repeat walk_at "w"
    exact ⟨rfl, rfl⟩
  rintro σ' _ ⟨rfl, rfl⟩
  show WB X _ _ _ _
  have sa : ∀ {G : Hp}, Ex H G → G a = some (.lst xs) := fun x => x.keep _ _ ha hL.ns
  have sb : ∀ {G : Hp}, Ex H G → G b = some (.lst ys) := fun x => x.keep _ _ hb hA.ns
  have plen := per.length_eq
  rw [List.length_append] at plen
  with_reducible refine' wb_cons ?_
  with_reducible refine' ws_to (fun σ' G => ∃ c zs, σ' = [some (.ref a), some (.ref b), some (.ref f), some (.int (A.length : Nat)), c] ∧ Ex H G ∧ G f = some (.lst zs) ∧ Tms (CT X.K) C zs G) ?_ ?_
  · refine ws_for_listE B n4 ?_
    repeat walk_at "w"
    refine ⟨a, xs, rfl, fun j σ' G => ∃ c zs t i, σ' = [some (.ref a), some (.ref b), some (.ref f), some (.int (t : Nat)), c] ∧ Ex H G ∧ G f = some (.lst zs) ∧ t ≤ A.length ∧ i ≤ C.length ∧ Tms (CT X.K) (C.take i) zs G ∧ (L.drop j).Perm (A.drop t ++ C.drop i), ⟨none, [], 0, 0, rfl, x1, hf1, Nat.zero_le _, Nat.zero_le _, .nil, per⟩, fun j σ' H' _ ⟨_, _, _, _, _, x, _⟩ => .of (sa x), ?_, ?_⟩
    · rintro j v σ' G hv ⟨c, zs, t, i, rfl, xg, hfg, lt, li, hz, pj⟩
      obtain ⟨q, hqj, hvq⟩ := (hL.mono xg).get hv
      have zq1 := zL q (List.mem_of_getElem? hqj)
      have hj : j < L.length := (List.getElem?_eq_some_iff.mp hqj).1
      have ed : ∀ {M : List Rat} {i : Nat} {q : Rat}, M[i]? = some q → M.drop i = q :: M.drop (i + 1) := fun {M i q} h => by
        have hj := (List.getElem?_eq_some_iff.mp h).1
        rw [List.drop_eq_getElem_cons hj]
        congr 1
        have := List.getElem?_eq_getElem hj
        rw [h] at this
        exact (Option.some.inj this).symm
      have hd : ∀ {M M' : List Rat} {i : Nat} {q : Rat}, M.drop i = q :: M' → M[i]? = some q ∧ M' = M.drop (i + 1) ∧ i < M.length := fun {M M' i q} h => by
        have hi : i < M.length := Nat.not_le.mp fun l => by rw [List.drop_eq_nil_of_le l] at h; cases h
        have e := ed (List.getElem?_eq_getElem hi)
        rw [h] at e
        injection e with e1 e2
        exact ⟨by rw [List.getElem?_eq_getElem hi, e1], e2, hi⟩
      have aLj : Asc (q :: L.drop (j + 1)) := by
        rw [← ed hqj]
        exact aL.drop
      have cas := asc_step aLj (aA.drop (i := t)) (aC.drop (i := i)) (by rw [← ed hqj]; exact pj)
      have hbg := sb xg
      have hAg := hA.mono xg
      show WB X _ _ [some (.ref a), some (.ref b), some (.ref f), some (.int (t : Nat)), some v] G
      have skip : (A.drop t).head? ≠ some q → i < C.length ∧ C[i]? = some q ∧ (L.drop (j + 1)).Perm (A.drop t ++ C.drop (i + 1)) := fun nh => by
        rcases cas with ⟨A', e, _⟩ | ⟨_, C', e, p⟩
        · rw [e] at nh
          exact absurd rfl nh
        · obtain ⟨e1, e2, e3⟩ := hd e
          rw [e2] at p
          exact ⟨e3, e1, p⟩
      have post : ∀ {G2 : Hp}, Ex G G2 → (A.drop t).head? ≠ some q → zs.length < sizeLine ∧ Ex H (upd G2 f (.lst (zs ++ [v]))) ∧ upd G2 f (.lst (zs ++ [v])) f = some (.lst (zs ++ [v])) ∧ t ≤ A.length ∧ i + 1 ≤ C.length ∧ Tms (CT X.K) (C.take (i + 1)) (zs ++ [v]) (upd G2 f (.lst (zs ++ [v]))) ∧ (L.drop (j + 1)).Perm (A.drop t ++ C.drop (i + 1)) := fun {G2} x2 nh => by
        obtain ⟨s1, s2, s3⟩ := skip nh
        have hf2 := x2.keep _ _ hfg hz.ns
        refine ⟨ln_ok (by rw [hz.1, List.length_take]; omega), (xg.trans x2).put nf, upd_same, lt, s1, ?_, s3⟩
        rw [take_next s2]
        exact Tms.upL (Tms.app (hz.mono x2) (.one (TimeV.mono x2 hvq))) hf2
      refine wb_one (ws_if (wt_and2 (wt_cmp ?_ ?hm)))
      case hm => rfl
      repeat walk_at "w"
      rw [hA.1]
      refine ite_dec (fun hlt => ?_) (fun hlt => ?_)
      · have hta : t < A.length := by omega
        repeat walk_at "w"
        refine tms_at hbg hAg hta fun u p hu hp hup => ?_
        have zp1 := zA p (List.mem_of_getElem? hp)
        repeat walk_at "w"
        rename_i G2 x2
        have hf2 := x2.keep _ _ hfg hz.ns
        refine ite_dec (fun he => ?_) (fun he => ?_)
        · subst he
          show WB X _ _ _ _
          repeat walk_at "w"
          have ei : ((t : Nat) : Int) + 1 = ((t + 1 : Nat) : Int) := rfl
          rw [ei]
          rcases cas with ⟨A', e, pp⟩ | ⟨nh, _⟩
          · obtain ⟨e1, e2, e3⟩ := hd e
            rw [e2] at pp
            exact ⟨_, zs, t + 1, i, rfl, xg.trans x2, hf2, hta, li, hz.mono x2, pp⟩
          · rw [ed hp] at nh
            exact absurd rfl nh
        · show WB X _ _ _ _
          obtain ⟨c1, c2, c3, c4, c5, c6, c7⟩ := post x2 (by rw [ed hp]; exact fun e => he (Option.some.inj e))
          refine wb_one (ws_expr (we_append ?_))
          repeat walk_at "w"
          refine ⟨f, _, rfl, hf2, ?_⟩
          repeat walk_at "w"
          exact ⟨_, hf2, c1, _, _, t, i + 1, rfl, c2, c3, c4, c5, c6, c7⟩
      · show WB X _ _ _ _
        obtain ⟨c1, c2, c3, c4, c5, c6, c7⟩ := post (.refl _) (by rw [List.drop_eq_nil_of_le (by omega)]; exact fun e => nomatch e)
        refine wb_one (ws_expr (we_append ?_))
        repeat walk_at "w"
        refine ⟨f, _, rfl, hfg, ?_⟩
        repeat walk_at "w"
        exact ⟨_, hfg, c1, _, _, t, i + 1, rfl, c2, c3, c4, c5, c6, c7⟩
    · rintro σ' G ⟨c, zs, t, i, rfl, xg, hfg, lt, li, hz, pj⟩
      rw [hL.1, List.drop_eq_nil_of_le (Nat.le_refl _)] at pj
      have e := List.Perm.nil_eq pj |>.symm
      obtain ⟨e1, e2⟩ := List.append_eq_nil_iff.mp e
      have h1 := List.drop_eq_nil_iff.mp e1
      have h2 := List.drop_eq_nil_iff.mp e2
      obtain rfl : t = A.length := by omega
      rw [List.take_of_length_le h2] at hz
      exact ⟨c, zs, rfl, xg, hfg, hz⟩
  rintro σ' G ⟨c, zs, rfl, xg, hfg, hz⟩
  have hbg := sb xg
  show WB X _ _ _ _
  repeat walk_at "w"
  rw [hA.1, decide_eq_false (show ¬ (A.length : Int) < (A.length : Nat) by omega)]
  repeat walk_at "w"
  exact k f zs G xg hfg hz
end

--IMPORT Fw28
/-! ### times equal within lists -/
section
variable {P : Program} {w : World} {K : PySem.W.Frag} {mg : Str → Option Value} {base : Heap}
def RTm (K : PySem.W.Frag) : Addr → Addr → Hp → Prop := fun a b H => ∃ q dx dy, H a = some (.ins (CT K) dx (tfs q)) ∧ H b = some (.ins (CT K) dy (tfs q))
theorem ok_eqS (T : Tm K mg) : ∃ fd, FnOk P w K mg base (RX P w) 5 (MT K "__eq__") fd ["self", "other"] (spEq (RTm K)) ∧ Binds K fd ["self", "other"] [] := by
  obtain ⟨fd, F⟩ := T.d_Time___eq__
  refine ⟨fd, def_ok F sc_Time___eq__ (fun vs H Q E h => by obtain ⟨a, b, rfl, _⟩ := h; rfl) ?_, (F.bindsN fun _ _ _ _ _ _ us hl => match us, hl with | [_, _], _ => rfl)⟩
  intro X eP ew eK em eb eN es hf nd H vs Q E B h
  subst eP ew eK em eb
  have n0 : Sl X 0 "self" := slot_of eN es hf nd rfl (by first | exact Or.inl rfl | exact Or.inr rfl) (by decide) (by decide)
  have n1 : Sl X 1 "other" := slot_of eN es hf nd rfl (by first | exact Or.inl rfl | exact Or.inr rfl) (by decide) (by decide)
  have n2 : Sl X 2 "same" := slot_of eN es hf nd rfl (by first | exact Or.inl rfl | exact Or.inr rfl) (by decide) (by decide)
  have g_is_time : Gn X "is_time" := gn_of es rfl (by decide)
  have F_is_time := f_is_time (P := X.prog) (w := X.w) (base := X.base) T
  have g_time_of : Gn X "time_of" := gn_of es rfl (by decide)
  have F_time_of := f_time_of (P := X.prog) (w := X.w) (base := X.base) T
  obtain ⟨a, b, rfl, ⟨q, dx, dy, ha, hb⟩, k⟩ := h
  show WB X [_, _, _] _ [some (.ref a), some (.ref b), none] H
  have hv : TimeV (CT X.K) q (.ref a) H := ⟨a, dx, rfl, ha⟩
  have hu : TimeV (CT X.K) q (.ref b) H := ⟨b, dy, rfl, hb⟩
  repeat walk_at "w"
  refine it_T T hu ?_
  repeat walk_at "w"
  refine to_T hu ?_
  repeat walk_at "w"
  rw [decide_eq_true (rfl : q.num = q.num)]
  repeat walk_at "w"
  rw [decide_eq_true (rfl : (q.den : Int) = q.den)]
  exact k H Ext.rfl'
end
def DTm (K : PySem.W.Frag) : Eqv := DIns (CT K) (RTm K)
theorem mon_tm {K : PySem.W.Frag} : Mon (DTm K) := mon_ins fun a b H H' e h => by
  obtain ⟨q, dx, dy, h1, h2⟩ := h
  exact ⟨q, dx, dy, e _ _ h1, e _ _ h2⟩
theorem eq_tm {X : Cx} {k : Nat} {E : XK} (B : Body X k fun _ => E) (T : Tm X.K X.mg) : EqG X 5 (DTm X.K) := by
  obtain ⟨fd, F, hb⟩ := ok_eqS (P := X.prog) (w := X.w) (base := X.base) T
  exact eqG_ins F T.o_Time___eq__.at_ T.o_Time___eq__.fn hb B.pass
theorem DTm.of {K : PySem.W.Frag} {q : Rat} {v u : V} {H : Hp} (h : TimeV (CT K) q v H) (h' : TimeV (CT K) q u H) : DTm K v u H := by
  obtain ⟨a, dx, rfl, ha⟩ := h
  obtain ⟨b, dy, rfl, hb⟩ := h'
  exact ⟨a, b, dx, dy, _, _, rfl, rfl, ha, hb, q, dx, dy, ha, hb⟩

/-! ### another unit: rules, _law_scaled -/
theorem RbOk.dn {r : RB} (h : RbOk r) : RbD r := by
  obtain ⟨a1, a2, a3⟩ := h.sh
  obtain ⟨b1, b2, b3, b4⟩ := h.fa
  obtain ⟨c1, c2, c3, c4⟩ := h.ma
  have up : ∀ {i : Int}, i.natAbs < 1000 → i.natAbs < 2 ^ 200 := fun h => Nat.lt_of_lt_of_le (Nat.lt_of_lt_of_le h (show 1000 ≤ 2 ^ 10 by decide)) (Nat.pow_le_pow_right (by decide) (by decide))
  refine ⟨⟨by omega, up (by omega)⟩, ⟨by omega, up (by omega)⟩, ⟨by omega, up (by omega)⟩, fun c e => ?_, fun c e => ?_⟩
  · obtain ⟨d1, d2, d3, d4⟩ := h.fl c e
    exact ⟨by omega, up (by omega)⟩
  · obtain ⟨d1, d2, d3, d4, _⟩ := h.ro c e
    exact ⟨by omega, up (by omega)⟩
def UnP (c : IP) : Prop := 1 ≤ c.1 ∧ c.1 ≤ 1000000000 ∧ 1 ≤ c.2 ∧ c.2 ≤ 12
theorem we_cutM {X : Cx} {σ : L2.St} {H : Hp} {Q : VK} {a b c : Expr} {pos p2 : Pos} (h : WE X a σ H fun v H1 => WE X b σ H1 fun w H2 => ∃ i, w = .int i ∧ WE X c σ H2 fun y H3 => ∃ p xs j, v = .ref p ∧ y = .int j ∧ SqL X.K H3 p xs ∧ ∀ l, H3 l = none → Q (.ref l) (upd H3 l (.lst (cutV xs (some i) (some j))))) : WE X (.Subscript a (.Slice (some b) (some c) none p2) pos) σ H Q :=
  weP (pe_slice sl_list peS (po_some peS) (po_some peS)) (we_mono h fun v H1 z => we_mono z fun w H2 z => by
    obtain ⟨i, rfl, z⟩ := z
    refine ⟨i, rfl, we_mono z fun y H3 z => ?_⟩
    obtain ⟨p, xs, j, rfl, rfl, h1, z⟩ := z
    exact ⟨j, rfl, p, xs, rfl, h1, z⟩)
def mup (c d : IP) : IP := (d.1 * c.1, d.2 * c.2)
def rbU (c : IP) (r : RB) : RB := { r with ma := mup c r.ma, fl := r.fl.map (mup c), ro := r.ro.map (mup c) }
theorem pq_mup (c d : IP) : pq (mup c d) = pq c * pq d := by
  unfold pq mup
  rw [Rat.divInt_mul_divInt, Int.mul_comm d.1, Int.mul_comm d.2]
theorem rbU_bk (c : IP) (r : RB) : (rbU c r).bk = scz (pq c) r.bk := by
  unfold RB.bk rbU scz
  show Bk.mk _ _ _ _ (pq (mup c r.ma)) ((r.fl.map (mup c)).map pq) ((r.ro.map (mup c)).map pq) _ _ = Bk.mk _ _ _ _ (pq c * pq r.ma) ((r.fl.map pq).map (pq c * ·)) ((r.ro.map pq).map (pq c * ·)) _ _
  have e : ∀ o : Option IP, (o.map (mup c)).map pq = (o.map pq).map (pq c * ·) := fun o => by
    cases o with
    | none => rfl
    | some d => exact congrArg some (pq_mup c d)
  rw [pq_mup, e, e]
theorem UnP.pos {c : IP} (h : UnP c) : 0 < pq c := (dv_pos (by have := h.2.2.1; omega)).mpr (by have := h.1; omega)
theorem mup_n {c d : IP} (hc : UnP c) (h1 : 0 ≤ d.1) (h2 : d.1 ≤ 1000) (h3 : 1 ≤ d.2) (h4 : d.2 ≤ 1000) : (mup c d).1.natAbs < 2 ^ 60 ∧ (mup c d).2 ≠ 0 ∧ (mup c d).2.natAbs < 2 ^ 60 := by
  obtain ⟨c1, c2, c3, c4⟩ := hc
  have p1 : d.1 * c.1 ≤ 1000 * 1000000000 := Int.mul_le_mul h2 c2 (by omega) (by decide)
  have p2 : 0 ≤ d.1 * c.1 := Int.mul_nonneg h1 (by omega)
  have p3 : 1 * 1 ≤ d.2 * c.2 := Int.mul_le_mul h3 c3 (by decide) (by omega)
  have p4 : d.2 * c.2 ≤ 1000 * 12 := Int.mul_le_mul h4 c4 (by omega) (by decide)
  refine ⟨?_, ?_, ?_⟩
  · show (d.1 * c.1).natAbs < 2 ^ 60
    omega
  · show d.2 * c.2 ≠ 0
    omega
  · show (d.2 * c.2).natAbs < 2 ^ 60
    omega
theorem rbU_ok {c : IP} {r : RB} (hc : UnP c) (h : RbOk r) : BkOk (rbU c r).bk ∧ RbD (rbU c r) := by
  obtain ⟨c1, c2, c3, c4⟩ := h.ma
  have b := h.bk
  have u0 := hc.pos
  have d := h.dn
  have up : ∀ {n : Nat}, n < 2 ^ 60 → n < 2 ^ 200 := fun h => Nat.lt_of_lt_of_le h (Nat.pow_le_pow_right (by decide) (by decide))
  have mm := mup_n (d := r.ma) hc c1 (by omega) c3 (by omega)
  have fm : ∀ g, r.fl = some g → (mup c g).1.natAbs < 2 ^ 60 ∧ (mup c g).2 ≠ 0 ∧ (mup c g).2.natAbs < 2 ^ 60 := fun g e => by
    obtain ⟨d1, d2, d3, d4⟩ := h.fl g e
    exact mup_n hc (by omega) (by omega) d3 (by omega)
  have rm : ∀ g, r.ro = some g → (mup c g).1.natAbs < 2 ^ 60 ∧ (mup c g).2 ≠ 0 ∧ (mup c g).2.natAbs < 2 ^ 60 := fun g e => by
    obtain ⟨d1, d2, d3, d4, _⟩ := h.ro g e
    exact mup_n hc (by omega) (by omega) d3 (by omega)
  have sz : ∀ {g : IP}, (mup c g).1.natAbs < 2 ^ 60 ∧ (mup c g).2 ≠ 0 ∧ (mup c g).2.natAbs < 2 ^ 60 → Sz (pq (mup c g)) 1000 := fun ⟨h1, h2, h3⟩ => (Sz.div h2 h1 h3).mono (by decide)
  refine ⟨⟨b.word, b.sh0, b.sh1, b.lat, b.fa, ?_, fun f e => ?_, fun q e => ?_, b.ke, b.z1, b.z2, sz mm, fun f e => ?_, fun f e => ?_⟩, ⟨d.sh, d.fa, ⟨mm.2.1, up mm.2.2⟩, fun g e => ?_, fun g e => ?_⟩⟩
  · show 0 ≤ pq (mup c r.ma)
    rw [pq_mup]
    exact Rat.mul_nonneg (Rat.le_of_lt u0) b.ma
  · obtain ⟨g, eg, rfl⟩ := Option.map_eq_some_iff.mp (show (r.fl.map (mup c)).map pq = some f from e)
    obtain ⟨g0, e0, rfl⟩ := Option.map_eq_some_iff.mp eg
    rw [pq_mup]
    exact Rat.mul_pos u0 (b.fl _ (by show r.fl.map pq = _; rw [e0]; rfl))
  · obtain ⟨g, eg, rfl⟩ := Option.map_eq_some_iff.mp (show (r.ro.map (mup c)).map pq = some q from e)
    obtain ⟨g0, e0, rfl⟩ := Option.map_eq_some_iff.mp eg
    have br := b.ro (pq g0) (by show r.ro.map pq = _; rw [e0]; rfl)
    rw [pq_mup]
    refine ⟨Rat.mul_pos u0 br.1, fun f ef => ?_⟩
    obtain ⟨h, eh, rfl⟩ := Option.map_eq_some_iff.mp (show (r.fl.map (mup c)).map pq = some f from ef)
    obtain ⟨h0, f0, rfl⟩ := Option.map_eq_some_iff.mp eh
    rw [pq_mup]
    exact Rat.mul_le_mul_of_nonneg_left (br.2 _ (by show r.fl.map pq = _; rw [f0]; rfl)) (Rat.le_of_lt u0)
  · obtain ⟨g, eg, rfl⟩ := Option.map_eq_some_iff.mp (show (r.fl.map (mup c)).map pq = some f from e)
    obtain ⟨g0, e0, rfl⟩ := Option.map_eq_some_iff.mp eg
    exact sz (fm g0 e0)
  · obtain ⟨g, eg, rfl⟩ := Option.map_eq_some_iff.mp (show (r.ro.map (mup c)).map pq = some f from e)
    obtain ⟨g0, e0, rfl⟩ := Option.map_eq_some_iff.mp eg
    exact sz (rm g0 e0)
  · obtain ⟨g0, e0, rfl⟩ := Option.map_eq_some_iff.mp (show r.fl.map (mup c) = some g from e)
    exact ⟨(fm g0 e0).2.1, up (fm g0 e0).2.2⟩
  · obtain ⟨g0, e0, rfl⟩ := Option.map_eq_some_iff.mp (show r.ro.map (mup c) = some g from e)
    exact ⟨(rm g0 e0).2.1, up (rm g0 e0).2.2⟩
theorem o_eqList {X : Cx} {n k : Nat} {D : Eqv} {E : L2.St → XK} {H : Hp} {Q : VK} (B : Body X k E) (hD : Mon D) (h : EqG X n D) (hk : n + 1 ≤ k) {a b : Addr} {xs ys : List V} (ha : H a = some (.lst xs)) (hb : H b = some (.lst ys)) (p : L2.Prs D xs ys H) (q : ∀ H', Ext H H' → Q (.bl true) H') : Op2 X (compareOp .Eq) (.ref a) (.ref b) H Q :=
  op2_of (op_eqG (rcG_list hD h) (B.room.mono hk)) ⟨⟨a, b, xs, ys, rfl, rfl, ha, hb, p⟩, q⟩
/-- drawn rules -/
theorem RbOk.bj {r : RB} (h : RbOk r) : BkJ r.bk := by
  obtain ⟨a1, a2, a3⟩ := h.sh
  obtain ⟨b1, b2, b3, b4⟩ := h.fa
  obtain ⟨c1, c2, c3, c4⟩ := h.ma
  have up : ∀ {q : Rat}, Sz q 9 → Sz q 60 := fun h => h.mono (by decide)
  refine ⟨h.bk, sz_pq (by omega) (by omega) (by omega), sz_pq (by omega) (by omega) (by omega), up (sz_pq (by omega) (by omega) (by omega)), fun f e => ?_, fun f e => ?_⟩
  · obtain ⟨c, ec, rfl⟩ := Option.map_eq_some_iff.mp (show r.fl.map pq = some f from e)
    obtain ⟨d1, d2, d3, d4⟩ := h.fl c ec
    exact up (sz_pq (by omega) (by omega) (by omega))
  · obtain ⟨c, ec, rfl⟩ := Option.map_eq_some_iff.mp (show r.ro.map pq = some f from e)
    obtain ⟨d1, d2, d3, d4, _⟩ := h.ro c ec
    exact up (sz_pq (by omega) (by omega) (by omega))
theorem rbU_bj {c : IP} {r : RB} (hc : UnP c) (h : RbOk r) : BkJ (rbU c r).bk := by
  obtain ⟨c1, c2, c3, c4⟩ := h.ma
  have sz : ∀ {g : IP}, (mup c g).1.natAbs < 2 ^ 60 ∧ (mup c g).2 ≠ 0 ∧ (mup c g).2.natAbs < 2 ^ 60 → Sz (pq (mup c g)) 60 := fun ⟨h1, h2, h3⟩ => Sz.div h2 h1 h3
  have j := h.bj
  refine ⟨(rbU_ok hc h).1, j.s1, j.s2, sz (mup_n (d := r.ma) hc c1 (by omega) c3 (by omega)), fun f e => ?_, fun f e => ?_⟩
  · obtain ⟨g, eg, rfl⟩ := Option.map_eq_some_iff.mp (show (r.fl.map (mup c)).map pq = some f from e)
    obtain ⟨g0, e0, rfl⟩ := Option.map_eq_some_iff.mp eg
    obtain ⟨d1, d2, d3, d4⟩ := h.fl g0 e0
    exact sz (mup_n hc (by omega) (by omega) d3 (by omega))
  · obtain ⟨g, eg, rfl⟩ := Option.map_eq_some_iff.mp (show (r.ro.map (mup c)).map pq = some f from e)
    obtain ⟨g0, e0, rfl⟩ := Option.map_eq_some_iff.mp eg
    obtain ⟨d1, d2, d3, d4, _⟩ := h.ro g0 e0
    exact sz (mup_n hc (by omega) (by omega) d3 (by omega))
theorem unp_sz {c : IP} (h : UnP c) : Sz (pq c) 31 := by
  obtain ⟨c1, c2, c3, c4⟩ := h
  exact Sz.div (by omega) (by omega) (by omega)
section
variable {P : Program} {w : World} {K : PySem.W.Frag} {mg : Str → Option Value} {base : Heap}
def spScaled : Sp := fun vs H Q _ => ∃ v uv o c, vs = [v, uv] ∧ OPu o v H ∧ PrU c uv H ∧ UnP c ∧ (∀ d, o = some d → d.1.natAbs < 2 ^ 20 ∧ d.2.natAbs < 2 ^ 20) ∧ ∀ v' H', Ex H H' → OPu (o.map (mup c)) v' H' → Q v' H'
theorem f__law_scaled (T : Tm K mg) : GFn P w K mg base 2 "_law_scaled" spScaled := by
  obtain ⟨fd, F⟩ := T.d__law_scaled
  refine GFn.mk F T.g__law_scaled (def_ok F sc__law_scaled (fun vs H Q E h => by obtain ⟨v, uv, o, c, rfl, _⟩ := h; rfl) ?_) (F.bindsN fun _ _ _ _ _ _ us hl => match us, hl with | [_, _], _ => rfl)
  intro X eP ew eK em eb eN es hf nd H vs Q E B h
  subst eP ew eK em eb
  have n0 : Sl X 0 "_law_pair_here" := slot_of eN es hf nd rfl (by first | exact Or.inl rfl | exact Or.inr rfl) (by decide) (by decide)
  have n1 : Sl X 1 "_law_unit" := slot_of eN es hf nd rfl (by first | exact Or.inl rfl | exact Or.inr rfl) (by decide) (by decide)
  obtain ⟨v, uv, o, c, rfl, hv, hu, hc, ho, k⟩ := h
  show WB X [_, _] _ [some (v), some (uv)] H
  obtain ⟨c1, c2, c3, c4⟩ := hc
  repeat walk_at "w"
  cases o with
  | none =>
    cases hv
    rw [decide_eq_true (rfl : V.non = V.non)]
    repeat walk_at "w"
    exact k _ _ (.refl _) rfl
  | some d =>
    have hd : PrU d v H := hv
    obtain ⟨b1, b2⟩ := ho d rfl
    rw [decide_eq_false (PrU.nn hd)]
    repeat walk_at "w"
    refine o_mul (wide_mul (a := 20) (b := 40) b1 (by omega) (by decide) (by decide) (by decide)) ?_
    repeat walk_at "w"
    refine o_mul (wide_mul (a := 20) (b := 40) b2 (by omega) (by decide) (by decide) (by decide)) ?_
    repeat walk_at "w"
    rename_i t H1 x1 ht
    exact k _ _ x1 ⟨t, rfl, ht⟩
end

/-! ### _law_in_unit -/
theorem PrU.upl {c : IP} {v : V} {H : Hp} {p : Addr} {xs : List V} {u : HO} (hp : H p = some (.lst xs)) (h : PrU c v H) : PrU c v (upd H p u) := by
  obtain ⟨q, rfl, hq⟩ := h
  exact ⟨q, rfl, (upd_ne (fun e => by subst e; rw [hp] at hq; cases hq)).trans hq⟩
theorem OPu.upl {o : Option IP} {v : V} {H : Hp} {p : Addr} {xs : List V} {u : HO} (hp : H p = some (.lst xs)) (h : OPu o v H) : OPu o v (upd H p u) := by
  cases o with
  | none => exact h
  | some c => exact PrU.upl hp h
section
variable {P : Program} {w : World} {K : PySem.W.Frag} {mg : Str → Option Value} {base : Heap}
def spInUnit (K : PySem.W.Frag) : Sp := fun vs H Q _ => ∃ r c e h l v1 v3 v4 v5 v6 ev hv b ys rs uv, ∃ many : Nat, ∃ n : Nat → Nat, vs = [.ref l, ev, .int many, hv, .ref b, uv] ∧ H l = some (.lst (row9 r.bk v1 v3 v4 v5 v6)) ∧ RuU r v1 v3 v4 v5 v6 H ∧ RbOk r ∧ r.word ∈ (["first", "marked"] : List Str) ∧ r.lat = none ∧
  TimeV (CT K) e ev H ∧ TimeV (CT K) h hv H ∧ 0 < e ∧ Sz e 45 ∧ 0 < h ∧ Sz h 2000 ∧ H b = some (.lst ys) ∧ Tms (CT K) rs ys H ∧ Asc rs ∧ rs.Perm (colB (bdz r.bk e) n many) ∧ PrU c uv H ∧ UnP c ∧ 1 ≤ many ∧ many ≤ 12 ∧ (∀ m, m < many → Run (bdz r.bk e m) h (n m)) ∧ (colB (bdz r.bk e) n many).length ≤ 1000 ∧ ∀ H', Ex H H' → Q (.bl true) H'
theorem f__law_in_unit (T : Tm K mg) : GFn P w K mg base 14 "_law_in_unit" (spInUnit K) := by
  obtain ⟨fd, F⟩ := T.d__law_in_unit
  refine GFn.mk F T.g__law_in_unit (def_ok F sc__law_in_unit (fun vs H Q E h => by obtain ⟨r, c, e, h, l, v1, v3, v4, v5, v6, ev, hv, b, ys, rs, uv, many, n, rfl, _⟩ := h; rfl) ?_) (F.bindsN fun _ _ _ _ _ _ us hl => match us, hl with | [_, _, _, _, _, _], _ => rfl)
  intro X eP ew eK em eb eN es hf nd H vs Q E B h
  subst eP ew eK em eb
  have n0 : Sl X 0 "_law_rules_here" := slot_of eN es hf nd rfl (by first | exact Or.inl rfl | exact Or.inr rfl) (by decide) (by decide)
  have n1 : Sl X 1 "_law_estimate" := slot_of eN es hf nd rfl (by first | exact Or.inl rfl | exact Or.inr rfl) (by decide) (by decide)
  have n2 : Sl X 2 "_law_many" := slot_of eN es hf nd rfl (by first | exact Or.inl rfl | exact Or.inr rfl) (by decide) (by decide)
  have n3 : Sl X 3 "_law_high" := slot_of eN es hf nd rfl (by first | exact Or.inl rfl | exact Or.inr rfl) (by decide) (by decide)
  have n4 : Sl X 4 "_law_bounds" := slot_of eN es hf nd rfl (by first | exact Or.inl rfl | exact Or.inr rfl) (by decide) (by decide)
  have n5 : Sl X 5 "_law_unit" := slot_of eN es hf nd rfl (by first | exact Or.inl rfl | exact Or.inr rfl) (by decide) (by decide)
  have n6 : Sl X 6 "_law_turned" := slot_of eN es hf nd rfl (by first | exact Or.inl rfl | exact Or.inr rfl) (by decide) (by decide)
  have n7 : Sl X 7 "_law_by" := slot_of eN es hf nd rfl (by first | exact Or.inl rfl | exact Or.inr rfl) (by decide) (by decide)
  have n8 : Sl X 8 "_law_told" := slot_of eN es hf nd rfl (by first | exact Or.inl rfl | exact Or.inr rfl) (by decide) (by decide)
  have g_Time : Gn X "Time" := gn_of es rfl (by decide)
  have m_Time := T.g_Time
  have g_breaks : Gn X "breaks" := gn_of es rfl (by decide)
  have F_breaks := f_breaks (P := X.prog) (w := X.w) (base := X.base) T
  have g__law_book : Gn X "_law_book" := gn_of es rfl (by decide)
  have F__law_book := f__law_book (P := X.prog) (w := X.w) (base := X.base) T
  have F__law_scaled := f__law_scaled (P := X.prog) (w := X.w) (base := X.base) T
  obtain ⟨r, c, e, h, l, v1, v3, v4, v5, v6, ev, hv, b, ys, rs, uv, many, n, rfl, hl, hr, ok, hw, hlat, he, hh, e0, ze, h0, zh, hb, hys, asc, per, hu, hc, m1, m12, hrun, len, k⟩ := h
  show WB X [_, _, _, _] _ [some (.ref l), some (ev), some (.int (many : Nat)), some (hv), some (.ref b), some (uv), none, none, none, none, none] H
  with_reducible refine' wb_cons ?_
  with_reducible refine' ws_to (fun σ' H' => ∃ l2 v4' v5' v6', σ' = [some (.ref l), some ev, some (.int (many : Nat)), some hv, some (.ref b), some uv, some (.ref l2), none, none, none, none] ∧ Ex H H' ∧ H' l2 = some (.lst (row9 (rbU c r).bk v1 v3 v4' v5' v6')) ∧ RuU (rbU c r) v1 v3 v4' v5' v6' H') ?_ ?_
  · refine ws_set n6 (we_bin (we_bin (we_cutU ?_))) (by rfl)
    repeat walk_at "w"
    refine ⟨l, _, 4, rfl, rfl, .of hl, fun q1 nq1 => ?_⟩
    have y1 : Ex H (upd H q1 (.lst (cutV (row9 r.bk v1 v3 v4 v5 v6) none (some 4)))) := Ex.new nq1
    have hq1 : (upd H q1 (.lst (cutV (row9 r.bk v1 v3 v4 v5 v6) none (some 4)))) q1 = some (.lst [.str r.bk.word, v1, latV r.bk.latest, v3]) := upd_same
    generalize upd H q1 (.lst (cutV (row9 r.bk v1 v3 v4 v5 v6) none (some 4))) = H5 at y1 hq1 ⊢
    refine we_lc (x := "_law_pair_here") (i := 10) B (by rw [eN]; exact nd) (by rw [eN]; rfl) rfl (by rw [eN, es]; exact blkOk_by (by decide +kernel)) (we_cutM ?_)
    repeat walk_at "w"
    have hl5 := y1.keep _ _ hl ns9b
    refine ⟨l, _, 7, rfl, rfl, .of hl5, fun q2 nq2 => ?_⟩
    have y2 : Ex H5 (upd H5 q2 (.lst (cutV (row9 r.bk v1 v3 v4 v5 v6) (some 4) (some 7)))) := Ex.new nq2
    have hq2 : (upd H5 q2 (.lst (cutV (row9 r.bk v1 v3 v4 v5 v6) (some 4) (some 7)))) q2 = some (.lst [v4, v5, v6]) := upd_same
    generalize upd H5 q2 (.lst (cutV (row9 r.bk v1 v3 v4 v5 v6) (some 4) (some 7))) = H6 at y2 hq2 ⊢
    have hr6 := hr.mono (y1.trans y2)
    have hu6 := hu.mono (y1.trans y2)
    have nq : ¬ Src (.lst [v4, v5, v6]) := ns_len (show 3 ≠ 4 by decide)
    refine ⟨q2, _, rfl, .of hq2, fun D hD => ⟨fun j G => ∃ ys, Ex H6 G ∧ G D = some (.lst ys) ∧ ys.length = j ∧ ∀ i y, ys[i]? = some y → OPu ((([some r.ma, r.fl, r.ro] : List (Option IP)).getD i none).map (mup c)) y G, ⟨[], Ex.new hD, upd_same, rfl, fun i y e => nomatch e⟩, ?_, ?_, ?_⟩⟩
    · rintro j G _ ⟨ys, xg, _⟩
      exact .of (xg.keep _ _ hq2 nq)
    · rintro j v G hv ⟨ys, xg, hgD, ylen, hy⟩ s H0 C cl fp
      have j3 : j < 3 := (List.getElem?_eq_some_iff.mp hv).1
      have hov : OPu (([some r.ma, r.fl, r.ro] : List (Option IP)).getD j none) v G ∧ ∀ d, ([some r.ma, r.fl, r.ro] : List (Option IP)).getD j none = some d → d.1.natAbs < 2 ^ 20 ∧ d.2.natAbs < 2 ^ 20 := by
        have b1 := ok.ma
        rcases (show j = 0 ∨ j = 1 ∨ j = 2 by omega) with rfl | rfl | rfl
        · cases hv
          exact ⟨hr6.ma.mono xg, fun d e => by cases e; omega⟩
        · cases hv
          exact ⟨hr6.fl.mono xg, fun d e => by have := ok.fl d e; unfold FlP at this; omega⟩
        · cases hv
          exact ⟨hr6.ro.mono xg, fun d e => by have := ok.ro d e; unfold RoP at this; omega⟩
      refine in_blk B rfl fun B => ?_
      refine in_own (i := 10) (x := "_law_pair_here") eN nd rfl rfl (by decide) (by decide) fun n10 => ?_
      refine in_free (i := 5) (x := "_law_unit") eN es rfl (by decide +kernel) (by decide) (by decide) fun n5 => ?_
      refine in_gn "_law_scaled" rfl (by decide) fun g_s => ?_
      refine we_call B g_s (f__law_scaled (P := X.prog) (w := X.w) (base := X.base) T) (by decide) ?_
      repeat walk_at "w"
      refine ⟨v, uv, _, c, rfl, hov.1, hu6.mono xg, hc, hov.2, fun y G2 xg2 hy2 => ?_⟩
      have nys : ¬ Src (.lst ys) := ns_len (by omega)
      have hg2 := xg2.keep _ _ hgD nys
      refine ⟨ys, hg2, by rw [ylen]; exact Nat.lt_of_lt_of_le (show j < 1000 by omega) (by decide), ys ++ [y], (xg.trans xg2).put hD, upd_same, by rw [List.length_append, ylen]; rfl, fun i u e => ?_⟩
      refine OPu.upl hg2 ?_
      by_cases ci : i < ys.length
      · rw [List.getElem?_append_left ci] at e
        exact (hy i u e).mono xg2
      · rw [List.getElem?_append_right (by omega)] at e
        have ei : i - ys.length = 0 := by
          have := (List.getElem?_eq_some_iff.mp e).1
          have e1 : [y].length = 1 := rfl
          omega
        rw [ei] at e
        cases e
        rw [show i = j by omega]
        exact hy2
    · rintro G ⟨ys, xg, hgD, ylen, hy⟩
      have ylen : ys.length = 3 := ylen
      obtain ⟨y4, y5, y6, rfl⟩ : ∃ y4 y5 y6, ys = [y4, y5, y6] := by
        match ys, ylen with
        | [y4, y5, y6], _ => exact ⟨_, _, _, rfl⟩
      have hq1g := (y2.trans xg).keep _ _ hq1 ns_str
      refine o_catL hq1g hgD (show 4 + 3 ≤ sizeLine by decide) fun q3 nq3 => ?_
      have xg3 := Ex.new (o := .lst ([.str r.bk.word, v1, latV r.bk.latest, v3] ++ [y4, y5, y6])) nq3
      have hq3 : (upd G q3 (.lst ([.str r.bk.word, v1, latV r.bk.latest, v3] ++ [y4, y5, y6]))) q3 = some (.lst [.str r.bk.word, v1, latV r.bk.latest, v3, y4, y5, y6]) := upd_same
      generalize upd G q3 (.lst ([.str r.bk.word, v1, latV r.bk.latest, v3] ++ [y4, y5, y6])) = G3 at xg3 hq3 ⊢
      refine we_cutL ?_
      repeat walk_at "w"
      have hlg := (((y1.trans y2).trans xg).trans xg3).keep _ _ hl ns9b
      refine ⟨l, _, 7, rfl, rfl, .of hlg, fun q4 nq4 => ?_⟩
      have xg4 := Ex.new (o := .lst (cutV (row9 r.bk v1 v3 v4 v5 v6) (some 7) none)) nq4
      have hq4 : (upd G3 q4 (.lst (cutV (row9 r.bk v1 v3 v4 v5 v6) (some 7) none))) q4 = some (.lst [.bl r.bk.doubled, .bl r.bk.kept]) := upd_same
      generalize upd G3 q4 (.lst (cutV (row9 r.bk v1 v3 v4 v5 v6) (some 7) none)) = G4 at xg4 hq4 ⊢
      refine o_catL (xg4.keep _ _ hq3 ns_str) hq4 (show 7 + 2 ≤ sizeLine by decide) fun q5 nq5 => ?_
      have xg5 := Ex.new (o := .lst ([.str r.bk.word, v1, latV r.bk.latest, v3, y4, y5, y6] ++ [.bl r.bk.doubled, .bl r.bk.kept])) nq5
      have x345 := (xg3.trans xg4).trans xg5
      have x15 := ((y1.trans y2).trans xg).trans x345
      have hrl := hr.mono x15
      exact ⟨q5, y4, y5, y6, rfl, x15, upd_same, hrl.sh, hrl.fa, (hy 0 y4 rfl).mono x345, (hy 1 y5 rfl).mono x345, (hy 2 y6 rfl).mono x345⟩
  rintro σ' H5 ⟨l2, w4, w5, w6, rfl, x5, hl2, hr2⟩
  have hu5 := hu.mono x5
  have he5 := TimeV.mono x5 he
  have hh5 := TimeV.mono x5 hh
  show WB X _ _ _ _
  with_reducible refine' wb_cons ?_
  with_reducible refine' ws_to (fun σ' H' => ∃ y, σ' = [some (.ref l), some ev, some (.int (many : Nat)), some hv, some (.ref b), some uv, some (.ref l2), some y, none, none, none] ∧ Ex H5 H' ∧ TimeV (CT X.K) (pq c) y H') ?_ ?_
  · obtain ⟨c1, c2, c3, c4⟩ := hc
    repeat walk_at "w"
    exact ⟨_, _, rfl, rfl, by omega, g1_sz (by omega) (Nat.lt_of_lt_of_le (show c.2.natAbs < 2 ^ 10 by omega) (Nat.pow_le_pow_right (by decide) (by decide))), fun y H1 x1 hy => ⟨y, rfl, x1, hy⟩⟩
  rintro σ' H6 ⟨y, rfl, x6, hy⟩
  have he6 := TimeV.mono x6 he5
  have hh6 := TimeV.mono x6 hh5
  have hr6 := hr2.mono x6
  have hl6 := x6.keep _ _ hl2 ns9b
  have zc := unp_sz hc
  have c0 := hc.pos
  have ze4 : Sz e 4000 := ze.mono (by decide)
  have zh4 : Sz h 4000 := zh.mono (by decide)
  have zc4 : Sz (pq c) 4000 := zc.mono (by decide)
  show WB X _ _ _ _
  with_reducible refine' wb_cons ?_
  with_reducible refine' ws_to (fun σ' H' => ∃ t zs, σ' = [some (.ref l), some ev, some (.int (many : Nat)), some hv, some (.ref b), some uv, some (.ref l2), some y, some (.ref t), none, none] ∧ Ex H6 H' ∧ H' t = some (.lst zs) ∧ Tms (CT X.K) (rs.map (pq c * ·)) zs H') ?_ ?_
  · have hB : ∀ m k, bdz (rbU c r).bk (e * pq c) m k = (bdz r.bk e m k).map (pq c * ·) := fun m k => by
      rw [rbU_bk, Rat.mul_comm e]
      exact bdz_scale c0 m k
    have hrun2 : ∀ m, m < many → Run (bdz (rbU c r).bk (e * pq c) m) (h * pq c) (n m) := fun m hm => by
      rw [Rat.mul_comm h]
      exact run_mul c0 (fun k _ => hB m k) (hrun m hm)
    have ecol : colB (bdz (rbU c r).bk (e * pq c)) n many = (colB (bdz r.bk e) n many).map (pq c * ·) := col_mul (fun m k _ => hB m k) hrun
    have zec : Sz (e * pq c) 100 := (ze.mul zc).mono (by decide)
    have zhc : Sz (h * pq c) 4000 := (zh.mul zc).mono (by decide)
    have zec4 : Sz (e * pq c) 4000 := zec.mono (by decide)
    repeat walk_at "w"
    refine ⟨rbU c r, l2, v1, v3, w4, w5, w6, rfl, hl6, hr6, (rbU_ok hc ok).2, (rbU_ok hc ok).1, fun bk Ha nb xa hbk => ?_⟩
    have he7 := TimeV.mono xa he6
    have hh7 := TimeV.mono xa hh6
    have hy7 := TimeV.mono xa hy
    repeat walk_at "w"
    rename_i ue Hb xb hue uh Hc xc huh
    refine ⟨(rbU c r).bk, e * pq c, h * pq c, .ref bk, ue, uh, many, n, rfl, hbk.mono (xb.trans xc), rbU_bj hc ok, hw, hlat, .inl (TimeV.mono xc hue), Rat.mul_pos e0 c0, zec, .inl huh, Rat.mul_pos h0 c0, zhc, m1, m12, hrun2, by rw [ecol, List.length_map]; exact len, fun t zs qs Hd xd ht hzs aq pq' => ?_⟩
    refine ⟨t, zs, rfl, ((xa.trans xb).trans xc).trans xd, ht, ?_⟩
    have : qs = rs.map (pq c * ·) := by
      refine asc_eq aq (asc_mul c0 asc) (pq'.trans ?_)
      rw [ecol]
      exact (per.map _).symm
    rw [← this]
    exact hzs
  rintro σ' H7 ⟨t, zs, rfl, x7, ht, hzs⟩
  have x17 := (x5.trans x6).trans x7
  have hb7 := x17.keep _ _ hb hys.ns
  have hys7 := hys.mono x17
  have hy7 := TimeV.mono x7 hy
  show WB X _ _ _ _
  refine wb_one (ws_ret (we_cmp ?_ ?hm))
  case hm => rfl
  repeat walk_at "w"
  refine we_lc (x := "_law_bound") (i := 9) B (by rw [eN]; exact nd) (by rw [eN]; rfl) rfl (by rw [eN, es]; exact blkOk_by (by decide +kernel)) ?_
  repeat walk_at "w"
  have azr : ∀ q ∈ rs, Sz q 2740 := fun q hq => by
    obtain ⟨m, j, hm, hj, rfl⟩ := colB_mem (per.mem_iff.mp hq)
    obtain ⟨b, eb, _⟩ := (hrun m hm).go j hj
    rw [eb]
    refine bdz_sz ok.bj (ze.mono (by decide)) (by omega) ?_ eb
    have h1 := colB_len_mono (B := bdz r.bk e) (n := n) (show m + 1 ≤ many from hm)
    rw [colB_succ, List.length_append, rowB_len] at h1
    omega
  have rlen : rs.length ≤ 1000 := by rw [per.length_eq]; exact len
  refine ⟨b, ys, rfl, .of hb7, fun D hD => ⟨fun j G => ∃ us, Ex H7 G ∧ G D = some (.lst us) ∧ Tms (CT X.K) ((rs.map (pq c * ·)).take j) us G, ⟨[], Ex.new hD, upd_same, .nil⟩, fun j G _ ⟨_, x, _⟩ => .of (x.keep _ _ hb7 hys.ns), ?_, ?_⟩⟩
  · rintro j v G hv ⟨us, xg, hgD, hus⟩ s H0 C cl fp
    obtain ⟨q, hqj, hvq⟩ := (hys7.mono xg).get hv
    have hyg := TimeV.mono xg hy7
    have zq : Sz q 4000 := (azr q (List.mem_of_getElem? hqj)).mono (by decide)
    have zqc : Sz (q * pq c) 4000 := ((azr q (List.mem_of_getElem? hqj)).mul zc).mono (by decide)
    refine in_blk B rfl fun B => ?_
    refine in_own (i := 9) (x := "_law_bound") eN nd rfl rfl (by decide) (by decide) fun n9 => ?_
    refine in_free (i := 7) (x := "_law_by") eN es rfl (by decide +kernel) (by decide) (by decide) fun n7 => ?_
    repeat walk_at "w"
    rename_i u2 G2 x2 hu2
    have hg2 := x2.keep _ _ hgD hus.ns
    have hj : j < rs.length := (List.getElem?_eq_some_iff.mp hqj).1
    refine ⟨us, hg2, ln_ok (by rw [hus.1]; exact Nat.le_trans (List.length_take_le _ _) (by omega)), us ++ [u2], (xg.trans x2).put hD, upd_same, ?_⟩
    rw [take_next (show (rs.map (pq c * ·))[j]? = some (pq c * q) by rw [List.getElem?_map, hqj]; rfl)]
    rw [Rat.mul_comm q] at hu2
    exact Tms.upL (Tms.app (hus.mono x2) (.one hu2)) hg2
  · rintro G ⟨us, xg, hgD, hus⟩
    rw [hys.1, List.take_of_length_le (by rw [List.length_map]; exact Nat.le_refl _)] at hus
    have hzsg := hzs.mono xg
    refine o_eqList B mon_tm (eq_tm B T) (by decide) (xg.keep _ _ ht hzs.ns) hgD ⟨hzsg.1.trans hus.1.symm, fun i x y e1 e2 => ?_⟩ fun G2 x2 => ?_
    · obtain ⟨q, hq, hx⟩ := hzsg.get e1
      exact .of hx (hus.2 i y q e2 hq)
    · exact k _ ((x17.trans xg).trans (Ext.toEx x2))
end

/-! ### for x in range(a, b) (stands in law16a too) -/
section
variable {X : Cx} {k : Nat} {E : L2.St → XK} {x : Str} {D : Ends} {σ : L2.St} {H : Hp} {a b : Expr} {i : Nat} {body : List Stmt} {px pr pc pos : Pos}
/-- for x in range(a, b) -/
theorem ws_for_range2E (B : Body X k E) (s : Sl X i x) (bn : Bn X "range")
    (h : WE X a σ H fun v H1 => WE X b σ H1 fun w H2 => ∃ lo n : Nat, v = .int lo ∧ w = .int ((lo + n : Nat) : Int) ∧ lo + n ≤ 1000000000 ∧ ∃ P : Nat → L2.St → Hp → Prop, P 0 σ H2 ∧ (∀ j σ H, j < n → P j σ H → WB X body { D with nx := P (j + 1), ct := P (j + 1), bk := D.nx } (σ.set i (some (.int ((lo + j : Nat) : Int)))) H) ∧ ∀ σ H, P n σ H → D.nx σ H)
    (hs : starEach [a, b] X.env = [(false, eval a X.env), (false, eval b X.env)] := by rfl) (hs2 : starEach [b] X.env = [(false, eval b X.env)] := by rfl) (hs3 : starEach [a, b] X.env = (false, eval a X.env) :: starEach [b] X.env := by rfl) : WS X (.For (.Name x px) (.Call (.Name "range" pr) [a, b] [] pc) body [] pos) D σ H := by
  refine wsP (ps_for B.po B.calm (pi_range2 bn.gl bn.no paS hs hs2) (pg_name s.nd s.at_ s.loc s.fn) pbS) ?_
  refine wa_two (we_mono h fun v H1 q => we_mono q fun w H2 q => ?_) hs3 hs2
  obtain ⟨lo, n, rfl, rfl, hn, P, p0, ht, hd⟩ := q
  have e : (((lo + n : Nat) : Int) - (lo : Int)).toNat = n := by omega
  refine ⟨lo, ((lo + n : Nat) : Int), rfl, ⟨by omega, by omega, by omega, by omega⟩, ?_⟩
  rw [e]
  refine for_range (lo := (lo : Int)) P p0 (fun j σ H hj p => ?_) hd
  have z := ht j σ H hj p
  show WB X body _ (σ.set i (some (.int ((lo : Int) + (j : Int))))) H
  rw [← Int.natCast_add]
  exact z
end

/-! ### [e for x in range(a, b) if c] -/
def LcRI (X : Cx) (scope : Scope) (elt cnd : Expr) (i : Nat) (σ : L2.St) (lo : Int) (n : Nat) (Q : VK) (H1 : Hp) : Prop :=
  ∀ D, H1 D = none → ∃ P : Nat → Hp → Prop, P 0 (upd H1 D (.lst [])) ∧
    (∀ j H, j < n → P j H → ∀ s H0 C cl fp, WT (Rs.Bk X s H0 scope C cl fp) cnd (σ.set i (some (.int (lo + (j : Nat))))) H fun b H3 => if b = true then ∀ s H0 C cl fp, WE (Rs.Bk X s H0 scope C cl fp) elt (σ.set i (some (.int (lo + (j : Nat))))) H3 fun y H4 => ∃ acc, H4 D = some (.lst acc) ∧ acc.length < sizeLine ∧ P (j + 1) (upd H4 D (.lst (acc ++ [y]))) else P (j + 1) H3) ∧ ∀ H, P n H → Q (.ref D) H
def ttB (X : Cx) (scope : Scope) (c : Expr) : TT := fun σ H Q => ∀ s H0 C cl fp, WT (Rs.Bk X s H0 scope C cl fp) c σ H Q
section
variable {X : Cx} {σ : L2.St} {H : Hp} {Q : VK} {k i : Nat} {E : L2.St → XK} {x : Str} {scope : Scope} {elt cnd a b iter : Expr} {px pos pr pc : Pos}
theorem we_lcR2I (B : Body X k E) (nd : X.N.Nodup) (bn : Bn X "range") (hi : X.N[i]? = some x) (hx : scope.names.lookup x = some .local) (ok : BlkOk X.N X.env.scope scope [(x, i)])
    (h : WE X a σ H fun v H1 => WE X b σ H1 fun w H2 => ∃ lo hi : Int, v = .int lo ∧ w = .int hi ∧ (0 ≤ lo ∧ lo ≤ 1000000) ∧ (0 ≤ hi ∧ hi ≤ 1000000) ∧ LcRI X scope elt cnd i σ lo (hi - lo).toNat Q H2)
    (hs : starEach [a, b] X.env = [(false, eval a X.env), (false, eval b X.env)] := by rfl) (hs2 : starEach [b] X.env = [(false, eval b X.env)] := by rfl) (hs3 : starEach [a, b] X.env = (false, eval a X.env) :: starEach [b] X.env := by rfl)
    (hfs : ∀ v, foldedSetIterable (.Call (.Name "range" pr) [a, b] [] pc) X.env v = pure v := by intro _; rfl) : WE X (.ListComp elt [⟨.Name x px, .Call (.Name "range" pr) [a, b] [] pc, [cnd], 0⟩] scope pos) σ H Q := by
  refine weP (pe_lc (own := [(x, i)]) (g := gName i) (tt := ttB X scope cnd) B.calm nd (pi_range2 bn.gl bn.no paS hs hs2) ok (fun _ _ _ _ _ => pg_name nd hi (.inl (lookup_relS_keep (by decide) hx)) (.inr (lookup_relS_keep (by decide) hx))) (fun s H C cl fp => pts_one ⟨fun pins s' σ H' Q I h => h s H C cl fp pins s' I⟩) peB hfs) ?_
  refine wa_two (we_mono h fun v H1 q => we_mono q fun w H2 q => ?_) hs3 hs2
  obtain ⟨lo, hi', rfl, rfl, hl, hh, q⟩ := q
  refine ⟨lo, hi', rfl, ⟨by omega, by omega, by omega, by omega⟩, fun D hD => ?_⟩
  obtain ⟨P, h0, hs, hd⟩ := q D hD
  refine lc_range (lo := lo) P h0 (fun j H hj p => ?_) hd
  refine ⟨(show ((σ.set i none).set i (some (.int (lo + (j : Nat))))).set i none = σ.set i none by rw [set2, set2]), ?_⟩
  intro s H0 C cl fp
  have e : (σ.set i none).set i (some (.int (lo + (j : Nat)))) = σ.set i (some (.int (lo + (j : Nat)))) := set2
  have z := hs j H hj p s H0 C cl fp
  rw [← e] at z
  exact z
end
/-! ### [e for x in xs if c] (stands in law40f too) -/
def LcI (X : Cx) (scope : Scope) (elt cnd : Expr) (i : Nat) (σ : L2.St) (a : Addr) (xs : List V) (Q : VK) (H1 : Hp) : Prop :=
  ∀ D, H1 D = none → ∃ P : Nat → Hp → Prop, P 0 (upd H1 D (.lst [])) ∧ (∀ j H, j ≤ xs.length → P j H → SqL X.K H a xs) ∧
    (∀ j v H, xs[j]? = some v → P j H → ∀ s H0 C cl fp, WT (Rs.Bk X s H0 scope C cl fp) cnd (σ.set i (some v)) H fun b H3 => if b = true then ∀ s H0 C cl fp, WE (Rs.Bk X s H0 scope C cl fp) elt (σ.set i (some v)) H3 fun y H4 => ∃ acc, H4 D = some (.lst acc) ∧ acc.length < sizeLine ∧ P (j + 1) (upd H4 D (.lst (acc ++ [y]))) else P (j + 1) H3) ∧ ∀ H, P xs.length H → Q (.ref D) H
section
variable {X : Cx} {σ : L2.St} {H : Hp} {Q : VK} {k i : Nat} {E : L2.St → XK} {x : Str} {scope : Scope} {elt cnd iter : Expr} {px pos : Pos}
theorem lc_byI (h : WE X iter σ H fun v H1 => ∃ a xs, v = .ref a ∧ SqL X.K H1 a xs ∧ LcI X scope elt cnd i σ a xs Q H1) : tLc (iList X.K (WE X iter)) (gName i) (ttB X scope cnd) (teB X scope elt) [i] σ H Q := by
  refine we_mono h fun v H1 q => ?_
  obtain ⟨a, xs, rfl, hq, q⟩ := q
  refine ⟨a, rfl, ⟨xs, hq⟩, fun D hD => ?_⟩
  obtain ⟨P, h0, hl, hs, hd⟩ := q D hD
  refine lc_list P h0 hl (fun j v H hv p => ?_) hd
  refine ⟨(show ((σ.set i none).set i (some v)).set i none = σ.set i none by rw [set2, set2]), ?_⟩
  intro s H0 C cl fp
  have e : (σ.set i none).set i (some v) = σ.set i (some v) := set2
  have z := hs j v H hv p s H0 C cl fp
  rw [← e] at z
  exact z
theorem we_lcI (B : Body X k E) (nd : X.N.Nodup) (hi : X.N[i]? = some x) (hx : scope.names.lookup x = some .local) (ok : BlkOk X.N X.env.scope scope [(x, i)])
    (h : WE X iter σ H fun v H1 => ∃ a xs, v = .ref a ∧ SqL X.K H1 a xs ∧ LcI X scope elt cnd i σ a xs Q H1) (hs : ∀ v, foldedSetIterable iter X.env v = pure v := by intro _; rfl) : WE X (.ListComp elt [⟨.Name x px, iter, [cnd], 0⟩] scope pos) σ H Q :=
  weP (pe_lc (own := [(x, i)]) (g := gName i) (tt := ttB X scope cnd) B.calm nd (pi_list peS) ok (fun _ _ _ _ _ => pg_name nd hi (.inl (lookup_relS_keep (by decide) hx)) (.inr (lookup_relS_keep (by decide) hx))) (fun s H C cl fp => pts_one ⟨fun pins s' σ H' Q I h => h s H C cl fp pins s' I⟩) peB hs) (lc_byI h)
end
/-! ### sizes, rows -/
theorem madeW_sz {z : Bk} (h : BkJ z) {e : Rat} (ze : Sz e 41) : Sz (madeW z e) 120 := by
  have z1 : Sz (z.factor * e + z.margin) 120 := ((h.s2.mul ze).add h.s3).mono (by decide)
  have z2 : Sz (lowW z.floor (z.factor * e + z.margin)) 120 := by
    unfold lowW
    cases ef : z.floor with
    | none => exact z1
    | some f => exact sz_rmax z1 ((h.s4 f ef).mono (by decide))
  unfold madeW highW
  cases er : z.roof with
  | none => exact z2
  | some r => exact sz_rmin z2 ((h.s5 r er).mono (by decide))
theorem colB_few {B : Nat → Nat → Option Rat} {n : Nat → Nat} {c : Nat} (h : ∀ m, n m ≤ c) : ∀ many, (colB B n many).length ≤ c * many
  | 0 => Nat.zero_le _
  | m + 1 => by
    have h1 := colB_few (B := B) h m
    have h2 := h m
    rw [colB_succ, List.length_append, rowB_len, Nat.mul_succ]
    omega
theorem RuU.to {r r' : RB} {v1 v3 v4 v5 v6 : V} {H : Hp} (h : RuU r v1 v3 v4 v5 v6 H) (e1 : r'.sh = r.sh) (e2 : r'.fa = r.fa) (e3 : r'.ma = r.ma) (e4 : r'.fl = r.fl) (e5 : r'.ro = r.ro) : RuU r' v1 v3 v4 v5 v6 H := ⟨by rw [e1]; exact h.sh, by rw [e2]; exact h.fa, by rw [e3]; exact h.ma, by rw [e4]; exact h.fl, by rw [e5]; exact h.ro⟩
def RowU (r : RB) (l : Addr) (H : Hp) : Prop := ∃ v1 v3 v4 v5 v6, H l = some (.lst (row9 r.bk v1 v3 v4 v5 v6)) ∧ RuU r v1 v3 v4 v5 v6 H
theorem RowU.mono {r : RB} {l : Addr} {H H' : Hp} (x : Ex H H') (h : RowU r l H) : RowU r l H' := by
  obtain ⟨v1, v3, v4, v5, v6, hl, hr⟩ := h
  exact ⟨v1, v3, v4, v5, v6, x.keep _ _ hl ns9b, hr.mono x⟩
section
variable {P : Program} {w : World} {K : PySem.W.Frag} {mg : Str → Option Value} {base : Heap}
def spLaw (K : PySem.W.Frag) : Sp := fun vs H Q _ => ∃ a ns, vs = [.ref a] ∧ SqL K H a (List.map V.int ns) ∧ ∀ H', Q (.bl true) H'
theorem ok_law (hP : P = PySem.Challenge.pw_resendtimers_k56_whole_breaks_of_fewer_r) (T : Tm K mg) {fd : FuncData} (F : FunD K "law" "law" (defArgs s_law) (defBody s_law) (defScope s_law) [] [] (ga K "law") fd) : FnOk P w K mg base CX0 19 (ga K "law") fd ["_law_script"] (spLaw K) := by
  refine def_okN F sc_law (fun vs H Q E h => by obtain ⟨a, ns, rfl, _⟩ := h; rfl) ?_
  intro X eP ew eK em eb eN es hf nd H vs Q E B h
  subst eP ew eK em eb
  have n0 : Sl X 0 "_law_script" := slot_of eN es hf nd rfl (by first | exact Or.inl rfl | exact Or.inr rfl) (by decide) (by decide)
  have n1 : Sl X 1 "_law_source" := slot_of eN es hf nd rfl (by first | exact Or.inl rfl | exact Or.inr rfl) (by decide) (by decide)
  have n2 : Sl X 2 "_law_rules_here" := slot_of eN es hf nd rfl (by first | exact Or.inl rfl | exact Or.inr rfl) (by decide) (by decide)
  have n3 : Sl X 3 "_law_limit" := slot_of eN es hf nd rfl (by first | exact Or.inl rfl | exact Or.inr rfl) (by decide) (by decide)
  have n4 : Sl X 4 "_law_estimate" := slot_of eN es hf nd rfl (by first | exact Or.inl rfl | exact Or.inr rfl) (by decide) (by decide)
  have n5 : Sl X 5 "_law_book_here" := slot_of eN es hf nd rfl (by first | exact Or.inl rfl | exact Or.inr rfl) (by decide) (by decide)
  have n6 : Sl X 6 "_law_wait" := slot_of eN es hf nd rfl (by first | exact Or.inl rfl | exact Or.inr rfl) (by decide) (by decide)
  have n7 : Sl X 7 "_law_high" := slot_of eN es hf nd rfl (by first | exact Or.inl rfl | exact Or.inr rfl) (by decide) (by decide)
  have n8 : Sl X 8 "_law_low" := slot_of eN es hf nd rfl (by first | exact Or.inl rfl | exact Or.inr rfl) (by decide) (by decide)
  have n9 : Sl X 9 "_law_many" := slot_of eN es hf nd rfl (by first | exact Or.inl rfl | exact Or.inr rfl) (by decide) (by decide)
  have n10 : Sl X 10 "_law_before" := slot_of eN es hf nd rfl (by first | exact Or.inl rfl | exact Or.inr rfl) (by decide) (by decide)
  have n11 : Sl X 11 "_law_rest" := slot_of eN es hf nd rfl (by first | exact Or.inl rfl | exact Or.inr rfl) (by decide) (by decide)
  have n12 : Sl X 12 "_law_number" := slot_of eN es hf nd rfl (by first | exact Or.inl rfl | exact Or.inr rfl) (by decide) (by decide)
  have n13 : Sl X 13 "_law_bounds" := slot_of eN es hf nd rfl (by first | exact Or.inl rfl | exact Or.inr rfl) (by decide) (by decide)
  have n14 : Sl X 14 "_law_later" := slot_of eN es hf nd rfl (by first | exact Or.inl rfl | exact Or.inr rfl) (by decide) (by decide)
  have n15 : Sl X 15 "_law_at" := slot_of eN es hf nd rfl (by first | exact Or.inl rfl | exact Or.inr rfl) (by decide) (by decide)
  have n16 : Sl X 16 "_law_unit" := slot_of eN es hf nd rfl (by first | exact Or.inl rfl | exact Or.inr rfl) (by decide) (by decide)
  have g__law_begin : Gn X "_law_begin" := gn_of es rfl (by decide)
  have F__law_begin := f__law_begin (P := X.prog) (w := X.w) (base := X.base) T
  have g__law_rules : Gn X "_law_rules" := gn_of es rfl (by decide)
  have F__law_rules := f__law_rules (P := X.prog) (w := X.w) (base := X.base) T
  have g__law_draw : Gn X "_law_draw" := gn_of es rfl (by decide)
  have F__law_draw := f__law_draw (P := X.prog) (w := X.w) (base := X.base) T
  have g_Time : Gn X "Time" := gn_of es rfl (by decide)
  have m_Time := T.g_Time
  have g__law_book : Gn X "_law_book" := gn_of es rfl (by decide)
  have F__law_book := f__law_book (P := X.prog) (w := X.w) (base := X.base) T
  have g__law_marks : Gn X "_law_marks" := gn_of es rfl (by decide)
  have F__law_marks := f__law_marks (P := X.prog) (w := X.w) (base := X.base) T
  have z_range : Bn X "range" := bn_of es rfl T.z_range
  have g_breaks : Gn X "breaks" := gn_of es rfl (by decide)
  have F_breaks := f_breaks (P := X.prog) (w := X.w) (base := X.base) T
  have z_len : Bn X "len" := bn_of es rfl T.z_len
  have g__law_less_by : Gn X "_law_less_by" := gn_of es rfl (by decide)
  have F__law_less_by := f__law_less_by (P := X.prog) (w := X.w) (base := X.base) T
  have g__law_in_unit : Gn X "_law_in_unit" := gn_of es rfl (by decide)
  have F__law_in_unit := f__law_in_unit (P := X.prog) (w := X.w) (base := X.base) T
  obtain ⟨a, ns, rfl, hs, k⟩ := h
  show WB X [_, _, _, _, _, _, _, _, _, _, _, _, _, _, _, _] _ [some (.ref a), none, none, none, none, none, none, none, none, none, none, none, none, none, none, none, none, none] H
  repeat walk_at "w"
  refine ⟨a, ns, rfl, hs, fun p H1 x1 so => ?_⟩
  show WB X _ _ _ _
  with_reducible refine' wb_cons ?_
  with_reducible refine' ws_to (fun σ' H' => ∃ r l, σ' = [some (.ref a), some (.ref p), some (.ref l), none, none, none, none, none, none, none, none, none, none, none, none, none, none, none] ∧ Ex H1 H' ∧ RowU r l H' ∧ RbOk r) ?_ ?_
  · repeat walk_at "w"
    exact ⟨p, rfl, so, fun r l v1 v3 v4 v5 v6 H3 x3 nl hl hr ok h90 => ⟨r, l, rfl, x3, ⟨v1, v3, v4, v5, v6, hl, hr⟩, ok⟩⟩
  rintro σ' H2 ⟨r0, l0, rfl, x2, row0, ok0⟩
  have so2 := so.mono x2
  show WB X _ _ _ _
  with_reducible refine' wb_cons ?_
  with_reducible refine' ws_to (fun σ' H' => ∃ r l, σ' = [some (.ref a), some (.ref p), some (.ref l), none, none, none, none, none, none, none, none, none, none, none, none, none, none, none] ∧ Ex H2 H' ∧ RowU r l H' ∧ RbOk r ∧ r.word ∈ (["first", "marked"] : List Str) ∧ r.lat = none) ?_ ?_
  · repeat walk_at "w"
    rename_i lw Ha na xa hlw d Hb xb d0 d1
    have rowb := row0.mono (xa.trans xb)
    obtain ⟨v1, v3, v4, v5, v6, hl0, hr0⟩ := rowb
    refine at_all (xb.keep _ _ hlw ns_str) d0 d1 fun y hy => ?_
    have ey : ∃ w : Str, y = .str w ∧ w ∈ (["first", "last", "marked", "clean"] : List Str) ∧ w ∈ (["first", "marked"] : List Str) := by
      simp only [List.mem_cons, List.not_mem_nil, or_false] at hy
      rcases hy with rfl | rfl <;> exact ⟨_, rfl, by decide +kernel, by decide +kernel⟩
    obtain ⟨w, rfl, hw, nw⟩ := ey
    repeat walk_at "w"
    rename_i l1 Hc n1 xc hl1
    refine we_cutL ?_
    repeat walk_at "w"
    have hlc := xc.keep _ _ hl0 ns9b
    have hrc := hr0.mono xc
    refine ⟨l0, _, 3, rfl, rfl, .of hlc, fun l2 n2 => ?_⟩
    have xd := Ex.new (o := .lst (cutV (row9 r0.bk v1 v3 v4 v5 v6) (some 3) none)) n2
    have e3 : cutV (row9 r0.bk v1 v3 v4 v5 v6) (some 3) none = [v3, v4, v5, v6, .bl r0.db, .bl r0.kp] := cutV_drop (xs := row9 r0.bk v1 v3 v4 v5 v6) (n := 3) (show 3 ≤ 9 by decide)
    refine o_catL (xd.keep _ _ hl1 ns_str) upd_same (by rw [e3]; exact Nat.le_trans (show 3 + 6 ≤ 1000 by decide) (by decide)) fun q nq => ?_
    have xe := Ex.new (o := .lst ([V.str w, v1, .non] ++ cutV (row9 r0.bk v1 v3 v4 v5 v6) (some 3) none)) nq
    refine ⟨{ r0 with word := w, lat := none }, q, rfl, (((xa.trans xb).trans xc).trans xd).trans xe, ⟨v1, v3, v4, v5, v6, ?_, (hrc.mono (xd.trans xe)).to rfl rfl rfl rfl rfl⟩, ⟨hw, ok0.sh, (fun n e => nomatch e), ok0.fa, ok0.ma, ok0.fl, ok0.ro, ok0.kp⟩, nw, rfl⟩
    rw [upd_same, e3]
    rfl
  rintro σ' H3 ⟨r, l, rfl, x3, row3, ok, hw, hlat⟩
  have so3 := so2.mono x3
  show WB X _ _ _ _
  with_reducible refine' wb_cons ?_
  with_reducible refine' ws_to (fun σ' H' => ∃ n : Int, σ' = [some (.ref a), some (.ref p), some (.ref l), some (.int n), none, none, none, none, none, none, none, none, none, none, none, none, none, none] ∧ Ex H3 H' ∧ 1 ≤ n ∧ n ≤ 1000000000000) ?_ ?_
  · repeat walk_at "w"
    rename_i lw Ha na xa hlw d Hb xb d0 d1
    refine at_all (xb.keep _ _ hlw (ns_len (show 2 ≠ 4 by decide))) d0 d1 fun y hy => ?_
    simp only [List.mem_cons, List.not_mem_nil, or_false] at hy
    rcases hy with rfl | rfl
    · exact ⟨9, rfl, xa.trans xb, by decide, by decide⟩
    · exact ⟨_, rfl, xa.trans xb, by decide, by decide⟩
  rintro σ' H4 ⟨n, rfl, x4, n0, n1⟩
  have so4 := so3.mono x4
  show WB X _ _ _ _
  with_reducible refine' wb_cons ?_
  with_reducible refine' ws_to (fun σ' H' => ∃ e ev, σ' = [some (.ref a), some (.ref p), some (.ref l), some (.int n), some ev, none, none, none, none, none, none, none, none, none, none, none, none, none] ∧ Ex H4 H' ∧ TimeV (CT X.K) e ev H' ∧ 0 < e ∧ Sz e 41) ?_ ?_
  · repeat walk_at "w"
    refine ⟨p, n, rfl, so4, by omega, by omega, fun d Ha xa d0 d1 => ?_⟩
    repeat walk_at "w"
    refine ⟨p, n, rfl, so4.mono xa, by omega, by omega, fun d2 Hb xb d20 d21 => ?_⟩
    repeat walk_at "w"
    have h41 : (2 : Nat) ^ 41 = 2199023255552 := by decide
    refine ⟨_, _, rfl, rfl, by omega, g1_sz (by omega) (Nat.lt_of_lt_of_le (show (1 + d2).natAbs < 2 ^ 41 by omega) (Nat.pow_le_pow_right (by decide) (by decide))), fun tv Hc xc ht => ?_⟩
    exact ⟨_, tv, rfl, (xa.trans xb).trans xc, ht, (dv_pos (by omega)).mpr (by omega), Sz.div (by omega) (by omega) (by omega)⟩
  rintro σ' H5 ⟨e, ev, rfl, x5, he, e0, ze⟩
  have so5 := so4.mono x5
  have row5 := row3.mono (x4.trans x5)
  show WB X _ _ _ _
  with_reducible refine' wb_cons ?_
  with_reducible refine' ws_to (fun σ' H' => ∃ bv, σ' = [some (.ref a), some (.ref p), some (.ref l), some (.int n), some ev, some bv, none, none, none, none, none, none, none, none, none, none, none, none] ∧ Ex H5 H' ∧ BookV X.K r.bk bv H') ?_ ?_
  · repeat walk_at "w"
    obtain ⟨v1, v3, v4, v5, v6, hl, hr⟩ := row5
    exact ⟨r, l, v1, v3, v4, v5, v6, rfl, hl, hr, ok.dn, ok.bk, fun b H7 nb x7 hb => ⟨_, rfl, x7, hb⟩⟩
  rintro σ' H6 ⟨bv, rfl, x6, hb⟩
  have so6 := so5.mono x6
  have he6 := TimeV.mono x6 he
  have row6 := row5.mono x6
  have bj := ok.bj
  have zW := madeW_sz bj ze
  have W0 := madeW_pos ok.bk e0
  show WB X _ _ _ _
  with_reducible refine' wb_cons ?_
  with_reducible refine' ws_to (fun σ' H' => ∃ wv, σ' = [some (.ref a), some (.ref p), some (.ref l), some (.int n), some ev, some bv, some wv, none, none, none, none, none, none, none, none, none, none, none] ∧ Ex H6 H' ∧ TimeV (CT X.K) (madeW r.bk e) wv H') ?_ ?_
  · have hb0 := hb
    obtain ⟨pb, dx, d, sh, fa, ma, fl, ro, eb, hp, hd, hk⟩ := id hb0
    cases eb
    repeat walk_at "w"
    refine we_meth (pl := _) B T.c_Book.cl ⟨_, T.e_Book_wait_for, f_wait_for T⟩ (by decide) ?_
    repeat walk_at "w"
    refine ⟨pb, dx, _, rfl, hp, rfl, wa_one ?_⟩
    repeat walk_at "w"
    exact ⟨r.bk, e, .ref pb, ev, rfl, hb0, ok.bk, .inl he6, e0, ze.mono (by decide), fun y Ha xa hy => ⟨y, rfl, xa, hy⟩⟩
  rintro σ' H7 ⟨wv, rfl, x7, hwv⟩
  have so7 := so6.mono x7
  show WB X _ _ _ _
  with_reducible refine' wb_cons ?_
  with_reducible refine' ws_to (fun σ' H' => ∃ h hv, σ' = [some (.ref a), some (.ref p), some (.ref l), some (.int n), some ev, some bv, some wv, some hv, none, none, none, none, none, none, none, none, none, none] ∧ Ex H7 H' ∧ TimeV (CT X.K) h hv H' ∧ 0 < h ∧ Sz h 140 ∧ h ≤ madeW r.bk e * ((12 : Nat) : Rat)) ?_ ?_
  · have zW4 : Sz (madeW r.bk e) 4000 := zW.mono (by decide)
    repeat walk_at "w"
    rename_i d Ha xa d0 d1
    refine ⟨1 + d, 4, rfl, rfl, by decide, g1_sz (by decide) (Nat.lt_of_lt_of_le (show (4 : Int).natAbs < 2 ^ 10 by decide) (Nat.pow_le_pow_right (by decide) (by decide))), fun y Hb xb hy => ?_⟩
    have z1 : Sz (Rat.divInt (1 + d) 4) 10 := Sz.div (by decide) (by omega) (by decide)
    refine o_mulT B T (by decide) (TimeV.mono (xa.trans xb) hwv) (.inl hy) zW4 (z1.mono (by decide)) fun hv Hc xc hhv => ?_
    have le12 : Rat.divInt (1 + d) 4 ≤ ((12 : Nat) : Rat) := by
      have := (dv_le (a := 1 + d) (b := 4) (c := 12) (d := 1) (by decide) (by decide)).mpr (by omega)
      rw [int_eq] at this
      exact this
    exact ⟨_, hv, rfl, (xa.trans xb).trans xc, hhv, Rat.mul_pos W0 ((dv_pos (by decide)).mpr (by omega)), (zW.mul z1).mono (by decide), Rat.mul_le_mul_of_nonneg_left le12 (Rat.le_of_lt W0)⟩
  rintro σ' H8 ⟨h, hv, rfl, x8, hhv, h0, zh, h12⟩
  have so8 := so7.mono x8
  show WB X _ _ _ _
  with_reducible refine' wb_cons ?_
  with_reducible refine' ws_to (fun σ' H' => ∃ g gv, σ' = [some (.ref a), some (.ref p), some (.ref l), some (.int n), some ev, some bv, some wv, some hv, some gv, none, none, none, none, none, none, none, none, none] ∧ Ex H8 H' ∧ TimeV (CT X.K) g gv H' ∧ 0 < g ∧ Sz g 160 ∧ g ≤ h) ?_ ?_
  · have zh4 : Sz h 4000 := zh.mono (by decide)
    repeat walk_at "w"
    rename_i d Ha xa d0 d1
    refine ⟨1 + d, 60, rfl, rfl, by decide, g1_sz (by decide) (Nat.lt_of_lt_of_le (show (60 : Int).natAbs < 2 ^ 10 by decide) (Nat.pow_le_pow_right (by decide) (by decide))), fun y Hb xb hy => ?_⟩
    have z1 : Sz (Rat.divInt (1 + d) 60) 10 := Sz.div (by decide) (by omega) (by decide)
    refine o_mulT B T (by decide) (TimeV.mono (xa.trans xb) hhv) (.inl hy) zh4 (z1.mono (by decide)) fun gv Hc xc hgv => ?_
    have le1 : Rat.divInt (1 + d) 60 ≤ 1 := (dv_le1 (by decide)).mpr (by omega)
    refine ⟨_, gv, rfl, (xa.trans xb).trans xc, hgv, Rat.mul_pos h0 ((dv_pos (by decide)).mpr (by omega)), (zh.mul z1).mono (by decide), ?_⟩
    have := Rat.mul_le_mul_of_nonneg_left le1 (Rat.le_of_lt h0)
    rwa [Rat.mul_one] at this
  rintro σ' H9 ⟨g, gv, rfl, x9, hgv, g0, zg, gh⟩
  have so9 := so8.mono x9
  show WB X _ _ _ _
  with_reducible refine' wb_cons ?_
  with_reducible refine' ws_to (fun σ' H' => ∃ many : Nat, σ' = [some (.ref a), some (.ref p), some (.ref l), some (.int n), some ev, some bv, some wv, some hv, some gv, some (.int (many : Nat)), none, none, none, none, none, none, none, none] ∧ Ex H9 H' ∧ 1 ≤ many ∧ many ≤ 8) ?_ ?_
  · repeat walk_at "w"
    rename_i d Ha xa d0 d1
    obtain ⟨m, rfl⟩ := Int.eq_ofNat_of_zero_le d0
    exact ⟨1 + m, rfl, xa, by omega, by omega⟩
  rintro σ' Ha ⟨many, rfl, xa, m1, m8⟩
  have soa := so9.mono xa
  show WB X _ _ _ _
  with_reducible refine' wb_cons ?_
  with_reducible refine' ws_to (fun σ' H' => ∃ bf, σ' = [some (.ref a), some (.ref p), some (.ref l), some (.int n), some ev, some bv, some wv, some hv, some gv, some (.int (many : Nat)), some (.ref bf), none, none, none, none, none, none, none] ∧ Ex Ha H' ∧ H' bf = some (.lst [])) ?_ ?_
  · repeat walk_at "w"
    exact ⟨Nat.zero_le _, fun l H1 nl x1 e => ⟨l, rfl, x1, by rw [e]; exact upd_same⟩⟩
  rintro σ' Hb ⟨bf, rfl, xb, hbf⟩
  have x6b := (((x7.trans x8).trans x9).trans xa).trans xb
  have hwvb := TimeV.mono (((x8.trans x9).trans xa).trans xb) hwv
  have hhvb := TimeV.mono ((x9.trans xa).trans xb) hhv
  have hgvb := TimeV.mono (xa.trans xb) hgv
  have heb := TimeV.mono x6b he6
  have hbb := hb.mono x6b
  have rowb := row6.mono x6b
  have sob := soa.mono xb
  -- the numbers of bounds
  obtain ⟨nn, hn11, hrun⟩ : ∃ nn : Nat → Nat, (∀ m, nn m ≤ 11) ∧ ∀ m, Run (bdz r.bk e m) h (nn m) := by
    have few := bdz_few ok.bk e0 h0 11 h12
    exact ⟨fun m => Classical.choose (few m), fun m => (Classical.choose_spec (few m)).1, fun m => (Classical.choose_spec (few m)).2⟩
  obtain ⟨ng, hg11, hgun⟩ : ∃ nn : Nat → Nat, (∀ m, nn m ≤ 11) ∧ ∀ m, Run (bdz r.bk e m) g (nn m) := by
    have few := bdz_few ok.bk e0 g0 11 (Rat.le_trans gh h12)
    exact ⟨fun m => Classical.choose (few m), fun m => (Classical.choose_spec (few m)).1, fun m => (Classical.choose_spec (few m)).2⟩
  have up := bdz_up ok.bk e0
  have nnb := bdz_nnB ok.bk e0
  have asR : ∀ m, Asc (rowB (bdz r.bk e m) (nn m)) := fun m => rowB_asc (up m) (nnb m) (hrun m)
  have clen : ∀ m, m ≤ 8 → (colB (bdz r.bk e) nn m).length ≤ 88 := fun m hm => by
    have := colB_few (B := bdz r.bk e) hn11 m
    omega
  have clg : ∀ m, m ≤ 8 → (colB (bdz r.bk e) ng m).length ≤ 88 := fun m hm => by
    have := colB_few (B := bdz r.bk e) hg11 m
    omega
  have zcol : ∀ {m : Nat} {q : Rat}, m ≤ 8 → q ∈ colB (bdz r.bk e) nn m → Sz q 4000 := fun {m q} hm hq => by
    obtain ⟨i, j, hi, hj, rfl⟩ := colB_mem hq
    obtain ⟨b, eb, _⟩ := (hrun i).go j hj
    rw [eb]
    have := hn11 i
    exact (bdz_sz bj (ze.mono (by decide)) (by omega) (by omega) eb).mono (by decide)
  have erow : rowB (bdz r.bk e 0) (nn 0) = marksW (madeW r.bk e) r.db (nn 0) := by
    unfold rowB marksW
    refine List.map_congr_left fun j _ => ?_
    rw [bdz_0 ok.bk e0 (by omega)]
    rfl
  show WB X _ _ _ _
  with_reducible refine' wb_cons ?_
  with_reducible refine' ws_to (fun σ' H' => ∃ rt zs, σ' = [some (.ref a), some (.ref p), some (.ref l), some (.int n), some ev, some bv, some wv, some hv, some gv, some (.int (many : Nat)), some (.ref bf), some (.ref rt), none, none, none, none, none, none] ∧ Ex Hb H' ∧ H' rt = some (.lst zs) ∧ Tms (CT X.K) (rowB (bdz r.bk e 0) (nn 0)) zs H') ?_ ?_
  · obtain ⟨v1, v3, v4, v5, v6, hl, hr⟩ := rowb
    repeat walk_at "w"
    have hr0 := hrun 0
    have n011 := hn11 0
    refine ⟨madeW r.bk e, h, wv, hv, r.bk.doubled, nn 0, rfl, hwvb, hhvb, zW.mono (by decide), zh.mono (by decide), by omega, fun j hj => ?_, fun hh => hr0.st ?_, fun l zs H' x' hl' hz' => ?_⟩
    · obtain ⟨b, eb, lb⟩ := hr0.go j hj
      rw [bdz_0 ok.bk e0 (by omega)] at eb
      cases eb
      exact lb
    · rw [bdz_0 ok.bk e0 (by omega)]
      exact ⟨_, rfl, hh⟩
    · refine ⟨l, zs, rfl, x', hl', ?_⟩
      rw [erow]
      exact hz'
  rintro σ' Hc ⟨rt, zs, rfl, xc, hrt, hzs⟩
  have hbf := xc.keep _ _ hbf (ns_len (show 0 ≠ 4 by decide))
  have heb := TimeV.mono xc heb
  have hhvb := TimeV.mono xc hhvb
  have hgvb := TimeV.mono xc hgvb
  have hbb := hbb.mono xc
  have rowb := rowb.mono xc
  have sob := sob.mono xc
  show WB X _ _ _ _
  with_reducible refine' wb_cons ?_
  with_reducible refine' ws_to (fun σ' H' => ∃ bf xs S c11 c12 c13 c14 c15 c16 c17, σ' = [some (.ref a), some (.ref p), some (.ref l), some (.int n), some ev, some bv, some wv, some hv, some gv, some (.int (many : Nat)), some (.ref bf), c11, c12, c13, c14, c15, c16, c17] ∧ Ex Hc H' ∧ H' bf = some (.lst xs) ∧ Tms (CT X.K) S xs H' ∧ Asc S ∧ S.Perm (colB (bdz r.bk e) nn many)) ?_ ?_
  · refine ws_for_range2E B n12 z_range ?_
    repeat walk_at "w"
    refine ⟨1, many, rfl, congrArg V.int (show (many : Int) + 1 = ((1 + many : Nat) : Int) by omega), by omega, fun j σ' H' => ∃ bf xs S rt zs c12 c13 c14 c15 c16 c17, σ' = [some (.ref a), some (.ref p), some (.ref l), some (.int n), some ev, some bv, some wv, some hv, some gv, some (.int (many : Nat)), some (.ref bf), some (.ref rt), c12, c13, c14, c15, c16, c17] ∧ Ex Hc H' ∧ H' bf = some (.lst xs) ∧ Tms (CT X.K) S xs H' ∧ Asc S ∧ S.Perm (colB (bdz r.bk e) nn j) ∧ H' rt = some (.lst zs) ∧ Tms (CT X.K) (rowB (bdz r.bk e (j - 1)) (nn (j - 1))) zs H', ⟨bf, [], [], rt, zs, none, none, none, none, none, none, rfl, .refl _, hbf, .nil, List.Pairwise.nil, .refl _, hrt, hzs⟩, ?_, ?_⟩
    case refine_2 =>
      rintro σ' H' ⟨bf, xs, S, rt, zs, c12, c13, c14, c15, c16, c17, rfl, x, h1, h2, h3, h4, _, _⟩
      exact ⟨bf, xs, S, _, c12, c13, c14, c15, c16, c17, rfl, x, h1, h2, h3, h4⟩
    clear hbf hrt hzs
    rintro j σ' G hj ⟨bf, xs, S, rt, zs, c12, c13, c14, c15, c16, c17, rfl, xg, hbf, hS, aS, pS, hrt, hR⟩
    have heb := TimeV.mono xg heb
    have hhvb := TimeV.mono xg hhvb
    have hbb := hbb.mono xg
    show WB X _ _ [some (.ref a), some (.ref p), some (.ref l), some (.int n), some ev, some bv, some wv, some hv, some gv, some (.int (many : Nat)), some (.ref bf), some (.ref rt), some (.int ((1 + j : Nat) : Int)), c13, c14, c15, c16, c17] G
    with_reducible refine' wb_cons ?_
    with_reducible refine' ws_to (fun σ' G2 => ∃ lb ys L, σ' = [some (.ref a), some (.ref p), some (.ref l), some (.int n), some ev, some bv, some wv, some hv, some gv, some (.int (many : Nat)), some (.ref bf), some (.ref rt), some (.int ((1 + j : Nat) : Int)), some (.ref lb), c14, c15, c16, c17] ∧ Ex G G2 ∧ G2 lb = some (.lst ys) ∧ Tms (CT X.K) L ys G2 ∧ Asc L ∧ L.Perm (colB (bdz r.bk e) nn (j + 1))) ?_ ?_
    · repeat walk_at "w"
      exact ⟨r.bk, e, h, bv, ev, hv, 1 + j, nn, rfl, hbb, bj, hw, hlat, .inl heb, e0, ze.mono (by decide), .inl hhvb, h0, zh.mono (by decide), by omega, by omega, fun m _ => hrun m, Nat.le_trans (clen (1 + j) (by omega)) (by decide), fun lb ys L G2 x2 h1 h2 h3 h4 => ⟨lb, ys, L, rfl, x2, h1, h2, h3, by rw [Nat.add_comm 1 j] at h4; exact h4⟩⟩
    rintro σ' G2 ⟨lb, ys, L, rfl, x2, hlb, hL, aL, pL⟩
    have hbf2 := x2.keep _ _ hbf hS.ns
    have hS2 := hS.mono x2
    have hrt2 := x2.keep _ _ hrt hR.ns
    have hR2 := hR.mono x2
    have lenL : L.length ≤ 88 := by rw [pL.length_eq]; exact clen (j + 1) (by omega)
    have zL : AllZ L := fun q hq => zcol (show j + 1 ≤ 8 by omega) (pL.mem_iff.mp hq)
    have zS : AllZ S := fun q hq => zcol (show j ≤ 8 by omega) (pS.mem_iff.mp hq)
    show WB X _ _ _ _
    with_reducible refine' wb_cons ?_
    with_reducible refine' ws_to (fun σ' G3 => σ' = [some (.ref a), some (.ref p), some (.ref l), some (.int n), some ev, some bv, some wv, some hv, some gv, some (.int (many : Nat)), some (.ref bf), some (.ref rt), some (.int ((1 + j : Nat) : Int)), some (.ref lb), c14, c15, c16, c17] ∧ Ex G2 G3) ?_ ?_
    · refine ws_if (wt_cmp ?_ ?hm)
      case hm => rfl
      refine we_lcR2I (x := "_law_at") (i := 15) B (by rw [eN]; exact nd) z_range (by rw [eN]; rfl) rfl (by rw [eN, es]; exact blkOk_by (by decide +kernel)) ?_
      repeat walk_at "w"
      rw [hL.1]
      refine ⟨1, (L.length : Nat), rfl, rfl, ⟨by decide, by decide⟩, ⟨by omega, by omega⟩, fun D hD => ⟨fun i G3 => Ex G2 G3 ∧ G3 D = some (.lst []), ⟨Ex.new hD, upd_same⟩, ?_, ?_⟩⟩
      · rintro i G3 hi ⟨x3, hd3⟩ s H0 C cl fp
        refine wt_cmp ?_ ?hm
        case hm => rfl
        refine in_blk B rfl fun B => ?_
        refine in_own (i := 15) (x := "_law_at") eN nd rfl rfl (by decide) (by decide) fun n15 => ?_
        refine in_free (i := 13) (x := "_law_bounds") eN es rfl (by decide +kernel) (by decide) (by decide) fun n13 => ?_
        have hi2 : i + 1 < L.length := by omega
        have hlb3 := x3.keep _ _ hlb hL.ns
        have hL3 := hL.mono x3
        have e1 : (1 : Int) + (i : Nat) = ((i + 1 : Nat) : Int) := by omega
        rw [e1]
        repeat walk_at "w"
        refine tms_at hlb3 hL3 hi2 fun u q hu hq huq => ?_
        repeat walk_at "w"
        have e2 : ((i + 1 : Nat) : Int) - 1 = ((i : Nat) : Int) := by omega
        rw [e2]
        refine tms_at hlb3 hL3 (by omega) fun u2 q2 hu2 hq2 huq2 => ?_
        have z1 := zL q (List.mem_of_getElem? hq)
        have z2 := zL q2 (List.mem_of_getElem? hq2)
        repeat walk_at "w"
        rename_i G4 x4
        have nl : ¬ q < q2 := by
          refine Rat.not_lt.mpr ?_
          have h1 := List.pairwise_iff_getElem.mp aL i (i + 1) (by omega) hi2 (by omega)
          rw [List.getElem?_eq_getElem (by omega)] at hq hq2
          rw [← Option.some.inj hq, ← Option.some.inj hq2]
          exact h1
        rw [decide_eq_false nl]
        exact ⟨x3.trans x4, x4.keep _ _ hd3 (ns_len (show 0 ≠ 4 by decide))⟩
      · rintro G3 ⟨x3, hd3⟩
        repeat walk_at "w"
        refine ⟨Nat.zero_le _, fun p2 G4 np x4 e4 => ?_⟩
        refine o_neList B mon_tm (eq_tm B T) (by decide) (x4.keep _ _ hd3 (ns_len (show 0 ≠ 4 by decide))) (by rw [e4]; exact upd_same) L2.Prs.nil fun G5 x5 => ?_
        repeat walk_at "w"
        exact ⟨rfl, (x3.trans x4).trans (Ext.toEx x5)⟩
    rintro σ' G3 ⟨rfl, x3⟩
    have hlb3 := x3.keep _ _ hlb hL.ns
    have hL3 := hL.mono x3
    have hbf3 := x3.keep _ _ hbf2 hS.ns
    have hS3 := hS2.mono x3
    have hrt3 := x3.keep _ _ hrt2 hR.ns
    have hR3 := hR2.mono x3
    show WB X _ _ _ _
    with_reducible refine' wb_cons ?_
    with_reducible refine' ws_to (fun σ' G4 => ∃ lt ls, σ' = [some (.ref a), some (.ref p), some (.ref l), some (.int n), some ev, some bv, some wv, some hv, some gv, some (.int (many : Nat)), some (.ref bf), some (.ref rt), some (.int ((1 + j : Nat) : Int)), some (.ref lb), some (.ref lt), c15, c16, c17] ∧ Ex G3 G4 ∧ G4 lt = some (.lst ls) ∧ Tms (CT X.K) (rowB (bdz r.bk e j) (nn j)) ls G4) ?_ ?_
    · repeat walk_at "w"
      refine ⟨lb, bf, ys, xs, L, S, rowB (bdz r.bk e j) (nn j), rfl, hlb3, hbf3, hL3, hS3, zL, zS, aL, aS, asR j, ?_, by omega, fun lt ls G4 x4 h1 h2 => ⟨lt, ls, rfl, x4, h1, h2⟩⟩
      refine pL.trans ?_
      rw [colB_succ]
      exact pS.symm.append (.refl _)
    rintro σ' G4 ⟨lt, ls, rfl, x4, hlt, hls⟩
    have hrt4 := x4.keep _ _ hrt3 hR.ns
    have hR4 := hR3.mono x4
    have x04 := ((x2.trans x3).trans x4)
    have nle : nn j ≤ nn (j - 1) := by
      cases j with
      | zero => exact Nat.le_refl _
      | succ j => exact run_len (bdz_le ok.bk e0 j) h0 (hrun j) (hrun (j + 1))
    show WB X _ _ _ _
    with_reducible refine' wb_cons ?_
    with_reducible refine' ws_to (fun σ' G5 => σ' = [some (.ref a), some (.ref p), some (.ref l), some (.int n), some ev, some bv, some wv, some hv, some gv, some (.int (many : Nat)), some (.ref bf), some (.ref rt), some (.int ((1 + j : Nat) : Int)), some (.ref lb), some (.ref lt), c15, c16, c17] ∧ Ex G4 G5) ?_ ?_
    · refine ws_if (wt_or3 ?_)
      repeat walk_at "w"
      rw [decide_eq_false (show ¬ V.ref lt = V.non from fun e => nomatch e)]
      repeat walk_at "w"
      rw [hls.1, hR4.1, rowB_len, rowB_len]
      rw [decide_eq_false (show ¬ ((nn (j - 1) : Nat) : Int) < (nn j : Nat) by omega)]
      repeat walk_at "w"
      refine ite_dec (fun hj1 => ?_) (fun hj1 => ?_)
      · obtain rfl : j = 0 := by omega
        repeat walk_at "w"
        refine o_neList B mon_tm (eq_tm B T) (by decide) hlt hrt4 ⟨hls.1.trans hR4.1.symm, fun i x y e1 e2 => ?_⟩ fun G5 x5 => ?_
        · obtain ⟨q, hq, hx⟩ := hls.get e1
          exact .of hx (hR4.2 i y q e2 hq)
        · repeat walk_at "w"
          exact ⟨rfl, Ext.toEx x5⟩
      · repeat walk_at "w"
        exact ⟨rfl, .refl _⟩
    rintro σ' G5 ⟨rfl, x5⟩
    have hlt5 := x5.keep _ _ hlt hls.ns
    have hls5 := hls.mono x5
    have hrt5 := x5.keep _ _ hrt4 hR.ns
    have hR5 := hR4.mono x5
    show WB X _ _ _ _
    with_reducible refine' wb_cons ?_
    with_reducible refine' ws_to (fun σ' G6 => ∃ c15, σ' = [some (.ref a), some (.ref p), some (.ref l), some (.int n), some ev, some bv, some wv, some hv, some gv, some (.int (many : Nat)), some (.ref bf), some (.ref rt), some (.int ((1 + j : Nat) : Int)), some (.ref lb), some (.ref lt), c15, c16, c17] ∧ Ex G5 G6) ?_ ?_
    · refine ws_for_rangeE B n15 z_range ?_
      repeat walk_at "w"
      rw [hls.1, rowB_len]
      have := hn11 j
      refine ⟨nn j, rfl, by omega, fun i σ' G6 => ∃ c15, σ' = [some (.ref a), some (.ref p), some (.ref l), some (.int n), some ev, some bv, some wv, some hv, some gv, some (.int (many : Nat)), some (.ref bf), some (.ref rt), some (.int ((1 + j : Nat) : Int)), some (.ref lb), some (.ref lt), c15, c16, c17] ∧ Ex G5 G6, ⟨_, rfl, .refl _⟩, ?_, fun σ' G6 q => q⟩
      rintro i σ' G6 hi ⟨c15, rfl, x6⟩
      have hlt6 := x6.keep _ _ hlt5 hls.ns
      have hls6 := hls5.mono x6
      have hrt6 := x6.keep _ _ hrt5 hR.ns
      have hR6 := hR5.mono x6
      show WB X _ _ [some (.ref a), some (.ref p), some (.ref l), some (.int n), some ev, some bv, some wv, some hv, some gv, some (.int (many : Nat)), some (.ref bf), some (.ref rt), some (.int ((1 + j : Nat) : Int)), some (.ref lb), some (.ref lt), some (.int (i : Nat)), c16, c17] G6
      refine wb_one (ws_if (wt_cmp ?_ ?hm))
      case hm => rfl
      repeat walk_at "w"
      refine tms_at hlt6 hls6 (by rw [rowB_len]; exact hi) fun u q hu hq huq => ?_
      repeat walk_at "w"
      refine tms_at hrt6 hR6 (by rw [rowB_len]; omega) fun u2 q2 hu2 hq2 huq2 => ?_
      have em : ∀ {m x : Nat} {y : Rat}, (rowB (bdz r.bk e m) (nn m))[x]? = some y → x < nn m → m ≤ 8 → Sz y 4000 ∧ y = (bdz r.bk e m (x + 1)).getD 0 := fun {m x y} hy hx hm => by
        rw [rowB_at hx] at hy
        cases hy
        obtain ⟨b, eb, _⟩ := (hrun m).go x hx
        have := hn11 m
        exact ⟨by rw [eb]; exact (bdz_sz bj (ze.mono (by decide)) (by omega) (by omega) eb).mono (by decide), rfl⟩
      obtain ⟨z1, e1⟩ := em hq hi (by omega)
      obtain ⟨z2, e2⟩ := em hq2 (by omega) (by omega)
      repeat walk_at "w"
      rename_i G7 x7
      have nl : ¬ q < q2 := by
        refine Rat.not_lt.mpr ?_
        rw [e1, e2]
        cases j with
        | zero => exact Rat.le_refl
        | succ j => exact run_at (bdz_le ok.bk e0 j) (nnb (j + 1)) (hrun (j + 1)) hi
      rw [decide_eq_false nl]
      repeat walk_at "w"
      exact ⟨_, rfl, x6.trans x7⟩
    rintro σ' G6 ⟨c15, rfl, x6⟩
    have x46 := x5.trans x6
    show WB X _ _ _ _
    repeat walk_at "w"
    refine ⟨lb, ys, L, lt, ls, _, _, _, _, _, _, rfl, ((xg.trans x04).trans x46), (x4.trans x46).keep _ _ hlb3 hL.ns, hL3.mono (x4.trans x46), aL, pL, x46.keep _ _ hlt hls.ns, ?_⟩
    exact hls.mono x46
  rintro σ' Hd ⟨bf, xs, S, c11, c12, c13, c14, c15, c16, c17, rfl, xd, hbf, hxs, aS, pS⟩
  have heb := TimeV.mono xd heb
  have hhvb := TimeV.mono xd hhvb
  have hgvb := TimeV.mono xd hgvb
  have hbb := hbb.mono xd
  have rowb := rowb.mono xd
  have sob := sob.mono xd
  show WB X _ _ _ _
  with_reducible refine' wb_cons ?_
  with_reducible refine' ws_to (fun σ' H' => σ' = [some (.ref a), some (.ref p), some (.ref l), some (.int n), some ev, some bv, some wv, some hv, some gv, some (.int (many : Nat)), some (.ref bf), c11, c12, c13, c14, c15, c16, c17] ∧ Ex Hd H') ?_ ?_
  · refine ws_if (wt_cmp ?_ ?hm)
    case hm => rfl
    repeat walk_at "w"
    refine ⟨r.bk, e, g, bv, ev, gv, many, ng, rfl, hbb, bj, hw, hlat, .inl heb, e0, ze.mono (by decide), .inl hgvb, g0, zg.mono (by decide), by omega, by omega, fun m _ => hgun m, Nat.le_trans (clg many m8) (by decide), fun lb ys L G2 x2 hlb hL aL pL => ?_⟩
    have eL : L = S.filter (fun b => decide (b < g)) := by
      refine asc_eq aL (asc_filter aS) (pL.trans ?_)
      rw [← col_low up g0 gh (fun m _ => hrun m) (fun m _ => hgun m)]
      exact (pS.filter _).symm
    refine we_lcI (x := "_law_bound") (i := 17) B (by rw [eN]; exact nd) (by rw [eN]; rfl) rfl (by rw [eN, es]; exact blkOk_by (by decide +kernel)) ?_
    repeat walk_at "w"
    have hbf2 := x2.keep _ _ hbf hxs.ns
    have hxs2 := hxs.mono x2
    have hg2 := TimeV.mono x2 hgvb
    have B0 := B
    refine ⟨bf, xs, rfl, .of hbf2, fun D hD => ⟨fun i G3 => ∃ us, Ex G2 G3 ∧ G3 D = some (.lst us) ∧ Tms (CT X.K) ((S.take i).filter (fun b => decide (b < g))) us G3, ⟨[], Ex.new hD, upd_same, .nil⟩, fun i G3 _ ⟨_, x, _⟩ => .of (x.keep _ _ hbf2 hxs.ns), ?_, ?_⟩⟩
    · rintro i v G3 hv ⟨us, x3, hd3, hus⟩ s H0 C cl fp
      obtain ⟨q, hq, hvq⟩ := (hxs2.mono x3).get hv
      have zq := zcol m8 (pS.mem_iff.mp (List.mem_of_getElem? hq))
      have hg3 := TimeV.mono x3 hg2
      refine wt_cmp ?_ ?hm
      case hm => rfl
      refine in_blk B rfl fun B => ?_
      refine in_own (i := 17) (x := "_law_bound") eN nd rfl rfl (by decide) (by decide) fun n17 => ?_
      refine in_free (i := 8) (x := "_law_low") eN es rfl (by decide +kernel) (by decide) (by decide) fun n8 => ?_
      have zg4 : Sz g 4000 := zg.mono (by decide)
      repeat walk_at "w"
      rename_i G4 x4
      have hd4 := x4.keep _ _ hd3 hus.ns
      have et := take_next hq
      have us88 : us.length ≤ 88 := by
        rw [hus.1]
        refine Nat.le_trans (List.length_filter_le _ _) (Nat.le_trans (List.length_take_le _ _) ?_)
        have := clen many m8
        rw [← pS.length_eq] at this
        have := (List.getElem?_eq_some_iff.mp hq).1
        omega
      refine ite_dec (fun hc => ?_) (fun hc => ?_)
      · intro s H0 C cl fp
        refine in_blk B0 rfl fun B => ?_
        refine in_own (i := 17) (x := "_law_bound") eN nd rfl rfl (by decide) (by decide) fun n17 => ?_
        repeat walk_at "w"
        refine ⟨us, hd4, ln_ok (by omega), us ++ [v], (x3.trans x4).put hD, upd_same, ?_⟩
        rw [et, List.filter_append, show [q].filter (fun b => decide (b < g)) = [q] from by rw [List.filter_cons, if_pos (decide_eq_true hc)]; rfl]
        exact Tms.upL (Tms.app (hus.mono x4) (.one (TimeV.mono x4 hvq))) hd4
      · refine ⟨us, x3.trans x4, hd4, ?_⟩
        rw [et, List.filter_append, show [q].filter (fun b => decide (b < g)) = [] from by rw [List.filter_cons, if_neg (by rw [decide_eq_true_eq]; exact hc)]; rfl, List.append_nil]
        exact hus.mono x4
    · rintro G3 ⟨us, x3, hd3, hus⟩
      rw [hxs.1, List.take_of_length_le (Nat.le_refl _), ← eL] at hus
      have hL3 := hL.mono x3
      refine o_neList B mon_tm (eq_tm B T) (by decide) (x3.keep _ _ hlb hL.ns) hd3 ⟨hL3.1.trans hus.1.symm, fun i x y e1 e2 => ?_⟩ fun G4 x4 => ?_
      · obtain ⟨q, hq, hx⟩ := hL3.get e1
        exact .of hx (hus.2 i y q e2 hq)
      · repeat walk_at "w"
        exact ⟨rfl, (x2.trans x3).trans (Ext.toEx x4)⟩
  rintro σ' He ⟨rfl, xe⟩
  have heb := TimeV.mono xe heb
  have hhvb := TimeV.mono xe hhvb
  have rowb := rowb.mono xe
  have sob := sob.mono xe
  have hxs := hxs.mono xe
  have hbf := xe.keep _ _ hbf hxs.ns
  show WB X _ _ _ _
  with_reducible refine' wb_cons ?_
  with_reducible refine' ws_to (fun σ' H' => ∃ t c, σ' = [some (.ref a), some (.ref p), some (.ref l), some (.int n), some ev, some bv, some wv, some hv, some gv, some (.int (many : Nat)), some (.ref bf), c11, c12, c13, c14, c15, some (.ref t), c17] ∧ Ex He H' ∧ PrU c (.ref t) H' ∧ UnP c) ?_ ?_
  · repeat walk_at "w"
    rename_i d Hg xg d0 d1 d2 Hh xh d20 d21 t Hi xi ht
    have d1 : d < 1000000 := d1
    exact ⟨t, (1 + d, 1 + d2), rfl, (xg.trans xh).trans xi, ⟨t, rfl, ht⟩, by show 1 ≤ 1 + d; omega, by show 1 + d ≤ 1000000000; omega, by show 1 ≤ 1 + d2; omega, by show 1 + d2 ≤ 12; omega⟩
  rintro σ' Hf ⟨t, c, rfl, xf, ht, hc⟩
  obtain ⟨v1, v3, v4, v5, v6, hl, hr⟩ := rowb.mono xf
  have heb := TimeV.mono xf heb
  have hhvb := TimeV.mono xf hhvb
  show WB X _ _ _ _
  repeat walk_at "w"
  exact ⟨r, c, e, h, l, v1, v3, v4, v5, v6, ev, hv, bf, xs, S, .ref t, many, nn, rfl, hl, hr, ok, hw, hlat, heb, hhvb, e0, ze.mono (by decide), h0, zh.mono (by decide), xf.keep _ _ hbf hxs.ns, hxs.mono xf, aS, pS, ht, hc, m1, by omega, fun m _ => hrun m, Nat.le_trans (clen many m8) (by decide), fun H' _ => k H'⟩
end

end Rt
open PySem PySem.W PySem.Calls PyProof.Rows
theorem PySem.Challenge.cw_resendtimers_k56_whole_breaks_of_fewer_r_holds : PySem.Challenge.rw_resendtimers_k56_whole_breaks_of_fewer_r.Holds := by
  w_on; o_law
  refine HandSHeadRun.head_any (r := OpenLaw.row PySem.Challenge.rw_resendtimers_k56_whole_breaks_of_fewer_r) (q := view (OpenLaw.row PySem.Challenge.rw_resendtimers_k56_whole_breaks_of_fewer_r).prog [68]) (H := Rs.hookX 6 Rt.ψ Rt.fn) (ob := Rs.obX 6 Rt.ψ Rt.fn) (M := 14000) (loose := Rt.loose)
    (d := HandSHeadRun.topDef (OpenLaw.row PySem.Challenge.rw_resendtimers_k56_whole_breaks_of_fewer_r).prog 68) (kwd := []) (Rs.obX_eq 6 Rt.ψ Rt.fn)
    (by kernel_rfl) (fun s => by kernel_rfl) Rt.run (by kernel_rfl) (by kernel_rfl) (by kernel_rfl) (by rfl) (by first | assumption | decide +kernel) (by decide +kernel) ⟨rfl, rfl, rfl, rfl, rfl, by decide +kernel⟩ ?hw ?hc
  case hw => w_witness2
  case hc =>
    refine L2.walk_ofE (l := PySem.Challenge.rw_resendtimers_k56_whole_breaks_of_fewer_r) (n := 63) (k := 19) (x := "_law_script") (CX := L2.CX0) rfl (by decide) (by kernel_rfl) ⟨rfl, by decide, by decide⟩ ?F (fun _ _ _ _ z => z)
    intro w mg fa h Y G hmg0
    obtain ⟨K, KX, c⟩ := Y
    have hmg : mg ("law" : PySem.Str) = some (.ref fa) := by
      have e : (HandSHeadRun.topDef (OpenLaw.row PySem.Challenge.rw_resendtimers_k56_whole_breaks_of_fewer_r).prog 68).name = ("law" : PySem.Str) := by kernel_rfl
      rw [← e]
      exact hmg0
    have T := Rt.tm_of KX G c
    obtain ⟨fd, F⟩ := T.d_law
    have e := hmg.symm.trans T.g_law
    cases e
    have b := L2.FunD.bindsA (ps := ["_law_script"]) F fun _ _ _ _ _ _ us hl => match us, hl with | [_], _ => rfl
    exact ⟨K, fd, Rt.spLaw K, KX, fun s v => b s [v] rfl, fun H a ns hl _ hS => ⟨a, ns, rfl, hS, fun _ => rfl⟩, fun base _ _ => Rt.ok_law rfl T F⟩
