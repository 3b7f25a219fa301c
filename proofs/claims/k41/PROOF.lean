import PyProof.Rows.All
import Wide.All
import OpenK.AllK
import Wide.FinOn
import HandS.ForExc
import HandS.More
import HandS.Defaults
import HandS.MakeKw
import HandS.MakeKwOnly
import HandS.Property
import HandS.ClsMeth
import HandS.Codes
import HandS.IsInst
import HandS.ExcIs
import HandS.ExcSuper
import HandS.ExcCtx
import HandS.Wide
import HandS.WideBits
import HandS.CallSlots
import HandS.Iter
import HandS.Comp
import HandS.FStr
import HandS.SlotsOwn
import KE.KOpsOwn
import KE.KStateDown
import HandS.Head0
import HandS.Head1
import HandS.Head2
import HandS.HeadEnd
import HandS.HeadHook1
import HandS.HeadHook2
import HandS.ExcField
import HandS.TryOnly
import HandS.TryMany
import HandS.HotCalls
import HandS.ExcInitHot
import HandS.Star
import KE.GoesEnum
import KE.KExcSuper
import KE.KSuper
import KE.KExcIs
import HandS.Dict
import KE.KIsAll
import HandS.Style
import HandS.OwnEq
import PyProof.DictUpdate
import HandS.ReSub
import HandS.TupAny
import PySem.Challenge.RW_resendtimers_k41_whole_last_stays_below
set_option Elab.async false
set_option linter.all false
set_option maxRecDepth 100000
set_option maxHeartbeats 4000000
namespace Rs
open PySem PySem.Spec PyProof.Rows L2

section
variable {X : Cx}
variable {σ : L2.St} {H : Hp} {D : Ends} {Q : VK} {QT : Bool → Hp → Prop} {QA : List V → Hp → Prop}
/-- what a call that raises leaves -/
abbrev RX (P : Program) (w : World) : CXT := L2N.CX P w
structure Body (X : Cx) (k : Nat) (E : L2.St → XK) : Prop where
  calm : X.calm = true
  room : Room k X.A
  tk : L2N.Takes X fun cls d σ H => E σ cls d H
  po : PassesOwn (model X.prog X.w) X.A X.env X.xe
  stk : (∀ x, X.fn x = true) → X.stack = X.env :: X.outer
  fr : (∀ x, X.fn x = true) → X.env.frame = some X.env.locals
theorem Body.at {k : Nat} {E : L2.St → XK} (B : Body X k E) (σ : L2.St) : PassesAt (RX X.prog X.w) X σ (E σ) := L2N.passAt B.tk σ
section
variable {k j : Nat} {E : L2.St → XK} {x m : Str} {sp : Sp} {p pos apos : Pos} {e o : Expr} {es : List Expr} {C : Addr}
end
end
end Rs

namespace Rs
open PySem PySem.Spec PyProof.Rows L2

/-- a source of draws: its numbers' list, the place, the rest of a great number, the seed -/
def SrcL (l : Addr) : HO → Prop := fun o => ∃ i b r : Int, o = .lst [.ref l, .int i, .int b, .int r] ∧ 0 ≤ i ∧ 0 ≤ r ∧ r < 2147483647
def Src (o : HO) : Prop := ∃ l, SrcL l o
theorem not_src_ins {C dx : Addr} {fs : List (Str × V)} : ¬ Src (.ins C dx fs) := by
  rintro ⟨l, i, b, r, e, _⟩
  cases e
/-- what stays as it is: no source, or a row that begins with an instance -/
def Good (H : Hp) (o : HO) : Prop := ¬ Src o ∨ ∃ l C dx fs rest, o = .lst (.ref l :: rest) ∧ H l = some (.ins C dx fs)
structure Ex (H H' : Hp) : Prop where
  kp : ∀ a o, H a = some o → Good H o → H' a = some o
  src : ∀ a l o, H a = some o → SrcL l o → ∃ o', H' a = some o' ∧ SrcL l o'
theorem Ex.keep {H H' : Hp} (x : Ex H H') (a : Addr) (o : HO) (h : H a = some o) (n : ¬ Src o) : H' a = some o := x.kp a o h (.inl n)
theorem Ex.back {H H' : Hp} {p : Addr} (x : Ex H H') (h : H' p = none) : H p = none := by
  cases q : H p with
  | none => rfl
  | some o =>
    by_cases s : Src o
    · obtain ⟨l, s⟩ := s
      obtain ⟨o', e, _⟩ := x.src p l o q s
      rw [h] at e
      cases e
    · have e := x.keep p o q s
      rw [h] at e
      cases e
theorem not_src_tup {xs : List V} : ¬ Src (.tup xs) := by
  rintro ⟨l, i, b, r, e, _⟩
  cases e
theorem Ex.ins {H H' : Hp} {a C dx : Addr} {fs : List (Str × V)} (x : Ex H H') (h : H a = some (.ins C dx fs)) : H' a = some (.ins C dx fs) := x.keep _ _ h not_src_ins
theorem Ex.tup {H H' : Hp} {a : Addr} {xs : List V} (x : Ex H H') (h : H a = some (.tup xs)) : H' a = some (.tup xs) := x.keep _ _ h not_src_tup

/-- any value v with R, in any heap that has grown from H -/
def Ret (H : Hp) (R : V → Hp → Prop) (Q : VK) : Prop := ∀ v H', Ex H H' → R v H' → Q v H'
theorem Ret.at {H H' : Hp} {R : V → Hp → Prop} {Q : VK} {v : V} (k : Ret H R Q) (x : Ex H H') (r : R v H') : Q v H' := k v H' x r
end Rs

namespace Rs
open PySem PySem.Spec PyProof.Rows L2
open AutoSeq1 (wpAny_loadPart')

section
variable (i : Int) (t : Tok) (x : Addr) (ox : Obj)
abbrev DeclS (x : Addr) (ox : Obj) : PySem.Spec := fun _ R s => s.heap.get? x = some ox ∧ ox.data = .plain ∧ R (.ok (.ret .notImplemented)) s
end
section
variable {X : Cx} {k j : Nat} {E : XK} {sp : Sp} {C f g a b dx dy : Addr} {fs gs : List (Str × V)} {H : Hp} {Q : VK} {op : Operator} {i : Int}
theorem back {pins : List (Addr × Obj)} {σ : L2.St} {A : Around} {t : Sem Value} {R : Value → Shared → Prop} {s : Shared} (h : wpAny (model X.prog X.w) A t (EP X pins σ Q) R s) :
    wpAny (model X.prog X.w) A t (PySem.W.CmpBack (EP X pins σ Q)) R s := wpAny_mono h (fun u s' z => by
  obtain ⟨v, H', I, r, q⟩ := z
  exact SlX.cmpback r ⟨v, H', I, r, q⟩) fun _ _ z => z
theorem inst_of {pins : List (Addr × Obj)} {σ : L2.St} {s : Shared} (I : Inv X pins σ H s) (e : H a = some (.ins C dx fs)) : ∃ od, PySem.W.InstAt s.heap a (PySem.W.instObj C dx) C (some od) := by
  obtain ⟨mA, O, _⟩ := ins_get I.hok e
  obtain ⟨od, J, _⟩ := O.look
  exact ⟨od, J⟩
end
end Rs

namespace Rs
open PySem PySem.Spec PyProof.Rows L2

section
variable {X : Cx} {k j : Nat} {E : XK} {sp : Sp} {C f g a b dx dy : Addr} {fs gs : List (Str × V)} {H : Hp} {Q : VK} {op : Operator} {cop : CmpOp} {i : Int}

end
end Rs

namespace Rs
open PySem PySem.Spec PyProof.Rows L2

section
variable {X : Cx} {σ : L2.St} {H : Hp} {D : Ends} {Q Q' : VK} {QT : Bool → Hp → Prop} {QA QA' : List V → Hp → Prop} {k j : Nat} {E : L2.St → XK} {x m : Str} {sp : Sp} {p pos apos : Pos} {e o a b c : Expr} {es : List Expr} {C : Addr}

end
end Rs

namespace Rs
open PySem PySem.Spec PyProof.Rows L2

section
variable {X : Cx} {σ : L2.St} {H : Hp} {D : Ends} {Q Q' : VK} {QT QT' : Bool → Hp → Prop} {QA QA' : List V → Hp → Prop} {k j : Nat} {E : L2.St → XK} {x m : Str} {sp : Sp} {p pos apos : Pos} {e o a b c : Expr} {es : List Expr} {C : Addr}

variable {i l : Int}
end
end Rs

namespace Rs
open PySem PySem.Spec PyProof.Rows L2
section
variable {P : Program} {w : World} {K : PySem.W.Frag} {mg : Str → Option Value} {base : Heap} {N : List Str} {qual : Str} {sc : Scope} {f : Addr} {cdv : Value} {A : Around} {outer : List Env} {s : Shared} {H : Hp} {E : XK} {k : Nat}
end
end Rs

namespace Rs
open PySem PySem.Spec PyProof.Rows L2 He

section
variable {P : Program} {w : World} {K : PySem.W.Frag} {mg : Str → Option Value} {base : Heap} {N ps : List Str} {name qual : Str} {pa : Arguments} {body : List Stmt} {sc : Scope} {dvs : List V} {kws : List (Str × V)} {f : Addr} {fd : FuncData} {k : Nat} {sp : Sp}
end
section
variable {X : Cx} {N : List Str} {sc : Scope} {i : Nat} {x : Str}
end

structure DefA where
  ad : PySem.W.Frag → Addr
  name : Str
  qual : Str
  params : Arguments
  body : List Stmt
  scope : Scope
  dfl : List Dv := []
  kwd : List (Str × Dv) := []
  clo : Bool := false
def DefA.seen (d : DefA) (K : PySem.W.Frag) : FnW := match K.lookup (d.ad K) with
  | some ⟨_, _, .func z, _⟩ => some (z.name, z.qualname, z.params, z.body, z.scope, z.globals, (bif d.clo then [] else z.closure), z.builtins)
  | _ => none
def DefA.told (d : DefA) : FnW := some (d.name, d.qual, d.params, .stmts d.body, d.scope, mainGlobals, [], builtinsNs)
def DefA.dvs (d : DefA) (K : PySem.W.Frag) : List V := d.dfl.map (Dv.v K)
def DefA.kws (d : DefA) (K : PySem.W.Frag) : List (Str × V) := d.kwd.map fun z => (z.1, z.2.v K)
def DefA.good (d : DefA) (K : PySem.W.Frag) : Bool := PySem.W.keepIn K (.ref (d.ad K)) && (match K.lookup (d.ad K) with
  | some ⟨_, _, .func z, _⟩ => PySem.W.codeIn K z.code d.qual && (d.clo || (dflB K z.defaults (d.dvs K) && kwdB K z.kwdefaults (d.kws K)))
  | _ => false)
def pgA (K : PySem.W.Frag) (C : Addr) (m : Str) : Addr := match PySem.W.recIn K (ma K C m) "property" with
  | some (.ref g :: _) => g
  | _ => 0
abbrev AlA : Type := Bool × List FnW
def obsX (ψ : List (PySem.W.Frag → Bool)) (fn : List DefA) (K : PySem.W.Frag) : AlA := ((ψ.all fun b => b K) && fn.all fun d => d.good K, fn.map fun d => d.seen K)
def valX (fn : List DefA) : AlA := (true, fn.map DefA.told)
def SaysX (ψ : List (PySem.W.Frag → Bool)) (fn : List DefA) (K : PySem.W.Frag) : Prop := obsX ψ fn K = valX fn
def visitY (m : Nat) (acc : List Addr) : List Addr → Nat × List Addr
  | [] => (m, acc)
  | r :: rs => match Nat.beq (Nat.land (Nat.shiftRight m r) 1) 1 with
    | true => visitY m acc rs
    | false => visitY (Nat.lor m (Nat.shiftLeft 1 r)) (r :: acc) rs
def namesY (g : Addr → Option Obj) (a : Addr) : List Addr := match g a with
  | some o => refsD o
  | none => []
def layerY (g : Addr → Option Obj) (m : Nat) (acc : List Addr) : List Addr → Nat × List Addr
  | [] => (m, acc)
  | a :: as => match visitY m acc (namesY g a) with
    | (m', acc') => layerY g m' acc' as
def goY (g : Addr → Option Obj) : Nat → Nat → List Addr → List Addr → List Addr
  | 0, _, _, all => all
  | n + 1, m, fr, all => match layerY g m [] fr with
    | (m', fr') => goY g n m' fr' (fr' ++ all)
def asY (g : Addr → Option Obj) (n : Nat) : List Addr := goY g n (Nat.shiftLeft 1 mainGlobals) [mainGlobals] [mainGlobals]
def hookX (n : Nat) (ψ : List (PySem.W.Frag → Bool)) (fn : List DefA) : PySem.W.Hook where
  α := AlA
  obs := fun s => obsX ψ fn (frG s.heap.get? ((asY s.heap.get? n).reverse ++ [cStatics]))
  val := fun _ => valX fn
  says := fun _ h => ∃ K : PySem.W.Frag, K.In h ∧ SaysX ψ fn K
  of := fun _ _ e => ⟨_, frG_in, e⟩
  keeps := fun _ _ _ z k => by
    obtain ⟨K, hK, c⟩ := z
    exact ⟨K, PySem.W.Frag.In.keeps hK k, c⟩
def obX (n : Nat) (ψ : List (PySem.W.Frag → Bool)) (fn : List DefA) (s : PySem.W.SharedT) : AlA := obsX ψ fn (frG (HandSHeadRun.getT s) ((asY (HandSHeadRun.getT s) n).reverse ++ [cStatics]))
section
variable {ψ : List (PySem.W.Frag → Bool)} {fn : List DefA} {K : PySem.W.Frag}
theorem SaysX.all (c : SaysX ψ fn K) : (∀ b ∈ ψ, b K = true) ∧ (∀ d ∈ fn, d.good K = true) ∧ ∀ d ∈ fn, d.seen K = d.told := by
  have c1 : ((ψ.all fun b => b K) && fn.all fun d => d.good K) = true := congrArg (fun z : AlA => z.1) c
  have c2 : fn.map (fun d => d.seen K) = fn.map DefA.told := congrArg (fun z : AlA => z.2) c
  rw [Bool.and_eq_true] at c1
  refine ⟨List.all_eq_true.mp c1.1, List.all_eq_true.mp c1.2, fun d hd => ?_⟩
  obtain ⟨i, hi, e⟩ := List.mem_iff_getElem.mp hd
  have e1 : (fn.map fun d => d.seen K)[i]? = (fn.map DefA.told)[i]? := by rw [c2]
  rw [List.getElem?_map, List.getElem?_map, List.getElem?_eq_getElem hi, e] at e1
  exact Option.some.inj e1
end

def isRefO : Option Value → Bool
  | none => true
  | some (.ref _) => true
  | _ => false
def binOwnB (K : PySem.W.Frag) (C f : Addr) (op : Operator) : Bool :=
  PySem.W.selfFirst K C && (decide (PySem.W.findIn K (.ref C) (PySem.dunder op.info.2) = some (some (.ref f))) && (PySem.W.isFn K (.ref f) && ((match PySem.W.findIn K (.ref C) (dunderR op.info.2) with
    | some rc => isRefO rc
    | none => false) && ((PySem.W.findIn K (.type "int") (PySem.dunder op.info.2)).isSome && ((PySem.W.findIn K (.type "int") (dunderR op.info.2)).isSome && decide (PySem.W.subIn K (.type "int") (.ref C) = some false))))))
def binRefB (K : PySem.W.Frag) (C f g : Addr) (op : Operator) : Bool :=
  PySem.W.selfFirst K C && (decide (PySem.W.findIn K (.ref C) (PySem.dunder op.info.2) = some (some (.ref f))) && (decide (PySem.W.findIn K (.ref C) (dunderR op.info.2) = some (some (.ref g))) && (PySem.W.isFn K (.ref g) && decide (PySem.W.subIn K (.ref C) (.type "int") = some false))))
def cmpOwnB (K : PySem.W.Frag) (C f : Addr) (op : CmpOp) : Bool := decide (PySem.W.findIn K (.ref C) (cmpInfo op).2.1 = some (some (.ref f))) && (PySem.W.isFn K (.ref f) && PySem.W.notFirst K C (.type "int"))
def cmpRefB (K : PySem.W.Frag) (C g : Addr) (op : CmpOp) : Bool := decide (PySem.W.findIn K (.ref C) (cmpInfo op).2.2 = some (some (.ref g))) && (PySem.W.isFn K (.ref g) && decide (PySem.W.subIn K (.ref C) (.type "int") = some false))
def negOwnB (K : PySem.W.Frag) (C f : Addr) : Bool := decide (PySem.W.findIn K (.ref C) "__neg__" = some (some (.ref f))) && PySem.W.isFn K (.ref f)
def noInplB (K : PySem.W.Frag) (C : Addr) (op : Operator) : Bool := (match PySem.W.clsIn K C with
  | some cd => decide (cd.mro = [.ref C, .type "object"])
  | none => false) && (decide (PySem.W.findIn K (.ref C) (dunderI op.info.2) = some none) && decide (PySem.W.findIn K (.type "object") (dunderI op.info.2) = some none))
def propB (K : PySem.W.Frag) (C : Addr) (m : Str) : Bool := decide (PySem.W.findIn K (.ref C) m = some (some (.ref (ma K C m)))) && (decide (PySem.W.specialIn K (.ref (ma K C m)) "__get__" = some (some (.builtin "property.__get__"))) && (decide (PySem.W.takesIn K (.ref (ma K C m)) = some true) &&
  (match PySem.W.recIn K (ma K C m) "property" with
    | some (.ref g :: _) => decide (g = pgA K C m)
    | _ => false)))
/-- what isinstance asks of the class at C -/
structure IsC (K : PySem.W.Frag) (C : Addr) : Prop where
  cl : Cls K C
  ca : PySem.W.findIn K (.ref C) "__class__" = some (some (.builtin "object.__class__"))
  cn : PySem.W.specialIn K (.builtin "object.__class__") "__get__" = some (some (.builtin "getset_descriptor.__get__"))
  ct : PySem.W.takesIn K (.builtin "object.__class__") = some true
  cm : PySem.W.mroIn K C (.type "object") = some true
def isCB (K : PySem.W.Frag) (x : Str) : Bool := (Fa.cls x).ok K && (decide (PySem.W.findIn K (.ref (ga K x)) "__class__" = some (some (.builtin "object.__class__"))) && (decide (PySem.W.specialIn K (.builtin "object.__class__") "__get__" = some (some (.builtin "getset_descriptor.__get__"))) &&
  (decide (PySem.W.takesIn K (.builtin "object.__class__") = some true) && decide (PySem.W.mroIn K (ga K x) (.type "object") = some true))))
theorem IsC.ty {K : PySem.W.Frag} {C a dx : Addr} {fs : List (Str × V)} {H : Hp} (c : IsC K C) (h : H a = some (.ins C dx fs)) : TyX K H (.ref a) (.ref C) := .base (.ins h c.cl c.ca c.cn c.ct c.cm)
def kitCB (K : PySem.W.Frag) (C : Addr) : Bool := decide (PySem.W.kitOne K (.ref C) (.ref C) = some true) && (decide (PySem.W.kitOne K (.ref C) (.type "int") = some false) && (decide (PySem.W.kitOne K (.ref C) (.type "bool") = some false) && (decide (PySem.W.kitOne K (.ref C) (.type "str") = some false) &&
  ((["int", "bool", "str", "NoneType", "tuple", "list"] : List String).all fun n => decide (PySem.W.kitOne K (.type n) (.ref C) = some false)))))
end Rs

namespace Rs
open PySem PySem.Spec PyProof.Rows L2 He PySem.Calls
section
variable {P : Program} {w : World} {K : PySem.W.Frag} {mg : Str → Option Value} {base : Heap} {N ps : List Str} {name qual : Str} {pa : Arguments} {body : List Stmt} {sc : Scope} {dvs : List V} {kws : List (Str × V)} {f : Addr} {fd : FuncData} {k : Nat} {sp : Sp}
end
def absOwnB (K : PySem.W.Frag) (C f : Addr) : Bool := decide (PySem.W.findIn K (.ref C) "__abs__" = some (some (.ref f))) && PySem.W.isFn K (.ref f)
end Rs

namespace Rs
open PySem PySem.Spec PyProof.Rows L2 He
def excPlainB (K : PySem.W.Frag) (C : Addr) : Bool := PySem.W.excIn K C veBase "ValueError.__new__" && (PySem.W.keepIn K (.ref C) && (decide (PySem.W.subIn K (.ref C) (.type "BaseException") = some true) && decide (PySem.W.typeIn K (.ref C) = some (.type "type"))))
section
variable {X : Cx} {σ : L2.St} {H : Hp} {Q : VK} {x : Str} {pos : Pos}
end
end Rs

namespace Rs
open PySem PySem.Spec PyProof.Rows L2 He
section
variable {X : Cx} {σ : L2.St} {H : Hp} {D : Ends} {Q Q' : VK} {k j : Nat} {E : XK} {x : Str} {p pos pos' : Pos} {a b c e o : Expr}
end
section
variable {H : Hp} {p l : Addr} {i b r : Int} {P : Hp → Prop}
end
end Rs

namespace Mt
structure Sz (q : Rat) (n : Nat) : Prop where
  num : q.num.natAbs < 2 ^ n
  den : q.den < 2 ^ n
theorem num_le (t b : Int) : (Rat.divInt t b).num.natAbs ≤ t.natAbs := by
  rw [Rat.num_divInt, Int.natAbs_ediv_of_dvd, Int.natAbs_mul]
  · refine Nat.le_trans (Nat.div_le_self _ _) ?_
    have : b.sign.natAbs ≤ 1 := by
      rcases Int.lt_trichotomy b 0 with h | h | h
      · rw [Int.sign_eq_neg_one_of_neg h]; decide
      · subst h; decide
      · rw [Int.sign_eq_one_of_pos h]; decide
    calc b.sign.natAbs * t.natAbs ≤ 1 * t.natAbs := Nat.mul_le_mul_right _ this
      _ = t.natAbs := Nat.one_mul _
  · exact Int.dvd_mul_of_dvd_right (Int.gcd_dvd_right ..)
theorem den_le {t b : Int} (hb : b ≠ 0) : (Rat.divInt t b).den ≤ b.natAbs := by
  rw [Rat.den_divInt, if_neg hb]
  exact Nat.div_le_self _ _
theorem Sz.div {t b : Int} {n : Nat} (hb : b ≠ 0) (h1 : t.natAbs < 2 ^ n) (h2 : b.natAbs < 2 ^ n) : Sz (Rat.divInt t b) n := ⟨Nat.lt_of_le_of_lt (num_le t b) h1, Nat.lt_of_le_of_lt (den_le hb) h2⟩
theorem int_eq (i : Int) : Rat.divInt i 1 = (i : Rat) := by
  have h := Rat.num_divInt_den (i : Rat)
  rw [Rat.num_intCast] at h
  exact h
end Mt

namespace Rs
open PySem PySem.Spec PyProof.Rows L2 He Mt
section
variable {X : Cx} {k : Nat} {E : L2.St → XK} {H : Hp} {Q : VK} {p p' : Addr} {a b c d : Int}
end
end Rs
namespace Rs
open PySem PySem.Spec PyProof.Rows L2 He Mt
end Rs

namespace Rs
open PySem PySem.Spec PyProof.Rows L2 He
open AutoSeq1 (wpAny_loadPart')
section
variable {X : Cx} {σ : L2.St} {H : Hp}
end
section
variable {P : Program} {w : World} {K : PySem.W.Frag} {mg : Str → Option Value} {base : Heap} {N ps : List Str} {name qual : Str} {pa : Arguments} {body : List Stmt} {sc : Scope} {dvs : List V} {kws : List (Str × V)} {f : Addr} {fd : FuncData} {k : Nat} {sp : SpN}
end
section
variable {X : Cx} {σ : L2.St} {H : Hp} {pins : List (Addr × Obj)} {s : Shared}
end

structure NeOwn (K : PySem.W.Frag) (C f : Addr) : Prop where
  eq : PySem.W.findIn K (.ref C) "__eq__" = some (some (.ref f))
  fn : PySem.W.isFn K (.ref f) = true
  ne : PySem.W.findIn K (.ref C) "__ne__" = some (some (.builtin "object.__ne__"))
  ob : PySem.W.mroIn K C (.type "object") = some true
  tu : PySem.W.mroIn K C (.type "tuple") = some false
  li : PySem.W.mroIn K C (.type "list") = some false
  st : PySem.W.mroIn K C (.type "str") = some false
  sub : PySem.W.subIn K (.ref C) (.type "int") = some false
def neOwnB (K : PySem.W.Frag) (C f : Addr) : Bool := decide (PySem.W.findIn K (.ref C) "__eq__" = some (some (.ref f))) && (PySem.W.isFn K (.ref f) && (decide (PySem.W.findIn K (.ref C) "__ne__" = some (some (.builtin "object.__ne__"))) &&
  (decide (PySem.W.mroIn K C (.type "object") = some true) && (decide (PySem.W.mroIn K C (.type "tuple") = some false) && (decide (PySem.W.mroIn K C (.type "list") = some false) && (decide (PySem.W.mroIn K C (.type "str") = some false) && decide (PySem.W.subIn K (.ref C) (.type "int") = some false)))))))
section
variable {M : Model} {prog : Program} {w : World} {A : Around} {E : Value → Shared → Prop} {s : Shared} {K : PySem.W.Frag} {x C f : Addr} {ox : Obj} {od : Option Obj} {b : Value}
end

section
variable (x : Addr) (ox : Obj)
theorem decl_eqB (i : Bool) : Meets (Builtin.«int.__eq__» ⟨[.bool i, .ref x], []⟩) (DeclS x ox) := .of_wp fun prog w A R s q => by
  obtain ⟨hp, g, d, tk, os⟩ := s
  obtain ⟨e1, e2, z⟩ := q
  wp_walk using wpAny_loadPart' e1, wpAny_load e1
  rw [e2]
  wp_walk
  exact ⟨_, rfl, z⟩
theorem decl_neB (i : Bool) : Meets (Builtin.«int.__ne__» ⟨[.bool i, .ref x], []⟩) (DeclS x ox) := .of_wp fun prog w A R s q => by
  obtain ⟨hp, g, d, tk, os⟩ := s
  obtain ⟨e1, e2, z⟩ := q
  wp_walk using wpAny_loadPart' e1, wpAny_load e1
  rw [e2]
  wp_walk
  exact ⟨_, rfl, z⟩
theorem decl_eqS (z : Str) (t : Tok) : Meets (Builtin.«str.__eq__» ⟨[.str z t, .ref x], []⟩) (DeclS x ox) := .of_wp fun prog w A R s q => by
  obtain ⟨hp, g, d, tk, os⟩ := s
  obtain ⟨e1, e2, z⟩ := q
  wp_walk using wpAny_loadPart' e1, wpAny_load e1
  rw [e2]
  wp_walk
  exact ⟨_, rfl, z⟩
theorem decl_neS (z : Str) (t : Tok) : Meets (Builtin.«str.__ne__» ⟨[.str z t, .ref x], []⟩) (DeclS x ox) := .of_wp fun prog w A R s q => by
  obtain ⟨hp, g, d, tk, os⟩ := s
  obtain ⟨e1, e2, z⟩ := q
  wp_walk using wpAny_loadPart' e1, wpAny_load e1
  rw [e2]
  wp_walk
  exact ⟨_, rfl, z⟩
theorem decl_eqN : Meets (Builtin.«NoneType.__eq__» ⟨[.none, .ref x], []⟩) (DeclS x ox) := .of_wp fun prog w A R s q => by
  obtain ⟨hp, g, d, tk, os⟩ := s
  obtain ⟨e1, e2, z⟩ := q
  wp_walk
  exact ⟨_, rfl, z⟩
theorem decl_neN : Meets (Builtin.«NoneType.__ne__» ⟨[.none, .ref x], []⟩) (DeclS x ox) := .of_wp fun prog w A R s q => by
  obtain ⟨hp, g, d, tk, os⟩ := s
  obtain ⟨e1, e2, z⟩ := q
  wp_walk
  exact ⟨_, rfl, z⟩
end
section
variable {M : Model} {A : Around} {E : Value → Shared → Prop} {s : Shared} {K : PySem.W.Frag} {x C f p : Addr} {ox : Obj} {od : Option Obj} {Q : Fin → Shared → Prop}
theorem isI_no {T : String} (X : K.In s.heap) (I : PySem.W.InstAt s.heap x ox C od) (h : PySem.W.mroIn K C (.type T) = some false) : PySem.W.Looks M s.heap (isInstance (.ref x) (.type T)) false := I.type.andThen (PySem.W.looks_mroIn X h)
theorem shape_eqT : ∃ r : Bool → Sem Fin, Builtin.«tuple.__eq__» ⟨[.ref p, .ref x], []⟩ = (isInstance (.ref x) (.type "tuple") >>= r) ∧ r false = (ret .notImplemented >>= fun y => pure y) := ⟨_, rfl, rfl⟩
theorem shape_neT : ∃ r : Bool → Sem Fin, Builtin.«tuple.__ne__» ⟨[.ref p, .ref x], []⟩ = (isInstance (.ref x) (.type "tuple") >>= r) ∧ r false = (ret .notImplemented >>= fun y => pure y) := ⟨_, rfl, rfl⟩
theorem shape_eqL : ∃ r : Bool → Sem Fin, Builtin.«list.__eq__» ⟨[.ref p, .ref x], []⟩ = (isInstance (.ref x) (.type "list") >>= r) ∧ r false = (ret .notImplemented >>= fun y => pure y) := ⟨_, rfl, rfl⟩
theorem shape_neL : ∃ r : Bool → Sem Fin, Builtin.«list.__ne__» ⟨[.ref p, .ref x], []⟩ = (isInstance (.ref x) (.type "list") >>= r) ∧ r false = (ret .notImplemented >>= fun y => pure y) := ⟨_, rfl, rfl⟩
theorem shape_go {t : Sem Fin} {T : String} (h : ∃ r : Bool → Sem Fin, t = (isInstance (.ref x) (.type T) >>= r) ∧ r false = (ret .notImplemented >>= fun y => pure y)) (X : K.In s.heap) (I : PySem.W.InstAt s.heap x ox C od) (hm : PySem.W.mroIn K C (.type T) = some false) (q : Q (.done (.ret .notImplemented)) s) :
    wpAny M A t Q E s := by
  obtain ⟨r, rfl, h⟩ := h
  refine wpAny_bind ((isI_no X I hm).here ?_)
  rw [h]
  exact wpAny_bind (wpAny_pure (wpAny_pure q))
end

/-- v is no int, no bool and no instance -/
inductive Fgn (H : Hp) : V → Prop
  | non : Fgn H .non
  | bl (b : Bool) : Fgn H (.bl b)
  | str (z : Str) : Fgn H (.str z)
  | tup {p : Addr} {xs : List V} : H p = some (.tup xs) → Fgn H (.ref p)
  | lst {p : Addr} {xs : List V} : H p = some (.lst xs) → Fgn H (.ref p)
/-- what its value does beside the instance at x -/
structure FgnAt (K : PySem.W.Frag) (s : Shared) (x C : Addr) (u : Value) : Prop where
  ty : ∃ T, s.TypeIs u T ∧ PySem.W.subIn K (.type T) (.ref C) = some false
  eq : ∀ prog w A E, wpAny (model prog w) A (tryCompare u "__eq__" (.ref x)) (fun r s' => r = none ∧ s' = s) E s
  ne : ∀ prog w A E, wpAny (model prog w) A (tryCompare u "__ne__" (.ref x)) (fun r s' => r = none ∧ s' = s) E s
  same : ∀ (M : Model) A E (Q : Bool → Shared → Prop), Q false s → wpAny M A (isSame (.ref x) u) Q E s
  one : ∀ op, oneThing? op (.ref x) u = none
theorem sub_tc {K : PySem.W.Frag} {T : String} {C : Addr} {l : List Value} (h : fastBuiltinMro T = some l) (hl : ∀ v ∈ l, ∃ n, v = Value.type n) : PySem.W.subIn K (.type T) (.ref C) = some false := by
  show (fastBuiltinMro T).map (·.contains (.ref C)) = some false
  rw [h]
  refine congrArg some (Bool.eq_false_iff.mpr fun q => ?_)
  obtain ⟨n, e⟩ := hl _ (List.contains_iff_mem.mp q)
  cases e
theorem tys {l : List String} {v : Value} (h : v ∈ l.map Value.type) : ∃ n, v = Value.type n := by
  obtain ⟨n, _, rfl⟩ := List.mem_map.mp h
  exact ⟨n, rfl⟩
theorem isSame_inst {M : Model} {A : Around} {E : Value → Shared → Prop} {s : Shared} {x p C dx : Addr} {o : Obj} {Q : Bool → Shared → Prop} (h1 : s.heap.get? x = some (PySem.W.instObj C dx)) (h2 : s.heap.get? p = some o) (hc : o.cls ≠ .ref C) (q : Q false s) :
    wpAny M A (isSame (.ref x) (.ref p)) Q E s := by
  have ne : (x == p) = false := Bool.eq_false_iff.mpr fun e => by
    cases eq_of_beq e
    rw [h1] at h2
    cases h2
    exact hc rfl
  unfold isSame
  simp only [ne, Bool.false_eq_true, if_false]
  refine wpAny_bind (wpAny_load h1 (wpAny_bind (wpAny_load h2 ?_)))
  exact wpAny_pure q
theorem Fgn.at {X : Cx} {pins : List (Addr × Obj)} {σ : L2.St} {H : Hp} {s : Shared} {a C dx f : Addr} {fs : List (Str × V)} {v : V} {u : Value} (g : Fgn H v) (I : Inv X pins σ H s) (r : RelV v u) (ea : H a = some (.ins C dx fs)) (c : NeOwn X.K C f) : FgnAt X.K s a C u := by
  obtain ⟨od, J⟩ := inst_of I ea
  have KX := I.kIn
  have pl : (PySem.W.instObj C dx).data = .plain := rfl
  cases g with
  | non =>
    cases r
    exact ⟨⟨"NoneType", rfl, sub_tc (l := ["NoneType", "object"].map Value.type) (by decide +kernel) fun v h => tys h⟩,
      fun prog w A E => wpAny_tryCompare_declines (show s.TypeIs .none "NoneType" from rfl) F.slot_NoneType_eq_refl (call_meets F.slot_NoneType_eq_refl rfl F.entry_NoneType_eq (F.args_NoneType_eq_2 _ _) (decl_eqN a _) ⟨J.at_, pl, rfl, rfl, rfl⟩),
      fun prog w A E => wpAny_tryCompare_declines (show s.TypeIs .none "NoneType" from rfl) F.slot_NoneType_ne_refl (call_meets F.slot_NoneType_ne_refl rfl F.entry_NoneType_ne (F.args_NoneType_ne_2 _ _) (decl_neN a _) ⟨J.at_, pl, rfl, rfl, rfl⟩),
      fun M A E Q q => wpAny_of_eq (rfl : isSame (.ref a) .none = pure false) q, fun op => rfl⟩
  | bl b =>
    cases r
    exact ⟨⟨"bool", rfl, sub_tc (l := ["bool", "int", "object"].map Value.type) (by decide +kernel) fun v h => tys h⟩,
      fun prog w A E => wpAny_tryCompare_declines (show s.TypeIs (.bool b) "bool" from rfl) F.slot_bool_eq_refl (call_meets F.slot_bool_eq_refl rfl F.entry_int_eq (F.args_int_eq_2 _ _) (decl_eqB a _ b) ⟨J.at_, pl, rfl, rfl, rfl⟩),
      fun prog w A E => wpAny_tryCompare_declines (show s.TypeIs (.bool b) "bool" from rfl) F.slot_bool_ne_refl (call_meets F.slot_bool_ne_refl rfl F.entry_int_ne (F.args_int_ne_2 _ _) (decl_neB a _ b) ⟨J.at_, pl, rfl, rfl, rfl⟩),
      fun M A E Q q => wpAny_of_eq (rfl : isSame (.ref a) (.bool b) = pure false) q, fun op => rfl⟩
  | str z =>
    obtain ⟨t, rfl⟩ := r
    exact ⟨⟨"str", typeIs_str _ _ _, sub_tc (l := ["str", "object"].map Value.type) (by decide +kernel) fun v h => tys h⟩,
      fun prog w A E => wpAny_tryCompare_declines (typeIs_str s z t) F.slot_str_eq_refl (call_meets F.slot_str_eq_refl (typeIs_str s z t) F.entry_str_eq (F.args_str_eq_2 _ _) (decl_eqS a _ z t) ⟨J.at_, pl, rfl, rfl, rfl⟩),
      fun prog w A E => wpAny_tryCompare_declines (typeIs_str s z t) F.slot_str_ne_refl (call_meets F.slot_str_ne_refl (typeIs_str s z t) F.entry_str_ne (F.args_str_ne_2 _ _) (decl_neS a _ z t) ⟨J.at_, pl, rfl, rfl, rfl⟩),
      fun M A E Q q => wpAny_of_eq (rfl : isSame (.ref a) (.str z t) = pure false) q, fun op => rfl⟩
  | tup hp =>
    cases r
    rename_i p xs
    obtain ⟨its, rv, ⟨o, ho, hc, _⟩, _⟩ := I.tuple (.of hp)
    have hT : s.TypeIs (.ref p) "tuple" := ⟨o, ho, hc⟩
    exact ⟨⟨"tuple", hT, sub_tc (l := ["tuple", "object"].map Value.type) (by decide +kernel) fun v h => tys h⟩,
      fun prog w A E => wpAny_tryCompare_declines hT F.slot_tuple_eq_refl (wpAny_call (codeAny_call_builtin F.slot_tuple_eq_refl.plain F.entry_tuple_eq (F.slot_tuple_eq_refl.check _ _ _ _ _ _ _ _ hT (F.args_tuple_eq_2 _ _) (shape_go shape_eqT KX J c.tu ⟨rfl, rfl, rfl⟩)))),
      fun prog w A E => wpAny_tryCompare_declines hT F.slot_tuple_ne_refl (wpAny_call (codeAny_call_builtin F.slot_tuple_ne_refl.plain F.entry_tuple_ne (F.slot_tuple_ne_refl.check _ _ _ _ _ _ _ _ hT (F.args_tuple_ne_2 _ _) (shape_go shape_neT KX J c.tu ⟨rfl, rfl, rfl⟩)))),
      fun M A E Q q => isSame_inst J.at_ ho (by rw [hc]; exact fun z => nomatch z) q, fun op => rfl⟩
  | lst hp =>
    cases r
    rename_i p xs
    obtain ⟨its, n, rv, ho, _⟩ := I.lst hp
    have hT : s.TypeIs (.ref p) "list" := ⟨_, ho, rfl⟩
    exact ⟨⟨"list", hT, sub_tc (l := ["list", "object"].map Value.type) (by decide +kernel) fun v h => tys h⟩,
      fun prog w A E => wpAny_tryCompare_declines hT F.slot_list_eq_refl (wpAny_call (codeAny_call_builtin F.slot_list_eq_refl.plain F.entry_list_eq (F.slot_list_eq_refl.check _ _ _ _ _ _ _ _ hT (F.args_list_eq_2 _ _) (shape_go shape_eqL KX J c.li ⟨rfl, rfl, rfl⟩)))),
      fun prog w A E => wpAny_tryCompare_declines hT F.slot_list_ne_refl (wpAny_call (codeAny_call_builtin F.slot_list_ne_refl.plain F.entry_list_ne (F.slot_list_ne_refl.check _ _ _ _ _ _ _ _ hT (F.args_list_ne_2 _ _) (shape_go shape_neL KX J c.li ⟨rfl, rfl, rfl⟩)))),
      fun M A E Q q => isSame_inst J.at_ ho (fun z => nomatch z) q, fun op => rfl⟩

section
variable {X : Cx} {k j : Nat} {E : XK} {sp : SpN} {C f a dx : Addr} {fs : List (Str × V)} {H : Hp} {Q : VK} {v : V}
end
section
variable {X : Cx} {k j : Nat} {E : XK} {sp : Sp} {C f a b dx dy : Addr} {fs gs : List (Str × V)} {H : Hp} {Q : VK} {v : V} {i : Int}
end
end Rs

namespace Rs
open PySem PySem.Spec PyProof.Rows L2 He
section
variable {X : Cx} {σ : L2.St} {H : Hp} {D : Ends} {Q : VK} {x y : Str} {i : Int} {a b c e : Expr} {p pos : Pos}
end
section
variable {X : Cx} {σ : L2.St} {H : Hp} {D : Ends} {k : Nat} {E : L2.St → XK} {x : Str} {px pos : Pos} {a : Expr} {i : Nat} {body : List Stmt}
end
end Rs

namespace Rs
open PySem PySem.Spec PyProof.Rows L2 He
section
variable {X : Cx} {i : Nat} {x : Str} {pn : List (Addr × Obj)} {xe : Value → Shared → Prop} {a : Addr}
end
section
variable {X : Cx} {x n : Str} {c : Value} {i k : Nat} {E : L2.St → XK} {D : Ends} {σ : L2.St} {H : Hp} {body suite : List Stmt} {b₀ : Stmt} {np pos pos' : Pos}
end
section
variable {X : Cx} {a D : Addr} {oe : Obj} {pn : List (Addr × Obj)} {σ : L2.St} {H : Hp} {Q : VK} {e b : Expr} {p pos : Pos}
end
def excCB (K : PySem.W.Frag) (D : Addr) : Bool := decide (PySem.W.findIn K (.ref D) "__getattribute__" = some (some (.builtin "BaseException.__getattribute__"))) && (decide (PySem.W.findIn K (.ref D) "__getattr__" = some none) && (decide (PySem.W.subIn K (.ref D) (.type "BaseException") = some true) && (PySem.W.hasDictIn K D &&
  (decide (PySem.W.findIn K (.ref D) "__class__" = some (some (.builtin "object.__class__"))) && (decide (PySem.W.specialIn K (.builtin "object.__class__") "__get__" = some (some (.builtin "getset_descriptor.__get__"))) && (decide (PySem.W.takesIn K (.builtin "object.__class__") = some true) && decide (PySem.W.mroIn K D (.type "object") = some true)))))))
end Rs

namespace Rs
open PySem PySem.Spec PyProof.Rows L2 He PySem.Calls ClX
section
variable {X : Cx} {σ : L2.St} {H : Hp} {Q : VK} {QA : List V → Hp → Prop} {k j n : Nat} {E : L2.St → XK} {x : Str} {sp : Sp} {p pos kpos : Pos} {e : Expr} {es : List Expr} {kws : List Keyword} {C f : Addr} {fd : FuncData} {ps ks : List Str} {nm : Option Str} {g : List Value → List Value → List Value} {gV : List V → List V → List V}
end
section
variable {X : Cx} {σ : L2.St} {H : Hp} {Q : VK} {k j : Nat} {E : L2.St → XK} {m : Str} {sp : Sp} {pos apos : Pos} {o e : Expr} {es : List Expr} {C p g : Addr}
end
def boolOwnB (K : PySem.W.Frag) (C f : Addr) : Bool := decide (PySem.W.findIn K (.ref C) "__bool__" = some (some (.ref f))) && PySem.W.isFn K (.ref f)
end Rs

namespace Rs
open PySem PySem.Spec PyProof.Rows L2 He
section
variable {P : Program} {w : World} {K : PySem.W.Frag} {mg : Str → Option Value} {base : Heap} {N ps : List Str} {name qual : Str} {pa : Arguments} {body : List Stmt} {sc : Scope} {dvs : List V} {kws : List (Str × V)} {f : Addr} {fd : FuncData} {k : Nat} {sp : Sp}
end
section
variable {X : Cx} {σ : L2.St} {H : Hp} {Q : VK} {k j : Nat} {x : Str} {sp : Sp} {p pos : Pos} {e : Expr} {es : List Expr}
end
end Rs

namespace Rs
open PySem PySem.Spec PyProof.Rows L2 He
section
variable {X : Cx} {σ : L2.St} {k j : Nat} {E : L2.St → XK} {sp : Sp} {C f g a b dx dy : Addr} {fs gs : List (Str × V)} {H : Hp} {Q : VK} {op : Operator} {i : Int} {e1 e2 : Expr} {pos : Pos}
end
end Rs

namespace Rs
open PySem PySem.Spec PyProof.Rows L2 He
section
variable {X : Cx} {s : Shared} {H : Hp} {scope : Scope} {C : Addr} {cl : List (Str × Addr)} {fp : List Addr} {k i : Nat} {E : L2.St → XK} {x : Str}
end
section
variable {X : Cx} {σ : L2.St} {H : Hp} {Q : VK} {D : Ends} {k i n : Nat} {E : L2.St → XK} {x y : Str} {scope : Scope} {elt iter : Expr} {px py pos spos : Pos}
end
end Rs

namespace Rs
open PySem PySem.Spec PyProof.Rows L2 He PySem.Calls
section
variable {prog : Program} {w : World} {A : Around} {E : Value → Shared → Prop} {s : Shared}
end
section
variable {X : Cx} {k i j n m : Nat} {E : L2.St → XK} {x y : Str} {D : Ends} {σ : L2.St} {H : Hp} {body : List Stmt} {e : Expr} {p pos pc px py tp : Pos} {kk : Nat}
end
end Rs

namespace Rs
open PySem PySem.Spec PyProof.Rows L2 He PySem.Calls
/-- t looks names up in the dict at D, then goes on as r -/
def KwTo {α : Type} (D : Addr) : List (Str × Value) → Sem α → Sem α → Prop
  | [], t, r => t = r
  | q :: l, t, r => ∃ (β γ : Type) (k1 : Option Value → Sem β) (k2 : β → Sem γ) (k3 : γ → Sem α) (a : β), (t = ((nsGet D q.1 >>= k1) >>= k2) >>= k3) ∧ k1 (some q.2) = pure a ∧ KwTo D l (k2 a >>= k3) r
theorem KwTo.run {α : Type} {K : PySem.W.Frag} {M : Model} {A : Around} {s : Shared} {D : Addr} {Q : α → Shared → Prop} {E : Value → Shared → Prop} (X : K.In s.heap) :
    ∀ {l : List (Str × Value)} {t r : Sem α}, (∀ q ∈ l, PySem.W.nsIn K D q.1 = some (some q.2)) → KwTo D l t r → wpAny M A r Q E s → wpAny M A t Q E s
  | [], t, r, _, e, h => by
    cases e
    exact h
  | q :: l, t, r, hl, e, h => by
    obtain ⟨β, γ, k1, k2, k3, a, e1, e2, e3⟩ := e
    have l1 : PySem.W.Looks M s.heap (nsGet D q.1 >>= k1) a := (PySem.W.looks_nsIn X (hl q List.mem_cons_self)).andThen (PySem.W.Looks.of_pure e2)
    rw [e1, bind_assoc]
    exact wpAny_bind (l1.here (KwTo.run X (fun p hp => hl p (List.mem_cons_of_mem _ hp)) e3 h))
section
variable {P : Program} {w : World} {K : PySem.W.Frag} {mg : Str → Option Value} {base : Heap} {N ps : List Str} {pv name qual : Str} {pa : Arguments} {body : List Stmt} {sc : Scope} {kws : List (Str × V)} {f : Addr} {fd : FuncData} {k : Nat} {sp : Sp}
end
section
variable {X : Cx} {σ : L2.St} {H : Hp} {Q : VK} {k j : Nat} {E : L2.St → XK} {x : Str} {sp : List V → List V → Hp → VK → XK → Prop} {p pos : Pos} {e : Expr} {es : List Expr} {kws : List Keyword} {C f : Addr} {ks : List Str}
end
structure ExX (S : Addr → Prop) (H H' : Hp) : Prop where
  kp : ∀ a o, ¬ S a → H a = some o → Good H o → H' a = some o
  src : ∀ a l o, ¬ S a → H a = some o → SrcL l o → ∃ o', H' a = some o' ∧ SrcL l o'
  th : ∀ a, H a ≠ none → H' a ≠ none
section
variable {S : Addr → Prop} {H H1 H2 : Hp}
theorem Ex.there (x : Ex H H1) (a : Addr) (h : H a ≠ none) : H1 a ≠ none := fun z => h (x.back z)
theorem Ex.x (x : Ex H H1) : ExX S H H1 := ⟨fun a o _ h g => x.kp a o h g, fun a l o _ h s => x.src a l o h s, x.there⟩
end
end Rs

namespace Rs
open PySem PySem.Spec PyProof.Rows L2 He
section
variable {X : Cx} {σ : L2.St} {H : Hp} {D D' : Ends} {Q : VK} {k j : Nat} {E : L2.St → XK} {m : Str} {sp : Sp} {C : Addr} {c o e : Expr} {a b st : List Stmt} {s1 : Stmt} {pos apos cpos : Pos}
end
end Rs

namespace Rs
open PySem PySem.Spec PyProof.Rows L2 He
end Rs
namespace Rs
open PySem PySem.Spec PyProof.Rows L2 He
section
variable {X : Cx} {x par m qual fld : Str} {p pos pos2 : Pos} {C f : Addr} {j k : Nat} {pa : Arguments} {sc : Scope} {ar : Arg} {p0 p1 p2 p3 p4 p5 p6 p7 p8 p9 : Pos} {E : L2.St → XK} {D : Ends} {σ : L2.St} {H : Hp} {ea : Expr}
end
end Rs
namespace Rs
open PySem PySem.Spec PyProof.Rows L2 He
section
variable {X : Cx} {a D dd : Addr} {oe : Obj} {pn : List (Addr × Obj)} {σ : L2.St} {H : Hp} {Q : VK} {e b : Expr} {p pos : Pos} {n : Str}
end
def isStrAs (z : Str) (v : Value) : Bool := match v with
  | .str file _ => z == file
  | _ => false
end Rs

namespace Rs
open PySem PySem.Spec PyProof.Rows L2 He
section
variable {X : Cx} {pins : List (Addr × Obj)} {D : Ends}
end
section
variable {X : Cx} {body : List Stmt} {h0 : ExceptHandler} {hds : List ExceptHandler} {l : List Clause} {pos : Pos} {tb : WX → TS} {out : WX}
end
section
variable {X : Cx} {k : Nat} {E : L2.St → XK} {D : Ends} {σ : L2.St} {H : Hp} {body : List Stmt} {h0 : ExceptHandler} {hds : List ExceptHandler} {l : List Clause} {pos : Pos}
end
section
variable {X : Cx} {k : Nat} {E : L2.St → XK} {H : Hp} {Q : VK} {v u : V} {d e : PyData}
end
section
variable {X : Cx} {σ : L2.St} {H : Hp} {Q : VK} {a b : Expr} {pos p2 : Pos}
end
end Rs

namespace Rs
open PySem PySem.Spec PyProof.Rows L2 He
def strsAre : List Str → List Value → Bool
  | [], [] => true
  | x :: xs, v :: vs => isStrAs x v && strsAre xs vs
  | _, _ => false
def seqOf (d : Data) : Option (Array Value) := match d with
  | .seq i _ => some i
  | _ => none
def kTupB (K : PySem.W.Frag) (a : Addr) (xs : List Str) : Bool := match K.lookup a with
  | some o => decide (o.cls = .type "tuple") && ((match seqOf o.data with
    | some i => decide (i.size ≤ 100) && strsAre xs i.toList
    | none => false))
  | none => false
section
variable {X : Cx} {k : Nat} {E : L2.St → XK} {σ : L2.St} {H : Hp} {D : Ends} {Q : VK} {o i e value : Expr} {pos pos' p : Pos} {j : Nat} {x : Str}
end
section
variable {ks : List Key} {vs : List V} {k : Key} {v : V} {i : Nat}
end
section
variable {X : Cx} {σ : L2.St}
end
section
variable {X : Cx} {a D : Addr} {oe : Obj} {pn : List (Addr × Obj)} {σ : L2.St} {H : Hp} {Q : VK} {e b : Expr} {p pos : Pos}
end
end Rs

namespace Mt
end Mt

namespace Mt
end Mt

namespace Mt
end Mt

namespace Mt
end Mt

namespace Mt
theorem Sz.int {i : Int} {n : Nat} (h : i.natAbs < 2 ^ n) (h0 : 0 < n) : Sz (i : Rat) n := by
  rw [← int_eq]
  exact Sz.div (by decide) h (Nat.one_lt_two_pow (by omega))
end Mt

namespace Mt
section
variable {α : Type} [Add α] [LT α] [DecidableRel (LT.lt (α := α))]
end
section
variable {α β : Type} [Add α] [LT α] [DecidableRel (LT.lt (α := α))] [Add β] [LT β] [DecidableRel (LT.lt (α := β))]
variable {f : α → β} (ha : ∀ a b, f (a + b) = f a + f b) (hl : ∀ a b, f a < f b ↔ a < b) {z w : α} {d : Bool} {ds : List (Option α)}
end
end Mt

namespace Mt
theorem least {P : Nat → Prop} : ∀ n, P n → ∃ N, N ≤ n ∧ P N ∧ ∀ j, j < N → ¬ P j := by
  intro n
  induction n using Nat.strongRecOn with
  | ind n ih =>
    intro h
    by_cases q : ∃ j, j < n ∧ P j
    · obtain ⟨j, hj, pj⟩ := q
      obtain ⟨N, h1, h2, h3⟩ := ih j hj pj
      exact ⟨N, by omega, h2, h3⟩
    · exact ⟨n, Nat.le_refl n, h, fun j hj pj => q ⟨j, hj, pj⟩⟩
section
variable {W : Int} {d : Bool} {ds : List (Option Int)}
end
end Mt

namespace Mt
section
variable {u : Rat} {d : Bool} {ds : List (Option Rat)}
end
end Mt

namespace Mt
section
variable {W Y : Int} {d : Bool}
end
end Mt

namespace Rs
open PySem PySem.Spec PyProof.Rows L2 He
open TL (tl len_tl ext_tl tl_append)
section
variable {X : Cx} {σ : L2.St} {H : Hp} {D : Ends} {Q Q' : VK} {k : Nat} {E : L2.St → XK} {x y z : Str} {p px pos pos' apos p2 : Pos} {a b c e o : Expr} {i : Nat} {body : List Stmt}
end
end Rs

namespace Rs
open PySem PySem.Spec PyProof.Rows L2 He
open TL (tl len_tl ext_tl tl_append tl_num numL numL_lt numL_step numL_digits numL_ne numL_free numL_val numL_inj numL_len int_num joinL spl pre spl_hit spl_miss spl_nil split_spl)
end Rs

namespace Rs
open PySem PySem.Spec PyProof.Rows L2 He
open TL (tl len_tl ext_tl tl_append tl_num numL numL_lt numL_step numL_digits numL_ne numL_free numL_val numL_inj numL_len int_num joinL spl pre spl_hit spl_miss spl_nil split_spl)
end Rs

namespace Rs
open PySem PySem.Spec PyProof.Rows L2 He
section
variable {P : Program} {w : World} {K : PySem.W.Frag} {mg : Str → Option Value} {base : Heap} {N ps : List Str} {pv name qual : Str} {pa : Arguments} {body : List Stmt} {sc : Scope} {f : Addr} {fd : FuncData} {k : Nat} {sp : Sp}
end
section
variable {X : Cx} {σ : L2.St} {H : Hp} {Q : VK} {o : Expr} {apos pos : Pos}
end
end Rs
namespace Rs
open PySem PySem.SeqAt
open AutoSeq1 (wpAny_loadPart')
open MeetsSeq MeetsSeq2 MeetsSeq3 SeqRoads2
section
variable {prog : Program} {w : World} {A : Around} {R : Result → Shared → Prop}
end
section
variable {prog : Program} {w : World} {A : Around} {E : Value → Shared → Prop} {s : Shared}
end
end Rs
namespace Rs
open PySem PySem.Spec PyProof.Rows L2 He
section
variable {X : Cx} {n k : Nat} {D : Eqv} {E : L2.St → XK} {H : Hp} {Q : VK}
end
end Rs

namespace Rs
open PySem PySem.Spec PyProof.Rows L2 He
section
variable {X : Cx} {σ : L2.St} {H : Hp} {Q : VK} {D : Ends} {k i n : Nat} {E : L2.St → XK} {x y : Str} {scope : Scope} {elt a : Expr} {px py pos spos pr pc : Pos}
end
end Rs

namespace Mt
open PySem
section
variable {u d : Rat} {b : Bool}
end
end Mt

namespace Rs
open PySem PySem.Spec
section
variable {prog : Program} {w : World} {K : Type} [DecidableEq K] {knd : KeyKind prog w K} {A : Around} {E : Value → Shared → Prop} {s : Shared}
end
end Rs

namespace Rs
open PySem PySem.Spec PyProof.Rows L2 He
section
variable {X : Cx} {pins : List (Addr × Obj)} {σ : L2.St} {H : Hp} {s : Shared} {A : Around} {E : Value → Shared → Prop}
end
section
variable {prog : Program} {w : World} {A : Around} {s : Shared} {E : Value → Shared → Prop}
end
section
variable {M : Model} {A : Around} {E : Value → Shared → Prop} {s : Shared} {f : Value} {first : List Value} {pos : Pos} {Q : Value → Shared → Prop} {P : Heap → Prop} {args : List (Bool × Sem Value)} {kws : List (Option Str × Sem Value)}
end
section
variable {X : Cx} {σ : L2.St} {H : Hp} {Q : VK} {k j : Nat} {E : L2.St → XK} {x : Str} {sp : Sp} {p pos kpos : Pos} {e : Expr} {C : Addr} {ks : List Str} {gV : List V → List V → List V}
end
end Rs

namespace Rs
open PySem PySem.Spec PyProof.Rows L2 He
section
variable {prog : Program} {w : World} {A : Around} {s : Shared} {E : Value → Shared → Prop}
end
section
variable {X : Cx} {σ : L2.St} {H : Hp} {Q : VK} {e1 e2 ek : Expr} {pos : Pos}
end
end Rs

namespace Rs
open PySem PySem.Spec PyProof.Rows L2 He
section
variable {prog : Program} {w : World} {A : Around} {s : Shared} {E : Value → Shared → Prop}
end
section
variable {X : Cx} {σ : L2.St}
end
section
variable {P : Program} {w : World} {K : PySem.W.Frag} {mg : Str → Option Value} {base : Heap} {N ps : List Str} {pd name qual : Str} {pa : Arguments} {body : List Stmt} {sc : Scope} {f : Addr} {fd : FuncData} {k : Nat} {sp : Sp} {ks : List Str}
end
section
variable {X : Cx} {σ : L2.St} {H : Hp} {Q : VK} {k j : Nat} {E : L2.St → XK} {m : Str} {sp : Sp} {pos apos : Pos} {o : Expr} {C : Addr} {ks : List Str} {kws : List Keyword}
end
end Rs

namespace Rs
open PySem PySem.Spec PyProof.Rows L2 He
section
variable {X : Cx} {σ : L2.St} {H : Hp} {D : Ends} {k j : Nat} {E : L2.St → XK} {f : Str} {C p g : Addr} {sp : Sp} {value o : Expr} {pos pos' : Pos}
end
section
variable {X : Cx} {σ : L2.St} {H : Hp} {D : Ends} {k : Nat} {E : L2.St → XK} {x : Str} {px pos p : Pos} {a : Expr} {i : Nat} {body : List Stmt} {Q : VK}
end
end Rs

namespace Rs
open PySem PySem.Spec PyProof.Rows L2 He
section
variable {X : Cx} {k j : Nat} {E : XK} {C f a dx : Addr} {fs : List (Str × V)} {H : Hp} {Q : VK} {v : V}
end
end Rs

namespace Rs
open PySem PySem.Spec PyProof.Rows L2 He
section
variable {X : Cx} {σ : L2.St} {H : Hp} {Q : VK} {QA : List V → Hp → Prop} {k j i : Nat} {E : L2.St → XK} {sp : Sp} {p pos px pr pc : Pos} {fe e : Expr} {es : List Expr} {C g : Addr} {x : Str} {scope : Scope} {elt a : Expr}
end
end Rs

namespace Rs
open PySem PySem.Spec PyProof.Rows L2 He
section
variable {X : Cx} {σ : L2.St} {H : Hp} {Q : VK} {k j : Nat} {E : L2.St → XK} {x : Str} {sp : List V → Sp} {p pos : Pos} {e : Expr} {es : List Expr} {C : Addr} {ks : List Str} {kws : List Keyword}
end
end Rs

namespace Mt
end Mt

namespace Mt
section
variable {W U : Int} {d : Bool} {ds : List (Option Int)}
end
end Mt

namespace Rs
open PySem PySem.Spec PyProof.Rows L2 He
section
variable {X : Cx} {k : Nat} {E : L2.St → XK} {σ : L2.St} {H : Hp} {D : Ends} {Q : VK} {a b e : Expr} {es : List Expr} {pos p2 : Pos}
end
end Rs


namespace Rt
open PySem PySem.Spec PyProof.Rows L2 He Rs Mt
def top (i : Nat) : Stmt := PySem.Challenge.pw_resendtimers_k41_whole_last_stays_below.main.body.getD i (.Pass ⟨0, 0, 0, 0⟩)
abbrev s_is_integer : Stmt := top 12
abbrev s_common : Stmt := top 13
abbrev s_Time___init__ : Stmt := inClass (top 16) 0
abbrev s_Time_top : Stmt := inClass (top 16) 1
abbrev s_Time_bottom : Stmt := inClass (top 16) 2
abbrev s_Time___add__ : Stmt := inClass (top 16) 4
abbrev s_Time___radd__ : Stmt := inClass (top 16) 5
abbrev s_Time___sub__ : Stmt := inClass (top 16) 6
abbrev s_Time___rsub__ : Stmt := inClass (top 16) 7
abbrev s_Time___mul__ : Stmt := inClass (top 16) 8
abbrev s_Time___rmul__ : Stmt := inClass (top 16) 9
abbrev s_Time___floordiv__ : Stmt := inClass (top 16) 10
abbrev s_Time___rfloordiv__ : Stmt := inClass (top 16) 11
abbrev s_Time___neg__ : Stmt := inClass (top 16) 13
abbrev s_Time___abs__ : Stmt := inClass (top 16) 14
abbrev s_Time___eq__ : Stmt := inClass (top 16) 16
abbrev s_Time___lt__ : Stmt := inClass (top 16) 17
abbrev s_Time___le__ : Stmt := inClass (top 16) 18
abbrev s_Time___gt__ : Stmt := inClass (top 16) 19
abbrev s_Time___ge__ : Stmt := inClass (top 16) 20
abbrev s_Time_over : Stmt := inClass (top 16) 22
abbrev s_is_time : Stmt := top 17
abbrev s_time_of : Stmt := top 18
abbrev s_lesser : Stmt := top 19
abbrev s_greater : Stmt := top 20
abbrev s_is_positive : Stmt := top 25
abbrev s_is_latest : Stmt := top 26
abbrev s_is_roof : Stmt := top 27
abbrev s_is_allowed : Stmt := top 28
abbrev s_checked : Stmt := top 29
abbrev s_made_of : Stmt := top 32
abbrev s_Book___init__ : Stmt := inClass (top 35) 0
abbrev s_Book_sample : Stmt := inClass (top 35) 3
abbrev s_Book_share : Stmt := inClass (top 35) 5
abbrev s_Book_latest : Stmt := inClass (top 35) 7
abbrev s_Book_factor : Stmt := inClass (top 35) 9
abbrev s_Book_margin : Stmt := inClass (top 35) 11
abbrev s_Book_floor : Stmt := inClass (top 35) 13
abbrev s_Book_roof : Stmt := inClass (top 35) 15
abbrev s_Book_doubled : Stmt := inClass (top 35) 17
abbrev s_Book_kept : Stmt := inClass (top 35) 19
abbrev s_check_times : Stmt := top 37
abbrev s_waits_until : Stmt := top 38
abbrev s_resent : Stmt := top 39
abbrev s_lowest_wait : Stmt := top 53
abbrev s_stays_below_by_last : Stmt := top 54
abbrev s_all_below : Stmt := top 55
abbrev s_Verdict___init__ : Stmt := inClass (top 59) 0
abbrev s_Verdict_ends : Stmt := inClass (top 59) 1
abbrev s_Verdict_word : Stmt := inClass (top 59) 4
abbrev s_decide : Stmt := top 66
abbrev s__law_begin : Stmt := top 68
abbrev s__law_draw : Stmt := top 69
abbrev s__law_divisor : Stmt := top 70
abbrev s__law_cut : Stmt := top 71
abbrev s__law_sum : Stmt := top 72
abbrev s__law_minus : Stmt := top 73
abbrev s__law_by : Stmt := top 74
abbrev s__law_over : Stmt := top 75
abbrev s__law_less : Stmt := top 76
abbrev s__law_most : Stmt := top 77
abbrev s__law_least : Stmt := top 78
abbrev s__law_time : Stmt := top 79
abbrev s__law_moment : Stmt := top 80
abbrev s__law_share : Stmt := top 81
abbrev s__law_rules : Stmt := top 82
abbrev s__law_book : Stmt := top 83
abbrev s__law_wait : Stmt := top 84
abbrev s__law_steady : Stmt := top 85
abbrev s__law_state : Stmt := top 86
abbrev s__law_estimate : Stmt := top 87
abbrev s__law_learn : Stmt := top 88
abbrev s__law_go : Stmt := top 89
abbrev s__law_close : Stmt := top 90
abbrev s__law_tame : Stmt := top 91
abbrev s_law : Stmt := top 92

section
set_option maxHeartbeats 0
def w_is_integer : DefA := ⟨fun K => ga K "is_integer", "is_integer", "is_integer", defArgs s_is_integer, defBody s_is_integer, defScope s_is_integer, [], [], false⟩
def w_common : DefA := ⟨fun K => ga K "common", "common", "common", defArgs s_common, defBody s_common, defScope s_common, [], [], false⟩
def w_Time___init__ : DefA := ⟨fun K => ma K (ga K "Time") "__init__", "__init__", "Time.__init__", defArgs s_Time___init__, defBody s_Time___init__, defScope s_Time___init__, [.int 1], [], false⟩
def w_Time_top : DefA := ⟨fun K => pgA K (ga K "Time") "top", "top", "Time.top", defArgs s_Time_top, defBody s_Time_top, defScope s_Time_top, [], [], false⟩
def w_Time_bottom : DefA := ⟨fun K => pgA K (ga K "Time") "bottom", "bottom", "Time.bottom", defArgs s_Time_bottom, defBody s_Time_bottom, defScope s_Time_bottom, [], [], false⟩
def w_Time___add__ : DefA := ⟨fun K => ma K (ga K "Time") "__add__", "__add__", "Time.__add__", defArgs s_Time___add__, defBody s_Time___add__, defScope s_Time___add__, [], [], false⟩
def w_Time___radd__ : DefA := ⟨fun K => ma K (ga K "Time") "__radd__", "__radd__", "Time.__radd__", defArgs s_Time___radd__, defBody s_Time___radd__, defScope s_Time___radd__, [], [], false⟩
def w_Time___sub__ : DefA := ⟨fun K => ma K (ga K "Time") "__sub__", "__sub__", "Time.__sub__", defArgs s_Time___sub__, defBody s_Time___sub__, defScope s_Time___sub__, [], [], false⟩
def w_Time___rsub__ : DefA := ⟨fun K => ma K (ga K "Time") "__rsub__", "__rsub__", "Time.__rsub__", defArgs s_Time___rsub__, defBody s_Time___rsub__, defScope s_Time___rsub__, [], [], false⟩
def w_Time___mul__ : DefA := ⟨fun K => ma K (ga K "Time") "__mul__", "__mul__", "Time.__mul__", defArgs s_Time___mul__, defBody s_Time___mul__, defScope s_Time___mul__, [], [], false⟩
def w_Time___rmul__ : DefA := ⟨fun K => ma K (ga K "Time") "__rmul__", "__rmul__", "Time.__rmul__", defArgs s_Time___rmul__, defBody s_Time___rmul__, defScope s_Time___rmul__, [], [], false⟩
def w_Time___floordiv__ : DefA := ⟨fun K => ma K (ga K "Time") "__floordiv__", "__floordiv__", "Time.__floordiv__", defArgs s_Time___floordiv__, defBody s_Time___floordiv__, defScope s_Time___floordiv__, [], [], false⟩
def w_Time___rfloordiv__ : DefA := ⟨fun K => ma K (ga K "Time") "__rfloordiv__", "__rfloordiv__", "Time.__rfloordiv__", defArgs s_Time___rfloordiv__, defBody s_Time___rfloordiv__, defScope s_Time___rfloordiv__, [], [], false⟩
def w_Time___neg__ : DefA := ⟨fun K => ma K (ga K "Time") "__neg__", "__neg__", "Time.__neg__", defArgs s_Time___neg__, defBody s_Time___neg__, defScope s_Time___neg__, [], [], false⟩
def w_Time___abs__ : DefA := ⟨fun K => ma K (ga K "Time") "__abs__", "__abs__", "Time.__abs__", defArgs s_Time___abs__, defBody s_Time___abs__, defScope s_Time___abs__, [], [], false⟩
def w_Time___eq__ : DefA := ⟨fun K => ma K (ga K "Time") "__eq__", "__eq__", "Time.__eq__", defArgs s_Time___eq__, defBody s_Time___eq__, defScope s_Time___eq__, [], [], false⟩
def w_Time___lt__ : DefA := ⟨fun K => ma K (ga K "Time") "__lt__", "__lt__", "Time.__lt__", defArgs s_Time___lt__, defBody s_Time___lt__, defScope s_Time___lt__, [], [], false⟩
def w_Time___le__ : DefA := ⟨fun K => ma K (ga K "Time") "__le__", "__le__", "Time.__le__", defArgs s_Time___le__, defBody s_Time___le__, defScope s_Time___le__, [], [], false⟩
def w_Time___gt__ : DefA := ⟨fun K => ma K (ga K "Time") "__gt__", "__gt__", "Time.__gt__", defArgs s_Time___gt__, defBody s_Time___gt__, defScope s_Time___gt__, [], [], false⟩
def w_Time___ge__ : DefA := ⟨fun K => ma K (ga K "Time") "__ge__", "__ge__", "Time.__ge__", defArgs s_Time___ge__, defBody s_Time___ge__, defScope s_Time___ge__, [], [], false⟩
def w_Time_over : DefA := ⟨fun K => ma K (ga K "Time") "over", "over", "Time.over", defArgs s_Time_over, defBody s_Time_over, defScope s_Time_over, [], [], false⟩
def w_is_time : DefA := ⟨fun K => ga K "is_time", "is_time", "is_time", defArgs s_is_time, defBody s_is_time, defScope s_is_time, [], [], false⟩
def w_time_of : DefA := ⟨fun K => ga K "time_of", "time_of", "time_of", defArgs s_time_of, defBody s_time_of, defScope s_time_of, [], [], false⟩
def w_lesser : DefA := ⟨fun K => ga K "lesser", "lesser", "lesser", defArgs s_lesser, defBody s_lesser, defScope s_lesser, [], [], false⟩
def w_greater : DefA := ⟨fun K => ga K "greater", "greater", "greater", defArgs s_greater, defBody s_greater, defScope s_greater, [], [], false⟩
def w_is_positive : DefA := ⟨fun K => ga K "is_positive", "is_positive", "is_positive", defArgs s_is_positive, defBody s_is_positive, defScope s_is_positive, [], [], false⟩
def w_is_latest : DefA := ⟨fun K => ga K "is_latest", "is_latest", "is_latest", defArgs s_is_latest, defBody s_is_latest, defScope s_is_latest, [], [], false⟩
def w_is_roof : DefA := ⟨fun K => ga K "is_roof", "is_roof", "is_roof", defArgs s_is_roof, defBody s_is_roof, defScope s_is_roof, [], [], false⟩
def w_is_allowed : DefA := ⟨fun K => ga K "is_allowed", "is_allowed", "is_allowed", defArgs s_is_allowed, defBody s_is_allowed, defScope s_is_allowed, [], [], false⟩
def w_checked : DefA := ⟨fun K => ga K "checked", "checked", "checked", defArgs s_checked, defBody s_checked, defScope s_checked, [], [], false⟩
def w_made_of : DefA := ⟨fun K => ga K "made_of", "made_of", "made_of", defArgs s_made_of, defBody s_made_of, defScope s_made_of, [], [], false⟩
def w_Book___init__ : DefA := ⟨fun K => ma K (ga K "Book") "__init__", "__init__", "Book.__init__", defArgs s_Book___init__, defBody s_Book___init__, defScope s_Book___init__, [], [("sample", .str "first"), ("share", .int 1), ("latest", .non), ("factor", .int 1), ("margin", .int 0), ("floor", .non), ("roof", .non), ("doubled", .bl false), ("kept", .bl false)], false⟩
def w_Book_sample : DefA := ⟨fun K => pgA K (ga K "Book") "sample", "sample", "Book.sample", defArgs s_Book_sample, defBody s_Book_sample, defScope s_Book_sample, [], [], false⟩
def w_Book_share : DefA := ⟨fun K => pgA K (ga K "Book") "share", "share", "Book.share", defArgs s_Book_share, defBody s_Book_share, defScope s_Book_share, [], [], false⟩
def w_Book_latest : DefA := ⟨fun K => pgA K (ga K "Book") "latest", "latest", "Book.latest", defArgs s_Book_latest, defBody s_Book_latest, defScope s_Book_latest, [], [], false⟩
def w_Book_factor : DefA := ⟨fun K => pgA K (ga K "Book") "factor", "factor", "Book.factor", defArgs s_Book_factor, defBody s_Book_factor, defScope s_Book_factor, [], [], false⟩
def w_Book_margin : DefA := ⟨fun K => pgA K (ga K "Book") "margin", "margin", "Book.margin", defArgs s_Book_margin, defBody s_Book_margin, defScope s_Book_margin, [], [], false⟩
def w_Book_floor : DefA := ⟨fun K => pgA K (ga K "Book") "floor", "floor", "Book.floor", defArgs s_Book_floor, defBody s_Book_floor, defScope s_Book_floor, [], [], false⟩
def w_Book_roof : DefA := ⟨fun K => pgA K (ga K "Book") "roof", "roof", "Book.roof", defArgs s_Book_roof, defBody s_Book_roof, defScope s_Book_roof, [], [], false⟩
def w_Book_doubled : DefA := ⟨fun K => pgA K (ga K "Book") "doubled", "doubled", "Book.doubled", defArgs s_Book_doubled, defBody s_Book_doubled, defScope s_Book_doubled, [], [], false⟩
def w_Book_kept : DefA := ⟨fun K => pgA K (ga K "Book") "kept", "kept", "Book.kept", defArgs s_Book_kept, defBody s_Book_kept, defScope s_Book_kept, [], [], false⟩
def w_check_times : DefA := ⟨fun K => ga K "check_times", "check_times", "check_times", defArgs s_check_times, defBody s_check_times, defScope s_check_times, [], [], false⟩
def w_waits_until : DefA := ⟨fun K => ga K "waits_until", "waits_until", "waits_until", defArgs s_waits_until, defBody s_waits_until, defScope s_waits_until, [], [], false⟩
def w_resent : DefA := ⟨fun K => ga K "resent", "resent", "resent", defArgs s_resent, defBody s_resent, defScope s_resent, [], [("doubled", .bl false)], false⟩
def w_lowest_wait : DefA := ⟨fun K => ga K "lowest_wait", "lowest_wait", "lowest_wait", defArgs s_lowest_wait, defBody s_lowest_wait, defScope s_lowest_wait, [], [], false⟩
def w_stays_below_by_last : DefA := ⟨fun K => ga K "stays_below_by_last", "stays_below_by_last", "stays_below_by_last", defArgs s_stays_below_by_last, defBody s_stays_below_by_last, defScope s_stays_below_by_last, [], [], false⟩
def w_all_below : DefA := ⟨fun K => ga K "all_below", "all_below", "all_below", defArgs s_all_below, defBody s_all_below, defScope s_all_below, [], [], false⟩
def w_Verdict___init__ : DefA := ⟨fun K => ma K (ga K "Verdict") "__init__", "__init__", "Verdict.__init__", defArgs s_Verdict___init__, defBody s_Verdict___init__, defScope s_Verdict___init__, [], [], false⟩
def w_Verdict_ends : DefA := ⟨fun K => pgA K (ga K "Verdict") "ends", "ends", "Verdict.ends", defArgs s_Verdict_ends, defBody s_Verdict_ends, defScope s_Verdict_ends, [], [], false⟩
def w_Verdict_word : DefA := ⟨fun K => pgA K (ga K "Verdict") "word", "word", "Verdict.word", defArgs s_Verdict_word, defBody s_Verdict_word, defScope s_Verdict_word, [], [], false⟩
def w_decide : DefA := ⟨fun K => ga K "decide", "decide", "decide", defArgs s_decide, defBody s_decide, defScope s_decide, [], [], false⟩
def w__law_begin : DefA := ⟨fun K => ga K "_law_begin", "_law_begin", "_law_begin", defArgs s__law_begin, defBody s__law_begin, defScope s__law_begin, [], [], false⟩
def w__law_draw : DefA := ⟨fun K => ga K "_law_draw", "_law_draw", "_law_draw", defArgs s__law_draw, defBody s__law_draw, defScope s__law_draw, [], [], false⟩
def w__law_divisor : DefA := ⟨fun K => ga K "_law_divisor", "_law_divisor", "_law_divisor", defArgs s__law_divisor, defBody s__law_divisor, defScope s__law_divisor, [], [], false⟩
def w__law_cut : DefA := ⟨fun K => ga K "_law_cut", "_law_cut", "_law_cut", defArgs s__law_cut, defBody s__law_cut, defScope s__law_cut, [], [], false⟩
def w__law_sum : DefA := ⟨fun K => ga K "_law_sum", "_law_sum", "_law_sum", defArgs s__law_sum, defBody s__law_sum, defScope s__law_sum, [], [], false⟩
def w__law_minus : DefA := ⟨fun K => ga K "_law_minus", "_law_minus", "_law_minus", defArgs s__law_minus, defBody s__law_minus, defScope s__law_minus, [], [], false⟩
def w__law_by : DefA := ⟨fun K => ga K "_law_by", "_law_by", "_law_by", defArgs s__law_by, defBody s__law_by, defScope s__law_by, [], [], false⟩
def w__law_over : DefA := ⟨fun K => ga K "_law_over", "_law_over", "_law_over", defArgs s__law_over, defBody s__law_over, defScope s__law_over, [], [], false⟩
def w__law_less : DefA := ⟨fun K => ga K "_law_less", "_law_less", "_law_less", defArgs s__law_less, defBody s__law_less, defScope s__law_less, [], [], false⟩
def w__law_most : DefA := ⟨fun K => ga K "_law_most", "_law_most", "_law_most", defArgs s__law_most, defBody s__law_most, defScope s__law_most, [], [], false⟩
def w__law_least : DefA := ⟨fun K => ga K "_law_least", "_law_least", "_law_least", defArgs s__law_least, defBody s__law_least, defScope s__law_least, [], [], false⟩
def w__law_time : DefA := ⟨fun K => ga K "_law_time", "_law_time", "_law_time", defArgs s__law_time, defBody s__law_time, defScope s__law_time, [], [], false⟩
def w__law_moment : DefA := ⟨fun K => ga K "_law_moment", "_law_moment", "_law_moment", defArgs s__law_moment, defBody s__law_moment, defScope s__law_moment, [], [], false⟩
def w__law_share : DefA := ⟨fun K => ga K "_law_share", "_law_share", "_law_share", defArgs s__law_share, defBody s__law_share, defScope s__law_share, [], [], false⟩
def w__law_rules : DefA := ⟨fun K => ga K "_law_rules", "_law_rules", "_law_rules", defArgs s__law_rules, defBody s__law_rules, defScope s__law_rules, [], [], false⟩
def w__law_book : DefA := ⟨fun K => ga K "_law_book", "_law_book", "_law_book", defArgs s__law_book, defBody s__law_book, defScope s__law_book, [], [], false⟩
def w__law_wait : DefA := ⟨fun K => ga K "_law_wait", "_law_wait", "_law_wait", defArgs s__law_wait, defBody s__law_wait, defScope s__law_wait, [], [], false⟩
def w__law_steady : DefA := ⟨fun K => ga K "_law_steady", "_law_steady", "_law_steady", defArgs s__law_steady, defBody s__law_steady, defScope s__law_steady, [], [], false⟩
def w__law_state : DefA := ⟨fun K => ga K "_law_state", "_law_state", "_law_state", defArgs s__law_state, defBody s__law_state, defScope s__law_state, [], [], false⟩
def w__law_estimate : DefA := ⟨fun K => ga K "_law_estimate", "_law_estimate", "_law_estimate", defArgs s__law_estimate, defBody s__law_estimate, defScope s__law_estimate, [], [], false⟩
def w__law_learn : DefA := ⟨fun K => ga K "_law_learn", "_law_learn", "_law_learn", defArgs s__law_learn, defBody s__law_learn, defScope s__law_learn, [], [], false⟩
def w__law_go : DefA := ⟨fun K => ga K "_law_go", "_law_go", "_law_go", defArgs s__law_go, defBody s__law_go, defScope s__law_go, [], [], false⟩
def w__law_close : DefA := ⟨fun K => ga K "_law_close", "_law_close", "_law_close", defArgs s__law_close, defBody s__law_close, defScope s__law_close, [], [], false⟩
def w__law_tame : DefA := ⟨fun K => ga K "_law_tame", "_law_tame", "_law_tame", defArgs s__law_tame, defBody s__law_tame, defScope s__law_tame, [], [], false⟩
def w_law : DefA := ⟨fun K => ga K "law", "law", "law", defArgs s_law, defBody s_law, defScope s_law, [], [], false⟩
def fn1 : List DefA := [w_is_integer, w_common, w_Time___init__, w_Time_top, w_Time_bottom, w_Time___add__, w_Time___radd__, w_Time___sub__, w_Time___rsub__, w_Time___mul__, w_Time___rmul__, w_Time___floordiv__, w_Time___rfloordiv__, w_Time___neg__, w_Time___abs__, w_Time___eq__, w_Time___lt__, w_Time___le__, w_Time___gt__, w_Time___ge__, w_Time_over, w_is_time, w_time_of, w_lesser, w_greater, w_is_positive, w_is_latest, w_is_roof, w_is_allowed, w_checked, w_made_of, w_Book___init__, w_Book_sample, w_Book_share, w_Book_latest, w_Book_factor, w_Book_margin, w_Book_floor, w_Book_roof, w_Book_doubled, w_Book_kept, w_check_times, w_waits_until, w_resent, w_lowest_wait, w_stays_below_by_last, w_all_below, w_Verdict___init__, w_Verdict_ends, w_Verdict_word, w_decide, w__law_begin, w__law_draw, w__law_divisor, w__law_cut, w__law_sum, w__law_minus, w__law_by, w__law_over, w__law_less, w__law_most, w__law_least, w__law_time, w__law_moment, w__law_share, w__law_rules, w__law_book, w__law_wait, w__law_steady, w__law_state, w__law_estimate, w__law_learn, w__law_go, w__law_close, w__law_tame, w_law]
def ψ1 : List (PySem.W.Frag → Bool) := [
  fun K => excCB K (ga K "ResendError"),
  fun K => excCB K (ga K "NoTime"),
  fun K => excPlainB K (ga K "NoTime"),
  fun K => excCB K (ga K "NoText"),
  fun K => excCB K (ga K "BadBook"),
  fun K => excCB K (ga K "TooMany"),
  fun K => excCB K (ga K "Open"),
  fun K => isCB K "Time",
  fun K => kitCB K (ga K "Time"),
  fun K => (Fa.mkr "Time").ok K,
  fun K => (Fa.noat "Time" "over_line").ok K,
  fun K => (Fa.noat "Time" "under_line").ok K,
  fun K => decide (PySem.W.subIn K (.ref (ga K "Time")) (.type "NoneType") = some false),
  fun K => neOwnB K (ga K "Time") (ma K (ga K "Time") "__eq__"),
  fun K => absOwnB K (ga K "Time") (ma K (ga K "Time") "__abs__"),
  fun K => binOwnB K (ga K "Time") (ma K (ga K "Time") "__add__") .Add,
  fun K => noInplB K (ga K "Time") .Add,
  fun K => cmpOwnB K (ga K "Time") (ma K (ga K "Time") "__eq__") .Eq,
  fun K => cmpRefB K (ga K "Time") (ma K (ga K "Time") "__eq__") .Eq,
  fun K => binOwnB K (ga K "Time") (ma K (ga K "Time") "__floordiv__") .FloorDiv,
  fun K => cmpOwnB K (ga K "Time") (ma K (ga K "Time") "__ge__") .GtE,
  fun K => cmpRefB K (ga K "Time") (ma K (ga K "Time") "__ge__") .LtE,
  fun K => cmpOwnB K (ga K "Time") (ma K (ga K "Time") "__gt__") .Gt,
  fun K => cmpRefB K (ga K "Time") (ma K (ga K "Time") "__gt__") .Lt,
  fun K => cmpOwnB K (ga K "Time") (ma K (ga K "Time") "__le__") .LtE,
  fun K => cmpRefB K (ga K "Time") (ma K (ga K "Time") "__le__") .GtE,
  fun K => cmpOwnB K (ga K "Time") (ma K (ga K "Time") "__lt__") .Lt,
  fun K => cmpRefB K (ga K "Time") (ma K (ga K "Time") "__lt__") .Gt,
  fun K => binOwnB K (ga K "Time") (ma K (ga K "Time") "__mul__") .Mult,
  fun K => noInplB K (ga K "Time") .Mult,
  fun K => negOwnB K (ga K "Time") (ma K (ga K "Time") "__neg__"),
  fun K => binOwnB K (ga K "Time") (ma K (ga K "Time") "__pow__") .Pow,
  fun K => binRefB K (ga K "Time") (ma K (ga K "Time") "__add__") (ma K (ga K "Time") "__radd__") .Add,
  fun K => binRefB K (ga K "Time") (ma K (ga K "Time") "__floordiv__") (ma K (ga K "Time") "__rfloordiv__") .FloorDiv,
  fun K => binRefB K (ga K "Time") (ma K (ga K "Time") "__mul__") (ma K (ga K "Time") "__rmul__") .Mult,
  fun K => binRefB K (ga K "Time") (ma K (ga K "Time") "__sub__") (ma K (ga K "Time") "__rsub__") .Sub,
  fun K => binOwnB K (ga K "Time") (ma K (ga K "Time") "__sub__") .Sub,
  fun K => noInplB K (ga K "Time") .Sub,
  fun K => propB K (ga K "Time") "bottom",
  fun K => (Fa.meth "Time" "over").ok K,
  fun K => (Fa.meth "Time" "power").ok K,
  fun K => propB K (ga K "Time") "top",
  fun K => isCB K "Book",
  fun K => kitCB K (ga K "Book"),
  fun K => (Fa.mkr "Book").ok K,
  fun K => (Fa.noat "Book" "rules").ok K,
  fun K => decide (PySem.W.subIn K (.ref (ga K "Book")) (.type "NoneType") = some false),
  fun K => propB K (ga K "Book") "doubled",
  fun K => propB K (ga K "Book") "factor",
  fun K => propB K (ga K "Book") "floor",
  fun K => propB K (ga K "Book") "kept",
  fun K => propB K (ga K "Book") "latest",
  fun K => propB K (ga K "Book") "margin",
  fun K => (Fa.meth "Book" "put_part").ok K,
  fun K => propB K (ga K "Book") "roof",
  fun K => propB K (ga K "Book") "sample",
  fun K => propB K (ga K "Book") "share",
  fun K => isCB K "Search",
  fun K => kitCB K (ga K "Search"),
  fun K => (Fa.mkr "Search").ok K,
  fun K => (Fa.noat "Search" "base").ok K,
  fun K => (Fa.noat "Search" "bound").ok K,
  fun K => (Fa.noat "Search" "strict").ok K,
  fun K => (Fa.noat "Search" "bits").ok K,
  fun K => (Fa.meth "Search" "is_reached").ok K,
  fun K => (Fa.meth "Search" "least").ok K,
  fun K => (Fa.meth "Search" "squares").ok K,
  fun K => isCB K "Verdict",
  fun K => kitCB K (ga K "Verdict"),
  fun K => (Fa.mkr "Verdict").ok K,
  fun K => (Fa.noat "Verdict" "told_word").ok K,
  fun K => (Fa.noat "Verdict" "told_number").ok K,
  fun K => (Fa.noat "Verdict" "told_rounds").ok K,
  fun K => decide (PySem.W.subIn K (.ref (ga K "Verdict")) (.type "NoneType") = some false),
  fun K => neOwnB K (ga K "Verdict") (ma K (ga K "Verdict") "__eq__"),
  fun K => boolOwnB K (ga K "Verdict") (ma K (ga K "Verdict") "__bool__"),
  fun K => cmpOwnB K (ga K "Verdict") (ma K (ga K "Verdict") "__eq__") .Eq,
  fun K => cmpRefB K (ga K "Verdict") (ma K (ga K "Verdict") "__eq__") .Eq,
  fun K => propB K (ga K "Verdict") "ends",
  fun K => propB K (ga K "Verdict") "number",
  fun K => propB K (ga K "Verdict") "rounds",
  fun K => propB K (ga K "Verdict") "word",
  fun K => isCB K "LastCourse",
  fun K => kitCB K (ga K "LastCourse"),
  fun K => (Fa.mkr "LastCourse").ok K,
  fun K => (Fa.noat "LastCourse" "kept_book").ok K,
  fun K => (Fa.noat "LastCourse" "kept_delay").ok K,
  fun K => (Fa.noat "LastCourse" "trap").ok K,
  fun K => (Fa.noat "LastCourse" "window").ok K,
  fun K => (Fa.noat "LastCourse" "passed").ok K,
  fun K => (Fa.noat "LastCourse" "counted").ok K,
  fun K => (Fa.noat "LastCourse" "seen").ok K,
  fun K => (Fa.meth "LastCourse" "go_on").ok K,
  fun K => (Fa.meth "LastCourse" "run").ok K,
  fun K => (Fa.meth "LastCourse" "told").ok K,
  fun K => (Fa.int "MOST_FIGURES" 60).ok K,
  fun K => (Fa.str "FIGURES" "0123456789").ok K,
  fun K => (Fa.glo "is_integer").ok K,
  fun K => (Fa.glo "NoTime").ok K,
  fun K => (Fa.glo "common").ok K,
  fun K => (Fa.glo "is_time").ok K,
  fun K => (Fa.glo "time_of").ok K,
  fun K => (Fa.glo "Time").ok K,
  fun K => (Fa.int "MOST_POWER" 10000).ok K,
  fun K => (Fa.glo "raised").ok K,
  fun K => (Fa.glo "NoText").ok K,
  fun K => (Fa.glo "read_count").ok K,
  fun K => (Fa.int "MOST_LATEST" 20).ok K,
  fun K => (Fa.glo "is_positive").ok K,
  fun K => (Fa.glo "SAMPLES").ok K,
  fun K => kTupB K (ga K "SAMPLES") ["first", "last", "marked", "clean"],
  fun K => (Fa.glo "is_latest").ok K,
  fun K => (Fa.glo "is_roof").ok K,
  fun K => (Fa.glo "PARTS").ok K,
  fun K => kTupB K (ga K "PARTS") ["sample", "share", "latest", "factor", "margin", "floor", "roof", "doubled", "kept"],
  fun K => (Fa.glo "is_allowed").ok K,
  fun K => (Fa.glo "BadBook").ok K,
  fun K => (Fa.glo "greater").ok K,
  fun K => (Fa.glo "lesser").ok K,
  fun K => (Fa.glo "checked").ok K,
  fun K => (Fa.glo "word_of").ok K,
  fun K => (Fa.glo "Book").ok K,
  fun K => (Fa.glo "bends").ok K,
  fun K => (Fa.glo "made_of").ok K,
  fun K => (Fa.glo "last_rise").ok K,
  fun K => (Fa.glo "part_of").ok K,
  fun K => (Fa.glo "check_times").ok K,
  fun K => (Fa.glo "power_of").ok K,
  fun K => (Fa.glo "exact_side").ok K,
  fun K => (Fa.glo "told_side").ok K,
  fun K => (Fa.glo "product").ok K,
  fun K => (Fa.int "FIRST_BITS" 64).ok K,
  fun K => (Fa.glo "Search").ok K,
  fun K => (Fa.glo "first_power").ok K,
  fun K => (Fa.glo "resent").ok K,
  fun K => (Fa.glo "waits_until").ok K,
  fun K => (Fa.glo "needless_from").ok K,
  fun K => (Fa.glo "lowest_wait").ok K,
  fun K => (Fa.glo "stays_below_by_last").ok K,
  fun K => (Fa.glo "Verdict").ok K,
  fun K => (Fa.glo "trap_of").ok K,
  fun K => (Fa.glo "greatest").ok K,
  fun K => (Fa.glo "key_of").ok K,
  fun K => (Fa.int "MOST_NEEDLESS" 1000).ok K,
  fun K => (Fa.glo "TooMany").ok K,
  fun K => (Fa.glo "learned_from").ok K,
  fun K => (Fa.int "MOST_PLAYED" 100).ok K,
  fun K => (Fa.glo "Open").ok K,
  fun K => (Fa.glo "rounds_to").ok K,
  fun K => (Fa.glo "first_with").ok K,
  fun K => (Fa.glo "all_below").ok K,
  fun K => (Fa.glo "learned_verdict").ok K,
  fun K => (Fa.glo "LastCourse").ok K,
  fun K => (Fa.glo "_law_divisor").ok K,
  fun K => (Fa.glo "_law_cut").ok K,
  fun K => (Fa.glo "_law_less").ok K,
  fun K => (Fa.glo "_law_draw").ok K,
  fun K => (Fa.glo "_law_share").ok K,
  fun K => (Fa.glo "_law_moment").ok K,
  fun K => (Fa.glo "_law_sum").ok K,
  fun K => (Fa.glo "_law_time").ok K,
  fun K => (Fa.glo "_law_by").ok K,
  fun K => (Fa.glo "_law_most").ok K,
  fun K => (Fa.glo "_law_least").ok K,
  fun K => (Fa.glo "_law_wait").ok K,
  fun K => (Fa.glo "_law_estimate").ok K,
  fun K => (Fa.glo "_law_minus").ok K,
  fun K => (Fa.glo "_law_steady").ok K,
  fun K => (Fa.glo "_law_learn").ok K,
  fun K => (Fa.glo "_law_over").ok K,
  fun K => (Fa.glo "_law_close").ok K,
  fun K => (Fa.glo "_law_begin").ok K,
  fun K => (Fa.glo "_law_tame").ok K,
  fun K => (Fa.glo "_law_rules").ok K,
  fun K => (Fa.glo "_law_book").ok K,
  fun K => (Fa.glo "decide").ok K,
  fun K => (Fa.glo "_law_state").ok K,
  fun K => (Fa.glo "_law_go").ok K,
  fun K => (Fa.glo "law").ok K,
  fun K => (Fa.free "isinstance").ok K,
  fun K => (Fa.free "int").ok K,
  fun K => (Fa.free "bool").ok K,
  fun K => (Fa.free "abs").ok K,
  fun K => (Fa.free "len").ok K,
  fun K => (Fa.free "str").ok K,
  fun K => (Fa.free "NotImplemented").ok K,
  fun K => (Fa.free "dict").ok K,
  fun K => (Fa.free "range").ok K,
  fun K => (Fa.free "all").ok K,
  fun K => (Fa.free "zip").ok K,
  fun K => (Fa.free "tuple").ok K,
  fun K => (Fa.free "list").ok K]
def fn : List DefA := fn1
def ψ : List (PySem.W.Frag → Bool) := ψ1
abbrev R : PySem.W.OpenRow := PySem.W.OpenLaw.row PySem.Challenge.rw_resendtimers_k41_whole_last_stays_below
def loose : List Str := [("_wall" : Str), ("__name__" : Str), ("ResendError" : Str), ("NoTime" : Str), ("NoText" : Str), ("BadBook" : Str), ("TooMany" : Str), ("Open" : Str), ("MOST_FIGURES" : Str), ("MOST_POWER" : Str), ("FIGURES" : Str), ("is_integer" : Str), ("common" : Str), ("raised" : Str), ("read_count" : Str), ("Time" : Str), ("is_time" : Str), ("time_of" : Str), ("lesser" : Str), ("greater" : Str), ("PARTS" : Str), ("SAMPLES" : Str), ("MOST_LATEST" : Str), ("is_positive" : Str), ("is_latest" : Str), ("is_roof" : Str), ("is_allowed" : Str), ("checked" : Str), ("word_of" : Str), ("part_of" : Str), ("made_of" : Str), ("bends" : Str), ("last_rise" : Str), ("Book" : Str), ("check_times" : Str), ("waits_until" : Str), ("resent" : Str), ("FIRST_BITS" : Str), ("power_of" : Str), ("exact_side" : Str), ("product" : Str), ("told_side" : Str), ("Search" : Str), ("first_power" : Str), ("rounds_to" : Str), ("needless_from" : Str), ("learned_from" : Str), ("lowest_wait" : Str), ("stays_below_by_last" : Str), ("all_below" : Str), ("MOST_NEEDLESS" : Str), ("MOST_PLAYED" : Str), ("Verdict" : Str), ("trap_of" : Str), ("key_of" : Str), ("greatest" : Str), ("LastCourse" : Str), ("first_with" : Str), ("learned_verdict" : Str), ("decide" : Str), ("_law_begin" : Str), ("_law_draw" : Str), ("_law_divisor" : Str), ("_law_cut" : Str), ("_law_sum" : Str), ("_law_minus" : Str), ("_law_by" : Str), ("_law_over" : Str), ("_law_less" : Str), ("_law_most" : Str), ("_law_least" : Str), ("_law_time" : Str), ("_law_moment" : Str), ("_law_share" : Str), ("_law_rules" : Str), ("_law_book" : Str), ("_law_wait" : Str), ("_law_steady" : Str), ("_law_state" : Str), ("_law_estimate" : Str), ("_law_learn" : Str), ("_law_go" : Str), ("_law_close" : Str), ("_law_tame" : Str)]
theorem run1 (w : World) : HandSHeadRun.RunEq R (PySem.W.view R.prog [92]) (hookX 6 ψ1 fn1) (obX 6 ψ1 fn1) 14000 loose w := by
  intro os
  kernel_rfl
theorem run (w : World) : HandSHeadRun.RunEq R (PySem.W.view R.prog [92]) (hookX 6 ψ fn) (obX 6 ψ fn) 14000 loose w := run1 w

end
end Rt
/-! A walk straight over the text: each construct by its rule, the values typed by facts about them. -/
namespace Rs
open PySem PySem.Spec PyProof.Rows L2

/-! ### the text itself as its own reading -/
section
variable {X : Cx}
def WE (X : Cx) (e : Expr) : TE := fun σ H Q => ∀ pins s, Inv X pins σ H s → wpAny (model X.prog X.w) X.A (eval e X.env) (EP X pins σ Q) X.xe s
def WT (X : Cx) (e : Expr) : TT := fun σ H Q => ∀ pins s, Inv X pins σ H s → wpAny (model X.prog X.w) X.A (isTrue e X.env (eval e X.env)) (TP X pins σ Q) X.xe s
def WW (X : Cx) (e : Expr) : TT := fun σ H Q => ∀ whole pins s, Inv X pins σ H s → wpAny (model X.prog X.w) X.A (isTrue e X.env whole) (TP X pins σ Q) X.xe s
def WA (X : Cx) (es : List Expr) : TA := fun σ H Q => ∀ pos pins s, Inv X pins σ H s → wpAny (model X.prog X.w) X.A (spliced (backTo pos (starEach es X.env))) (AP X pins σ Q) X.xe s
def WS (X : Cx) (st : Stmt) : TS := fun D σ H => ∀ pins s, Inv X pins σ H s → wpAny (model X.prog X.w) X.A (exec st X.env) (SP X pins D) X.xe s
def WB (X : Cx) (st : List Stmt) : TS := fun D σ H => ∀ pins s, Inv X pins σ H s → wpAny (model X.prog X.w) X.A (execs st X.env) (SP X pins D) X.xe s
theorem peS {e : Expr} : PE X e (WE X e) := ⟨fun pins s _ _ _ I h => h pins s I⟩
theorem ptS {e : Expr} : PT X e (WT X e) := ⟨fun pins s _ _ _ I h => h pins s I⟩
theorem pwS {e : Expr} : PW X e (WW X e) := ⟨fun whole pins s _ _ _ I h => h whole pins s I⟩
theorem paS {es : List Expr} : PA X es (WA X es) := ⟨fun pos pins s _ _ _ I h => h pos pins s I⟩
theorem psS {st : Stmt} : PS X st (WS X st) := ⟨fun pins s _ _ _ I h => h pins s I⟩
theorem pbS {st : List Stmt} : PSs X st (WB X st) := ⟨fun pins s _ _ _ I h => h pins s I⟩
variable {σ : L2.St} {H : Hp} {D : Ends} {Q : VK} {QT : Bool → Hp → Prop} {QA : List V → Hp → Prop}
theorem weP {e : Expr} {t : TE} (p : PE X e t) (h : t σ H Q) : WE X e σ H Q := fun pins s I => p.run pins s σ H Q I h
theorem wtP {e : Expr} {t : TT} (p : PT X e t) (h : t σ H QT) : WT X e σ H QT := fun pins s I => p.run pins s σ H QT I h
theorem wwP {e : Expr} {t : TT} (p : PW X e t) (h : t σ H QT) : WW X e σ H QT := fun whole pins s I => p.run whole pins s σ H QT I h
theorem waP {es : List Expr} {t : TA} (p : PA X es t) (h : t σ H QA) : WA X es σ H QA := fun pos pins s I => p.run pos pins s σ H QA I h
theorem wsP {st : Stmt} {t : TS} (p : PS X st t) (h : t D σ H) : WS X st D σ H := fun pins s I => p.run pins s σ H D I h
theorem wbP {st : List Stmt} {t : TS} (p : PSs X st t) (h : t D σ H) : WB X st D σ H := fun pins s I => p.run pins s σ H D I h

/-! ### names -/
/-- slot i of the running body is the name x, its own -/
structure Sl (X : Cx) (i : Nat) (x : Str) : Prop where
  at_ : X.N[i]? = some x
  nd : X.N.Nodup
  loc : Loc X.env.scope x
  fn : X.fn x = true ∨ X.env.scope.names.lookup x = some .local
  d1 : (x == ("__debug__" : Str)) = false
  d2 : (x == ("__classdict__" : Str)) = false
/-- x is a name of the module or a built-in one here -/
structure Gn (X : Cx) (x : Str) : Prop where
  gl : Gl X x
  d1 : (x == ("__debug__" : Str)) = false
/-- .. and a built-in one -/
structure Bn (X : Cx) (x : Str) : Prop where
  gl : Gl X x
  no : X.mg x = none
theorem we_name {i : Nat} {x : Str} {v : V} {pos : Pos} (n : Sl X i x) (h : σ[i]? = some (some v)) (q : Q v H) : WE X (.Name x pos) σ H Q :=
  weP (pe_var n.at_ (n.loc.elim .inl fun z => .inr (.inl z)) n.d1 n.d2) ⟨v, h, q⟩
theorem we_int {i : Int} {j : Nat} {pos : Pos} (q : Q (.int i) H) : WE X (.Constant (.int i) j pos) σ H Q := weP pe_int q
theorem we_str {x : Str} {j : Nat} {pos : Pos} (q : Q (.str x) H) : WE X (.Constant (.str x) j pos) σ H Q := weP pe_str q
theorem we_bool {b : Bool} {j : Nat} {pos : Pos} (q : Q (.bl b) H) : WE X (.Constant (.bool b) j pos) σ H Q := weP pe_bl q
theorem we_none {j : Nat} {pos : Pos} (q : Q .non H) : WE X (.Constant .none j pos) σ H Q := weP pe_non q
/-- a module's constant -/
theorem we_glob {x : Str} {v : V} {u : Value} {pos : Pos} (g : Gn X x) (hm : X.mg x = some u) (r : RelV v u) (q : Q v H) : WE X (.Name x pos) σ H Q := weP (pe_glob g.gl hm r g.d1) q

/-! ### operators: what the value of one is, by the values of its sides -/
def Op2 (X : Cx) (f : Value → Value → Sem Value) (x y : V) (H : Hp) (Q : VK) : Prop := ∀ pins s σ u v, Inv X pins σ H s → RelV x u → RelV y v → wpAny (model X.prog X.w) X.A (f u v) (EP X pins σ Q) X.xe s
def Op1 (X : Cx) (f : Value → Sem Value) (x : V) (H : Hp) (Q : VK) : Prop := ∀ pins s σ u, Inv X pins σ H s → RelV x u → wpAny (model X.prog X.w) X.A (f u) (EP X pins σ Q) X.xe s
def CallV (X : Cx) (f : Value) (xs : List V) (H : Hp) (Q : VK) : Prop := ∀ pins s σ us, Inv X pins σ H s → Vals xs us → wpAny (model X.prog X.w) X.A (call f us) (EP X pins σ Q) X.xe s
theorem op2R {f : Value → Value → Sem Value} : OpR X f (Op2 X f) := fun pins s σ _ _ _ u v _ I rx ry h => h pins s σ u v I rx ry
theorem op2_of {f : Value → Value → Sem Value} {r : R2} {x y : V} (o : OpR X f r) (h : r x y H Q) : Op2 X f x y H Q := fun pins s σ u v I rx ry => o pins s σ H x y u v Q I rx ry h
theorem op1R {f : Value → Sem Value} : UnR X f (Op1 X f) := fun pins s σ _ _ u _ I rx h => h pins s σ u I rx
theorem op1_of {f : Value → Sem Value} {r : V → Hp → VK → Prop} {x : V} (o : UnR X f r) (h : r x H Q) : Op1 X f x H Q := fun pins s σ u I rx => o pins s σ H x u Q I rx h
theorem we_bin {op : Operator} {a b : Expr} {pos : Pos} (h : WE X a σ H fun x H1 => WE X b σ H1 fun y H2 => Op2 X (binaryOp op) x y H2 Q) : WE X (.BinOp a op b pos) σ H Q := weP (pe_op op2R peS peS) h
theorem we_un {op : UnaryOp} {a : Expr} {pos : Pos} (h : WE X a σ H fun x H1 => Op1 X (unaryOp op) x H1 Q) : WE X (.UnaryOp op a pos) σ H Q := weP (pe_un op1R peS) h
theorem we_cmp {op : CmpOp} {a b : Expr} {pos : Pos} (h : WE X a σ H fun x H1 => WE X b σ H1 fun y H2 => Op2 X (compareOp op) x y H2 Q) (hm : behindInMarks op b = false := by first | exact nomark _ | rfl) : WE X (.Compare a [op] [b] pos) σ H Q :=
  weP (pe_cmpR op2R peS peS hm) h
theorem wt_cmp {op : CmpOp} {a b : Expr} {pos : Pos} (h : WE X a σ H fun x H1 => WE X b σ H1 fun y H2 => Op2 X (compareOp op) x y H2 fun z H3 => ∃ k, z = .bl k ∧ QT k H3) (hm : behindInMarks op b = false := by first | exact nomark _ | rfl) :
    WT X (.Compare a [op] [b] pos) σ H QT := wtP (pt_cmpR op2R peS peS hm) h
theorem we_chain {op op' : CmpOp} {a b c : Expr} {pos : Pos} (h : WE X a σ H fun x H1 => WE X b σ H1 fun y H2 => Op2 X (compareOp op) x y H2 fun z H3 => ∃ k, z = .bl k ∧ if k = true then WE X c σ H3 fun w H4 => Op2 X (compareOp op') y w H4 Q else Q (.bl false) H3)
    (h1 : lastMarks [op, op'] [b, c] = false := by rfl) : WE X (.Compare a [op, op'] [b, c] pos) σ H Q := weP (pe_chain op2R op2R peS peS peS h1) h
theorem wt_chain {op op' : CmpOp} {a b c : Expr} {pos : Pos} (h : WE X a σ H fun x H1 => WE X b σ H1 fun y H2 => Op2 X (compareOp op) x y H2 fun z H3 => ∃ k, z = .bl k ∧ if k = true then WE X c σ H3 fun w H4 => Op2 X (compareOp op') y w H4 fun z2 H5 => ∃ k, z2 = .bl k ∧ QT k H5 else ∃ k2, V.bl false = .bl k2 ∧ QT k2 H3)
    (h1 : lastMarks [op, op'] [b, c] = false := by rfl) : WT X (.Compare a [op, op'] [b, c] pos) σ H QT := wtP (pt_chain op2R op2R peS peS peS h1) h

/-! ### tests -/
theorem wt_and2 {a b : Expr} {pos : Pos} (h : WT X a σ H fun k H1 => if k = true then WT X b σ H1 QT else QT false H1) : WT X (.BoolOp .And [a, b] pos) σ H QT := wtP (PW.pt (pw_and ptS (pw_and1 ptS))) h
theorem wt_and3 {a b c : Expr} {pos : Pos} (h : WT X a σ H fun k H1 => if k = true then WT X b σ H1 fun k2 H2 => if k2 = true then WT X c σ H2 QT else QT false H2 else QT false H1) : WT X (.BoolOp .And [a, b, c] pos) σ H QT :=
  wtP (PW.pt (pw_and ptS (pw_and ptS (pw_and1 ptS)))) h
theorem wt_or2 {a b : Expr} {pos : Pos} (h : WT X a σ H fun k H1 => if k = true then QT true H1 else WT X b σ H1 QT) : WT X (.BoolOp .Or [a, b] pos) σ H QT := wtP (PW.pt (pw_or ptS (pw_or1 ptS))) h
theorem wt_or3 {a b c : Expr} {pos : Pos} (h : WT X a σ H fun k H1 => if k = true then QT true H1 else WT X b σ H1 fun k2 H2 => if k2 = true then QT true H2 else WT X c σ H2 QT) : WT X (.BoolOp .Or [a, b, c] pos) σ H QT :=
  wtP (PW.pt (pw_or ptS (pw_or ptS (pw_or1 ptS)))) h
theorem wt_or4 {a b c d : Expr} {pos : Pos} (h : WT X a σ H fun k H1 => if k = true then QT true H1 else WT X b σ H1 fun k2 H2 => if k2 = true then QT true H2 else WT X c σ H2 fun k3 H3 => if k3 = true then QT true H3 else WT X d σ H3 QT) :
    WT X (.BoolOp .Or [a, b, c, d] pos) σ H QT := wtP (PW.pt (pw_or ptS (pw_or ptS (pw_or ptS (pw_or1 ptS))))) h
theorem wt_not {a : Expr} {pos : Pos} (h : WT X a σ H fun k H1 => QT (!k) H1) : WT X (.UnaryOp .Not a pos) σ H QT := wtP (pt_not ptS) h
/-- a test that is a value's truth, the value True or False -/
theorem wt_val {e : Expr} (h : WE X e σ H fun v H1 => ∃ k, v = .bl k ∧ QT k H1) (he : ∀ whole, isTrue e X.env whole = (do let v ← whole; standAt e.pos; holding [v] (truthy v)) := by intro _; rfl) : WT X e σ H QT := wtP (pt_val peS he) h
/-- .. any value -/
theorem wt_truth {e : Expr} (h : WE X e σ H fun v H1 => ∃ k, TruV X.K v H1 k ∧ QT k H1) (he : ∀ whole, isTrue e X.env whole = (do let v ← whole; standAt e.pos; holding [v] (truthy v)) := by intro _; rfl) : WT X e σ H QT := wtP (pt_truth peS he) h
theorem we_and2 {a b : Expr} {pos : Pos} (h : WE X a σ H fun x H1 => ∃ c, x = .bl c ∧ if c = true then WE X b σ H1 Q else Q (.bl false) H1) : WE X (.BoolOp .And [a, b] pos) σ H Q := weP (pe_and peS (pe_one peS)) h
theorem we_and3 {a b c : Expr} {pos : Pos} (h : WE X a σ H fun x H1 => ∃ k, x = .bl k ∧ if k = true then WE X b σ H1 fun y H2 => ∃ k2, y = .bl k2 ∧ if k2 = true then WE X c σ H2 Q else Q (.bl false) H2 else Q (.bl false) H1) :
    WE X (.BoolOp .And [a, b, c] pos) σ H Q := weP (pe_and peS (pe_and peS (pe_one peS))) h
theorem we_or2 {a b : Expr} {pos : Pos} (h : WE X a σ H fun x H1 => ∃ c, x = .bl c ∧ if c = true then Q (.bl true) H1 else WE X b σ H1 Q) : WE X (.BoolOp .Or [a, b] pos) σ H Q := weP (pe_or peS (pe_one peS)) h
theorem we_not {a : Expr} {pos : Pos} (h : WE X a σ H fun x H1 => ∃ c, x = .bl c ∧ Q (.bl (!c)) H1) : WE X (.UnaryOp .Not a pos) σ H Q := weP (pe_not peS) h
theorem we_if {c a b : Expr} {pos : Pos} (h : WT X c σ H fun k H1 => if k = true then WE X a σ H1 Q else WE X b σ H1 Q) : WE X (.IfExp c a b pos) σ H Q := weP (pe_ifExp ptS peS peS) h

/-! ### arguments, tuples, lists -/
theorem wa_nil (q : QA [] H) : WA X [] σ H QA := waP pa_nil q
theorem wa_cons {e : Expr} {es : List Expr} (h : WE X e σ H fun x H1 => WA X es σ H1 fun xs H2 => QA (x :: xs) H2) (hs : starEach (e :: es) X.env = (false, eval e X.env) :: starEach es X.env := by rfl) : WA X (e :: es) σ H QA := waP (pa_cons peS paS hs) h

/-! ### statements -/
theorem wb_nil (h : D.nx σ H) : WB X [] D σ H := wbP pss_nil h
theorem wb_cons {st : Stmt} {rest : List Stmt} (h : WS X st { D with nx := fun σ' H' => WB X rest D σ' H' } σ H) : WB X (st :: rest) D σ H := wbP (pss_cons psS pbS) h
theorem wb_one {st : Stmt} (h : WS X st D σ H) : WB X [st] D σ H := wbP (pss_one psS) h
theorem ws_pass {pos : Pos} (h : D.nx σ H) : WS X (.Pass pos) D σ H := wsP ps_pass h
theorem ws_break {pos : Pos} (h : D.bk σ H) : WS X (.Break pos) D σ H := wsP ps_break h
theorem ws_continue {pos : Pos} (h : D.ct σ H) : WS X (.Continue pos) D σ H := wsP ps_continue h
theorem ws_set {i : Nat} {x : Str} {e : Expr} {pos pos' : Pos} (n : Sl X i x) (h : WE X e σ H fun v H1 => D.nx (σ.set i (some v)) H1) (hs : swapsWith e (some (.Name x pos')) pos.line X.env = pure false := by rfl) : WS X (.Assign [.Name x pos'] e pos) D σ H :=
  wsP (ps_set n.nd n.at_ n.loc peS hs n.fn) h
theorem ws_ret {e : Expr} {pos : Pos} (h : WE X e σ H D.rt) : WS X (.Return (some e) pos) D σ H := wsP (ps_ret peS) h
theorem ws_retN {pos : Pos} (h : D.rt .non H) : WS X (.Return none pos) D σ H := wsP ps_retN h
theorem ws_if {c : Expr} {a b : List Stmt} {pos : Pos} (h : WT X c σ H fun k H1 => if k = true then WB X a D σ H1 else WB X b D σ H1) : WS X (.If c a b pos) D σ H := wsP (ps_if ptS pbS pbS) h
theorem ws_expr {e : Expr} {pos : Pos} (h : WE X e σ H fun _ H1 => D.nx σ H1) (hs : swapsWith e none pos.line X.env = pure false := by rfl) : WS X (.Expr e pos) D σ H := wsP (ps_expr peS hs) h
theorem ws_while {c : Expr} {body : List Stmt} {pos : Pos} (hp : PassesOwn (model X.prog X.w) X.A X.env X.xe) (h : tWhile (WT X c) (WB X body) D σ H) : WS X (.While c body [] pos) D σ H := wsP (ps_while hp ptS pbS) h
theorem ws_never {st : Stmt} (h : False) : WS X st D σ H := h.elim

/-! ### what runs around a body -/
theorem Body.pass {k : Nat} {E : XK} (B : Body X k fun _ => E) : Passes (RX X.prog X.w) X E := L2N.passes_call B.tk fun _ _ _ _ h => h
/-- what may leave a call whose exceptions are taken at these slots -/
theorem out_at {CX : CXT} {E : XK} {pins : List (Addr × Obj)} {s : Shared} (hx : PassesAt CX X σ E) (I : Inv X pins σ H s) : ∀ (o : Result) (t : Shared), CR CX X.stack X.prog X.w H s Q E o t → (match o with | .ok (.ret v) => EP X pins σ Q v t | .ok _ => False | .error e => X.xe e t)
  | .ok (.ret _), _, q => I.after q
  | .ok .next, _, q => q
  | .ok .brk, _, q => q
  | .ok .cont, _, q => q
  | .error _, _, q => hx _ _ _ _ _ I q
theorem go_at {CX : CXT} {k : Nat} {f : Addr} {sp : Sp} {E : XK} {pins : List (Addr × Obj)} {s : Shared} {us : List Value} {vs : List V} (F : FnR X.prog X.w X.K X.mg X.base CX k f sp) (hr : Room k X.A) (hx : PassesAt CX X σ E) (I : Inv X pins σ H s) (r : Vals vs us) (h : sp vs H Q E) :
    wpAny (model X.prog X.w) X.A (call (.ref f) us) (EP X pins σ Q) X.xe s := wpAny_call (codeAny_mono (F _ _ s H us vs Q E hr I.env0 r h) (out_at hx I))
theorem make_at {CX : CXT} {k : Nat} {C f : Addr} {fd : FuncData} {ps : List Str} {ds : List Value} {dvs : List V} {sp : Sp} {E : XK} {pins : List (Addr × Obj)} {s : Shared} {us : List Value} {vs : List V} (M : Mk X.K C f) (F : FnOk X.prog X.w X.K X.mg X.base CX k f fd ps sp) (hr : Room (k + 1) X.A) (hb : Binds X.K fd ps ds) (hd : Vals dvs ds)
    (hx : PassesAt CX X σ E) (I : Inv X pins σ H s) (r : Vals vs us) (h : ∀ a dx, H a = none → H dx = none → dx ≠ a → sp (.ref a :: (vs ++ dvs)) (upd (upd H dx (.own a)) a (.ins C dx [])) (fun v H2 => v = .non ∧ Q (.ref a) H2) E) :
    wpAny (model X.prog X.w) X.A (call (.ref C) us) (EP X pins σ Q) X.xe s := by
  have J := Inv.made (C := C) I
  have hq := h (s.heap.objs.size + 1) s.heap.objs.size (I.hok.fresh (Nat.le_succ _)) (I.hok.fresh (Nat.le_refl _)) (Nat.ne_of_lt (Nat.lt_succ_self _))
  have rr : Vals (V.ref (s.heap.objs.size + 1) :: (vs ++ dvs)) (Value.ref (s.heap.objs.size + 1) :: (us ++ ds)) := .cons rfl (r.append hd)
  have bd := hb _ (Value.ref (s.heap.objs.size + 1) :: us) J.kIn ((F.len _ _ _ _ hq).symm.trans rr.length).symm
  have run := F.run _ X.stack _ _ ⟨Value.ref (s.heap.objs.size + 1) :: us, []⟩ _ _ _ E (hr.make C us []) (J.env0.make C us []) bd rr hq
  refine wpAny_call (make_map (f := f) I.kIn M.makes M.init (beq_iff_eq.mp M.fn) (codeAny_mono run fun o t q => ?_))
  have z := out_at hx J o t q
  cases o with
  | error e => exact z
  | ok fl =>
    cases fl with
    | ret u =>
      obtain ⟨v, H', I3, rv, rfl, q3⟩ := z
      exact ⟨rv, ⟨V.ref (s.heap.objs.size + 1), H', I3, rfl, q3⟩⟩
    | next => exact z.elim
    | brk => exact z.elim
    | cont => exact z.elim
/-- a def of the module -/
def GFn (P : Program) (w : World) (K : PySem.W.Frag) (mg : Str → Option Value) (base : Heap) (k : Nat) (x : Str) (sp : Sp) : Prop :=
  ∃ f, mg x = some (.ref f) ∧ PySem.W.keepIn K (.ref f) = true ∧ FnR P w K mg base (RX P w) k f sp
abbrev Fn (X : Cx) : Nat → Str → Sp → Prop := GFn X.prog X.w X.K X.mg X.base
/-- a class of the module, made by its __init__; dvs: the defaults that fill up -/
def GMk (P : Program) (w : World) (K : PySem.W.Frag) (mg : Str → Option Value) (base : Heap) (k : Nat) (x : Str) (C : Addr) (sp : Sp) (dvs : List V) : Prop :=
  ∃ f fd ps ds, mg x = some (.ref C) ∧ Mk K C f ∧ FnOk P w K mg base (RX P w) k f fd ps sp ∧ Binds K fd ps ds ∧ Vals dvs ds
abbrev Kl (X : Cx) : Nat → Str → Addr → Sp → List V → Prop := GMk X.prog X.w X.K X.mg X.base
/-- a method -/
def GMe (P : Program) (w : World) (K : PySem.W.Frag) (mg : Str → Option Value) (base : Heap) (k : Nat) (C : Addr) (m : Str) (sp : Sp) : Prop :=
  ∃ f, Meth K C m f ∧ FnR P w K mg base (RX P w) k f sp
abbrev Me (X : Cx) : Nat → Addr → Str → Sp → Prop := GMe X.prog X.w X.K X.mg X.base
section
variable {k j : Nat} {E : L2.St → XK} {x m : Str} {sp : Sp} {p pos apos : Pos} {e o : Expr} {es : List Expr} {C : Addr}
theorem we_call (B : Body X k E) (g : Gn X x) (f : Fn X j x sp) (hj : j ≤ k) (h : WA X (e :: es) σ H fun vs H1 => sp vs H1 Q (E σ))
    (hs : starEach (e :: es) X.env = (false, eval e X.env) :: starEach es X.env := by rfl) (hl : (backTo pos (starEach es X.env)).any (·.1) = false := by rfl) : WE X (.Call (.Name x p) (e :: es) [] pos) σ H Q := by
  obtain ⟨a, hm, hk, F⟩ := f
  intro pins s I
  refine wpAny_Call_Name_kw (ld_glob I g.gl hm ?_ g.d1)
  refine PySem.W.callWith_K (h₀ := X.base) I.ok.mod.kin hk (thn (h pos pins s I) fun us s1 z => ?_) hs hl
  obtain ⟨vs, H1, I1, r, q⟩ := z
  exact ⟨I1.kIn, go_at F (B.room.mono hj) (B.at σ) I1 r q⟩
theorem we_call0 (B : Body X k E) (g : Gn X x) (f : Fn X j x sp) (hj : j ≤ k) (h : sp [] H Q (E σ)) : WE X (.Call (.Name x p) [] [] pos) σ H Q := by
  obtain ⟨a, hm, hk, F⟩ := f
  intro pins s I
  refine wpAny_Call_Name_kw (ld_glob I g.gl hm ?_ g.d1)
  exact PySem.W.callWith_K0 I.kIn hk (go_at (us := []) F (B.room.mono hj) (B.at σ) I .nil h)
/-- what runs when an own def is called by a built-in way (an operator, a property) -/
theorem run_own {E : XK} {f : Addr} {pins : List (Addr × Obj)} {s : Shared} {vs : List V} {us : List Value} (B : Body X k fun _ => E) (F : FnR X.prog X.w X.K X.mg X.base (RX X.prog X.w) j f sp) (hj : j ≤ k) (I : Inv X pins σ H s) (r : Vals vs us) (h : sp vs H Q E) :
    wpAny (model X.prog X.w) X.A (call (.ref f) us) (EP X pins σ Q) X.xe s := wpAny_call (run_fnR F (B.room.mono hj) B.pass I r h)
theorem we_make {dvs : List V} (B : Body X k E) (g : Gn X x) (f : Kl X j x C sp dvs) (hj : j + 1 ≤ k) (h : WA X (e :: es) σ H fun vs H1 => ∀ a dx, H1 a = none → H1 dx = none → dx ≠ a →
      sp (.ref a :: (vs ++ dvs)) (upd (upd H1 dx (.own a)) a (.ins C dx [])) (fun v H2 => v = .non ∧ Q (.ref a) H2) (E σ))
    (hs : starEach (e :: es) X.env = (false, eval e X.env) :: starEach es X.env := by rfl) (hl : (backTo pos (starEach es X.env)).any (·.1) = false := by rfl) : WE X (.Call (.Name x p) (e :: es) [] pos) σ H Q := by
  obtain ⟨fi, fd, ps, ds, hm, M, F, hb, hd⟩ := f
  intro pins s I
  refine wpAny_Call_Name_kw (ld_glob I g.gl hm ?_ g.d1)
  refine PySem.W.callWith_K (h₀ := X.base) I.ok.mod.kin M.kp (thn (h pos pins s I) fun us s1 z => ?_) hs hl
  obtain ⟨vs, H1, I1, r, q⟩ := z
  exact ⟨I1.kIn, make_at M F (B.room.mono hj) hb hd (B.at σ) I1 r q⟩
theorem we_meth {pl : Sem Bool} (B : Body X k E) (c : Cls X.K C) (f : Me X j C m sp) (hj : j ≤ k)
    (h : WE X o σ H fun y H1 => ∃ a dx fs, y = .ref a ∧ H1 a = some (.ins C dx fs) ∧ fs.lookup m = none ∧ WA X (e :: es) σ H1 fun vs H2 => sp (.ref a :: vs) H2 Q (E σ))
    (hs : starEach (e :: es) X.env = (false, eval e X.env) :: starEach es X.env := by rfl) (hl : (backTo pos (starEach es X.env)).any (·.1) = false := by rfl)
    (ht : eval (.Call (.Attribute o m apos) (e :: es) [] pos) X.env = (do
      let it ← eval o X.env
      standAt apos.atName
      let (g, first) ← holding [it] (getMethod it m pl)
      callWith pos g first (backTo pos (starEach (e :: es) X.env)) (backToKw pos (keywordEach [] X.env))) := by rfl) : WE X (.Call (.Attribute o m apos) (e :: es) [] pos) σ H Q := by
  obtain ⟨g, hm, F⟩ := f
  intro pins s I
  refine PySem.W.methodCall_KW (pl := pl) (thn (h pins s I) fun u s1 z => ?_) ht
  obtain ⟨y, H1, I1, ry, a, dx, fs, rfl, e1, l, q⟩ := z
  cases ry
  refine getmeth_ok I1 e1 c hm l ?_
  refine PySem.W.callWith_K (first := [.ref a]) (h₀ := X.base) I.ok.mod.kin hm.kp (thn (q pos pins s1 I1) fun us s2 z => ?_) hs hl
  obtain ⟨vs, H2, I2, r, q2⟩ := z
  exact ⟨I2.kIn, go_at (us := .ref a :: us) (vs := .ref a :: vs) F (B.room.mono hj) (B.at σ) I2 (.cons rfl r) q2⟩
end
end
end Rs

namespace Rs
open PySem PySem.Spec PyProof.Rows L2

/-! ### what stays: all objects but the law's source of draws, which stays a source -/
theorem Good.mono {H H' : Hp} {o : HO} (x : Ex H H') (g : Good H o) : Good H' o := by
  rcases g with g | ⟨l, C, dx, fs, rest, e, h⟩
  · exact .inl g
  · exact .inr ⟨l, C, dx, fs, rest, e, x.keep _ _ h not_src_ins⟩
theorem Ex.refl (H : Hp) : Ex H H := ⟨fun _ _ h _ => h, fun _ _ o h s => ⟨o, h, s⟩⟩
theorem Ex.trans {H H1 H2 : Hp} (x : Ex H H1) (y : Ex H1 H2) : Ex H H2 := ⟨fun a o h g => y.kp a o (x.kp a o h g) (g.mono x), fun a l o h s => by
  obtain ⟨o1, h1, s1⟩ := x.src a l o h s
  exact y.src a l o1 h1 s1⟩
theorem Ex.new {H : Hp} {p : Addr} {o : HO} (hp : H p = none) : Ex H (upd H p o) :=
  ⟨fun a u h _ => (upd_ne (ne_of_none h hp)).trans h, fun a l u h s => ⟨u, (upd_ne (ne_of_none h hp)).trans h, s⟩⟩
/-- an object that H does not know is stored to -/
theorem Ex.put {H H' : Hp} {p : Addr} {o : HO} (x : Ex H H') (hp : H p = none) : Ex H (upd H' p o) :=
  ⟨fun a u h g => (upd_ne (ne_of_none h hp)).trans (x.kp a u h g), fun a l u h s => by
    obtain ⟨o1, h1, s1⟩ := x.src a l u h s
    exact ⟨o1, (upd_ne (ne_of_none h hp)).trans h1, s1⟩⟩
theorem Ex.new2 {H : Hp} {p dx : Addr} {o u : HO} (hp : H p = none) (hd : H dx = none) : Ex H (upd (upd H dx u) p o) := (Ex.new hd).put hp
theorem Ex.made {H : Hp} {p dx : Addr} {o u z : HO} (hp : H p = none) (hd : H dx = none) : Ex H (upd (upd (upd H dx u) p o) p z) := (Ex.new2 hp hd).put hp
theorem Ex.src' {H : Hp} {a l : Addr} {o o' : HO} (hl : ∀ C dx fs, H l ≠ some (.ins C dx fs)) (h : H a = some o) (s : SrcL l o) (s' : SrcL l o') : Ex H (upd H a o') := by
  refine ⟨fun b u hb n => ?_, fun b m u hb t => ?_⟩
  · by_cases e : b = a
    · subst e
      rw [h] at hb
      cases hb
      rcases n with n | ⟨l2, C, dx, fs, rest, e2, h2⟩
      · exact absurd ⟨l, s⟩ n
      · obtain ⟨i, c, r, e1, _⟩ := s
        have e3 := e1.symm.trans e2
        injection e3 with e4
        injection e4 with e5
        injection e5 with e6
        subst e6
        exact absurd h2 (hl _ _ _)
    · exact (upd_ne e).trans hb
  · by_cases e : b = a
    · subst e
      rw [h] at hb
      cases hb
      refine ⟨o', upd_same, ?_⟩
      obtain ⟨i, c, r, e1, _⟩ := s
      obtain ⟨i2, c2, r2, e2, _⟩ := t
      have e3 := e1.symm.trans e2
      injection e3 with e4
      injection e4 with e5
      injection e5 with e6
      subst e6
      exact s'
    · exact ⟨u, (upd_ne e).trans hb, t⟩
theorem not_src_own {a : Addr} : ¬ Src (.own a) := by
  rintro ⟨l, i, b, r, e, _⟩
  cases e
theorem not_src_ints {ns : List Int} : ¬ Src (.lst (ns.map V.int)) := by
  rintro ⟨l, i, b, r, e, _⟩
  cases ns with
  | nil => cases e
  | cons n ns =>
    injection e with e
    injection e with e1 _
    cases e1
theorem Ret.now {H : Hp} {R : V → Hp → Prop} {Q : VK} {v : V} (k : Ret H R Q) (r : R v H) : Q v H := k v H (Ex.refl H) r
theorem Ret.mono {H H' : Hp} {R : V → Hp → Prop} {Q : VK} (k : Ret H R Q) (x : Ex H H') : Ret H' R Q := fun v H2 y r => k v H2 (x.trans y) r

/-! ### times -/
/-- the fields of the time q -/
def tfs (q : Rat) : List (Str × V) := [(("over_line" : Str), .int q.num), (("under_line" : Str), .int q.den)]
/-- v is an instance of the class at C that is the time q -/
def TimeV (C : Addr) (q : Rat) (v : V) (H : Hp) : Prop := ∃ p dx, v = .ref p ∧ H p = some (.ins C dx (tfs q))
theorem TimeV.mono {C : Addr} {q : Rat} {v : V} {H H' : Hp} (x : Ex H H') (h : TimeV C q v H) : TimeV C q v H' := by
  obtain ⟨p, dx, e, h⟩ := h
  exact ⟨p, dx, e, x.ins h⟩
end Rs

namespace Rs
open PySem PySem.Spec PyProof.Rows L2
open AutoSeq1 (wpAny_loadPart')

/-! ### an int beside an object of an own class: the int's own slots decline -/
section
variable (i : Int) (t : Tok) (x : Addr) (ox : Obj)
theorem decl_add : Meets (Builtin.«int.__add__» ⟨[.int i t, .ref x], []⟩) (DeclS x ox) := .of_wp fun prog w A R s q => by
  obtain ⟨hp, g, d, tk, os⟩ := s
  obtain ⟨e1, e2, z⟩ := q
  wp_walk using wpAny_loadPart' e1, wpAny_load e1
  rw [e2]
  wp_walk
  exact ⟨_, rfl, z⟩
theorem decl_sub : Meets (Builtin.«int.__sub__» ⟨[.int i t, .ref x], []⟩) (DeclS x ox) := .of_wp fun prog w A R s q => by
  obtain ⟨hp, g, d, tk, os⟩ := s
  obtain ⟨e1, e2, z⟩ := q
  wp_walk using wpAny_loadPart' e1, wpAny_load e1
  rw [e2]
  wp_walk
  exact ⟨_, rfl, z⟩
theorem decl_mul : Meets (Builtin.«int.__mul__» ⟨[.int i t, .ref x], []⟩) (DeclS x ox) := .of_wp fun prog w A R s q => by
  obtain ⟨hp, g, d, tk, os⟩ := s
  obtain ⟨e1, e2, z⟩ := q
  wp_walk using wpAny_loadPart' e1, wpAny_load e1
  rw [e2]
  wp_walk
  exact ⟨_, rfl, z⟩
theorem decl_eq : Meets (Builtin.«int.__eq__» ⟨[.int i t, .ref x], []⟩) (DeclS x ox) := .of_wp fun prog w A R s q => by
  obtain ⟨hp, g, d, tk, os⟩ := s
  obtain ⟨e1, e2, z⟩ := q
  wp_walk using wpAny_loadPart' e1, wpAny_load e1
  rw [e2]
  wp_walk
  exact ⟨_, rfl, z⟩
theorem decl_lt : Meets (Builtin.«int.__lt__» ⟨[.int i t, .ref x], []⟩) (DeclS x ox) := .of_wp fun prog w A R s q => by
  obtain ⟨hp, g, d, tk, os⟩ := s
  obtain ⟨e1, e2, z⟩ := q
  wp_walk using wpAny_loadPart' e1, wpAny_load e1
  rw [e2]
  wp_walk
  exact ⟨_, rfl, z⟩
theorem decl_le : Meets (Builtin.«int.__le__» ⟨[.int i t, .ref x], []⟩) (DeclS x ox) := .of_wp fun prog w A R s q => by
  obtain ⟨hp, g, d, tk, os⟩ := s
  obtain ⟨e1, e2, z⟩ := q
  wp_walk using wpAny_loadPart' e1, wpAny_load e1
  rw [e2]
  wp_walk
  exact ⟨_, rfl, z⟩
theorem decl_gt : Meets (Builtin.«int.__gt__» ⟨[.int i t, .ref x], []⟩) (DeclS x ox) := .of_wp fun prog w A R s q => by
  obtain ⟨hp, g, d, tk, os⟩ := s
  obtain ⟨e1, e2, z⟩ := q
  wp_walk using wpAny_loadPart' e1, wpAny_load e1
  rw [e2]
  wp_walk
  exact ⟨_, rfl, z⟩
theorem decl_ge : Meets (Builtin.«int.__ge__» ⟨[.int i t, .ref x], []⟩) (DeclS x ox) := .of_wp fun prog w A R s q => by
  obtain ⟨hp, g, d, tk, os⟩ := s
  obtain ⟨e1, e2, z⟩ := q
  wp_walk using wpAny_loadPart' e1, wpAny_load e1
  rw [e2]
  wp_walk
  exact ⟨_, rfl, z⟩
end
/-- the int's own def for op declines -/
structure IntDecl (nm : Str) : Prop where
  ex : ∃ id B, Slot "int" nm id ∧ entryFor table id = some B ∧ (∀ a b, argsOk id ⟨[a, b], []⟩) ∧ ∀ i t x ox, Meets (B ⟨[.int i t, .ref x], []⟩) (DeclS x ox)
theorem idecl_add : IntDecl (dunder "add") := ⟨_, _, PySem.F.slot_int_add, PySem.F.entry_int_add, PySem.F.args_int_add_2, decl_add⟩
theorem idecl_sub : IntDecl (dunder "sub") := ⟨_, _, PySem.F.slot_int_sub, PySem.F.entry_int_sub, PySem.F.args_int_sub_2, decl_sub⟩
theorem idecl_mul : IntDecl (dunder "mul") := ⟨_, _, PySem.F.slot_int_mul, PySem.F.entry_int_mul, PySem.F.args_int_mul_2, decl_mul⟩
theorem idecl_eq : IntDecl (cmpInfo .Eq).2.1 := ⟨_, _, PySem.F.slot_int_eq, PySem.F.entry_int_eq, PySem.F.args_int_eq_2, decl_eq⟩
theorem idecl_lt : IntDecl (cmpInfo .Lt).2.1 := ⟨_, _, PySem.F.slot_int_lt, PySem.F.entry_int_lt, PySem.F.args_int_lt_2, decl_lt⟩
theorem idecl_le : IntDecl (cmpInfo .LtE).2.1 := ⟨_, _, PySem.F.slot_int_le, PySem.F.entry_int_le, PySem.F.args_int_le_2, decl_le⟩
theorem idecl_gt : IntDecl (cmpInfo .Gt).2.1 := ⟨_, _, PySem.F.slot_int_gt, PySem.F.entry_int_gt, PySem.F.args_int_gt_2, decl_gt⟩
theorem idecl_ge : IntDecl (cmpInfo .GtE).2.1 := ⟨_, _, PySem.F.slot_int_ge, PySem.F.entry_int_ge, PySem.F.args_int_ge_2, decl_ge⟩

/-! ### operators of an own class -/
/-- the class at C has op at f (its reflected form, if any, is a def too); no int is one of its instances -/
structure BinOwn (K : PySem.W.Frag) (C f : Addr) (op : Operator) : Prop where
  sf : PySem.W.selfFirst K C = true
  at_ : PySem.W.findIn K (.ref C) (PySem.dunder op.info.2) = some (some (.ref f))
  fn : PySem.W.isFn K (.ref f) = true
  rc : ∃ rc, PySem.W.findIn K (.ref C) (dunderR op.info.2) = some rc ∧ (rc = none ∨ ∃ g : Addr, rc = some (.ref g))
  it : ∃ fo ro, PySem.W.findIn K (.type "int") (PySem.dunder op.info.2) = some fo ∧ PySem.W.findIn K (.type "int") (dunderR op.info.2) = some ro
  sub : PySem.W.subIn K (.type "int") (.ref C) = some false
/-- .. the reflected form at g -/
structure BinRef (K : PySem.W.Frag) (C g : Addr) (op : Operator) : Prop where
  sf : PySem.W.selfFirst K C = true
  fl : ∃ f : Addr, PySem.W.findIn K (.ref C) (PySem.dunder op.info.2) = some (some (.ref f))
  at_ : PySem.W.findIn K (.ref C) (dunderR op.info.2) = some (some (.ref g))
  fn : PySem.W.isFn K (.ref g) = true
  sub : PySem.W.subIn K (.ref C) (.type "int") = some false
structure CmpOwn (K : PySem.W.Frag) (C f : Addr) (op : CmpOp) : Prop where
  at_ : PySem.W.findIn K (.ref C) (cmpInfo op).2.1 = some (some (.ref f))
  fn : PySem.W.isFn K (.ref f) = true
  nfi : PySem.W.notFirst K C (.type "int") = true
structure CmpRef (K : PySem.W.Frag) (C g : Addr) (op : CmpOp) : Prop where
  at_ : PySem.W.findIn K (.ref C) (cmpInfo op).2.2 = some (some (.ref g))
  fn : PySem.W.isFn K (.ref g) = true
  sub : PySem.W.subIn K (.ref C) (.type "int") = some false
section
variable {X : Cx} {k j : Nat} {E : XK} {sp : Sp} {C f g a b dx dy : Addr} {fs gs : List (Str × V)} {H : Hp} {Q : VK} {op : Operator} {i : Int}
/-- o op o', one class -/
theorem bin_tt (B : Body X k fun _ => E) (c : BinOwn X.K C f op) (F : FnR X.prog X.w X.K X.mg X.base (RX X.prog X.w) j f sp) (hj : j ≤ k) (ea : H a = some (.ins C dx fs)) (eb : H b = some (.ins C dy gs)) (h : sp [.ref a, .ref b] H Q E) :
    Op2 X (binaryOp op) (.ref a) (.ref b) H Q := by
  intro pins s σ u v I ru rv
  cases ru
  cases rv
  obtain ⟨od, J⟩ := inst_of I ea
  obtain ⟨od', J'⟩ := inst_of I eb
  obtain ⟨m, hF⟩ := I.fr
  exact PySem.W.binop_K hF I.ok.mod.kin J J'.type c.sf c.at_ c.fn (back (run_own (vs := [.ref a, .ref b]) B F hj I (.cons rfl (.cons rfl .nil)) h))
/-- o op int -/
theorem bin_ti (B : Body X k fun _ => E) (c : BinOwn X.K C f op) (F : FnR X.prog X.w X.K X.mg X.base (RX X.prog X.w) j f sp) (hj : j ≤ k) (ea : H a = some (.ins C dx fs)) (h : sp [.ref a, .int i] H Q E) : Op2 X (binaryOp op) (.ref a) (.int i) H Q := by
  intro pins s σ u v I ru rv
  cases ru
  obtain ⟨t, rfl⟩ := rv
  obtain ⟨od, J⟩ := inst_of I ea
  obtain ⟨m, hF⟩ := I.fr
  obtain ⟨rc, h1, h2⟩ := c.rc
  obtain ⟨fo, ro, h3, h4⟩ := c.it
  exact PySem.W.ksp_binT (T := "int") hF I.ok.mod.kin J rfl c.sf c.at_ c.fn h1 h2 h3 h4 c.sub (back (run_own (vs := [.ref a, .int i]) B F hj I (.cons rfl (.cons ⟨t, rfl⟩ .nil)) h))
/-- what int op o comes to, by what o's reflected def does -/
theorem int_left {prog : Program} {w : World} {A : Around} {R : Value → Shared → Prop} {P : Value → Shared → Prop} {s : Shared} {K : PySem.W.Frag} {x : Addr} {ox : Obj} {od : Option Obj} {t : Tok} (KX : K.In s.heap) (J : PySem.W.InstAt s.heap x ox C od) (hd : ox.data = .plain)
    (c : BinRef K C g op) (hf : fillsNumberSlot (.type "int") op.info.2 = pure true) (d : IntDecl (dunder op.info.2)) (h : wpAny (model prog w) A (call (.ref g) [.ref x, .int i t]) (PySem.W.CmpBack P) R s) : wpAny (model prog w) A (binaryOp op (.int i t) (.ref x)) P R s := by
  obtain ⟨cd, rest, hcd, hm⟩ := PySem.W.ksp_first c.sf
  obtain ⟨fl, hfl⟩ := c.fl
  obtain ⟨id, Bi, sl, en, ar, dc⟩ := d.ex
  have cat := c.at_
  rcases hi : op.info with ⟨sym, nm⟩
  rw [hi] at hf sl hfl cat
  dsimp only at hf sl hfl cat
  have l1 : s.TypeIs (.int i t) "int" := typeIs_int _ _ _
  have l2 : PySem.W.Looks (model prog w) s.heap (typeOf (.ref x)) (.ref C) := J.type
  have l3 : PySem.W.Looks (model prog w) s.heap (fillsNumberSlot (.ref C) nm) true := PySem.W.fills_K KX hcd hm hfl
  have l4 : PySem.W.Looks (model prog w) s.heap (isSubtype (.ref C) (.type "int")) false := PySem.W.looks_subIn KX c.sub
  have ne : (Value.type "int" == Value.ref C) = false := Bool.eq_false_iff.mpr fun q => by cases beq_iff_eq.mp q
  have dcl : wpAny (model prog w) A (call (.builtin id) [.int i t, .ref x]) (fun v s' => v = .notImplemented ∧ s' = s) R s := call_meets sl l1 en (ar _ _) (dc i t x ox) ⟨J.at_, hd, rfl, rfl⟩
  have oth : wpAny (model prog w) A (tryMethod (.ref x) (dunderR nm) (.int i t)) (fun r s' => ∃ v, r = some v ∧ P v s') R s := PySem.W.ksp_try KX J cat c.fn h
  have py : numberSlotInPython (.type "int") nm = pure false := rfl
  simp only [binaryOp, hi]
  refine wpAny_holding (wpAny_bind ?_)
  unfold binaryOp1
  refine wpAny_bind (wpAny_typeOf l1 (wpAny_bind (l2.here (wpAny_bind (wpAny_of_eq hf ?_)))))
  simp only [ne, Bool.false_eq_true, if_false]
  refine wpAny_bind (l3.here ?_)
  simp only [Bool.and_self, if_true]
  refine wpAny_bind (l4.here ?_)
  simp only [Bool.false_eq_true, if_false, pure_bind, Bool.not_false, Bool.and_self, if_true, py]
  refine wpAny_bind (m := tryMethod (.int i t) _ (.ref x)) (wpAny_tryMethod_declines l1 sl (wpAny_mono dcl (fun v s1 z => ⟨z.1, ?_⟩) fun _ _ z => z))
  obtain ⟨_, rfl⟩ := z
  refine wpAny_bind (wpAny_mono oth (fun r s2 z => ?_) fun _ _ z => z)
  obtain ⟨v, rfl, q⟩ := z
  exact wpAny_bind (wpAny_rule (wpAny_pure (wpAny_pure q)))
theorem bin_it (B : Body X k fun _ => E) (c : BinRef X.K C g op) (hf : fillsNumberSlot (.type "int") op.info.2 = pure true) (d : IntDecl (dunder op.info.2)) (F : FnR X.prog X.w X.K X.mg X.base (RX X.prog X.w) j g sp) (hj : j ≤ k) (ea : H a = some (.ins C dx fs))
    (h : sp [.ref a, .int i] H Q E) : Op2 X (binaryOp op) (.int i) (.ref a) H Q := by
  intro pins s σ u v I ru rv
  cases rv
  obtain ⟨t, rfl⟩ := ru
  obtain ⟨od, J⟩ := inst_of I ea
  exact int_left I.kIn J rfl c hf d (back (run_own (vs := [.ref a, .int i]) B F hj I (.cons rfl (.cons ⟨t, rfl⟩ .nil)) h))
end
end Rs

namespace Rs
open PySem PySem.Spec PyProof.Rows L2

section
variable {X : Cx} {k j : Nat} {E : XK} {sp : Sp} {C f g a b dx dy : Addr} {fs gs : List (Str × V)} {H : Hp} {Q : VK} {op : Operator} {cop : CmpOp} {i : Int}

/-! ### comparisons of an own class -/
def Rich (op : CmpOp) : Prop := ∀ a b, compareOp op a b = richCompare op a b
theorem rich_eq : Rich .Eq := fun _ _ => rfl
theorem rich_ne : Rich .NotEq := fun _ _ => rfl
theorem rich_lt : Rich .Lt := fun _ _ => rfl
theorem rich_le : Rich .LtE := fun _ _ => rfl
theorem rich_gt : Rich .Gt := fun _ _ => rfl
theorem rich_ge : Rich .GtE := fun _ _ => rfl
theorem cmp_tt (B : Body X k fun _ => E) (r : Rich cop) (c : CmpOwn X.K C f cop) (F : FnR X.prog X.w X.K X.mg X.base (RX X.prog X.w) j f sp) (hj : j ≤ k) (ea : H a = some (.ins C dx fs)) (eb : H b = some (.ins C dy gs)) (h : sp [.ref a, .ref b] H Q E) :
    Op2 X (compareOp cop) (.ref a) (.ref b) H Q := by
  intro pins s σ u v I ru rv
  cases ru
  cases rv
  obtain ⟨od, J⟩ := inst_of I ea
  obtain ⟨od', J'⟩ := inst_of I eb
  obtain ⟨m, hF⟩ := I.fr
  rw [r]
  exact PySem.W.cmp_K (op := cop) (tb := .ref C) B.room.units0 hF I.ok.mod.kin J J'.type (by unfold PySem.W.notFirst; simp) c.at_ c.fn (back (run_own (vs := [.ref a, .ref b]) B F hj I (.cons rfl (.cons rfl .nil)) h))
theorem cmp_ti (B : Body X k fun _ => E) (r : Rich cop) (c : CmpOwn X.K C f cop) (F : FnR X.prog X.w X.K X.mg X.base (RX X.prog X.w) j f sp) (hj : j ≤ k) (ea : H a = some (.ins C dx fs)) (h : sp [.ref a, .int i] H Q E) : Op2 X (compareOp cop) (.ref a) (.int i) H Q := by
  intro pins s σ u v I ru rv
  cases ru
  obtain ⟨t, rfl⟩ := rv
  obtain ⟨od, J⟩ := inst_of I ea
  obtain ⟨m, hF⟩ := I.fr
  rw [r]
  exact PySem.W.cmp_K (op := cop) (tb := .type "int") B.room.units0 hF I.ok.mod.kin J (PySem.W.Looks.of_pure rfl) c.nfi c.at_ c.fn (back (run_own (vs := [.ref a, .int i]) B F hj I (.cons rfl (.cons ⟨t, rfl⟩ .nil)) h))
theorem int_cmp {prog : Program} {w : World} {A : Around} {R : Value → Shared → Prop} {P : Value → Shared → Prop} {s : Shared} {K : PySem.W.Frag} {x : Addr} {ox : Obj} {od : Option Obj} {t : Tok} (hu : A.units < cLine) (KX : K.In s.heap) (J : PySem.W.InstAt s.heap x ox C od)
    (hd : ox.data = .plain) (c : CmpRef K C g cop) (d : IntDecl (cmpInfo cop).2.1) (h : wpAny (model prog w) A (call (.ref g) [.ref x, .int i t]) (PySem.W.CmpBack P) R s) : wpAny (model prog w) A (richCompare cop (.int i t) (.ref x)) P R s := by
  obtain ⟨id, Bi, sl, en, ar, dc⟩ := d.ex
  have cat := c.at_
  rcases hi : cmpInfo cop with ⟨sym, n1, n2⟩
  rw [hi] at sl cat
  dsimp only at sl cat
  have l1 : s.TypeIs (.int i t) "int" := typeIs_int _ _ _
  have l2 : PySem.W.Looks (model prog w) s.heap (typeOf (.ref x)) (.ref C) := J.type
  have l4 : PySem.W.Looks (model prog w) s.heap (isSubtype (.ref C) (.type "int")) false := PySem.W.looks_subIn KX c.sub
  have ne : (Value.type "int" != Value.ref C) = true := by simp
  have dcl : wpAny (model prog w) A (call (.builtin id) [.int i t, .ref x]) (fun v s' => v = .notImplemented ∧ s' = s) R s := call_meets sl l1 en (ar _ _) (dc i t x ox) ⟨J.at_, hd, rfl, rfl⟩
  have oth : wpAny (model prog w) A (tryCompare (.ref x) n2 (.int i t)) (fun r s' => ∃ v, r = some v ∧ P v s') R s := by
    unfold tryCompare
    refine wpAny_bind (PySem.W.ifBound_K KX J cat c.fn (wpAny_mono h (fun v s' hv => ?_) fun _ _ z => z))
    cases v <;> first | exact hv.elim | exact wpAny_pure ⟨_, rfl, hv⟩
  simp only [richCompare, hi, l1.oneThing_none]
  refine wpAny_holding (wpAny_bind (wpAny_cRoomFor hu ?_))
  refine wpAny_bind (wpAny_typeOf l1 (wpAny_bind (l2.here ?_)))
  simp only [ne, if_true]
  refine wpAny_bind (l4.here ?_)
  simp only [Bool.false_eq_true, if_false, Bool.not_false, if_true]
  refine wpAny_bind (m := tryCompare (.int i t) _ (.ref x)) (wpAny_tryCompare_declines l1 sl (wpAny_mono dcl (fun v s1 z => ⟨z.1, ?_⟩) fun _ _ z => z))
  obtain ⟨_, rfl⟩ := z
  refine wpAny_bind (m := tryCompare (.ref x) _ (.int i t)) (wpAny_mono oth (fun r s2 z => ?_) fun _ _ z => z)
  obtain ⟨v, rfl, q⟩ := z
  exact wpAny_pure q
theorem cmp_it (B : Body X k fun _ => E) (r : Rich cop) (c : CmpRef X.K C g cop) (d : IntDecl (cmpInfo cop).2.1) (F : FnR X.prog X.w X.K X.mg X.base (RX X.prog X.w) j g sp) (hj : j ≤ k) (ea : H a = some (.ins C dx fs))
    (h : sp [.ref a, .int i] H Q E) : Op2 X (compareOp cop) (.int i) (.ref a) H Q := by
  intro pins s σ u v I ru rv
  cases rv
  obtain ⟨t, rfl⟩ := ru
  obtain ⟨od, J⟩ := inst_of I ea
  rw [r]
  exact int_cmp B.room.units0 I.kIn J rfl c d (back (run_own (vs := [.ref a, .int i]) B F hj I (.cons rfl (.cons ⟨t, rfl⟩ .nil)) h))

/-! ### op= of an own class without an in-place form -/
structure NoInpl (K : PySem.W.Frag) (C : Addr) (op : Operator) : Prop where
  mro : ∃ cd, PySem.W.clsIn K C = some cd ∧ cd.mro = [.ref C, .type "object"]
  h1 : PySem.W.findIn K (.ref C) (dunderI op.info.2) = some none
  h2 : PySem.W.findIn K (.type "object") (dunderI op.info.2) = some none
theorem noFill {M : Model} {h : Heap} {K : PySem.W.Frag} (KX : K.In h) (n : NoInpl K C op) (add : Bool) : PySem.W.Looks M h (fillsInplaceSlot (.ref C) op.info.2 add) false := by
  obtain ⟨cd, hcd, hm⟩ := n.mro
  intro A Q E s kp q
  have l1 := PySem.W.looks_findIn (M := M) KX n.h1
  have l2 := PySem.W.looks_findIn (M := M) KX n.h2
  have lm : PySem.W.Looks M h (mroOf (.ref C)) cd.mro := (PySem.W.looks_clsIn KX hcd).andThen (f := fun cd => pure cd.mro) .now
  unfold fillsInplaceSlot
  refine wpAny_bind (lm A _ E s kp ?_)
  rw [hm, List.anyM_cons]
  refine wpAny_bind (wpAny_bind (l1 A _ E s kp (wpAny_pure ?_)))
  rw [if_neg Bool.false_ne_true, List.anyM_cons]
  refine wpAny_bind (wpAny_bind (l2 A _ E s kp (wpAny_pure ?_)))
  rw [if_neg Bool.false_ne_true, List.anyM_nil]
  exact wpAny_pure q
theorem one_tt {prog : Program} {w : World} {A : Around} {R : Value → Shared → Prop} {P : Value → Shared → Prop} {s : Shared} {K : PySem.W.Frag} {x : Addr} {y : Value} {ox : Obj} {od : Option Obj} (KX : K.In s.heap) (J : PySem.W.InstAt s.heap x ox C od)
    (hy : PySem.W.Looks (model prog w) s.heap (typeOf y) (.ref C)) (c : BinOwn K C f op) (h : wpAny (model prog w) A (call (.ref f) [.ref x, y]) (PySem.W.CmpBack P) R s) :
    wpAny (model prog w) A (binaryOp1 op.info.2 (.ref x) y) (fun r s' => ∃ v, r = some v ∧ P v s') R s := by
  obtain ⟨cd, rest, hcd, hm⟩ := PySem.W.ksp_first c.sf
  have l3 : PySem.W.Looks (model prog w) s.heap (fillsNumberSlot (.ref C) op.info.2) true := PySem.W.fills_K KX hcd hm c.at_
  unfold binaryOp1
  refine wpAny_bind (J.type.here (wpAny_bind (hy.here (wpAny_bind (l3.here ?_)))))
  simp only [beq_self_eq_true, if_true]
  refine wpAny_bind (wpAny_pure ?_)
  simp only [Bool.and_false, Bool.false_eq_true, if_false, Bool.false_and]
  refine wpAny_bind (wpAny_pure ?_)
  simp only [Bool.false_eq_true, if_false]
  refine wpAny_bind (m := tryMethod (.ref x) _ y) (wpAny_mono (PySem.W.ksp_try KX J c.at_ c.fn h) (fun r s' z => ?_) fun _ _ z => z)
  obtain ⟨v, rfl, q⟩ := z
  exact wpAny_pure ⟨v, rfl, q⟩
theorem inp_tt (B : Body X k fun _ => E) (n : NoInpl X.K C op) (c : BinOwn X.K C f op) (F : FnR X.prog X.w X.K X.mg X.base (RX X.prog X.w) j f sp) (hj : j ≤ k) (ea : H a = some (.ins C dx fs)) (eb : H b = some (.ins C dy gs)) (h : sp [.ref a, .ref b] H Q E) :
    Op2 X (inplaceOp op) (.ref a) (.ref b) H Q := by
  intro pins s σ u v I ru rv
  cases ru
  cases rv
  obtain ⟨od, J⟩ := inst_of I ea
  obtain ⟨od', J'⟩ := inst_of I eb
  have one := one_tt I.kIn J J'.type c (back (run_own (vs := [.ref a, .ref b]) B F hj I (.cons rfl (.cons rfl .nil)) h))
  unfold inplaceOp
  refine wpAny_holding (wpAny_bind (J.type.here (wpAny_bind ((noFill I.kIn n _).here ?_))))
  simp only [Bool.false_eq_true, if_false]
  refine wpAny_bind (wpAny_mono one (fun r s' z => ?_) fun _ _ z => z)
  obtain ⟨w', rfl, q⟩ := z
  exact wpAny_pure q
theorem inp_int {f : Value → Value → Sem Value} {y z : Int} (o : OpR X (inplaceOp op) (rI0 fun i j => .int z)) (q : Q (.int z) H) : Op2 X (inplaceOp op) (.int i) (.int y) H Q := op2_of o ⟨i, y, rfl, rfl, q⟩
theorem ws_aug {D : Ends} {σ : L2.St} {i : Nat} {x : Str} {e : Expr} {pos pos' : Pos} {v : V} (n : Sl X i x) (h0 : σ[i]? = some (some v)) (h : WE X e σ H fun y H1 => Op2 X (inplaceOp op) v y H1 fun z H2 => D.nx (σ.set i (some z)) H2) :
    WS X (.AugAssign (.Name x pos') op e pos) D σ H :=
  wsP (ps_aug (ti := fun x y H Q => Op2 X (inplaceOp op) x y H Q) n.nd n.at_ n.loc peS (fun pins s σ H x y v u Q I rx ry q => q pins s σ v u I rx ry) n.fn) ⟨v, h0, h⟩

/-! ### -x of an own class -/
structure NegOwn (K : PySem.W.Frag) (C f : Addr) : Prop where
  at_ : PySem.W.findIn K (.ref C) "__neg__" = some (some (.ref f))
  fn : PySem.W.isFn K (.ref f) = true
theorem neg_t (B : Body X k fun _ => E) (c : NegOwn X.K C f) (F : FnR X.prog X.w X.K X.mg X.base (RX X.prog X.w) j f sp) (hj : j ≤ k) (ea : H a = some (.ins C dx fs)) (h : sp [.ref a] H Q E) : Op1 X (unaryOp .USub) (.ref a) H Q := by
  intro pins s σ u I ru
  cases ru
  obtain ⟨od, J⟩ := inst_of I ea
  obtain ⟨m, hF⟩ := I.fr
  exact PySem.W.ksp_neg hF I.ok.mod.kin J c.at_ c.fn (run_own (vs := [.ref a]) B F hj I (.cons rfl .nil) h)
end
end Rs

namespace Rs
open PySem PySem.Spec PyProof.Rows L2

section
variable {X : Cx} {σ : L2.St} {H : Hp} {D : Ends} {Q Q' : VK} {QT : Bool → Hp → Prop} {QA QA' : List V → Hp → Prop} {k j : Nat} {E : L2.St → XK} {x m : Str} {sp : Sp} {p pos apos : Pos} {e o a b c : Expr} {es : List Expr} {C : Addr}

theorem we_mono (h : WE X e σ H Q) (z : ∀ v H', Q v H' → Q' v H') : WE X e σ H Q' := fun pins s I => thn (h pins s I) fun u s' y => by
  obtain ⟨v, H', I', r, q⟩ := y
  exact ⟨v, H', I', r, z v H' q⟩
theorem wa_mono (h : WA X es σ H QA) (z : ∀ v H', QA v H' → QA' v H') : WA X es σ H QA' := fun pos pins s I => thn (h pos pins s I) fun u s' y => by
  obtain ⟨v, H', I', r, q⟩ := y
  exact ⟨v, H', I', r, z v H' q⟩

/-! ### built-ins by their names -/
theorem we_callB {id : String} {r : List V → Hp → VK → Prop} (hc : CallR X (.builtin id) r) (bn : Bn X x) (hv : bootBuiltins x = some (.builtin id)) (h : WA X (e :: es) σ H fun xs H1 => r xs H1 Q)
    (hn : x ≠ "__name__" := by decide) (hd : (x == ("__debug__" : Str)) = false := by decide) (he : starEach (e :: es) X.env = (false, eval e X.env) :: starEach es X.env := by rfl) (hl : (backTo pos (starEach es X.env)).any (·.1) = false := by rfl) :
    WE X (.Call (.Name x p) (e :: es) [] pos) σ H Q := weP (pe_callB hc bn.gl bn.no hv paS hn hd he hl) h
theorem we_callT {T : String} {r : List V → Hp → VK → Prop} (hc : CallR X (.type T) r) (bn : Bn X x) (hv : bootBuiltins x = some (.type T)) (h : WA X (e :: es) σ H fun xs H1 => r xs H1 Q)
    (hn : x ≠ "__name__" := by decide) (hd : (x == ("__debug__" : Str)) = false := by decide) (he : starEach (e :: es) X.env = (false, eval e X.env) :: starEach es X.env := by rfl) (hl : (backTo pos (starEach es X.env)).any (·.1) = false := by rfl) :
    WE X (.Call (.Name x p) (e :: es) [] pos) σ H Q := weP (pe_callTy hc bn.gl bn.no hv paS hn hd he hl) h
theorem we_ty {T : String} (bn : Bn X x) (hv : bootBuiltins x = some (.type T)) (q : Q (.ty T) H) (hn : x ≠ "__name__" := by decide) (hd : (x == ("__debug__" : Str)) = false := by decide) : WE X (.Name x pos) σ H Q := weP (pe_bltn (v := .ty T) bn.gl bn.no hv rfl hn hd) q
theorem wa_one (h : WE X e σ H fun v H1 => QA [v] H1) (hs : starEach [e] X.env = [(false, eval e X.env)] := by rfl) : WA X [e] σ H QA := wa_cons (we_mono h fun v H1 q => wa_nil q) hs
theorem wa_two (h : WE X a σ H fun v H1 => WE X b σ H1 fun w H2 => QA [v, w] H2) (hs : starEach [a, b] X.env = (false, eval a X.env) :: starEach [b] X.env := by rfl) (ht : starEach [b] X.env = [(false, eval b X.env)] := by rfl) : WA X [a, b] σ H QA :=
  wa_cons (we_mono h fun _ _ q => wa_one q ht) hs
theorem wa_three (h : WE X a σ H fun v H1 => WE X b σ H1 fun w H2 => WE X c σ H2 fun u H3 => QA [v, w, u] H3) (hs : starEach [a, b, c] X.env = (false, eval a X.env) :: starEach [b, c] X.env := by rfl) (ht : starEach [b, c] X.env = (false, eval b X.env) :: starEach [c] X.env := by rfl)
    (hu : starEach [c] X.env = [(false, eval c X.env)] := by rfl) : WA X [a, b, c] σ H QA := wa_cons (we_mono h fun _ _ q => wa_two q ht hu) hs
/-- what isinstance answers -/
def Isi (K : PySem.W.Frag) (x y : V) (H : Hp) (r : Bool) : Prop := ∃ t u, ClsV y u ∧ TyX K H x t ∧ PySem.W.kitOne K t u = some r
theorem we_isi (bn : Bn X "isinstance") (h : WE X a σ H fun v H1 => WE X b σ H1 fun w H2 => ∃ r, Isi X.K v w H2 r ∧ Q (.bl r) H2)
    (hs : starEach [a, b] X.env = (false, eval a X.env) :: starEach [b] X.env := by rfl) (ht : starEach [b] X.env = [(false, eval b X.env)] := by rfl) (hl : (backTo pos (starEach [b] X.env)).any (·.1) = false := by rfl) :
    WE X (.Call (.Name "isinstance" p) [a, b] [] pos) σ H Q :=
  we_callB call_isi bn boot_isinstance (wa_two (we_mono h fun v H1 q => we_mono q fun w H2 q => by
    obtain ⟨r, ⟨t, u, h1, h2, h3⟩, q⟩ := q
    exact ⟨v, w, t, u, r, rfl, h1, h2, h3, q⟩) hs ht) (by decide) (by decide) hs hl
theorem we_abs (bn : Bn X "abs") (h : WE X a σ H fun v H1 => ∃ i, v = .int i ∧ Q (.int (if i < 0 then -i else i)) H1) (hs : starEach [a] X.env = [(false, eval a X.env)] := by rfl) (hl : (backTo pos (starEach [] X.env)).any (·.1) = false := by rfl) :
    WE X (.Call (.Name "abs" p) [a] [] pos) σ H Q := we_callB call_abs bn boot_abs (wa_one (we_mono h fun v H1 q => by
    obtain ⟨i, rfl, q⟩ := q
    exact ⟨i, rfl, q⟩) hs) (by decide) (by decide) hs hl

/-! ### tuples and lists -/
theorem we_tup {k : Nat} (h : WA X es σ H fun vs H1 => vs.length ≤ sizeLine ∧ ∀ p H2, H1 p = none → Ex H1 H2 → H2 = upd H1 p (.tup vs) → Q (.ref p) H2) : WE X (.Tuple es k pos) σ H Q := weP (pe_tup paS) (wa_mono h fun vs H1 q => ⟨q.1, fun p hp => q.2 p _ hp (Ex.new hp) rfl⟩)
theorem we_lst (h : WA X es σ H fun vs H1 => vs.length ≤ sizeLine ∧ ∀ p H2, H1 p = none → Ex H1 H2 → H2 = upd H1 p (.lst vs) → Q (.ref p) H2) : WE X (.List es pos) σ H Q := weP (pe_lst paS) (wa_mono h fun vs H1 q => ⟨q.1, fun p hp => q.2 p _ hp (Ex.new hp) rfl⟩)
/-! ### fields, items -/
theorem we_fld {f : Str} {C : Addr} (c : Cls X.K C) (n : NoAttr X.K C f) (h : WE X e σ H fun y H1 => ∃ a dx fs v, y = .ref a ∧ H1 a = some (.ins C dx fs) ∧ fs.lookup f = some v ∧ Q v H1) (hb : attributeBase e f X.env (eval e X.env) = eval e X.env := by rfl) :
    WE X (.Attribute e f pos) σ H Q := weP (pe_fld peS hb) (we_mono h fun y H1 q => by
  obtain ⟨a, dx, fs, v, rfl, h1, h2, q⟩ := q
  exact ⟨a, C, dx, fs, v, rfl, h1, c, n, h2, q⟩)
theorem ws_fld {f : Str} {C : Addr} {value : Expr} {pos' : Pos} (c : Cls X.K C) (n : NoAttr X.K C f) (h : WE X value σ H fun y H1 => WE X o σ H1 fun z H2 => ∃ a dx fs, z = .ref a ∧ H2 a = some (.ins C dx fs) ∧ fs.length < 1000 ∧ D.nx σ (upd H2 a (.ins C dx (putF f y fs))))
    (hs : swapsWith value (some (.Attribute o f pos')) pos.line X.env = pure false := by rfl) : WS X (.Assign [.Attribute o f pos'] value pos) D σ H := wsP (ps_fld peS peS hs) (we_mono h fun y H1 q => we_mono q fun z H2 q => by
  obtain ⟨a, dx, fs, rfl, h1, h2, q⟩ := q
  exact ⟨a, C, dx, fs, rfl, h1, c, n, h2, q⟩)
theorem we_ix {r : R2} (hr : IxR X r) (h : WE X a σ H fun v H1 => WE X b σ H1 fun w H2 => r v w H2 Q) (hb : PlainIx b := by intro _ _; rfl) : WE X (.Subscript a b pos) σ H Q := weP (pe_ix hr peS peS hb) h
theorem pass0N {X : Cx} : Passes (RX X.prog X.w) X.nox E0 := fun _ _ _ _ _ _ _ c => by
  obtain ⟨_, _, _, _, _, _, _, _, _, _, _, _, z⟩ := c
  exact z.elim
/-- o.f, a property whose getter raises nothing -/
theorem we_prop {f : Str} {C pp g : Addr} {fd : FuncData} {ps : List Str} {ds : List Value} {dvs : List V} (B : Body X k E) (c : Cls X.K C) (hp : PropOf X.K C f pp g) (F : FnOk X.prog X.w X.K X.mg X.base (RX X.prog X.w) j g fd ps sp) (hj : j + 1 ≤ k)
    (hb : Binds X.K fd ps ds) (hd : Vals dvs ds) (h : WE X e σ H fun y H1 => ∃ a dx fs, y = .ref a ∧ H1 a = some (.ins C dx fs) ∧ sp (.ref a :: dvs) H1 Q E0) (he : attributeBase e f X.env (eval e X.env) = eval e X.env := by rfl) : WE X (.Attribute e f pos) σ H Q :=
  weP (pe_prop peS c hp F (B.room.mono hj) hb hd pass0N he) h
/-- a, b = x, y -/
theorem ws_par {i i' : Nat} {x y : Str} {px py pt : Pos} {kt k2 : Nat} {pt2 : Pos} (B : Body X k E) (n : Sl X i x) (n' : Sl X i' y) (hk : X.env.blockKind = .function) (hx : X.env.kindOf x = some .local) (hy : X.env.kindOf y = some .local)
    (h : WE X a σ H fun v H1 => WE X b σ H1 fun w H2 => D.nx ((σ.set i (some v)).set i' (some w)) H2) (hii : i ≠ i' := by decide) (hne : (y == x) = false := by decide) (hl : (py.line == px.line) = true := by rfl)
    (h1 : ([a, b].any fun | .Starred .. => true | _ => false) = false := by rfl) (h2 : [a, b].all (foldedForSure 8) = false := by rfl) (h3 : [a, b].all (constantsAlone 8) = false := by rfl)
    (hs : starEach [a, b] X.env = (false, eval a X.env) :: starEach [b] X.env := by rfl) (ht : starEach [b] X.env = [(false, eval b X.env)] := by rfl) : WS X (.Assign [.Tuple [.Name x px, .Name y py] kt pt] (.Tuple [a, b] k2 pt2) pos) D σ H := by
  have hw : swappedStores [.Tuple [.Name x px, .Name y py] kt pt] (.Tuple [a, b] k2 pt2) X.env = pure (some [x, y]) := by
    have e1 : ([x, y] : List Str).eraseDups.length = 2 := by
      have : ¬ (y == x) = true := by rw [hne]; exact Bool.false_ne_true
      simp [List.eraseDups_cons, hne]
    unfold swappedStores
    simp only [hk, hx, hy, hl, h2, h3, List.length_cons, List.length_nil, List.head?_cons, Option.map_some, Option.getD_some, List.filterMap_cons, List.filterMap_nil, Expr.pos, beq_self_eq_true, Bool.and_self, Bool.and_true, if_true, e1]
    rw [if_neg (by decide)]
    refine (if_neg (fun q => Bool.false_ne_true (h1.symm.trans q))).trans ?_
    rw [if_neg (by decide), if_neg Bool.false_ne_true, if_neg Bool.false_ne_true]
  exact wsP (ps_par B.calm n.nd n.at_ n'.at_ hii hx hy paS hw) (wa_two (we_mono h fun v H1 q => we_mono q fun w H2 q => ⟨v, w, rfl, q⟩) hs ht)
end
end Rs

namespace Rs
open PySem PySem.Spec PyProof.Rows L2

section
variable {X : Cx} {σ : L2.St} {H : Hp} {D : Ends} {Q Q' : VK} {QT QT' : Bool → Hp → Prop} {QA QA' : List V → Hp → Prop} {k j : Nat} {E : L2.St → XK} {x m : Str} {sp : Sp} {p pos apos : Pos} {e o a b c : Expr} {es : List Expr} {C : Addr}

theorem wt_mono (h : WT X e σ H QT) (z : ∀ v H', QT v H' → QT' v H') : WT X e σ H QT' := fun pins s I => thn (h pins s I) fun u s' y => by
  obtain ⟨H', I', q⟩ := y
  exact ⟨H', I', z u H' q⟩
theorem op2_mono {f : Value → Value → Sem Value} {v w : V} (h : Op2 X f v w H Q) (z : ∀ v H', Q v H' → Q' v H') : Op2 X f v w H Q' := fun pins s σ u v I r1 r2 => thn (h pins s σ u v I r1 r2) fun u s' y => by
  obtain ⟨v, H', I', r, q⟩ := y
  exact ⟨v, H', I', r, z v H' q⟩
/-! ### whiles and fors -/
theorem ws_while_by {body : List Stmt} (P : L2.St → Hp → Prop) (μ : L2.St → Hp → Nat) (B : Body X k E) (h0 : P σ H)
    (hs : ∀ σ H, P σ H → WT X c σ H fun r H1 => if r = true then WB X body { D with nx := fun σ' H' => P σ' H' ∧ μ σ' H' < μ σ H, ct := fun σ' H' => P σ' H' ∧ μ σ' H' < μ σ H, bk := D.nx } σ H1 else D.nx σ H1) : WS X (.While c body [] pos) D σ H :=
  ws_while B.po (while_by P μ h0 hs fun _ _ _ _ z h => wt_mono h z)
theorem ws_for_range {i : Nat} {x : Str} {body : List Stmt} {pr pc px : Pos} {n : Int} (B : Body X k E) (s : Sl X i x) (bn : Bn X "range") (P : Nat → L2.St → Hp → Prop)
    (h : WE X a σ H fun v H1 => v = .int n ∧ P 0 σ H1)
    (ht : ∀ j σ H, j < n.toNat → P j σ H → WB X body { D with nx := P (j + 1), ct := P (j + 1), bk := D.nx } (σ.set i (some (.int j))) H) (hd : ∀ σ H, P n.toNat σ H → D.nx σ H) (lo : -1000000000 ≤ n := by decide) (hi : n ≤ 1000000000 := by decide)
    (hs : starEach [a] X.env = [(false, eval a X.env)] := by rfl) : WS X (.For (.Name x px) (.Call (.Name "range" pr) [a] [] pc) body [] pos) D σ H := by
  refine wsP (ps_for B.po B.calm (pi_range1 bn.gl bn.no paS hs) (pg_name s.nd s.at_ s.loc s.fn) pbS) ?_
  refine wa_one (we_mono h fun v H1 q => ?_) hs
  obtain ⟨rfl, q⟩ := q
  refine ⟨n, rfl, by omega, by omega, for_range (lo := 0) P q (fun j σ H hj p => ?_) hd⟩
  have z := ht j σ H hj p
  show WB X body _ (σ.set i (some (.int (0 + (j : Int))))) H
  rw [Int.zero_add]
  exact z
/-- for x in a list that stands still -/
theorem ws_for_list {i : Nat} {x : Str} {body : List Stmt} {px : Pos} {xs : List V} (B : Body X k E) (s : Sl X i x) (P : Nat → L2.St → Hp → Prop)
    (h : WE X a σ H fun v H1 => ∃ l, v = .ref l ∧ P 0 σ H1 ∧ (∀ j σ H, j ≤ xs.length → P j σ H → SqL X.K H l xs))
    (ht : ∀ j v σ H, xs[j]? = some v → P j σ H → WB X body { D with nx := P (j + 1), ct := P (j + 1), bk := D.nx } (σ.set i (some v)) H) (hd : ∀ σ H, P xs.length σ H → D.nx σ H) (hs : ∀ v, foldedSetIterable a X.env v = pure v := by intro _; rfl) : WS X (.For (.Name x px) a body [] pos) D σ H := by
  refine wsP (ps_for B.po B.calm (pi_list peS) (pg_name s.nd s.at_ s.loc s.fn) pbS hs) ?_
  refine we_mono h fun v H1 q => ?_
  obtain ⟨l, rfl, q0, hl⟩ := q
  exact ⟨l, rfl, ⟨xs, hl 0 σ H1 (Nat.zero_le _) q0⟩, for_list P q0 hl ht hd⟩
theorem ws_for_tup {i : Nat} {x : Str} {body : List Stmt} {px : Pos} {xs : List V} (B : Body X k E) (s : Sl X i x) (P : Nat → L2.St → Hp → Prop)
    (h : WE X a σ H fun v H1 => ∃ l, v = .ref l ∧ P 0 σ H1 ∧ (∀ j σ H, j ≤ xs.length → P j σ H → SqT X.K H l xs))
    (ht : ∀ j v σ H, xs[j]? = some v → P j σ H → WB X body { D with nx := P (j + 1), ct := P (j + 1), bk := D.nx } (σ.set i (some v)) H) (hd : ∀ σ H, P xs.length σ H → D.nx σ H) (hs : ∀ v, foldedSetIterable a X.env v = pure v := by intro _; rfl) : WS X (.For (.Name x px) a body [] pos) D σ H := by
  refine wsP (ps_for B.po B.calm (pi_tup peS) (pg_name s.nd s.at_ s.loc s.fn) pbS hs) ?_
  refine we_mono h fun v H1 q => ?_
  obtain ⟨l, rfl, q0, hl⟩ := q
  exact ⟨l, rfl, ⟨xs, hl 0 σ H1 (Nat.zero_le _) q0⟩, for_tup P q0 hl ht hd⟩

/-! ### ints -/
variable {i l : Int}
theorem o_add (q : Q (.int (i + l)) H) : Op2 X (binaryOp .Add) (.int i) (.int l) H Q := op2_of op_add ⟨i, l, rfl, rfl, q⟩
theorem o_sub (q : Q (.int (i - l)) H) : Op2 X (binaryOp .Sub) (.int i) (.int l) H Q := op2_of op_sub ⟨i, l, rfl, rfl, q⟩
theorem o_mul (hc : CMulW i l) (q : Q (.int (i * l)) H) : Op2 X (binaryOp .Mult) (.int i) (.int l) H Q := op2_of op_mulW ⟨i, l, rfl, rfl, hc, q⟩
theorem o_mod (hc : 0 < l) (q : Q (.int (i % l)) H) : Op2 X (binaryOp .Mod) (.int i) (.int l) H Q := op2_of op_mod ⟨i, l, rfl, rfl, hc, q⟩
/-- // by any divisor of less than 9000 bits -/
theorem o_fdiv (hc : l ≠ 0) (hz : l.natAbs.log2 < 9000) (q : Q (.int (i.fdiv l)) H) : Op2 X (binaryOp .FloorDiv) (.int i) (.int l) H Q := by
  intro pins s σ u v I ru rv
  obtain ⟨t, rfl⟩ := ru
  obtain ⟨t', rfl⟩ := rv
  exact floordiv_int hc ⟨.int (i.fdiv l), H, I.tok _, ⟨_, rfl⟩, q⟩ (.inl (PyProof.noPylong_of_log2 hz))
theorem log2_small {n m : Nat} (h : n < 2 ^ m) (hm : 0 < m) (h9 : m ≤ 9000) : n.log2 < 9000 := Nat.lt_of_lt_of_le (PySem.Flt.log2_lt_of hm h) h9
theorem o_pow (hc : CPow i l) (q : Q (.int (i ^ l.toNat)) H) : Op2 X (binaryOp .Pow) (.int i) (.int l) H Q := op2_of op_pow ⟨i, l, rfl, rfl, hc, q⟩
theorem o_lt (q : Q (.bl (decide (i < l))) H) : Op2 X (compareOp .Lt) (.int i) (.int l) H Q := op2_of op_lt ⟨i, l, rfl, rfl, q⟩
theorem o_le (q : Q (.bl (decide (i ≤ l))) H) : Op2 X (compareOp .LtE) (.int i) (.int l) H Q := op2_of op_le ⟨i, l, rfl, rfl, q⟩
theorem o_gt (q : Q (.bl (decide (l < i))) H) : Op2 X (compareOp .Gt) (.int i) (.int l) H Q := op2_of op_gt ⟨i, l, rfl, rfl, q⟩
theorem o_ge (q : Q (.bl (decide (l ≤ i))) H) : Op2 X (compareOp .GtE) (.int i) (.int l) H Q := op2_of op_ge ⟨i, l, rfl, rfl, q⟩
theorem o_eq (q : Q (.bl (decide (i = l))) H) : Op2 X (compareOp .Eq) (.int i) (.int l) H Q := op2_of op_eq ⟨rfl, by rw [show decide (V.int i = V.int l) = decide (i = l) from by simp]; exact q⟩
theorem o_ne (q : Q (.bl (!decide (i = l))) H) : Op2 X (compareOp .NotEq) (.int i) (.int l) H Q := op2_of op_ne ⟨rfl, by rw [show decide (V.int i = V.int l) = decide (i = l) from by simp]; exact q⟩
theorem o_eqB {r t : Bool} (q : Q (.bl (r == t)) H) : Op2 X (compareOp .Eq) (.bl r) (.bl t) H Q := op2_of op_eq ⟨rfl, by rw [show decide (V.bl r = V.bl t) = (r == t) from by cases r <;> cases t <;> rfl]; exact q⟩
theorem o_neB {r t : Bool} (q : Q (.bl (r != t)) H) : Op2 X (compareOp .NotEq) (.bl r) (.bl t) H Q := op2_of op_ne ⟨rfl, by rw [show (!decide (V.bl r = V.bl t)) = (r != t) from by cases r <;> cases t <;> rfl]; exact q⟩
theorem o_eqS {r t : Str} (q : Q (.bl (decide (r = t))) H) : Op2 X (compareOp .Eq) (.str r) (.str t) H Q := op2_of op_eq ⟨rfl, by rw [show decide (V.str r = V.str t) = decide (r = t) from by simp]; exact q⟩
theorem o_neS {r t : Str} (q : Q (.bl (!decide (r = t))) H) : Op2 X (compareOp .NotEq) (.str r) (.str t) H Q := op2_of op_ne ⟨rfl, by rw [show decide (V.str r = V.str t) = decide (r = t) from by simp]; exact q⟩
theorem o_isN {v : V} (q : Q (.bl (decide (v = .non))) H) : Op2 X (compareOp .Is) v .non H Q := op2_of op_isN ⟨rfl, q⟩
theorem o_notN {v : V} (q : Q (.bl (!decide (v = .non))) H) : Op2 X (compareOp .IsNot) v .non H Q := op2_of op_notN ⟨rfl, q⟩
theorem o_neg (q : Q (.int (-i)) H) : Op1 X (unaryOp .USub) (.int i) H Q := op1_of un_neg ⟨i, rfl, q⟩
/-! ### small ends -/
theorem bl_ok {r : Bool} {P : Bool → Prop} (h : P r) : ∃ c, V.bl r = V.bl c ∧ P c := ⟨r, rfl, h⟩
theorem int_ok {P : Int → Prop} (h : P i) : ∃ c, V.int i = V.int c ∧ P c := ⟨i, rfl, h⟩
theorem ite_dec {c A B : Prop} [Decidable c] (h1 : c → A) (h2 : ¬ c → B) : if decide c = true then A else B := by
  by_cases h : c
  · rw [decide_eq_true h]; exact iteT (h1 h)
  · rw [decide_eq_false h]; exact iteF (h2 h)
theorem ite_ndec {c A B : Prop} [Decidable c] (h1 : ¬ c → A) (h2 : c → B) : if (!decide c) = true then A else B := by
  by_cases h : c
  · rw [decide_eq_true h]; exact iteF (h2 h)
  · rw [decide_eq_false h]; exact iteT (h1 h)
theorem ite_b {r : Bool} {A B : Prop} (h1 : r = true → A) (h2 : r = false → B) : if r = true then A else B := by
  cases r with
  | true => exact iteT (h1 rfl)
  | false => exact iteF (h2 rfl)
end
end Rs

namespace Rs
open PySem PySem.Spec PyProof.Rows L2
section
variable {P : Program} {w : World} {K : PySem.W.Frag} {mg : Str → Option Value} {base : Heap} {N : List Str} {qual : Str} {sc : Scope} {f : Addr} {cdv : Value} {A : Around} {outer : List Env} {s : Shared} {H : Hp} {E : XK} {k : Nat}
abbrev bx (P : Program) (w : World) (K : PySem.W.Frag) (mg : Str → Option Value) (base : Heap) (N : List Str) (qual : Str) (sc : Scope) (f : Addr) (cdv : Value) (A : Around) (outer : List Env) (s : Shared) (H : Hp) (E : XK) : Cx := cxOf (RX P w) P w K mg base N qual sc f cdv A outer s H E
theorem body_of (hr : Room k (A.deeper (envOfC qual sc s.heap.objs.size f cdv))) : Body (bx P w K mg base N qual sc f cdv A outer s H E) k fun _ => E := ⟨rfl, hr, L2N.takes_of rfl rfl rfl rfl, passes_of rfl, fun _ => rfl, fun _ => rfl⟩
end
end Rs

namespace Rs
open PySem PySem.Spec PyProof.Rows L2 He

/-! ### a def by its body, over any context that runs it -/
section
variable {P : Program} {w : World} {K : PySem.W.Frag} {mg : Str → Option Value} {base : Heap} {N ps : List Str} {name qual : Str} {pa : Arguments} {body : List Stmt} {sc : Scope} {dvs : List V} {kws : List (Str × V)} {f : Addr} {fd : FuncData} {k : Nat} {sp : Sp}
theorem def_ok (F : FunD K name qual pa body sc dvs kws f fd) (S : FnScope N ps sc) (len : ∀ vs H Q E, sp vs H Q E → vs.length = ps.length)
    (hb : ∀ (X : Cx), X.prog = P → X.w = w → X.K = K → X.mg = mg → X.base = base → X.N = N → X.env.scope = sc → (∀ x, X.fn x = true) → N.Nodup → ∀ (H : Hp) (vs : List V) (Q : VK) (E : XK), Body X k (fun _ => E) → sp vs H Q E → WB X body { nx := fun _ H' => Q .non H', rt := Q } (start N vs) H) :
    FnOk P w K mg base (RX P w) (k + 1) f fd ps sp :=
  F.ok S len fun cdv A outer s H vs Q E hr h => ⟨_, pbS, hb (bx P w K mg base N qual sc f cdv A outer s H E) rfl rfl rfl rfl rfl rfl rfl (fun _ => rfl) S.nd H vs Q E (body_of hr) h⟩
end
section
variable {X : Cx} {N : List Str} {sc : Scope} {i : Nat} {x : Str}
theorem slot_of (eN : X.N = N) (es : X.env.scope = sc) (hf : ∀ x, X.fn x = true) (nd : N.Nodup) (hi : N[i]? = some x) (hl : Loc sc x) (d1 : (x == ("__debug__" : Str)) = false) (d2 : (x == ("__classdict__" : Str)) = false) : Sl X i x :=
  ⟨by rw [eN]; exact hi, by rw [eN]; exact nd, by rw [es]; exact hl, .inl (hf x), d1, d2⟩
theorem gn_of (es : X.env.scope = sc) (h : sc.names.lookup x = some .globalImplicit) (d1 : (x == ("__debug__" : Str)) = false) : Gn X x := ⟨by unfold Gl Env.kindOf; rw [es]; exact h, d1⟩
theorem bn_of (es : X.env.scope = sc) (h : sc.names.lookup x = some .globalImplicit) (no : X.mg x = none) : Bn X x := ⟨by unfold Gl Env.kindOf; rw [es]; exact h, no⟩
theorem kd_of {r : NameKind} (es : X.env.scope = sc) (h : sc.names.lookup x = some r) : X.env.kindOf x = some r := by unfold Env.kindOf; rw [es]; exact h
theorem blk_of (es : X.env.scope = sc) (h : sc.kind = .function) : X.env.blockKind = .function := by
  unfold Env.blockKind
  rw [es, h]
  rfl
end

/-! ### what the head tells: any facts of the written part, and each def by its place -/
theorem DefA.fun_ {d : DefA} {K : PySem.W.Frag} (hc : d.clo = false) (e : d.seen K = d.told) (c : d.good K = true) : ∃ fd, FunD K d.name d.qual d.params d.body d.scope (d.dvs K) (d.kws K) (d.ad K) fd := by
  obtain ⟨kp, c⟩ := ba c
  unfold DefA.seen at e
  rw [hc] at e c
  generalize hl : K.lookup (d.ad K) = lk at e c
  match lk, e, c with
  | some ⟨oc, od, .func ⟨m1, m2, m3, m4, m5, m6, m7, m8, m9, m10, m11, m12, m13, m14, m15⟩, osl⟩, e, c =>
    have e' : (some (m1, m2, m3, m4, m5, m6, m7, m15) : FnW) = d.told := e
    unfold DefA.told at e'
    injection e' with e'
    injection e' with h1 e'
    injection e' with h2 e'
    injection e' with h3 e'
    injection e' with h4 e'
    injection e' with h5 e'
    injection e' with h6 e'
    injection e' with h7 h8
    subst h1 h2 h3 h4 h5 h6 h7 h8
    obtain ⟨k1, c⟩ := ba (show (PySem.W.codeIn K m13 d.qual && (dflB K m8 (d.dvs K) && kwdB K m9 (d.kws K))) = true from c)
    obtain ⟨k2, k3⟩ := ba c
    exact ⟨_, ⟨oc, od, m8, m9, m10, m11, m12, m13, m14, osl, rfl, hl, k1, dflB_ok k2, kwdB_ok k3⟩, kp⟩
/-- a def that closes over its class's cell: all but the closure -/
theorem DefA.funC {d : DefA} {K : PySem.W.Frag} (hc : d.clo = true) (e : d.seen K = d.told) (c : d.good K = true) : ∃ (oc : Value) (od : Option Addr) (cl : List (Str × Addr)) (dV kV doc pm : Value) (an : Option Addr) (cdv ct : Value) (osl : Array (Option Value)),
    K.lookup (d.ad K) = some ⟨oc, od, .func (PySem.W.fnX d.name d.qual d.params d.body d.scope cl dV kV doc pm an cdv ct), osl⟩ ∧ PySem.W.codeIn K cdv d.qual = true := by
  obtain ⟨kp, c⟩ := ba c
  unfold DefA.seen at e
  rw [hc] at e c
  generalize hl : K.lookup (d.ad K) = lk at e c
  match lk, e, c with
  | some ⟨oc, od, .func ⟨m1, m2, m3, m4, m5, m6, m7, m8, m9, m10, m11, m12, m13, m14, m15⟩, osl⟩, e, c =>
    have e' : (some (m1, m2, m3, m4, m5, m6, [], m15) : FnW) = d.told := e
    unfold DefA.told at e'
    injection e' with e'
    injection e' with h1 e'
    injection e' with h2 e'
    injection e' with h3 e'
    injection e' with h4 e'
    injection e' with h5 e'
    injection e' with h6 e'
    injection e' with h7 h8
    subst h1 h2 h3 h4 h5 h6 h8
    obtain ⟨k1, c⟩ := ba (show (PySem.W.codeIn K m13 d.qual && _) = true from c)
    exact ⟨oc, od, m7, m8, m9, m10, m11, m12, m13, m14, osl, rfl, k1⟩
/-- a module's def; a class's method; a property's getter, setter -/
def aG (x : Str) : PySem.W.Frag → Addr := fun K => ga K x
def aM (C m : Str) : PySem.W.Frag → Addr := fun K => ma K (ga K C) m
def aP (C m : Str) : PySem.W.Frag → Addr := fun K => pgA K (ga K C) m
/-! ### the objects that the top leaves, layer by layer; those seen are kept as the bits of a number -/
theorem obX_eq (n : Nat) (ψ : List (PySem.W.Frag → Bool)) (fn : List DefA) (s : PySem.W.SharedT) : obX n ψ fn s = (hookX n ψ fn).obs s.abs := by
  have e : HandSHeadRun.getT s = s.abs.heap.get? := funext (HandSHeadRun.getT_eq s)
  show obsX ψ fn (frG (HandSHeadRun.getT s) ((asY (HandSHeadRun.getT s) n).reverse ++ [cStatics])) = obsX ψ fn (frG s.abs.heap.get? ((asY s.abs.heap.get? n).reverse ++ [cStatics]))
  rw [e]
section
variable {ψ : List (PySem.W.Frag → Bool)} {fn : List DefA} {K : PySem.W.Frag}
theorem SaysX.fact (c : SaysX ψ fn K) (i : Nat) {b : PySem.W.Frag → Bool} (h : ψ[i]? = some b := by rfl) : b K = true := c.all.1 b (List.mem_of_getElem? h)
theorem SaysX.dfn (c : SaysX ψ fn K) (i : Nat) {d : DefA} (h : fn[i]? = some d := by rfl) (hc : d.clo = false := by rfl) : ∃ fd, FunD K d.name d.qual d.params d.body d.scope (d.dvs K) (d.kws K) (d.ad K) fd :=
  DefA.fun_ hc (c.all.2.2 d (List.mem_of_getElem? h)) (c.all.2.1 d (List.mem_of_getElem? h))
theorem SaysX.dfc (c : SaysX ψ fn K) (i : Nat) {d : DefA} (h : fn[i]? = some d := by rfl) (hc : d.clo = true := by rfl) : ∃ (oc : Value) (od : Option Addr) (cl : List (Str × Addr)) (dV kV doc pm : Value) (an : Option Addr) (cdv ct : Value) (osl : Array (Option Value)),
    K.lookup (d.ad K) = some ⟨oc, od, .func (PySem.W.fnX d.name d.qual d.params d.body d.scope cl dV kV doc pm an cdv ct), osl⟩ ∧ PySem.W.codeIn K cdv d.qual = true :=
  DefA.funC hc (c.all.2.2 d (List.mem_of_getElem? h)) (c.all.2.1 d (List.mem_of_getElem? h))
end

/-! ### looks at a class -/
theorem binOwn_ok {K : PySem.W.Frag} {C f : Addr} {op : Operator} (h : binOwnB K C f op = true) : BinOwn K C f op := by
  obtain ⟨h1, h⟩ := ba h
  obtain ⟨h2, h⟩ := ba h
  obtain ⟨h3, h⟩ := ba h
  obtain ⟨h4, h⟩ := ba h
  obtain ⟨h5, h⟩ := ba h
  obtain ⟨h6, h7⟩ := ba h
  obtain ⟨fo, h5⟩ := Option.isSome_iff_exists.mp h5
  obtain ⟨ro, h6⟩ := Option.isSome_iff_exists.mp h6
  refine ⟨h1, of_decide_eq_true h2, h3, ?_, ⟨fo, ro, h5, h6⟩, of_decide_eq_true h7⟩
  cases q : PySem.W.findIn K (.ref C) (dunderR op.info.2) with
  | none => rw [q] at h4; cases h4
  | some rc =>
    rw [q] at h4
    refine ⟨rc, rfl, ?_⟩
    match rc, h4 with
    | none, _ => exact .inl rfl
    | some (.ref g), _ => exact .inr ⟨g, rfl⟩
theorem binRef_ok {K : PySem.W.Frag} {C f g : Addr} {op : Operator} (h : binRefB K C f g op = true) : BinRef K C g op := by
  obtain ⟨h1, h⟩ := ba h
  obtain ⟨h2, h⟩ := ba h
  obtain ⟨h3, h⟩ := ba h
  obtain ⟨h4, h5⟩ := ba h
  exact ⟨h1, ⟨f, of_decide_eq_true h2⟩, of_decide_eq_true h3, h4, of_decide_eq_true h5⟩
theorem cmpOwn_ok {K : PySem.W.Frag} {C f : Addr} {op : CmpOp} (h : cmpOwnB K C f op = true) : CmpOwn K C f op := by
  obtain ⟨h1, h⟩ := ba h
  obtain ⟨h2, h3⟩ := ba h
  exact ⟨of_decide_eq_true h1, h2, h3⟩
theorem cmpRef_ok {K : PySem.W.Frag} {C g : Addr} {op : CmpOp} (h : cmpRefB K C g op = true) : CmpRef K C g op := by
  obtain ⟨h1, h⟩ := ba h
  obtain ⟨h2, h3⟩ := ba h
  exact ⟨of_decide_eq_true h1, h2, of_decide_eq_true h3⟩
theorem negOwn_ok {K : PySem.W.Frag} {C f : Addr} (h : negOwnB K C f = true) : NegOwn K C f := by
  obtain ⟨h1, h2⟩ := ba h
  exact ⟨of_decide_eq_true h1, h2⟩
theorem noInpl_ok {K : PySem.W.Frag} {C : Addr} {op : Operator} (h : noInplB K C op = true) : NoInpl K C op := by
  obtain ⟨h1, h⟩ := ba h
  obtain ⟨h2, h3⟩ := ba h
  refine ⟨?_, of_decide_eq_true h2, of_decide_eq_true h3⟩
  cases q : PySem.W.clsIn K C with
  | none => rw [q] at h1; cases h1
  | some cd => rw [q] at h1; exact ⟨cd, rfl, of_decide_eq_true h1⟩
theorem prop_ok {K : PySem.W.Frag} {C : Addr} {m : Str} (h : propB K C m = true) : PropOf K C m (ma K C m) (pgA K C m) := by
  obtain ⟨h1, h⟩ := ba h
  obtain ⟨h2, h⟩ := ba h
  obtain ⟨h3, h4⟩ := ba h
  refine ⟨of_decide_eq_true h1, of_decide_eq_true h2, of_decide_eq_true h3, ?_⟩
  generalize hr : PySem.W.recIn K (ma K C m) "property" = r at h4
  match r, h4 with
  | some (.ref g :: rest), h4 => exact ⟨rest, by rw [of_decide_eq_true h4]⟩
theorem isC_ok {K : PySem.W.Frag} {x : Str} (h : isCB K x = true) : IsC K (ga K x) := by
  obtain ⟨h1, h⟩ := ba h
  obtain ⟨h2, h⟩ := ba h
  obtain ⟨h3, h⟩ := ba h
  obtain ⟨h4, h5⟩ := ba h
  exact ⟨cls_ok h1, of_decide_eq_true h2, of_decide_eq_true h3, of_decide_eq_true h4, of_decide_eq_true h5⟩
/-- isinstance's answers for the class of the name x, by the kinds of values -/
structure KitC (K : PySem.W.Frag) (C : Addr) : Prop where
  self : PySem.W.kitOne K (.ref C) (.ref C) = some true
  int : PySem.W.kitOne K (.ref C) (.type "int") = some false
  bool : PySem.W.kitOne K (.ref C) (.type "bool") = some false
  str : PySem.W.kitOne K (.ref C) (.type "str") = some false
  ofInt : PySem.W.kitOne K (.type "int") (.ref C) = some false
  ofBool : PySem.W.kitOne K (.type "bool") (.ref C) = some false
  ofStr : PySem.W.kitOne K (.type "str") (.ref C) = some false
  ofNone : PySem.W.kitOne K (.type "NoneType") (.ref C) = some false
  ofTup : PySem.W.kitOne K (.type "tuple") (.ref C) = some false
  ofLst : PySem.W.kitOne K (.type "list") (.ref C) = some false
theorem kitC_ok {K : PySem.W.Frag} {C : Addr} (h : kitCB K C = true) : KitC K C := by
  obtain ⟨h1, h⟩ := ba h
  obtain ⟨h2, h⟩ := ba h
  obtain ⟨h3, h⟩ := ba h
  obtain ⟨h4, h5⟩ := ba h
  have z := fun n hn => of_decide_eq_true (List.all_eq_true.mp h5 n hn)
  exact ⟨of_decide_eq_true h1, of_decide_eq_true h2, of_decide_eq_true h3, of_decide_eq_true h4, z _ (by simp), z _ (by simp), z _ (by simp), z _ (by simp), z _ (by simp), z _ (by simp)⟩
end Rs

namespace Rs
open PySem PySem.Spec PyProof.Rows L2 He PySem.Calls
/-! ### a body whose exceptions nobody waits for (the law itself) -/
section
variable {P : Program} {w : World} {K : PySem.W.Frag} {mg : Str → Option Value} {base : Heap} {N ps : List Str} {name qual : Str} {pa : Arguments} {body : List Stmt} {sc : Scope} {dvs : List V} {kws : List (Str × V)} {f : Addr} {fd : FuncData} {k : Nat} {sp : Sp}
theorem def_okN (F : FunD K name qual pa body sc dvs kws f fd) (S : FnScope N ps sc) (len : ∀ vs H Q E, sp vs H Q E → vs.length = ps.length)
    (hb : ∀ (X : Cx), X.prog = P → X.w = w → X.K = K → X.mg = mg → X.base = base → X.N = N → X.env.scope = sc → (∀ x, X.fn x = true) → N.Nodup → ∀ (H : Hp) (vs : List V) (Q : VK) (E : XK), Body X k (fun _ => E0) → sp vs H Q E → WB X body { nx := fun _ H' => Q .non H', rt := Q } (start N vs) H) :
    FnOk P w K mg base CX0 (k + 1) f fd ps sp :=
  F.ok S len fun cdv A outer s H vs Q E hr h => ⟨_, pbS, hb (cxOf CX0 P w K mg base N qual sc f cdv A outer s H E) rfl rfl rfl rfl rfl rfl rfl (fun _ => rfl) S.nd H vs Q E ⟨rfl, hr, (fun _ _ x => by obtain ⟨_, _, _, _, _, _, _, _, _, _, _, _, _, _, _, _, z⟩ := x; exact z.elim), passes_of rfl, fun _ => rfl, fun _ => rfl⟩ h⟩
theorem GFn.mk {x : Str} (F : FunD K name qual pa body sc [] kws f fd) (hm : mg x = some (.ref f)) (ok : FnOk P w K mg base (RX P w) k f fd ps sp) (hb : Binds K fd ps []) : GFn P w K mg base k x sp :=
  ⟨f, hm, F.kp, (FnOk.raw ok hb .nil).imp fun vs H Q E h => by rw [List.append_nil]; exact h⟩
end
theorem raw_of {P : Program} {w : World} {K : PySem.W.Frag} {mg : Str → Option Value} {base : Heap} {ps : List Str} {name qual : Str} {pa : Arguments} {body : List Stmt} {sc : Scope} {kws : List (Str × V)} {f : Addr} {fd : FuncData} {k : Nat} {sp : Sp} (F : FunD K name qual pa body sc [] kws f fd)
    (ok : FnOk P w K mg base (RX P w) k f fd ps sp) (hb : Binds K fd ps []) : FnR P w K mg base (RX P w) k f sp := (FnOk.raw ok hb .nil).imp fun vs H Q E h => by rw [List.append_nil]; exact h
/-! ### abs(x) of an own class -/
structure AbsOwn (K : PySem.W.Frag) (C f : Addr) : Prop where
  at_ : PySem.W.findIn K (.ref C) "__abs__" = some (some (.ref f))
  fn : PySem.W.isFn K (.ref f) = true
theorem absOwn_ok {K : PySem.W.Frag} {C f : Addr} (h : absOwnB K C f = true) : AbsOwn K C f := by
  obtain ⟨h1, h2⟩ := ba h
  exact ⟨of_decide_eq_true h1, h2⟩
theorem abs_own {prog : Program} {w : World} {A : Around} {R : Value → Shared → Prop} {P : Value → Shared → Prop} {s : Shared} {K : PySem.W.Frag} {x C f : Addr} {ox : Obj} {od : Option Obj} (KX : K.In s.heap) (J : PySem.W.InstAt s.heap x ox C od)
    (c : AbsOwn K C f) (h : wpAny (model prog w) A.in1 (call (.ref f) [.ref x]) P R s) : wpAny (model prog w) A (call (.builtin "abs") [.ref x]) P R s := by
  refine call_function_entry kind_abs plain_abs entry_abs (args_abs _) ?_
  unfold Builtin.«abs»
  refine wpAny_bind (wpAny_of_eq (a := Value.ref x) rfl ?_)
  refine wpAny_bind (PySem.W.special_fn KX J c.at_ (beq_iff_eq.mp c.fn) (wpAny_mono h (fun v s' q => ?_) fun _ _ z => z))
  exact wpAny_pure ⟨_, rfl, q⟩
theorem we_absT {X : Cx} {σ : L2.St} {H : Hp} {Q : VK} {k j : Nat} {E : XK} {C f : Addr} {sp : Sp} {a : Expr} {p pos : Pos} (bn : Bn X "abs") (B : Body X k fun _ => E) (c : AbsOwn X.K C f) (F : FnR X.prog X.w X.K X.mg X.base (RX X.prog X.w) j f sp) (hj : j + 1 ≤ k)
    (h : WE X a σ H fun v H1 => ∃ x dx fs, v = .ref x ∧ H1 x = some (.ins C dx fs) ∧ sp [.ref x] H1 Q E) (hs : starEach [a] X.env = [(false, eval a X.env)] := by rfl) (hl : (backTo pos (starEach [] X.env)).any (·.1) = false := by rfl) :
    WE X (.Call (.Name "abs" p) [a] [] pos) σ H Q := by
  have hc : CallR X (.builtin "abs") fun xs H Q => ∃ x dx fs, xs = [.ref x] ∧ H x = some (.ins C dx fs) ∧ sp [.ref x] H Q E := by
    intro pins s σ H xs us Q I r q
    obtain ⟨x, dx, fs, rfl, ea, q⟩ := q
    obtain ⟨u, rfl, ru⟩ := vals1 r
    cases ru
    obtain ⟨od, J⟩ := inst_of I ea
    exact abs_own I.kIn J c (wpAny_call (SlX.run_at (us := [.ref x]) (ws := [.ref x]) F (B.room.mono hj).in1 I.env0.in1 B.pass I (.cons rfl .nil) q))
  exact we_callB hc bn boot_abs (wa_one (we_mono h fun v H1 q => by
    obtain ⟨x, dx, fs, rfl, q⟩ := q
    exact ⟨x, dx, fs, rfl, q⟩) hs) (by decide) (by decide) hs hl
end Rs

namespace Rs
open PySem PySem.Spec PyProof.Rows L2 He
/-! ### raise of an own class of errors without an __init__ of its own -/
structure ExcPlain (K : PySem.W.Frag) (C : Addr) : Prop where
  ex : PySem.W.excIn K C veBase "ValueError.__new__" = true
  kp : PySem.W.keepIn K (.ref C) = true
  sb : PySem.W.subIn K (.ref C) (.type "BaseException") = some true
  ty : PySem.W.typeIn K (.ref C) = some (.type "type")
theorem excPlain_ok {K : PySem.W.Frag} {C : Addr} (h : excPlainB K C = true) : ExcPlain K C := by
  obtain ⟨h1, h⟩ := ba h
  obtain ⟨h2, h⟩ := ba h
  obtain ⟨h3, h4⟩ := ba h
  exact ⟨h1, h2, of_decide_eq_true h3, of_decide_eq_true h4⟩
theorem ws_raise {X : Cx} {k : Nat} {E : L2.St → XK} {D : Ends} {σ : L2.St} {H : Hp} {x m : Str} {j : Nat} {p p2 pos pos2 : Pos} {C : Addr} (B : Body X k E) (g : Gn X x) (hm : X.mg x = some (.ref C)) (c : ExcPlain X.K C) (h : E σ (.ref C) none H) :
    WS X (.Raise (some (.Call (.Name x p) [.Constant (.str m) j p2] [] pos)) none pos2) D σ H :=
  wsP (L2N.ps_raise B.calm B.tk (L2N.pmk_own PySem.F.excBase_ValueError c.ex hm c.kp (raises_own c.sb c.ty) g.gl g.d1)) h
section
variable {X : Cx} {σ : L2.St} {H : Hp} {Q : VK} {x : Str} {pos : Pos}
theorem we_ref {C : Addr} (g : Gn X x) (hm : X.mg x = some (.ref C)) (q : Q (.ref C) H) : WE X (.Name x pos) σ H Q := we_glob (v := .ref C) g hm rfl q
theorem we_cint {i : Int} {t : Tok} (g : Gn X x) (hm : X.mg x = some (.int i t)) (q : Q (.int i) H) : WE X (.Name x pos) σ H Q := we_glob (v := .int i) g hm ⟨t, rfl⟩ q
theorem we_cstr {z : Str} {t : Tok} (g : Gn X x) (hm : X.mg x = some (.str z t)) (q : Q (.str z) H) : WE X (.Name x pos) σ H Q := we_glob (v := .str z) g hm ⟨t, rfl⟩ q
end
theorem iteNT {A B : Prop} (h : B) : if (!true) = true then A else B := iteF h
theorem iteNF {A B : Prop} (h : A) : if (!false) = true then A else B := iteT h
theorem ite_nb {r : Bool} {A B : Prop} (h1 : r = false → A) (h2 : r = true → B) : if (!r) = true then A else B := by
  cases r with
  | false => exact iteT (h1 rfl)
  | true => exact iteF (h2 rfl)
/-! ### a time's fields -/
theorem ou_ : ¬ (("under_line" : Str) = "over_line") := by decide +kernel
theorem uo_ : ¬ (("over_line" : Str) = "under_line") := by decide +kernel
theorem tfs_put (q : Rat) : putF "under_line" (.int q.den) (putF "over_line" (.int q.num) []) = tfs q := by
  show (if ("over_line" : Str) = "under_line" then [(("over_line" : Str), V.int q.den)] else (("over_line" : Str), V.int q.num) :: putF "under_line" (V.int q.den) []) = _
  rw [if_neg uo_]
  rfl
theorem tfs_over (q : Rat) : (tfs q).lookup ("over_line" : Str) = some (.int q.num) := by
  unfold tfs
  rw [List.lookup_cons_self]
theorem tfs_under (q : Rat) : (tfs q).lookup ("under_line" : Str) = some (.int q.den) := by
  unfold tfs
  rw [List.lookup_cons]
  have e : (("under_line" : Str) == "over_line") = false := by simpa using ou_
  rw [e, List.lookup_cons_self]
end Rs

namespace Rs
open PySem PySem.Spec PyProof.Rows L2 He
section
variable {X : Cx} {σ : L2.St} {H : Hp} {D : Ends} {Q Q' : VK} {k j : Nat} {E : XK} {x : Str} {p pos pos' : Pos} {a b c e o : Expr}
/-! ### items -/
theorem we_at (h : WE X a σ H fun v H1 => WE X b σ H1 fun w H2 => rIx X.K v w H2 Q) (hb : PlainIx b := by intro _ _; rfl) : WE X (.Subscript a b pos) σ H Q := we_ix ix_seq h hb
theorem at_l {K : PySem.W.Frag} {p : Addr} {xs : List V} {i : Int} {v : V} (hp : H p = some (.lst xs)) (he : atI xs i = some v) (q : Q v H) : rIx K (.ref p) (.int i) H Q := .inl ⟨p, xs, i, v, rfl, rfl, .of hp, he, q⟩
theorem at_t {K : PySem.W.Frag} {p : Addr} {xs : List V} {i : Int} {v : V} (hp : H p = some (.tup xs)) (he : atI xs i = some v) (q : Q v H) : rIx K (.ref p) (.int i) H Q := .inr (.inl ⟨p, xs, i, v, rfl, rfl, .of hp, he, q⟩)
theorem ws_put (h : WE X e σ H fun v H1 => WE X a σ H1 fun x H2 => WE X b σ H2 fun y H3 => ∃ p xs i j, x = .ref p ∧ y = .int i ∧ H3 p = some (.lst xs) ∧ ixN xs.length i = some j ∧ D.nx σ (upd H3 p (.lst (xs.set j v))))
    (hs : swapsWithSole [.Subscript a b pos'] e pos.line X.env = pure false := by rfl) (hw : swappedStores [.Subscript a b pos'] e X.env = pure none := by rfl)
    (ha : ∀ v, assign (.Subscript a b pos') X.env v = (do
      let ov ← holding [v] (eval a X.env)
      let iv ← holding [v, ov] (eval b X.env)
      standAt pos'
      holding [v, ov, iv] (setItem ov iv v)
      release [v, ov, iv] []) := by intro _; rfl) : WS X (.Assign [.Subscript a b pos'] e pos) D σ H :=
  wsP (ps_asg peS (pg_sub peS peS set_list ha) hs hw) (we_mono h fun v H1 z => we_mono z fun x H2 z => we_mono z fun y H3 z => by
    obtain ⟨p, xs, i, j, rfl, rfl, h1, h2, z⟩ := z
    exact ⟨p, xs, i, j, rfl, rfl, h1, h2, z⟩)
theorem put_l {p : Addr} {xs : List V} {i : Int} {j : Nat} {v : V} {P : Hp → Prop} (hp : H p = some (.lst xs)) (hj : ixN xs.length i = some j) (q : P (upd H p (.lst (xs.set j v)))) :
    ∃ p' xs i' j, V.ref p = .ref p' ∧ V.int i = .int i' ∧ H p' = some (.lst xs) ∧ ixN xs.length i' = some j ∧ P (upd H p' (.lst (xs.set j v))) := ⟨p, xs, i, j, rfl, rfl, hp, hj, q⟩
/-! ### len, int, list(..[:n]) -/
theorem we_len (bn : Bn X "len") (h : WE X a σ H fun v H1 => ∃ n, LenV X.K v H1 n ∧ Q (.int n) H1) (hs : starEach [a] X.env = [(false, eval a X.env)] := by rfl) (hl : (backTo pos (starEach [] X.env)).any (·.1) = false := by rfl) :
    WE X (.Call (.Name "len" p) [a] [] pos) σ H Q := we_callB call_len bn boot_len (wa_one (we_mono h fun v H1 q => by
    obtain ⟨n, h1, q⟩ := q
    exact ⟨v, n, rfl, h1, q⟩) hs) (by decide) (by decide) hs hl
theorem len_l {K : PySem.W.Frag} {p : Addr} {xs : List V} {P : Nat → Prop} (hp : H p = some (.lst xs)) (q : P xs.length) : ∃ n, LenV K (.ref p) H n ∧ P n := ⟨xs.length, .inl ⟨xs, .of hp, rfl⟩, q⟩
theorem len_t {K : PySem.W.Frag} {p : Addr} {xs : List V} {P : Nat → Prop} (hp : H p = some (.tup xs)) (q : P xs.length) : ∃ n, LenV K (.ref p) H n ∧ P n := ⟨xs.length, .inr ⟨xs, .of hp, rfl⟩, q⟩
theorem we_int1 (bn : Bn X "int") (h : WE X a σ H fun v H1 => ∃ i, v = .int i ∧ Q (.int i) H1) (hs : starEach [a] X.env = [(false, eval a X.env)] := by rfl) (hl : (backTo pos (starEach [] X.env)).any (·.1) = false := by rfl) :
    WE X (.Call (.Name "int" p) [a] [] pos) σ H Q := we_callT call_int1 bn boot_int (wa_one (we_mono h fun v H1 q => by
    obtain ⟨i, rfl, q⟩ := q
    exact .inl ⟨i, rfl, q⟩) hs) (by decide) (by decide) hs hl
theorem we_listof (bn : Bn X "list") (h : WE X a σ H fun v H1 => ∃ p ys, v = .ref p ∧ (SqL X.K H1 p ys ∨ SqT X.K H1 p ys) ∧ ∀ l, H1 l = none → Q (.ref l) (upd H1 l (.lst ys))) (hs : starEach [a] X.env = [(false, eval a X.env)] := by rfl) (hl : (backTo pos (starEach [] X.env)).any (·.1) = false := by rfl) :
    WE X (.Call (.Name "list" p) [a] [] pos) σ H Q := we_callT call_list_of bn boot_list (wa_one (we_mono h fun v H1 q => by
    obtain ⟨p, ys, rfl, h1, q⟩ := q
    exact ⟨p, ys, rfl, h1, q⟩) hs) (by decide) (by decide) hs hl
/-- a[:hi] of a list -/
theorem we_cutU {p2 : Pos} (h : WE X a σ H fun v H1 => WE X b σ H1 fun w H2 => ∃ p xs i, v = .ref p ∧ w = .int i ∧ SqL X.K H2 p xs ∧ ∀ l, H2 l = none → Q (.ref l) (upd H2 l (.lst (cutV xs none (some i))))) : WE X (.Subscript a (.Slice none (some b) none p2) pos) σ H Q :=
  weP (pe_slice sl_list peS po_none (po_some peS)) (we_mono h fun v H1 z => we_mono z fun w H2 z => by
    obtain ⟨p, xs, i, rfl, rfl, h1, z⟩ := z
    exact ⟨i, rfl, p, xs, rfl, h1, z⟩)
/-! ### the source of draws -/
structure Sou (H : Hp) (p : Addr) : Prop where
  ex : ∃ l o ns, H p = some o ∧ SrcL l o ∧ H l = some (.lst (List.map V.int ns))
theorem Sou.mono {H H' : Hp} {p : Addr} (s : Sou H p) (x : Ex H H') : Sou H' p := by
  obtain ⟨l, o, ns, h1, h2, h3⟩ := s.ex
  obtain ⟨o', h4, h5⟩ := x.src p l o h1 h2
  exact ⟨l, o', ns, h4, h5, x.keep l _ h3 not_src_ints⟩
/-- any number below n -/
def Draw (H : Hp) (n : Int) (Q : VK) : Prop := ∀ d H', Ex H H' → 0 ≤ d → d < n → Q (.int d) H'
theorem Draw.mono {H H' : Hp} {n : Int} {Q : VK} (k : Draw H n Q) (x : Ex H H') : Draw H' n Q := fun d H2 y h1 h2 => k d H2 (x.trans y) h1 h2
def spDraw : Sp := fun vs H Q _ => ∃ p n, vs = [.ref p, .int n] ∧ Sou H p ∧ 0 < n ∧ n.natAbs < 2 ^ 8000 ∧ Draw H n Q
theorem dr_ok {p : Addr} {n : Int} {H : Hp} {Q : VK} {E : XK} (s : Sou H p) (h0 : 0 < n) (h1 : n.natAbs < 2 ^ 8000) (k : Draw H n Q) : spDraw [.ref p, .int n] H Q E := ⟨p, n, rfl, s, h0, h1, k⟩
theorem small_n {n : Int} (h : n.natAbs < 2 ^ 200) : n.natAbs < 2 ^ 8000 := Nat.lt_of_lt_of_le h (Nat.pow_le_pow_right (by decide) (by decide))
end
theorem cpow_of {i j : Int} (h : (decide (0 ≤ j) && decide (j ≤ 1000000) && decide (i.natAbs < 2 ^ 64)) = true) : CPow i j := by
  obtain ⟨h1, h2⟩ := ba h
  obtain ⟨h0, h1⟩ := ba h1
  exact ⟨of_decide_eq_true h0, of_decide_eq_true h1, of_decide_eq_true h2⟩
theorem cmul31 {i j : Int} (h1 : 0 ≤ i) (h2 : i < 2147483647) (h3 : j.natAbs < 2 ^ 31) : CMulW i j := wide_mul (a := 31) (b := 31) (by omega) h3 (by decide) (by decide) (by decide)
section
variable {H : Hp} {p l : Addr} {i b r : Int} {P : Hp → Prop}
theorem src_of (h1 : 0 ≤ i) (h2 : 0 ≤ r) (h3 : r < 2147483647) : SrcL l (.lst [.ref l, .int i, .int b, .int r]) := ⟨i, b, r, rfl, h1, h2, h3⟩
theorem putS1 {ns : List Int} {n : Int} (hl : H l = some (.lst (List.map V.int ns))) (hp : H p = some (.lst [.ref l, .int i, .int b, .int r])) (s : SrcL l (.lst [.ref l, .int i, .int b, .int r])) (s' : 0 ≤ n) (q : ∀ H', Ex H H' → H' l = some (.lst (List.map V.int ns)) → H' p = some (.lst [.ref l, .int n, .int b, .int r]) → SrcL l (.lst [.ref l, .int n, .int b, .int r]) → P H') :
    ∃ p' xs i' j, V.ref p = .ref p' ∧ V.int 1 = .int i' ∧ H p' = some (.lst xs) ∧ ixN xs.length i' = some j ∧ P (upd H p' (.lst (xs.set j (.int n)))) := by
  have s2 : SrcL l (.lst [.ref l, .int n, .int b, .int r]) := by
    obtain ⟨i2, b2, r2, e, h1, h2, h3⟩ := s
    injection e with e; injection e with _ e; injection e with e1 e; injection e with e2 e; injection e with e3 e
    cases e1; cases e2; cases e3
    exact ⟨_, _, _, rfl, s', h2, h3⟩
  have xx := Ex.src' (fun C dx fs z => by rw [hl] at z; cases z) hp s s2
  exact ⟨p, _, 1, 1, rfl, rfl, hp, rfl, q _ xx (xx.keep l _ hl not_src_ints) upd_same s2⟩
theorem putS2 {ns : List Int} {n : Int} (hl : H l = some (.lst (List.map V.int ns))) (hp : H p = some (.lst [.ref l, .int i, .int b, .int r])) (s : SrcL l (.lst [.ref l, .int i, .int b, .int r])) (q : ∀ H', Ex H H' → H' l = some (.lst (List.map V.int ns)) → H' p = some (.lst [.ref l, .int i, .int n, .int r]) → SrcL l (.lst [.ref l, .int i, .int n, .int r]) → P H') :
    ∃ p' xs i' j, V.ref p = .ref p' ∧ V.int 2 = .int i' ∧ H p' = some (.lst xs) ∧ ixN xs.length i' = some j ∧ P (upd H p' (.lst (xs.set j (.int n)))) := by
  have s2 : SrcL l (.lst [.ref l, .int i, .int n, .int r]) := by
    obtain ⟨i2, b2, r2, e, h1, h2, h3⟩ := s
    injection e with e; injection e with _ e; injection e with e1 e; injection e with e2 e; injection e with e3 e
    cases e1; cases e2; cases e3
    exact ⟨_, _, _, rfl, h1, h2, h3⟩
  have xx := Ex.src' (fun C dx fs z => by rw [hl] at z; cases z) hp s s2
  exact ⟨p, _, 2, 2, rfl, rfl, hp, rfl, q _ xx (xx.keep l _ hl not_src_ints) upd_same s2⟩
theorem putS3 {ns : List Int} {n : Int} (hl : H l = some (.lst (List.map V.int ns))) (hp : H p = some (.lst [.ref l, .int i, .int b, .int r])) (s : SrcL l (.lst [.ref l, .int i, .int b, .int r])) (h0 : 0 ≤ n) (h9 : n < 2147483647) (q : ∀ H', Ex H H' → H' l = some (.lst (List.map V.int ns)) → H' p = some (.lst [.ref l, .int i, .int b, .int n]) → SrcL l (.lst [.ref l, .int i, .int b, .int n]) → P H') :
    ∃ p' xs i' j, V.ref p = .ref p' ∧ V.int 3 = .int i' ∧ H p' = some (.lst xs) ∧ ixN xs.length i' = some j ∧ P (upd H p' (.lst (xs.set j (.int n)))) := by
  have s2 : SrcL l (.lst [.ref l, .int i, .int b, .int n]) := by
    obtain ⟨i2, b2, r2, e, h1, h2, h3⟩ := s
    injection e with e; injection e with _ e; injection e with e1 e; injection e with e2 e; injection e with e3 e
    cases e1; cases e2; cases e3
    exact ⟨_, _, _, rfl, h1, h0, h9⟩
  have xx := Ex.src' (fun C dx fs z => by rw [hl] at z; cases z) hp s s2
  exact ⟨p, _, 3, 3, rfl, rfl, hp, rfl, q _ xx (xx.keep l _ hl not_src_ints) upd_same s2⟩
end
end Rs

namespace Mt
/-- the greatest common divisor, at least 1 -/
def g1 (a b : Int) : Int := if (Int.gcd a b : Int) > 0 then (Int.gcd a b : Int) else 1
theorem g1_pos (a b : Int) : 0 < g1 a b := by unfold g1; split <;> omega
theorem g1_of {a b : Int} (hb : b ≠ 0) : g1 a b = (Int.gcd a b : Int) := by
  unfold g1
  have : 0 < Int.gcd a b := Int.gcd_pos_of_ne_zero_right a hb
  rw [if_pos (by omega)]
/-- one turn of Euclid's algorithm -/
theorem gcd_turn (a b : Int) : Int.gcd b (a % b) = Int.gcd a b := by
  have e := Int.emod_def a b
  rw [e, Int.gcd_comm a b, Int.sub_eq_add_neg, Int.neg_mul_eq_mul_neg, Int.gcd_add_mul_left_right]
theorem gcd_abs (a b : Int) : Int.gcd (if a < 0 then -a else a) (if b < 0 then -b else b) = Int.gcd a b := by
  split <;> split <;> simp
theorem abs_nn (a : Int) : 0 ≤ if a < 0 then -a else a := by split <;> omega
theorem fdiv_dvd_neg {a g : Int} (hg : 0 < g) (h : g ∣ a) : a.fdiv (0 - g) = -(a / g) := by
  obtain ⟨c, rfl⟩ := h
  have h1 : (0 - g) ∣ g * c := ⟨-c, by rw [Int.zero_sub]; rw [Int.neg_mul_neg]⟩
  rw [Int.fdiv_eq_ediv_of_dvd h1, Int.zero_sub, Int.ediv_neg]
theorem fdiv_dvd {a g : Int} (hg : 0 < g) (h : g ∣ a) : a.fdiv g = a / g := Int.fdiv_eq_ediv_of_nonneg a (by omega)
theorem gcd_dvd (t b : Int) : (Int.gcd t b : Int) ∣ t ∧ (Int.gcd t b : Int) ∣ b := ⟨Int.gcd_dvd_left .., Int.gcd_dvd_right ..⟩
/-- what Time.__init__ stores -/
theorem made_num {t b : Int} (hb : b ≠ 0) : t.fdiv (if b < 0 then 0 - g1 t b else g1 t b) = (Rat.divInt t b).num := by
  have hg := g1_pos t b
  have e := g1_of (a := t) hb
  have hd : g1 t b ∣ t := by rw [e]; exact (gcd_dvd t b).1
  rw [Rat.num_divInt, Int.gcd_comm b t, ← e]
  split
  · rename_i hn
    rw [fdiv_dvd_neg hg hd, Int.sign_eq_neg_one_of_neg hn, Int.neg_one_mul, Int.neg_ediv_of_dvd hd]
  · rename_i hn
    rw [fdiv_dvd hg hd, Int.sign_eq_one_of_pos (by omega), Int.one_mul]
theorem made_den {t b : Int} (hb : b ≠ 0) : b.fdiv (if b < 0 then 0 - g1 t b else g1 t b) = ((Rat.divInt t b).den : Int) := by
  have hg := g1_pos t b
  have e := g1_of (a := t) hb
  have hd : g1 t b ∣ b := by rw [e]; exact (gcd_dvd t b).2
  rw [Rat.den_divInt, if_neg hb, Int.gcd_comm b t, Int.natCast_ediv, ← e]
  split
  · rename_i hn
    rw [fdiv_dvd_neg hg hd, ← Int.neg_ediv_of_dvd hd]
    congr 1
    omega
  · rename_i hn
    rw [fdiv_dvd hg hd]
    congr 1
    omega
theorem g1_le {t b : Int} (hb : b ≠ 0) : (g1 t b).natAbs ≤ b.natAbs := by
  rw [g1_of hb, Int.natAbs_natCast]
  exact Nat.le_of_dvd (by omega) (Int.gcd_dvd_natAbs_right t b)

/-! ### sizes -/
theorem Sz.mono {q : Rat} {n m : Nat} (h : Sz q n) (l : n ≤ m) : Sz q m := ⟨Nat.lt_of_lt_of_le h.num (Nat.pow_le_pow_right (by decide) l), Nat.lt_of_lt_of_le h.den (Nat.pow_le_pow_right (by decide) l)⟩
theorem pow_add' {a b x y : Nat} (h1 : x < 2 ^ a) (h2 : y < 2 ^ b) : x * y < 2 ^ (a + b) := by
  rw [Nat.pow_add]
  exact Nat.mul_lt_mul'' h1 h2
theorem add_lt {a x y : Nat} (h1 : x < 2 ^ a) (h2 : y < 2 ^ a) : x + y < 2 ^ (a + 1) := by
  rw [Nat.pow_succ]
  omega
theorem mulB {a b : Nat} {x y : Int} (h1 : x.natAbs < 2 ^ a) (h2 : y.natAbs < 2 ^ b) : (x * y).natAbs < 2 ^ (a + b) := by
  rw [Int.natAbs_mul]
  exact pow_add' h1 h2
theorem addB {a : Nat} {x y : Int} (h1 : x.natAbs < 2 ^ a) (h2 : y.natAbs < 2 ^ a) : (x + y).natAbs < 2 ^ (a + 1) := Nat.lt_of_le_of_lt (Int.natAbs_add_le x y) (add_lt h1 h2)
theorem subB {a : Nat} {x y : Int} (h1 : x.natAbs < 2 ^ a) (h2 : y.natAbs < 2 ^ a) : (x - y).natAbs < 2 ^ (a + 1) := Nat.lt_of_le_of_lt (Int.natAbs_sub_le x y) (add_lt h1 h2)
/-! ### the operators -/
theorem mk_div (n : Int) (d : Nat) : mkRat n d = Rat.divInt n d := rfl
theorem add_eq (q r : Rat) : Rat.divInt (q.num * r.den + r.num * q.den) (q.den * r.den) = q + r := by
  rw [Rat.add_def', mk_div, Int.natCast_mul]
theorem sub_eq (q r : Rat) : Rat.divInt (q.num * r.den - r.num * q.den) (q.den * r.den) = q - r := by
  rw [Rat.sub_def', mk_div, Int.natCast_mul]
theorem mul_eq (q r : Rat) : Rat.divInt (q.num * r.num) (q.den * r.den) = q * r := by
  rw [Rat.mul_def', mk_div, Int.natCast_mul]
theorem neg_eq (q : Rat) : Rat.divInt (0 - q.num) q.den = -q := by
  rw [Int.zero_sub, ← Rat.neg_divInt, Rat.num_divInt_den]
theorem den_pos (q : Rat) : (0 : Int) < q.den := by have := q.den_nz; omega
theorem den_ne (q : Rat) : (q.den : Int) ≠ 0 := by have := q.den_nz; omega
end Mt

namespace Rs
open PySem PySem.Spec PyProof.Rows L2 He Mt
theorem dp_ints {K : PySem.W.Frag} {H : Hp} : ∀ ns : List Int, DpAll K H (ns.map V.int) (ns.map PyData.int)
  | [] => .nil
  | n :: ns => .cons (.int n) (dp_ints ns)
theorem shaped2 (a b : Int) : SeqAt.shaped (.tuple [.int a, .int b]) = true := rfl
theorem eqv2 (a b c d : Int) : PyData.eqv (.tuple [.int a, .int b]) (.tuple [.int c, .int d]) = (decide (a = c) && decide (b = d)) := by
  simp only [PyData.eqv, PyData.eqvAll, Bool.and_true]
  rfl
section
variable {X : Cx} {k : Nat} {E : L2.St → XK} {H : Hp} {Q : VK} {p p' : Addr} {a b c d : Int}
theorem o_eqT2 (B : Body X k E) (h : H p = some (.tup [.int a, .int b])) (h' : H p' = some (.tup [.int c, .int d])) (q : Q (.bl (decide (a = c) && decide (b = d))) H) : Op2 X (compareOp .Eq) (.ref p) (.ref p') H Q :=
  op2_of (op_eqD (by have := B.room.un; omega)) ⟨.tuple [.int a, .int b], .tuple [.int c, .int d], .tup (.of h) (dp_ints [a, b]), .tup (.of h') (dp_ints [c, d]), shaped2 a b, shaped2 c d, by rw [eqv2]; exact q⟩
end
/-! ### what comes back, in any heap that has grown -/
def Num (H : Hp) (n : Nat) (Q : VK) : Prop := ∀ d H', Ex H H' → d.natAbs < 2 ^ n → Q (.int d) H'
def Und (H : Hp) (n : Nat) (Q : VK) : Prop := ∀ d H', Ex H H' → d ≠ 0 → d.natAbs < 2 ^ n → Q (.int d) H'
def Prs (H : Hp) (a b : Int) (Q : VK) : Prop := ∀ p H', Ex H H' → H' p = some (.tup [.int a, .int b]) → Q (.ref p) H'
def Yes (H : Hp) (Q : VK) : Prop := ∀ H', Ex H H' → Q (.bl true) H'
theorem Yes.mono {H H' : Hp} {Q : VK} (k : Yes H Q) (x : Ex H H') : Yes H' Q := fun H2 y => k H2 (x.trans y)
theorem ret_i {H : Hp} {R : V → Hp → Prop} {Q : VK} (h : ∀ v H', Ex H H' → R v H' → Q v H') : Ret H R Q := h
theorem draw_i {H : Hp} {n : Int} {Q : VK} (h : ∀ d H', Ex H H' → 0 ≤ d → d < n → Q (.int d) H') : Draw H n Q := h
theorem num_i {H : Hp} {n : Nat} {Q : VK} (h : ∀ d H', Ex H H' → d.natAbs < 2 ^ n → Q (.int d) H') : Num H n Q := h
theorem und_i {H : Hp} {n : Nat} {Q : VK} (h : ∀ d H', Ex H H' → d ≠ 0 → d.natAbs < 2 ^ n → Q (.int d) H') : Und H n Q := h
theorem prs_i {H : Hp} {a b : Int} {Q : VK} (h : ∀ p H', Ex H H' → H' p = some (.tup [.int a, .int b]) → Q (.ref p) H') : Prs H a b Q := h
theorem yes_i {H : Hp} {Q : VK} (h : ∀ H', Ex H H' → Q (.bl true) H') : Yes H Q := h
theorem Num.mono {H H' : Hp} {n : Nat} {Q : VK} (k : Num H n Q) (x : Ex H H') : Num H' n Q := fun d H2 y h => k d H2 (x.trans y) h
theorem Und.mono {H H' : Hp} {n : Nat} {Q : VK} (k : Und H n Q) (x : Ex H H') : Und H' n Q := fun d H2 y h h2 => k d H2 (x.trans y) h h2
theorem Prs.mono {H H' : Hp} {a b : Int} {Q : VK} (k : Prs H a b Q) (x : Ex H H') : Prs H' a b Q := fun p H2 y h => k p H2 (x.trans y) h
theorem cm_sm {i j : Int} (h1 : i.natAbs < 2 ^ 2000) (h2 : j.natAbs < 2 ^ 2000) : CMulW i j := wide_mul h1 h2 (by decide) (by decide) (by decide)
theorem le_pow {i : Int} {n m : Nat} (h : i.natAbs < 2 ^ n) (l : n ≤ m) : i.natAbs < 2 ^ m := Nat.lt_of_lt_of_le h (Nat.pow_le_pow_right (by decide) l)
end Rs
namespace Rs
open PySem PySem.Spec PyProof.Rows L2 He Mt
theorem tup_i {H : Hp} {vs : List V} {P : Addr → Hp → Prop} (hl : vs.length ≤ sizeLine) (h : ∀ p H', Ex H H' → H' p = some (.tup vs) → P p H') : vs.length ≤ sizeLine ∧ ∀ p H2, H p = none → Ex H H2 → H2 = upd H p (.tup vs) → P p H2 :=
  ⟨hl, fun p H2 h0 x e => h p H2 x (by rw [e]; exact upd_same)⟩
theorem lst_i {H : Hp} {vs : List V} {P : Addr → Hp → Prop} (hl : vs.length ≤ sizeLine) (h : ∀ p H', H p = none → Ex H H' → H' p = some (.lst vs) → P p H') : vs.length ≤ sizeLine ∧ ∀ p H2, H p = none → Ex H H2 → H2 = upd H p (.lst vs) → P p H2 :=
  ⟨hl, fun p H2 h0 x e => h p H2 h0 x (by rw [e]; exact upd_same)⟩
theorem len1 {a : V} : [a].length ≤ sizeLine := (show 1 ≤ sizeLine by decide)
theorem len5 {a b c d e : V} : [a, b, c, d, e].length ≤ sizeLine := (show 5 ≤ sizeLine by decide)
theorem len2 {a b : V} : [a, b].length ≤ sizeLine := (show 2 ≤ sizeLine by decide)
theorem len3 {a b c : V} : [a, b, c].length ≤ sizeLine := (show 3 ≤ sizeLine by decide)
theorem len4 {a b c d : V} : [a, b, c, d].length ≤ sizeLine := (show 4 ≤ sizeLine by decide)
def spBegin (K : PySem.W.Frag) : Sp := fun vs H Q _ => ∃ a ns, vs = [.ref a] ∧ SqL K H a (List.map V.int ns) ∧ ∀ p H', Ex H H' → Sou H' p → Q (.ref p) H'
theorem cut_ints (ns : List Int) (i : Int) : ∃ ms : List Int, cutV (ns.map V.int) none (some i) = ms.map V.int := by
  refine ⟨(ns.drop (HT.sIx (ns.map V.int).length 0 none)).take (HT.sIx (ns.map V.int).length (ns.map V.int).length (some i) - HT.sIx (ns.map V.int).length 0 none), ?_⟩
  unfold cutV
  rw [List.map_take, List.map_drop]
theorem src0 {l : Addr} {i b r : Int} (h1 : 0 ≤ i) (h2 : 0 ≤ r) (h3 : r < 2147483647) : SrcL l (.lst [.ref l, .int i, .int b, .int r]) := ⟨i, b, r, rfl, h1, h2, h3⟩
end Rs

namespace Rs
open PySem PySem.Spec PyProof.Rows L2 He
open AutoSeq1 (wpAny_loadPart')
/-! ### a def that returns NotImplemented -/
section
variable {X : Cx} {σ : L2.St} {H : Hp}
def SPN (X : Cx) (pins : List (Addr × Obj)) (D : Hp → Prop) (f : Flow) (s' : Shared) : Prop := f = .ret .notImplemented ∧ ∃ σ' H', Inv X pins σ' H' s' ∧ D H'
def WBN (X : Cx) (st : List Stmt) (D : Hp → Prop) (σ : L2.St) (H : Hp) : Prop := ∀ pins s, Inv X pins σ H s → wpAny (model X.prog X.w) X.A (execs st X.env) (SPN X pins D) X.xe s
theorem wbn_if {c : Expr} {p pos pos2 : Pos} {rest : List Stmt} {D : Hp → Prop} (bn : Bn X "NotImplemented") (h : WT X c σ H fun k H1 => k = true ∧ D H1) : WBN X (.If c [.Return (some (.Name "NotImplemented" p)) pos] [] pos2 :: rest) D σ H := by
  intro pins s I
  refine wpAny_execs_cons (wpAny_If (thn (h pins s I) fun d s1 z => ?_))
  obtain ⟨H1, I1, rfl, q⟩ := z
  refine wpAny_execs_cons (wpAny_Return_some (ld_blt I1 bn.gl bn.no PyProof.Rows.Boot.NotImplemented ?_))
  exact ⟨rfl, σ, H1, I1, q⟩
end
/-- a def, by position, that returns NotImplemented -/
abbrev SpN := List V → Hp → (Hp → Prop) → XK → Prop
def CRN (CX : CXT) (outer : List Env) (P : Program) (w : World) (H : Hp) (s : Shared) (D : Hp → Prop) (E : XK) (r : Result) (s' : Shared) : Prop :=
  match r with
  | .ok (.ret u) => u = .notImplemented ∧ ∃ H', s'.os = s.os ∧ AllBare s'.gens ∧ Un (frs outer) [] H H' s.heap s'.heap ∧ HOk P w H' s'.heap ∧ D H'
  | .ok _ => False
  | .error e => CX outer H s E e s'
def FnN (P : Program) (w : World) (K : PySem.W.Frag) (mg : Str → Option Value) (base : Heap) (CX : CXT) (k : Nat) (f : Addr) (sp : SpN) : Prop :=
  ∀ (A : Around) (outer : List Env) (s : Shared) (H : Hp) (us : List Value) (vs : List V) (D : Hp → Prop) (E : XK), Room k A → Env0 P w K mg base A outer s H → Vals vs us → sp vs H D E →
    codeAny (model P w) A (.call (.ref f) ⟨us, []⟩) (CRN CX outer P w H s D E) s
section
variable {P : Program} {w : World} {K : PySem.W.Frag} {mg : Str → Option Value} {base : Heap} {N ps : List Str} {name qual : Str} {pa : Arguments} {body : List Stmt} {sc : Scope} {dvs : List V} {kws : List (Str × V)} {f : Addr} {fd : FuncData} {k : Nat} {sp : SpN}
theorem def_ni (F : FunD K name qual pa body sc dvs kws f fd) (hb : Binds K fd ps []) (S : FnScope N ps sc) (len : ∀ vs H D E, sp vs H D E → vs.length = ps.length)
    (hbody : ∀ (X : Cx), X.prog = P → X.w = w → X.K = K → X.mg = mg → X.base = base → X.N = N → X.env.scope = sc → (∀ x, X.fn x = true) → N.Nodup → ∀ (H : Hp) (vs : List V) (D : Hp → Prop) (E : XK), Body X k (fun _ => E) → sp vs H D E → WBN X body D (start N vs) H) :
    FnN P w K mg base (RX P w) (k + 1) f sp := by
  obtain ⟨oc, od, dV, kV, doc, pm, an, cdv, ct, osl, rfl, lk, hcd, _, _⟩ := F.ex
  intro A outer s H us vs D E hr e0 r hsp
  have hl := len _ _ _ _ hsp
  have KX : K.In s.heap := e0.mod.kin.keeps fun b o e => (e0.bs b o e).1
  have lim : s.heap.NoLimit := e0.mod.nolimit.keeps fun b o e => (e0.bs b o e).1
  have hkind : ∀ y ∈ ps.zip us, sc.names.lookup y.1 = some .local ∨ (sc.names.lookup y.1 = some .cell ∧ ((cellsFrom (s.heap.objs.size + 1) sc.names []).lookup y.1).isSome = true) := fun ⟨n, v⟩ hy => by
    rcases S.par n (List.of_mem_zip hy).1 with q | q
    · exact .inl q
    · exact .inr ⟨q, PySem.W.cellsFrom_some _ _ _ (.inl q)⟩
  have hul : (us ++ []).length = ps.length := by rw [List.append_nil, ← r.length, hl]
  have hbd := hb s us KX hul
  rw [List.append_nil] at hbd
  refine codeAny_call_function hr.depth (KX _ _ lk) rfl S.co S.gen rfl (PySem.W.codeRec_of KX hcd) (hbd _ _ _ _ ?_)
  refine wpAny_newFunctionEnv_cells S.kind hkind fun env he s1 x => ?_
  subst he
  refine ⟨lim.keeps x.toInCall.keep, codeAny_func ?_⟩
  have I : Inv (bx P w K mg base N qual sc f cdv A outer s H E) [] (start N vs) H s1 := inv_start S hr.hd e0 hl r x
  have hq := hbody (bx P w K mg base N qual sc f cdv A outer s H E) rfl rfl rfl rfl rfl rfl rfl (fun _ => rfl) S.nd H vs D E (body_of (hr.deeper _)) hsp
  refine wpAny_mono (hq [] s1 I) (fun fl s' hs => ?_) fun e s' hs => hs
  obtain ⟨rfl, σ', H', J, q⟩ := hs
  exact ⟨rfl, H', J.os, J.bare, J.base, J.hok, q⟩
end
section
variable {X : Cx} {σ : L2.St} {H : Hp} {pins : List (Addr × Obj)} {s : Shared}
def EPN (X : Cx) (pins : List (Addr × Obj)) (σ : L2.St) (D : Hp → Prop) (u : Value) (s' : Shared) : Prop := u = .notImplemented ∧ ∃ H', Inv X pins σ H' s' ∧ D H'
theorem run_ni {A : Around} {j : Nat} {f : Addr} {sp : SpN} {E : XK} {D : Hp → Prop} {us : List Value} {vs : List V} (F : FnN X.prog X.w X.K X.mg X.base (RX X.prog X.w) j f sp) (hr : Room j A) (e0 : Env0 X.prog X.w X.K X.mg X.base A X.stack s H) (hx : Passes (RX X.prog X.w) X E) (I : Inv X pins σ H s) (r : Vals vs us) (h : sp vs H D E) :
    wpAny (model X.prog X.w) A (call (.ref f) us) (EPN X pins σ D) X.xe s := by
  refine wpAny_call (codeAny_mono (F A X.stack s H us vs D E hr e0 r h) fun r s' hq => ?_)
  cases r with
  | error e => exact hx pins σ H s e s' I hq
  | ok fl =>
    cases fl with
    | ret u =>
      obtain ⟨rfl, H', h1, h2, h3, h4, q⟩ := hq
      obtain ⟨v, H2, I2, _, q2⟩ := I.after (show CE X.stack X.prog X.w H s (fun _ H' => D H') Value.none s' from ⟨V.non, H', h1, h2, h3, h4, rfl, q⟩)
      exact ⟨rfl, H2, I2, q2⟩
    | next => exact False.elim hq
    | brk => exact False.elim hq
    | cont => exact False.elim hq
end

/-! ### object.__ne__ of an own class with an __eq__ of its own -/
theorem neOwn_ok {K : PySem.W.Frag} {C f : Addr} (h : neOwnB K C f = true) : NeOwn K C f := by
  obtain ⟨h1, h⟩ := ba h
  obtain ⟨h2, h⟩ := ba h
  obtain ⟨h3, h⟩ := ba h
  obtain ⟨h4, h⟩ := ba h
  obtain ⟨h5, h⟩ := ba h
  obtain ⟨h6, h⟩ := ba h
  obtain ⟨h7, h8⟩ := ba h
  exact ⟨of_decide_eq_true h1, h2, of_decide_eq_true h3, of_decide_eq_true h4, of_decide_eq_true h5, of_decide_eq_true h6, of_decide_eq_true h7, of_decide_eq_true h8⟩
section
variable {M : Model} {prog : Program} {w : World} {A : Around} {E : Value → Shared → Prop} {s : Shared} {K : PySem.W.Frag} {x C f : Addr} {ox : Obj} {od : Option Obj} {b : Value}
theorem ifBound_objNe {args : List Value} {Q : Option Value → Shared → Prop} (X : K.In s.heap) (I : PySem.W.InstAt s.heap x ox C od) (hs : PySem.W.findIn K (.ref C) "__ne__" = some (some (.builtin "object.__ne__")))
    (h : wpAny M A (call (.builtin "object.__ne__") (.ref x :: args)) (fun v => Q (some v)) E s) : wpAny M A (callSpecialIfBound? (.ref x) "__ne__" args) Q E s := by
  simp only [callSpecialIfBound?, bindSpecialIfBound?]
  refine wpAny_holding (wpAny_bind (wpAny_bind (wpAny_bind (I.type.here ((PySem.W.looks_findIn X hs).here ?_)))))
  refine wpAny_bind (wpAny_askSetting (wpAny_ite ?_))
  have fin : wpAny M A (call (.builtin "object.__ne__") ([.ref x] ++ args) >>= fun v => pure (some v)) Q E s := wpAny_bind (wpAny_mono h (fun v s' h' => wpAny_pure h') fun _ _ h' => h')
  split
  · exact wpAny_bind (wpAny_of_eq (F.cmp_object.ne.bind _) (wpAny_pure (by exact fin)))
  · exact wpAny_tryCatch (wpAny_bind (wpAny_of_eq (F.cmp_object.ne.bind _) (wpAny_pure (by exact fin))))
/-- x.__ne__(b) where x.__eq__(b) is a bool or NotImplemented -/
theorem try_ne {Q : Option Value → Shared → Prop} (hu : A.units + 1 < cLine) (X : K.In s.heap) (I : PySem.W.InstAt s.heap x ox C od) (c : NeOwn K C f)
    (h : wpAny (model prog w) A.in1 (call (.ref f) [.ref x, b]) (fun v s' => (∃ r, v = .bool r ∧ Q (some (.bool (!r))) s') ∨ (v = .notImplemented ∧ Q none s')) E s) :
    wpAny (model prog w) A (tryCompare (.ref x) "__ne__" b) Q E s := by
  unfold tryCompare
  refine wpAny_bind (ifBound_objNe X I c.ne (wpAny_call (codeAny_call_builtin F.cmp_object.ne.plain F.cmpEntry_ne (PySem.W.check_slot F.cmpKind_ne F.cmpSplit_ne (I.type.andThen (PySem.W.looks_mroIn X c.ob)) (F.cmpArgs_ne _ _) ?_))))
  unfold Builtin.«object.__ne__»
  have hu' : A.in1.units < cLine := hu
  repeat (first
    | with_reducible refine wpAny_cRoomFor hu' ?_
    | (refine wpAny_bind (m := callSpecialIfBound? (.ref x) (Str.ofString "__eq__") [b])
        (PySem.W.ifBound_K X I c.eq c.fn (wpAny_mono h (fun v s' z => ?_) fun _ _ e => e)))
    | wp_step)
  rcases z with ⟨r, rfl, q⟩ | ⟨rfl, q⟩
  · repeat (first | exact ⟨_, rfl, wpAny_pure q⟩ | exact wpAny_truthy_bool q | (refine wpAny_bind (m := truthy (.bool _)) (wpAny_truthy_bool ?_)) | wp_step)
    exact q
  · repeat (first | exact ⟨_, rfl, wpAny_pure q⟩ | wp_step)
    exact q
end

/-! ### a value of another kind beside an instance: its own == and != decline -/
section
variable (x : Addr) (ox : Obj)
theorem decl_ne (i : Int) (t : Tok) : Meets (Builtin.«int.__ne__» ⟨[.int i t, .ref x], []⟩) (DeclS x ox) := .of_wp fun prog w A R s q => by
  obtain ⟨hp, g, d, tk, os⟩ := s
  obtain ⟨e1, e2, z⟩ := q
  wp_walk using wpAny_loadPart' e1, wpAny_load e1
  rw [e2]
  wp_walk
  exact ⟨_, rfl, z⟩
end
section
variable {M : Model} {A : Around} {E : Value → Shared → Prop} {s : Shared} {K : PySem.W.Frag} {x C f p : Addr} {ox : Obj} {od : Option Obj} {Q : Fin → Shared → Prop}
end

section
variable {X : Cx} {k j : Nat} {E : XK} {sp : SpN} {C f a dx : Addr} {fs : List (Str × V)} {H : Hp} {Q : VK} {v : V}
theorem looks_ty {M : Model} {s : Shared} {u : Value} {T : String} (h : s.TypeIs u T) {A : Around} {E : Value → Shared → Prop} {Q : Value → Shared → Prop} (q : Q (.type T) s) : wpAny M A (typeOf u) Q E s := wpAny_typeOf h q
/-- x == v, v of another kind -/
theorem eq_fgn (B : Body X k fun _ => E) (c : NeOwn X.K C f) (F : FnN X.prog X.w X.K X.mg X.base (RX X.prog X.w) j f sp) (hj : j ≤ k) (ea : H a = some (.ins C dx fs)) (g : Fgn H v) (h : sp [.ref a, v] H (fun H' => H' a = some (.ins C dx fs) ∧ Fgn H' v ∧ Q (.bl false) H') E) :
    Op2 X (compareOp .Eq) (.ref a) v H Q := by
  intro pins s σ u u' I ru rv
  cases ru
  obtain ⟨od, J⟩ := inst_of I ea
  have G := g.at I rv ea c
  obtain ⟨T, hT, hs⟩ := G.ty
  have r1 := run_ni (us := [.ref a, u']) (vs := [.ref a, v]) F (B.room.mono hj) I.env0 B.pass I (.cons rfl (.cons rv .nil)) h
  show wpAny _ _ (richCompare .Eq (.ref a) u') _ _ s
  simp only [richCompare, cmpInfo_Eq, oneThing_ref]
  refine wpAny_holding (wpAny_bind (wpAny_cRoomFor B.room.units0 ?_))
  refine wpAny_bind (J.type.here (wpAny_bind (looks_ty hT ?_)))
  have ne : (Value.ref C != Value.type T) = true := by simp
  simp only [ne, if_true]
  refine wpAny_bind ((PySem.W.looks_subIn I.kIn hs).here ?_)
  simp only [Bool.false_eq_true, if_false, Bool.not_false, if_true]
  refine wpAny_bind (m := tryCompare (.ref a) _ u') ?_
  unfold tryCompare
  refine wpAny_bind (PySem.W.ifBound_K I.kIn J c.eq c.fn (wpAny_mono r1 (fun v s1 z => ?_) fun _ _ z => z))
  obtain ⟨rfl, H1, I1, e1, g1, q⟩ := z
  refine wpAny_pure ?_
  have G1 := g1.at I1 rv e1 c
  refine wpAny_bind (m := tryCompare u' _ (.ref a)) (wpAny_mono (G1.eq _ _ _ _) (fun r s2 z => ?_) fun _ _ z => z)
  obtain ⟨rfl, rfl⟩ := z
  exact wpAny_bind (wpAny_rule (wpAny_bind (G1.same _ _ _ _ (wpAny_pure ⟨.bl false, H1, I1, rfl, q⟩))))
/-- x != v, v of another kind -/
theorem ne_fgn (B : Body X k fun _ => E) (c : NeOwn X.K C f) (F : FnN X.prog X.w X.K X.mg X.base (RX X.prog X.w) j f sp) (hj : j + 1 ≤ k) (ea : H a = some (.ins C dx fs)) (g : Fgn H v) (h : sp [.ref a, v] H (fun H' => H' a = some (.ins C dx fs) ∧ Fgn H' v ∧ Q (.bl true) H') E) :
    Op2 X (compareOp .NotEq) (.ref a) v H Q := by
  intro pins s σ u u' I ru rv
  cases ru
  obtain ⟨od, J⟩ := inst_of I ea
  have G := g.at I rv ea c
  obtain ⟨T, hT, hs⟩ := G.ty
  have r1 := run_ni (us := [.ref a, u']) (vs := [.ref a, v]) F (B.room.mono hj).in1 I.env0.in1 B.pass I (.cons rfl (.cons rv .nil)) h
  show wpAny _ _ (richCompare .NotEq (.ref a) u') _ _ s
  simp only [richCompare, cmpInfo_NotEq, oneThing_ref]
  refine wpAny_holding (wpAny_bind (wpAny_cRoomFor B.room.units0 ?_))
  refine wpAny_bind (J.type.here (wpAny_bind (looks_ty hT ?_)))
  have ne : (Value.ref C != Value.type T) = true := by simp
  simp only [ne, if_true]
  refine wpAny_bind ((PySem.W.looks_subIn I.kIn hs).here ?_)
  simp only [Bool.false_eq_true, if_false, Bool.not_false, if_true]
  refine wpAny_bind (m := tryCompare (.ref a) _ u') (try_ne (by have := B.room.un; omega) I.kIn J c (wpAny_mono r1 (fun v s1 z => .inr ?_) fun _ _ z => z))
  obtain ⟨rfl, H1, I1, e1, g1, q⟩ := z
  refine ⟨rfl, ?_⟩
  have G1 := g1.at I1 rv e1 c
  refine wpAny_bind (m := tryCompare u' _ (.ref a)) (wpAny_mono (G1.ne _ _ _ _) (fun r s2 z => ?_) fun _ _ z => z)
  obtain ⟨rfl, rfl⟩ := z
  exact wpAny_bind (wpAny_rule (wpAny_bind (G1.same _ _ _ _ (wpAny_pure ⟨.bl true, H1, I1, rfl, q⟩))))
end
section
variable {X : Cx} {k j : Nat} {E : XK} {sp : Sp} {C f a b dx dy : Addr} {fs gs : List (Str × V)} {H : Hp} {Q : VK} {v : V} {i : Int}
/-- the answer of __eq__, turned round -/
def NotQ (Q : VK) : VK := fun z H' => ∃ r, z = .bl r ∧ Q (.bl (!r)) H'
theorem ne_back {pins : List (Addr × Obj)} {σ : L2.St} {A : Around} {t : Sem Value} {R : Value → Shared → Prop} {s : Shared} (h : wpAny (model X.prog X.w) A t (EP X pins σ (NotQ Q)) R s) :
    wpAny (model X.prog X.w) A t (fun v s' => (∃ r, v = .bool r ∧ EP X pins σ Q (.bool (!r)) s') ∨ (v = .notImplemented ∧ False)) R s := wpAny_mono h (fun u s' z => by
  obtain ⟨v, H', I, r, c, rfl, q⟩ := z
  cases r
  exact .inl ⟨c, rfl, .bl (!c), H', I, rfl, q⟩) fun _ _ z => z
theorem ne_own (B : Body X k fun _ => E) (c : NeOwn X.K C f) (F : FnR X.prog X.w X.K X.mg X.base (RX X.prog X.w) j f sp) (hj : j + 1 ≤ k) {pins : List (Addr × Obj)} {s : Shared} {σ : L2.St} {u' : Value} (I : Inv X pins σ H s) (rv : RelV v u') (ea : H a = some (.ins C dx fs)) (h : sp [.ref a, v] H (NotQ Q) E) :
    wpAny (model X.prog X.w) X.A (tryCompare (.ref a) "__ne__" u') (fun r s' => ∃ v, r = some v ∧ EP X pins σ Q v s') X.xe s := by
  obtain ⟨od, J⟩ := inst_of I ea
  have r1 := ne_back (wpAny_call (SlX.run_at (us := [.ref a, u']) (ws := [.ref a, v]) F (B.room.mono hj).in1 I.env0.in1 B.pass I (.cons rfl (.cons rv .nil)) h))
  refine try_ne (by have := B.room.un; omega) I.kIn J c (wpAny_mono r1 (fun v s1 z => ?_) fun _ _ z => z)
  rcases z with ⟨r, rfl, q⟩ | ⟨_, q⟩
  · exact .inl ⟨r, rfl, _, rfl, q⟩
  · exact q.elim
theorem ne_tt (B : Body X k fun _ => E) (c : NeOwn X.K C f) (F : FnR X.prog X.w X.K X.mg X.base (RX X.prog X.w) j f sp) (hj : j + 1 ≤ k) (ea : H a = some (.ins C dx fs)) (eb : H b = some (.ins C dy gs)) (h : sp [.ref a, .ref b] H (NotQ Q) E) :
    Op2 X (compareOp .NotEq) (.ref a) (.ref b) H Q := by
  intro pins s σ u v I ru rv
  cases ru
  cases rv
  obtain ⟨od, J⟩ := inst_of I ea
  obtain ⟨od', J'⟩ := inst_of I eb
  have r1 := ne_own B c F hj I (v := .ref b) (u' := .ref b) rfl ea h
  show wpAny _ _ (richCompare .NotEq (.ref a) (.ref b)) _ _ s
  simp only [richCompare, cmpInfo_NotEq, oneThing_ref]
  refine wpAny_holding (wpAny_bind (wpAny_cRoomFor B.room.units0 ?_))
  refine wpAny_bind (J.type.here (wpAny_bind (J'.type.here ?_)))
  have ne : (Value.ref C != Value.ref C) = false := by simp
  simp only [ne, Bool.false_eq_true, if_false]
  refine wpAny_bind (wpAny_pure ?_)
  simp only [Bool.false_eq_true, if_false]
  refine wpAny_bind (m := tryCompare (.ref a) _ (.ref b)) (wpAny_mono r1 (fun r s1 z => ?_) fun _ _ z => z)
  obtain ⟨w', rfl, q⟩ := z
  exact wpAny_pure q
theorem ne_ti (B : Body X k fun _ => E) (c : NeOwn X.K C f) (F : FnR X.prog X.w X.K X.mg X.base (RX X.prog X.w) j f sp) (hj : j + 1 ≤ k) (ea : H a = some (.ins C dx fs)) (h : sp [.ref a, .int i] H (NotQ Q) E) : Op2 X (compareOp .NotEq) (.ref a) (.int i) H Q := by
  intro pins s σ u v I ru rv
  cases ru
  obtain ⟨t, rfl⟩ := rv
  obtain ⟨od, J⟩ := inst_of I ea
  have r1 := ne_own B c F hj I (v := .int i) (u' := .int i t) ⟨t, rfl⟩ ea h
  show wpAny _ _ (richCompare .NotEq (.ref a) (.int i t)) _ _ s
  simp only [richCompare, cmpInfo_NotEq, oneThing_ref]
  refine wpAny_holding (wpAny_bind (wpAny_cRoomFor B.room.units0 ?_))
  refine wpAny_bind (J.type.here (wpAny_bind (looks_ty (typeIs_int _ _ _) ?_)))
  have ne : (Value.ref C != Value.type "int") = true := by simp
  simp only [ne, if_true]
  refine wpAny_bind ((PySem.W.looks_subIn I.kIn (sub_tc (l := ["int", "object"].map Value.type) (by decide +kernel) fun v h => tys h)).here ?_)
  simp only [Bool.false_eq_true, if_false, Bool.not_false, if_true]
  refine wpAny_bind (m := tryCompare (.ref a) _ (.int i t)) (wpAny_mono r1 (fun r s1 z => ?_) fun _ _ z => z)
  obtain ⟨w', rfl, q⟩ := z
  exact wpAny_pure q
theorem ne_it (B : Body X k fun _ => E) (c : NeOwn X.K C f) (F : FnR X.prog X.w X.K X.mg X.base (RX X.prog X.w) j f sp) (hj : j + 1 ≤ k) (ea : H a = some (.ins C dx fs)) (h : sp [.ref a, .int i] H (NotQ Q) E) : Op2 X (compareOp .NotEq) (.int i) (.ref a) H Q := by
  intro pins s σ u v I ru rv
  cases rv
  obtain ⟨t, rfl⟩ := ru
  obtain ⟨od, J⟩ := inst_of I ea
  have r1 := ne_own B c F hj I (v := .int i) (u' := .int i t) ⟨t, rfl⟩ ea h
  have l1 : s.TypeIs (.int i t) "int" := typeIs_int _ _ _
  have dcl : wpAny (model X.prog X.w) X.A (tryCompare (.int i t) "__ne__" (.ref a)) (fun r s' => r = none ∧ s' = s) X.xe s :=
    wpAny_tryCompare_declines l1 PySem.F.slot_int_ne (call_meets PySem.F.slot_int_ne l1 PySem.F.entry_int_ne (PySem.F.args_int_ne_2 _ _) (decl_ne a _ i t) ⟨J.at_, rfl, rfl, rfl, rfl⟩)
  show wpAny _ _ (richCompare .NotEq (.int i t) (.ref a)) _ _ s
  simp only [richCompare, cmpInfo_NotEq, l1.oneThing_none]
  refine wpAny_holding (wpAny_bind (wpAny_cRoomFor B.room.units0 ?_))
  refine wpAny_bind (looks_ty l1 (wpAny_bind (J.type.here ?_)))
  have ne : (Value.type "int" != Value.ref C) = true := by simp
  simp only [ne, if_true]
  refine wpAny_bind ((PySem.W.looks_subIn I.kIn c.sub).here ?_)
  simp only [Bool.false_eq_true, if_false, Bool.not_false, if_true]
  refine wpAny_bind (m := tryCompare (.int i t) _ (.ref a)) (wpAny_mono dcl (fun r s1 z => ?_) fun _ _ z => z)
  obtain ⟨rfl, rfl⟩ := z
  refine wpAny_bind (m := tryCompare (.ref a) _ (.int i t)) (wpAny_mono r1 (fun r s2 z => ?_) fun _ _ z => z)
  obtain ⟨w', rfl, q⟩ := z
  exact wpAny_pure q
end
end Rs

namespace Rs
open PySem PySem.Spec PyProof.Rows L2 He
/-! ### texts -/
/-- an int's text -/
def itx (i : Int) : Str := Str.ofString (toString i)
theorem itx_len {i : Int} (h : i.natAbs.log2 < 1920) : (itx i).length ≤ 1921 := int_text_len_1921 h
section
variable {X : Cx} {σ : L2.St} {H : Hp} {D : Ends} {Q : VK} {x y : Str} {i : Int} {a b c e : Expr} {p pos : Pos}
theorem we_strI (bn : Bn X "str") (h : WE X a σ H fun v H1 => ∃ i, v = .int i ∧ i.natAbs.log2 < 1920 ∧ Q (.str (itx i)) H1) (hs : starEach [a] X.env = [(false, eval a X.env)] := by rfl) (hl : (backTo pos (starEach [] X.env)).any (·.1) = false := by rfl) :
    WE X (.Call (.Name "str" p) [a] [] pos) σ H Q := we_callT call_str_int bn boot_str (wa_one (we_mono h fun v H1 q => by
    obtain ⟨i, rfl, h1, q⟩ := q
    exact ⟨i, rfl, h1, q⟩) hs) (by decide) (by decide) hs hl
theorem o_catS (hz : x.length + y.length ≤ sizeLine) (q : Q (.str (x ++ y)) H) : Op2 X (binaryOp .Add) (.str x) (.str y) H Q := op2_of op_add_str ⟨x, y, rfl, rfl, hz, q⟩
theorem we_fmt (h : WE X e σ H fun v H1 => (∃ y : Str, v = .str y ∧ y.length ≤ sizeLine ∧ Q (.str y) H1) ∨ ∃ i : Int, v = .int i ∧ i.natAbs.log2 < 1920 ∧ Q (.str (itx i)) H1) : WE X (.FormattedValue e (-1) none pos) σ H Q := weP (pe_fmt peS) h
theorem str_e (x : Str) : Str.empty ++ x = x := by
  cases x
  show Str.append _ _ = _
  simp [Str.append, Str.empty]
theorem str_assoc (x y z : Str) : x ++ y ++ z = x ++ (y ++ z) := by
  show Str.append (Str.append _ _) _ = Str.append _ (Str.append _ _)
  simp [Str.append, Array.append_assoc]
theorem str_len (x y : Str) : (x ++ y).length = x.length + y.length := by
  show (Str.append x y).length = _
  simp [Str.append, Str.length]
theorem we_js3 (h : WE X a σ H fun v H1 => ∃ x : Str, v = .str x ∧ x.length ≤ sizeLine ∧ WE X b σ H1 fun w H2 => ∃ y : Str, w = .str y ∧ (x ++ y).length ≤ sizeLine ∧ WE X c σ H2 fun u H3 => ∃ z : Str, u = .str z ∧ (x ++ y ++ z).length ≤ sizeLine ∧ Q (.str (x ++ y ++ z)) H3) : WE X (.JoinedStr [a, b, c] pos) σ H Q :=
  weP (pe_joined (.cons peS (.cons peS (.cons peS .nil)))) (we_mono h fun v H1 z => by
    obtain ⟨x, rfl, h1, z⟩ := z
    refine ⟨x, rfl, by rw [str_e]; exact h1, we_mono z fun w H2 z => ?_⟩
    obtain ⟨y, rfl, h2, z⟩ := z
    refine ⟨y, rfl, by rw [str_e]; exact h2, we_mono z fun u H3 z => ?_⟩
    obtain ⟨t, rfl, h3, z⟩ := z
    exact ⟨t, rfl, by rw [str_e]; exact h3, by rw [str_e]; exact z⟩)
end
/-- the text of a fraction in lowest terms -/
def ftx (n d : Int) : Str := if d = 1 then itx n else itx n ++ "/" ++ itx d

section
variable {X : Cx} {σ : L2.St} {H : Hp} {D : Ends} {k : Nat} {E : L2.St → XK} {x : Str} {px pos : Pos} {a : Expr} {i : Nat} {body : List Stmt}
/-- for x in a list: all is chosen once the list is there -/
def ForL (X : Cx) (xs : List V) (l : Addr) (i : Nat) (body : List Stmt) (D : Ends) (σ : L2.St) (H : Hp) : Prop :=
  ∃ P : Nat → L2.St → Hp → Prop, P 0 σ H ∧ (∀ j σ H, j ≤ xs.length → P j σ H → SqL X.K H l xs) ∧ (∀ j v σ H, xs[j]? = some v → P j σ H → WB X body { D with nx := P (j + 1), ct := P (j + 1), bk := D.nx } (σ.set i (some v)) H) ∧ ∀ σ H, P xs.length σ H → D.nx σ H
theorem ws_for_listE (B : Body X k E) (s : Sl X i x) (h : WE X a σ H fun v H1 => ∃ l xs, v = .ref l ∧ ForL X xs l i body D σ H1) (hs : ∀ v, foldedSetIterable a X.env v = pure v := by intro _; rfl) : WS X (.For (.Name x px) a body [] pos) D σ H := by
  refine wsP (ps_for B.po B.calm (pi_list peS) (pg_name s.nd s.at_ s.loc s.fn) pbS hs) ?_
  refine we_mono h fun v H1 q => ?_
  obtain ⟨l, xs, rfl, P, q0, hl, ht, hd⟩ := q
  exact ⟨l, rfl, ⟨xs, hl 0 σ H1 (Nat.zero_le _) q0⟩, for_list P q0 hl ht hd⟩
def ForT (X : Cx) (xs : List V) (l : Addr) (i : Nat) (body : List Stmt) (D : Ends) (σ : L2.St) (H : Hp) : Prop :=
  ∃ P : Nat → L2.St → Hp → Prop, P 0 σ H ∧ (∀ j σ H, j ≤ xs.length → P j σ H → SqT X.K H l xs) ∧ (∀ j v σ H, xs[j]? = some v → P j σ H → WB X body { D with nx := P (j + 1), ct := P (j + 1), bk := D.nx } (σ.set i (some v)) H) ∧ ∀ σ H, P xs.length σ H → D.nx σ H
theorem ws_for_tupE (B : Body X k E) (s : Sl X i x) (h : WE X a σ H fun v H1 => ∃ l xs, v = .ref l ∧ ForT X xs l i body D σ H1) (hs : ∀ v, foldedSetIterable a X.env v = pure v := by intro _; rfl) : WS X (.For (.Name x px) a body [] pos) D σ H := by
  refine wsP (ps_for B.po B.calm (pi_tup peS) (pg_name s.nd s.at_ s.loc s.fn) pbS hs) ?_
  refine we_mono h fun v H1 q => ?_
  obtain ⟨l, xs, rfl, P, q0, hl, ht, hd⟩ := q
  exact ⟨l, rfl, ⟨xs, hl 0 σ H1 (Nat.zero_le _) q0⟩, for_tup P q0 hl ht hd⟩
end
end Rs

namespace Rs
open PySem PySem.Spec PyProof.Rows L2 He
/-! ### try .. except -/
section
variable {X : Cx} {i : Nat} {x : Str} {pn : List (Addr × Obj)} {xe : Value → Shared → Prop} {a : Addr}
theorem Sl.tr (s : Sl X i x) : Sl (X.tr pn xe) i x := ⟨s.at_, s.nd, s.loc, s.fn, s.d1, s.d2⟩
theorem Gn.tr (s : Gn X x) : Gn (X.tr pn xe) x := ⟨s.gl, s.d1⟩
theorem Bn.tr (s : Bn X x) : Bn (X.tr pn xe) x := ⟨s.gl, s.no⟩
theorem Sl.su (s : Sl X i x) : Sl (X.suite a pn) i x := ⟨s.at_, s.nd, s.loc, s.fn, s.d1, s.d2⟩
theorem Gn.su (s : Gn X x) : Gn (X.suite a pn) x := ⟨s.gl, s.d1⟩
theorem Bn.su (s : Bn X x) : Bn (X.suite a pn) x := ⟨s.gl, s.no⟩
theorem Body.tr {k : Nat} {E E' : L2.St → XK} (B : Body X k E) (tk : L2N.Takes (X.tr pn xe) fun cls d σ H => E' σ cls d H) (po : PassesOwn (model X.prog X.w) X.A X.env xe) : Body (X.tr pn xe) k E' := ⟨B.calm, B.room, tk, po, B.stk, B.fr⟩
end
section
variable {X : Cx} {x n : Str} {c : Value} {i k : Nat} {E : L2.St → XK} {D : Ends} {σ : L2.St} {H : Hp} {body suite : List Stmt} {b₀ : Stmt} {np pos pos' : Pos}
/-- an except suite: where it runs, a the exception -/
def Sui (X : Cx) (st : List Stmt) (a : Addr) (cls : Value) (d : Option Addr) : TS := fun D σ H => ∀ oe pn, L2N.Zn cls d oe → (∃ vs, oe.data = .fields vs) → WB (X.suite a ((a, oe) :: pn)) st D σ H
theorem ws_try_as (B : Body X k E) (s : Sl X i n) (hln : X.env.kindOf n = some .local) (hc : Names X x c)
    (h : ∀ pn xe, Body (X.tr pn xe) k (fun σ cls d H => wAs X.K c i (Sui X (b₀ :: suite)) (fun cls d σ H => E σ cls d H) D cls d σ H) → WB (X.tr pn xe) body D σ H) (hf : ∀ x, X.fn x = true := by assumption) :
    WS X (.Try body [.ExceptHandler (some (.Name x np)) (some n) (b₀ :: suite) pos'] [] [] pos) D σ H :=
  wsP (L2N.ps_try_as (tb := fun W D σ H => ∀ pn xe, L2N.Takes (X.tr pn xe) W → PassesOwn (model X.prog X.w) X.A X.env xe → WB (X.tr pn xe) body D σ H) (ts := Sui X (b₀ :: suite)) (B.stk hf) (B.fr hf) s.nd s.at_ hln hc B.tk
    (fun W pn xe tk po => ⟨fun pins t σ H D I q => q pn xe tk po pins t I⟩) (fun a oe cls d pn hz hf => ⟨fun pins t σ H D I q => q oe pn hz hf pins t I⟩)) fun pn xe tk po => h pn xe (B.tr tk po)
theorem ws_try_only (B : Body X k E) (hc : Names X x c)
    (h : ∀ pn xe, Body (X.tr pn xe) k (fun σ cls d H => wMany X.K (fun cls d σ H => E σ cls d H) D [(c, Sui X (b₀ :: suite))] cls d σ H) → WB (X.tr pn xe) body D σ H) (hf : ∀ x, X.fn x = true := by assumption) :
    WS X (.Try body [.ExceptHandler (some (.Name x np)) none (b₀ :: suite) pos'] [] [] pos) D σ H :=
  wsP (L2N.ps_try_many (tb := fun W D σ H => ∀ pn xe, L2N.Takes (X.tr pn xe) W → PassesOwn (model X.prog X.w) X.A X.env xe → WB (X.tr pn xe) body D σ H) (l := [(c, Sui X (b₀ :: suite))]) (B.stk hf) (B.fr hf) B.tk
    (fun W pn xe tk po => ⟨fun pins t σ H D I q => q pn xe tk po pins t I⟩) (.cons hc (fun a oe cls d pn hz hf => ⟨fun pins t σ H D I q => q oe pn hz hf pins t I⟩) .nil)) fun pn xe tk po => h pn xe (B.tr tk po)
theorem nm_own {C : Addr} (g : Gn X x) (hm : X.mg x = some (.ref C)) : Names X x (.ref C) := ⟨g.gl, g.d1, .inl hm⟩
/-- the clause takes the exception -/
theorem as_yes {K : PySem.W.Frag} {ts : Addr → Value → Option Addr → TS} {Wout : WX} {cls : Value} {d : Option Addr} (e : PySem.W.exmOne K cls c = some true)
    (h : ∀ a, H a = none → ts a cls d { nx := fun σ' H' => D.nx (σ'.set i none) H', rt := D.rt, bk := fun σ' H' => D.bk (σ'.set i none) H', ct := fun σ' H' => D.ct (σ'.set i none) H' } (σ.set i (some (.ref a))) H) : wAs K c i ts Wout D cls d σ H :=
  ⟨true, e, fun _ => h, fun q => nomatch q⟩
theorem as_no {K : PySem.W.Frag} {ts : Addr → Value → Option Addr → TS} {Wout : WX} {cls : Value} {d : Option Addr} (e : PySem.W.exmOne K cls c = some false) (h : Wout cls d σ H) : wAs K c i ts Wout D cls d σ H := ⟨false, e, (fun q => nomatch q), fun _ => h⟩
theorem only_yes {K : PySem.W.Frag} {ts : Addr → Value → Option Addr → TS} {Wout : WX} {cls : Value} {d : Option Addr} (e : PySem.W.exmOne K cls c = some true) (h : ∀ a, H a = none → ts a cls d D σ H) : wMany K Wout D [(c, ts)] cls d σ H := ⟨true, e, fun _ => h, fun q => nomatch q⟩
theorem only_no {K : PySem.W.Frag} {ts : Addr → Value → Option Addr → TS} {Wout : WX} {cls : Value} {d : Option Addr} (e : PySem.W.exmOne K cls c = some false) (h : Wout cls d σ H) : wMany K Wout D [(c, ts)] cls d σ H := ⟨false, e, (fun q => nomatch q), fun _ => h⟩
end
/-! ### isinstance(e, C) in a suite -/
section
variable {X : Cx} {a D : Addr} {oe : Obj} {pn : List (Addr × Obj)} {σ : L2.St} {H : Hp} {Q : VK} {e b : Expr} {p pos : Pos}
theorem we_isE (C : ExcC X.K D) (hz : L2N.Zn (.ref D) none oe) (hf : ∃ vs, oe.data = .fields vs) (bn : Bn (X.suite a ((a, oe) :: pn)) "isinstance")
    (h : WE (X.suite a ((a, oe) :: pn)) e σ H fun v H1 => WE (X.suite a ((a, oe) :: pn)) b σ H1 fun w H2 => v = .ref a ∧ ∃ cv r, (∀ u, RelV w u → u = cv) ∧ PySem.W.kitOne X.K (.ref D) cv = some r ∧ Q (.bl r) H2)
    (hs : starEach [e, b] X.env = (false, eval e X.env) :: starEach [b] X.env := by rfl) (ht : starEach [b] X.env = [(false, eval b X.env)] := by rfl) (hl : (backTo pos (starEach [b] X.env)).any (·.1) = false := by rfl) :
    WE (X.suite a ((a, oe) :: pn)) (.Call (.Name "isinstance" p) [e, b] [] pos) σ H Q :=
  we_callB (call_isE (pn := pn) C hz.zc hf) bn boot_isinstance (wa_two (we_mono h fun v H1 q => we_mono q fun w H2 q => by
    obtain ⟨rfl, cv, r, h1, h2, q⟩ := q
    exact ⟨w, cv, r, rfl, h1, h2, q⟩) hs ht) (by decide) (by decide) hs hl
theorem cv_ref {K : PySem.W.Frag} {C : Addr} {r : Bool} {P : Bool → Prop} (h : PySem.W.kitOne K (.ref D) (.ref C) = some r) (q : P r) : V.ref a = .ref a ∧ ∃ cv r, (∀ u, RelV (.ref C) u → u = cv) ∧ PySem.W.kitOne K (.ref D) cv = some r ∧ P r := ⟨rfl, _, _, fun _ z => z, h, q⟩
theorem cv_ty {K : PySem.W.Frag} {T : String} {r : Bool} {P : Bool → Prop} (h : PySem.W.kitOne K (.ref D) (.type T) = some r) (q : P r) : V.ref a = .ref a ∧ ∃ cv r, (∀ u, RelV (.ty T) u → u = cv) ∧ PySem.W.kitOne K (.ref D) cv = some r ∧ P r := ⟨rfl, _, _, fun _ z => z, h, q⟩
end
theorem excC_ok {K : PySem.W.Frag} {D : Addr} (h : excCB K D = true) : ExcC K D := by
  obtain ⟨h1, h⟩ := ba h
  obtain ⟨h2, h⟩ := ba h
  obtain ⟨h3, h⟩ := ba h
  obtain ⟨h4, h⟩ := ba h
  obtain ⟨h5, h⟩ := ba h
  obtain ⟨h6, h⟩ := ba h
  obtain ⟨h7, h8⟩ := ba h
  exact ⟨of_decide_eq_true h1, of_decide_eq_true h2, of_decide_eq_true h3, h4, of_decide_eq_true h5, of_decide_eq_true h6, of_decide_eq_true h7, of_decide_eq_true h8⟩
end Rs

namespace Rs
open PySem PySem.Spec PyProof.Rows L2 He PySem.Calls ClX
/-! ### keywords -/
def WK (X : Cx) (kws : List Keyword) : TA := fun σ H Q => ∀ pos pins s, Inv X pins σ H s → wpAny (model X.prog X.w) X.A (evalAll ((backToKw pos (keywordEach kws X.env)).map (·.2))) (AP X pins σ Q) X.xe s
theorem pkS {X : Cx} {kws : List Keyword} : PK X kws (WK X kws) := ⟨fun pos pins s _ _ _ I h => h pos pins s I⟩
section
variable {X : Cx} {σ : L2.St} {H : Hp} {Q : VK} {QA : List V → Hp → Prop} {k j n : Nat} {E : L2.St → XK} {x : Str} {sp : Sp} {p pos kpos : Pos} {e : Expr} {es : List Expr} {kws : List Keyword} {C f : Addr} {fd : FuncData} {ps ks : List Str} {nm : Option Str} {g : List Value → List Value → List Value} {gV : List V → List V → List V}
theorem wk_nil (q : QA [] H) : WK X [] σ H QA := fun pos pins s I => pk_nil.run pos pins s σ H QA I q
theorem wk_cons (h : WE X e σ H fun v H1 => WK X kws σ H1 fun vs H2 => QA (v :: vs) H2) : WK X (⟨nm, e, kpos⟩ :: kws) σ H QA := fun pos pins s I => (pk_cons peS pkS).run pos pins s σ H QA I h
/-- a def called with keywords -/
def GKn (P : Program) (w : World) (K : PySem.W.Frag) (mg : Str → Option Value) (base : Heap) (k : Nat) (x : Str) (sp : Sp) (n : Nat) (ks : List Str) (gV : List V → List V → List V) : Prop :=
  ∃ f fd ps g, mg x = some (.ref f) ∧ PySem.W.keepIn K (.ref f) = true ∧ FnOk P w K mg base (RX P w) k f fd ps sp ∧ KBn K fd ps n ks g gV
theorem kw_at {CX : CXT} {E : XK} {pins : List (Addr × Obj)} {s : Shared} {us ws : List Value} {vs zs : List V} (F : FnOk X.prog X.w X.K X.mg X.base CX k f fd ps sp) (hr : Room k X.A) (hb : KBn X.K fd ps n ks g gV) (hx : PassesAt CX X σ E)
    (I : Inv X pins σ H s) (r : Vals vs us) (rz : Vals zs ws) (l1 : vs.length = n) (l2 : zs.length = ks.length) (h : sp (gV vs zs) H Q E) : wpAny (model X.prog X.w) X.A (call (.ref f) us (ks.zip ws)) (EP X pins σ Q) X.xe s :=
  wpAny_call (codeAny_mono (F.run _ _ s H _ _ _ Q E hr I.env0 (hb.to s us ws I.kIn (r.length.symm.trans l1) (rz.length.symm.trans l2)) (hb.rel r rz) h) (out_at hx I))
theorem we_callK (B : Body X k E) (gn : Gn X x) (f : GKn X.prog X.w X.K X.mg X.base j x sp n ks gV) (hj : j ≤ k) (h : WA X (e :: es) σ H fun vs H1 => WK X kws σ H1 fun zs H2 => vs.length = n ∧ zs.length = ks.length ∧ sp (gV vs zs) H2 Q (E σ))
    (hall : (backToKw pos (keywordEach kws X.env)).all (·.1.isSome) = true := by rfl) (hks : (backToKw pos (keywordEach kws X.env)).filterMap (·.1) = ks := by rfl)
    (he : starEach (e :: es) X.env = (false, eval e X.env) :: starEach es X.env := by rfl) (hpl : ((backTo pos (starEach (e :: es) X.env)).any (·.1) || (backToKw pos (keywordEach kws X.env)).any (·.1.isNone)) = false := by rfl) :
    WE X (.Call (.Name x p) (e :: es) kws pos) σ H Q := by
  obtain ⟨f, fd, ps, g, hm, hk, F, hb⟩ := f
  intro pins s I
  refine wpAny_Call_Name_kw (ld_glob I gn.gl hm ?_ gn.d1)
  refine PySem.W.callWith_KW (h₀ := X.base) I.ok.mod.kin hk hall (thn (h pos pins s I) fun us s1 z => ?_) hpl he
  obtain ⟨vs, H1, I1, r, q⟩ := z
  refine thn (q pos pins s1 I1) fun ws s2 z => ?_
  obtain ⟨zs, H2, I2, rz, l1, l2, q⟩ := z
  refine ⟨I2.kIn, ?_⟩
  rw [hks]
  exact kw_at F (B.room.mono hj) hb (B.at σ) I2 r rz l1 l2 q
/-- a class made with keywords -/
def GKk (P : Program) (w : World) (K : PySem.W.Frag) (mg : Str → Option Value) (base : Heap) (k : Nat) (x : Str) (C : Addr) (sp : Sp) (n : Nat) (ks : List Str) (gV : List V → List V → List V) : Prop :=
  ∃ f fd ps g, mg x = some (.ref C) ∧ Mk K C f ∧ FnOk P w K mg base (RX P w) k f fd ps sp ∧ KBn K fd ps (n + 1) ks g gV
theorem kmake_at {CX : CXT} {E : XK} {pins : List (Addr × Obj)} {s : Shared} {us ws : List Value} {vs zs : List V} (M : Mk X.K C f) (F : FnOk X.prog X.w X.K X.mg X.base CX k f fd ps sp) (hr : Room (k + 1) X.A) (hb : KBn X.K fd ps (n + 1) ks g gV)
    (hx : PassesAt CX X σ E) (I : Inv X pins σ H s) (r : Vals vs us) (rz : Vals zs ws) (l1 : vs.length = n) (l2 : zs.length = ks.length) (h : ∀ a dx, H a = none → H dx = none → dx ≠ a → sp (gV (.ref a :: vs) zs) (upd (upd H dx (.own a)) a (.ins C dx [])) (fun v H2 => v = .non ∧ Q (.ref a) H2) E) :
    wpAny (model X.prog X.w) X.A (call (.ref C) us (ks.zip ws)) (EP X pins σ Q) X.xe s := by
  have J := Inv.made (C := C) I
  have hq := h (s.heap.objs.size + 1) s.heap.objs.size (I.hok.fresh (Nat.le_succ _)) (I.hok.fresh (Nat.le_refl _)) (Nat.ne_of_lt (Nat.lt_succ_self _))
  have ru : Vals (V.ref (s.heap.objs.size + 1) :: vs) (Value.ref (s.heap.objs.size + 1) :: us) := .cons rfl r
  have bd := hb.to _ (Value.ref (s.heap.objs.size + 1) :: us) ws J.kIn (ru.length.symm.trans (congrArg Nat.succ l1)) (rz.length.symm.trans l2)
  have run := F.run _ X.stack _ _ ⟨Value.ref (s.heap.objs.size + 1) :: us, ks.zip ws⟩ _ _ _ E (hr.make C us (ks.zip ws)) (J.env0.make C us (ks.zip ws)) bd (hb.rel ru rz) hq
  refine wpAny_call (make_map (f := f) I.kIn M.makes M.init (beq_iff_eq.mp M.fn) (codeAny_mono run fun o t q => ?_))
  have z := out_at hx J o t q
  cases o with
  | error e => exact z
  | ok fl =>
    cases fl with
    | ret u =>
      obtain ⟨v, H', I3, rv, rfl, q3⟩ := z
      exact ⟨rv, ⟨V.ref (s.heap.objs.size + 1), H', I3, rfl, q3⟩⟩
    | next => exact z.elim
    | brk => exact z.elim
    | cont => exact z.elim
theorem we_makeK (B : Body X k E) (gn : Gn X x) (f : GKk X.prog X.w X.K X.mg X.base j x C sp n ks gV) (hj : j + 1 ≤ k) (h : WA X (e :: es) σ H fun vs H1 => WK X kws σ H1 fun zs H2 => vs.length = n ∧ zs.length = ks.length ∧ ∀ a dx, H2 a = none → H2 dx = none → dx ≠ a → sp (gV (.ref a :: vs) zs) (upd (upd H2 dx (.own a)) a (.ins C dx [])) (fun v H3 => v = .non ∧ Q (.ref a) H3) (E σ))
    (hall : (backToKw pos (keywordEach kws X.env)).all (·.1.isSome) = true := by rfl) (hks : (backToKw pos (keywordEach kws X.env)).filterMap (·.1) = ks := by rfl)
    (he : starEach (e :: es) X.env = (false, eval e X.env) :: starEach es X.env := by rfl) (hpl : ((backTo pos (starEach (e :: es) X.env)).any (·.1) || (backToKw pos (keywordEach kws X.env)).any (·.1.isNone)) = false := by rfl) :
    WE X (.Call (.Name x p) (e :: es) kws pos) σ H Q := by
  obtain ⟨f, fd, ps, g, hm, M, F, hb⟩ := f
  intro pins s I
  refine wpAny_Call_Name_kw (ld_glob I gn.gl hm ?_ gn.d1)
  refine PySem.W.callWith_KW (h₀ := X.base) I.ok.mod.kin M.kp hall (thn (h pos pins s I) fun us s1 z => ?_) hpl he
  obtain ⟨vs, H1, I1, r, q⟩ := z
  refine thn (q pos pins s1 I1) fun ws s2 z => ?_
  obtain ⟨zs, H2, I2, rz, l1, l2, q⟩ := z
  refine ⟨I2.kIn, ?_⟩
  rw [hks]
  exact kmake_at M F (B.room.mono hj) hb (B.at σ) I2 r rz l1 l2 q
theorem we_makeK0 (B : Body X k E) (gn : Gn X x) (f : GKk X.prog X.w X.K X.mg X.base j x C sp 0 ks gV) (hj : j + 1 ≤ k) (h : WK X kws σ H fun zs H2 => zs.length = ks.length ∧ ∀ a dx, H2 a = none → H2 dx = none → dx ≠ a → sp (gV [.ref a] zs) (upd (upd H2 dx (.own a)) a (.ins C dx [])) (fun v H3 => v = .non ∧ Q (.ref a) H3) (E σ))
    (hall : (backToKw pos (keywordEach kws X.env)).all (·.1.isSome) = true := by rfl) (hks : (backToKw pos (keywordEach kws X.env)).filterMap (·.1) = ks := by rfl)
    (hpl : ((backTo pos (starEach [] X.env)).any (·.1) || (backToKw pos (keywordEach kws X.env)).any (·.1.isNone)) = false := by rfl) :
    WE X (.Call (.Name x p) [] kws pos) σ H Q := by
  obtain ⟨f, fd, ps, g, hm, M, F, hb⟩ := f
  intro pins s I
  refine wpAny_Call_Name_kw (ld_glob I gn.gl hm ?_ gn.d1)
  refine PySem.W.callWith_KW0 (h₀ := X.base) I.ok.mod.kin M.kp hall ?_ hpl
  refine thn (h pos pins s I) fun ws s2 z => ?_
  obtain ⟨zs, H2, I2, rz, l2, q⟩ := z
  refine ⟨I2.kIn, ?_⟩
  rw [hks]
  exact kmake_at (us := []) (vs := []) M F (B.room.mono hj) hb (B.at σ) I2 .nil rz rfl l2 q
end
/-! ### C.m(..), m a static method -/
structure StatOf (K : PySem.W.Frag) (C : Addr) (m : Str) (p g : Addr) : Prop where
  rd : CRead K C (.type "type")
  ty : PySem.W.typeIn K (.ref C) = some (.type "type")
  at_ : PySem.W.findCls K (.ref C) (.type "type") m = some (.get (.builtin "staticmethod.__get__") (.ref p) .none (.ref C))
  rc : ∃ rest, PySem.W.recIn K p "staticmethod" = some (.ref g :: rest)
  kp : PySem.W.keepIn K (.ref g) = true
def sgA (K : PySem.W.Frag) (C : Addr) (m : Str) : Addr := match PySem.W.recIn K (ma K C m) "staticmethod" with
  | some (.ref g :: _) => g
  | _ => 0
def statB (K : PySem.W.Frag) (C : Addr) (m : Str) : Bool := PySem.W.readsIn K C (.type "type") && (decide (PySem.W.specialIn K (.ref C) "__getattribute__" = some (some (.builtin "type.__getattribute__"))) && (decide (PySem.W.typeIn K (.ref C) = some (.type "type")) &&
  ((match PySem.W.findCls K (.ref C) (.type "type") m with
    | some (.get i p o D) => decide (i = .builtin "staticmethod.__get__") && (decide (p = .ref (ma K C m)) && (decide (o = .none) && decide (D = .ref C)))
    | _ => false) && (PySem.W.keepIn K (.ref (sgA K C m)) &&
  (match PySem.W.recIn K (ma K C m) "staticmethod" with
    | some (.ref g :: _) => decide (g = sgA K C m)
    | _ => false)))))
theorem stat_ok {K : PySem.W.Frag} {C : Addr} {m : Str} (h : statB K C m = true) : StatOf K C m (ma K C m) (sgA K C m) := by
  obtain ⟨h1, h⟩ := ba h
  obtain ⟨h2, h⟩ := ba h
  obtain ⟨h3, h⟩ := ba h
  obtain ⟨h4, h⟩ := ba h
  obtain ⟨h5, h6⟩ := ba h
  refine ⟨⟨h1, of_decide_eq_true h2⟩, of_decide_eq_true h3, ?_, ?_, h5⟩
  · generalize hr : PySem.W.findCls K (.ref C) (.type "type") m = r at h4
    match r, h4 with
    | some (.get i p o D), h4 =>
      obtain ⟨q1, q⟩ := ba h4
      obtain ⟨q2, q⟩ := ba q
      obtain ⟨q3, q4⟩ := ba q
      rw [of_decide_eq_true q1, of_decide_eq_true q2, of_decide_eq_true q3, of_decide_eq_true q4]
  · generalize hr : PySem.W.recIn K (ma K C m) "staticmethod" = r at h6
    match r, h6 with
    | some (.ref g :: rest), h6 => exact ⟨rest, by rw [of_decide_eq_true h6]⟩
section
variable {X : Cx} {σ : L2.St} {H : Hp} {Q : VK} {k j : Nat} {E : L2.St → XK} {m : Str} {sp : Sp} {pos apos : Pos} {o e : Expr} {es : List Expr} {C p g : Addr}
theorem we_stat {pl : Sem Bool} (B : Body X k E) (t : StatOf X.K C m p g) (F : FnR X.prog X.w X.K X.mg X.base (RX X.prog X.w) j g sp) (hj : j ≤ k) (h : WE X o σ H fun y H1 => y = .ref C ∧ WA X (e :: es) σ H1 fun vs H2 => sp vs H2 Q (E σ))
    (hs : starEach (e :: es) X.env = (false, eval e X.env) :: starEach es X.env := by rfl) (hl : (backTo pos (starEach es X.env)).any (·.1) = false := by rfl)
    (ht : eval (.Call (.Attribute o m apos) (e :: es) [] pos) X.env = (do
      let it ← eval o X.env
      standAt apos.atName
      let (g, first) ← holding [it] (getMethod it m pl)
      callWith pos g first (backTo pos (starEach (e :: es) X.env)) (backToKw pos (keywordEach [] X.env))) := by rfl) : WE X (.Call (.Attribute o m apos) (e :: es) [] pos) σ H Q := by
  intro pins s I
  refine PySem.W.methodCall_KW (pl := pl) (thn (h pins s I) fun u s1 z => ?_) ht
  obtain ⟨y, H1, I1, ry, rfl, q⟩ := z
  cases ry
  obtain ⟨rest, hp⟩ := t.rc
  refine PySem.W.method_cls I1.kIn t.rd.ga (PySem.W.cls_bind I1.kIn t.rd.rd t.at_ (wpAny_call (PySem.W.sm_get (s := { s1 with toks := s1.toks + 1 }) I1.kIn hp (PySem.W.handed_on rfl ?_))))
  have I2 := I1.tok (s1.toks + 1)
  refine PySem.W.callWith_K (first := []) (h₀ := X.base) I.ok.mod.kin t.kp (thn (q pos pins _ I2) fun us s2 z => ?_) hs hl
  obtain ⟨vs, H2, I3, r, q2⟩ := z
  exact ⟨I3.kIn, go_at F (B.room.mono hj) (B.at σ) I3 r q2⟩
end
/-! ### an own __bool__ -/
structure BoolOwn (K : PySem.W.Frag) (C f : Addr) : Prop where
  at_ : PySem.W.findIn K (.ref C) "__bool__" = some (some (.ref f))
  fn : PySem.W.isFn K (.ref f) = true
theorem boolOwn_ok {K : PySem.W.Frag} {C f : Addr} (h : boolOwnB K C f = true) : BoolOwn K C f := by
  obtain ⟨h1, h2⟩ := ba h
  exact ⟨of_decide_eq_true h1, h2⟩
theorem bool_own {prog : Program} {w : World} {A : Around} {R : Value → Shared → Prop} {P : Value → Shared → Prop} {s : Shared} {K : PySem.W.Frag} {x C f : Addr} {ox : Obj} {od : Option Obj} (KX : K.In s.heap) (J : PySem.W.InstAt s.heap x ox C od) (c : BoolOwn K C f)
    (h : wpAny (model prog w) A.in1.in1 (call (.ref f) [.ref x]) (fun v t => ∃ b, v = .bool b ∧ P (.bool b) t) R s) : wpAny (model prog w) A (call (.type "bool") [.ref x]) P R s := by
  refine callType_codes (T := "bool") (Bi := Builtin.«object.__init__») (Q₁ := fun r t => ∃ b, r = .bool b ∧ P r t) PySem.F.called_bool (PySem.F.typeCall_bool_1 _) PySem.F.entry_object_init ?_ ?_
  · refine codeAny_of_tree ?_
    show wpAny _ A.in1.in1 (do checkBuiltinCall "bool.__new__" ⟨[.type "bool", .ref x], []⟩; again (.builtin "bool.__new__" ⟨[.type "bool", .ref x], []⟩)) _ _ s
    refine wpAny_bind (wpAny_of_eq (PySem.F.newCall_bool_1 _) (wpAny_pure ⟨plainId_quiet (by decide +kernel) _, codeAny_builtin PySem.F.entry_bool_new ?_⟩))
    rw [Around.under_plainId (by decide +kernel) _]
    unfold Builtin.«bool.__new__»
    have f1 := PySem.F.conv_sub_bool
    repeat (first
      | (refine wpAny_bind (m := callSpecial? (.ref x) (Str.ofString "__bool__")) (PySem.W.special_fn KX J c.at_ (beq_iff_eq.mp c.fn) (wpAny_mono h (fun v t z => ?_) fun _ _ z => z)))
      | (unfold truthy; refine wpAny_bind (wpAny_bind (m := callSpecial? (.ref x) (Str.ofString "__bool__")) (PySem.W.special_fn KX J c.at_ (beq_iff_eq.mp c.fn) (wpAny_mono h (fun v t z => ?_) fun _ _ z => z))))
      | assumption
      | wp_step)
    obtain ⟨b, rfl, q⟩ := z
    repeat (first | exact ⟨b, rfl, q⟩ | exact wpAny_pure ⟨b, rfl, q⟩ | wp_step)
  · rintro obj t ⟨b, rfl, q⟩
    exact ⟨rfl, PySem.F.args_object_init_2 _ _, object_init_meets PySem.F.called_bool.init.lookup PySem.F.called_bool.made (by decide) prog w A.in1 _ t ⟨rfl, rfl, q⟩⟩
end Rs

namespace Rs
open PySem PySem.Spec PyProof.Rows L2 He
/-! ### calls within an except suite (of defs that raise nothing there) -/
section
variable {P : Program} {w : World} {K : PySem.W.Frag} {mg : Str → Option Value} {base : Heap} {N ps : List Str} {name qual : Str} {pa : Arguments} {body : List Stmt} {sc : Scope} {dvs : List V} {kws : List (Str × V)} {f : Addr} {fd : FuncData} {k : Nat} {sp : Sp}
theorem def_okH (F : FunD K name qual pa body sc dvs kws f fd) (S : FnScope N ps sc) (len : ∀ vs H Q E, sp vs H Q E → vs.length = ps.length)
    (hb : ∀ (X : Cx), X.prog = P → X.w = w → X.K = K → X.mg = mg → X.base = base → X.N = N → X.env.scope = sc → (∀ x, X.fn x = true) → N.Nodup → ∀ (H : Hp) (vs : List V) (Q : VK) (E : XK), L2H.HotC X → L2H.RoomH k X.A → sp vs H Q E → WB X body { nx := fun _ H' => Q .non H', rt := Q } (start N vs) H) :
    L2H.FnH P w K mg base CX0 (k + 1) f fd ps sp := by
  obtain ⟨oc, od, dV, kV, doc, pm, an, cdv, ct, osl, rfl, lk, hcd, _, _⟩ := F.ex
  exact L2H.fn_ofH lk hcd S len fun A outer s H vs Q E p hot hr h => ⟨_, pbS, hb (L2H.cxH CX0 P w K mg base N qual sc f cdv A outer s H E p) rfl rfl rfl rfl rfl rfl rfl (fun _ => rfl) S.nd H vs Q E ⟨p, hot, List.mem_cons_self⟩ hr h⟩
def GFnH (P : Program) (w : World) (K : PySem.W.Frag) (mg : Str → Option Value) (base : Heap) (k : Nat) (x : Str) (sp : Sp) : Prop :=
  ∃ f fd ps, mg x = some (.ref f) ∧ PySem.W.keepIn K (.ref f) = true ∧ L2H.FnH P w K mg base CX0 k f fd ps sp ∧ Binds K fd ps []
end
section
variable {X : Cx} {σ : L2.St} {H : Hp} {Q : VK} {k j : Nat} {x : Str} {sp : Sp} {p pos : Pos} {e : Expr} {es : List Expr}
theorem we_callH (hc : L2H.HotC X) (hr : L2H.RoomH k X.A) (g : Gn X x) (f : GFnH X.prog X.w X.K X.mg X.base j x sp) (hj : j ≤ k) (h : WA X (e :: es) σ H fun vs H1 => sp vs H1 Q E0)
    (hs : starEach (e :: es) X.env = (false, eval e X.env) :: starEach es X.env := by rfl) (hl : (backTo pos (starEach es X.env)).any (·.1) = false := by rfl) : WE X (.Call (.Name x p) (e :: es) [] pos) σ H Q := by
  obtain ⟨a, fd, ps, hm, hk, F, hb⟩ := f
  exact weP (L2H.pe_callH (E := fun _ => E0) F (hr.mono hj) hc g.gl hm hk hb (fun σ _ _ _ _ _ _ c => c.elim) paS g.d1 hs hl) h
theorem hot_suite {a : Addr} {oe : Obj} {cls : Value} {d : Option Addr} {pn : List (Addr × Obj)} (hz : L2N.Zn cls d oe) (hf : ∃ vs, oe.data = .fields vs) : L2H.HotC (X.suite a ((a, oe) :: pn)) := by
  obtain ⟨vs, hv⟩ := hf
  exact ⟨(a, oe), ⟨rfl, vs, hv, hz.2.2 vs hv⟩, List.mem_cons_self⟩
theorem room_suite {a : Addr} {pn : List (Addr × Obj)} {E : L2.St → XK} (B : Body X k E) : L2H.RoomH k (X.suite a pn).A := ⟨B.room.dp, B.room.un⟩
end
end Rs

namespace Rs
open PySem PySem.Spec PyProof.Rows L2 He
/-! ### operators that may raise, at these slots -/
def OpA (X : Cx) (f : Value → Value → Sem Value) (σ : L2.St) (x y : V) (H : Hp) (Q : VK) : Prop := ∀ pins s u v, Inv X pins σ H s → RelV x u → RelV y v → wpAny (model X.prog X.w) X.A (f u v) (EP X pins σ Q) X.xe s
section
variable {X : Cx} {σ : L2.St} {k j : Nat} {E : L2.St → XK} {sp : Sp} {C f g a b dx dy : Addr} {fs gs : List (Str × V)} {H : Hp} {Q : VK} {op : Operator} {i : Int} {e1 e2 : Expr} {pos : Pos}
theorem we_binA (h : WE X e1 σ H fun x H1 => WE X e2 σ H1 fun y H2 => OpA X (binaryOp op) σ x y H2 Q) : WE X (.BinOp e1 op e2 pos) σ H Q := fun pins s I =>
  wpAny_BinOp (binT peS peS (R := fun x y H2 => OpA X (binaryOp op) σ x y H2 Q) I h fun v u s2 x y H2 I2 rx ry q => q pins s2 v u I2 rx ry)
theorem binA_tt (B : Body X k E) (c : BinOwn X.K C f op) (F : FnR X.prog X.w X.K X.mg X.base (RX X.prog X.w) j f sp) (hj : j ≤ k) (ea : H a = some (.ins C dx fs)) (eb : H b = some (.ins C dy gs)) (h : sp [.ref a, .ref b] H Q (E σ)) :
    OpA X (binaryOp op) σ (.ref a) (.ref b) H Q := by
  intro pins s u v I ru rv
  cases ru
  cases rv
  obtain ⟨od, J⟩ := inst_of I ea
  obtain ⟨od', J'⟩ := inst_of I eb
  obtain ⟨m, hF⟩ := I.fr
  exact PySem.W.binop_K hF I.ok.mod.kin J J'.type c.sf c.at_ c.fn (back (go_at (vs := [.ref a, .ref b]) F (B.room.mono hj) (B.at σ) I (.cons rfl (.cons rfl .nil)) h))
theorem binA_ti (B : Body X k E) (c : BinOwn X.K C f op) (F : FnR X.prog X.w X.K X.mg X.base (RX X.prog X.w) j f sp) (hj : j ≤ k) (ea : H a = some (.ins C dx fs)) (h : sp [.ref a, .int i] H Q (E σ)) : OpA X (binaryOp op) σ (.ref a) (.int i) H Q := by
  intro pins s u v I ru rv
  cases ru
  obtain ⟨t, rfl⟩ := rv
  obtain ⟨od, J⟩ := inst_of I ea
  obtain ⟨m, hF⟩ := I.fr
  obtain ⟨rc, h1, h2⟩ := c.rc
  obtain ⟨fo, ro, h3, h4⟩ := c.it
  exact PySem.W.ksp_binT (T := "int") hF I.ok.mod.kin J rfl c.sf c.at_ c.fn h1 h2 h3 h4 c.sub (back (go_at (vs := [.ref a, .int i]) F (B.room.mono hj) (B.at σ) I (.cons rfl (.cons ⟨t, rfl⟩ .nil)) h))
theorem binA_it (B : Body X k E) (c : BinRef X.K C g op) (hf : fillsNumberSlot (.type "int") op.info.2 = pure true) (d : IntDecl (dunder op.info.2)) (F : FnR X.prog X.w X.K X.mg X.base (RX X.prog X.w) j g sp) (hj : j ≤ k) (ea : H a = some (.ins C dx fs))
    (h : sp [.ref a, .int i] H Q (E σ)) : OpA X (binaryOp op) σ (.int i) (.ref a) H Q := by
  intro pins s u v I ru rv
  cases rv
  obtain ⟨t, rfl⟩ := ru
  obtain ⟨od, J⟩ := inst_of I ea
  exact int_left I.kIn J rfl c hf d (back (go_at (vs := [.ref a, .int i]) F (B.room.mono hj) (B.at σ) I (.cons rfl (.cons ⟨t, rfl⟩ .nil)) h))
theorem op2A {f : Value → Value → Sem Value} {x y : V} (h : Op2 X f x y H Q) : OpA X f σ x y H Q := fun pins s u v I => h pins s σ u v I
end
theorem decl_fdiv (i : Int) (t : Tok) (x : Addr) (ox : Obj) : Meets (Builtin.«int.__floordiv__» ⟨[.int i t, .ref x], []⟩) (DeclS x ox) := .of_wp fun prog w A R s q => by
  obtain ⟨hp, g, d, tk, os⟩ := s
  obtain ⟨e1, e2, z⟩ := q
  wp_walk using AutoSeq1.wpAny_loadPart' e1, wpAny_load e1
  simp only [e2]
  wp_walk using AutoSeq1.wpAny_loadPart' e1, wpAny_load e1
  simp only [e2]
  wp_walk using AutoSeq1.wpAny_loadPart' e1, wpAny_load e1
  exact ⟨_, rfl, z⟩
theorem idecl_fdiv : IntDecl (dunder "floordiv") := ⟨_, _, PySem.F.slot_int_floordiv, PySem.F.entry_int_floordiv, PySem.F.args_int_floordiv_2, decl_fdiv⟩
end Rs

namespace Rs
open PySem PySem.Spec PyProof.Rows L2 He
/-! ### within a comprehension's block -/
abbrev Bk (X : Cx) (s : Shared) (H : Hp) (scope : Scope) (C : Addr) (cl : List (Str × Addr)) (fp : List Addr) : Cx := X.blk s H scope (compEnvC scope cl C X.env) fp
section
variable {X : Cx} {s : Shared} {H : Hp} {scope : Scope} {C : Addr} {cl : List (Str × Addr)} {fp : List Addr} {k i : Nat} {E : L2.St → XK} {x : Str}
theorem Body.blk (B : Body X k E) (h0 : scope.names.lookup ("0" : Str) = none) : Body (Bk X s H scope C cl fp) k fun _ => E0 :=
  ⟨B.calm, B.room, (fun _ _ y => by obtain ⟨_, _, _, _, _, _, _, _, _, _, _, _, _, _, _, _, z⟩ := y; exact z.elim), PassesOwn.never,
    (fun hf => absurd (hf "0") (by show ¬ ((scope.names.lookup ("0" : Str) == some NameKind.cell) = true); rw [h0]; decide)), (fun hf => absurd (hf "0") (by show ¬ ((scope.names.lookup ("0" : Str) == some NameKind.cell) = true); rw [h0]; decide))⟩
/-- a name that is read -/
structure SlF (X : Cx) (i : Nat) (x : Str) : Prop where
  at_ : X.N[i]? = some x
  vis : Vis X.env.scope x
  d1 : (x == ("__debug__" : Str)) = false
  d2 : (x == ("__classdict__" : Str)) = false
theorem we_nameF {σ : L2.St} {H : Hp} {Q : VK} {v : V} {pos : Pos} (n : SlF X i x) (h : σ[i]? = some (some v)) (q : Q v H) : WE X (.Name x pos) σ H Q := weP (pe_var n.at_ n.vis n.d1 n.d2) ⟨v, h, q⟩
theorem Sl.own (n : Sl X i x) (h : scope.names.lookup x = some .local) : Sl (Bk X s H scope C cl fp) i x :=
  ⟨n.at_, n.nd, .inl (lookup_relS_keep (by decide) h), .inr (lookup_relS_keep (by decide) h), n.d1, n.d2⟩
/-- the block's own name -/
theorem own_of {N : List Str} (eN : X.N = N) (nd : N.Nodup) (hi : N[i]? = some x) (h : scope.names.lookup x = some .local) (d1 : (x == ("__debug__" : Str)) = false) (d2 : (x == ("__classdict__" : Str)) = false) : Sl (Bk X s H scope C cl fp) i x :=
  ⟨by show X.N[i]? = _; rw [eN]; exact hi, by show X.N.Nodup; rw [eN]; exact nd, .inl (lookup_relS_keep (by decide) h), .inr (lookup_relS_keep (by decide) h), d1, d2⟩
theorem gn_blk (h : scope.names.lookup x = some .globalImplicit) (d1 : (x == ("__debug__" : Str)) = false) : Gn (Bk X s H scope C cl fp) x := ⟨lookup_relS_keep (by decide) h, d1⟩
theorem bn_blk (h : scope.names.lookup x = some .globalImplicit) (no : X.mg x = none) : Bn (Bk X s H scope C cl fp) x := ⟨lookup_relS_keep (by decide) h, no⟩
/-- a name captured from the def -/
theorem free_of {N : List Str} {sc : Scope} (eN : X.N = N) (es : X.env.scope = sc) (hi : N[i]? = some x) (h : (relS scope sc).names.lookup x = some .cell) (d1 : (x == ("__debug__" : Str)) = false) (d2 : (x == ("__classdict__" : Str)) = false) : SlF (Bk X s H scope C cl fp) i x :=
  ⟨by show X.N[i]? = _; rw [eN]; exact hi, .inr (.inl (by show (relS scope X.env.scope).names.lookup x = _; rw [es]; exact h)), d1, d2⟩
end
/-! ### [e for x in xs] -/
/-- what the items come to -/
def LcG (X : Cx) (scope : Scope) (elt : Expr) (i : Nat) (sq : Hp → Addr → List V → Prop) (σ : L2.St) (a : Addr) (xs : List V) (Q : VK) (H1 : Hp) : Prop :=
  ∀ D, H1 D = none → ∃ P : Nat → Hp → Prop, P 0 (upd H1 D (.lst [])) ∧ (∀ j H, j ≤ xs.length → P j H → sq H a xs) ∧
    (∀ j v H, xs[j]? = some v → P j H → ∀ s H0 C cl fp, WE (Bk X s H0 scope C cl fp) elt (σ.set i (some v)) H fun y H4 => ∃ acc, H4 D = some (.lst acc) ∧ acc.length < sizeLine ∧ P (j + 1) (upd H4 D (.lst (acc ++ [y])))) ∧ ∀ H, P xs.length H → Q (.ref D) H
section
variable {X : Cx} {σ : L2.St} {H : Hp} {Q : VK} {D : Ends} {k i n : Nat} {E : L2.St → XK} {x y : Str} {scope : Scope} {elt iter : Expr} {px py pos spos : Pos}
theorem set2 {σ : L2.St} {i : Nat} {a b : Option V} : (σ.set i a).set i b = σ.set i b := List.set_set ..
def teB (X : Cx) (scope : Scope) (elt : Expr) : TE := fun σ H Q => ∀ s H0 C cl fp, WE (Bk X s H0 scope C cl fp) elt σ H Q
theorem lc_by (h : WE X iter σ H fun v H1 => ∃ a xs, v = .ref a ∧ SqL X.K H1 a xs ∧ LcG X scope elt i (SqL X.K) σ a xs Q H1) : tLc (iList X.K (WE X iter)) (gName i) tYes (teB X scope elt) [i] σ H Q := by
  refine we_mono h fun v H1 q => ?_
  obtain ⟨a, xs, rfl, hq, q⟩ := q
  refine ⟨a, rfl, ⟨xs, hq⟩, fun D hD => ?_⟩
  obtain ⟨P, h0, hl, hs, hd⟩ := q D hD
  refine lc_list P h0 hl (fun j v H hv p => ?_) hd
  refine ⟨(show ((σ.set i none).set i (some v)).set i none = σ.set i none by rw [set2, set2]), (iteT (B := P (j + 1) H) ?_ : if true = true then teB X scope elt ((σ.set i none).set i (some v)) H fun y H4 => ∃ acc, H4 D = some (.lst acc) ∧ acc.length < sizeLine ∧ P (j + 1) (upd H4 D (.lst (acc ++ [y]))) else P (j + 1) H)⟩
  intro s H0 C cl fp
  have e : (σ.set i none).set i (some v) = σ.set i (some v) := set2
  have z := hs j v H hv p s H0 C cl fp
  rw [← e] at z
  exact z
theorem lc_byT (h : WE X iter σ H fun v H1 => ∃ a xs, v = .ref a ∧ SqT X.K H1 a xs ∧ LcG X scope elt i (SqT X.K) σ a xs Q H1) : tLc (iTup X.K (WE X iter)) (gName i) tYes (teB X scope elt) [i] σ H Q := by
  refine we_mono h fun v H1 q => ?_
  obtain ⟨a, xs, rfl, hq, q⟩ := q
  refine ⟨a, rfl, ⟨xs, hq⟩, fun D hD => ?_⟩
  obtain ⟨P, h0, hl, hs, hd⟩ := q D hD
  refine lc_tup P h0 hl (fun j v H hv p => ?_) hd
  refine ⟨(show ((σ.set i none).set i (some v)).set i none = σ.set i none by rw [set2, set2]), (iteT (B := P (j + 1) H) ?_ : if true = true then teB X scope elt ((σ.set i none).set i (some v)) H fun y H4 => ∃ acc, H4 D = some (.lst acc) ∧ acc.length < sizeLine ∧ P (j + 1) (upd H4 D (.lst (acc ++ [y]))) else P (j + 1) H)⟩
  intro s H0 C cl fp
  have e : (σ.set i none).set i (some v) = σ.set i (some v) := set2
  have z := hs j v H hv p s H0 C cl fp
  rw [← e] at z
  exact z
theorem peB : ∀ (s : Shared) (H : Hp) (C : Addr) (cl : List (Str × Addr)) (fp : List Addr), PE (X.blk s H scope (compEnvC scope cl C X.env) fp) elt (teB X scope elt) := fun s H C cl fp => ⟨fun pins t σ H' Q I h => h s H C cl fp pins t I⟩
theorem we_lc (B : Body X k E) (nd : X.N.Nodup) (hi : X.N[i]? = some x) (hx : scope.names.lookup x = some .local) (ok : BlkOk X.N X.env.scope scope [(x, i)])
    (h : WE X iter σ H fun v H1 => ∃ a xs, v = .ref a ∧ SqL X.K H1 a xs ∧ LcG X scope elt i (SqL X.K) σ a xs Q H1) (hs : ∀ v, foldedSetIterable iter X.env v = pure v := by intro _; rfl) : WE X (.ListComp elt [⟨.Name x px, iter, [], 0⟩] scope pos) σ H Q :=
  weP (pe_lc (own := [(x, i)]) (g := gName i) (tt := tYes) B.calm nd (pi_list peS) ok (fun _ _ _ _ _ => pg_name nd hi (.inl (lookup_relS_keep (by decide) hx)) (.inr (lookup_relS_keep (by decide) hx))) (fun _ _ _ _ _ => pts_nil) peB hs) (lc_by h)
theorem we_lcT (B : Body X k E) (nd : X.N.Nodup) (hi : X.N[i]? = some x) (hx : scope.names.lookup x = some .local) (ok : BlkOk X.N X.env.scope scope [(x, i)])
    (h : WE X iter σ H fun v H1 => ∃ a xs, v = .ref a ∧ SqT X.K H1 a xs ∧ LcG X scope elt i (SqT X.K) σ a xs Q H1) (hs : ∀ v, foldedSetIterable iter X.env v = pure v := by intro _; rfl) : WE X (.ListComp elt [⟨.Name x px, iter, [], 0⟩] scope pos) σ H Q :=
  weP (pe_lc (own := [(x, i)]) (g := gName i) (tt := tYes) B.calm nd (pi_tup peS) ok (fun _ _ _ _ _ => pg_name nd hi (.inl (lookup_relS_keep (by decide) hx)) (.inr (lookup_relS_keep (by decide) hx))) (fun _ _ _ _ _ => pts_nil) peB hs) (lc_byT h)
theorem ws_setLc (B : Body X k E) (m : Sl X n y) (hy : X.env.scope.names.lookup y = some .local) (hk : X.env.scope.kind = .function) (hi : X.N[i]? = some x) (hx : scope.names.lookup x = some .local) (ok : BlkOk X.N X.env.scope scope [(x, i)])
    (h : WE X iter σ H fun v H1 => ∃ a xs, v = .ref a ∧ SqL X.K H1 a xs ∧ LcG X scope elt i (SqL X.K) σ a xs (fun v H' => D.nx (σ.set n (some v)) H') H1) (hl : (py.line == spos.line) = true := by rfl)
    (ha : (scope.names.any fun (n, k) => n == y && (k == .local || k == .cell)) = false := by decide +kernel) (he : pos.line = spos.line := by rfl) (hs : ∀ v, foldedSetIterable iter X.env v = pure v := by intro _; rfl) :
    WS X (.Assign [.Name y py] (.ListComp elt [⟨.Name x px, iter, [], 0⟩] scope pos) spos) D σ H :=
  wsP (ps_setLc (own := [(x, i)]) (g := gName i) (tt := tYes) B.calm m.nd m.at_ hy (sw_true hk hy (by rw [he]; exact hl) ha) (pi_list peS) ok (fun _ _ _ _ _ => pg_name m.nd hi (.inl (lookup_relS_keep (by decide) hx)) (.inr (lookup_relS_keep (by decide) hx))) (fun _ _ _ _ _ => pts_nil) peB hs) (lc_by h)
end
end Rs

namespace Rs
open PySem PySem.Spec PyProof.Rows L2 He PySem.Calls
/-! ### for i, x in enumerate(a tuple) -/
theorem new_enum (a : Addr) (its : Array Value) :
    Meets (Builtin.«enumerate.__new__» ⟨[.type "enumerate", .ref a], []⟩) (fun _ R t => Heap.IsTuple t.heap a its ∧
      R (.ok (.ret (.ref (t.heap.push { cls := .type "tuple_iterator", data := .fields #[.ref a, .int 0 0] }).objs.size)))
        { t with heap := (t.heap.push { cls := .type "tuple_iterator", data := .fields #[.ref a, .int 0 0] }).push { cls := .type "enumerate", data := .fields #[.none, .bool false, .ref t.heap.objs.size, rawInt 0, .none, .none] } }) :=
  .of_wp fun pg wd A R t z => by
    obtain ⟨hh, gg, dd, kk, oo⟩ := t
    obtain ⟨y, z⟩ := z
    have su := PySem.sub_enumerate
    have st : ∀ {A' : Around} {E : Value → Shared → Prop} {Q : Value → Shared → Prop}, Q (.ref hh.objs.size) ⟨hh.push { cls := .type "tuple_iterator", data := .fields #[.ref a, .int 0 0] }, gg, dd, kk, oo⟩ → wpAny (model pg wd) A' (pyIter (.ref a)) Q E ⟨hh, gg, dd, kk, oo⟩ :=
      fun q => wpAny_pyIter_tuple (s := ⟨hh, gg, dd, kk, oo⟩) y q
    wp_walk using st
    refine wpAny_stack_any fun fr => wpAny_pure ?_
    split
    · rename_i cc _ _ _ _ _
      cases (cc == Value.type "enumerate")
      all_goals (wp_walk using st; exact ⟨_, rfl, z⟩)
    · wp_walk using st
      exact ⟨_, rfl, z⟩
section
variable {prog : Program} {w : World} {A : Around} {E : Value → Shared → Prop} {s : Shared}
theorem call_enumT {a : Addr} {its : Array Value} {Q : Value → Shared → Prop} (y : Heap.IsTuple s.heap a its)
    (h : ∀ h', IsEnum h' (s.heap.objs.size + 1) s.heap.objs.size 0 .none → h'.IsTupleIter s.heap.objs.size a 0 → (∀ b o, s.heap.get? b = some o → h'.get? b = some o) → Q (.ref (s.heap.objs.size + 1)) { s with heap := h' }) :
    wpAny (model prog w) A (call (.type "enumerate") [.ref a]) Q E s := by
  refine callType_new F.called_enumerate (by decide) (F.typeCall_enumerate_1 _) (F.newCall_enumerate_1 _) (fun ob => F.args_object_init_2 ob _) F.entry_enumerate_new (new_enum a its) ⟨y, ?_⟩
  generalize hg : s.heap.push { cls := .type "tuple_iterator", data := .fields #[.ref a, .int 0 0] } = g
  have sz : g.objs.size = s.heap.objs.size + 1 := by rw [← hg]; exact Heap.size_push ..
  have i0 : g.get? s.heap.objs.size = some { cls := .type "tuple_iterator", data := .fields #[.ref a, .int 0 0] } := by rw [← hg]; exact Heap.get?_push_size _ rfl
  have kp : ∀ b o, s.heap.get? b = some o → g.get? b = some o := fun b o z => by rw [← hg]; exact Heap.get?_push_of_some _ z
  have e0 : IsEnum (g.push { cls := .type "enumerate", data := .fields #[.none, .bool false, .ref s.heap.objs.size, rawInt 0, .none, .none] }) (s.heap.objs.size + 1) s.heap.objs.size 0 .none := by
    rw [← sz]
    exact Heap.get?_push_size _ rfl
  show _ ∧ _
  rw [sz]
  exact ⟨⟨_, e0, rfl⟩, h _ e0 ⟨_, Heap.get?_push_of_some _ i0, rfl, rfl⟩ fun b o z => Heap.get?_push_of_some _ (kp b o z)⟩
end
/-- the pairs, each a new tuple -/
def Iet (K : PySem.W.Frag) (a : Addr) : It :=
  ⟨fun j H => ∃ (ys : List V) (y : V), SqT K H a ys ∧ ys[j]? = some y, fun j H v H' => ∃ T y, v = .ref T ∧ H T = none ∧ H' = upd H T (.tup [.int (j : Nat), y]) ∧ ∀ ys, SqT K H a ys → ys[j]? = some y, fun j H => ∃ ys : List V, SqT K H a ys ∧ ys.length = j⟩
theorem turn_enumT {P : Program} {w : World} {K : PySem.W.Frag} {es : List Expr} {kk : Nat} {tp : Pos} (a e it : Addr) :
    Turn P w K (.Tuple es kk tp) (Iet K a) [e, it] e (fun j h => (∃ old, IsEnum h e it ((j : Nat) : Int) old) ∧ h.IsTupleIter it a j ∧ e ≠ it) where
  mem := List.mem_cons_self
  obj := fun j h q b hb => by
    obtain ⟨⟨old, he⟩, ⟨o, ho, hc, hd⟩, _⟩ := q
    rcases List.mem_cons.mp hb with z | z
    · rw [z]
      exact ⟨_, he, fun v q => nomatch q⟩
    · rw [List.mem_singleton.mp z]
      exact ⟨o, ho, fun v q => by rw [hd] at q; cases q⟩
  keep := fun j h h' q kp => ⟨q.1.imp fun old z => kp e List.mem_cons_self _ z, q.2.1.at fun o z => kp it (List.mem_cons_of_mem _ List.mem_cons_self) o z, q.2.2⟩
  item := by
    rintro X rfl rfl rfl hc j pins s σ H E I hf ⟨⟨old, he⟩, hit, hne⟩ ⟨ys, y, hq, hy⟩
    obtain ⟨its, rv, tp, hz⟩ := I.tuple hq
    obtain ⟨u, hu, ru⟩ := rv.get hy
    have sz1 : e < s.heap.objs.size := Heap.lt_size he
    have sz2 : it < s.heap.objs.size := by obtain ⟨_, q, _⟩ := hit; exact Heap.lt_size q
    have szf : ∀ b ∈ [e, it], b < s.heap.objs.size := fun b hb => by
      rcases List.mem_cons.mp hb with z | z
      · rw [z]; exact sz1
      · rw [List.mem_singleton.mp z]; exact sz2
    have jl : j < its.toArray.size := by
      rw [List.size_toArray]
      exact (List.getElem?_eq_some_iff.mp hu).1
    have na : ∀ b ∈ [e, it], a ≠ b := fun b hb z => by
      obtain ⟨o, ho, hcl, _⟩ := tp
      rcases List.mem_cons.mp hb with q | q
      · rw [z, q] at ho
        rw [show s.heap.get? e = _ from he] at ho
        cases ho
        exact absurd hcl (by simp)
      · rw [z, List.mem_singleton.mp q] at ho
        obtain ⟨o', ho', hc', _⟩ := hit
        rw [ho'] at ho
        cases ho
        rw [hc'] at hcl
        exact absurd hcl (by simp)
    refine wpAny_pyNext_enum_itemD (Draws.tuple (A := X.A.in1) (I.ok.hd hc) it a (na it (List.mem_cons_of_mem _ List.mem_cons_self)) its.toArray) he ⟨hit, tp⟩ jl hne (fun z => ?_) fun x h' tk hx ho hit' hT hsz hk => ?_
    · rcases List.mem_cons.mp z with z | z
      · exact hne z
      · exact na e List.mem_cons_self (List.mem_singleton.mp z).symm
    have ex : x = u := by
      have z : its.toArray[j]? = some u := by simpa using hu
      exact Option.some.inj ((show its.toArray[j]? = some x from hx).symm.trans z)
    subst ex
    refine ⟨_, rfl, wpAny_letOwnedTupleGo_enum (s := { s with heap := h', toks := tk + 1 }) ho fun g he' sb => ?_⟩
    have hT2 : g.get? s.heap.objs.size = some { cls := .type "tuple", data := .seq #[.int j tk, x] } := (sb.2 _ (Nat.ne_of_gt sz1)).trans hT
    have new : ObjOk X.prog X.w (upd H s.heap.objs.size (.tup [.int (j : Nat), y])) g s.heap.objs.size (.tup [.int (j : Nat), y]) :=
      ⟨(show 2 ≤ sizeLine by decide), [.int j tk, x], .cons ⟨_, rfl⟩ (.cons ru .nil), ⟨_, hT2, rfl, _, rfl⟩⟩
    have I1 : Inv X pins σ (upd H s.heap.objs.size (.tup [.int (j : Nat), y])) { s with heap := g, toks := tk + 1 } :=
      I.turnedNew (ch := [e, it]) (fun b ob hb q => (sb.2 b (fun z => hb (by simp [z]))).trans (hk b ob (fun z => hb (by simp [z])) (fun z => hb (by simp [z])) q)) hf (Nat.le_refl _) new
    refine ⟨.ref s.heap.objs.size, _, I1, rfl, ⟨_, y, rfl, I.hok.fresh (Nat.le_refl _), rfl, fun zs hz => by rw [I.tuple_inj hz hq]; exact hy⟩, ⟨⟨x, ?_⟩, hit'.1.at fun o q => (sb.2 it (Ne.symm hne)).trans q, hne⟩, fun b hb => ?_⟩
    · rw [show ((j + 1 : Nat) : Int) = (j : Int) + 1 by omega]
      exact he'
    · rw [upd_ne (Nat.ne_of_lt (szf b hb))]
      exact (hf b hb).1
  done := by
    rintro X rfl rfl rfl hc j pins s σ H E I hf ⟨⟨old, he⟩, hit, hne⟩ ⟨ys, hq, hl⟩
    obtain ⟨its, rv, tp, hz⟩ := I.tuple hq
    obtain ⟨f0, f1, f2, f3, f4, f5⟩ := hf it (List.mem_cons_of_mem _ List.mem_cons_self)
    have na : a ≠ it := fun z => by
      obtain ⟨o, ho, hcl, _⟩ := tp
      obtain ⟨o', ho', hc', _⟩ := hit
      rw [z, ho'] at ho
      cases ho
      rw [hc'] at hcl
      exact absurd hcl (by simp)
    have ej : its.toArray.size = j := by rw [List.size_toArray, ← rv.length, hl]
    subst ej
    exact wpAny_pyNext_enum_endD (Draws.tuple (A := X.A.in1) (I.ok.hd hc) it a na its.toArray) he ⟨hit, tp⟩ fun h' eb => ⟨rfl, I.turned (t' := s.toks) (fun b o hb q => eb b o hb q) f0 f1 f3 f4 f5⟩
  self := fun A j s Q E q z => by
    obtain ⟨⟨old, he⟩, _⟩ := q
    exact wpAny_pyIter_enum he z
def iEnumT (K : PySem.W.Frag) (t : TA) : TI := fun σ H R => t σ H fun vs H1 => ∃ a ys, vs = [.ref a] ∧ SqT K H1 a ys ∧ R (Iet K a) H1
theorem pi_enumT {X : Cx} {e : Expr} {t : TA} {p pos tp : Pos} {es : List Expr} {kk : Nat} (bn : Bn X "enumerate") (ha : PA X [e] t) (hs : starEach [e] X.env = [(false, eval e X.env)] := by rfl) :
    PI X (.Tuple es kk tp) (.Call (.Name "enumerate" p) [e] [] pos) (iEnumT X.K t) := by
  refine ⟨fun pins s σ H R I h => ?_⟩
  refine Call_ (ld_blt I bn.gl bn.no boot_enumerate (PyProof.Rows.callWith_type1 (thn (ha.run pos pins s σ H _ I h) fun us s1 z => ?_) hs rfl))
  obtain ⟨vs, H1, I1, r, a, ys, e1, hq, q⟩ := z
  subst e1
  obtain ⟨u, rfl, ru⟩ := vals1 r
  cases ru
  obtain ⟨its, rv, tp, hz⟩ := I1.tuple hq
  refine call_enumT tp fun h' e0 i0 kp => wpAny_pyIter_enum e0 ?_
  refine ⟨s1.heap.objs.size + 1, [s1.heap.objs.size + 1, s1.heap.objs.size], _, _, H1, rfl, I1.kept (t' := s1.toks) kp, turn_enumT a _ _, ⟨⟨.none, e0⟩, i0, Nat.succ_ne_self _⟩, fun b hb => ?_, q⟩
  have hle : s1.heap.objs.size ≤ b := by
    rcases List.mem_cons.mp hb with z | z
    · rw [z]; exact Nat.le_succ _
    · rw [List.mem_singleton.mp z]; exact Nat.le_refl _
  exact I1.fpOk hle (I1.hok.fresh hle)
section
variable {X : Cx} {k i j n m : Nat} {E : L2.St → XK} {x y : Str} {D : Ends} {σ : L2.St} {H : Hp} {body : List Stmt} {e : Expr} {p pos pc px py tp : Pos} {kk : Nat}
/-- for x, y in enumerate(a tuple) -/
theorem ws_for_enumT (B : Body X k E) (s1 : Sl X i x) (s2 : Sl X j y) (bn : Bn X "enumerate")
    (h : WE X e σ H fun v H1 => ∃ a ys, v = .ref a ∧ SqT X.K H1 a ys ∧ ∃ P : Nat → L2.St → Hp → Prop, P 0 σ H1 ∧ (∀ n σ H, n ≤ ys.length → P n σ H → SqT X.K H a ys) ∧
      (∀ n v σ H H', ys[n]? = some v → P n σ H → Ex H H' → WB X body { D with nx := P (n + 1), ct := P (n + 1), bk := D.nx } ((σ.set i (some (.int n))).set j (some v)) H') ∧ ∀ σ H, P ys.length σ H → D.nx σ H)
    (hs : starEach [e] X.env = [(false, eval e X.env)] := by rfl) (hf : ∀ v, foldedSetIterable (.Call (.Name "enumerate" p) [e] [] pc) X.env v = pure v := by intro _; rfl)
    (h1 : (assignEach [.Name x px, .Name y py] X.env).map (·.2) = assign (.Name x px) X.env :: (assignEach [.Name y py] X.env).map (·.2) := by rfl) (h2 : (assignEach [.Name y py] X.env).map (·.2) = assign (.Name y py) X.env :: (assignEach [] X.env).map (·.2) := by rfl)
    (h3 : (assignEach [.Name x px, .Name y py] X.env).length = 2 := by rfl) (h4 : (assignEach [.Name x px, .Name y py] X.env).findIdx? (·.1) = none := by rfl) :
    WS X (.For (.Tuple [.Name x px, .Name y py] kk tp) (.Call (.Name "enumerate" p) [e] [] pc) body [] pos) D σ H := by
  refine wsP (ps_for B.po B.calm (pi_enumT bn paS hs) (pg_tup B.calm (pgs_cons (pg_name s1.nd s1.at_ s1.loc s1.fn) (pgs_cons (pg_name s2.nd s2.at_ s2.loc s2.fn) pgs_nil h2) h1) h3 h4) pbS hf) ?_
  refine wa_one (we_mono h fun v H1 q => ?_) hs
  obtain ⟨a, ys, rfl, hq, P, p0, hl, hb, hd⟩ := q
  refine ⟨a, ys, rfl, hq, fun n m σ H => m = ys.length - n ∧ n ≤ ys.length ∧ P n σ H, ⟨ys.length, rfl, Nat.zero_le _, p0⟩, ?_⟩
  rintro n m σ H ⟨rfl, hn, pn⟩
  have hqn := hl n σ H hn pn
  by_cases lt : n < ys.length
  · refine .inr ⟨⟨ys, ys[n], hqn, List.getElem?_eq_getElem lt⟩, P (n + 1), fun σ' H' p' => ⟨ys.length - (n + 1), by omega, rfl, lt, p'⟩, ?_⟩
    rintro w H' ⟨T, y', rfl, hT, rfl, hy⟩
    have x0 := Ex.new (o := .tup [.int (n : Nat), y']) hT
    exact ⟨T, _, rfl, .of upd_same, rfl, .int n, _, rfl, y', _, rfl, rfl, hb n y' σ H _ (hy ys hqn) pn x0⟩
  · have en : ys.length = n := by omega
    subst en
    exact .inl ⟨⟨ys, hqn, rfl⟩, hd σ H pn⟩
end
end Rs

namespace Rs
open PySem PySem.Spec PyProof.Rows L2 He PySem.Calls
/-! ### defs with *args and keywords -/
theorem cxUpN {P : Program} {w : World} : StX.CXUp (RX P w) := by
  intro outer s H s2 H2 E e s' un kp ho z
  obtain ⟨a, B, H', cls, d, ea, fl, hok, ub, na, os, ag, he⟩ := z
  refine ⟨a, B, H', cls, d, ea, fl, hok, ⟨?_, ?_, ?_, ?_, ?_, ?_, ?_⟩, na, os.trans ho, ag, he⟩
  · exact fun b o q n hb => ub.keep b o (kp b o q) (un.free b o q n (by simp)) hb
  · exact fun b o q hb => ub.slot b o (kp b o q) hb
  · exact fun b o q n => ub.free b o (kp b o q) (un.free b o q n (by simp))
  · exact fun b o q hb => ub.there b o (kp b o q) hb
  · exact fun b xs q => ub.tups b xs (un.tups b xs q)
  · exact fun b o xs q => ub.frzs b o xs (un.frzs b o xs q)
  · intro b ps q
    obtain ⟨u1, e1⟩ := un.tbls b ps q
    obtain ⟨u2, e2⟩ := ub.tbls b _ e1
    exact ⟨u1 ++ u2, by rw [e2, Array.append_assoc]⟩
def FnSK (P : Program) (w : World) (K : PySem.W.Frag) (mg : Str → Option Value) (base : Heap) (CX : CXT) (k : Nat) (f : Addr) (ks : List Str) (sp : List V → List V → Hp → VK → XK → Prop) : Prop :=
  ∀ (A : Around) (outer : List Env) (s : Shared) (H : Hp) (us ws : List Value) (vs zs : List V) (Q : VK) (E : XK), Room k A → Env0 P w K mg base A outer s H → Vals vs us → Vals zs ws → zs.length = ks.length → sp vs zs H Q E →
    codeAny (model P w) A (.call (.ref f) ⟨us, ks.zip ws⟩) (CR CX outer P w H s Q E) s
/-- the promise with the rest as a new tuple -/
def spStar (n : Nat) (g : List V → List V → List V) (sp : Sp) : List V → List V → Hp → VK → XK → Prop := fun vs zs H Q E => ∃ ws rest, vs = ws ++ rest ∧ ws.length = n ∧ rest.length ≤ sizeLine ∧ ∀ p, H p = none → sp (g ws zs ++ [.ref p]) (upd H p (.tup rest)) Q E
section
variable {P : Program} {w : World} {K : PySem.W.Frag} {mg : Str → Option Value} {base : Heap} {N ps : List Str} {pv name qual : Str} {pa : Arguments} {body : List Stmt} {sc : Scope} {kws : List (Str × V)} {f : Addr} {fd : FuncData} {k : Nat} {sp : Sp}
theorem def_star (F : FunD K name qual pa body sc [] kws f fd) (S : FnScope N (ps ++ [pv]) sc) (n : Nat) (ks : List Str) (ms : List (Str × V)) (g : {α : Type} → List α → List α → List α → List α) (hk : kws ≠ []) (hms : ∀ q ∈ ms, q ∈ kws)
    (hrel : ∀ {vs mz zs : List V} {us mv ws : List Value}, Vals vs us → Vals mz mv → Vals zs ws → Vals (g vs mz zs) (g us mv ws))
    (hlen : ∀ {us mv ws : List V}, us.length = n → mv.length = ms.length → ws.length = ks.length → (g us mv ws).length = ps.length)
    (h : ∀ (D : Addr) (doc pm : Value) (an : Option Addr) (cdv ct : Value) (us rest mv ws : List Value), us.length = n → mv.length = ms.length → ws.length = ks.length →
      KwTo D ((ms.map (·.1)).zip mv) (bindArgs (PySem.W.fnOf name qual pa body sc .none (.ref D) doc pm an cdv ct) ⟨us ++ rest, ks.zip ws⟩) (newTuple rest >>= fun t => pure (ps.zip (g us mv ws) ++ [(pv, t)])))
    (hb : ∀ (X : Cx), X.prog = P → X.w = w → X.K = K → X.mg = mg → X.base = base → X.N = N → X.env.scope = sc → (∀ x, X.fn x = true) → N.Nodup → ∀ (H : Hp) (vs : List V) (Q : VK) (E : XK), Body X k (fun _ => E) → sp vs H Q E → WB X body { nx := fun _ H' => Q .non H', rt := Q } (start N vs) H) :
    FnSK P w K mg base (RX P w) (k + 1) f ks (spStar n (fun vs zs => g vs (ms.map (·.2)) zs) sp) := by
  obtain ⟨oc, od, dV, kV, doc, pm, an, cdv, ct, osl, rfl, lk, hcd, hD, hK⟩ := F.ex
  rcases hD with ⟨_, rfl⟩ | ⟨e, _⟩
  case inr => exact absurd rfl e
  rcases hK with e | ⟨D, rfl, hq⟩
  · exact absurd e hk
  obtain ⟨mv, hl, rk, hks⟩ := kwd_vals (ms := ms) fun q hm => hq q (hms q hm)
  intro A outer s H us ws vs zs Q E hr e0 r rz lz z
  obtain ⟨v1, rest, rfl, l1, sz, z⟩ := z
  obtain ⟨u1, u2, rfl, r1, r2⟩ := StX.vals_split r
  have nw : H s.heap.objs.size = none := e0.hok.fresh (Nat.le_refl _)
  have lu : u1.length = n := r1.length.symm.trans l1
  have lw : ws.length = ks.length := rz.length.symm.trans lz
  have rg := hrel r1 rk rz
  have lg := hlen l1 (by rw [List.length_map]) lz (mv := ms.map (·.2))
  have KX : K.In s.heap := e0.mod.kin.keeps fun b o e => (e0.bs b o e).1
  refine StX.run_bnd lk hcd S hr e0 (G := fun xs H2 => ∃ p, H p = none ∧ xs = g v1 (ms.map (·.2)) zs ++ [V.ref p] ∧ H2 = upd H p (.tup rest)) (fun A' Ex Q' hh => ?_) fun s2 H2 xs q hr' => ?_
  · refine KwTo.run KX hks (h D doc pm an cdv ct u1 u2 mv ws lu hl lw) (wpAny_bind (wpAny_newTuple (wpAny_pure ?_) (by rw [← r2.length]; exact sz)))
    have new : ObjOk P w (upd H s.heap.objs.size (.tup rest)) (s.heap.push ({ cls := .type "tuple", data := .seq u2.toArray } : Obj)) s.heap.objs.size (.tup rest) := ⟨sz, u2, r2, ⟨_, Heap.get?_push_size _ rfl, rfl, _, rfl⟩⟩
    have un := StX.un_laid (fs := frs outer) (s := s) (o := ({ cls := .type "tuple", data := .seq u2.toArray } : Obj)) (u := .tup rest) nw
    have fin := hh _ _ (g v1 (ms.map (·.2)) zs ++ [V.ref s.heap.objs.size]) (g u1 mv ws ++ [Value.ref s.heap.objs.size]) (StX.env0_laid e0 new) un rfl
      (fun e s' => cxUpN outer s H _ _ E e s' un (fun b o q => Heap.get?_push_of_some _ q) rfl) (rg.append (.cons rfl .nil)) (by rw [List.length_append, List.length_append, lg]; rfl) ⟨_, nw, rfl, rfl⟩
    rw [List.zip_append (by rw [← lg, rg.length])] at fin
    exact fin
  · obtain ⟨p, hp, rfl, rfl⟩ := q
    exact ⟨_, pbS, hb (bx P w K mg base N qual sc f cdv A outer s2 (upd H p (.tup rest)) E) rfl rfl rfl rfl rfl rfl rfl (fun _ => rfl) S.nd _ _ Q E (body_of hr') (z p hp)⟩
/-- a class made so -/
def GSK (P : Program) (w : World) (K : PySem.W.Frag) (mg : Str → Option Value) (base : Heap) (k : Nat) (x : Str) (C : Addr) (ks : List Str) (sp : List V → List V → Hp → VK → XK → Prop) : Prop :=
  ∃ f, mg x = some (.ref C) ∧ Mk K C f ∧ FnSK P w K mg base (RX P w) k f ks sp
end
section
variable {X : Cx} {σ : L2.St} {H : Hp} {Q : VK} {k j : Nat} {E : L2.St → XK} {x : Str} {sp : List V → List V → Hp → VK → XK → Prop} {p pos : Pos} {e : Expr} {es : List Expr} {kws : List Keyword} {C f : Addr} {ks : List Str}
theorem smake_at {pins : List (Addr × Obj)} {s : Shared} {us ws : List Value} {vs zs : List V} {E : XK} (M : Mk X.K C f) (F : FnSK X.prog X.w X.K X.mg X.base (RX X.prog X.w) k f ks sp) (hr : Room (k + 1) X.A)
    (hx : PassesAt (RX X.prog X.w) X σ E) (I : Inv X pins σ H s) (r : Vals vs us) (rz : Vals zs ws) (l2 : zs.length = ks.length) (h : ∀ a dx, H a = none → H dx = none → dx ≠ a → sp (.ref a :: vs) zs (upd (upd H dx (.own a)) a (.ins C dx [])) (fun v H2 => v = .non ∧ Q (.ref a) H2) E) :
    wpAny (model X.prog X.w) X.A (call (.ref C) us (ks.zip ws)) (EP X pins σ Q) X.xe s := by
  have J := Inv.made (C := C) I
  have hq := h (s.heap.objs.size + 1) s.heap.objs.size (I.hok.fresh (Nat.le_succ _)) (I.hok.fresh (Nat.le_refl _)) (Nat.ne_of_lt (Nat.lt_succ_self _))
  have rs : Vals (V.ref (s.heap.objs.size + 1) :: vs) (Value.ref (s.heap.objs.size + 1) :: us) := .cons rfl r
  have run := F _ X.stack _ _ (Value.ref (s.heap.objs.size + 1) :: us) ws _ _ _ E (hr.make C us (ks.zip ws)) (J.env0.make C us (ks.zip ws)) rs rz l2 hq
  refine wpAny_call (make_map (f := f) I.kIn M.makes M.init (beq_iff_eq.mp M.fn) (codeAny_mono run fun o t q => ?_))
  have z := out_at hx J o t q
  cases o with
  | error e => exact z
  | ok fl =>
    cases fl with
    | ret u =>
      obtain ⟨v, H', I3, rv, rfl, q3⟩ := z
      exact ⟨rv, ⟨V.ref (s.heap.objs.size + 1), H', I3, rfl, q3⟩⟩
    | next => exact z.elim
    | brk => exact z.elim
    | cont => exact z.elim
theorem we_makeSK (B : Body X k E) (gn : Gn X x) (f : GSK X.prog X.w X.K X.mg X.base j x C ks sp) (hj : j + 1 ≤ k) (h : WA X (e :: es) σ H fun vs H1 => WK X kws σ H1 fun zs H2 => zs.length = ks.length ∧ ∀ a dx, H2 a = none → H2 dx = none → dx ≠ a → sp (.ref a :: vs) zs (upd (upd H2 dx (.own a)) a (.ins C dx [])) (fun v H3 => v = .non ∧ Q (.ref a) H3) (E σ))
    (hall : (backToKw pos (keywordEach kws X.env)).all (·.1.isSome) = true := by rfl) (hks : (backToKw pos (keywordEach kws X.env)).filterMap (·.1) = ks := by rfl)
    (he : starEach (e :: es) X.env = (false, eval e X.env) :: starEach es X.env := by rfl) (hpl : ((backTo pos (starEach (e :: es) X.env)).any (·.1) || (backToKw pos (keywordEach kws X.env)).any (·.1.isNone)) = false := by rfl) :
    WE X (.Call (.Name x p) (e :: es) kws pos) σ H Q := by
  obtain ⟨f, hm, M, F⟩ := f
  intro pins s I
  refine wpAny_Call_Name_kw (ld_glob I gn.gl hm ?_ gn.d1)
  refine PySem.W.callWith_KW (h₀ := X.base) I.ok.mod.kin M.kp hall (thn (h pos pins s I) fun us s1 z => ?_) hpl he
  obtain ⟨vs, H1, I1, r, q⟩ := z
  refine thn (q pos pins s1 I1) fun ws s2 z => ?_
  obtain ⟨zs, H2, I2, rz, l2, q⟩ := z
  refine ⟨I2.kIn, ?_⟩
  rw [hks]
  exact smake_at M F (B.room.mono hj) (B.at σ) I2 r rz l2 q
theorem we_makeS (B : Body X k E) (gn : Gn X x) (f : GSK X.prog X.w X.K X.mg X.base j x C [] sp) (hj : j + 1 ≤ k) (h : WA X (e :: es) σ H fun vs H2 => ∀ a dx, H2 a = none → H2 dx = none → dx ≠ a → sp (.ref a :: vs) [] (upd (upd H2 dx (.own a)) a (.ins C dx [])) (fun v H3 => v = .non ∧ Q (.ref a) H3) (E σ))
    (hs : starEach (e :: es) X.env = (false, eval e X.env) :: starEach es X.env := by rfl) (hl : (backTo pos (starEach es X.env)).any (·.1) = false := by rfl) : WE X (.Call (.Name x p) (e :: es) [] pos) σ H Q := by
  obtain ⟨f, hm, M, F⟩ := f
  intro pins s I
  refine wpAny_Call_Name_kw (ld_glob I gn.gl hm ?_ gn.d1)
  refine PySem.W.callWith_K (h₀ := X.base) I.ok.mod.kin M.kp (thn (h pos pins s I) fun us s1 z => ?_) hs hl
  obtain ⟨vs, H1, I1, r, q⟩ := z
  exact ⟨I1.kIn, smake_at (zs := []) (ws := []) M F (B.room.mono hj) (B.at σ) I1 r .nil rfl q⟩
end
/-! ### what stays but for the objects at S -/
section
variable {S : Addr → Prop} {H H1 H2 : Hp}
theorem ExX.refl (H : Hp) : ExX S H H := ⟨fun _ _ _ h _ => h, fun _ _ o _ h s => ⟨o, h, s⟩, fun _ h => h⟩
/-- instances that stand: S has none of those that rows begin with -/
theorem ExX.put {a : Addr} {o : HO} (x : ExX S H H1) (h : S a) : ExX S H (upd H1 a o) :=
  ⟨fun b u n hb g => (upd_ne (show b ≠ a from fun e => n (by rw [e]; exact h))).trans (x.kp b u n hb g), fun b l u n hb s => by
    obtain ⟨o1, h1, s1⟩ := x.src b l u n hb s
    exact ⟨o1, (upd_ne (show b ≠ a from fun e => n (by rw [e]; exact h))).trans h1, s1⟩, fun b hb => by
    by_cases e : b = a
    · subst e
      rw [upd_same]
      exact fun z => nomatch z
    · rw [upd_ne e]
      exact x.th b hb⟩
theorem ExX.ex (x : ExX S H H1) (y : Ex H1 H2) (hS : ∀ a o, S a → H1 a = some o → ∃ C dx fs, o = .ins C dx fs ∨ ∃ xs, o = .lst xs) (hG : ∀ l C dx fs, S l → H l = some (.ins C dx fs) → ∃ C dx fs, H1 l = some (.ins C dx fs)) : ExX S H H2 :=
  ⟨fun a o n h g => y.kp a o (x.kp a o n h g) (by
    rcases g with g | ⟨l, C, dx, fs, rest, e, h2⟩
    · exact .inl g
    · by_cases sl : S l
      · obtain ⟨C', dx', fs', h3⟩ := hG l C dx fs sl h2
        exact .inr ⟨l, C', dx', fs', rest, e, h3⟩
      · exact .inr ⟨l, C, dx, fs, rest, e, x.kp _ _ sl h2 (.inl not_src_ins)⟩), fun a l o n h s => by
    obtain ⟨o1, h1, s1⟩ := x.src a l o n h s
    exact y.src a l o1 h1 s1, fun a h => y.there a (x.th a h)⟩
/-- S is new to H0 -/
theorem ExX.fresh (x0 : Ex H H1) (x : ExX S H1 H2) (hS : ∀ a, S a → H a = none) : Ex H H2 :=
  ⟨fun a o h g => x.kp a o (fun s => by rw [hS a s] at h; cases h) (x0.kp a o h g) (g.mono x0), fun a l o h s => by
    obtain ⟨o1, h1, s1⟩ := x0.src a l o h s
    exact x.src a l o1 (fun s => by rw [hS a s] at h; cases h) h1 s1⟩
theorem ExX.ins {a C dx : Addr} {fs : List (Str × V)} (x : ExX S H H1) (n : ¬ S a) (h : H a = some (.ins C dx fs)) : H1 a = some (.ins C dx fs) := x.kp _ _ n h (.inl not_src_ins)
theorem ExX.tup {a : Addr} {xs : List V} (x : ExX S H H1) (n : ¬ S a) (h : H a = some (.tup xs)) : H1 a = some (.tup xs) := x.kp _ _ n h (.inl not_src_tup)
end
end Rs

namespace Rs
open PySem PySem.Spec PyProof.Rows L2 He
section
variable {X : Cx} {σ : L2.St} {H : Hp} {D D' : Ends} {Q : VK} {k j : Nat} {E : L2.St → XK} {m : Str} {sp : Sp} {C : Addr} {c o e : Expr} {a b st : List Stmt} {s1 : Stmt} {pos apos cpos : Pos}
/-! ### what follows may be wanted less -/
theorem wb_mono (h : WB X st D σ H) (n : ∀ σ H, D.nx σ H → D'.nx σ H) (r : ∀ v H, D.rt v H → D'.rt v H) (bk : ∀ σ H, D.bk σ H → D'.bk σ H) (ct : ∀ σ H, D.ct σ H → D'.ct σ H) : WB X st D' σ H := fun pins s I => thn (h pins s I) fun fl s' z => by
  cases fl with
  | next => obtain ⟨σ', H', J, q⟩ := z; exact ⟨σ', H', J, n _ _ q⟩
  | brk => obtain ⟨σ', H', J, q⟩ := z; exact ⟨σ', H', J, bk _ _ q⟩
  | cont => obtain ⟨σ', H', J, q⟩ := z; exact ⟨σ', H', J, ct _ _ q⟩
  | ret u => obtain ⟨v, σ', H', J, rv, q⟩ := z; exact ⟨v, σ', H', J, rv, r _ _ q⟩
theorem ws_mono (h : WS X s1 D σ H) (n : ∀ σ H, D.nx σ H → D'.nx σ H) (r : ∀ v H, D.rt v H → D'.rt v H) (bk : ∀ σ H, D.bk σ H → D'.bk σ H) (ct : ∀ σ H, D.ct σ H → D'.ct σ H) : WS X s1 D' σ H := fun pins s I => thn (h pins s I) fun fl s' z => by
  cases fl with
  | next => obtain ⟨σ', H', J, q⟩ := z; exact ⟨σ', H', J, n _ _ q⟩
  | brk => obtain ⟨σ', H', J, q⟩ := z; exact ⟨σ', H', J, bk _ _ q⟩
  | cont => obtain ⟨σ', H', J, q⟩ := z; exact ⟨σ', H', J, ct _ _ q⟩
  | ret u => obtain ⟨v, σ', H', J, rv, q⟩ := z; exact ⟨v, σ', H', J, rv, r _ _ q⟩
/-- a statement's end, told by R -/
theorem ws_to (R : L2.St → Hp → Prop) (h : WS X s1 { D with nx := R } σ H) (n : ∀ σ H, R σ H → D.nx σ H) : WS X s1 D σ H := ws_mono h n (fun _ _ z => z) (fun _ _ z => z) (fun _ _ z => z)
theorem wt_to {QT : Bool → Hp → Prop} (R : Bool → Hp → Prop) (h : WT X c σ H R) (n : ∀ r H, R r H → QT r H) : WT X c σ H QT := wt_mono h n
theorem we_to (R : V → Hp → Prop) (h : WE X e σ H R) (n : ∀ r H, R r H → Q r H) : WE X e σ H Q := we_mono h n
/-! ### o.m() of an own class; xs.append(e) -/
theorem we_meth0 {pl : Sem Bool} (B : Body X k E) (c : Cls X.K C) (f : Me X j C m sp) (hj : j ≤ k)
    (h : WE X o σ H fun y H1 => ∃ a dx fs, y = .ref a ∧ H1 a = some (.ins C dx fs) ∧ fs.lookup m = none ∧ sp [.ref a] H1 Q (E σ))
    (ht : eval (.Call (.Attribute o m apos) [] [] pos) X.env = (do
      let it ← eval o X.env
      standAt apos.atName
      let (g, first) ← holding [it] (getMethod it m pl)
      callWith pos g first (backTo pos (starEach [] X.env)) (backToKw pos (keywordEach [] X.env))) := by rfl) : WE X (.Call (.Attribute o m apos) [] [] pos) σ H Q := by
  obtain ⟨g, hm, F⟩ := f
  intro pins s I
  refine PySem.W.methodCall_KW (pl := pl) (thn (h pins s I) fun u s1 z => ?_) ht
  obtain ⟨y, H1, I1, ry, a, dx, fs, rfl, e1, l, q⟩ := z
  cases ry
  refine getmeth_ok I1 e1 c hm l ?_
  exact PySem.W.callWith_K0 (first := [.ref a]) I1.kIn hm.kp (go_at (us := [.ref a]) (vs := [.ref a]) F (B.room.mono hj) (B.at σ) I1 (.cons rfl .nil) q)
theorem we_append (h : WE X o σ H fun v H1 => ∃ l vs, v = .ref l ∧ H1 l = some (.lst vs) ∧ WE X e σ H1 fun y H2 => ∃ vs, H2 l = some (.lst vs) ∧ vs.length < sizeLine ∧ Q .non (upd H2 l (.lst (vs ++ [y]))))
    (hbase : attributeBase o "append" X.env (eval o X.env) = eval o X.env := by rfl)
    (hfew : ((backTo cpos (starEach [e] X.env)).all (fun x => !x.1) && (backToKw cpos (keywordEach [] X.env)).all (fun x => x.1.isSome) && decide ([e].length + ([] : List Keyword).length + (if ([] : List Keyword).isEmpty then 0 else 1) < 30)) = true := by rfl)
    (hline : (apos.endLine == cpos.line) = true := by rfl) (hs : starEach [e] X.env = (false, eval e X.env) :: starEach [] X.env := by rfl) (hplain : (backTo cpos (starEach [] X.env)).any (·.1) = false := by rfl) :
    WE X (.Call (.Attribute o "append" apos) [e] [] cpos) σ H Q :=
  weP (pe_bm PySem.F.plainAttrs_list PySem.F.slot_list_append PySem.F.type_list_append mt_append peS paS hbase hfew hline hs hplain) (we_mono h fun v H1 z => by
    obtain ⟨l, vs, rfl, hl, z⟩ := z
    refine ⟨.inl ⟨rfl, vs, .of hl⟩, wa_one (we_mono z fun y H2 z => ?_) hs⟩
    obtain ⟨vs2, h2, hz, z⟩ := z
    exact ⟨l, vs2, y, rfl, rfl, h2, hz, z⟩)
end
end Rs

namespace Rs
open PySem PySem.Spec PyProof.Rows L2 He
/-! ### own exceptions whose __init__(self, x) says super().__init__("..") and self.f = x -/
/-- the def at f, with the cell of its class -/
structure FunC (P : Program) (K : PySem.W.Frag) (C : Addr) (qual : Str) (pa : Arguments) (body : List Stmt) (sc : Scope) (f : Addr) : Prop where
  ex : ∃ (oc : Value) (od : Option Addr) (name : Str) (kV doc pm : Value) (an : Option Addr) (cda cc : Addr) (ct : Value) (osl : Array (Option Value)),
    K.lookup f = some ⟨oc, od, .func (PySem.W.ksFn name qual pa body sc .none kV doc pm an (.ref cda) ct cc), osl⟩ ∧ PySem.W.codeIn K (.ref cda) qual = true ∧
    (∃ cl cld csl, K.lookup cc = some ⟨cl, cld, .cell (some (.ref C)), csl⟩) ∧
    ∃ ccl cdd ccs vs file tf, K.lookup cda = some ⟨ccl, cdd, .fields vs, ccs⟩ ∧ vs[2]? = some (.str file tf) ∧ ((P.main.file : Str) == file) = true
/-- the class -/
structure ExcI (P : Program) (K : PySem.W.Frag) (C f : Addr) : Prop where
  ex : PySem.W.excInitIn K C PySem.HandSPX.veTail "ValueError.__new__" = true
  cl : ∃ cd, PySem.W.clsIn K C = some cd ∧ PySem.HandSPX.refsVE cd.mro = true ∧ cd.hasDict = true
  kp : PySem.W.keepIn K (.ref C) = true
  sb : PySem.W.subIn K (.ref C) (.type "BaseException") = some true
  ve : PySem.W.subIn K (.ref C) (.type "ValueError") = some true
  ty : PySem.W.typeIn K (.ref C) = some (.type "type")
  sa : PySem.W.findIn K (.ref C) "__setattr__" = some (some (.builtin "object.__setattr__"))
  ini : PySem.W.findIn K (.ref C) "__init__" = some (some (.ref f))
  tf : PySem.W.typeIn K (.ref f) = some (.type "function")
  su : PySem.W.ks_superIn K C C "__init__" = some (some (.builtin "ValueError.__init__"))
  mr : PySem.W.mroIn K C (.ref C) = some true
  op : PySem.W.nsIn K cStatics "thirdparty.any" = some none
  top : (P.main.scope.names.lookup ("super" : Str)).isSome = false
open PySem.W in
theorem ini_run {P : Program} {w : World} {K : PySem.W.Frag} {mg : Str → Option Value} {A : Around} {R : Result → Shared → Prop} {h : Heap} {g : Array GenState} {dr : Drawn} {t : Nat} {os : OsState}
    {C f e t0 : Addr} {qual fld par m : Str} {pa : Arguments} {sc : Scope} {ar : Arg} {v : Value} {j : Nat} {p0 p1 p2 p3 p4 p5 p6 p7 p8 p9 : Pos}
    (hroom : A.depth < recursionLimit) (X : K.In h) (hglob : h.Ns mainGlobals mg) (hblt : ∃ mb, h.Ns builtinsNs mb ∧ ∀ x : Str, x ≠ "__name__" → mb x = bootBuiltins x) (hlim : h.NoLimit) (hsu : mg "super" = none)
    (I : ExcI P K C f) (F : FunC P K C qual pa [.Expr (.Call (.Attribute (.Call (.Name "super" p0) [] [] p1) "__init__" p2) [.Constant (.str m) j p3] [] p4) p5, .Assign [.Attribute (.Name "self" p6) fld p7] (.Name par p8) p9] sc f)
    (hlin : (p2.endLine == p4.line) = true) (hp : (pa.posonlyargs ++ pa.args).head? = some ar) (har : ar.arg = "self")
    (hbind : ∀ (name : Str) (kV doc pm cdv ct : Value) (an : Option Addr) (cc : Addr) (body : List Stmt) (a b : Value), bindArgs (ksFn name qual pa body sc .none kV doc pm an cdv ct cc) ⟨[a, b], []⟩ = pure ([("self", a), (par, b)] : List (Str × Value)))
    (hps : par ≠ "self") (hks : sc.names.lookup ("super" : Str) = some .globalImplicit) (hkc : sc.names.lookup ("__class__" : Str) = some .free) (hka : sc.names.lookup ("self" : Str) = some .local) (hkb : sc.names.lookup par = some .local)
    (hcell : ∀ x ∈ sc.names, x.2 ≠ .cell) (hco : sc.isCoroutine = false) (hgen : sc.isGenerator = false) (hk : sc.kind = .function) (hno : PySem.W.findIn K (.ref C) fld = some none) (hdp : (par == ("__debug__" : Str)) = false)
    (he : h.get? e = some (PySem.HandSPX.excO C t0)) (hKe : K.lookup e = none)
    (hq : ∀ h' t' dx t1, (∀ b o, b ≠ e → h.get? b = some o → h'.get? b = some o) → h.objs.size ≤ dx → dx ≠ e → h'.get? e = some ({ cls := .ref C, dict := some dx, data := .fields #[.ref t1, .none, .none, .none, .bool false, .none] } : Obj) →
      h'.Ns1 dx (fun y => if y = fld then some v else none) → R (.ok (.ret .none)) ⟨h', g, dr, t', os⟩) :
    codeAny (model P w) A (.call (.ref f) ⟨[.ref e, v], []⟩) R ⟨h, g, dr, t, os⟩ := by
  obtain ⟨oc, od, name, kV, doc, pm, an, cda, cc, ct, osl, lk, hcd, ⟨cl, cld, csl, hcellK⟩, ccl, cdd, ccs, vs, file, tf, hcode, hvs, hfile⟩ := F.ex
  obtain ⟨cd, hcl, hmro, hdict⟩ := I.cl
  obtain ⟨mb, hb1, hb2⟩ := hblt
  refine ks_codeAny_call_defAt (binds := ([("self", .ref e), (par, v)] : List (Str × Value))) hroom (X _ _ lk) rfl hlim (codeRec_of X hcd) rfl (.of_eq (hbind _ _ _ _ _ _ _ _ _ _ _)) hcell (fun y hy => ?_) (fun h₁ hns hk₁ => ?_) hco hgen hk
  · rcases List.mem_cons.mp hy with rfl | hy
    · exact hka
    · rcases List.mem_cons.mp hy with rfl | hy
      · exact hkb
      · cases hy
  show _root_.PySem.wpAt _ (A.deeper (ksEnv qual sc h.objs.size f (.ref cda) cc)) (.func _ (ksEnv qual sc h.objs.size f (.ref cda) cc)) (execs _ (ksEnv qual sc h.objs.size f (.ref cda) cc)) _ _ _
  have X1 : K.In h₁ := X.keeps hk₁
  have he1 := hk₁ _ _ he
  have hv0 : (fun x => ([("self", Value.ref e), (par, v)] : List (Str × Value)).reverse.lookup x) ("self" : Str) = some (.ref e) := by
    show ([(par, v), ("self", Value.ref e)] : List (Str × Value)).lookup ("self" : Str) = _
    rw [List.lookup_cons, show (("self" : Str) == par) = false from by simpa using fun z => hps z.symm, List.lookup_cons_self]
  have hv1 : (fun x => ([("self", Value.ref e), (par, v)] : List (Str × Value)).reverse.lookup x) par = some v := by
    show ([(par, v), ("self", Value.ref e)] : List (Str × Value)).lookup par = _
    rw [List.lookup_cons_self]
  obtain ⟨oD, hD1, hD2⟩ : ∃ oD, h₁.get? C = some oD ∧ oD.data = .cls cd := by
    have hD := hcl
    unfold clsIn at hD
    split at hD
    · rename_i c d cd' sl ho
      cases hD
      exact ⟨_, X1 _ _ ho, rfl⟩
    · cases hD
  have hint : interactive (ksEnv qual sc h.objs.size f (.ref cda) cc) = false := by
    unfold interactive
    show (sc.kind == ScopeKind.module && _) = false
    rw [hk]
    rfl
  refine ks_wpAt_execs_cons ?_
  refine ks_wpAt_Expr_any ?_ hint
  refine ks_wpAt_MethodCall (pl := (do return (← importBound (.Call (.Name "super" p0) [] [] p1) (ksEnv qual sc h.objs.size f (.ref cda) cc)).getD true)) ?_ (by
    show (do
      let ov ← attributeBase (.Call (.Name "super" p0) [] [] p1) "__init__" (ksEnv qual sc h.objs.size f (.ref cda) cc) (eval (.Call (.Name "super" p0) [] [] p1) (ksEnv qual sc h.objs.size f (.ref cda) cc))
      standAt p2.atName
      methodCall (.Call (.Name "super" p0) [] [] p1) "__init__" p2 p4 (ksEnv qual sc h.objs.size f (.ref cda) cc) ov 1 (backTo p4 (starEach [.Constant (.str m) j p3] (ksEnv qual sc h.objs.size f (.ref cda) cc))) []) = _
    unfold methodCall methodCallPos
    rw [hlin]
    rfl)
  refine ks_wpAt_super_base (env := ksEnv qual sc h.objs.size f (.ref cda) cc) hks hkc (by decide) rfl (X1 _ _ lk) rfl hp rfl (X1 _ _ hcode) rfl hvs hfile I.top ?_
  refine ks_loadName_global hk hks (PySem.Calls.loadGlobal_builtin (env := ksEnv qual sc h.objs.size f (.ref cda) cc) (hglob.keeps hk₁) hsu (hb1.keeps hk₁) ((hb2 _ (by decide)).trans (show bootBuiltins "super" = some (.type "super") by kernel_rfl)) ⟨rfl, ?_⟩)
  refine wpAny_loadName_free hk hkc rfl ⟨_, X1 _ _ hcellK, rfl⟩ ?_
  refine wpAny_loadName_local hk (by rw [har]; exact hka) hns (by rw [har]; exact hv0) ?_
  refine ks_wpAny_isType_cls hD1 hD2 ⟨rfl, ?_⟩
  refine ks_wpAny_call_super hD1 hD2 he1 rfl (fun c z => by cases z) (looks_mroIn X1 I.mr) (fun h2 e2 k2 => ?_)
  have X2 : K.In h2 := X1.keeps k2
  have he2 := k2 _ _ he1
  have I2 : InstAt h2 e (PySem.HandSPX.excO C t0) C none := ⟨he2, rfl, rfl, trivial⟩
  have hsup : alongIn K "__init__" ((cd.mro.dropWhile (· != .ref C)).drop 1) = some (some (.builtin "ValueError.__init__")) := by
    have z := I.su
    unfold ks_superIn at z
    rw [hcl] at z
    exact z
  refine kxs_getMethod kxs_ValueError e2 (looks_opaque X2 I.op) (l₀ := cd.mro) (fun A Q E s k q => wpAny_bind ((looks_clsIn X2 hcl) A _ E s k (wpAny_pure q))) rfl X2 hsup (I2.type.andThen (looks_subIn X2 I.ve)) (ks_ne X2 I2 hcl) (by decide) ?_
  have k3 : ∀ b o, h2.get? b = some o → (h2.push (kxs_mw "ValueError.__init__" e)).get? b = some o := fun b o z => Heap.get?_push_of_some _ z
  have hu : (h2.push (kxs_mw "ValueError.__init__" e)).get? h2.objs.size = some (kxs_mw "ValueError.__init__" e) := Heap.get?_push_at rfl rfl
  generalize h2.push (kxs_mw "ValueError.__init__" e) = h3 at k3 hu ⊢
  have X3 : K.In h3 := X2.keeps k3
  have he3 := k3 _ _ he2
  refine kxs_callWith (i := "ValueError.__init__") (x := e) rfl ?_
  show wpAny _ _ (evalArgs (.ref h2.objs.size) true [(false, eval (.Constant (.str m) j p3) (ksEnv qual sc h.objs.size f (.ref cda) cc))] []) _ _ _
  refine PySem.Calls.evalArgs_plain (Calls.spliced_cons (Calls.Constant_str (Calls.spliced_nil ?_)))
  refine ⟨hu, ?_⟩
  show wpAny _ _ (call (.ref h2.objs.size) [.str m _]) _ _ _
  obtain ⟨nm, N', qn, bs, bm, hdct, sn, sub, ab, col, dd, k0, k1, k2', k3', k5, hC, hT⟩ := excInit_of X3 I.ex
  refine wpAny_call (codeAny_of_tree ?_)
  show wpAny _ (A.deeper _).in1 (callAny (.ref h2.objs.size) ⟨[.str m _], []⟩) _ _ _
  simp only [callAny]
  refine wpAny_bind (wpAny_load hu ?_)
  simp only [kxs_mw, show (Value.type "method-wrapper" == Value.type "method" || Value.type "method-wrapper" == Value.type "builtin_function_or_method" || Value.type "method-wrapper" == Value.type "method-wrapper") = true by decide, if_true]
  refine KFB.if_so (by decide) ?_
  refine wpAny_bind (check_bound_init PySem.F.excBase_ValueError.toExcCallFacts hC he3 rfl ?_)
  refine wpAny_bind (wpAny_pure (wpAny_pure ?_))
  refine ⟨plainId_quiet PySem.F.excBase_ValueError.init.plain _, codeAny_builtin PySem.F.excBase_ValueError.initEntry ?_⟩
  refine exc_init_tree (cls := .ref C) (t0 := t0) (dv := none) (c2 := .none) (c3 := .none) (b4 := .bool false) he3 (by show 1 ≤ sizeLine; rw [sizeLine_eq]; omega) fun h5 k5' e5 t5 => ?_
  have kk5 : ∀ b o, b ≠ e → h.get? b = some o → h5.get? b = some o := fun b o hb ho => k5' b o hb (k3 _ _ (k2 _ _ (hk₁ _ _ ho)))
  have Le : h.objs.size ≠ e := fun z => by
    have y := Heap.lt_size he
    rw [z] at y
    exact absurd y (Nat.lt_irrefl _)
  have hns5 : h5.Ns h.objs.size (fun x => ([("self", Value.ref e), (par, v)] : List (Str × Value)).reverse.lookup x) := by
    obtain ⟨oL, es, ep, hL, r⟩ := hns
    exact ⟨oL, es, ep, k5' _ _ Le (k3 _ _ (k2 _ _ hL)), r⟩
  have X5 : K.In h5 := fun b o hb => by
    by_cases hbe : b = e
    · rw [hbe, hKe] at hb
      cases hb
    · exact kk5 b o hbe (X _ _ hb)
  refine ks_wpAt_execs_cons (ks_wpAt_Assign_Attr ?_)
  refine _root_.PySem.wpAt_of_wpAny (wpAny_Name (wpAny_loadName_local hk hkb hns5 hv1 ?_) hdp)
  refine wpAny_Name (wpAny_loadName_local hk hka hns5 hv0 ?_) (by decide)
  refine set_plain X5 (ox := PySem.HandSPX.excO C h3.objs.size) (od := none) ⟨e5, rfl, rfl, trivial⟩ I.sa ?_
  refine PySem.HandSPX.exc_osa X5 e5 hcl hmro hdict hno (fun h6 tk6 dx k6 dn dne hx hn => ?_)
  refine _root_.PySem.wpAt_of_wpAny (wpAny_pure ?_)
  have s5 : h.objs.size ≤ h5.objs.size := by
    obtain ⟨oL, es, ep, hL, r⟩ := hns5
    exact Nat.le_of_lt (Heap.lt_size hL)
  exact hq h6 tk6 dx h3.objs.size (fun b o hb ho => k6 b o hb (kk5 b o hb ho)) (Nat.le_trans s5 dn) dne hx hn
end Rs
namespace Rs
open PySem PySem.Spec PyProof.Rows L2 He
section
variable {X : Cx} {x par m qual fld : Str} {p pos pos2 : Pos} {C f : Addr} {j k : Nat} {pa : Arguments} {sc : Scope} {ar : Arg} {p0 p1 p2 p3 p4 p5 p6 p7 p8 p9 : Pos} {E : L2.St → XK} {D : Ends} {σ : L2.St} {H : Hp} {ea : Expr}
/-- all that the head and the text tell of such a class -/
structure IniC (P : Program) (K : PySem.W.Frag) (mg : Str → Option Value) (C : Addr) (fld : Str) : Prop where
  ex : ∃ (f : Addr) (qual par m : Str) (pa : Arguments) (sc : Scope) (ar : Arg) (j : Nat) (p0 p1 p2 p3 p4 p5 p6 p7 p8 p9 : Pos), ExcI P K C f ∧
    FunC P K C qual pa [.Expr (.Call (.Attribute (.Call (.Name "super" p0) [] [] p1) "__init__" p2) [.Constant (.str m) j p3] [] p4) p5, .Assign [.Attribute (.Name "self" p6) fld p7] (.Name par p8) p9] sc f ∧
    (p2.endLine == p4.line) = true ∧ (pa.posonlyargs ++ pa.args).head? = some ar ∧ ar.arg = "self" ∧
    (∀ (name : Str) (kV doc pm cdv ct : Value) (an : Option Addr) (cc : Addr) (body : List Stmt) (a b : Value), bindArgs (PySem.W.ksFn name qual pa body sc .none kV doc pm an cdv ct cc) ⟨[a, b], []⟩ = pure ([("self", a), (par, b)] : List (Str × Value))) ∧
    par ≠ "self" ∧ sc.names.lookup ("super" : Str) = some .globalImplicit ∧ sc.names.lookup ("__class__" : Str) = some .free ∧ sc.names.lookup ("self" : Str) = some .local ∧ sc.names.lookup par = some .local ∧
    (∀ x ∈ sc.names, x.2 ≠ .cell) ∧ sc.isCoroutine = false ∧ sc.isGenerator = false ∧ sc.kind = .function ∧ (par == ("__debug__" : Str)) = false
  no : PySem.W.findIn K (.ref C) fld = some none
  su : mg "super" = none
theorem pmk_ini (hr : Room 2 X.A) (c : IniC X.prog X.K X.mg C fld) (g : Gn X x) (hm : X.mg x = some (.ref C))
    (he : starEach [ea] X.env = (false, eval ea X.env) :: starEach [] X.env := by rfl) :
    L2N.PMk X (.Call (.Name x p) [ea] [] pos) (fun σ H Q => WE X ea σ H fun v H1 => ∀ d, H1 d = none → Q (.ref C) (some d) (upd H1 d (.xd [(fld, v)]))) := by
  intro pins s σ H Q I h
  obtain ⟨f, qual, par, m, pa, sc, ar, j, p0, p1, p2, p3, p4, p5, p6, p7, p8, p9, T, F, hlin, hp, har, hbind, hps, hks, hkc, hka, hkb, hcell, hco, hgen, hk, hdp⟩ := c.ex
  refine wpAny_Call_Name_kw (ld_glob I g.gl hm ?_ g.d1)
  refine PySem.W.callWith_K (h₀ := X.base) I.ok.mod.kin T.kp (thn ((wa_one (QA := fun vs H1 => ∃ v, vs = [v] ∧ ∀ d, H1 d = none → Q (.ref C) (some d) (upd H1 d (.xd [(fld, v)]))) (we_mono h fun v H1 q => ⟨v, rfl, q⟩) he) pos pins s I) fun us s1 z => ?_) he rfl
  obtain ⟨vs, H1, I1, r1, v, rfl, q1⟩ := z
  refine ⟨I1.kIn, ?_⟩
  cases r1 with
  | @cons _ u0 _ ur ru rn =>
  cases rn
  show wpAny _ _ (call (.ref C) [u0]) _ _ _
  obtain ⟨nm, N', qn, bs, bm, hdct, sn, sub, ab, col, dd, k0, k1, k2, k3, k5, hC, hT⟩ := PySem.W.excInit_of I1.kIn T.ex
  obtain ⟨hp', gn, dr, tk, os⟩ := s1
  have kk : ∀ b o, hp'.get? b = some o → ((hp'.push (PySem.W.kdv_tup [u0])).push (PySem.HandSPX.excO C hp'.objs.size)).get? b = some o := fun b o e => Heap.get?_push_of_some _ (Heap.get?_push_of_some _ e)
  have hget : ((hp'.push (PySem.W.kdv_tup [u0])).push (PySem.HandSPX.excO C hp'.objs.size)).get? (hp'.objs.size + 1) = some (PySem.HandSPX.excO C hp'.objs.size) := by heap_get
  have hnew : hp'.get? (hp'.objs.size + 1) = none := Heap.get?_none_of_le (Nat.le_succ _)
  obtain ⟨mb, hb1, hb2⟩ := I1.mod.blt
  refine wpAny_call (PySem.HandSPX.call_own PySem.F.excBase_ValueError hT hC (PySem.W.looks_findIn I1.kIn T.ini) (fun self => PySem.W.bind_fn I1.kIn self T.tf) (by show 1 ≤ sizeLine; rw [sizeLine_eq]; omega)
    (ini_run (mg := X.mg) (hr.make C [u0] []).depth (I1.kIn.keeps kk) ((I1.mod.glob.keeps I1.bk).keeps kk) ⟨mb, (hb1.keeps I1.bk).keeps kk, hb2⟩ (I1.nolimit.keeps kk) c.su T F hlin hp har hbind hps hks hkc hka hkb hcell hco hgen hk c.no hdp hget ?_ ?_))
  · cases z : X.K.lookup (hp'.objs.size + 1) with
    | none => rfl
    | some o =>
      have y := I1.kIn _ _ z
      rw [hnew] at y
      cases y
  · intro h' t' dx t1 k' dn dne hx hn
    have hsz : hp'.objs.size ≤ dx := Nat.le_trans (by rw [Heap.size_push, Heap.size_push]; omega) dn
    obtain ⟨G, g1, g2⟩ := restrict h' fun b => decide (b ≠ hp'.objs.size + 1)
    have gk : ∀ b, b ≠ hp'.objs.size + 1 → G.get? b = h'.get? b := fun b hb => g1 b (decide_eq_true hb)
    have ge : G.get? (hp'.objs.size + 1) = none := g2 _ (by simp)
    have kG : ∀ b o, hp'.get? b = some o → G.get? b = some o := fun b o e => by
      have hb : b ≠ hp'.objs.size + 1 := fun z => by
        rw [z, hnew] at e
        cases e
      rw [gk b hb]
      exact k' b o hb (kk b o e)
    have J : Inv X pins σ (upd H1 dx (.xd [(fld, v)])) ⟨G, gn, dr, t', os⟩ := I1.laid (t' := t') (a := dx) (o := .xd [(fld, v)]) (h' := G) kG hsz
      ⟨_, hn.at fun o y => (gk dx dne).trans y, relO_put (fs := []) ru fun g => True.intro⟩
    refine ⟨rfl, hp'.objs.size + 1, _, _, ⟨G, gn, dr, t', os⟩, _, .ref C, some dx, rfl, J, fun b o z => ?_, ge, hx, ⟨rfl, rfl, fun vs e => by cases e; rfl⟩, rfl, rfl, ?_, rfl, I1.bare, raises_own T.sb T.ty, q1 dx (I1.hok.fresh hsz)⟩
    · by_cases hba : b = hp'.objs.size + 1
      · rw [hba, ge] at z
        cases z
      · exact (gk b hba).symm.trans z
    · rw [upd_ne (Ne.symm dne)]
      exact I1.hok.fresh (Nat.le_succ _)
theorem ws_raiseI (B : Body X k E) (hk : 2 ≤ k) (c : IniC X.prog X.K X.mg C fld) (g : Gn X x) (hm : X.mg x = some (.ref C))
    (h : WE X ea σ H fun v H1 => ∀ d, H1 d = none → E σ (.ref C) (some d) (upd H1 d (.xd [(fld, v)])))
    (he : starEach [ea] X.env = (false, eval ea X.env) :: starEach [] X.env := by rfl) : WS X (.Raise (some (.Call (.Name x p) [ea] [] pos)) none pos2) D σ H :=
  wsP (L2N.ps_raise B.calm B.tk (pmk_ini (B.room.mono hk) c g hm he)) h
end
end Rs
namespace Rs
open PySem PySem.Spec PyProof.Rows L2 He
/-! ### such an exception in a suite -/
def rIsED (K : PySem.W.Frag) (D a dd : Addr) : List V → Hp → VK → Prop := fun xs H Q => ∃ (c : V) (cv : Value) (b : Bool) (fs : List (Str × V)), xs = [.ref a, c] ∧ H dd = some (.xd fs) ∧ (∀ u, RelV c u → u = cv) ∧ PySem.W.kitOne K (.ref D) cv = some b ∧ Q (.bl b) H
theorem call_isED {X : Cx} {a D dd : Addr} {oe : Obj} {pn : List (Addr × Obj)} (C : ExcC X.K D) (hz : Zc (.ref D) (some dd) oe) (hf : ∃ vs, oe.data = .fields vs) : CallR (X.suite a ((a, oe) :: pn)) (.builtin "isinstance") (rIsED X.K D a dd) := by
  intro pins s σ H xs us Q I r h
  obtain ⟨c, cv, b, fs, rfl, hdd, hcv, e, q⟩ := h
  cases r with
  | cons rx rr =>
    cases rr with
    | cons rt rr =>
      cases rr
      cases rx
      have ec := hcv _ rt
      subst ec
      obtain ⟨hget, _⟩ := I.pin (a, oe) (List.mem_append.mpr (.inl List.mem_cons_self))
      have hx : ObjOk X.prog X.w H s.heap dd (.xd fs) := I.hok dd _ hdd
      obtain ⟨mA, hns, hr⟩ := hx
      obtain ⟨od, ho, hl⟩ := lookIn_ns hns
      obtain ⟨vs, hv⟩ := hf
      have J : PySem.W.InstAt s.heap a oe D (some od) := ⟨hget, hz.1, by unfold PySem.W.notCls; rw [hv] <;> rfl, by rw [hz.2]; exact ho⟩
      have hcl : (PySem.W.clsIn X.K D).isSome = true := by
        cases z : PySem.W.clsIn X.K D with
        | none =>
          have y := C.hd
          unfold PySem.W.hasDictIn at y
          rw [z] at y
          cases y
        | some cd => rfl
      exact PySem.W.kia_one (PySem.W.kitx_exc (od := some od) hcl C.hg C.hk C.hs C.ha C.hn C.ht C.hm) I.kIn J e (fun z => nomatch z) fun tk => ⟨.bl b, H, I.kept (t' := tk) fun _ _ z => z, rfl, q⟩
section
variable {X : Cx} {a D dd : Addr} {oe : Obj} {pn : List (Addr × Obj)} {σ : L2.St} {H : Hp} {Q : VK} {e b : Expr} {p pos : Pos} {n : Str}
theorem we_isED (C : ExcC X.K D) (hz : L2N.Zn (.ref D) (some dd) oe) (hf : ∃ vs, oe.data = .fields vs) (bn : Bn (X.suite a ((a, oe) :: pn)) "isinstance")
    (h : WE (X.suite a ((a, oe) :: pn)) e σ H fun v H1 => WE (X.suite a ((a, oe) :: pn)) b σ H1 fun w H2 => v = .ref a ∧ (∃ fs, H2 dd = some (.xd fs)) ∧ ∃ cv r, (∀ u, RelV w u → u = cv) ∧ PySem.W.kitOne X.K (.ref D) cv = some r ∧ Q (.bl r) H2)
    (hs : starEach [e, b] X.env = (false, eval e X.env) :: starEach [b] X.env := by rfl) (ht : starEach [b] X.env = [(false, eval b X.env)] := by rfl) (hl : (backTo pos (starEach [b] X.env)).any (·.1) = false := by rfl) :
    WE (X.suite a ((a, oe) :: pn)) (.Call (.Name "isinstance" p) [e, b] [] pos) σ H Q :=
  we_callB (call_isED (pn := pn) C hz.zc hf) bn boot_isinstance (wa_two (we_mono h fun v H1 q => we_mono q fun w H2 q => by
    obtain ⟨rfl, ⟨fs, hd⟩, cv, r, h1, h2, q⟩ := q
    exact ⟨w, cv, r, fs, rfl, hd, h1, h2, q⟩) hs ht) (by decide) (by decide) hs hl
/-- e.f -/
theorem we_xf (C : ExcC X.K D) (hno : PySem.W.findIn X.K (.ref D) n = some none) (hz : L2N.Zn (.ref D) (some dd) oe) (hf : ∃ vs, oe.data = .fields vs)
    (h : WE (X.suite a ((a, oe) :: pn)) e σ H fun v H1 => v = .ref a ∧ ∃ fs y, H1 dd = some (.xd fs) ∧ fs.lookup n = some y ∧ Q y H1) (hb : attributeBase e n X.env (eval e X.env) = eval e X.env := by rfl) :
    WE (X.suite a ((a, oe) :: pn)) (.Attribute e n pos) σ H Q :=
  weP (pe_xf ⟨C.hg, C.hk, C.hs, C.hd⟩ hno hz.zc hf peS hb) (we_mono h fun v H1 z => by
    obtain ⟨rfl, fs, y, h1, h2, q⟩ := z
    exact ⟨rfl, rfl, dd, fs, y, rfl, h1, h2, q⟩)
end
/-! ### looks -/
def excIB (P : Program) (K : PySem.W.Frag) (C f : Addr) : Bool := PySem.W.excInitIn K C PySem.HandSPX.veTail "ValueError.__new__" && ((match PySem.W.clsIn K C with
    | some cd => PySem.HandSPX.refsVE cd.mro && cd.hasDict
    | none => false) && (PySem.W.keepIn K (.ref C) && (decide (PySem.W.subIn K (.ref C) (.type "BaseException") = some true) && (decide (PySem.W.subIn K (.ref C) (.type "ValueError") = some true) && (decide (PySem.W.typeIn K (.ref C) = some (.type "type")) &&
  (decide (PySem.W.findIn K (.ref C) "__setattr__" = some (some (.builtin "object.__setattr__"))) && (decide (PySem.W.findIn K (.ref C) "__init__" = some (some (.ref f))) && (decide (PySem.W.typeIn K (.ref f) = some (.type "function")) &&
  (decide (PySem.W.ks_superIn K C C "__init__" = some (some (.builtin "ValueError.__init__"))) && (decide (PySem.W.mroIn K C (.ref C) = some true) && (decide (PySem.W.nsIn K cStatics "thirdparty.any" = some none) && !(P.main.scope.names.lookup ("super" : Str)).isSome)))))))))))
theorem excI_ok {P : Program} {K : PySem.W.Frag} {C f : Addr} (h : excIB P K C f = true) : ExcI P K C f := by
  obtain ⟨h1, h⟩ := ba h
  obtain ⟨h2, h⟩ := ba h
  obtain ⟨h3, h⟩ := ba h
  obtain ⟨h4, h⟩ := ba h
  obtain ⟨h5, h⟩ := ba h
  obtain ⟨h6, h⟩ := ba h
  obtain ⟨h7, h⟩ := ba h
  obtain ⟨h8, h⟩ := ba h
  obtain ⟨h9, h⟩ := ba h
  obtain ⟨h10, h⟩ := ba h
  obtain ⟨h11, h⟩ := ba h
  obtain ⟨h12, h13⟩ := ba h
  refine ⟨h1, ?_, h3, of_decide_eq_true h4, of_decide_eq_true h5, of_decide_eq_true h6, of_decide_eq_true h7, of_decide_eq_true h8, of_decide_eq_true h9, of_decide_eq_true h10, of_decide_eq_true h11, of_decide_eq_true h12, by simpa using h13⟩
  cases z : PySem.W.clsIn K C with
  | none => rw [z] at h2; cases h2
  | some cd =>
    rw [z] at h2
    obtain ⟨a, b⟩ := ba (show (PySem.HandSPX.refsVE cd.mro && cd.hasDict) = true from h2)
    exact ⟨cd, rfl, a, b⟩
def isCellOf (C : Addr) (o : Option Obj) : Bool := match o with
  | some ob => (match ob.data with
    | .cell v => decide (v = some (.ref C))
    | _ => false)
  | none => false
def isCodeOf (z : Str) (o : Option Obj) : Bool := match o with
  | some ob => (match ob.data with
    | .fields vs => (match vs[2]? with
      | some v => isStrAs z v
      | none => false)
    | _ => false)
  | none => false
def isCodeAt (z : Str) (K : PySem.W.Frag) (v : Value) : Bool := match v with
  | .ref cda => isCodeOf z (K.lookup cda)
  | _ => false
def isCloOf (K : PySem.W.Frag) (C : Addr) (cl : List (Str × Addr)) : Bool := match cl with
  | [q] => decide (q.1 = "__class__") && isCellOf C (K.lookup q.2)
  | _ => false
theorem isCell_ok {C : Addr} {o : Option Obj} (h : isCellOf C o = true) : ∃ cl cld csl, o = some ⟨cl, cld, .cell (some (.ref C)), csl⟩ := by
  cases o with
  | none => cases h
  | some ob =>
    obtain ⟨a1, a2, dt, a3⟩ := ob
    cases dt with
    | cell v => exact ⟨_, _, _, by rw [of_decide_eq_true (show decide (v = some (.ref C)) = true from h)]⟩
    | _ => cases h
theorem isStr_ok {z : Str} {v : Value} (h : isStrAs z v = true) : ∃ file tk, v = .str file tk ∧ (z == file) = true := by
  cases v with
  | str file tk => exact ⟨_, _, rfl, h⟩
  | _ => cases h
theorem isCode_ok {z : Str} {o : Option Obj} (h : isCodeOf z o = true) : ∃ ccl cdd ccs vs file tf, o = some ⟨ccl, cdd, .fields vs, ccs⟩ ∧ vs[2]? = some (.str file tf) ∧ (z == file) = true := by
  cases o with
  | none => cases h
  | some ob =>
    obtain ⟨a1, a2, dt, a3⟩ := ob
    cases dt with
    | fields vs =>
      have h : (match vs[2]? with
        | some v => isStrAs z v
        | none => false) = true := h
      cases e : vs[2]? with
      | none => rw [e] at h; cases h
      | some v =>
        rw [e] at h
        obtain ⟨file, tk, rfl, h2⟩ := isStr_ok h
        exact ⟨_, _, _, vs, file, tk, rfl, e, h2⟩
    | _ => cases h
theorem isCodeAt_ok {z : Str} {K : PySem.W.Frag} {v : Value} (h : isCodeAt z K v = true) : ∃ cda, v = .ref cda ∧ isCodeOf z (K.lookup cda) = true := by
  cases v with
  | ref cda => exact ⟨_, rfl, h⟩
  | _ => cases h
theorem isClo_ok {K : PySem.W.Frag} {C : Addr} {cl : List (Str × Addr)} (h : isCloOf K C cl = true) : ∃ cc, cl = ([("__class__", cc)] : List (Str × Addr)) ∧ isCellOf C (K.lookup cc) = true := by
  cases cl with
  | nil => cases h
  | cons q r =>
    cases r with
    | nil =>
      obtain ⟨n, cc⟩ := q
      obtain ⟨h1, h2⟩ := ba (show (decide (n = "__class__") && isCellOf C (K.lookup cc)) = true from h)
      exact ⟨cc, by rw [of_decide_eq_true h1], h2⟩
    | cons _ _ => cases h
def funOf (o : Option Obj) : Option FuncData := match o with
  | some ob => (match ob.data with
    | .func z => some z
    | _ => none)
  | none => none
def funCB (P : Program) (K : PySem.W.Frag) (C f : Addr) : Bool := match funOf (K.lookup f) with
  | some z => isCloOf K C z.closure && (isCodeAt P.main.file K z.code && decide (z.defaults = .none))
  | none => false
theorem funC_ok {P : Program} {K : PySem.W.Frag} {C f : Addr} {name qual : Str} {pa : Arguments} {body : List Stmt} {sc : Scope} (h : funCB P K C f = true)
    (F : ∃ (oc : Value) (od : Option Addr) (cl : List (Str × Addr)) (dV kV doc pm : Value) (an : Option Addr) (cdv ct : Value) (osl : Array (Option Value)),
      K.lookup f = some ⟨oc, od, .func (PySem.W.fnX name qual pa body sc cl dV kV doc pm an cdv ct), osl⟩ ∧ PySem.W.codeIn K cdv qual = true) : FunC P K C qual pa body sc f := by
  obtain ⟨oc, od, cl, dV, kV, doc, pm, an, cdv, ct, osl, lk, hcd⟩ := F
  unfold funCB at h
  rw [lk] at h
  obtain ⟨h1, h2⟩ := ba (show (isCloOf K C cl && (isCodeAt P.main.file K cdv && decide (dV = .none))) = true from h)
  obtain ⟨h6, h5⟩ := ba h2
  have e5 : dV = .none := of_decide_eq_true h5
  subst e5
  obtain ⟨cc, rfl, h3⟩ := isClo_ok h1
  obtain ⟨cda, rfl, h4⟩ := isCodeAt_ok h6
  exact ⟨oc, od, name, kV, doc, pm, an, cda, cc, ct, osl, lk, hcd, isCell_ok h3, isCode_ok h4⟩
end Rs

namespace Rs
open PySem PySem.Spec PyProof.Rows L2 He
/-! ### several except clauses, each with a name or without one -/
/-- a clause: its class, the slot of its name, its suite -/
abbrev Clause : Type := Value × Option Nat × (Addr → Value → Option Addr → TS)
def offSlot (o : Option Nat) (D : Ends) : Ends := match o with
  | none => D
  | some i => { nx := fun t G => D.nx (t.set i none) G, rt := D.rt, bk := fun t G => D.bk (t.set i none) G, ct := fun t G => D.ct (t.set i none) G }
def onSlot (o : Option Nat) (a : Addr) (t : L2.St) : L2.St := match o with
  | none => t
  | some i => t.set i (some (.ref a))
def wRow (K : PySem.W.Frag) (out : WX) (D : Ends) : List Clause → WX
  | [] => out
  | z :: r => fun cls d t G => ∃ b, PySem.W.exmOne K cls z.1 = some b ∧ (b = true → ∀ a, G a = none → z.2.2 a cls d (offSlot z.2.1 D) (onSlot z.2.1 a t) G) ∧ (b = false → wRow K out D r cls d t G)
/-- a suite reads as ts -/
def SuOk (X : Cx) (st : List Stmt) (ts : Addr → Value → Option Addr → TS) : Prop :=
  ∀ (a : Addr) (o : Obj) (cls : Value) (d : Option Addr) (pn : List (Addr × Obj)), L2N.Zn cls d o → (∃ vs, o.data = .fields vs) → PSs (X.suite a ((a, o) :: pn)) st (ts a cls d)
inductive RowOk (X : Cx) : List ExceptHandler → List Clause → Prop
  | nil : RowOk X [] []
  | bare {x : Str} {c : Value} {ts : Addr → Value → Option Addr → TS} {b0 : Stmt} {su : List Stmt} {p1 p2 : Pos} {hs : List ExceptHandler} {l : List Clause} (hc : Names X x c) (ok : SuOk X (b0 :: su) ts) (r : RowOk X hs l) :
      RowOk X (.ExceptHandler (some (.Name x p1)) none (b0 :: su) p2 :: hs) ((c, none, ts) :: l)
  | named {x n : Str} {i : Nat} {c : Value} {ts : Addr → Value → Option Addr → TS} {b0 : Stmt} {su : List Stmt} {p1 p2 : Pos} {hs : List ExceptHandler} {l : List Clause} (hi : X.N[i]? = some n) (hk : X.env.kindOf n = some .local) (hc : Names X x c)
      (ok : SuOk X (b0 :: su) ts) (r : RowOk X hs l) : RowOk X (.ExceptHandler (some (.Name x p1)) (some n) (b0 :: su) p2 :: hs) ((c, some i, ts) :: l)
section
variable {X : Cx} {pins : List (Addr × Obj)} {D : Ends}
/-- behind a suite without a name -/
theorem suite_end {a : Addr} {o : Obj} {f : Flow} {t : Shared} (ok : X.Ok) (h : SP (X.suite a ((a, o) :: (X.pn ++ pins))) [] D f t) : SP X pins D f t := by
  cases f with
  | next => exact h.elim fun _ h => h.elim fun _ h => ⟨_, _, h.1.unsuite ok, h.2⟩
  | brk => exact h.elim fun _ h => h.elim fun _ h => ⟨_, _, h.1.unsuite ok, h.2⟩
  | cont => exact h.elim fun _ h => h.elim fun _ h => ⟨_, _, h.1.unsuite ok, h.2⟩
  | ret u => exact h.elim fun _ h => h.elim fun _ h => h.elim fun _ h => ⟨_, _, _, h.1.unsuite ok, h.2⟩
/-- behind a body under try -/
theorem tried_end {pn : List (Addr × Obj)} {xe : Value → Shared → Prop} {f : Flow} {t : Shared} (ok : X.Ok) (back : ∀ {σ : L2.St} {G : Hp}, Inv (X.tr pn xe) [] σ G t → Inv X pins σ G t) (h : SP (X.tr pn xe) [] D f t) : SP X pins D f t := by
  cases f with
  | next => exact h.elim fun _ h => h.elim fun _ h => ⟨_, _, back h.1, h.2⟩
  | brk => exact h.elim fun _ h => h.elim fun _ h => ⟨_, _, back h.1, h.2⟩
  | cont => exact h.elim fun _ h => h.elim fun _ h => ⟨_, _, back h.1, h.2⟩
  | ret u => exact h.elim fun _ h => h.elim fun _ h => h.elim fun _ h => ⟨_, _, _, back h.1, h.2⟩
end
section
variable {X : Cx} {body : List Stmt} {h0 : ExceptHandler} {hds : List ExceptHandler} {l : List Clause} {pos : Pos} {tb : WX → TS} {out : WX}
theorem ps_try_row (stk : X.stack = X.env :: X.outer) (fra : X.env.frame = some X.env.locals) (nod : X.N.Nodup) (tk : L2N.Takes X out)
    (hb : ∀ (W : WX) (pn : List (Addr × Obj)) (xe : Value → Shared → Prop), L2N.Takes (X.tr pn xe) W → PassesOwn (model X.prog X.w) X.A X.env xe → PSs (X.tr pn xe) body (tb W))
    (rows : RowOk X (h0 :: hds) l) : PS X (.Try body (h0 :: hds) [] [] pos) (fun D σ H => tb (wRow X.K out D l) D σ H) := by
  refine ⟨fun pins s σ H D I h => wpAny_Try_except ?_⟩
  have ok := I.ok
  have kf : X.A.frames = some (X.env :: X.outer) := stk ▸ ok.frames
  refine wpAny_mono ((hb _ (X.pn ++ pins) (fun e t1 => wpAny (model X.prog X.w) X.A (noteFrame e X.env) (fun _ t2 => wpAny (model X.prog X.w) X.A (setFlight e none)
    (fun _ t3 => wpAny (model X.prog X.w) X.A (handleBy e X.env (h0 :: hds)) (SP X pins D) X.xe t3) X.xe t2) X.xe t1) (fun u t xx => ?_) PassesOwn.looking).run [] s σ H D (I.toTry _) h)
    (fun f t z => ?_) (fun _ _ z => z)
  case refine_2 =>
    have z' := tried_end (pins := pins) ok (fun J => J.ofTry ok) z
    cases f with
    | next => exact wpAny_execs_nil z'
    | brk => exact z'
    | cont => exact z'
    | ret _ => exact z'
  obtain ⟨a, B, t0, pins0, τ, G, cls, d, rfl, J0, nb, up, sky, ha0, eo, ag, wish⟩ := xx
  have J := J0.ofTry (pins := pins) ok
  have sk : Sky B (X.env :: X.outer) a (L2N.Zn cls d) X.env.locals t.heap := stk ▸ sky
  show wpAny (model X.prog X.w) X.A (noteFrame (Value.ref a) X.env) _ _ t
  refine L2N.Sky.land L2N.Zn.steady kf fra sk fun g3 fl up3 => ?_
  have J3 : Inv X pins τ G { t with heap := g3 } := J.landed nb fl.1 (up.trans up3) eo ag
  obtain ⟨o3, vs3, e3, z3, dt3⟩ := fl.there
  have noFrame : a ∉ frs (X.env :: X.outer) := fun hm => by
    obtain ⟨_, o', e', hnf⟩ := fl.2.2.1.mem hm
    rw [e3] at e'
    cases e'
    exact hnf _ dt3
  have na : a ≠ X.env.locals := fun q => noFrame (List.mem_filterMap.mpr ⟨X.env, List.mem_cons_self, fra.trans (congrArg some q.symm)⟩)
  have nf : a ∉ X.fs := fun q => noFrame ((List.mem_filterMap.mp q).elim fun e h => List.mem_filterMap.mpr ⟨e, List.mem_cons_of_mem _ h.1, h.2⟩)
  have S3 := J3.suite e3 dt3 ha0 na nf
  have kind : PySem.W.Looks (model X.prog X.w) g3 (typeOf (Value.ref a)) cls := fun _ _ _ _ k q => wpAny_typeOf_ref (k _ _ e3) (z3.1 ▸ q)
  have named : ∀ {x : Str} {c : Value} {np : Pos} {Q : Value → Shared → Prop} {E : Value → Shared → Prop}, Names X x c → Q c { t with heap := g3 } →
      wpAny (model X.prog X.w) (X.A.mark (some (.ref a))) (eval (.Name x np) X.env) Q E { t with heap := g3 } := fun hc q => by
    rcases hc with ⟨g1, g2, m | ⟨m1, m2, m3⟩⟩
    · exact ld_glob (X := X.suite a ((a, o3) :: (X.pn ++ pins))) S3 g1 m q g2
    · exact ld_blt (X := X.suite a ((a, o3) :: (X.pn ++ pins))) S3 g1 m1 m2 q m3 g2
  have all : ∀ {rs : List ExceptHandler} {ls : List Clause}, RowOk X rs ls → wRow X.K out D ls cls d τ G → wpAny (model X.prog X.w) X.A (handleBy (.ref a) X.env rs) (SP X pins D) X.xe { t with heap := g3 } := by
    intro rs ls ro
    induction ro with
    | nil =>
      intro w
      refine wpAny_handleBy_nil ?_
      obtain ⟨_, _, _, o5, v5, C5, k5, t5, q1, q2, q3, q4, q5⟩ := id fl
      unfold PySem.passOn
      refine wpAny_bind (wpAny_field q1 q3 q4 ?_)
      rw [if_neg (show ¬ ((Value.ref C5 == Value.none) = true) by simp)]
      have last : wpAny (model X.prog X.w) X.A (setFlight (.ref a) X.env.frame) (fun _ t4 => wpAny (model X.prog X.w) X.A (throw (.ref a) : Sem Flow) (SP X pins D) X.xe t4) X.xe { t with heap := g3 } := by
        rw [fra]
        exact HandSPX.setFlight_upZ fl fun g4 fl4 up4 => wpAny_throw (tk _ _ ⟨a, B, t0, pins, τ, G, cls, d, rfl, J, nb, (up.trans up3).trans up4, .inr (.inr (by rw [stk]; exact fl4)), ha0, eo, ag, w⟩)
      first
        | exact wpAny_bind (wpAny_pure (wpAny_bind last))
        | exact wpAny_bind last
    | @bare x c ts b0 su p1 p2 hs l hc so r ih =>
      rintro ⟨b, eb, yes, no⟩
      refine wpAny_handleBy_cons (codeAny_handlers_test (named hc ((PySem.W.exm_one (M := model X.prog X.w) J3.kIn kind eb).here ?_))) (by intro q; cases q)
      cases b with
      | false => exact ih (no rfl)
      | true =>
        refine codeAny_handlers_suite (HandSPX.lands_againZ fl fun g4 fl4 up4 => ?_)
        obtain ⟨o4, v4, e4, z4, dt4⟩ := fl4.there
        have J4 : Inv X pins τ G { t with heap := g4 } := J.landed nb fl4.1 ((up.trans up3).trans up4) eo ag
        have S4 := J4.suite e4 dt4 ha0 na nf
        exact wpAny_mono ((so a o4 cls d (X.pn ++ pins) z4 ⟨_, dt4⟩).run [] _ _ G _ S4 (yes rfl a ha0)) (fun _ _ z => suite_end ok z) (fun _ _ z => False.elim z)
    | @named x n i c ts b0 su p1 p2 hs l hi hk hc so r ih =>
      rintro ⟨b, eb, yes, no⟩
      refine wpAny_handleBy_cons (codeAny_handlers_test (named hc ((PySem.W.exm_one (M := model X.prog X.w) J3.kIn kind eb).here ?_))) (by intro q; cases q)
      cases b with
      | false => exact ih (no rfl)
      | true =>
        refine codeAny_handlers_suite_as (HandSPX.lands_againZ fl fun g4 fl4 up4 => ?_)
        obtain ⟨o4, v4, e4, z4, dt4⟩ := fl4.there
        have J4 : Inv X pins τ G { t with heap := g4 } := J.landed nb fl4.1 ((up.trans up3).trans up4) eo ag
        have S4 := J4.suite e4 dt4 ha0 na nf
        refine store_ok (X := X.suite a ((a, o4) :: (X.pn ++ pins))) (v := .ref a) S4 nod hi (.inl hk) rfl (fun t5 S5 => ?_) (.inr hk)
        refine wpAny_mono ((so a o4 cls d (X.pn ++ pins) z4 ⟨_, dt4⟩).run [] t5 _ G _ S5 (yes rfl a ha0)) (fun f t6 z => ?_) (fun _ _ z => False.elim z)
        have gone : ∀ {τ6 : L2.St} {G6 : Hp} {R : Shared → Prop}, Inv X pins τ6 G6 t6 → (∀ t7, Inv X pins (τ6.set i none) G6 t7 → R t7) →
            wpAny (model X.prog X.w) X.A (do bindName X.env n .none; unbindBehindTheSuite X.env n p2) (fun _ t7 => R t7) X.xe t6 := fun S hq => gone_ok S nod hi hk hq
        have z' := suite_end (pins := pins) ok z
        cases f with
        | next => exact z'.elim fun _ h => h.elim fun _ h => gone h.1 fun t7 J7 => ⟨_, _, J7, h.2⟩
        | brk => exact z'.elim fun _ h => h.elim fun _ h => gone h.1 fun t7 J7 => ⟨_, _, J7, h.2⟩
        | cont => exact z'.elim fun _ h => h.elim fun _ h => gone h.1 fun t7 J7 => ⟨_, _, J7, h.2⟩
        | ret u => exact z'.elim fun _ h => h.elim fun _ h => h.elim fun _ h => gone h.1 fun t7 J7 => ⟨_, _, _, J7, h.2.1, h.2.2⟩
  exact all rows wish
end
section
variable {X : Cx} {k : Nat} {E : L2.St → XK} {D : Ends} {σ : L2.St} {H : Hp} {body : List Stmt} {h0 : ExceptHandler} {hds : List ExceptHandler} {l : List Clause} {pos : Pos}
theorem su_ok {st : List Stmt} : SuOk X st (Sui X st) := fun a oe cls d pn hz hf => ⟨fun pins t σ H D I q => q oe pn hz hf pins t I⟩
theorem ws_try_row (B : Body X k E) (nod : X.N.Nodup) (rows : RowOk X (h0 :: hds) l)
    (h : ∀ pn xe, Body (X.tr pn xe) k (fun σ cls d H => wRow X.K (fun cls d σ H => E σ cls d H) D l cls d σ H) → WB (X.tr pn xe) body D σ H) (hf : ∀ x, X.fn x = true := by assumption) :
    WS X (.Try body (h0 :: hds) [] [] pos) D σ H :=
  wsP (ps_try_row (tb := fun W D σ H => ∀ pn xe, L2N.Takes (X.tr pn xe) W → PassesOwn (model X.prog X.w) X.A X.env xe → WB (X.tr pn xe) body D σ H) (B.stk hf) (B.fr hf) nod B.tk
    (fun W pn xe tk po => ⟨fun pins t σ H D I q => q pn xe tk po pins t I⟩) rows) fun pn xe tk po => h pn xe (B.tr tk po)
theorem row_yes {K : PySem.W.Frag} {out : WX} {z : Clause} {r : List Clause} {cls : Value} {d : Option Addr} (e : PySem.W.exmOne K cls z.1 = some true) (h : ∀ a, H a = none → z.2.2 a cls d (offSlot z.2.1 D) (onSlot z.2.1 a σ) H) : wRow K out D (z :: r) cls d σ H := ⟨true, e, fun _ => h, fun q => nomatch q⟩
theorem row_no {K : PySem.W.Frag} {out : WX} {z : Clause} {r : List Clause} {cls : Value} {d : Option Addr} (e : PySem.W.exmOne K cls z.1 = some false) (h : wRow K out D r cls d σ H) : wRow K out D (z :: r) cls d σ H := ⟨false, e, (fun q => nomatch q), fun _ => h⟩
end
/-! ### data beside data -/
section
variable {X : Cx} {k : Nat} {E : L2.St → XK} {H : Hp} {Q : VK} {v u : V} {d e : PyData}
theorem o_eqDp (B : Body X k E) (hv : Dp X.K H v d) (hu : Dp X.K H u e) (sd : SeqAt.shaped d = true) (se : SeqAt.shaped e = true) (q : Q (.bl (PyData.eqv d e)) H) : Op2 X (compareOp .Eq) v u H Q :=
  op2_of (op_eqD (by have := B.room.un; omega)) ⟨d, e, hv, hu, sd, se, q⟩
theorem o_neDp (B : Body X k E) (hv : Dp X.K H v d) (hu : Dp X.K H u e) (sd : SeqAt.shaped d = true) (se : SeqAt.shaped e = true) (q : Q (.bl (!PyData.eqv d e)) H) : Op2 X (compareOp .NotEq) v u H Q :=
  op2_of (op_neD (by have := B.room.un; omega)) ⟨d, e, hv, hu, sd, se, q⟩
end
/-! ### slices of lists, lists put together -/
section
variable {X : Cx} {σ : L2.St} {H : Hp} {Q : VK} {a b : Expr} {pos p2 : Pos}
theorem we_cutL (h : WE X a σ H fun v H1 => WE X b σ H1 fun w H2 => ∃ p xs i, v = .ref p ∧ w = .int i ∧ SqL X.K H2 p xs ∧ ∀ l, H2 l = none → Q (.ref l) (upd H2 l (.lst (cutV xs (some i) none)))) : WE X (.Subscript a (.Slice (some b) none none p2) pos) σ H Q :=
  weP (pe_slice sl_list peS (po_some peS) po_none) (we_mono h fun v H1 z => we_mono z fun w H2 z => by
    obtain ⟨p, xs, i, rfl, rfl, h1, z⟩ := z
    exact ⟨i, rfl, p, xs, rfl, h1, z⟩)
theorem we_cutA (h : WE X a σ H fun v H1 => ∃ p xs, v = .ref p ∧ SqL X.K H1 p xs ∧ ∀ l, H1 l = none → Q (.ref l) (upd H1 l (.lst (cutV xs none none)))) : WE X (.Subscript a (.Slice none none none p2) pos) σ H Q :=
  weP (pe_slice sl_list peS po_none po_none) (we_mono h fun v H1 z => by
    obtain ⟨p, xs, rfl, h1, z⟩ := z
    exact ⟨p, xs, rfl, h1, z⟩)
end
theorem cut_all (xs : List V) : cutV xs none none = xs := by
  unfold cutV HT.sIx
  simp
end Rs

namespace Rs
open PySem PySem.Spec PyProof.Rows L2 He
/-! ### a module's tuple of texts -/
def KTup (K : PySem.W.Frag) (a : Addr) (xs : List Str) : Prop :=
  ∃ (o : Obj) (its : Array Value) (n : Nat), K.lookup a = some o ∧ o.cls = .type "tuple" ∧ o.data = .seq its n ∧ its.size ≤ sizeLine ∧ Vals (xs.map V.str) its.toList
theorem KTup.sq {K : PySem.W.Frag} {a : Addr} {xs : List Str} (h : KTup K a xs) (H : Hp) : SqT K H a (xs.map V.str) := .inr h
theorem strsAre_ok : ∀ {xs : List Str} {vs : List Value}, strsAre xs vs = true → Vals (xs.map V.str) vs
  | [], [], _ => .nil
  | x :: xs, v :: vs, h => by
    obtain ⟨h1, h2⟩ := ba h
    obtain ⟨f, t, rfl, e⟩ := isStr_ok h1
    exact .cons ⟨t, by rw [eq_of_beq e]⟩ (strsAre_ok h2)
  | [], _ :: _, h => nomatch h
  | _ :: _, [], h => nomatch h
theorem kTup_ok {K : PySem.W.Frag} {a : Addr} {xs : List Str} (h : kTupB K a xs = true) : KTup K a xs := by
  unfold kTupB at h
  cases q : K.lookup a with
  | none => rw [q] at h; cases h
  | some o =>
    rw [q] at h
    obtain ⟨h1, h2⟩ := ba h
    cases q2 : seqOf o.data with
    | none => rw [q2] at h2; cases h2
    | some i =>
      rw [q2] at h2
      obtain ⟨h3, h4⟩ := ba h2
      cases q3 : o.data with
      | seq i' n =>
        rw [q3] at q2
        cases q2
        exact ⟨o, i, n, q, of_decide_eq_true h1, q3, Nat.le_trans (of_decide_eq_true h3) (by decide), strsAre_ok h4⟩
      | _ => rw [q3] at q2; cases q2
/-! ### dicts with texts as keys -/
theorem not_src_dk {kvs : List (Key × V)} : ¬ Src (.dK kvs) := by
  rintro ⟨l, i, b, r, e, _⟩
  cases e
section
variable {X : Cx} {k : Nat} {E : L2.St → XK} {σ : L2.St} {H : Hp} {D : Ends} {Q : VK} {o i e value : Expr} {pos pos' p : Pos} {j : Nat} {x : Str}
theorem we_dget (B : Body X k E) (h : WE X o σ H fun v H1 => WE X i σ H1 fun y H2 => ∃ a kvs x v', v = .ref a ∧ y = .str x ∧ H2 a = some (.dK kvs) ∧ valV kvs (.inr x) = some v' ∧ Q v' H2) (hs : NoSl i := by intro _ _; rfl) : WE X (.Subscript o i pos) σ H Q :=
  weP (pe_dget (by have := B.room.un; omega) peS peS hs) (we_mono h fun v H1 z => we_mono z fun y H2 z => by
    obtain ⟨a, kvs, x, v', rfl, rfl, h1, h2, q⟩ := z
    exact ⟨a, v', rfl, by rw [← h2]; exact DGet.k (k := .inr x) h1, q⟩)
/-- o["x"] -/
theorem we_dgetS (B : Body X k E) (h : WE X o σ H fun v H1 => ∃ a kvs v', v = .ref a ∧ H1 a = some (.dK kvs) ∧ valV kvs (.inr x) = some v' ∧ Q v' H1) (hs : NoSl (.Constant (.str x) j p) := by intro _ _; rfl) : WE X (.Subscript o (.Constant (.str x) j p) pos) σ H Q :=
  we_dget B (we_mono h fun v H1 z => we_str (by
    obtain ⟨a, kvs, v', rfl, h1, h2, q⟩ := z
    exact ⟨a, kvs, x, v', rfl, rfl, h1, h2, q⟩)) hs
theorem ws_dput (B : Body X k E) (h : WE X value σ H fun v H1 => WE X o σ H1 fun z H2 => WE X i σ H2 fun y H3 => ∃ a kvs x, z = .ref a ∧ y = .str x ∧ H3 a = some (.dK kvs) ∧ kvs.length < sizeLine ∧ D.nx σ (upd H3 a (.dK (putK kvs (.inr x) v))))
    (hs : swapsWith value (some (.Subscript o i pos')) pos.line X.env = pure false := by rfl) : WS X (.Assign [.Subscript o i pos'] value pos) D σ H :=
  wsP (ps_dput (by have := B.room.un; omega) peS peS peS hs) (we_mono h fun v H1 z => we_mono z fun y H2 z => we_mono z fun w H3 z => by
    obtain ⟨a, kvs, x, rfl, rfl, h1, h2, q⟩ := z
    exact ⟨a, _, rfl, DPut.k (k := .inr x) h1 h2, q⟩)
theorem call_dictC {X : Cx} : CallR X (.type "dict") fun xs H Q => ∃ a kvs, xs = [.ref a] ∧ H a = some (.dK kvs) ∧ ∀ p, H p = none → Q (.ref p) (upd H p (.dK kvs)) := by
  intro pins s σ H xs us Q I r q
  obtain ⟨a, kvs, rfl, ea, q⟩ := q
  obtain ⟨u, rfl, ru⟩ := vals1 r
  cases ru
  exact d_copyOf I (.inl ea) fun p s' hp I' => ⟨.ref p, _, I', rfl, q p hp⟩
theorem we_dictC (bn : Bn X "dict") (h : WE X e σ H fun v H1 => ∃ a kvs, v = .ref a ∧ H1 a = some (.dK kvs) ∧ ∀ p, H1 p = none → Q (.ref p) (upd H1 p (.dK kvs))) (hs : starEach [e] X.env = [(false, eval e X.env)] := by rfl) (hl : (backTo pos (starEach [] X.env)).any (·.1) = false := by rfl) :
    WE X (.Call (.Name "dict" p) [e] [] pos) σ H Q := we_callT call_dictC bn (by rfl) (wa_one (we_mono h fun v H1 q => by
    obtain ⟨a, kvs, rfl, q⟩ := q
    exact ⟨a, kvs, rfl, q⟩) hs) (by decide) (by decide) hs hl
/-- in, not in of flat items -/
theorem o_inT {v : V} {a : Addr} {xs : List V} (h : SqT X.K H a xs) (hv : flatV v = true) (hx : xs.all flatV = true) (q : Q (.bl (inV v xs)) H) : Op2 X (compareOp .In) v (.ref a) H Q := op2_of op_in_seq ⟨a, xs, rfl, .inr h, hv, hx, q⟩
end
theorem o_isB {X : Cx} {H : Hp} {Q : VK} {a b : Bool} (q : Q (.bl (decide (a = b))) H) : Op2 X (compareOp .Is) (.bl a) (.bl b) H Q := op2_of op_isBl ⟨a, b, rfl, rfl, q⟩
/-! ### dicts as rows of keys and rows of values -/
section
variable {ks : List Key} {vs : List V} {k : Key} {v : V} {i : Nat}
theorem valV_zip (nd : ks.Nodup) (hk : ks[i]? = some k) (hv : vs[i]? = some v) : valV (ks.zip vs) k = some v := by
  induction ks generalizing vs i with
  | nil => cases hk
  | cons k0 ks ih =>
    cases vs with
    | nil => cases hv
    | cons v0 vs =>
      cases i with
      | zero =>
        cases hk
        cases hv
        exact valV_pos rfl
      | succ i =>
        have n0 := List.nodup_cons.mp nd
        have m : k ∈ ks := List.mem_of_getElem? hk
        show valV ((k0, v0) :: ks.zip vs) k = some v
        rw [valV_neg (fun e : k0 = k => n0.1 (e ▸ m))]
        exact ih n0.2 hk hv
theorem zip_keys {x : Key × V} (h : x ∈ ks.zip vs) : x.1 ∈ ks := (List.of_mem_zip h).1
theorem map_zip (nk : k ∉ ks) : (ks.zip vs).map (fun kv => if kv.1 = k then (kv.1, v) else kv) = ks.zip vs := by
  have e : ∀ kv ∈ ks.zip vs, (if kv.1 = k then (kv.1, v) else kv) = kv := fun kv h => if_neg fun q : kv.1 = k => nk (q ▸ zip_keys h)
  rw [List.map_congr_left e, List.map_id']
theorem putK_zip (nd : ks.Nodup) (l : ks.length = vs.length) (hk : ks[i]? = some k) : putK (ks.zip vs) k v = ks.zip (vs.set i v) := by
  have hi := (List.getElem?_eq_some_iff.mp hk).1
  have hs : ((ks.zip vs).any fun kv => decide (kv.1 = k)) = true := by
    rw [valV_any, valV_zip nd hk (List.getElem?_eq_getElem (show i < vs.length by omega))]
    rfl
  unfold putK
  rw [if_pos hs]
  clear hs hi
  induction ks generalizing vs i with
  | nil => cases hk
  | cons k0 ks ih =>
    cases vs with
    | nil => cases l
    | cons v0 vs =>
      have n0 := List.nodup_cons.mp nd
      cases i with
      | zero =>
        cases hk
        show (if k = k then (k, v) else (k, v0)) :: (ks.zip vs).map _ = (k, v) :: ks.zip vs
        rw [if_pos rfl, map_zip n0.1]
      | succ i =>
        have m : k ∈ ks := List.mem_of_getElem? hk
        show (if k0 = k then (k0, v) else (k0, v0)) :: (ks.zip vs).map _ = (k0, v0) :: ks.zip (vs.set i v)
        rw [if_neg (fun e : k0 = k => n0.1 (e ▸ m)), ih n0.2 (Nat.succ.inj l) hk]
theorem any_none {acc : List (Key × V)} (h : ∀ x ∈ acc, x.1 ≠ k) : (acc.any fun kv => decide (kv.1 = k)) = false := by
  rw [List.any_eq_false]
  exact fun x hx q => h x hx (of_decide_eq_true q)
theorem mergeK_new : ∀ (more acc : List (Key × V)), (more.map (·.1)).Nodup → (∀ x ∈ acc, ∀ y ∈ more, x.1 ≠ y.1) → mergeK acc more = acc ++ more
  | [], acc, _, _ => (List.append_nil acc).symm
  | kv :: more, acc, nd, dj => by
    have n0 := List.nodup_cons.mp nd
    show mergeK (putK acc kv.1 kv.2) more = acc ++ kv :: more
    have e : putK acc kv.1 kv.2 = acc ++ [kv] := by
      unfold putK
      rw [any_none fun x hx => dj x hx kv List.mem_cons_self, if_neg (by decide)]
    rw [e, mergeK_new more _ n0.2 ?_, List.append_assoc]
    · rfl
    · intro x hx y hy
      rcases List.mem_append.mp hx with h | h
      · exact dj x h y (List.mem_cons_of_mem _ hy)
      · rw [List.mem_singleton.mp h]
        exact fun q => n0.1 (List.mem_map.mpr ⟨y, hy, q.symm⟩)
theorem mergeK_zip (nd : ks.Nodup) (l : ks.length = vs.length) : mergeK [] (ks.zip vs) = ks.zip vs := by
  refine mergeK_new _ [] ?_ (fun x h => by cases h)
  rw [List.map_fst_zip (by omega)]
  exact nd
end
/-! ### a dict written out -/
def WP (X : Cx) (keys : List (Option Expr)) (values : List Expr) (σ : L2.St) (H : Hp) (Q : List (V × V) → Hp → Prop) : Prop := match keys, values with
  | [], [] => Q [] H
  | some k :: ks, v :: vs => WE X k σ H fun a H1 => WE X v σ H1 fun b H2 => WP X ks vs σ H2 fun ps H3 => Q ((a, b) :: ps) H3
  | _, _ => False
section
variable {X : Cx} {σ : L2.St}
theorem pps_wp (pos : Pos) : ∀ (keys : List (Option Expr)) (values : List Expr), keys.all (·.isSome) = true → keys.length = values.length → ∃ trs, PPs X pos keys values trs ∧ ∀ H Q, WP X keys values σ H Q → tPairs trs σ H Q
  | [], [], _, _ => ⟨[], pps_nil, fun H Q h => h⟩
  | some k :: ks, v :: vs, h, l => by
    obtain ⟨trs, p, q⟩ := pps_wp pos ks vs h (Nat.succ.inj l)
    exact ⟨_, pps_cons peS peS p, fun H Q h => we_mono h fun a H1 z => we_mono z fun b H2 z => q _ _ z⟩
  | none :: ks, v :: vs, h, _ => by cases h
  | [], _ :: _, _, l => by cases l
  | _ :: _, [], _, l => by cases l
theorem wp_cons {k v : Expr} {ks : List (Option Expr)} {vs : List Expr} {H : Hp} {Q : List (V × V) → Hp → Prop} (h : WE X k σ H fun a H1 => WE X v σ H1 fun b H2 => WP X ks vs σ H2 fun ps H3 => Q ((a, b) :: ps) H3) : WP X (some k :: ks) (v :: vs) σ H Q := h
theorem wp_nil {H : Hp} {Q : List (V × V) → Hp → Prop} (h : Q [] H) : WP X [] [] σ H Q := h
theorem we_disp {H : Hp} {Q : VK} {keys : List (Option Expr)} {values : List Expr} {pos : Pos} (h0 : keys ≠ [])
    (h : ∀ p, H p = none → WP X keys values σ (upd H p (.dK [])) fun ps H2 => H2 p = some (.dK []) ∧ ∃ kvs : List (Key × V), ps = kvs.map (fun kv => (kV kv.1, kv.2)) ∧ kvs.length ≤ 15 ∧ Q (.ref p) (upd H2 p (.dK (mergeK [] kvs)))) (hk : keys.length ≤ 15 := by decide)
    (hall : keys.all (·.isSome) = true := by rfl) (hl : keys.length = values.length := by rfl) : WE X (.Dict keys values pos) σ H Q := by
  obtain ⟨trs, p, q⟩ := pps_wp (X := X) (σ := σ) pos keys values hall hl
  exact weP (pe_disp p hall hl h0 hk) fun a ha => q _ _ (h a ha)
end
/-! ### isinstance(e, (A, B)) in a suite -/
section
variable {X : Cx} {a D : Addr} {oe : Obj} {pn : List (Addr × Obj)} {σ : L2.St} {H : Hp} {Q : VK} {e b : Expr} {p pos : Pos}
theorem call_isE2 (C : ExcC X.K D) (hz : Zc (.ref D) none oe) (hf : ∃ vs, oe.data = .fields vs) : CallR (X.suite a ((a, oe) :: pn)) (.builtin "isinstance") fun xs H Q => ∃ (t C1 C2 : Addr) (r : Bool), xs = [.ref a, .ref t] ∧ H t = some (.tup [.ref C1, .ref C2]) ∧ PySem.W.kitAny X.K (.ref D) [.ref C1, .ref C2] = some r ∧ Q (.bl r) H := by
  intro pins s σ H xs us Q I r h
  obtain ⟨t, C1, C2, r', rfl, ht, e, q⟩ := h
  cases r with
  | cons rx rr =>
    cases rr with
    | cons rt rr =>
      cases rr
      cases rx
      cases rt
      obtain ⟨hget, _⟩ := I.pin (a, oe) (List.mem_append.mpr (.inl List.mem_cons_self))
      obtain ⟨vs, hv⟩ := hf
      have J : PySem.W.InstAt s.heap a oe D none := by
        obtain ⟨oc, od, oda, osl⟩ := oe
        obtain ⟨h1, h2⟩ := hz
        dsimp only at h1 h2 hv
        subst h1 h2 hv
        exact ⟨hget, rfl, rfl, trivial⟩
      obtain ⟨its, rv, ⟨o, ho, hc, n, hd⟩, _⟩ := I.tuple (.of ht : SqT X.K H t [.ref C1, .ref C2])
      have ev : its = [Value.ref C1, Value.ref C2] := by
        cases rv with
        | cons r1 rv =>
          cases rv with
          | cons r2 rv =>
            cases rv
            cases r1
            cases r2
            rfl
      obtain ⟨oc, od, oda, osl⟩ := o
      dsimp only at hc hd
      subst hc hd ev
      exact PySem.W.kia_tup (its := [.ref C1, .ref C2]) (PySem.W.handS_kitx_exc C.hg C.hk C.hs C.hd C.ha C.hn C.ht C.hm) I.kIn J ho e (fun z => nomatch z) fun tk => ⟨.bl r', H, I.kept (t' := tk) fun _ _ z => z, rfl, q⟩
theorem we_isE2 (C : ExcC X.K D) (hz : L2N.Zn (.ref D) none oe) (hf : ∃ vs, oe.data = .fields vs) (bn : Bn (X.suite a ((a, oe) :: pn)) "isinstance")
    (h : WE (X.suite a ((a, oe) :: pn)) e σ H fun v H1 => WE (X.suite a ((a, oe) :: pn)) b σ H1 fun w H2 => v = .ref a ∧ ∃ (t C1 C2 : Addr) (r : Bool), w = .ref t ∧ H2 t = some (.tup [.ref C1, .ref C2]) ∧ PySem.W.kitAny X.K (.ref D) [.ref C1, .ref C2] = some r ∧ Q (.bl r) H2)
    (hs : starEach [e, b] X.env = (false, eval e X.env) :: starEach [b] X.env := by rfl) (ht : starEach [b] X.env = [(false, eval b X.env)] := by rfl) (hl : (backTo pos (starEach [b] X.env)).any (·.1) = false := by rfl) :
    WE (X.suite a ((a, oe) :: pn)) (.Call (.Name "isinstance" p) [e, b] [] pos) σ H Q :=
  we_callB (call_isE2 (pn := pn) C hz.zc hf) bn boot_isinstance (wa_two (we_mono h fun v H1 q => we_mono q fun w H2 q => by
    obtain ⟨rfl, t, C1, C2, r, rfl, h1, h2, q⟩ := q
    exact ⟨t, C1, C2, r, rfl, h1, h2, q⟩) hs ht) (by decide) (by decide) hs hl
theorem kitAny2 {K : PySem.W.Frag} {C1 C2 : Value} (h1 : PySem.W.kitOne K (.ref D) C1 = some false) (h2 : PySem.W.kitOne K (.ref D) C2 = some false) : PySem.W.kitAny K (.ref D) [C1, C2] = some false := by
  unfold PySem.W.kitAny
  rw [h1]
  unfold PySem.W.kitAny
  rw [h2]
  rfl
end
end Rs

namespace Mt
/-- |q| -/
def rabs (q : Rat) : Rat := Rat.divInt (if q.num < 0 then -q.num else q.num) q.den
theorem cross {a b : Int} (hb : b ≠ 0) : (Rat.divInt a b).num * b = a * (Rat.divInt a b).den := by
  have h := Rat.num_divInt_den (Rat.divInt a b)
  exact (Rat.divInt_eq_divInt_iff (den_ne _) hb).mp h
theorem rabs_div {a b : Int} (hb : b ≠ 0) : rabs (Rat.divInt a b) = Rat.divInt (if (decide (a < 0) != decide (b < 0)) = true then -a else a) b := by
  have hq := Rat.num_divInt_den (Rat.divInt a b)
  have hc := cross (a := a) hb
  have hD := den_pos (Rat.divInt a b)
  generalize hn : (Rat.divInt a b).num = n at hc hq
  generalize hd : ((Rat.divInt a b).den : Int) = D at hc hq hD
  have nega : -Rat.divInt a b = Rat.divInt (-a) b := Rat.neg_divInt a b
  unfold rabs
  rw [hn, hd]
  by_cases h0 : n < 0
  · rw [if_pos h0, ← Rat.neg_divInt, hq, nega]
    rcases Int.lt_or_gt_of_ne hb with hb' | hb'
    · have h1 : 0 < n * b := Int.mul_pos_of_neg_of_neg h0 hb'
      rw [hc] at h1
      have ha : 0 < a := Int.pos_of_mul_pos_left h1 hD
      rw [decide_eq_false (by omega : ¬ a < 0), decide_eq_true hb']; rfl
    · have h1 : n * b < 0 := Int.mul_neg_of_neg_of_pos h0 hb'
      rw [hc] at h1
      have ha : a < 0 := Int.neg_of_mul_neg_left h1 hD
      rw [decide_eq_true ha, decide_eq_false (by omega : ¬ b < 0)]; rfl
  · rw [if_neg h0, hq]
    rcases Int.lt_or_gt_of_ne hb with hb' | hb'
    · have h1 : n * b ≤ 0 := Int.mul_nonpos_of_nonneg_of_nonpos (by omega) (by omega)
      rw [hc] at h1
      have ha : a ≤ 0 := by
        refine Int.not_lt.mp fun z => ?_
        have := Int.mul_pos z hD
        omega
      by_cases z : a < 0
      · rw [decide_eq_true z, decide_eq_true hb', if_neg (by decide)]
      · rw [show a = 0 by omega]
        split <;> rfl
    · have h1 : 0 ≤ n * b := Int.mul_nonneg (by omega) (by omega)
      rw [hc] at h1
      have ha : 0 ≤ a := by
        refine Int.not_lt.mp fun z => ?_
        have := Int.mul_neg_of_neg_of_pos z hD
        omega
      rw [decide_eq_false (by omega : ¬ a < 0), decide_eq_false (by omega : ¬ b < 0), if_neg (by decide)]
end Mt

namespace Mt
/-- -1, 0, 1 as q is below, at, above r -/
def sg (q r : Rat) : Int := if q = r then 0 else if q < r then -1 else 1
theorem sg_neg (q r : Rat) : -sg q r = sg r q := by
  unfold sg
  by_cases h : q = r
  · subst h
    rw [if_pos rfl]; rfl
  · have h' : ¬ r = q := fun e => h e.symm
    by_cases l : q < r
    · have l' : ¬ r < q := fun l2 => absurd (Rat.le_of_lt l2) (Rat.not_le.mpr l)
      simp only [h, h', l, l', if_true, if_false]; rfl
    · have l' : r < q := Rat.not_le.mp fun l2 => l (Rat.lt_of_le_of_ne l2 h)
      simp only [h, h', l, l', if_true, if_false]
theorem sg_lt (q r : Rat) : decide (q < r) = decide (sg q r < 0) := by
  unfold sg
  by_cases h : q = r
  · subst h
    rw [if_pos rfl, decide_eq_false Rat.lt_irrefl]; rfl
  · rw [if_neg h]
    by_cases l : q < r
    · rw [if_pos l, decide_eq_true l]; rfl
    · rw [if_neg l, decide_eq_false l]; rfl
theorem sg_eq (q r : Rat) : decide (q = r) = decide (sg q r = 0) := by
  unfold sg
  by_cases h : q = r
  · rw [if_pos h, decide_eq_true h]; rfl
  · rw [if_neg h, decide_eq_false h]
    by_cases l : q < r
    · rw [if_pos l]; rfl
    · rw [if_neg l]; rfl
theorem sg_eq2 (q r : Rat) : decide (r = q) = decide (sg q r = 0) := by
  rw [← sg_eq]
  congr 1
  exact propext eq_comm
theorem sg_le (q r : Rat) : decide (q ≤ r) = decide (sg q r ≤ 0) := by
  unfold sg
  by_cases h : q = r
  · subst h
    rw [if_pos rfl, decide_eq_true Rat.le_refl]; rfl
  · rw [if_neg h]
    by_cases l : q < r
    · rw [if_pos l, decide_eq_true (Rat.le_of_lt l)]; rfl
    · rw [if_neg l, decide_eq_false fun l2 => l (Rat.lt_of_le_of_ne l2 h)]; rfl
theorem sg_gt (q r : Rat) : decide (r < q) = decide (0 < sg q r) := by
  rw [sg_lt r q, ← sg_neg q r]
  congr 1
  exact propext ⟨fun h => by omega, fun h => by omega⟩
theorem sg_ge (q r : Rat) : decide (r ≤ q) = decide (0 ≤ sg q r) := by
  rw [sg_le r q, ← sg_neg q r]
  congr 1
  exact propext ⟨fun h => by omega, fun h => by omega⟩
theorem sq_pos {x : Int} (h : x ≠ 0) : 0 < x * x := by
  rcases Int.lt_or_gt_of_ne h with l | l
  · exact Int.mul_pos_of_neg_of_neg l l
  · exact Int.mul_pos l l
/-- the two sides of _law_sign, scaled -/
theorem side {a b d D G n : Int} (h : n * b = a * D) : a * b * d * d * (D * G) = n * G * (b * b * (d * d)) := by
  have : a * b * d * d * (D * G) = (a * D) * b * d * d * G := by grind
  rw [this, ← h]
  grind
theorem sgn_lt {a b c d : Int} (hb : b ≠ 0) (hd : d ≠ 0) : (a * b * d * d < c * d * b * b) ↔ Rat.divInt a b < Rat.divInt c d := by
  have h1 := side (d := d) (G := ((Rat.divInt c d).den : Int)) (cross (a := a) hb)
  have h2 := side (d := b) (G := ((Rat.divInt a b).den : Int)) (cross (a := c) hd)
  have hk : 0 < b * b * (d * d) := Int.mul_pos (sq_pos hb) (sq_pos hd)
  have hD := Int.mul_pos (den_pos (Rat.divInt a b)) (den_pos (Rat.divInt c d))
  rw [Rat.lt_iff]
  have e1 := Int.mul_lt_mul_right (b := (Rat.divInt a b).num * (Rat.divInt c d).den) (c := (Rat.divInt c d).num * (Rat.divInt a b).den) hk
  have e2 := Int.mul_lt_mul_right (b := a * b * d * d) (c := c * d * b * b) hD
  rw [← e1, ← e2, h1, Int.mul_comm ((Rat.divInt a b).den : Int), h2, Int.mul_comm (b * b) (d * d)]
theorem sgn_eq {a b c d : Int} (hb : b ≠ 0) (hd : d ≠ 0) : (a * b * d * d = c * d * b * b) ↔ Rat.divInt a b = Rat.divInt c d := by
  have l1 := sgn_lt (a := a) (c := c) hb hd
  have l2 := sgn_lt (a := c) (c := a) hd hb
  constructor
  · intro h
    have n1 := mt l1.mpr (by omega)
    have n2 := mt l2.mpr (by omega)
    exact Rat.le_antisymm (Rat.not_lt.mp n2) (Rat.not_lt.mp n1)
  · intro h
    have n1 := mt l1.mp (by rw [h]; exact Rat.lt_irrefl)
    have n2 := mt l2.mp (by rw [h]; exact Rat.lt_irrefl)
    omega
theorem fdiv_le {a b : Int} (hb : b ≠ 0) : (a.fdiv b).natAbs ≤ a.natAbs := by
  rcases Int.lt_or_gt_of_ne hb with l | l
  · rw [← Int.neg_fdiv_neg, Int.fdiv_eq_ediv_of_nonneg _ (by omega)]
    refine Nat.le_trans (Int.natAbs_ediv_le_natAbs _ _) ?_
    rw [Int.natAbs_neg]
    exact Nat.le_refl _
  · rw [Int.fdiv_eq_ediv_of_nonneg _ (by omega)]
    exact Int.natAbs_ediv_le_natAbs _ _
end Mt

namespace Mt
/-- at least 1 -/
def m1 (b : Int) : Nat := if b.natAbs = 0 then 1 else b.natAbs
theorem m1_pos (b : Int) : 1 ≤ m1 b := by unfold m1; split <;> omega
theorem m1_le (b : Int) : b.natAbs ≤ m1 b := by unfold m1; split <;> omega
theorem powB {b : Int} {r n M : Nat} (h : m1 b ^ n < 2 ^ M) (l : r ≤ n) : (b ^ r).natAbs < 2 ^ M := by
  rw [Int.natAbs_pow]
  exact Nat.lt_of_le_of_lt (Nat.le_trans (Nat.pow_le_pow_left (m1_le b) r) (Nat.pow_le_pow_right (m1_pos b) l)) h
theorem powm {m k n M : Nat} (h : m < 2 ^ k) (l : k * n ≤ M) (hn : 0 < n) : m ^ n < 2 ^ M := by
  refine Nat.lt_of_lt_of_le (Nat.pow_lt_pow_left h (by omega)) ?_
  rw [← Nat.pow_mul]
  exact Nat.pow_le_pow_right (by decide) l
/-- q to the n -/
def qpow (q : Rat) (n : Nat) : Rat := Rat.divInt (q.num ^ n) ((q.den : Int) ^ n)
theorem pow_ne {b : Int} (h : b ≠ 0) (n : Nat) : b ^ n ≠ 0 := Int.pow_ne_zero h
theorem qpow_div {a b : Int} (hb : b ≠ 0) (n : Nat) : qpow (Rat.divInt a b) n = Rat.divInt (a ^ n) (b ^ n) := by
  unfold qpow
  rw [Rat.divInt_eq_divInt_iff (pow_ne (den_ne _) n) (pow_ne hb n), ← Int.mul_pow, ← Int.mul_pow, cross hb]
theorem qpow_add (q : Rat) (m n : Nat) : qpow q (m + n) = qpow q m * qpow q n := by
  unfold qpow
  rw [Rat.divInt_mul_divInt, ← Int.pow_add, ← Int.pow_add]
theorem cop_pow (q : Rat) (n : Nat) : Int.gcd (q.num ^ n) ((q.den : Int) ^ n) = 1 := by
  show Nat.gcd (q.num ^ n).natAbs ((q.den : Int) ^ n).natAbs = 1
  rw [Int.natAbs_pow, Int.natAbs_pow, Int.natAbs_natCast]
  exact Nat.Coprime.pow n n q.reduced
theorem g1_pow (q : Rat) (n : Nat) : g1 (q.num ^ n) ((q.den : Int) ^ n) = 1 := by
  unfold g1
  rw [cop_pow]
  rfl
theorem qpow_num (q : Rat) (n : Nat) : (qpow q n).num = q.num ^ n := by
  have hd : (q.den : Int) ^ n > 0 := Int.pow_pos (den_pos q)
  unfold qpow
  rw [Rat.num_divInt, Int.gcd_comm, cop_pow, Int.sign_eq_one_of_pos hd, Int.one_mul]
  exact Int.ediv_one _
theorem qpow_den (q : Rat) (n : Nat) : ((qpow q n).den : Int) = (q.den : Int) ^ n := by
  have hd : (q.den : Int) ^ n > 0 := Int.pow_pos (den_pos q)
  unfold qpow
  rw [Rat.den_divInt, if_neg (by omega), Int.gcd_comm, cop_pow, Nat.div_one, Int.natAbs_of_nonneg (by omega)]
theorem step_odd {r e c n : Nat} (h : r + e * c = n) (o : c % 2 = 1) : (r + e) + (e + e) * (c / 2) = n := by
  have hc : c = 2 * (c / 2) + 1 := by omega
  generalize c / 2 = h2 at hc
  subst hc
  rw [← h, Nat.add_mul, Nat.mul_add, Nat.mul_one, Nat.two_mul, Nat.mul_add]
  omega
theorem step_even {r e c n : Nat} (h : r + e * c = n) (o : c % 2 = 0) : r + (e + e) * (c / 2) = n := by
  have hc : c = 2 * (c / 2) := by omega
  generalize c / 2 = h2 at hc
  subst hc
  rw [← h, Nat.add_mul, Nat.two_mul, Nat.mul_add]
theorem le_n {r e c n : Nat} (h : r + e * c = n) (hc : 0 < c) : e ≤ n ∧ r ≤ n ∧ r + e ≤ n := by
  have : e * 1 ≤ e * c := Nat.mul_le_mul_left e hc
  omega
end Mt

namespace Mt
def ov (q r : Rat) : Rat := Rat.divInt (q.num * r.den) (q.den * r.num)
def fl (q r : Rat) : Int := (q.num * r.den).fdiv (q.den * r.num)
theorem scale {a b : Int} (hb : b ≠ 0) : ∃ g : Int, g ≠ 0 ∧ a = (Rat.divInt a b).num * g ∧ b = (Rat.divInt a b).den * g := Rat.divInt_num_den (n' := (Rat.divInt a b).num) (d' := (Rat.divInt a b).den) (z' := (Rat.divInt a b).den_nz) (c := (Rat.divInt a b).reduced) hb rfl
theorem fdiv_scale {x y k : Int} (hk : k ≠ 0) : (x * k).fdiv (y * k) = x.fdiv y := by
  have pos : ∀ {x y k : Int}, 0 < k → (x * k).fdiv (y * k) = x.fdiv y := fun {x y k} h => by
    rw [Int.mul_comm x, Int.mul_comm y]
    exact Int.mul_fdiv_mul_of_pos x y h
  rcases Int.lt_or_gt_of_ne hk with l | l
  · rw [← Int.neg_fdiv_neg, Int.neg_mul_eq_mul_neg, Int.neg_mul_eq_mul_neg]
    exact pos (by omega)
  · exact pos l
theorem four (n g G h : Int) : n * g * (G * h) = n * G * (g * h) := by grind
theorem fl_div {a b c d : Int} (hb : b ≠ 0) (hd : d ≠ 0) : fl (Rat.divInt a b) (Rat.divInt c d) = (a * d).fdiv (b * c) := by
  obtain ⟨g, g0, e1, e2⟩ := scale (a := a) hb
  obtain ⟨h, h0, e3, e4⟩ := scale (a := c) hd
  generalize hq : Rat.divInt a b = q at *
  generalize hr : Rat.divInt c d = r at *
  unfold fl
  rw [e1, e2, e3, e4, four q.num g r.den h, four q.den g r.num h, fdiv_scale (Int.mul_ne_zero g0 h0)]
theorem ov_div {a b c d : Int} (hb : b ≠ 0) (hd : d ≠ 0) : ov (Rat.divInt a b) (Rat.divInt c d) = Rat.divInt (a * d) (b * c) := by
  obtain ⟨g, g0, e1, e2⟩ := scale (a := a) hb
  obtain ⟨h, h0, e3, e4⟩ := scale (a := c) hd
  generalize hq : Rat.divInt a b = q at *
  generalize hr : Rat.divInt c d = r at *
  unfold ov
  rw [e1, e2, e3, e4, four q.num g r.den h, four q.den g r.num h, Rat.divInt_mul_right (Int.mul_ne_zero g0 h0)]
theorem num_zero {c d : Int} (hd : d ≠ 0) : (Rat.divInt c d).num = 0 ↔ c = 0 := by
  obtain ⟨h, h0, e3, e4⟩ := scale (a := c) hd
  constructor
  · intro z
    rw [e3, z, Int.zero_mul]
  · intro z
    rw [z] at e3 ⊢
    rcases Int.mul_eq_zero.mp e3.symm with y | y
    · exact y
    · exact absurd y h0
theorem fl_le {q r : Rat} (h : r.num ≠ 0) : (fl q r).natAbs ≤ (q.num * r.den).natAbs := fdiv_le (Int.mul_ne_zero (den_ne q) h)
end Mt

namespace Mt
theorem Sz.mul {q r : Rat} {n m : Nat} (h : Sz q n) (h' : Sz r m) : Sz (q * r) (n + m) := by
  rw [← mul_eq]
  refine Sz.div (Int.mul_ne_zero (den_ne q) (den_ne r)) (mulB h.num h'.num) ?_
  rw [Int.natAbs_mul, Int.natAbs_natCast, Int.natAbs_natCast]
  exact pow_add' h.den h'.den
theorem Sz.sub {q r : Rat} {n m : Nat} (h : Sz q n) (h' : Sz r m) : Sz (q - r) (n + m + 1) := by
  rw [← sub_eq]
  refine Sz.div (Int.mul_ne_zero (den_ne q) (den_ne r)) (subB (mulB h.num (by rw [Int.natAbs_natCast]; exact h'.den)) ?_) ?_
  · rw [Nat.add_comm]
    exact mulB h'.num (by rw [Int.natAbs_natCast]; exact h.den)
  · rw [Int.natAbs_mul, Int.natAbs_natCast, Int.natAbs_natCast]
    exact Nat.lt_of_lt_of_le (pow_add' h.den h'.den) (Nat.pow_le_pow_right (by decide) (by omega))
theorem Sz.add {q r : Rat} {n m : Nat} (h : Sz q n) (h' : Sz r m) : Sz (q + r) (n + m + 1) := by
  rw [← add_eq]
  refine Sz.div (Int.mul_ne_zero (den_ne q) (den_ne r)) (addB (mulB h.num (by rw [Int.natAbs_natCast]; exact h'.den)) ?_) ?_
  · rw [Nat.add_comm]
    exact mulB h'.num (by rw [Int.natAbs_natCast]; exact h.den)
  · rw [Int.natAbs_mul, Int.natAbs_natCast, Int.natAbs_natCast]
    exact Nat.lt_of_lt_of_le (pow_add' h.den h'.den) (Nat.pow_le_pow_right (by decide) (by omega))
theorem back_again (q r : Rat) : q - r + r = q := Rat.sub_add_cancel
theorem part_times {a b c d : Int} (hb : b ≠ 0) (hc : c ≠ 0) (hd : d ≠ 0) : ov (Rat.divInt a b) (Rat.divInt c d) * Rat.divInt c d = Rat.divInt a b := by
  rw [ov_div hb hd, Rat.divInt_mul_divInt, Rat.divInt_eq_divInt_iff (Int.mul_ne_zero (Int.mul_ne_zero hb hc) hd) hb]
  grind
end Mt

namespace Mt
/-! a round, sending by sending, over any numbers -/
section
variable {α : Type} [Add α] [LT α] [DecidableRel (LT.lt (α := α))]
/-- the wait of sending k, its time -/
def wtk (w : α) (d : Bool) : Nat → α
  | 0 => w
  | k + 1 => if d = true then wtk w d k + wtk w d k else wtk w d k
def stk (z w : α) (d : Bool) : Nat → α
  | 0 => z
  | k + 1 => stk z w d k + wtk w d k
/-- the delay of sending k -/
def dlk (ds : List (Option α)) (k : Nat) : Option α := if k < ds.length then (ds[k]?).getD none else (ds[ds.length - 1]?).getD none
structure RS (α : Type) where
  nd : Nat
  an : Nat
  ans : Option α
  dly : Option α
def rstep (r : RS α) (k : Nat) (s : α) (o : Option α) : RS α :=
  let n := match r.ans with
    | none => r.nd
    | some _ => r.nd + 1
  match o with
  | none => ⟨n, r.an, r.ans, r.dly⟩
  | some x => match r.ans with
    | none => ⟨n, k, some (s + x), some x⟩
    | some a => if s + x < a then ⟨n, k, some (s + x), some x⟩ else ⟨n, r.an, r.ans, r.dly⟩
def rsk (z w : α) (d : Bool) (ds : List (Option α)) : Nat → RS α
  | 0 => ⟨0, 0, none, none⟩
  | k + 1 => rstep (rsk z w d ds k) k (stk z w d k) (dlk ds k)
/-- an answer is awaited at sending k -/
def Gng (z w : α) (d : Bool) (ds : List (Option α)) (k : Nat) : Prop := match (rsk z w d ds k).ans with
  | none => True
  | some a => stk z w d k < a
/-- the wait of the last one of k sendings -/
def lwk (w : α) (d : Bool) : Nat → α
  | 0 => w
  | k + 1 => wtk w d k
end
section
variable {α β : Type} [Add α] [LT α] [DecidableRel (LT.lt (α := α))] [Add β] [LT β] [DecidableRel (LT.lt (α := β))]
def RS.map (f : α → β) (r : RS α) : RS β := ⟨r.nd, r.an, r.ans.map f, r.dly.map f⟩
variable {f : α → β} (ha : ∀ a b, f (a + b) = f a + f b) (hl : ∀ a b, f a < f b ↔ a < b) {z w : α} {d : Bool} {ds : List (Option α)}
include ha in
theorem wtk_map (k : Nat) : wtk (f w) d k = f (wtk w d k) := by
  induction k with
  | zero => rfl
  | succ k ih =>
    unfold wtk
    rw [ih]
    split
    · rw [ha]
    · rfl
include ha in
theorem stk_map (k : Nat) : stk (f z) (f w) d k = f (stk z w d k) := by
  induction k with
  | zero => rfl
  | succ k ih =>
    unfold stk
    rw [ih, wtk_map ha, ha]
include ha in
theorem lwk_map (k : Nat) : lwk (f w) d k = f (lwk w d k) := by
  cases k with
  | zero => rfl
  | succ k => exact wtk_map ha k
theorem dlk_map (k : Nat) : dlk (ds.map (Option.map f)) k = (dlk ds k).map f := by
  unfold dlk
  rw [List.length_map, List.getElem?_map, List.getElem?_map]
  split
  · cases ds[k]? with
    | none => rfl
    | some o => rfl
  · cases ds[ds.length - 1]? with
    | none => rfl
    | some o => rfl
include ha hl in
theorem rstep_map (r : RS α) (k : Nat) (s : α) (o : Option α) : rstep (r.map f) k (f s) (o.map f) = (rstep r k s o).map f := by
  obtain ⟨nd, an, ans, dly⟩ := r
  cases o with
  | none => cases ans <;> rfl
  | some x =>
    cases ans with
    | none =>
      show (⟨nd, k, some (f s + f x), some (f x)⟩ : RS β) = ⟨nd, k, some (f (s + x)), some (f x)⟩
      rw [ha]
    | some a =>
      show (if f s + f x < f a then (⟨nd + 1, k, some (f s + f x), some (f x)⟩ : RS β) else ⟨nd + 1, an, some (f a), dly.map f⟩) = RS.map f (if s + x < a then ⟨nd + 1, k, some (s + x), some x⟩ else ⟨nd + 1, an, some a, dly⟩)
      rw [← ha]
      by_cases h : s + x < a
      · rw [if_pos h, if_pos ((hl _ _).mpr h)]
        rfl
      · rw [if_neg h, if_neg (fun q => h ((hl _ _).mp q))]
        rfl
include ha hl in
theorem rsk_map (k : Nat) : rsk (f z) (f w) d (ds.map (Option.map f)) k = (rsk z w d ds k).map f := by
  induction k with
  | zero => rfl
  | succ k ih =>
    unfold rsk
    rw [ih, stk_map ha, dlk_map, rstep_map ha hl]
include ha hl in
theorem gng_map (k : Nat) : Gng (f z) (f w) d (ds.map (Option.map f)) k ↔ Gng z w d ds k := by
  unfold Gng
  rw [rsk_map ha hl, stk_map ha]
  cases h : (rsk z w d ds k).ans with
  | none =>
    have : ((rsk z w d ds k).map f).ans = none := by unfold RS.map; rw [h]; rfl
    rw [this]
  | some a =>
    have : ((rsk z w d ds k).map f).ans = some (f a) := by unfold RS.map; rw [h]; rfl
    rw [this]
    exact hl _ _
end
/-! whole numbers over a bottom -/
def sc (L : Nat) (i : Int) : Rat := Rat.divInt i L
theorem sc_add {L : Nat} (h : L ≠ 0) (a b : Int) : sc L (a + b) = sc L a + sc L b := by
  unfold sc
  rw [Rat.divInt_add_divInt _ _ (by omega) (by omega), ← Int.add_mul, Rat.divInt_mul_right (by omega)]
theorem sc_lt {L : Nat} (h : L ≠ 0) (a b : Int) : sc L a < sc L b ↔ a < b := by
  unfold sc
  have hp : (0 : Int) < L := by omega
  rw [← sgn_lt (by omega) (by omega), Int.mul_lt_mul_right hp, Int.mul_lt_mul_right hp, Int.mul_lt_mul_right hp]
theorem sc_zero (L : Nat) : sc L 0 = 0 := by
  unfold sc
  exact Rat.zero_divInt _
theorem sc_pos {L : Nat} (h : L ≠ 0) {a : Int} : 0 < sc L a ↔ 0 < a := by rw [← sc_zero L, sc_lt h]
end Mt

namespace Mt
section
variable {W : Int} {d : Bool} {ds : List (Option Int)}
theorem wtk_ge (h : 0 ≤ W) (k : Nat) : W ≤ wtk W d k := by
  induction k with
  | zero => exact Int.le_refl _
  | succ k ih =>
    unfold wtk
    split <;> omega
theorem wtk_le (h : 0 ≤ W) (k : Nat) : wtk W d k ≤ W * 2 ^ k := by
  induction k with
  | zero => show W ≤ W * 2 ^ 0; omega
  | succ k ih =>
    have e : W * 2 ^ (k + 1) = W * 2 ^ k + W * 2 ^ k := by rw [Int.pow_succ]; grind
    have g := wtk_ge (d := d) h k
    rw [e]
    unfold wtk
    split <;> omega
theorem stk_le (h : 0 ≤ W) (k : Nat) : stk 0 W d k ≤ W * 2 ^ k := by
  induction k with
  | zero => show 0 ≤ W * 2 ^ 0; omega
  | succ k ih =>
    have e : W * 2 ^ (k + 1) = W * 2 ^ k + W * 2 ^ k := by rw [Int.pow_succ]; grind
    have g := wtk_le (d := d) h k
    rw [e]
    unfold stk
    omega
theorem stk_nn (h : 0 ≤ W) (k : Nat) : 0 ≤ stk 0 W d k := by
  induction k with
  | zero => exact Int.le_refl _
  | succ k ih =>
    have g := wtk_ge (d := d) h k
    unfold stk
    omega
theorem stk_far (h : 0 ≤ W) (k j : Nat) : stk 0 W d k + j * W ≤ stk 0 W d (k + j) := by
  induction j with
  | zero => simp
  | succ j ih =>
    have g := wtk_ge (d := d) h (k + j)
    have e : ((j + 1 : Nat) : Int) * W = j * W + W := by
      rw [show ((j + 1 : Nat) : Int) = (j : Int) + 1 by omega, Int.add_mul, Int.one_mul]
    show _ ≤ stk 0 W d (k + j) + wtk W d (k + j)
    omega
/-- the answer that stands is at most B -/
def Below (r : RS Int) (B : Int) : Prop := ∃ a, r.ans = some a ∧ a ≤ B
theorem below_step {r : RS Int} {B s : Int} {k : Nat} {o : Option Int} (h : Below r B) : Below (rstep r k s o) B := by
  obtain ⟨nd, an, ans, dly⟩ := r
  obtain ⟨a, e, l⟩ := h
  cases e
  cases o with
  | none => exact ⟨a, rfl, l⟩
  | some x =>
    show Below (if s + x < a then (⟨nd + 1, k, some (s + x), some x⟩ : RS Int) else ⟨nd + 1, an, some a, dly⟩) B
    split
    · exact ⟨s + x, rfl, by omega⟩
    · exact ⟨a, rfl, l⟩
theorem below_new {r : RS Int} {s x : Int} {k : Nat} : Below (rstep r k s (some x)) (s + x) := by
  obtain ⟨nd, an, ans, dly⟩ := r
  cases ans with
  | none => exact ⟨s + x, rfl, Int.le_refl _⟩
  | some a =>
    show Below (if s + x < a then (⟨nd + 1, k, some (s + x), some x⟩ : RS Int) else ⟨nd + 1, an, some a, dly⟩) (s + x)
    split
    · exact ⟨s + x, rfl, Int.le_refl _⟩
    · exact ⟨a, rfl, by omega⟩
/-- the delays of a law's round -/
structure DOk (W : Int) (ds : List (Option Int)) : Prop where
  n0 : 0 < ds.length
  n6 : ds.length ≤ 6
  all : ∀ (j : Nat) (x : Int), (ds[j]?).getD none = some x → 1 ≤ x ∧ x ≤ 9 * W
  last : ∃ x, (ds[ds.length - 1]?).getD none = some x
theorem DOk.dl (h : DOk W ds) {k : Nat} {x : Int} (e : dlk ds k = some x) : 1 ≤ x ∧ x ≤ 9 * W := by
  unfold dlk at e
  split at e <;> exact h.all _ _ e
theorem stops (hW : 1 ≤ W) (h : DOk W ds) : ∃ N, 0 < N ∧ N ≤ 14 ∧ ¬ Gng 0 W d ds N ∧ ∀ j, j < N → Gng 0 W d ds j := by
  obtain ⟨x, ex⟩ := h.last
  obtain ⟨n, en⟩ : ∃ n, ds.length = n + 1 := ⟨ds.length - 1, by have := h.n0; omega⟩
  have n6 := h.n6
  have ed : dlk ds n = some x := by
    unfold dlk
    rw [if_pos (by omega)]
    rw [en] at ex
    exact ex
  have hx := h.dl ed
  have b0 : Below (rsk 0 W d ds (n + 1)) (stk 0 W d n + x) := by
    show Below (rstep _ n _ (dlk ds n)) _
    rw [ed]
    exact below_new
  have bk : ∀ j, Below (rsk 0 W d ds (n + 1 + j)) (stk 0 W d n + x) := fun j => by
    induction j with
    | zero => exact b0
    | succ j ih => exact below_step ih
  have far := stk_far (W := W) (d := d) (by omega) n 9
  have st : ¬ Gng 0 W d ds (n + 9) := by
    obtain ⟨a, ea, la⟩ := bk 8
    rw [show n + 1 + 8 = n + 9 by omega] at ea
    unfold Gng
    rw [ea]
    show ¬ stk 0 W d (n + 9) < a
    omega
  obtain ⟨N, h1, h2, h3⟩ := least (P := fun k => ¬ Gng 0 W d ds k) (n + 9) st
  refine ⟨N, ?_, by omega, h2, fun j hj => Classical.byContradiction (h3 j hj)⟩
  rcases Nat.eq_zero_or_pos N with e | e
  · subst e
    exact absurd trivial h2
  · exact e
end
theorem sc_sz {L : Nat} {i : Int} {m : Nat} (h : L ≠ 0) (hi : i.natAbs < 2 ^ m) (hL : L < 2 ^ m) : Sz (sc L i) m := Sz.div (by omega) hi (by omega)
end Mt

namespace Mt
section
variable {u : Rat} {d : Bool} {ds : List (Option Rat)}
/-- what stands behind k sendings -/
def Rin (u : Rat) (d : Bool) (ds : List (Option Rat)) (k : Nat) (r : RS Rat) : Prop := match r.ans with
  | none => (∀ j, j < k → dlk ds j = none) ∧ r.nd = 0
  | some a => r.an < k ∧ (∃ y, dlk ds r.an = some y ∧ r.dly = some y ∧ stk 0 u d r.an + y = a) ∧
    (∀ j, j < k → ∀ x, dlk ds j = some x → a ≤ stk 0 u d j + x ∧ (stk 0 u d j + x = a → r.an ≤ j)) ∧ ∃ h, h < k ∧ dlk ds h ≠ none ∧ (∀ j, j < h → dlk ds j = none) ∧ r.nd + h + 1 = k
theorem rin (k : Nat) : Rin u d ds k (rsk 0 u d ds k) := by
  induction k with
  | zero => exact ⟨fun j hj => absurd hj (Nat.not_lt_zero j), rfl⟩
  | succ k ih =>
    show Rin u d ds (k + 1) (rstep (rsk 0 u d ds k) k (stk 0 u d k) (dlk ds k))
    generalize rsk 0 u d ds k = r at ih
    obtain ⟨nd, an, ans, dly⟩ := r
    cases eo : dlk ds k with
    | none =>
      cases ans with
      | none =>
        obtain ⟨h1, h2⟩ := ih
        refine ⟨fun j hj => ?_, h2⟩
        rcases Nat.lt_or_eq_of_le (Nat.le_of_lt_succ hj) with l | l
        · exact h1 j l
        · rw [l]; exact eo
      | some a =>
        obtain ⟨h1, h2, h3, h, h4, h5, h6, h7⟩ := ih
        refine ⟨Nat.lt_succ_of_lt h1, h2, fun j hj x hx => ?_, h, Nat.lt_succ_of_lt h4, h5, h6, by show nd + 1 + h + 1 = k + 1; have h7 : nd + h + 1 = k := h7; omega⟩
        rcases Nat.lt_or_eq_of_le (Nat.le_of_lt_succ hj) with l | l
        · exact h3 j l x hx
        · rw [l, eo] at hx; cases hx
    | some x =>
      cases ans with
      | none =>
        obtain ⟨h1, h2⟩ := ih
        have h2 : nd = 0 := h2
        refine ⟨Nat.lt_succ_self k, ⟨x, eo, rfl, rfl⟩, fun j hj y hy => ?_, k, Nat.lt_succ_self k, (by rw [eo]; exact fun z => nomatch z), h1, by show nd + k + 1 = k + 1; omega⟩
        rcases Nat.lt_or_eq_of_le (Nat.le_of_lt_succ hj) with l | l
        · rw [h1 j l] at hy; cases hy
        · subst l
          rw [eo] at hy
          cases hy
          exact ⟨Rat.le_refl, fun _ => Nat.le_refl _⟩
      | some a =>
        obtain ⟨h1, h2, h3, h, h4, h5, h6, h7⟩ := ih
        have h7 : nd + h + 1 = k := h7
        show Rin u d ds (k + 1) (if stk 0 u d k + x < a then (⟨nd + 1, k, some (stk 0 u d k + x), some x⟩ : RS Rat) else ⟨nd + 1, an, some a, dly⟩)
        by_cases f : stk 0 u d k + x < a
        · rw [if_pos f]
          refine ⟨Nat.lt_succ_self k, ⟨x, eo, rfl, rfl⟩, fun j hj y hy => ?_, h, Nat.lt_succ_of_lt h4, h5, h6, by show nd + 1 + h + 1 = k + 1; omega⟩
          rcases Nat.lt_or_eq_of_le (Nat.le_of_lt_succ hj) with l | l
          · have q := (h3 j l y hy).1
            exact ⟨by grind, fun e => by grind⟩
          · subst l
            rw [eo] at hy
            cases hy
            exact ⟨Rat.le_refl, fun _ => Nat.le_refl _⟩
        · rw [if_neg f]
          refine ⟨Nat.lt_succ_of_lt h1, h2, fun j hj y hy => ?_, h, Nat.lt_succ_of_lt h4, h5, h6, by show nd + 1 + h + 1 = k + 1; omega⟩
          rcases Nat.lt_or_eq_of_le (Nat.le_of_lt_succ hj) with l | l
          · exact h3 j l y hy
          · subst l
            rw [eo] at hy
            cases hy
            exact ⟨Rat.not_lt.mp f, fun _ => Nat.le_of_lt h1⟩
theorem wtk_pos (h : 0 < u) (k : Nat) : 0 < wtk u d k := by
  induction k with
  | zero => exact h
  | succ k ih =>
    unfold wtk
    split
    · grind
    · exact ih
theorem stk_mono (h : 0 < u) {j k : Nat} (l : j ≤ k) : stk 0 u d j ≤ stk 0 u d k := by
  induction k with
  | zero => rw [Nat.le_zero.mp l]; exact Rat.le_refl
  | succ k ih =>
    rcases Nat.lt_or_eq_of_le l with q | q
    · have i := ih (Nat.le_of_lt_succ q)
      have p := wtk_pos (d := d) h k
      show _ ≤ stk 0 u d k + wtk u d k
      grind
    · rw [q]; exact Rat.le_refl
/-- a round that stops behind N sendings -/
theorem rstop {N : Nat} (h : 0 < u) (n0 : 0 < N) (go : ∀ k, k < N → Gng 0 u d ds k) (st : ¬ Gng 0 u d ds N) (dp : ∀ k x, dlk ds k = some x → 0 < x) :
    ∃ a, (rsk 0 u d ds N).ans = some a ∧ (∀ j, j < N → stk 0 u d j < a) ∧ a ≤ stk 0 u d N := by
  obtain ⟨n, rfl⟩ : ∃ n, N = n + 1 := ⟨N - 1, by omega⟩
  have gn := go n (Nat.lt_succ_self n)
  have key : ∀ a, (rsk 0 u d ds (n + 1)).ans = some a → stk 0 u d n < a := by
    intro a e
    have e : (rstep (rsk 0 u d ds n) n (stk 0 u d n) (dlk ds n)).ans = some a := e
    unfold Gng at gn
    generalize rsk 0 u d ds n = r at e gn
    obtain ⟨nd, an, ans, dly⟩ := r
    cases eo : dlk ds n with
    | none =>
      rw [eo] at e
      cases ans with
      | none => cases e
      | some b => cases e; exact gn
    | some x =>
      rw [eo] at e
      have px := dp n x eo
      cases ans with
      | none => cases e; grind
      | some b =>
        have e : (if stk 0 u d n + x < b then (⟨nd + 1, n, some (stk 0 u d n + x), some x⟩ : RS Rat) else ⟨nd + 1, an, some b, dly⟩).ans = some a := e
        have gn : stk 0 u d n < b := gn
        by_cases f : stk 0 u d n + x < b
        · rw [if_pos f] at e; cases e; grind
        · rw [if_neg f] at e; cases e; exact gn
  cases e : (rsk 0 u d ds (n + 1)).ans with
  | none => exact absurd (by unfold Gng; rw [e]; trivial) st
  | some a =>
    refine ⟨a, rfl, fun j hj => ?_, ?_⟩
    · have m := stk_mono (d := d) h (Nat.le_of_lt_succ hj)
      have k := key a e
      grind
    · unfold Gng at st
      rw [e] at st
      exact Rat.not_lt.mp st
end
end Mt

namespace Mt
/-! rounds of one delay, and of a lost first sending, over the whole numbers -/
section
variable {W Y : Int} {d : Bool}
theorem stk_plain (W : Int) (k : Nat) : stk 0 W false k = (k : Int) * W ∧ wtk W false k = W := by
  induction k with
  | zero => exact ⟨by show (0 : Int) = ((0 : Nat) : Int) * W; simp, rfl⟩
  | succ k ih =>
    have e : ((k + 1 : Nat) : Int) * W = (k : Int) * W + W := by
      rw [show ((k + 1 : Nat) : Int) = (k : Int) + 1 by omega, Int.add_mul, Int.one_mul]
    refine ⟨?_, ?_⟩
    · show stk 0 W false k + wtk W false k = _
      rw [ih.1, ih.2, e]
    · show (if false = true then _ else wtk W false k) = _
      rw [if_neg (by decide), ih.2]
theorem stk_twice (W : Int) (k : Nat) : stk 0 W true k = (2 ^ k - 1) * W ∧ wtk W true k = 2 ^ k * W := by
  induction k with
  | zero => exact ⟨by show (0 : Int) = (2 ^ 0 - 1) * W; simp, by show W = 2 ^ 0 * W; simp⟩
  | succ k ih =>
    refine ⟨?_, ?_⟩
    · show stk 0 W true k + wtk W true k = _
      rw [ih.1, ih.2, Int.pow_succ]
      grind
    · show (if true = true then wtk W true k + wtk W true k else _) = _
      rw [if_pos rfl, ih.2, Int.pow_succ]
      grind
theorem dlk_one (Y : Int) (k : Nat) : dlk [some Y] k = some Y := by
  unfold dlk
  split
  · rename_i h
    have : k = 0 := by have e : [some Y].length = 1 := rfl; omega
    subst this
    rfl
  · rfl
theorem dlk_lost (Y : Int) (k : Nat) : dlk [none, some Y] k = if k = 0 then none else some Y := by
  unfold dlk
  have e : [none, some Y].length = 2 := rfl
  split
  · rename_i h
    match k, h with
    | 0, _ => rfl
    | 1, _ => rfl
    | k + 2, h => omega
  · rename_i h
    rw [if_neg (by omega)]
    rfl
/-- one delay: the first sending is answered -/
theorem rsk_one (hW : 0 ≤ W) (k : Nat) : rsk 0 W d [some Y] (k + 1) = ⟨k, 0, some Y, some Y⟩ := by
  induction k with
  | zero =>
    show rstep ⟨0, 0, none, none⟩ 0 (0 : Int) (dlk [some Y] 0) = _
    rw [dlk_one]
    show (⟨0, 0, some (0 + Y), some Y⟩ : RS Int) = _
    rw [Int.zero_add]
  | succ k ih =>
    show rstep (rsk 0 W d [some Y] (k + 1)) (k + 1) (stk 0 W d (k + 1)) (dlk [some Y] (k + 1)) = _
    rw [ih, dlk_one]
    have g := stk_nn (d := d) hW (k + 1)
    show (if stk 0 W d (k + 1) + Y < Y then (⟨k + 1, k + 1, some (stk 0 W d (k + 1) + Y), some Y⟩ : RS Int) else ⟨k + 1, 0, some Y, some Y⟩) = _
    rw [if_neg (by omega)]
theorem gng_one (hW : 0 ≤ W) (k : Nat) : Gng 0 W d [some Y] (k + 1) ↔ stk 0 W d (k + 1) < Y := by
  unfold Gng
  rw [rsk_one hW]
theorem gng_0 {ds : List (Option Int)} : Gng 0 W d ds 0 := trivial
/-- the first sending lost -/
theorem rsk_lost (hW : 0 ≤ W) (k : Nat) : rsk 0 W d [none, some Y] (k + 2) = ⟨k, 1, some (W + Y), some Y⟩ := by
  induction k with
  | zero =>
    show rstep (rstep ⟨0, 0, none, none⟩ 0 (0 : Int) (dlk [none, some Y] 0)) 1 (0 + W) (dlk [none, some Y] 1) = _
    rw [dlk_lost, dlk_lost]
    show (⟨0, 1, some (0 + W + Y), some Y⟩ : RS Int) = _
    rw [Int.zero_add]
  | succ k ih =>
    show rstep (rsk 0 W d [none, some Y] (k + 2)) (k + 2) (stk 0 W d (k + 2)) (dlk [none, some Y] (k + 2)) = _
    rw [ih, dlk_lost, if_neg (by omega)]
    have g : W ≤ stk 0 W d (k + 2) := by
      have g0 := stk_nn (d := d) hW (k + 1)
      have g1 := wtk_ge (d := d) hW (k + 1)
      show W ≤ stk 0 W d (k + 1) + wtk W d (k + 1)
      omega
    show (if stk 0 W d (k + 2) + Y < W + Y then (⟨k + 1, k + 2, some (stk 0 W d (k + 2) + Y), some Y⟩ : RS Int) else ⟨k + 1, 1, some (W + Y), some Y⟩) = _
    rw [if_neg (by omega)]
theorem gng_lost (hW : 0 ≤ W) (k : Nat) : Gng 0 W d [none, some Y] (k + 2) ↔ stk 0 W d (k + 2) < W + Y := by
  unfold Gng
  rw [rsk_lost hW]
theorem gng_lost1 : Gng 0 W d [none, some Y] 1 := by
  have : (rsk 0 W d [none, some Y] 1).ans = none := by
    show (rstep ⟨0, 0, none, none⟩ 0 (0 : Int) (dlk [none, some Y] 0)).ans = _
    rw [dlk_lost]
    rfl
  unfold Gng
  rw [this]
  trivial
/-- the whole numbers of a round and of those that wait long -/
structure Big (W : Int) (d : Bool) (ds : List (Option Int)) (N : Nat) : Prop where
  w : ∀ k, k ≤ N → (wtk W d k).natAbs < 2 ^ 200
  s : ∀ k, k ≤ N → (stk 0 W d k).natAbs < 2 ^ 200
  y : ∀ k q, dlk ds k = some q → q.natAbs < 2 ^ 200
end
end Mt

namespace Rs
open PySem PySem.Spec PyProof.Rows L2 He
open TL (tl len_tl ext_tl tl_append)
/-! ### texts: loops, methods, slices -/
section
variable {X : Cx} {σ : L2.St} {H : Hp} {D : Ends} {Q Q' : VK} {k : Nat} {E : L2.St → XK} {x y z : Str} {p px pos pos' apos p2 : Pos} {a b c e o : Expr} {i : Nat} {body : List Stmt}
theorem for_str {g : TG} {tb : TS} (P : Nat → L2.St → Hp → Prop) (h0 : P 0 σ H) (hs : ∀ i c σ H, (tl z)[i]? = some c → P i σ H → g (.str ⟨#[c]⟩) σ H fun σ2 H2 => tb { D with nx := P (i + 1), ct := P (i + 1), bk := D.nx } σ2 H2) (hd : ∀ σ H, P (tl z).length σ H → D.nx σ H) :
    ∃ W : Nat → Nat → L2.St → Hp → Prop, (∃ m, W 0 m σ H) ∧ ∀ i m σ H, W i m σ H →
      ((Its z).stop i H ∧ D.nx σ H) ∨ ((Its z).go i H ∧ ∃ N : L2.St → Hp → Prop, (∀ σ' H', N σ' H' → ∃ m', m' < m ∧ W (i + 1) m' σ' H') ∧ ∀ x H', (Its z).yld i H x H' → g x σ H' fun σ2 H2 => tb { D with nx := N, ct := N, bk := D.nx } σ2 H2) := by
  have hz : (tl z).length = z.cps.size := by simp [tl]
  refine ⟨fun i m σ H => m = z.cps.size - i ∧ i ≤ z.cps.size ∧ P i σ H, ⟨z.cps.size, by simp, Nat.zero_le _, h0⟩, ?_⟩
  rintro i m σ H ⟨rfl, hi, q⟩
  by_cases hlt : i < z.cps.size
  · refine .inr ⟨hlt, P (i + 1), fun σ' H' p' => ⟨z.cps.size - (i + 1), by omega, rfl, hlt, p'⟩, fun x H' y => ?_⟩
    obtain ⟨rfl, c, hc, rfl⟩ := y
    exact hs i c σ _ (by rw [← hc]; simp [tl]) q
  · have e : i = z.cps.size := by omega
    subst e
    exact .inl ⟨Nat.le_refl _, hd σ H (by rw [hz]; exact q)⟩
/-- for x in a text: all is chosen once the text is there -/
def ForS (X : Cx) (z : Str) (i : Nat) (body : List Stmt) (D : Ends) (σ : L2.St) (H : Hp) : Prop :=
  ∃ P : Nat → L2.St → Hp → Prop, P 0 σ H ∧ (∀ j c σ H, (tl z)[j]? = some c → P j σ H → WB X body { D with nx := P (j + 1), ct := P (j + 1), bk := D.nx } (σ.set i (some (.str ⟨#[c]⟩))) H) ∧ ∀ σ H, P (tl z).length σ H → D.nx σ H
theorem ws_for_strE (B : Body X k E) (s : Sl X i x) (h : WE X a σ H fun v H1 => ∃ z, v = .str z ∧ ForS X z i body D σ H1) (hs : ∀ v, foldedSetIterable a X.env v = pure v := by intro _; rfl) : WS X (.For (.Name x px) a body [] pos) D σ H := by
  refine wsP (ps_for B.po B.calm (pi_str peS) (pg_name s.nd s.at_ s.loc s.fn) pbS hs) ?_
  refine we_mono h fun v H1 q => ?_
  obtain ⟨z, rfl, P, q0, ht, hd⟩ := q
  exact ⟨z, rfl, for_str P q0 ht hd⟩
theorem we_split (h : WE X o σ H fun v H1 => ∃ z, v = .str z ∧ WE X e σ H1 fun w H2 => ∃ y, w = .str y ∧ (y.length == 0) = false ∧ z.length + 2 ≤ sizeLine ∧ ∀ l H3, H2 l = none → Ex H2 H3 → H3 l = some (.lst ((Txt.split z y).map V.str)) → Q (.ref l) H3)
    (hs : starEach [e] X.env = [(false, eval e X.env)] := by rfl) (hbase : attributeBase o "split" X.env (eval o X.env) = eval o X.env := by rfl) (hline : (apos.endLine == pos.line) = true := by rfl) : WE X (.Call (.Attribute o "split" apos) [e] [] pos) σ H Q :=
  weP (pe_split peS peS hs hbase hline) (we_mono h fun v H1 q => by
    obtain ⟨z, rfl, q⟩ := q
    refine ⟨⟨z, rfl⟩, we_mono q fun w H2 q => ?_⟩
    obtain ⟨y, rfl, h1, h2, q⟩ := q
    exact ⟨z, y, rfl, rfl, h1, h2, fun p hp => q p _ hp (Ex.new hp) upd_same⟩)
theorem we_starts (h : WE X o σ H fun v H1 => ∃ z, v = .str z ∧ WE X e σ H1 fun w H2 => ∃ y, w = .str y ∧ Q (.bl (Txt.startswith z y)) H2)
    (hs : starEach [e] X.env = [(false, eval e X.env)] := by rfl) (hbase : attributeBase o "startswith" X.env (eval o X.env) = eval o X.env := by rfl) (hline : (apos.endLine == pos.line) = true := by rfl) : WE X (.Call (.Attribute o "startswith" apos) [e] [] pos) σ H Q :=
  weP (pe_m1 F.slot_str_startswith F.type_str_startswith mt_startswith peS peS hs hbase hline) (we_mono h fun v H1 q => by
    obtain ⟨z, rfl, q⟩ := q
    refine ⟨⟨z, rfl⟩, we_mono q fun w H2 q => ?_⟩
    obtain ⟨y, rfl, q⟩ := q
    exact ⟨z, y, rfl, rfl, q⟩)
theorem we_joinS (h : WE X o σ H fun v H1 => ∃ z, v = .str z ∧ WE X e σ H1 fun w H2 => ∃ l, ∃ ys : List Str, w = .ref l ∧ (SqL X.K H2 l (ys.map V.str) ∨ SqT X.K H2 l (ys.map V.str)) ∧ (ys.map (·.length)).sum + ys.length * z.length ≤ 16777216 ∧ Q (.str (Txt.join z ys)) H2)
    (hs : starEach [e] X.env = [(false, eval e X.env)] := by rfl) (hbase : attributeBase o "join" X.env (eval o X.env) = eval o X.env := by rfl) (hline : (apos.endLine == pos.line) = true := by rfl) : WE X (.Call (.Attribute o "join" apos) [e] [] pos) σ H Q :=
  weP (pe_join peS peS hs hbase hline) (we_mono h fun v H1 q => by
    obtain ⟨z, rfl, q⟩ := q
    refine ⟨⟨z, rfl⟩, we_mono q fun w H2 q => ?_⟩
    obtain ⟨l, ys, rfl, h1, h2, q⟩ := q
    exact ⟨z, l, ys, rfl, rfl, h1, h2, q⟩)
/-- a[b:] -/
theorem we_cutSA (h : WE X a σ H fun v H1 => WE X b σ H1 fun w H2 => ∃ z i, v = .str z ∧ w = .int i ∧ z.length ≤ sizeLine ∧ Q (.str (cutS z (some i) none)) H2) : WE X (.Subscript a (.Slice (some b) none none p2) pos) σ H Q :=
  weP (pe_slice sl_str peS (po_some peS) po_none) (we_mono h fun v H1 q => we_mono q fun w H2 q => by
    obtain ⟨z, i, rfl, rfl, h1, q⟩ := q
    exact ⟨i, rfl, z, rfl, h1, q⟩)
/-- a[:b] -/
theorem we_cutSL (h : WE X a σ H fun v H1 => WE X b σ H1 fun w H2 => ∃ z i, v = .str z ∧ w = .int i ∧ z.length ≤ sizeLine ∧ Q (.str (cutS z none (some i))) H2) : WE X (.Subscript a (.Slice none (some b) none p2) pos) σ H Q :=
  weP (pe_slice sl_str peS po_none (po_some peS)) (we_mono h fun v H1 q => we_mono q fun w H2 q => by
    obtain ⟨z, i, rfl, rfl, h1, q⟩ := q
    exact ⟨i, rfl, z, rfl, h1, q⟩)
theorem we_intS (bn : Bn X "int") (h : WE X a σ H fun v H1 => ∃ z n, v = .str z ∧ PySem.intText? z = some n ∧ z.length ≤ 640 ∧ Q (.int n) H1) (hs : starEach [a] X.env = [(false, eval a X.env)] := by rfl) (hl : (backTo pos (starEach [] X.env)).any (·.1) = false := by rfl) :
    WE X (.Call (.Name "int" p) [a] [] pos) σ H Q := we_callT call_int_str bn boot_int (wa_one (we_mono h fun v H1 q => by
    obtain ⟨z, n, rfl, h1, h2, q⟩ := q
    exact ⟨z, n, rfl, h1, h2, q⟩) hs) (by decide) (by decide) hs hl
theorem o_inC {c : Nat} (q : Q (.bl (decide (c ∈ tl z))) H) : Op2 X (compareOp .In) (.str ⟨#[c]⟩) (.str z) H Q := op2_of op_in_sign ⟨c, z, rfl, rfl, q⟩
theorem o_notInC {c : Nat} (q : Q (.bl (!decide (c ∈ tl z))) H) : Op2 X (compareOp .NotIn) (.str ⟨#[c]⟩) (.str z) H Q := op2_of op_notIn_sign ⟨c, z, rfl, rfl, q⟩
theorem at_s {K : PySem.W.Frag} {i : Int} {c : Nat} (hz : z.length ≤ sizeLine) (he : atI (tl z) i = some c) (q : Q (.str ⟨#[c]⟩) H) : rIx K (.str z) (.int i) H Q := .inr (.inr ⟨z, i, c, rfl, rfl, hz, he, q⟩)
theorem len_s {K : PySem.W.Frag} {P : Nat → Prop} (hz : z.length ≤ sizeLine) (q : P z.length) : ∃ n, LenV K (.str z) H n ∧ P n := ⟨_, ⟨hz, rfl⟩, q⟩
end
/-! ### slices as lists of signs -/
theorem tl_cut (z : Str) (lo hi : Option Int) : tl (cutS z lo hi) = ((tl z).drop (HT.sIx z.length 0 lo)).take (HT.sIx z.length z.length hi - HT.sIx z.length 0 lo) := rfl
theorem tl_cutA (z : Str) (i : Nat) : tl (cutS z (some (i : Int)) none) = (tl z).drop i := by
  rw [tl_cut, HT.sIx_nat, HT.sIx_none, len_tl]
  by_cases h : i ≤ (tl z).length
  · rw [Nat.min_eq_left h, List.take_of_length_le (by rw [List.length_drop]; omega)]
  · rw [Nat.min_eq_right (by omega), List.drop_eq_nil_of_le (Nat.le_refl _), List.drop_eq_nil_of_le (by omega)]
    exact List.take_nil
theorem tl_cutL (z : Str) (i : Nat) : tl (cutS z none (some (i : Int))) = (tl z).take i := by
  rw [tl_cut, HT.sIx_nat, HT.sIx_none, len_tl, List.drop_zero, Nat.sub_zero]
  by_cases h : i ≤ (tl z).length
  · rw [Nat.min_eq_left h]
  · rw [Nat.min_eq_right (by omega), List.take_of_length_le (Nat.le_refl _), List.take_of_length_le (by omega)]
theorem tl_pre1 {z : Str} {c : Nat} : Txt.startswith z ⟨#[c]⟩ = decide ((tl z).head? = some c) := by
  refine Bool.eq_iff_iff.mpr ?_
  rw [List.head?_eq_getElem?, decide_eq_true_iff]
  unfold Txt.startswith
  rw [Bool.and_eq_true, decide_eq_true_iff]
  exact PySem.StrLaws.subAt_one z c 0
end Rs

namespace Rs
open PySem PySem.Spec PyProof.Rows L2 He
open TL (tl len_tl ext_tl tl_append tl_num numL numL_lt numL_step numL_digits numL_ne numL_free numL_val numL_inj numL_len int_num joinL spl pre spl_hit spl_miss spl_nil split_spl)
/-! ### numbers as figures -/
def figs : List Nat := tl ("0123456789" : Str)
theorem figs_eq : figs = [48, 49, 50, 51, 52, 53, 54, 55, 56, 57] := by decide +kernel
theorem mem_figs {c : Nat} : c ∈ figs ↔ 48 ≤ c ∧ c ≤ 57 := by
  rw [figs_eq]
  simp only [List.mem_cons, List.not_mem_nil, or_false]
  omega
/-- what some figures write -/
def readC (l : List Nat) : Option Nat := if 1 ≤ l.length ∧ l.length ≤ 60 ∧ (∀ c ∈ l, c ∈ figs) ∧ ¬ (l.head? = some 48 ∧ 1 < l.length) then some (NumText.digitsVal l) else none
theorem val_snoc (l : List Nat) (c : Nat) : NumText.digitsVal (l ++ [c]) = NumText.digitsVal l * 10 + (c - 48) := by
  unfold NumText.digitsVal
  rw [List.foldl_append]
  rfl
theorem canon : ∀ (n : Nat) (l : List Nat), l.length = n → l ≠ [] → (∀ c ∈ l, c ∈ figs) → ¬ (l.head? = some 48 ∧ 1 < l.length) → numL (NumText.digitsVal l) = l := by
  intro n
  induction n with
  | zero => exact fun l h hn _ _ => absurd (List.length_eq_zero_iff.mp h) hn
  | succ n ih =>
    intro l hl hn hd hh
    obtain ⟨i, c, rfl⟩ : ∃ i c, l = i ++ [c] := ⟨l.dropLast, l.getLast hn, (List.dropLast_concat_getLast hn).symm⟩
    have hc := mem_figs.mp (hd c (by simp))
    rw [val_snoc]
    cases i with
    | nil =>
      rw [numL_lt (by show 0 * 10 + (c - 48) < 10; omega)]
      show [48 + (0 * 10 + (c - 48))] = [c]
      congr 1
      omega
    | cons a r =>
      have hi : (a :: r).length = n := by simpa using hl
      have h48 : ¬ (a = 48) := fun e => hh ⟨by rw [e]; rfl, by simp⟩
      have e := ih (a :: r) hi (List.cons_ne_nil _ _) (fun d h => hd d (List.mem_append_left _ h)) (fun h => h48 (Option.some.inj h.1))
      have v1 : 1 ≤ NumText.digitsVal (a :: r) := by
        refine Nat.pos_of_ne_zero fun z => ?_
        rw [z, numL_lt (by decide)] at e
        injection e with e1 _
        exact h48 e1.symm
      rw [numL_step (by omega), show (NumText.digitsVal (a :: r) * 10 + (c - 48)) / 10 = NumText.digitsVal (a :: r) from by omega, e,
        show 48 + (NumText.digitsVal (a :: r) * 10 + (c - 48)) % 10 = c from by omega]
theorem readC_num {l : List Nat} {u : Nat} (h : readC l = some u) : l = numL u := by
  unfold readC at h
  by_cases g : 1 ≤ l.length ∧ l.length ≤ 60 ∧ (∀ c ∈ l, c ∈ figs) ∧ ¬ (l.head? = some 48 ∧ 1 < l.length)
  · rw [if_pos g] at h
    cases h
    exact (canon _ l rfl (fun e => by rw [e] at g; exact absurd g.1 (by decide)) g.2.2.1 g.2.2.2).symm
  · rw [if_neg g] at h
    cases h
theorem readC_len {l : List Nat} {u : Nat} (h : readC l = some u) : l.length ≤ 60 := by
  unfold readC at h
  by_cases g : 1 ≤ l.length ∧ l.length ≤ 60 ∧ (∀ c ∈ l, c ∈ figs) ∧ ¬ (l.head? = some 48 ∧ 1 < l.length)
  · exact g.2.1
  · rw [if_neg g] at h
    cases h
theorem val_lt {l : List Nat} : ∀ (n : Nat) (l : List Nat), l.length = n → (∀ c ∈ l, c ∈ figs) → NumText.digitsVal l < 10 ^ n := by
  intro n
  induction n with
  | zero =>
    intro l h _
    rw [List.length_eq_zero_iff.mp h]
    decide
  | succ n ih =>
    intro l hl hd
    have hn : l ≠ [] := fun e => by rw [e] at hl; cases hl
    obtain ⟨i, c, rfl⟩ : ∃ i c, l = i ++ [c] := ⟨l.dropLast, l.getLast hn, (List.dropLast_concat_getLast hn).symm⟩
    have hc := mem_figs.mp (hd c (by simp))
    have e := ih i (by simpa using hl) (fun d h => hd d (List.mem_append_left _ h))
    rw [val_snoc, Nat.pow_succ]
    omega
theorem readC_lt {l : List Nat} {u : Nat} (h : readC l = some u) : u < 10 ^ 60 := by
  have hl := readC_len h
  have e := h
  unfold readC at e
  by_cases g : 1 ≤ l.length ∧ l.length ≤ 60 ∧ (∀ c ∈ l, c ∈ figs) ∧ ¬ (l.head? = some 48 ∧ 1 < l.length)
  · rw [if_pos g] at e
    cases e
    exact Nat.lt_of_lt_of_le (val_lt (l := l) _ l rfl g.2.2.1) (Nat.pow_le_pow_right (by decide) hl)
  · rw [if_neg g] at e
    cases e
theorem numL_zero_head {u : Nat} : ¬ ((numL u).head? = some 48 ∧ 1 < (numL u).length) := by
  induction u using Nat.strongRecOn with
  | ind u ih =>
    by_cases h : u < 10
    · rw [numL_lt h]
      exact fun g => absurd g.2 (by show ¬ 1 < 1; decide)
    · rw [numL_step (by omega)]
      rintro ⟨g, _⟩
      have hne := numL_ne (u / 10)
      have g : (numL (u / 10)).head? = some 48 := by
        cases e : numL (u / 10) with
        | nil => exact absurd e hne
        | cons a r =>
          rw [e] at g
          exact g
      by_cases hl : 1 < (numL (u / 10)).length
      · exact ih (u / 10) (by omega) ⟨g, hl⟩
      · by_cases h2 : u / 10 < 10
        · rw [numL_lt h2] at g
          have := Option.some.inj g
          omega
        · rw [numL_step (by omega), List.length_append] at hl
          have := List.length_pos_iff.mpr (numL_ne (u / 10 / 10))
          simp only [List.length_cons, List.length_nil] at hl
          omega
theorem readC_of {u : Nat} (h : u < 10 ^ 60) : readC (numL u) = some u := by
  unfold readC
  rw [if_pos ⟨List.length_pos_iff.mpr (numL_ne u), numL_len (by decide) h, fun c hc => mem_figs.mpr (numL_digits u c hc), numL_zero_head⟩, numL_val]
theorem int_of_readC {z : Str} {u : Nat} (h : readC (tl z) = some u) : PySem.intText? z = some (u : Int) := by
  have e : z = Str.ofString (toString ((u : Nat) : Int)) := ext_tl (by rw [tl_num]; exact readC_num h)
  have hl : (numL u).length ≤ 60 := by
    rw [← readC_num h]
    exact readC_len h
  rw [e]
  exact int_num (by omega)
/-! ### the text of an int -/
theorem tl_itx_nat (u : Nat) : tl (itx (u : Int)) = numL u := tl_num u
theorem tl_itx_neg {u : Nat} (h : u ≠ 0) : tl (itx (-(u : Int))) = 45 :: numL u := by
  cases u with
  | zero => exact absurd rfl h
  | succ n =>
    unfold itx
    rw [TL.tl_ofString]
    have e : toString (-(((n + 1 : Nat)) : Int)) = "-" ++ toString (n + 1) := rfl
    rw [e]
    have e2 : numL (n + 1) = (toString (n + 1)).toList.map Char.toNat := by
      rw [← tl_num, TL.tl_ofString]
      rfl
    rw [e2, String.toList_append, List.map_append]
    rfl
/-! ### cut at a sign -/
theorem pre1 {s c : Nat} {r : List Nat} : pre [s] (c :: r) = decide (c = s) := by
  unfold pre
  show ([c] == [s]) = _
  by_cases h : c = s
  · subst h
    simp
  · rw [decide_eq_false h]
    simp [h]
theorem spl1 (s : Nat) : ∀ l acc : List Nat, ∃ h t, spl [s] 0 [] l = h :: t ∧ spl [s] 0 acc l = (acc ++ h) :: t ∧ s ∉ h ∧ joinL [s] (h :: t) = l ∧ ∀ p ∈ t, s ∉ p
  | [], acc => ⟨[], [], by rw [spl_nil], by rw [spl_nil, List.append_nil], by simp, rfl, by simp⟩
  | c :: r, acc => by
    by_cases hc : c = s
    · subst hc
      obtain ⟨h, t, e1, _, hs, hj, hp⟩ := spl1 c r []
      refine ⟨[], h :: t, ?_, ?_, by simp, ?_, ?_⟩
      · rw [spl_hit (by rw [pre1, decide_eq_true rfl])]
        show [] :: spl [c] 0 [] r = _
        rw [e1]
      · rw [spl_hit (by rw [pre1, decide_eq_true rfl])]
        show acc :: spl [c] 0 [] r = _
        rw [e1, List.append_nil]
      · show [] ++ ([c] ++ joinL [c] (h :: t)) = _
        rw [hj]
        rfl
      · intro p hm
        rcases List.mem_cons.mp hm with rfl | hm
        · exact hs
        · exact hp p hm
    · obtain ⟨h, t, e1, e2, hs, hj, hp⟩ := spl1 s r (acc ++ [c])
      obtain ⟨h', t', e1', e2', _, _, _⟩ := spl1 s r [c]
      rw [e1] at e1'
      injection e1' with a1 a2
      subst a1
      subst a2
      refine ⟨c :: h, t, ?_, ?_, ?_, ?_, hp⟩
      · rw [spl_miss (by rw [pre1, decide_eq_false hc]), List.nil_append, e2']
        rfl
      · rw [spl_miss (by rw [pre1, decide_eq_false hc]), e2, List.append_assoc]
        rfl
      · exact fun hm => (List.mem_cons.mp hm).elim (fun e => hc e.symm) hs
      · cases t with
        | nil =>
          show c :: h = c :: r
          rw [show h = r from hj]
        | cons q t =>
          show c :: (h ++ ([s] ++ joinL [s] (q :: t))) = c :: r
          rw [show h ++ ([s] ++ joinL [s] (q :: t)) = r from hj]
end Rs

namespace Rs
open PySem PySem.Spec PyProof.Rows L2 He
open TL (tl len_tl ext_tl tl_append tl_num numL numL_lt numL_step numL_digits numL_ne numL_free numL_val numL_inj numL_len int_num joinL spl pre spl_hit spl_miss spl_nil split_spl)
/-! ### the text of a time, read -/
def sgT (l : List Nat) (u : Nat) : Int := if l.head? = some 45 then -(u : Int) else u
def bodyT (l : List Nat) : List Nat := if l.head? = some 45 then l.drop 1 else l
def rdP (l : List Nat) : List (List Nat) → Option (Int × Nat)
  | [a] => (readC a).bind fun u => if u = 0 ∧ l.head? = some 45 then none else some (sgT l u, 1)
  | [a, b] => (readC a).bind fun u => (readC b).bind fun v => if 2 ≤ v ∧ ¬ (u = 0 ∧ l.head? = some 45) ∧ Nat.gcd u v = 1 then some (sgT l u, v) else none
  | _ => none
def rd (l : List Nat) : Option (Int × Nat) := rdP l (spl [47] 0 [] (bodyT l))
theorem parts_of (l : List Nat) : ∃ h t, spl [47] 0 [] (bodyT l) = h :: t ∧ spl [47] 0 [] l = (if l.head? = some 45 then 45 :: h else h) :: t ∧ (l.head? ≠ some 45 → h.head? ≠ some 45) ∧
    l = (if l.head? = some 45 then [45] else []) ++ joinL [47] (h :: t) ∧ 47 ∉ h ∧ ∀ p ∈ t, 47 ∉ p := by
  by_cases hd : l.head? = some 45
  · obtain ⟨r, rfl⟩ : ∃ r, l = 45 :: r := by
      cases l with
      | nil => cases hd
      | cons a r => cases hd; exact ⟨r, rfl⟩
    obtain ⟨h, t, e1, e2, hs, hj, hp⟩ := spl1 47 r [45]
    refine ⟨h, t, ?_, ?_, fun n => absurd hd n, ?_, hs, hp⟩
    · unfold bodyT
      rw [if_pos hd]
      exact e1
    · rw [if_pos hd, spl_miss (by rw [pre1]; decide), List.nil_append, e2]
      rfl
    · rw [if_pos hd, hj]
      rfl
  · obtain ⟨h, t, e1, _, hs, hj, hp⟩ := spl1 47 l []
    refine ⟨h, t, ?_, ?_, fun _ => ?_, ?_, hs, hp⟩
    · unfold bodyT
      rw [if_neg hd]
      exact e1
    · rw [if_neg hd, e1]
    · intro z
      cases h with
      | nil => cases z
      | cons a r =>
        cases z
        refine hd ?_
        rw [← hj]
        cases t <;> rfl
    · rw [if_neg hd, hj]
      rfl
theorem coprime_div {n : Int} {v : Nat} (hv : v ≠ 0) : (Rat.divInt n v).den = v ↔ Nat.gcd n.natAbs v = 1 := by
  constructor
  · intro h
    have c := Mt.cross (a := n) (b := (v : Int)) (by omega)
    have r := (Rat.divInt n v).reduced
    rw [h] at c r
    have e : (Rat.divInt n v).num = n := Int.eq_of_mul_eq_mul_right (by omega) c
    rw [e] at r
    exact r
  · intro h
    have e := Rat.num_divInt_den (⟨n, v, hv, h⟩ : Rat)
    rw [show Rat.divInt n v = (⟨n, v, hv, h⟩ : Rat) from e]
theorem coprime_num {n : Int} {v : Nat} (hv : v ≠ 0) (h : Nat.gcd n.natAbs v = 1) : (Rat.divInt n v).num = n := by
  have e := Rat.num_divInt_den (⟨n, v, hv, h⟩ : Rat)
  rw [show Rat.divInt n v = (⟨n, v, hv, h⟩ : Rat) from e]
theorem sgT_abs (l : List Nat) (u : Nat) : (sgT l u).natAbs = u := by
  unfold sgT
  by_cases h : l.head? = some 45
  · rw [if_pos h]
    omega
  · rw [if_neg h]
    omega
theorem itx_free (i : Int) : 47 ∉ tl (itx i) := by
  rcases Int.eq_nat_or_neg i with ⟨n, rfl | rfl⟩
  · rw [tl_itx_nat]
    exact numL_free (by decide)
  · by_cases h : n = 0
    · subst h
      exact (tl_itx_nat 0 ▸ numL_free (by decide) : 47 ∉ tl (itx ((0 : Nat) : Int)))
    · rw [tl_itx_neg h]
      exact fun m => (List.mem_cons.mp m).elim (fun e => absurd e (by decide)) (numL_free (by decide))
theorem tl_sgT {l : List Nat} {u : Nat} (h : ¬ (u = 0 ∧ l.head? = some 45)) : tl (itx (sgT l u)) = (if l.head? = some 45 then [45] else []) ++ numL u := by
  unfold sgT
  by_cases hd : l.head? = some 45
  · rw [if_pos hd, if_pos hd, tl_itx_neg (fun e => h ⟨e, hd⟩)]
    rfl
  · rw [if_neg hd, if_neg hd, tl_itx_nat]
    rfl
theorem tl_slash : tl ("/" : Str) = [47] := by decide +kernel
/-- one part: the text is the word's -/
theorem read_one {l h : List Nat} {u : Nat} (hl : l = (if l.head? = some 45 then [45] else []) ++ h) (hu : readC h = some u) : tl (itx (sgT l u)) = l ↔ ¬ (u = 0 ∧ l.head? = some 45) := by
  constructor
  · rintro e ⟨rfl, hd⟩
    have : sgT l 0 = ((0 : Nat) : Int) := by
      unfold sgT
      rw [if_pos hd]
      rfl
    rw [this, tl_itx_nat, numL_lt (by decide)] at e
    rw [← e] at hd
    exact absurd hd (by decide)
  · intro g
    rw [tl_sgT g, ← readC_num hu]
    exact hl.symm
theorem app_cut {s : Nat} : ∀ {a b c d : List Nat}, s ∉ a → s ∉ c → a ++ s :: b = c ++ s :: d → a = c ∧ b = d
  | [], b, [], d, _, _, e => ⟨rfl, by injection e⟩
  | [], b, x :: c, d, _, hc, e => by
    injection e with e1 _
    exact absurd (e1 ▸ List.mem_cons_self) hc
  | x :: a, b, [], d, ha, _, e => by
    injection e with e1 _
    exact absurd (e1 ▸ List.mem_cons_self) ha
  | x :: a, b, y :: c, d, ha, hc, e => by
    injection e with e1 e2
    obtain ⟨g1, g2⟩ := app_cut (fun m => ha (List.mem_cons_of_mem _ m)) (fun m => hc (List.mem_cons_of_mem _ m)) e2
    exact ⟨by rw [e1, g1], g2⟩
/-- two parts -/
theorem read_two {l h b : List Nat} {u v : Nat} (hl : l = (if l.head? = some 45 then [45] else []) ++ (h ++ 47 :: b)) (hf : 47 ∉ h) (hu : readC h = some u) (hb : readC b = some v) (hv : v ≠ 0) :
    tl (ftx (Rat.divInt (sgT l u) v).num (Rat.divInt (sgT l u) v).den) = l ↔ (2 ≤ v ∧ ¬ (u = 0 ∧ l.head? = some 45) ∧ Nat.gcd u v = 1) := by
  have hb' := readC_num hb
  have hu' := readC_num hu
  constructor
  · intro e
    unfold ftx at e
    by_cases d1 : ((Rat.divInt (sgT l u) v).den : Int) = 1
    · rw [if_pos d1] at e
      have f := itx_free (Rat.divInt (sgT l u) v).num
      rw [e, hl] at f
      exact absurd (List.mem_append_right _ (List.mem_append_right _ List.mem_cons_self)) f
    · rw [if_neg d1, tl_append, tl_append, tl_slash, tl_itx_nat, List.append_assoc] at e
      have e2 : tl (itx (Rat.divInt (sgT l u) v).num) ++ 47 :: numL (Rat.divInt (sgT l u) v).den = ((if l.head? = some 45 then [45] else []) ++ h) ++ 47 :: b := by
        rw [List.append_assoc, ← hl]
        exact e
      have f2 : 47 ∉ (if l.head? = some 45 then [45] else []) ++ h := by
        intro m
        rcases List.mem_append.mp m with m | m
        · by_cases hd : l.head? = some 45
          · rw [if_pos hd] at m
            exact absurd (List.mem_singleton.mp m) (by decide)
          · rw [if_neg hd] at m
            cases m
        · exact hf m
      obtain ⟨g1, g2⟩ := app_cut (itx_free _) f2 e2
      rw [hb'] at g2
      have dv := numL_inj g2
      have cp := (coprime_div hv).mp dv
      rw [sgT_abs] at cp
      refine ⟨by rw [dv] at d1; omega, ?_, cp⟩
      rintro ⟨rfl, _⟩
      rw [Nat.gcd_zero_left] at cp
      rw [dv] at d1
      omega
  · rintro ⟨v2, g, cp⟩
    have cp' : Nat.gcd (sgT l u).natAbs v = 1 := by rw [sgT_abs]; exact cp
    rw [coprime_num hv cp', (coprime_div hv).mpr cp']
    unfold ftx
    rw [if_neg (by omega), tl_append, tl_append, tl_slash, tl_itx_nat, tl_sgT g, ← hb', ← hu', List.append_assoc, List.append_assoc]
    exact hl.symm
/-! ### a time's own text -/
theorem rd_own {q : Rat} (hn : q.num.natAbs < 10 ^ 60) (hd : q.den < 10 ^ 60) : rd (tl (ftx q.num q.den)) = some (q.num, q.den) := by
  have body : ∀ (r : List Nat), bodyT (45 :: r) = r := fun r => by unfold bodyT; exact if_pos rfl
  have bodn : ∀ (u : Nat) (r : List Nat), (numL u ++ r).head? ≠ some 45 := fun u r => by
    have := numL_digits u
    cases e : numL u with
    | nil => exact absurd e (numL_ne u)
    | cons a s =>
      rw [e] at this
      intro z
      have := (this a List.mem_cons_self).1
      have : a = 45 := Option.some.inj z
      omega
  have nh : ∀ u : Nat, 47 ∉ numL u := fun u => numL_free (by decide)
  have s1 : ∀ u : Nat, spl [47] 0 [] (numL u) = [numL u] := fun u => by
    rw [TL.spl_last1 (nh u)]
    rfl
  have s2 : ∀ u v : Nat, spl [47] 0 [] (numL u ++ 47 :: numL v) = [numL u, numL v] := fun u v => by
    rw [show numL u ++ 47 :: numL v = numL u ++ ([47] ++ numL v) from rfl, TL.spl_part1 (nh u), s1]
    rfl
  have red := q.reduced
  have dp := q.den_pos
  obtain ⟨u, hu⟩ : ∃ u : Nat, q.num.natAbs = u := ⟨_, rfl⟩
  unfold ftx
  by_cases d1 : (q.den : Int) = 1
  · have d1' : q.den = 1 := by omega
    rw [if_pos d1, d1']
    rcases Int.eq_nat_or_neg q.num with ⟨n, e | e⟩
    · rw [e, tl_itx_nat]
      unfold rd bodyT
      have hh : (numL n).head? ≠ some 45 := by have := bodn n []; rw [List.append_nil] at this; exact this
      rw [if_neg hh, s1]
      show (readC (numL n)).bind _ = _
      rw [readC_of (by omega)]
      show (if n = 0 ∧ (numL n).head? = some 45 then none else some (sgT (numL n) n, 1)) = _
      rw [if_neg (fun g => hh g.2)]
      unfold sgT
      rw [if_neg hh]
    · by_cases n0 : n = 0
      · subst n0
        rw [e]
        decide +kernel
      · rw [e, tl_itx_neg n0]
        unfold rd
        rw [body, s1]
        show (readC (numL n)).bind _ = _
        rw [readC_of (by omega)]
        show (if n = 0 ∧ (45 :: numL n).head? = some 45 then none else some (sgT (45 :: numL n) n, 1)) = _
        rw [if_neg (fun g => n0 g.1)]
        unfold sgT
        rw [if_pos (show (45 :: numL n).head? = some 45 from rfl)]
  · rw [if_neg d1, tl_append, tl_append, tl_slash, tl_itx_nat]
    have v2 : 2 ≤ q.den := by omega
    rcases Int.eq_nat_or_neg q.num with ⟨n, e | e⟩
    · rw [e, tl_itx_nat, List.append_assoc, show [47] ++ numL q.den = 47 :: numL q.den from rfl]
      unfold rd bodyT
      have hh := bodn n (47 :: numL q.den)
      rw [if_neg hh, s2]
      show (readC (numL n)).bind _ = _
      rw [readC_of (by omega)]
      show (readC (numL q.den)).bind _ = _
      rw [readC_of hd]
      show (if 2 ≤ q.den ∧ ¬ (n = 0 ∧ (numL n ++ 47 :: numL q.den).head? = some 45) ∧ Nat.gcd n q.den = 1 then some (sgT (numL n ++ 47 :: numL q.den) n, q.den) else none) = _
      rw [if_pos ⟨v2, fun g => hh g.2, by have := red; rw [e] at this; exact this⟩]
      unfold sgT
      rw [if_neg hh]
    · have n0 : n ≠ 0 := by
        rintro rfl
        rw [e] at red
        have : Nat.gcd 0 q.den = 1 := red
        rw [Nat.gcd_zero_left] at this
        omega
      rw [e, tl_itx_neg n0]
      unfold rd
      rw [show (45 :: numL n) ++ [47] ++ numL q.den = 45 :: (numL n ++ 47 :: numL q.den) from by simp, body, s2]
      show (readC (numL n)).bind _ = _
      rw [readC_of (by omega)]
      show (readC (numL q.den)).bind _ = _
      rw [readC_of hd]
      show (if 2 ≤ q.den ∧ ¬ (n = 0 ∧ (45 :: (numL n ++ 47 :: numL q.den)).head? = some 45) ∧ Nat.gcd n q.den = 1 then some (sgT (45 :: (numL n ++ 47 :: numL q.den)) n, q.den) else none) = _
      rw [if_pos ⟨v2, fun g => n0 g.1, by have := red; rw [e, Int.natAbs_neg] at this; exact this⟩]
      unfold sgT
      rw [if_pos (show (45 :: (numL n ++ 47 :: numL q.den)).head? = some 45 from rfl)]
/-! ### the reading, by its parts -/
def botU : List (List Nat) → Option Nat
  | [] => some 1
  | b :: _ => readC b
theorem rdP_none1 {l h : List Nat} {t : List (List Nat)} (e : readC h = none) : rdP l (h :: t) = none := by
  match t with
  | [] =>
    show (readC h).bind _ = none
    rw [e]
    rfl
  | [b] =>
    show (readC h).bind _ = none
    rw [e]
    rfl
  | b :: b2 :: r => rfl
theorem rdP_none2 {l h : List Nat} {t : List (List Nat)} (e : botU t = none) : rdP l (h :: t) = none := by
  match t, e with
  | [b], e =>
    have e : readC b = none := e
    show ((readC h).bind fun u => (readC b).bind _) = none
    rw [e]
    cases readC h <;> rfl
  | b :: b2 :: r, _ => rfl
theorem rdP_zero {l h : List Nat} {t : List (List Nat)} (e : botU t = some 0) : rdP l (h :: t) = none := by
  match t, e with
  | [b], e =>
    have e : readC b = some 0 := e
    show ((readC h).bind fun u => (readC b).bind _) = none
    rw [e]
    cases readC h with
    | none => rfl
    | some u =>
      show (if 2 ≤ 0 ∧ ¬ (u = 0 ∧ l.head? = some 45) ∧ Nat.gcd u 0 = 1 then some (sgT l u, 0) else none) = none
      rw [if_neg (fun g => absurd g.1 (by decide))]
  | b :: b2 :: r, _ => rfl
theorem rdP_long {l h : List Nat} {t : List (List Nat)} (e : 2 ≤ t.length) : rdP l (h :: t) = none := by
  match t, e with
  | b :: b2 :: r, _ => rfl
theorem botU_lt {t : List (List Nat)} {v : Nat} (e : botU t = some v) : v < 10 ^ 60 := by
  match t, e with
  | [], e => cases e; decide
  | b :: _, e => exact readC_lt e
theorem rdP_go {l h : List Nat} {t : List (List Nat)} {u v : Nat} (hl : l = (if l.head? = some 45 then [45] else []) ++ joinL [47] (h :: t)) (hf : 47 ∉ h) (eu : readC h = some u) (ev : botU t = some v) (l1 : t.length ≤ 1) (hv : v ≠ 0) :
    (tl (ftx (Rat.divInt (sgT l u) v).num (Rat.divInt (sgT l u) v).den) = l → rdP l (h :: t) = some (sgT l u, v)) ∧ (¬ tl (ftx (Rat.divInt (sgT l u) v).num (Rat.divInt (sgT l u) v).den) = l → rdP l (h :: t) = none) := by
  match t, l1, ev with
  | [], _, ev =>
    cases ev
    rw [coprime_num (v := 1) (by decide) (Nat.gcd_one_right _), (coprime_div (v := 1) (by decide)).mpr (Nat.gcd_one_right _)]
    have e1 := read_one (h := h) hl eu
    show (tl (ftx (sgT l u) 1) = l → (readC h).bind _ = _) ∧ (¬ tl (ftx (sgT l u) 1) = l → (readC h).bind _ = _)
    rw [eu]
    unfold ftx
    rw [if_pos rfl]
    refine ⟨fun e => ?_, fun e => ?_⟩
    · show (if u = 0 ∧ l.head? = some 45 then none else some (sgT l u, 1)) = _
      rw [if_neg (e1.mp e)]
    · show (if u = 0 ∧ l.head? = some 45 then none else some (sgT l u, 1)) = _
      rw [if_pos (Classical.byContradiction fun g => e (e1.mpr g))]
  | [b], _, ev =>
    have ev : readC b = some v := ev
    have e2 := read_two (h := h) (b := b) hl hf eu ev hv
    show (_ → ((readC h).bind fun u => (readC b).bind _) = _) ∧ (_ → ((readC h).bind fun u => (readC b).bind _) = _)
    rw [eu, ev]
    refine ⟨fun e => ?_, fun e => ?_⟩
    · show (if 2 ≤ v ∧ ¬ (u = 0 ∧ l.head? = some 45) ∧ Nat.gcd u v = 1 then some (sgT l u, v) else none) = _
      rw [if_pos (e2.mp e)]
    · show (if 2 ≤ v ∧ ¬ (u = 0 ∧ l.head? = some 45) ∧ Nat.gcd u v = 1 then some (sgT l u, v) else none) = _
      rw [if_neg (fun g => e (e2.mpr g))]
theorem rdP_val {l h : List Nat} {t : List (List Nat)} {u v : Nat} (eu : readC h = some u) (ev : botU t = some v) (l1 : t.length ≤ 1) (lo : t = [] ∨ 2 ≤ v) :
    rdP l (h :: t) = if ¬ (u = 0 ∧ l.head? = some 45) ∧ Nat.gcd u v = 1 then some (sgT l u, v) else none := by
  match t, l1, ev, lo with
  | [], _, ev, _ =>
    cases ev
    show (readC h).bind _ = _
    rw [eu]
    show (if u = 0 ∧ l.head? = some 45 then none else some (sgT l u, 1)) = _
    by_cases g : u = 0 ∧ l.head? = some 45
    · rw [if_pos g, if_neg (fun q => q.1 g)]
    · rw [if_neg g, if_pos ⟨g, Nat.gcd_one_right u⟩]
  | [b], _, ev, lo =>
    have ev : readC b = some v := ev
    have v2 : 2 ≤ v := lo.elim (fun e => nomatch e) id
    show ((readC h).bind fun u => (readC b).bind _) = _
    rw [eu, ev]
    show (if 2 ≤ v ∧ ¬ (u = 0 ∧ l.head? = some 45) ∧ Nat.gcd u v = 1 then some (sgT l u, v) else none) = _
    by_cases g : ¬ (u = 0 ∧ l.head? = some 45) ∧ Nat.gcd u v = 1
    · rw [if_pos g, if_pos ⟨v2, g⟩]
    · rw [if_neg g, if_neg (fun q => g q.2)]
theorem rdP_low {l h b : List Nat} {v : Nat} (ev : readC b = some v) (lo : v < 2) : rdP l [h, b] = none := by
  show ((readC h).bind fun u => (readC b).bind _) = _
  rw [ev]
  cases readC h with
  | none => rfl
  | some u =>
    show (if 2 ≤ v ∧ ¬ (u = 0 ∧ l.head? = some 45) ∧ Nat.gcd u v = 1 then some (sgT l u, v) else none) = _
    rw [if_neg (fun q => by have := q.1; omega)]
theorem rd_some {l : List Nat} {n : Int} {d : Nat} (e : rd l = some (n, d)) : (Rat.divInt n d).num = n ∧ (Rat.divInt n d).den = d ∧ tl (ftx n d) = l ∧ n.natAbs < 10 ^ 60 ∧ d < 10 ^ 60 ∧ d ≠ 0 := by
  obtain ⟨h, t, e1, _, _, hl, hf, _⟩ := parts_of l
  have er : rdP l (h :: t) = some (n, d) := by
    unfold rd at e
    rw [e1] at e
    exact e
  have no : ∀ {q : Prop}, rdP l (h :: t) = none → q := fun z => absurd (z.symm.trans er) (fun z => nomatch z)
  cases eu : readC h with
  | none => exact no (rdP_none1 eu)
  | some u =>
    cases ev : botU t with
    | none => exact no (rdP_none2 ev)
    | some v =>
      by_cases l2 : 2 ≤ t.length
      · exact no (rdP_long l2)
      · by_cases v0 : v = 0
        · subst v0
          exact no (rdP_zero ev)
        · have lo : t = [] ∨ 2 ≤ v := by
            have tc : t = [] ∨ ∃ b, t = [b] := by
              match t, l2 with
              | [], _ => exact .inl rfl
              | [b], _ => exact .inr ⟨b, rfl⟩
              | b :: c :: r, q => exact absurd (show 2 ≤ (b :: c :: r).length by simp only [List.length_cons]; omega) q
            rcases tc with rfl | ⟨b, rfl⟩
            · exact .inl rfl
            · refine .inr ?_
              by_cases v2 : 2 ≤ v
              · exact v2
              · exact no (rdP_low ev (by omega))
          have val := rdP_val (l := l) eu ev (by omega) lo
          have go := rdP_go hl hf eu ev (by omega) v0
          by_cases g : ¬ (u = 0 ∧ l.head? = some 45) ∧ Nat.gcd u v = 1
          · rw [if_pos g, er] at val
            injection val with val
            injection val with v1 v2
            subst v1
            subst v2
            have cp : Nat.gcd (sgT l u).natAbs d = 1 := by rw [sgT_abs]; exact g.2
            refine ⟨coprime_num v0 cp, (coprime_div v0).mpr cp, ?_, by rw [sgT_abs]; exact readC_lt eu, botU_lt ev, v0⟩
            by_cases tx : tl (ftx (Rat.divInt (sgT l u) d).num (Rat.divInt (sgT l u) d).den) = l
            · rw [coprime_num v0 cp, (coprime_div v0).mpr cp] at tx
              exact tx
            · exact no (go.2 tx)
          · rw [if_neg g] at val
            exact no val
end Rs

namespace Rs
open PySem PySem.Spec PyProof.Rows L2 He
/-! ### def f(a, .., *v): what is left over is a new tuple -/
section
variable {P : Program} {w : World} {K : PySem.W.Frag} {mg : Str → Option Value} {base : Heap} {N ps : List Str} {pv name qual : Str} {pa : Arguments} {body : List Stmt} {sc : Scope} {f : Addr} {fd : FuncData} {k : Nat} {sp : Sp}
theorem def_starP (F : FunD K name qual pa body sc [] [] f fd) (S : FnScope N (ps ++ [pv]) sc)
    (h : ∀ (kV doc pm : Value) (an : Option Addr) (cdv ct : Value) (us rest : List Value), us.length = ps.length →
      bindArgs (PySem.W.fnOf name qual pa body sc .none kV doc pm an cdv ct) ⟨us ++ rest, []⟩ = (newTuple rest >>= fun t => pure (ps.zip us ++ [(pv, t)])))
    (hb : ∀ (X : Cx), X.prog = P → X.w = w → X.K = K → X.mg = mg → X.base = base → X.N = N → X.env.scope = sc → (∀ x, X.fn x = true) → N.Nodup → ∀ (H : Hp) (vs : List V) (Q : VK) (E : XK), Body X k (fun _ => E) → sp vs H Q E → WB X body { nx := fun _ H' => Q .non H', rt := Q } (start N vs) H) :
    FnR P w K mg base (RX P w) (k + 1) f (fun vs H Q E => ∃ ws rest, vs = ws ++ rest ∧ ws.length = ps.length ∧ rest.length ≤ sizeLine ∧ ∀ p, H p = Option.none → sp (ws ++ [V.ref p]) (upd H p (.tup rest)) Q E) := by
  obtain ⟨oc, od, dV, kV, doc, pm, an, cdv, ct, osl, rfl, lk, hcd, hD, hK⟩ := F.ex
  rcases hD with ⟨_, rfl⟩ | ⟨e, _⟩
  case inr => exact absurd rfl e
  exact StX.fn_star lk hcd S cxUpN (fun us rest l => h kV doc pm an cdv ct us rest l) fun A outer s H vs Q E hr z =>
    ⟨_, pbS, hb (bx P w K mg base N qual sc f cdv A outer s H E) rfl rfl rfl rfl rfl rfl rfl (fun _ => rfl) S.nd _ _ Q E (body_of hr) z⟩
end
/-! ### bits -/
section
variable {X : Cx} {σ : L2.St} {H : Hp} {Q : VK} {o : Expr} {apos pos : Pos}
theorem we_bits (h : WE X o σ H fun v H1 => ∃ i, v = .int i ∧ Q (.int (Builtin.Int.intBits i : Nat)) H1) (hbase : attributeBase o "bit_length" X.env (eval o X.env) = eval o X.env := by rfl) (hline : (apos.endLine == pos.line) = true := by rfl) :
    WE X (.Call (.Attribute o "bit_length" apos) [] [] pos) σ H Q := weP (pe_bits peS hbase hline) h
theorem o_oneShl {k : Nat} (hk : k ≤ 134217727) (q : Q (.int (2 ^ k)) H) : Op2 X (binaryOp .LShift) (.int 1) (.int (k : Int)) H Q := op2_of op_oneShl ⟨k, rfl, rfl, hk, q⟩
end
end Rs
/-! ### != of lists whose items are equal by an own == -/
namespace Rs
open PySem PySem.SeqAt
open AutoSeq1 (wpAny_loadPart')
open MeetsSeq MeetsSeq2 MeetsSeq3 SeqRoads2
section
variable {prog : Program} {w : World} {A : Around} {R : Result → Shared → Prop}
theorem ne_loopG (l b : Addr) (N : Nat) (I : Nat → Shared → Prop) (hl : GQ.ListI prog w A (fun e s' => R (.error e) s') l b N I)
    (fin : ∀ s, I N s → R (.ok (.ret (.bool false))) s) (k : Nat) :
    ∀ i : Nat, N - i = k → i ≤ N → ∀ s, I i s →
      wpAny (model prog w) A.in1 (Builtin.«list.__eq__.loop» ⟨[.ref l, .ref b, rawInt i, rawInt 3], []⟩) (GQ.FinOf prog w A R) (fun e s' => R (.error e) s') s := by
  induction k with
  | zero =>
    intro i hk hi s h
    obtain ⟨items, items2, n, n2, hl1, hb1, hs1, hs2, _⟩ := hl _ _ h
    have hi' : i = N := by omega
    have hR : R (.ok (.ret (.bool false))) s := fin s (hi' ▸ h)
    obtain ⟨hp, g, d, tk, os⟩ := s
    wp_walk using wpAny_loadPart' hl1, wpAny_loadPart' hb1
    have hi1 : items[((i : Nat) : Int).toNat]? = none := by simp; omega
    have hi2 : items2[((i : Nat) : Int).toNat]? = none := by simp; omega
    rw [hi1, hi2]
    wp_walk using wpAny_loadPart' hl1, wpAny_loadPart' hb1
    show R (.ok (.ret (.bool (items.size != items2.size)))) _
    rw [hs1, hs2]
    simpa using hR
  | succ k ih =>
    intro i hk hi s h
    obtain ⟨items, items2, n, n2, hl1, hb1, hs1, hs2, turn⟩ := hl _ _ h
    have hlt : i < items.size := by omega
    have hlt2 : i < items2.size := by omega
    have ht := turn hlt hlt2
    obtain ⟨hp, g, d, tk, os⟩ := s
    wp_walk using wpAny_loadPart' hl1, wpAny_loadPart' hb1
    have hi1 : items[((i : Nat) : Int).toNat]? = some items[i] := by simp [hlt]
    have hi2 : items2[((i : Nat) : Int).toNat]? = some items2[i] := by simp [hlt2]
    have hc : ((i : Int) + 1) = ((i + 1 : Nat) : Int) := by omega
    rw [hi1, hi2]
    refine wpAny_bind (wpAny_mono ht (fun r s2 h2 => ?_) fun _ _ x => x)
    obtain ⟨hr, h2⟩ := h2
    subst hr
    have hrec := ih (i + 1) (by omega) (by omega) s2 h2
    obtain ⟨hp2, g2, d2, tk2, os2⟩ := s2
    wp_walk
    rw [hc]
    exact ⟨plainId_quiet plain_eq_loop _, codeAny_builtin entry_eq_loop (by
      rw [Around.under_plainId plain_eq_loop _]
      exact hrec)⟩
theorem list_neG (l b : Addr) (N : Nat) (I : Nat → Shared → Prop) (hl : GQ.ListI prog w A (fun e s' => R (.error e) s') l b N I)
    (fin : ∀ s, I N s → R (.ok (.ret (.bool false))) s) {s : Shared} (h : I 0 s) :
    wpAny (model prog w) A.in1 (Builtin.«list.__ne__» ⟨[.ref l, .ref b], []⟩) (GQ.FinOf prog w A R) (fun e s' => R (.error e) s') s := by
  obtain ⟨items, items2, n, n2, hl1, hb1, hs1, hs2, _⟩ := hl _ _ h
  have hrec := ne_loopG (A := A) (R := R) l b N I hl fin _ 0 rfl (Nat.zero_le _) s h
  obtain ⟨hp, g, d, tk, os⟩ := s
  have f3 := AutoSeq1.sub_list_list
  have hne : ¬ (items.size != items2.size) = true := by simp [hs1, hs2]
  wp_walk using wpAny_loadPart' hl1, wpAny_loadPart' hb1
  exact ⟨plainId_quiet plain_eq_loop _, codeAny_builtin entry_eq_loop (by
    rw [Around.under_plainId plain_eq_loop _]
    exact hrec)⟩
end
section
variable {prog : Program} {w : World} {A : Around} {E : Value → Shared → Prop} {s : Shared}
theorem rc_listNe {l b : Addr} {N : Nat} {Q : Value → Shared → Prop} (hu : A.units < cLine) (I : Nat → Shared → Prop) (hl : GQ.ListI prog w A E l b N I)
    (fin : ∀ s, I N s → Q (.bool false) s) (h : I 0 s) : wpAny (model prog w) A (richCompare .NotEq (.ref l) (.ref b)) Q E s := by
  obtain ⟨items, items2, n, n2, hl1, hb1, _, _, _⟩ := hl _ _ h
  refine wpAny_richCompare_same_room (op := .NotEq) ⟨_, hl1, rfl⟩ ⟨_, hb1, rfl⟩ F.slot_list_ne (GQ.call_here F.slot_list_ne ⟨_, hl1, rfl⟩ F.entry_list_ne (F.args_list_ne_2 _ _) ?_) hu
  exact list_neG (R := wants (fun v s' => v ≠ .notImplemented ∧ Q v s') E) l b N I hl (fun s' q => ⟨(fun x => nomatch x), fin s' q⟩) h
end
end Rs
namespace Rs
open PySem PySem.Spec PyProof.Rows L2 He
section
variable {X : Cx} {n k : Nat} {D : Eqv} {E : L2.St → XK} {H : Hp} {Q : VK}
theorem op_neList (hD : Mon D) (h : EqG X n D) (hr : Room (n + 1) X.A) : OpR X (compareOp .NotEq) (fun x y H Q => DList D x y H ∧ ∀ H', Ext H H' → Q (.bl false) H') := by
  intro pins s σ H x y v u Q I rx ry hq
  obtain ⟨⟨a, b, xs, ys, rfl, rfl, ha, hb, p⟩, q⟩ := hq
  cases rx
  cases ry
  show wpAny (model X.prog X.w) X.A (richCompare .NotEq (.ref a) (.ref b)) (EP X pins σ Q) X.xe s
  refine rc_listNe (N := xs.length) hr.units0 (fun _ s' => LoopI X pins σ H s') (fun i s' q => ?_) (fun s' z => ?_) ⟨H, I, Ext.rfl'⟩
  · obtain ⟨H1, I1, e1⟩ := id q
    obtain ⟨z, its, k, r, e⟩ := I1.hok a _ (e1 _ _ ha)
    obtain ⟨z2, its2, k2, r2, e2⟩ := I1.hok b _ (e1 _ _ hb)
    refine ⟨its.toArray, its2.toArray, k, k2, e, e2, by rw [List.size_toArray, ← r.length], by rw [List.size_toArray, ← r2.length, ← p.1], fun h1 h2 => ?_⟩
    exact turnG hD h ⟨hr, rfl⟩ p r r2 i h1 h2 s' q
  · obtain ⟨H1, I1, e1⟩ := z
    exact ⟨.bl false, H1, I1, rfl, q H1 e1⟩
theorem o_neList (B : Body X k E) (hD : Mon D) (h : EqG X n D) (hk : n + 1 ≤ k) {a b : Addr} {xs ys : List V} (ha : H a = some (.lst xs)) (hb : H b = some (.lst ys)) (p : L2.Prs D xs ys H) (q : ∀ H', Ext H H' → Q (.bl false) H') : Op2 X (compareOp .NotEq) (.ref a) (.ref b) H Q :=
  op2_of (op_neList hD h (B.room.mono hk)) ⟨⟨a, b, xs, ys, rfl, rfl, ha, hb, p⟩, q⟩
theorem Ext.toEx {H H' : Hp} (e : Ext H H') : Ex H H' := ⟨fun a o h _ => e a o h, fun a l o h s => ⟨o, e a o h, s⟩⟩
end
end Rs

namespace Rs
open PySem PySem.Spec PyProof.Rows L2 He
/-! ### [e for x in range(n)] -/
/-- what the items come to -/
def LcR (X : Cx) (scope : Scope) (elt : Expr) (i : Nat) (σ : L2.St) (n : Nat) (Q : VK) (H1 : Hp) : Prop :=
  ∀ D, H1 D = none → ∃ P : Nat → Hp → Prop, P 0 (upd H1 D (.lst [])) ∧
    (∀ j H, j < n → P j H → ∀ s H0 C cl fp, WE (Bk X s H0 scope C cl fp) elt (σ.set i (some (.int (j : Nat)))) H fun y H4 => ∃ acc, H4 D = some (.lst acc) ∧ acc.length < sizeLine ∧ P (j + 1) (upd H4 D (.lst (acc ++ [y])))) ∧ ∀ H, P n H → Q (.ref D) H
section
variable {X : Cx} {σ : L2.St} {H : Hp} {Q : VK} {D : Ends} {k i n : Nat} {E : L2.St → XK} {x y : Str} {scope : Scope} {elt a : Expr} {px py pos spos pr pc : Pos}
theorem lc_byR (h : WE X a σ H fun v H1 => ∃ n : Nat, v = .int n ∧ n ≤ 1000000000 ∧ LcR X scope elt i σ n Q H1) (hs : starEach [a] X.env = [(false, eval a X.env)] := by rfl) : tLc (iRng1 (WA X [a])) (gName i) tYes (teB X scope elt) [i] σ H Q := by
  refine wa_one (we_mono h fun v H1 q => ?_) hs
  obtain ⟨n, rfl, hn, q⟩ := q
  refine ⟨n, rfl, by omega, by omega, fun D hD => ?_⟩
  obtain ⟨P, h0, hs, hd⟩ := q D hD
  refine lc_range (lo := 0) P h0 (fun j H hj p => ?_) hd
  have hj : j < n := by rw [Int.toNat_natCast] at hj; exact hj
  rw [Int.zero_add]
  refine ⟨(show ((σ.set i none).set i (some (.int (j : Nat)))).set i none = σ.set i none by rw [set2, set2]), (iteT (B := P (j + 1) H) ?_ : if true = true then teB X scope elt ((σ.set i none).set i (some (.int (j : Nat)))) H fun y H4 => ∃ acc, H4 D = some (.lst acc) ∧ acc.length < sizeLine ∧ P (j + 1) (upd H4 D (.lst (acc ++ [y]))) else P (j + 1) H)⟩
  intro s H0 C cl fp
  have e : (σ.set i none).set i (some (.int (j : Nat))) = σ.set i (some (.int (j : Nat))) := set2
  have z := hs j H hj p s H0 C cl fp
  rw [← e] at z
  exact z
theorem ws_setLcR (B : Body X k E) (m : Sl X n y) (bn : Bn X "range") (hy : X.env.scope.names.lookup y = some .local) (hk : X.env.scope.kind = .function) (hi : X.N[i]? = some x) (hx : scope.names.lookup x = some .local) (ok : BlkOk X.N X.env.scope scope [(x, i)])
    (h : WE X a σ H fun v H1 => ∃ n' : Nat, v = .int n' ∧ n' ≤ 1000000000 ∧ LcR X scope elt i σ n' (fun v H' => D.nx (σ.set n (some v)) H') H1) (hl : (py.line == spos.line) = true := by rfl)
    (ha : (scope.names.any fun (n, k) => n == y && (k == .local || k == .cell)) = false := by decide +kernel) (he : pos.line = spos.line := by rfl) (hst : starEach [a] X.env = [(false, eval a X.env)] := by rfl) (hs : ∀ v, foldedSetIterable (.Call (.Name "range" pr) [a] [] pc) X.env v = pure v := by intro _; rfl) :
    WS X (.Assign [.Name y py] (.ListComp elt [⟨.Name x px, .Call (.Name "range" pr) [a] [] pc, [], 0⟩] scope pos) spos) D σ H :=
  wsP (ps_setLc (own := [(x, i)]) (g := gName i) (tt := tYes) B.calm m.nd m.at_ hy (sw_true hk hy (by rw [he]; exact hl) ha) (pi_range1 bn.gl bn.no paS hst) ok (fun _ _ _ _ _ => pg_name m.nd hi (.inl (lookup_relS_keep (by decide) hx)) (.inr (lookup_relS_keep (by decide) hx))) (fun _ _ _ _ _ => pts_nil) peB hs) (lc_byR h hst)
end
end Rs

namespace Mt
open PySem
/-! ### rounds of a steady world -/
/-- first waits ahead of sending k, and in the wait of sending k -/
def mk (b : Bool) (k : Nat) : Int := if b = true then 2 ^ k - 1 else k
def wk (b : Bool) (k : Nat) : Int := if b = true then 2 ^ k else 1
theorem wtk_one (b : Bool) (k : Nat) : wtk (1 : Int) b k = wk b k := by
  induction k with
  | zero => unfold wtk wk; cases b <;> rfl
  | succ k ih =>
    unfold wtk
    rw [ih]
    unfold wk
    cases b with
    | false => rfl
    | true =>
      show (2 : Int) ^ k + 2 ^ k = 2 ^ (k + 1)
      rw [Int.pow_succ]
      omega
theorem stk_one (b : Bool) (k : Nat) : stk (0 : Int) 1 b k = mk b k := by
  induction k with
  | zero => unfold stk mk; cases b <;> rfl
  | succ k ih =>
    unfold stk
    rw [ih, wtk_one]
    unfold mk wk
    cases b with
    | false => show (k : Int) + 1 = ((k + 1 : Nat) : Int); omega
    | true =>
      show (2 : Int) ^ k - 1 + 2 ^ k = 2 ^ (k + 1) - 1
      rw [Int.pow_succ]
      omega
theorem pow_pos2 (k : Nat) : (0 : Int) < 2 ^ k := Int.pow_pos (by decide)
theorem mk_nn (b : Bool) (k : Nat) : 0 ≤ mk b k := by
  unfold mk
  have := pow_pos2 k
  cases b with
  | false => show 0 ≤ (k : Int); omega
  | true => show 0 ≤ (2 : Int) ^ k - 1; omega
section
variable {u d : Rat} {b : Bool}
theorem stk_rat (u : Rat) (b : Bool) (k : Nat) : stk 0 u b k = (mk b k : Rat) * u := by
  have h := stk_map (f := fun i : Int => (i : Rat) * u) (z := 0) (w := 1) (d := b) (fun a c => by rw [Rat.intCast_add, Rat.add_mul]) k
  have e0 : ((0 : Int) : Rat) * u = 0 := by rw [Rat.intCast_zero, Rat.zero_mul]
  have e1 : ((1 : Int) : Rat) * u = u := by rw [Rat.intCast_one, Rat.one_mul]
  rw [← stk_one, ← h]
  show stk 0 u b k = stk (((0 : Int) : Rat) * u) (((1 : Int) : Rat) * u) b k
  rw [e0, e1]
theorem wtk_rat (u : Rat) (b : Bool) (k : Nat) : wtk u b k = (wk b k : Rat) * u := by
  have h := wtk_map (f := fun i : Int => (i : Rat) * u) (w := 1) (d := b) (fun a c => by rw [Rat.intCast_add, Rat.add_mul]) k
  have e1 : ((1 : Int) : Rat) * u = u := by rw [Rat.intCast_one, Rat.one_mul]
  rw [← wtk_one, ← h]
  show wtk u b k = wtk (((1 : Int) : Rat) * u) b k
  rw [e1]
/-- the least number of waits that reach a delay -/
def cei (d u : Rat) : Int := -(fl (0 - d) u)
theorem zero_sub_num (d : Rat) : (0 - d).num = -d.num ∧ (0 - d).den = d.den := by
  have e : 0 - d = -d := by grind
  rw [e]
  exact ⟨rfl, rfl⟩
/-- so many waits are below the delay -/
theorem times_lt {i : Int} : (i : Rat) * u < d ↔ i * (u.num * d.den) < d.num * u.den := by
  have hL : u.den * d.den ≠ 0 := Nat.mul_ne_zero u.den_nz d.den_nz
  have eu : u = sc (u.den * d.den) (u.num * d.den) := by
    unfold sc
    rw [Int.natCast_mul, Rat.divInt_mul_right (by have := d.den_nz; omega), Rat.num_divInt_den]
  have ed : d = sc (u.den * d.den) (d.num * u.den) := by
    unfold sc
    rw [Int.natCast_mul, Int.mul_comm (u.den : Int), Rat.divInt_mul_right (by have := u.den_nz; omega), Rat.num_divInt_den]
  have ei : (i : Rat) * u = sc (u.den * d.den) (i * (u.num * d.den)) := by
    conv => lhs; rw [eu]
    unfold sc
    rw [← int_eq, Rat.divInt_mul_divInt, Int.one_mul]
  have h := sc_lt hL (i * (u.num * d.den)) (d.num * u.den)
  rw [← ei, ← ed] at h
  exact h
theorem num_pos0 (u0 : 0 < u) : 0 < u.num := by
  have h := (Rat.lt_iff 0 u).mp u0
  rw [show (0 : Rat).num = 0 from rfl, show ((0 : Rat).den : Int) = 1 from rfl] at h
  omega
theorem cei_spec (u0 : 0 < u) : ∀ i : Int, (i : Rat) * u < d ↔ i < cei d u := by
  intro i
  rw [times_lt]
  have W0 : 0 < u.num * (d.den : Int) := Int.mul_pos (num_pos0 u0) (by have := d.den_pos; omega)
  have ef : fl (0 - d) u = (-(d.num * u.den)).fdiv (u.num * d.den) := by
    unfold fl
    rw [(zero_sub_num d).1, (zero_sub_num d).2, Int.neg_mul, Int.mul_comm (d.den : Int)]
  unfold cei
  rw [ef, Int.fdiv_eq_ediv_of_nonneg _ (Int.le_of_lt W0)]
  generalize u.num * (d.den : Int) = W at W0
  generalize d.num * (u.den : Int) = M
  have h1 := Int.ediv_mul_le (-M) (Int.ne_of_gt W0)
  have h2 := Int.lt_ediv_add_one_mul_self (-M) W0
  generalize -M / W = f at h1 h2
  have e : (f + 1) * W = f * W + W := by rw [Int.add_mul, Int.one_mul]
  constructor
  · intro h
    refine Int.lt_of_not_ge fun g => ?_
    have : -f * W ≤ i * W := Int.mul_le_mul_of_nonneg_right g (Int.le_of_lt W0)
    rw [Int.neg_mul] at this
    omega
  · intro h
    have : (i + 1) * W ≤ -f * W := Int.mul_le_mul_of_nonneg_right (by omega) (Int.le_of_lt W0)
    rw [Int.neg_mul, Int.add_mul, Int.one_mul] at this
    omega
theorem cei_pos (u0 : 0 < u) (d0 : 0 < d) : 1 ≤ cei d u := by
  have := (cei_spec (d := d) u0 0).mp (by rw [Rat.intCast_zero, Rat.zero_mul]; exact d0)
  omega
/-- how many sendings -/
def snd (b : Bool) (c : Int) : Nat := if b = true then Builtin.Int.intBits c else c.toNat
theorem bits_pos {c : Int} (h : 1 ≤ c) : Builtin.Int.intBits c = c.toNat.log2 + 1 := by
  unfold Builtin.Int.intBits
  have e : (c == 0) = false := by
    rw [beq_eq_false_iff_ne]
    omega
  rw [e]
  show c.natAbs.log2 + 1 = _
  congr 2
  omega
theorem snd_spec {c : Int} (h : 1 ≤ c) (b : Bool) : 1 ≤ snd b c ∧ ∀ k, mk b k < c ↔ k < snd b c := by
  unfold snd mk
  cases b with
  | false =>
    refine ⟨by show 1 ≤ c.toNat; omega, fun k => ?_⟩
    show (k : Int) < c ↔ k < c.toNat
    omega
  | true =>
    show 1 ≤ Builtin.Int.intBits c ∧ ∀ k, (2 : Int) ^ k - 1 < c ↔ k < Builtin.Int.intBits c
    rw [bits_pos h]
    refine ⟨by omega, fun k => ?_⟩
    obtain ⟨n, rfl⟩ := Int.eq_ofNat_of_zero_le (show 0 ≤ c by omega)
    rw [Int.toNat_natCast]
    have n0 : n ≠ 0 := by omega
    have e : (2 : Int) ^ k = ((2 ^ k : Nat) : Int) := by rw [Int.natCast_pow]; rfl
    rw [e]
    constructor
    · intro g
      have g : 2 ^ k ≤ n := by omega
      have := (Nat.le_log2 n0).mpr g
      omega
    · intro g
      have := (Nat.le_log2 n0).mp (show k ≤ n.log2 by omega)
      omega
theorem rsk_steady (u0 : 0 < u) (d0 : 0 < d) : ∀ k, rsk 0 u b [some d] (k + 1) = ⟨k, 0, some d, some d⟩ := by
  intro k
  have dl : ∀ k, dlk [some d] k = some d := fun k => by
    cases k with
    | zero => rfl
    | succ k =>
      unfold dlk
      rw [if_neg (by show ¬ k + 1 < 1; omega)]
      rfl
  induction k with
  | zero =>
    show rstep (rsk 0 u b [some d] 0) 0 (stk 0 u b 0) (dlk [some d] 0) = _
    rw [dl]
    show (⟨0, 0, some (0 + d), some d⟩ : RS Rat) = _
    rw [Rat.zero_add]
  | succ k ih =>
    show rstep (rsk 0 u b [some d] (k + 1)) (k + 1) (stk 0 u b (k + 1)) (dlk [some d] (k + 1)) = _
    rw [dl, ih]
    show (if stk 0 u b (k + 1) + d < d then (⟨k + 1, k + 1, some (stk 0 u b (k + 1) + d), some d⟩ : RS Rat) else ⟨k + 1, 0, some d, some d⟩) = _
    have h := stk_mono (d := b) u0 (Nat.zero_le (k + 1))
    have h : 0 ≤ stk 0 u b (k + 1) := h
    rw [if_neg (by grind)]
theorem gng_steady (u0 : 0 < u) (d0 : 0 < d) (k : Nat) : Gng 0 u b [some d] k ↔ k = 0 ∨ k < snd b (cei d u) := by
  cases k with
  | zero => exact ⟨fun _ => .inl rfl, fun _ => trivial⟩
  | succ k =>
    unfold Gng
    rw [rsk_steady u0 d0]
    show stk 0 u b (k + 1) < d ↔ _
    rw [stk_rat, cei_spec u0, (snd_spec (cei_pos u0 d0) b).2]
    exact ⟨.inr, fun h => h.resolve_left (by omega)⟩
theorem wk_le (b : Bool) (k : Nat) : (wk b k).natAbs ≤ 2 ^ k := by
  unfold wk
  cases b with
  | false => show 1 ≤ 2 ^ k; exact Nat.one_le_two_pow
  | true =>
    show ((2 : Int) ^ k).natAbs ≤ 2 ^ k
    rw [Int.natAbs_pow]
    exact Nat.le_refl _
theorem mk_le (b : Bool) (k : Nat) : (mk b k).natAbs ≤ 2 ^ k := by
  have p := pow_pos2 k
  have e : ((2 : Int) ^ k).natAbs = 2 ^ k := by rw [Int.natAbs_pow]; rfl
  unfold mk
  cases b with
  | false => show (k : Int).natAbs ≤ 2 ^ k; have := @Nat.lt_two_pow_self k; omega
  | true => show ((2 : Int) ^ k - 1).natAbs ≤ 2 ^ k; omega
theorem stk_sz {m k N : Nat} (hk : k ≤ N) (h : Sz u m) (b : Bool) : Sz (stk 0 u b k) (N + 1 + m) := by
  rw [stk_rat]
  refine Sz.mul (Sz.int ?_ (by omega)) h
  exact Nat.lt_of_le_of_lt (mk_le b k) (Nat.pow_lt_pow_right (by decide) (by omega))
theorem wtk_sz {m k N : Nat} (hk : k ≤ N) (h : Sz u m) (b : Bool) : Sz (wtk u b k) (N + 1 + m) := by
  rw [wtk_rat]
  refine Sz.mul (Sz.int ?_ (by omega)) h
  exact Nat.lt_of_le_of_lt (wk_le b k) (Nat.pow_lt_pow_right (by decide) (by omega))
theorem snd_le {c : Int} {n : Nat} (h : 1 ≤ c) (hc : c ≤ n) (b : Bool) : snd b c ≤ n := by
  have s := (snd_spec h b).2
  refine Nat.le_of_not_lt fun g => ?_
  have := (s n).mpr g
  have : (n : Int) ≤ mk b n := by
    unfold mk
    cases b with
    | false => exact Int.le_refl _
    | true =>
      show (n : Int) ≤ 2 ^ n - 1
      have e : (2 : Int) ^ n = ((2 ^ n : Nat) : Int) := by rw [Int.natCast_pow]; rfl
      have := @Nat.lt_two_pow_self n
      omega
  omega
theorem cei_le (u0 : 0 < u) {n : Nat} (h : d ≤ (n : Rat) * u) : cei d u ≤ n := by
  refine Int.le_of_not_gt fun g => ?_
  have := (cei_spec (d := d) u0 n).mpr g
  rw [Rat.intCast_natCast] at this
  exact absurd h (Rat.not_le.mpr this)
end
end Mt

namespace Rs
open PySem PySem.Spec
/-! ### a dict merged into another one: {**d, ..}, f(**d) -/
section
variable {prog : Program} {w : World} {K : Type} [DecidableEq K] {knd : KeyKind prog w K} {A : Around} {E : Value → Shared → Prop} {s : Shared}
theorem wpAny_dictPut_pairs {d : Addr} {kvs : List (K × Value)} {k : K} {key v : Value} {Q : Unit → Shared → Prop} (hkey : knd.is k key = true) (hm : s.heap.DictOf knd d kvs)
    (hQ : ∀ h', h'.DictOf knd d (stored kvs k v) → Heap.SameBut d s.heap h' → Q () { s with heap := h' })
    (hsz : kvs.length ≤ sizeLine := by size_fits) :
    wpAny (model prog w) A (dictPut d (knd.hash k) key v) Q E s := by
  obtain ⟨o, es, ep, ho, hc, hd, hk, hp, hn⟩ := hm
  have hes : es.size ≤ sizeLine := by have e1 := hp.length; have e2 : es.toList.length = es.size := by simp
                                      omega
  unfold dictPut
  refine wpAny_bind (wpAny_dictFind_of hkey ho hd hk ?_)
  have hidx : (es.findIdx? fun e => knd.is k e.key) = kvs.findIdx? fun kv => decide (kv.1 = k) := by
    rw [← hp.findIdx k]; obtain ⟨l⟩ := es; simp
  cases hi : es.findIdx? fun e => knd.is k e.key with
  | some i =>
    refine (wpAny_updateDict ho hd ((hQ _ ⟨_, _, ep, Heap.get?_update_self _ ho (Obj.isFreed_of_dict (Obj.data_mapDict hd _)),
      hc.mapDict _, Obj.data_mapDict hd _, hk.modify _ _, ?_, ?_⟩ (Heap.SameBut.update ..))))
    · rw [stored, if_pos (any_of_findIdx_some (hidx ▸ hi))]
      have hl : (es.toList.findIdx? fun e => knd.is k e.key) = some i := by rw [← hi]; obtain ⟨l⟩ := es; simp
      have := hp.modify hn hl v
      obtain ⟨l⟩ := es
      simpa using this
    · rw [stored, if_pos (any_of_findIdx_some (hidx ▸ hi)), keys_map_store]; exact hn
  | none =>
    have hnot : k ∉ kvs.map (·.1) := not_mem_of_findIdx_none (hidx ▸ hi)
    have hany : ¬ (kvs.any fun kv => decide (kv.1 = k)) = true := by
      rw [List.any_eq_true]; rintro ⟨kv, hkv, he⟩
      exact hnot (List.mem_map.mpr ⟨kv, hkv, of_decide_eq_true he⟩)
    refine (wpAny_updateDictKeys (hz := hes) ho hd (hQ _ ⟨_, _, ep + 1, Heap.get?_update_self _ ho (Obj.isFreed_of_dict (Obj.data_mapDictKeys hd _)),
      hc.mapDictKeys _, Obj.data_mapDictKeys hd _, hk.push hkey _, ?_, ?_⟩ (Heap.SameBut.update ..)))
    · rw [stored, if_neg hany]
      have := hp.append hkey (knd.hash k) v
      obtain ⟨l⟩ := es
      simpa using this
    · rw [stored, if_neg hany, List.map_append, List.nodup_append]
      refine ⟨hn, by simp, ?_⟩
      intro a ha b hb
      simp only [List.map_cons, List.map_nil, List.mem_singleton] at hb
      subst hb
      exact fun e => hnot (e ▸ ha)
theorem wpAny_mergeLoop {d o : Addr} {kvs more : List (K × Value)} {u : Bool} {Q : Unit → Shared → Prop} (hdo : d ≠ o)
    (hd : s.heap.DictOf knd d kvs) (ho : s.heap.DictOf knd o more) (hu : u = true → ((kvs ++ more).map (·.1)).Nodup)
    (hQ : ∀ h', h'.DictOf knd d (merged kvs more) → h'.DictOf knd o more → Heap.SameBut d s.heap h' → Q () { s with heap := h' })
    (hsz : kvs.length + more.length ≤ sizeLine) :
    wpAny (model prog w) A (do
      let __do_lift ← dictEntries o
      let epoch ← dictEpoch o
      forIn (List.range __do_lift.size) PUnit.unit fun i (_ : PUnit) => (do
          let __do_lift ← dictEntries o
          match __do_lift[i]? with
            | some e => do
              holding [e.key, e.val] (if u = true then do
                  let __do_lift ← dictFind d e.key e.hash
                  if __do_lift.isSome = true then do
                      rule "dict.merge.duplicate-key"
                      let __do_lift ← newExc (Value.type "KeyError") [e.key]
                      let _ ← (raiseNew __do_lift : Sem Unit)
                      dictPut d e.hash e.key e.val
                    else dictPut d e.hash e.key e.val
                else dictPut d e.hash e.key e.val)
              let __do_lift ← dictEpoch o
              if (__do_lift != epoch) = true then do
                  let _ ← (unsupported "dict.changed-during-merge" : Sem Unit)
                  pure (ForInStep.yield PUnit.unit)
                else pure (ForInStep.yield PUnit.unit)
            | _ => do
              let _ ← (unsupported "dict.changed-during-merge" : Sem Unit)
              pure (ForInStep.yield PUnit.unit) : Sem (ForInStep PUnit))
      pure ()) Q E s := by
  obtain ⟨od, esd, epd, hod, hcd, hdd, hkd, hpd, hnd⟩ := id hd
  obtain ⟨oo, eso, epo, hoo, hco, hdo', hko, hpo, hno⟩ := id ho
  have hlen : more.length = eso.size := by rw [← hpo.length]; simp
  refine wpAny_bind (wpAny_dictEntries hoo hdo' ?_)
  refine wpAny_bind (wpAny_dictEpoch hoo hdo' ?_)
  refine wpAny_bind ?_
  rw [List.range_eq_range']
  refine wpAny_forIn_list _
    (fun rest _ s' => ∃ h' i, s' = { s with heap := h' } ∧ rest = List.range' i (eso.size - i) ∧ i ≤ eso.size ∧ h'.DictOf knd d (merged kvs (more.take i)) ∧ h'.get? o = some oo ∧ Heap.SameBut d s.heap h')
    _ ?_ ?_ _ _ ⟨s.heap, 0, rfl, by simp, Nat.zero_le _, by simpa [merged] using hd, hoo, Heap.SameBut.refl _ _⟩
  · rintro x rest b s' ⟨h', i, rfl, hr, hi, hd', hoo', hs'⟩
    have hlt : i < eso.size := by
      rcases Nat.lt_or_ge i eso.size with h | h
      · exact h
      · rw [Nat.sub_eq_zero_of_le h] at hr; simp at hr
    obtain ⟨rfl, hrest⟩ : x = i ∧ rest = List.range' (i + 1) (eso.size - (i + 1)) := by
      have e : eso.size - i = (eso.size - (i + 1)) + 1 := by omega
      rw [e, List.range'_succ] at hr
      injection hr with h1 h2
      exact ⟨h1, h2⟩
    refine wpAny_bind (wpAny_dictEntries hoo' hdo' ?_)
    rw [Array.getElem?_eq_getElem hlt]
    obtain ⟨kv, hkv⟩ : ∃ kv, more[x]? = some kv := ⟨more[x]'(by rw [hlen]; exact hlt), List.getElem?_eq_getElem _⟩
    obtain ⟨k, v⟩ := kv
    obtain ⟨hkey, hval⟩ := hpo.get? (e := eso[x]) (by simp [hlt]) hkv
    obtain ⟨k', hkey', hhash⟩ := hko eso[x] (Array.getElem_mem hlt)
    obtain rfl : k' = k := knd.inj _ _ _ hkey' hkey
    have hmx : (merged kvs (more.take x)).length ≤ sizeLine := by
      have e1 := merged_length_le kvs (more.take x)
      have e2 : (more.take x).length ≤ more.length := by rw [List.length_take]; omega
      omega
    have fin : ∀ Q' : Unit → Shared → Prop, (∀ h'', h''.DictOf knd d (merged kvs (more.take (x + 1))) → h''.get? o = some oo → Heap.SameBut d s.heap h'' → Q' () { s with heap := h'' }) →
        wpAny (model prog w) A (dictPut d eso[x].hash eso[x].key eso[x].val) Q' E { s with heap := h' } := fun Q' hq => by
      rw [hhash, hval]
      refine wpAny_dictPut_pairs (hsz := hmx) hkey hd' fun h'' hd'' hs'' => ?_
      exact hq h'' (by rw [merged_take_succ kvs more x (k', v) hkv]; exact hd'') ((hs''.2 o (Ne.symm hdo)).trans hoo') (hs'.trans hs'')
    refine wpAny_bind (wpAny_holding ?_)
    cases u with
    | false =>
      rw [if_neg Bool.false_ne_true]
      refine fin _ fun h'' a b c => ?_
      refine wpAny_bind (wpAny_dictEpoch b hdo' ?_)
      rw [if_neg (by simp)]
      exact wpAny_pure ⟨h'', x + 1, rfl, hrest, hlt, a, b, c⟩
    | true =>
      rw [if_pos rfl]
      obtain ⟨o2, es2, ep2, ho2, hc2, hd2, hk2, hp2, hn2⟩ := id hd'
      rw [hhash]
      refine wpAny_bind (wpAny_dictFind_of hkey ho2 hd2 hk2 ?_)
      have nk : k' ∉ (merged kvs (more.take x)).map (·.1) := by
        have hn := hu rfl
        have e : merged kvs (more.take x) = kvs ++ more.take x := by
          refine merged_append_of_fresh _ _ ?_
          rw [List.map_append, List.nodup_append] at hn ⊢
          refine ⟨hn.1, ?_, fun a ha b hb => hn.2.2 a ha b ?_⟩
          · rw [List.map_take]
            exact hn.2.1.sublist (List.take_sublist _ _)
          · rw [List.map_take] at hb
            exact List.mem_of_mem_take hb
        rw [e]
        have hx : x < more.length := by omega
        have sp : more = more.take x ++ (k', v) :: more.drop (x + 1) := by
          have h1 : more.drop x = more[x] :: more.drop (x + 1) := List.drop_eq_getElem_cons hx
          have h2 : more[x] = (k', v) := by
            rw [List.getElem?_eq_getElem hx] at hkv
            exact Option.some.inj hkv
          rw [← h2, ← h1, List.take_append_drop]
        rw [sp, ← List.append_assoc, List.map_append, List.nodup_append] at hn
        exact fun hm => hn.2.2 k' hm k' (by simp) rfl
      have hnone : (es2.findIdx? fun e => knd.is k' e.key) = none := by
        have hidx : (es2.findIdx? fun e => knd.is k' e.key) = (merged kvs (more.take x)).findIdx? fun kv => decide (kv.1 = k') := by
          rw [← hp2.findIdx k']; obtain ⟨l⟩ := es2; simp
        rw [hidx, List.findIdx?_eq_none_iff]
        intro kv hkv'
        exact decide_eq_false fun e => nk (List.mem_map.mpr ⟨kv, hkv', e⟩)
      rw [hnone]
      rw [if_neg (by simp)]
      rw [← hhash]
      refine fin _ fun h'' a b c => ?_
      refine wpAny_bind (wpAny_dictEpoch b hdo' ?_)
      rw [if_neg (by simp)]
      exact wpAny_pure ⟨h'', x + 1, rfl, hrest, hlt, a, b, c⟩
  · rintro b s' ⟨h', i, rfl, hr, hi, hd', hoo', hs'⟩
    have hin : i = eso.size := by
      rcases Nat.lt_or_ge i eso.size with h | h
      · have e : eso.size - i = (eso.size - (i + 1)) + 1 := by omega
        rw [e, List.range'_succ] at hr; exact nomatch hr
      · exact Nat.le_antisymm hi h
    refine wpAny_pure (hQ h' ?_ ⟨oo, eso, epo, hoo', hco, hdo', hko, hpo, hno⟩ hs')
    rw [hin, ← hlen, List.take_length] at hd'; exact hd'
theorem wpAny_mergeMapping {d o : Addr} {kvs more : List (K × Value)} {u : Bool} {Q : Unit → Shared → Prop} (hdo : d ≠ o) (hoS : (o == sysModules) = false)
    (hkr : ∀ k a, knd.is k (.ref a) = false) (hd : s.heap.DictOf knd d kvs) (ho : s.heap.DictOf knd o more) (hu : u = true → ((kvs ++ more).map (·.1)).Nodup)
    (hQ : ∀ h', h'.DictOf knd d (merged kvs more) → h'.DictOf knd o more → Heap.SameBut d s.heap h' → Q () { s with heap := h' })
    (hsz : kvs.length + more.length ≤ sizeLine := by size_fits) :
    wpAny (model prog w) A (mergeMapping d (.ref o) u) Q E s := by
  obtain ⟨od, esd, epd, hod, hcd, hdd, hkd, hpd, hnd⟩ := id hd
  obtain ⟨oo, eso, epo, hoo, hco, hdo', hko, hpo, hno⟩ := id ho
  have hlen : more.length = eso.size := by rw [← hpo.length]; simp
  unfold mergeMapping
  refine wpAny_bind (wpAny_isInstance ho.typeIs isSubtype_dict_dict ?_)
  dsimp only
  rw [if_pos rfl]
  refine wpAny_bind (wpAny_specialOf ho.typeIs F.slot_dict_iter.lookup ?_)
  simp only [beq_self_eq_true]
  refine wpAny_bind (wpAny_pure ?_)
  dsimp only
  rw [if_neg (by rw [hoS]; exact Bool.false_ne_true)]
  refine wpAny_bind (wpAny_dictEntries hod hdd ?_)
  split
  case isTrue =>
    refine wpAny_bind (wpAny_dictEntries hoo hdo' ?_)
    refine wpAny_bind (wpAny_forIn_array' _ (fun rest _ s' => s' = s ∧ ∀ e ∈ rest, e ∈ eso) _ ?_ ?_ _ _ ⟨rfl, fun e he => by simpa using he⟩)
    · rintro e rest b s' ⟨rfl, hr⟩
      obtain ⟨k', hkey', _⟩ := hko e (hr e List.mem_cons_self)
      split
      · rename_i a' heq
        rw [heq, hkr] at hkey'
        cases hkey'
      · exact wpAny_pure ⟨rfl, fun x hx => hr x (List.mem_cons_of_mem _ hx)⟩
    · rintro b s' ⟨rfl, _⟩
      exact wpAny_mergeLoop hdo hd ho hu hQ hsz
  case isFalse =>
    exact wpAny_mergeLoop hdo hd ho hu hQ hsz
end
end Rs

namespace Rs
open PySem PySem.Spec PyProof.Rows L2 He
/-! ### dicts that are merged, in the heap of V -/
section
variable {X : Cx} {pins : List (Addr × Obj)} {σ : L2.St} {H : Hp} {s : Shared} {A : Around} {E : Value → Shared → Prop}
theorem mix_noref (P : Program) (w : World) (k : Key) (a : Addr) : (mixKind P w).is k (.ref a) = false := by
  cases k with
  | inl i => rfl
  | inr x => rfl
theorem kv_keys : ∀ {kvs : List (Key × V)} {vs : List (Key × Value)}, KV kvs vs → kvs.map (·.1) = vs.map (·.1)
  | [], _, r => by cases r; rfl
  | p :: kvs, _, r => by
    cases r with
    | @cons a b as bs h t =>
      rw [List.map_cons, List.map_cons, kv_keys t, h.1]
theorem d_merge {d o : Addr} {kvs more : List (Key × V)} {u : Bool} {Q : Unit → Shared → Prop} (I : Inv X pins σ H s) (ed : H d = some (.dK kvs)) (eo : H o = some (.dK more)) (ne : d ≠ o) (hu : u = true → ((kvs ++ more).map (·.1)).Nodup)
    (hz : kvs.length + more.length ≤ sizeLine) (h : ∀ s', Inv X pins σ (upd H d (.dK (mergeK kvs more))) s' → Q () s') : wpAny (model X.prog X.w) A (mergeMapping d (.ref o) u) Q E s := by
  obtain ⟨z1, hd1, vs1, r1, dd1⟩ := dk_of I.hok ed
  obtain ⟨z2, hd2, vs2, r2, dd2⟩ := dk_of I.hok eo
  refine wpAny_mergeMapping ne hd2 (mix_noref _ _) dd1 dd2 (fun e => ?_) (fun h' q1 q2 hs => h _ ?_) ?_
  · have := hu e
    rw [List.map_append, kv_keys r1, kv_keys r2, ← List.map_append] at this
    exact this
  · refine d_write (t' := s.toks) I (by rw [ed]; exact True.intro) hs (let ⟨q, _, _, hq, _⟩ := q1; ⟨q, hq⟩) (dk_new ?_ hd1 (r2.merge r1) q1)
    have := length_mergeK more kvs
    omega
  · rw [← r1.length, ← r2.length]; exact hz
end
/-! ### f(**d) -/
section
variable {prog : Program} {w : World} {A : Around} {s : Shared} {E : Value → Shared → Prop}
theorem wpAny_keywordsIn {f : Value} {d : Addr} {ps : List (Str × Value)} {Q : List (Str × Value) → Shared → Prop} (hd : s.heap.DictOf (mixKind prog w) d (ps.map fun p => (.inr p.1, p.2))) (h : Q ps s) : wpAny (model prog w) A (keywordsIn f d) Q E s := by
  obtain ⟨o, es, ep, ho, hc, hdd, hk, hp, hn⟩ := hd
  unfold keywordsIn
  refine wpAny_bind (wpAny_dictEntries ho hdd ?_)
  refine wpAny_bind (wpAny_forIn_array' _ (fun rest kw s' => s' = s ∧ ∃ pre post, ps = pre ++ post ∧ kw = pre ∧ Pairs (mixKind prog w) rest (post.map fun p => (.inr p.1, p.2))) _ ?_ ?_ _ _ ⟨rfl, [], ps, rfl, rfl, hp⟩)
  · rintro e rest kw s' ⟨rfl, pre, post, rfl, rfl, hp'⟩
    cases post with
    | nil => cases hp'
    | cons p post =>
      cases hp' with
      | cons h1 h2 h3 =>
        obtain ⟨t, ht⟩ : ∃ t, e.key = .str p.1 t := by
          rcases keyIs_shape (k := .inr p.1) (v := e.key) h1 with ⟨i, t, q, _⟩ | ⟨x, t, q, ht⟩
          · exact nomatch q
          · injection q with q
            exact ⟨t, by rw [q]; exact ht⟩
        rw [ht]
        refine wpAny_pure ⟨rfl, kw ++ [p], post, by simp, ?_, h3⟩
        rw [h2]
  · rintro kw s' ⟨rfl, pre, post, rfl, rfl, hp'⟩
    cases post with
    | nil => refine wpAny_pure (by rw [List.append_nil] at h; exact h)
    | cons p post => cases hp'
theorem wpAny_merged1 {f : Value} {t : Sem Value} {Q : Addr → Shared → Prop}
    (h : wpAny (model prog w) A t (fun v s1 => ∃ o, v = .ref o ∧ (∀ E' : Value → Shared → Prop, ∀ Q' : Unit → Shared → Prop, (∀ s2, Q s.heap.objs.size s2 → Q' () s2) → wpAny (model prog w) A (mergeMapping s.heap.objs.size (.ref o) true) Q' E' s1)) E { s with heap := s.heap.push { cls := .type "dict", data := .dict #[] } }) :
    wpAny (model prog w) A (mergedKeywords f [(none, t)]) Q E s := by
  unfold mergedKeywords
  refine wpAny_bind (wpAny_alloc ?_)
  refine wpAny_bind (wpAny_holding ?_)
  dsimp only
  rw [List.forIn_cons]
  refine wpAny_bind (wpAny_bind ?_)
  dsimp only
  rw [if_pos (show ([] : List (Str × Sem Value)).isEmpty = true from rfl)]
  refine wpAny_bind (wpAny_pure ?_)
  refine wpAny_bind (wpAny_mono h (fun v s1 z => ?_) fun _ _ e => e)
  obtain ⟨o, rfl, z⟩ := z
  refine wpAny_bind (wpAny_onRaise (wpAny_holding (wpAny_tryCatch (wpAny_onRaise (z _ _ fun s2 q => ?_)))))
  refine wpAny_pure ?_
  dsimp only
  rw [List.forIn_nil]
  refine wpAny_pure ?_
  rw [if_pos (show ([] : List (Str × Sem Value)).isEmpty = true from rfl)]
  exact wpAny_pure (wpAny_pure q)
theorem wpAny_evalArgsD {f : Value} {t : Sem Value} {Q : Args → Shared → Prop}
    (h : wpAny (model prog w) A t (fun v s1 => ∃ o, v = .ref o ∧ ∃ R : Shared → Prop, (∀ s2, R s2 → ∃ ps : List (Str × Value), s2.heap.DictOf (mixKind prog w) s.heap.objs.size (ps.map fun p => (.inr p.1, p.2)) ∧ Q ⟨[], ps⟩ s2) ∧
      (∀ E' : Value → Shared → Prop, ∀ Q' : Unit → Shared → Prop, (∀ s2, R s2 → Q' () s2) → wpAny (model prog w) A (mergeMapping s.heap.objs.size (.ref o) true) Q' E' s1)) E { s with heap := s.heap.push { cls := .type "dict", data := .dict #[] } }) :
    wpAny (model prog w) A (evalArgs f true [] [(none, t)]) Q E s := by
  unfold evalArgs
  refine wpAny_bind (wpAny_bind (wpAny_pure (wpAny_pure ?_)))
  dsimp only
  refine wpAny_bind (wpAny_pure ?_)
  refine wpAny_holding ?_
  rw [if_neg (by simp)]
  refine wpAny_bind (wpAny_merged1 (Q := fun a s2 => a = s.heap.objs.size ∧ ∃ ps : List (Str × Value), s2.heap.DictOf (mixKind prog w) s.heap.objs.size (ps.map fun p => (.inr p.1, p.2)) ∧ Q ⟨[], ps⟩ s2) (wpAny_mono h (fun v s1 z => ?_) fun _ _ e => e) |> fun q => wpAny_mono q (fun a s2 z => ?_) fun _ _ e => e)
  · obtain ⟨rfl, ps, hd, q⟩ := z
    refine wpAny_bind (wpAny_pure (wpAny_bind (wpAny_holding (wpAny_keywordsIn hd (wpAny_pure q)))))
  · obtain ⟨o, rfl, R, r1, r2⟩ := z
    exact ⟨o, rfl, fun E' Q' q => r2 E' Q' fun s2 r => q s2 ⟨rfl, r1 s2 r⟩⟩
end
section
variable {M : Model} {A : Around} {E : Value → Shared → Prop} {s : Shared} {f : Value} {first : List Value} {pos : Pos} {Q : Value → Shared → Prop} {P : Heap → Prop} {args : List (Bool × Sem Value)} {kws : List (Option Str × Sem Value)}
theorem callWith_starred (hst : (args.any (·.1) || kws.any (·.1.isNone)) = true)
    (hk : ∀ h, P h → ∃ k, (k = Keeper.frame ∨ k = Keeper.machine ∨ k = Keeper.boundFrame) ∧ PySem.W.Looks M h (keeperOf f) k)
    (h : wpAny M A (evalArgs f true args kws) (fun a s₁ => P s₁.heap ∧ wpAny M A (call f (first ++ a.pos) a.kw) Q E s₁) E s) : wpAny M A (callWith pos f first args kws) Q E s := by
  unfold callWith
  refine wpAny_bind (wpAny_holding (wpAny_mono h (fun a s₁ h₁ => wpAny_bind (wpAny_standAt ?_)) fun _ _ x => x))
  obtain ⟨k, hk', L⟩ := hk _ h₁.1
  simp only [hst]
  refine wpAny_bind (L.here ?_)
  have tail : ∀ {t : Sem Value}, wpAny M A t Q E s₁ → wpAny M A (t >>= fun r => holding [r] point >>= fun _ => pure r) Q E s₁ :=
    fun ht => wpAny_bind (wpAny_mono ht (fun r s₂ hr => wpAny_bind (wpAny_holding (wpAny_point (wpAny_pure hr)))) fun _ _ x => x)
  have marked (mk : Value) : wpAny M A (callMarked mk f (first ++ a.pos) a.kw) Q E s₁ := by unfold callMarked; exact Calls.wpAny_keep h₁.2
  rcases hk' with rfl | rfl | rfl <;> dsimp only <;> first | exact tail (marked _) | exact tail (wpAny_operating h₁.2)
end
theorem kv_strs : ∀ {ks : List Str} {vs : List V} {ws : List (Key × Value)}, vs.length = ks.length → KV ((ks.map (Sum.inr : Str → Key)).zip vs) ws → ∃ us, ws = (ks.zip us).map (fun p => ((Sum.inr p.1 : Key), p.2)) ∧ Vals vs us
  | [], [], _, _, r => by cases r; exact ⟨[], rfl, .nil⟩
  | [], _ :: _, _, l, _ => nomatch l
  | _ :: _, [], _, l, _ => nomatch l
  | k :: ks, v :: vs, _, l, r => by
    cases r with
    | @cons a b as bs h t =>
      obtain ⟨us, rfl, q⟩ := kv_strs (Nat.succ.inj l) t
      obtain ⟨b1, b2⟩ := b
      obtain ⟨h1, h2⟩ := h
      cases h1
      exact ⟨b2 :: us, rfl, .cons h2 q⟩
section
variable {X : Cx} {σ : L2.St} {H : Hp} {Q : VK} {k j : Nat} {E : L2.St → XK} {x : Str} {sp : Sp} {p pos kpos : Pos} {e : Expr} {C : Addr} {ks : List Str} {gV : List V → List V → List V}
/-- C(**d), d a dict with the keys ks -/
theorem we_makeD (B : Body X k E) (gn : Gn X x) (f : GKk X.prog X.w X.K X.mg X.base j x C sp 0 ks gV) (hj : j + 1 ≤ k) (nd : ks.Nodup)
    (h : ∀ q, H q = none → WE X e σ (upd H q (.dK [])) fun v H1 => ∃ o zs, v = .ref o ∧ H1 q = some (.dK []) ∧ H1 o = some (.dK ((ks.map (Sum.inr : Str → Key)).zip zs)) ∧ q ≠ o ∧ zs.length = ks.length ∧ ks.length ≤ 1000 ∧
      ∀ a dx, upd H1 q (.dK ((ks.map (Sum.inr : Str → Key)).zip zs)) a = none → upd H1 q (.dK ((ks.map (Sum.inr : Str → Key)).zip zs)) dx = none → dx ≠ a → sp (gV [.ref a] zs) (upd (upd (upd H1 q (.dK ((ks.map (Sum.inr : Str → Key)).zip zs))) dx (.own a)) a (.ins C dx [])) (fun v H3 => v = .non ∧ Q (.ref a) H3) (E σ)) :
    WE X (.Call (.Name x p) [] [⟨none, e, kpos⟩] pos) σ H Q := by
  obtain ⟨f, fd, ps, g, hm, M, F, hb⟩ := f
  intro pins s I
  refine wpAny_Call_Name_kw (ld_glob I gn.gl hm ?_ gn.d1)
  refine callWith_starred (P := fun h => X.K.In h) rfl (PySem.W.keeps_K M.kp) ?_
  have hn := I.hok.fresh (Nat.le_refl s.heap.objs.size)
  have I1 := I.laid (a := s.heap.objs.size) (o := .dK []) (h' := s.heap.push { cls := .type "dict", data := .dict #[] }) (t' := s.toks) (fun _ _ q => Heap.get?_push_of_some _ q) (Nat.le_refl _) (dk_empty s.heap I.big)
  refine wpAny_evalArgsD (wpAny_bind (wpAny_mono (h _ hn _ _ I1) (fun v s2 z => ?_) fun _ _ e => e))
  obtain ⟨v', H1, I2, rv, o, zs, rfl, hq, ho, ne, lz, l0, q⟩ := z
  cases rv
  refine wpAny_bind (wpAny_standAt ?_)
  refine wpAny_pure ?_
  refine Exists.intro o (And.intro rfl (Exists.intro (fun s3 => Inv X pins σ (upd H1 s.heap.objs.size (.dK ((ks.map (Sum.inr : Str → Key)).zip zs))) s3) (And.intro (fun s3 I3 => ?_) (fun E' Q' q' => ?_))))
  · obtain ⟨_, _, vs, r, dd⟩ := dk_of I3.hok upd_same
    obtain ⟨us, rfl, ru⟩ := kv_strs lz r
    refine ⟨_, dd, I3.kIn, ?_⟩
    exact kmake_at (us := []) (vs := []) M F (B.room.mono hj) hb (B.at σ) I3 .nil ru rfl lz q
  · have nk : ((ks.map (Sum.inr : Str → Key)).zip zs).map (·.1) = ks.map (Sum.inr : Str → Key) := List.map_fst_zip (by rw [List.length_map, lz]; exact Nat.le_refl _)
    have n1 : (ks.map (Sum.inr : Str → Key)).Nodup := List.Pairwise.map _ (fun a b h e => h (Sum.inr.inj e)) nd
    refine d_merge I2 hq ho ne (fun _ => ?_) ?_ fun s' I3 => q' s' ?_
    · rw [List.nil_append, nk]; exact n1
    · rw [List.length_zip, List.length_map, lz, sizeLine_eq, List.length_nil]; omega
    · rw [mergeK_zip n1 (by rw [List.length_map, lz])] at I3
      exact I3
end
end Rs

namespace Rs
open PySem PySem.Spec PyProof.Rows L2 He
/-! ### {**a, **b} and {**a, k: v} -/
section
variable {prog : Program} {w : World} {A : Around} {s : Shared} {E : Value → Shared → Prop}
/-- m is merged into d, whatever follows -/
def Merges (prog : Program) (w : World) (A : Around) (d : Addr) (v : Value) (R : Shared → Prop) (s : Shared) : Prop :=
  ∀ (E' : Value → Shared → Prop) (Q' : Unit → Shared → Prop), (∀ s2, R s2 → Q' () s2) → wpAny (model prog w) A (mergeMapping d v false) Q' E' s
theorem wpAny_dispMM {va vb : Sem Value} {Q : Value → Shared → Prop}
    (h : wpAny (model prog w) A va (fun v s1 => Merges prog w A s.heap.objs.size v (fun s2 => wpAny (model prog w) A vb (fun v2 s3 => Merges prog w A s.heap.objs.size v2 (fun s4 => Q (.ref s.heap.objs.size) s4) s3) E s2) s1) E { s with heap := s.heap.push { cls := .type "dict", data := .dict #[] } }) :
    wpAny (model prog w) A (dictDisplay [(none, va), (none, vb)]) Q E s := by
  unfold dictDisplay
  try dsimp only
  rw [List.forIn_cons]
  refine wpAny_bind (wpAny_bind ?_)
  try dsimp only
  rw [if_pos (show ([] : List (Sem Value × Sem Value)).isEmpty = true from rfl)]
  refine wpAny_bind (wpAny_pure ?_)
  try dsimp only
  refine wpAny_bind (wpAny_alloc ?_)
  refine wpAny_bind (wpAny_holding (wpAny_mono h (fun v s1 z => ?_) fun _ _ e => e))
  refine wpAny_bind (wpAny_onRaise (wpAny_tryCatch (wpAny_onRaise (wpAny_holding (z _ _ fun s2 z => ?_)))))
  refine wpAny_pure ?_
  try dsimp only
  rw [List.forIn_cons]
  refine wpAny_bind ?_
  try dsimp only
  rw [if_pos (show ([] : List (Sem Value × Sem Value)).isEmpty = true from rfl)]
  refine wpAny_bind (wpAny_pure ?_)
  try dsimp only
  refine wpAny_bind (wpAny_pure ?_)
  refine wpAny_bind (wpAny_holding (wpAny_mono z (fun v s3 z => ?_) fun _ _ e => e))
  refine wpAny_bind (wpAny_onRaise (wpAny_tryCatch (wpAny_onRaise (wpAny_holding (z _ _ fun s4 z => ?_)))))
  refine wpAny_pure ?_
  try dsimp only
  rw [List.forIn_nil]
  refine wpAny_pure ?_
  rw [if_pos (show ([] : List (Sem Value × Sem Value)).isEmpty = true from rfl)]
  exact wpAny_bind (wpAny_pure (wpAny_pure z))
theorem wpAny_dispMK {va k vb : Sem Value} {Q : Value → Shared → Prop}
    (h : wpAny (model prog w) A va (fun v s1 => Merges prog w A s.heap.objs.size v (fun s2 => wpAny (model prog w) A (subDict [(k, vb)]) (fun d2 s3 => Merges prog w A s.heap.objs.size (.ref d2) (fun s4 => Q (.ref s.heap.objs.size) s4) s3) E s2) s1) E { s with heap := s.heap.push { cls := .type "dict", data := .dict #[] } }) :
    wpAny (model prog w) A (dictDisplay [(none, va), (some k, vb)]) Q E s := by
  unfold dictDisplay
  try dsimp only
  rw [List.forIn_cons]
  refine wpAny_bind (wpAny_bind ?_)
  try dsimp only
  rw [if_pos (show ([] : List (Sem Value × Sem Value)).isEmpty = true from rfl)]
  refine wpAny_bind (wpAny_pure ?_)
  try dsimp only
  refine wpAny_bind (wpAny_alloc ?_)
  refine wpAny_bind (wpAny_holding (wpAny_mono h (fun v s1 z => ?_) fun _ _ e => e))
  refine wpAny_bind (wpAny_onRaise (wpAny_tryCatch (wpAny_onRaise (wpAny_holding (z _ _ fun s2 z => ?_)))))
  refine wpAny_pure ?_
  try dsimp only
  rw [List.forIn_cons]
  refine wpAny_bind ?_
  try dsimp only
  rw [if_neg (by simp)]
  refine wpAny_pure ?_
  try dsimp only
  rw [List.forIn_nil]
  refine wpAny_pure ?_
  rw [if_neg (by simp)]
  try dsimp only
  refine wpAny_bind (wpAny_bind (wpAny_holding (wpAny_mono z (fun d s3 z => ?_) fun _ _ e => e)))
  refine wpAny_bind (wpAny_onRaise (wpAny_holding (z _ _ fun s4 z => ?_)))
  exact wpAny_pure (wpAny_pure z)
end
section
variable {X : Cx} {σ : L2.St} {H : Hp} {Q : VK} {e1 e2 ek : Expr} {pos : Pos}
theorem merges_inv {pins : List (Addr × Obj)} {s : Shared} {d o : Addr} {kvs more : List (Key × V)} (I : Inv X pins σ H s) (ed : H d = some (.dK kvs)) (eo : H o = some (.dK more)) (ne : d ≠ o) (hz : kvs.length + more.length ≤ sizeLine) {R : Shared → Prop}
    (h : ∀ s2, Inv X pins σ (upd H d (.dK (mergeK kvs more))) s2 → R s2) : Merges X.prog X.w X.A d (.ref o) R s :=
  fun E' Q' q => d_merge I ed eo ne (fun e => nomatch e) hz fun s' I' => q s' (h s' I')
/-- {**e1, **e2} -/
theorem we_dictMM (h : ∀ q, H q = none → WE X e1 σ (upd H q (.dK [])) fun v H1 => ∃ o m1, v = .ref o ∧ H1 q = some (.dK []) ∧ H1 o = some (.dK m1) ∧ q ≠ o ∧ m1.length ≤ 1000 ∧
      WE X e2 σ (upd H1 q (.dK (mergeK [] m1))) fun v2 H2 => ∃ o2 m2, v2 = .ref o2 ∧ H2 q = some (.dK (mergeK [] m1)) ∧ H2 o2 = some (.dK m2) ∧ q ≠ o2 ∧ m2.length ≤ 1000 ∧ Q (.ref q) (upd H2 q (.dK (mergeK (mergeK [] m1) m2)))) :
    WE X (.Dict [none, none] [e1, e2] pos) σ H Q := by
  intro pins s I
  have hn := I.hok.fresh (Nat.le_refl s.heap.objs.size)
  have I1 := I.laid (a := s.heap.objs.size) (o := .dK []) (h' := s.heap.push { cls := .type "dict", data := .dict #[] }) (t' := s.toks) (fun _ _ q => Heap.get?_push_of_some _ q) (Nat.le_refl _) (dk_empty s.heap I.big)
  rw [arm_eval_Dict]
  refine wpAny_bind (wpAny_standAt ?_)
  refine wpAny_dispMM (wpAny_bind (wpAny_mono (h _ hn _ _ I1) (fun v s2 z => ?_) fun _ _ e => e))
  obtain ⟨v', H1, I2, rv, o, m1, rfl, hq, ho, ne, l1, q⟩ := z
  cases rv
  refine wpAny_bind (wpAny_standAt (wpAny_pure (merges_inv I2 hq ho ne (by rw [sizeLine_eq, List.length_nil]; omega) fun s3 I3 => ?_)))
  refine wpAny_bind (wpAny_mono (q _ _ I3) (fun v s2 z => ?_) fun _ _ e => e)
  obtain ⟨v', H2, I4, rv, o2, m2, rfl, hq2, ho2, ne2, l2, q⟩ := z
  cases rv
  have hm := length_mergeK m1 []
  rw [List.length_nil] at hm
  exact wpAny_bind (wpAny_standAt (wpAny_pure (merges_inv I4 hq2 ho2 ne2 (by rw [sizeLine_eq]; omega) fun s5 I5 => ⟨.ref _, _, I5, rfl, q⟩)))
/-- {**e1, ek: e2} -/
theorem we_dictMK (h : ∀ q, H q = none → WE X e1 σ (upd H q (.dK [])) fun v H1 => ∃ o m1, v = .ref o ∧ H1 q = some (.dK []) ∧ H1 o = some (.dK m1) ∧ q ≠ o ∧ m1.length ≤ 1000 ∧
      ∀ p, p ≠ q → upd H1 q (.dK (mergeK [] m1)) p = none → WE X ek σ (upd (upd H1 q (.dK (mergeK [] m1))) p (.dK [])) fun y H2 => WE X e2 σ H2 fun v H3 => ∃ x, y = .str x ∧ H3 p = some (.dK []) ∧ H3 q = some (.dK (mergeK [] m1)) ∧
        Q (.ref q) (upd (upd H3 p (.dK [(.inr x, v)])) q (.dK (putK (mergeK [] m1) (.inr x) v)))) :
    WE X (.Dict [none, some ek] [e1, e2] pos) σ H Q := by
  intro pins s I
  have hn := I.hok.fresh (Nat.le_refl s.heap.objs.size)
  have I1 := I.laid (a := s.heap.objs.size) (o := .dK []) (h' := s.heap.push { cls := .type "dict", data := .dict #[] }) (t' := s.toks) (fun _ _ q => Heap.get?_push_of_some _ q) (Nat.le_refl _) (dk_empty s.heap I.big)
  rw [arm_eval_Dict]
  refine wpAny_bind (wpAny_standAt ?_)
  refine wpAny_dispMK (wpAny_bind (wpAny_mono (h _ hn _ _ I1) (fun v s2 z => ?_) fun _ _ e => e))
  obtain ⟨v', H1, I2, rv, o, m1, rfl, hq, ho, ne, l1, q⟩ := z
  cases rv
  refine wpAny_bind (wpAny_standAt (wpAny_pure (merges_inv I2 hq ho ne (by rw [sizeLine_eq, List.length_nil]; omega) fun s3 I3 => ?_)))
  have hn3 := I3.hok.fresh (Nat.le_refl s3.heap.objs.size)
  have np : s3.heap.objs.size ≠ s.heap.objs.size := fun e => by rw [e, upd_same] at hn3; cases hn3
  have I4 := I3.laid (a := s3.heap.objs.size) (o := .dK []) (h' := s3.heap.push { cls := .type "dict", data := .dict #[] }) (t' := s3.toks) (fun _ _ q => Heap.get?_push_of_some _ q) (Nat.le_refl _) (dk_empty s3.heap I3.big)
  obtain ⟨trs, pp, pq⟩ := pps_wp (X := X) (σ := σ) pos [some ek] [e2] rfl rfl
  have hw : WP X [some ek] [e2] σ (upd (upd H1 s.heap.objs.size (.dK (mergeK [] m1))) s3.heap.objs.size (.dK [])) (fun ps H3 => ∃ x v, ps = [(V.str x, v)] ∧ H3 s3.heap.objs.size = some (.dK []) ∧ H3 s.heap.objs.size = some (.dK (mergeK [] m1)) ∧
        Q (.ref s.heap.objs.size) (upd (upd H3 s3.heap.objs.size (.dK [(.inr x, v)])) s.heap.objs.size (.dK (putK (mergeK [] m1) (.inr x) v)))) :=
    wp_cons (we_mono (q _ np hn3) fun y H2 z => we_mono z fun v H3 z2 => wp_nil (by
      obtain ⟨x, e, z3⟩ := z2
      exact ⟨x, v, by rw [e], z3⟩))
  refine wpAny_subDict (knd := mixKind X.prog X.w) (show 1 ≤ 15 by decide) (wpAny_mono (pp.run _ _ _ _ _ I4 (pq _ _ hw)) (fun vs s5 z => ?_) fun _ _ e => e)
  obtain ⟨ps, H3, I5, rel, x, v, rfl, hp, hq3, qq⟩ := z
  obtain ⟨rs, c, rk⟩ := carries_of (P := X.prog) (w := X.w) (kvs := [((.inr x : Key), v)]) rel
  obtain ⟨z, hd, vs0, r0, dd⟩ := dk_of I5.hok hp
  cases r0
  refine ⟨rs, c, dd, fun h' dd' hs => ?_⟩
  have he : ∃ q, h'.get? s3.heap.objs.size = some q := let ⟨q, _, _, hq, _⟩ := dd'; ⟨q, hq⟩
  have I6 := d_write (t' := s5.toks + vs.length) I5 (by rw [hp]; exact True.intro) hs he (dk_new (kvs := [((.inr x : Key), v)]) (by rw [sizeLine_eq]; show 1 ≤ _; omega) hd (rk.merge .nil) dd')
  have hm := length_mergeK m1 []
  rw [List.length_nil] at hm
  exact merges_inv I6 ((upd_ne np.symm).trans hq3) upd_same np.symm (by rw [sizeLine_eq, List.length_singleton]; omega) fun s7 I7 => ⟨.ref _, _, I7, rfl, qq⟩
end
end Rs

namespace Rs
open PySem PySem.Spec PyProof.Rows L2 He
/-! ### a def with **kw, called with keywords -/
theorem upd_two {H : Hp} {a : Addr} {o o' : HO} : upd (upd H a o) a o' = upd H a o' := by
  funext b
  by_cases e : b = a
  · subst e; rw [upd_same, upd_same]
  · rw [upd_ne e, upd_ne e, upd_ne e]

section
variable {prog : Program} {w : World} {A : Around} {s : Shared} {E : Value → Shared → Prop}
theorem wpAny_nsSet_pairs {d : Addr} {kvs : List (Key × Value)} {n : Str} {v : Value} {Q : Unit → Shared → Prop} (hm : s.heap.DictOf (mixKind prog w) d kvs)
    (h : ∀ h', h'.DictOf (mixKind prog w) d (stored kvs (.inr n) v) → Heap.SameBut d s.heap h' → Q () { s with heap := h', toks := s.toks + 1 }) :
    wpAny (model prog w) A (nsSet d n v) Q E s := by
  obtain ⟨o, es, ep, ho, hc, hd, hk, hp, hn⟩ := hm
  have hidx : (es.findIdx? (·.key.isStr n)) = kvs.findIdx? fun kv => decide (kv.1 = .inr n) := by
    rw [← hp.findIdx (.inr n)]
    obtain ⟨l⟩ := es
    simp only [List.findIdx?_toArray]
    congr 1
    funext e
    cases q : e.key <;> simp [Value.isStr, mixKind, keyIs, Value.isStrOf]
  have e2 : es.any (·.refKey) = false := by
    rw [Array.any_eq_false']
    intro e he
    obtain ⟨k, hkey, _⟩ := hk e he
    rcases keyIs_shape (k := k) (v := e.key) hkey with ⟨i, t, _, q⟩ | ⟨x, t, _, q⟩ <;> simp [DictEntry.refKey, q]
  have c : aRefKeyMayBeTheName n es = false := by
    rw [aRefKeyMayBeTheName_at, e2, Bool.and_false]
  unfold nsSet
  refine wpAny_bind (wpAny_bind (wpAny_askSetting (wpAny_pure (wpAny_bind (wpAny_mkText (wpAny_bind (wpAny_loadPart ho ?_)))))))
  rw [hd]
  dsimp only
  rw [c]
  refine wpAny_updatePart ho (h _ ?_ (Heap.SameBut.update ..))
  obtain ⟨oc, od, odt, osl⟩ := o
  subst hd
  have hkey : (mixKind prog w).is (.inr n) (.str n s.toks) = true := keyIs_str n s.toks
  cases hi : es.findIdx? (·.key.isStr n) with
  | some i =>
    have e : ∀ hh, Obj.putName n hh (.str n s.toks) v ⟨oc, od, .dict es ep, osl⟩ = (⟨oc, od, .dict es ep, osl⟩ : Obj).mapDict (·.modify i fun e => { e with val := v }) := by
      intro hh; simp only [Obj.putName_eq, Obj.putNameByArray, hi]; rfl
    refine ⟨_, _, ep, Heap.get?_update_self _ ho (by first | (rw [e]; exact Obj.isFreed_of_dict (Obj.data_mapDict rfl _))), ?_, ?_, hk.modify i v, ?_, ?_⟩
    · rw [e]; exact hc.mapDict _
    · rw [e]; exact Obj.data_mapDict rfl _
    · rw [stored, if_pos (any_of_findIdx_some (hidx ▸ hi))]
      have hl : (es.toList.findIdx? fun e => (mixKind prog w).is (.inr n) e.key) = some i := by
        rw [hp.findIdx (.inr n), ← hidx]; exact hi
      have := hp.modify hn hl v
      obtain ⟨l⟩ := es
      simpa using this
    · rw [stored, if_pos (any_of_findIdx_some (hidx ▸ hi)), keys_map_store]; exact hn
  | none =>
    have hnot : (Sum.inr n : Key) ∉ kvs.map (·.1) := not_mem_of_findIdx_none (hidx ▸ hi)
    have hany : ¬ (kvs.any fun kv => decide (kv.1 = .inr n)) = true := by
      rw [List.any_eq_true]; rintro ⟨kv, hkv, he⟩
      exact hnot (List.mem_map.mpr ⟨kv, hkv, of_decide_eq_true he⟩)
    have e : ∀ hh, Obj.putName n hh (.str n s.toks) v ⟨oc, od, .dict es ep, osl⟩ = (⟨oc, od, .dict es ep, osl⟩ : Obj).mapDictKeys (·.push ⟨hh, .str n s.toks, v⟩) := by
      intro hh; simp only [Obj.putName_eq, Obj.putNameByArray, hi]; rfl
    refine ⟨_, _, ep + 1, Heap.get?_update_self _ ho (by first | (rw [e]; exact Obj.isFreed_of_dict (Obj.data_mapDictKeys rfl _))), ?_, ?_, hk.push hkey v, ?_, ?_⟩
    · rw [e]; exact hc.mapDictKeys _
    · rw [e]; exact Obj.data_mapDictKeys rfl _
    · rw [stored, if_neg hany]
      have := hp.append hkey ((mixKind prog w).hash (.inr n)) v
      obtain ⟨l⟩ := es
      simpa using this
    · rw [stored, if_neg hany, List.map_append, List.nodup_append]
      refine ⟨hn, by simp, ?_⟩
      intro a ha b hb
      simp only [List.map_cons, List.map_nil, List.mem_singleton] at hb
      subst hb
      exact fun e => hnot (e ▸ ha)
end
section
variable {X : Cx} {σ : L2.St}
theorem ns_fill {pins : List (Addr × Obj)} {A' : Around} {Ex : Value → Shared → Prop} {Q : PUnit → Shared → Prop} {p : Addr} : ∀ (ks : List Str) (zs : List V) (ws : List Value) (kvs : List (Key × V)) (s : Shared) (H : Hp), Inv X pins σ H s → H p = some (.dK kvs) → Vals zs ws → zs.length = ks.length → kvs.length + ks.length ≤ 1000 →
    (∀ s', Inv X pins σ (upd H p (.dK (mergeK kvs ((ks.map (Sum.inr : Str → Key)).zip zs)))) s' → Heap.SameBut p s.heap s'.heap → s'.os = s.os → (∃ q, s'.heap.get? p = some q) → Q ⟨⟩ s') →
    wpAny (model X.prog X.w) A' (forIn (ks.zip ws) PUnit.unit fun x _ => (nsSet p x.1 x.2 >>= fun _ => pure (ForInStep.yield PUnit.unit))) Q Ex s
  | [], [], _, kvs, s, H, I, hp, r, _, _, h => by
    cases r
    show wpAny _ _ (forIn [] _ _) _ _ _
    rw [List.forIn_nil]
    obtain ⟨_, _, vs, _, dd⟩ := dk_of I.hok hp
    refine wpAny_pure (h s ?_ (Heap.SameBut.refl _ _) rfl (let ⟨o, _, _, q, _⟩ := dd; ⟨o, q⟩))
    show Inv X pins σ (upd H p (.dK kvs)) s
    rw [upd_self hp]
    exact I
  | [], _ :: _, _, _, _, _, _, _, _, l, _, _ => nomatch l
  | _ :: _, [], _, _, _, _, _, _, _, l, _, _ => nomatch l
  | k :: ks, z :: zs, _, kvs, s, H, I, hp, r, l, hz, h => by
    cases r with
    | @cons _ u _ us r0 r1 =>
      show wpAny _ _ (forIn ((k, u) :: ks.zip us) _ _) _ _ _
      rw [List.forIn_cons]
      obtain ⟨_, hd, vs, rv, dd⟩ := dk_of I.hok hp
      refine wpAny_bind (wpAny_bind (wpAny_nsSet_pairs dd fun h' dd' hs => wpAny_pure ?_))
      have hl : (putK kvs (.inr k) z).length ≤ kvs.length + 1 := length_putK kvs _ z
      have I2 : Inv X pins σ (upd H p (.dK (putK kvs (.inr k) z))) { s with heap := h', toks := s.toks + 1 } :=
        d_write I (by rw [hp]; exact True.intro) hs (let ⟨q, _, _, hq, _⟩ := dd'; ⟨q, hq⟩) (dk_new (by rw [sizeLine_eq]; rw [List.length_cons] at hz; omega) hd (rv.put (.inr k) r0) dd')
      refine ns_fill ks zs us _ _ _ I2 upd_same r1 (Nat.succ.inj l) (by rw [List.length_cons] at hz; omega) fun s' I3 hs3 ho hq => h s' ?_ (hs.trans hs3) ho hq
      rw [upd_two] at I3
      exact I3
end
/-- a def called with the keywords ks, which go into its last parameter -/
def FnW (P : Program) (w : World) (K : PySem.W.Frag) (mg : Str → Option Value) (base : Heap) (k n : Nat) (f : Addr) (ks : List Str) (sp : Sp) : Prop :=
  ∀ (X : Cx) (pins : List (Addr × Obj)) (σ : L2.St) (H : Hp) (s : Shared) (us : List Value) (vs : List V) (ws : List Value) (zs : List V) (Q : VK) (E : XK), X.prog = P → X.w = w → X.K = K → X.mg = mg → X.base = base → Room k X.A → PassesAt (RX X.prog X.w) X σ E →
    Inv X pins σ H s → Vals vs us → vs.length = n → Vals zs ws → zs.length = ks.length → (∀ p, H p = none → sp (vs ++ [.ref p]) (upd H p (.dK ((ks.map (Sum.inr : Str → Key)).zip zs))) Q E) →
    wpAny (model X.prog X.w) X.A (call (.ref f) us (ks.zip ws)) (EP X pins σ Q) X.xe s
section
variable {P : Program} {w : World} {K : PySem.W.Frag} {mg : Str → Option Value} {base : Heap} {N ps : List Str} {pd name qual : Str} {pa : Arguments} {body : List Stmt} {sc : Scope} {f : Addr} {fd : FuncData} {k : Nat} {sp : Sp} {ks : List Str}
theorem def_kwP (F : FunD K name qual pa body sc [] [] f fd) (S : FnScope N (ps ++ [pd]) sc) (nd : ks.Nodup) (hz : ks.length ≤ 1000)
    (h : ∀ (kV doc pm : Value) (an : Option Addr) (cdv ct : Value) (us ws : List Value), us.length = ps.length → ws.length = ks.length →
      bindArgs (PySem.W.fnOf name qual pa body sc .none kV doc pm an cdv ct) ⟨us, ks.zip ws⟩ = ((alloc ({ cls := .type "dict", data := .dict #[] } : Obj) : Sem Addr) >>= fun d =>
        forIn (ks.zip ws) PUnit.unit (fun x _ => (nsSet d x.1 x.2 >>= fun _ => pure (ForInStep.yield PUnit.unit))) >>= fun _ => pure (ps.zip us ++ [(pd, Value.ref d)])))
    (hb : ∀ (X : Cx), X.prog = P → X.w = w → X.K = K → X.mg = mg → X.base = base → X.N = N → X.env.scope = sc → (∀ x, X.fn x = true) → N.Nodup → ∀ (H : Hp) (vs : List V) (Q : VK) (E : XK), Body X k (fun _ => E) → sp vs H Q E → WB X body { nx := fun _ H' => Q .non H', rt := Q } (start N vs) H) :
    FnW P w K mg base (k + 1) ps.length f ks sp := by
  intro X pins σ H s us vs ws zs Q E eP ew eK em eb hr hx I r ln rz lz hq
  subst eP ew eK em eb
  obtain ⟨oc, od, dV, kV, doc, pm, an, cdv, ct, osl, rfl, lk, hcd, hD, hK⟩ := F.ex
  rcases hD with ⟨_, rfl⟩ | ⟨e, _⟩
  case inr => exact absurd rfl e
  have hn : H s.heap.objs.size = Option.none := I.hok.fresh (Nat.le_refl _)
  have n1 : (ks.map (Sum.inr : Str → Key)).Nodup := List.Pairwise.map _ (fun a b h e => h (Sum.inr.inj e)) nd
  refine wpAny_call (codeAny_mono (StX.run_bnd (N := N) (ps := ps ++ [pd]) (k := k) (CX := RX X.prog X.w) (args := ⟨us, ks.zip ws⟩) (Q := Q) (E := E) (G := fun xs H2 => ∃ p, H p = Option.none ∧ xs = vs ++ [V.ref p] ∧ H2 = upd H p (.dK ((ks.map (Sum.inr : Str → Key)).zip zs))) lk hcd S hr I.env0 (fun A' Ex Q' hk => ?_) fun s2 H2 xs g hr' => ?_) (out_at hx I))
  · rw [h _ _ _ _ _ _ us ws (r.length.symm.trans ln) (rz.length.symm.trans lz)]
    refine wpAny_bind (wpAny_alloc ?_)
    have I1 := I.laid (a := s.heap.objs.size) (o := .dK []) (h' := s.heap.push { cls := .type "dict", data := .dict #[] }) (t' := s.toks) (fun _ _ q => Heap.get?_push_of_some _ q) (Nat.le_refl _) (dk_empty s.heap I.big)
    refine wpAny_bind (ns_fill ks zs ws [] _ _ I1 upd_same rz lz (by rw [List.length_nil]; omega) fun s2 I2 hs ho he => wpAny_pure ?_)
    rw [upd_two, mergeK_zip n1 (by rw [List.length_map, lz])] at I2
    have kp : ∀ b o, s.heap.get? b = some o → s2.heap.get? b = some o := fun b o q => (hs.2 b (Nat.ne_of_lt (Heap.lt_size q))).trans (Heap.get?_push_of_some _ q)
    have un : Un (frs X.stack) [] H (upd H s.heap.objs.size (.dK ((ks.map (Sum.inr : Str → Key)).zip zs))) s.heap s2.heap := Un.laid kp (Nat.le_refl _) hn
    have z := hk s2 _ (vs ++ [V.ref s.heap.objs.size]) (us ++ [Value.ref s.heap.objs.size]) I2.env0 un ho (fun e s' => cxUpN X.stack s H s2 _ E e s' un kp ho) (r.append (.cons rfl .nil)) (by rw [List.length_append, List.length_append, ln]; rfl) ⟨_, hn, rfl, rfl⟩
    rw [List.zip_append (ln.symm.trans r.length)] at z
    exact z
  · obtain ⟨p, hp, rfl, rfl⟩ := g
    exact ⟨_, pbS, hb (bx X.prog X.w X.K X.mg X.base N qual sc f cdv X.A X.stack s2 _ E) rfl rfl rfl rfl rfl rfl rfl (fun _ => rfl) S.nd _ _ Q E (body_of hr') (hq p hp)⟩
end
/-- a method called with keywords alone -/
def GMw (P : Program) (w : World) (K : PySem.W.Frag) (mg : Str → Option Value) (base : Heap) (k : Nat) (C : Addr) (m : Str) (ks : List Str) (sp : Sp) : Prop :=
  ∃ f, Meth K C m f ∧ FnW P w K mg base k 1 f ks sp
section
variable {X : Cx} {σ : L2.St} {H : Hp} {Q : VK} {k j : Nat} {E : L2.St → XK} {m : Str} {sp : Sp} {pos apos : Pos} {o : Expr} {C : Addr} {ks : List Str} {kws : List Keyword}
theorem we_methKW {pl : Sem Bool} (B : Body X k E) (c : Cls X.K C) (f : GMw X.prog X.w X.K X.mg X.base j C m ks sp) (hj : j ≤ k)
    (h : WE X o σ H fun y H1 => ∃ a dx fs, y = .ref a ∧ H1 a = some (.ins C dx fs) ∧ fs.lookup m = none ∧ WK X kws σ H1 fun zs H2 => zs.length = ks.length ∧ ∀ p, H2 p = none → sp [.ref a, .ref p] (upd H2 p (.dK ((ks.map (Sum.inr : Str → Key)).zip zs))) Q (E σ))
    (hall : (backToKw pos (keywordEach kws X.env)).all (·.1.isSome) = true := by rfl) (hks : (backToKw pos (keywordEach kws X.env)).filterMap (·.1) = ks := by rfl)
    (hpl : ((backTo pos (starEach [] X.env)).any (·.1) || (backToKw pos (keywordEach kws X.env)).any (·.1.isNone)) = false := by rfl)
    (ht : eval (.Call (.Attribute o m apos) [] kws pos) X.env = (do
      let it ← eval o X.env
      standAt apos.atName
      let (g, first) ← holding [it] (getMethod it m pl)
      callWith pos g first (backTo pos (starEach [] X.env)) (backToKw pos (keywordEach kws X.env))) := by rfl) : WE X (.Call (.Attribute o m apos) [] kws pos) σ H Q := by
  obtain ⟨g, hm, F⟩ := f
  intro pins s I
  refine PySem.W.methodCall_KW (pl := pl) (thn (h pins s I) fun u s1 z => ?_) ht
  obtain ⟨y, H1, I1, ry, a, dx, fs, rfl, e1, l, q⟩ := z
  cases ry
  refine getmeth_ok I1 e1 c hm l ?_
  refine PySem.W.callWith_KW0 (first := [.ref a]) (h₀ := X.base) I1.ok.mod.kin hm.kp hall ?_ hpl
  refine thn (q pos pins s1 I1) fun ws s2 z => ?_
  obtain ⟨zs, H2, I2, rz, lz, q2⟩ := z
  refine ⟨I2.kIn, ?_⟩
  rw [hks]
  exact F X pins σ H2 s2 [.ref a] [.ref a] ws zs Q (E σ) rfl rfl rfl rfl rfl (B.room.mono hj) (B.at σ) I2 (.cons rfl .nil) rfl rz lz q2
end
end Rs

namespace Rs
open PySem PySem.Spec PyProof.Rows L2 He
/-! ### o.f = v by a property's setter -/
structure PropSet (K : PySem.W.Frag) (C : Addr) (f : Str) (p g : Addr) : Prop where
  tk : PySem.W.takerIn K C f = some (some (.ref p))
  ty : PySem.W.typeIn K (.ref p) = some (.type "property")
  rc : ∃ a rest, PySem.W.recIn K p "property" = some (a :: .ref g :: rest)
def psA (K : PySem.W.Frag) (C : Addr) (m : Str) : Addr := match PySem.W.recIn K (ma K C m) "property" with
  | some (_ :: .ref g :: _) => g
  | _ => 0
def propSetB (K : PySem.W.Frag) (C : Addr) (m : Str) : Bool := decide (PySem.W.takerIn K C m = some (some (.ref (ma K C m)))) && (decide (PySem.W.typeIn K (.ref (ma K C m)) = some (.type "property")) &&
  (match PySem.W.recIn K (ma K C m) "property" with
    | some (_ :: .ref g :: _) => decide (g = psA K C m)
    | _ => false))
theorem propSet_ok {K : PySem.W.Frag} {C : Addr} {m : Str} (h : propSetB K C m = true) : PropSet K C m (ma K C m) (psA K C m) := by
  obtain ⟨h1, h⟩ := ba h
  obtain ⟨h2, h⟩ := ba h
  refine ⟨of_decide_eq_true h1, of_decide_eq_true h2, ?_⟩
  split at h
  · rename_i a g r q
    rw [← of_decide_eq_true h]
    exact ⟨a, r, q⟩
  · cases h
section
variable {X : Cx} {σ : L2.St} {H : Hp} {D : Ends} {k j : Nat} {E : L2.St → XK} {f : Str} {C p g : Addr} {sp : Sp} {value o : Expr} {pos pos' : Pos}
theorem ws_setp (B : Body X k E) (c : Cls X.K C) (hp : PropSet X.K C f p g) (F : FnR X.prog X.w X.K X.mg X.base (RX X.prog X.w) j g sp) (hj : j + 2 ≤ k)
    (h : WE X value σ H fun y H1 => WE X o σ H1 fun z H2 => ∃ a dx fs, z = .ref a ∧ H2 a = some (.ins C dx fs) ∧ sp [.ref a, y] H2 (fun _ H3 => D.nx σ H3) (E σ))
    (hs : swapsWith value (some (.Attribute o f pos')) pos.line X.env = pure false := by rfl) : WS X (.Assign [.Attribute o f pos'] value pos) D σ H := by
  intro pins s I
  refine plainObj_wpAny_Assign_Attribute (thn (h pins s I) fun u s1 z => ?_) hs
  obtain ⟨y, H1, I1, ry, z⟩ := z
  refine thn (z pins s1 I1) fun ov s2 z => ?_
  obtain ⟨x, H2, I2, rx, a, dx, fs, rfl, ea, q⟩ := z
  cases rx
  obtain ⟨mA, O, _, _, _, _⟩ := ins_get I2.hok ea
  obtain ⟨od, J, _⟩ := O.look
  obtain ⟨a1, rest, hrec⟩ := hp.rc
  have I3 := I2.tok (s2.toks + 1)
  refine PySem.W.set_plain I2.kIn J c.sa (PySem.W.osa_descr (s := { s2 with toks := s2.toks + 1 }) PySem.W.KF.slot_pset I3.kIn J c.po hp.tk hp.ty (PySem.W.prop_set (s := { s2 with toks := s2.toks + 1 }) I3.kIn hrec ?_))
  have hr := B.room.mono hj
  refine codeAny_mono (F X.A.in1.in1 X.stack { s2 with toks := s2.toks + 1 } H2 [.ref a, u] [.ref a, y] (fun _ H3 => D.nx σ H3) (E σ) ?hr ?he (.cons rfl (.cons ry .nil)) q) fun r s' hq => ?_
  case hr => exact hr.in1.in1
  case he => exact I3.env0.in1.in1
  have z := out_at (B.at σ) I3 r s' hq
  cases r with
  | error e => exact z
  | ok fl =>
    cases fl with
    | ret v =>
      obtain ⟨v', H3, I4, rv, q3⟩ := z
      exact ⟨σ, H3, I4, q3⟩
    | next => exact z.elim
    | brk => exact z.elim
    | cont => exact z.elim
end
/-! ### for x in d, d a dict that is not touched; all([..]) -/
section
variable {X : Cx} {σ : L2.St} {H : Hp} {D : Ends} {k : Nat} {E : L2.St → XK} {x : Str} {px pos p : Pos} {a : Expr} {i : Nat} {body : List Stmt} {Q : VK}
theorem for_keys {d : Addr} {o : Obj} {kvs : List (Key × V)} {g : TG} {tb : TS} (Pv : Nat → L2.St → Hp → Prop) (h0 : Pv 0 σ H) (hl : ∀ i σ H, i ≤ kvs.length → Pv i σ H → H d = some (.frz o (.dK kvs)))
    (hs : ∀ i k v σ H, kvs[i]? = some (k, v) → Pv i σ H → g (kV k) σ H fun σ2 H2 => tb { D with nx := Pv (i + 1), ct := Pv (i + 1), bk := D.nx } σ2 H2) (hd : ∀ σ H, Pv kvs.length σ H → D.nx σ H) :
    ∃ W : Nat → Nat → L2.St → Hp → Prop, (∃ m, W 0 m σ H) ∧ ∀ i m σ H, W i m σ H →
      ((Itk d o kvs).stop i H ∧ D.nx σ H) ∨ ((Itk d o kvs).go i H ∧ ∃ N : L2.St → Hp → Prop, (∀ σ' H', N σ' H' → ∃ m', m' < m ∧ W (i + 1) m' σ' H') ∧ ∀ x H', (Itk d o kvs).yld i H x H' → g x σ H' fun σ2 H2 => tb { D with nx := N, ct := N, bk := D.nx } σ2 H2) := by
  refine ⟨fun i m σ H => m = kvs.length - i ∧ i ≤ kvs.length ∧ Pv i σ H, ⟨kvs.length, by simp, Nat.zero_le _, h0⟩, ?_⟩
  rintro i m σ H ⟨rfl, hi, q⟩
  have hd0 := hl i σ H hi q
  by_cases hlt : i < kvs.length
  · refine .inr ⟨⟨hd0, hlt⟩, Pv (i + 1), fun σ' H' p' => ⟨kvs.length - (i + 1), by omega, rfl, hlt, p'⟩, fun x H' y => ?_⟩
    obtain ⟨rfl, k, v, hk, rfl⟩ := y
    exact hs i k v σ _ hk q
  · have e : i = kvs.length := by omega
    subst e
    exact .inl ⟨⟨hd0, Nat.le_refl _⟩, hd σ H q⟩
theorem ws_for_dict (B : Body X k E) (s : Sl X i x) (h : ∃ d kvs, H d = some (.dK kvs) ∧ ∀ od, WE X a σ (upd H d (.frz od (.dK kvs))) fun v H1 => v = .ref d ∧ ∃ P : Nat → L2.St → Hp → Prop, P 0 σ H1 ∧ (∀ j σ H, j ≤ kvs.length → P j σ H → H d = some (.frz od (.dK kvs))) ∧
      (∀ j k v σ H, kvs[j]? = some (k, v) → P j σ H → WB X body { nx := P (j + 1), ct := P (j + 1), bk := fun σ' H' => H' d = some (.frz od (.dK kvs)) ∧ D.nx σ' (upd H' d (.dK kvs)), rt := fun v H' => H' d = some (.frz od (.dK kvs)) ∧ D.rt v (upd H' d (.dK kvs)) } (σ.set i (some (kV k))) H) ∧
      ∀ σ H, P kvs.length σ H → D.nx σ (upd H d (.dK kvs))) (hs : ∀ v, foldedSetIterable a X.env v = pure v := by intro _; rfl) : WS X (.For (.Name x px) a body [] pos) D σ H := by
  refine wsP (ps_lock (ps_for B.po B.calm (pi_keys peS) (pg_name s.nd s.at_ s.loc s.fn) pbS hs)) ?_
  obtain ⟨d, kvs, hd, h⟩ := h
  refine ⟨d, .dK kvs, hd, True.intro, fun od => we_mono (h od) fun v H1 q => ?_⟩
  obtain ⟨rfl, P, q0, hl, ht, hn⟩ := q
  exact ⟨d, od, rfl, .inl ⟨kvs, hl 0 σ H1 (Nat.zero_le _) q0, for_keys P q0 hl (fun j k v σ H hk q => ht j k v σ H hk q) fun σ H q => ⟨hl _ σ H (Nat.le_refl _) q, hn σ H q⟩⟩⟩
theorem we_all (B : Body X k E) (bn : Bn X "all") (h : WE X a σ H fun v H1 => ∃ l, ∃ bs : List Bool, v = .ref l ∧ SqL X.K H1 l (bs.map V.bl) ∧ Q (.bl (bs.all id)) H1) (hs : starEach [a] X.env = [(false, eval a X.env)] := by rfl) (hl : (backTo pos (starEach [] X.env)).any (·.1) = false := by rfl) :
    WE X (.Call (.Name "all" p) [a] [] pos) σ H Q := we_callB (cr_all B.calm) bn PyProof.Rows.boot_all (wa_one (we_mono h fun v H1 q => by
    obtain ⟨l, bs, rfl, h1, q⟩ := q
    exact ⟨l, bs, rfl, h1, q⟩) hs) (by decide) (by decide) hs hl
end
end Rs

namespace Rs
open PySem PySem.Spec PyProof.Rows L2 He
/-! ### None == x, x == v of another kind, x an instance with an own == -/
section
variable {X : Cx} {k j : Nat} {E : XK} {C f a dx : Addr} {fs : List (Str × V)} {H : Hp} {Q : VK} {v : V}
theorem no_sub {K : PySem.W.Frag} {C : Addr} {T : String} (h : ∃ cd, PySem.W.clsIn K C = some cd ∧ cd.mro = [.ref C, .type "object"]) (ht : (Value.type T == .type "object") = false) : PySem.W.subIn K (.ref C) (.type T) = some false := by
  obtain ⟨cd, h1, h2⟩ := h
  show (PySem.W.clsIn K C).bind (fun cd => if cd.mro.isEmpty then none else some (cd.mro.contains (.type T))) = some false
  rw [h1]
  show (if cd.mro.isEmpty then none else some (cd.mro.contains (.type T))) = some false
  rw [h2]
  show some (([.ref C, .type "object"] : List Value).contains (.type T)) = some false
  simp only [List.contains_cons, List.contains_nil, Bool.or_false]
  rw [ht]
  simp
theorem looks_of_ty {M : Model} {s : Shared} {u : Value} {T : String} (h : s.TypeIs u T) : PySem.W.Looks M s.heap (typeOf u) (.type T) := by
  intro A Q E s' kp q
  refine wpAny_typeOf (s := s') ?_ q
  cases u with
  | ref a =>
    obtain ⟨o, ho, hc⟩ := h
    exact ⟨o, kp _ _ ho, hc⟩
  | _ => exact h
/-- None == x, where x's own == declines -/
theorem eq_non {sp : SpN} (B : Body X k fun _ => E) (c : NeOwn X.K C f) (hs : PySem.W.subIn X.K (.ref C) (.type "NoneType") = some false) (F : FnN X.prog X.w X.K X.mg X.base (RX X.prog X.w) j f sp) (hj : j ≤ k) (ea : H a = some (.ins C dx fs)) (h : sp [.ref a, .non] H (fun H' => Q (.bl false) H') E) :
    Op2 X (compareOp .Eq) .non (.ref a) H Q := by
  intro pins s σ u u' I ru rv
  cases ru
  cases rv
  obtain ⟨od, J⟩ := inst_of I ea
  have G := Fgn.non.at (v := .non) I rfl ea c
  have r1 := run_ni (us := [.ref a, .none]) (vs := [.ref a, .non]) F (B.room.mono hj) I.env0 B.pass I (.cons rfl (.cons rfl .nil)) h
  show wpAny _ _ (richCompare .Eq .none (.ref a)) _ _ s
  simp only [richCompare, cmpInfo_Eq]
  refine wpAny_holding (wpAny_bind (wpAny_cRoomFor B.room.units0 ?_))
  have e1 : oneThing? .Eq .none (.ref a) = none := rfl
  rw [e1]
  refine wpAny_bind (looks_ty (show s.TypeIs .none "NoneType" from rfl) (wpAny_bind (J.type.here ?_)))
  have ne : (Value.type "NoneType" != Value.ref C) = true := by simp
  simp only [ne, if_true]
  refine wpAny_bind ((PySem.W.looks_subIn I.kIn hs).here ?_)
  simp only [Bool.false_eq_true, if_false, Bool.not_false, if_true]
  refine wpAny_bind (m := tryCompare .none _ (.ref a)) (wpAny_mono (G.eq _ _ _ _) (fun r s2 z => ?_) fun _ _ z => z)
  obtain ⟨rfl, rfl⟩ := z
  refine wpAny_bind (m := tryCompare (.ref a) _ .none) ?_
  unfold tryCompare
  refine wpAny_bind (PySem.W.ifBound_K I.kIn J c.eq c.fn (wpAny_mono r1 (fun v s1 z => ?_) fun _ _ z => z))
  obtain ⟨rfl, H1, I1, q⟩ := z
  refine wpAny_pure ?_
  refine wpAny_bind (wpAny_rule (wpAny_bind (wpAny_of_eq (rfl : isSame .none (.ref a) = pure false) (wpAny_pure ⟨.bl false, H1, I1, rfl, q⟩))))
/-- x == v, v of another kind, where x's own == answers -/
theorem cmp_tf {sp : Sp} (B : Body X k fun _ => E) (c : CmpOwn X.K C f .Eq) (cn : NeOwn X.K C f) (F : FnR X.prog X.w X.K X.mg X.base (RX X.prog X.w) j f sp) (hj : j ≤ k) (ea : H a = some (.ins C dx fs)) (g : Fgn H v) (h : sp [.ref a, v] H Q E) : Op2 X (compareOp .Eq) (.ref a) v H Q := by
  intro pins s σ u u' I ru rv
  cases ru
  obtain ⟨od, J⟩ := inst_of I ea
  obtain ⟨m, hF⟩ := I.fr
  obtain ⟨T, hT, hs⟩ := (g.at I rv ea cn).ty
  rw [rich_eq]
  exact PySem.W.cmp_K (op := .Eq) (tb := .type T) B.room.units0 hF I.ok.mod.kin J (looks_of_ty hT) (by unfold PySem.W.notFirst; rw [hs]; simp) c.at_ c.fn (back (run_own (us := [.ref a, u']) (vs := [.ref a, v]) B F hj I (.cons rfl (.cons rv .nil)) h))
end
end Rs

namespace Rs
open PySem PySem.Spec PyProof.Rows L2 He
/-! ### an instance called -/
structure CallC (K : PySem.W.Frag) (C g : Addr) : Prop where
  at_ : PySem.W.findIn K (.ref C) "__call__" = some (some (.ref g))
  fn : PySem.W.isFn K (.ref g) = true
  fi : PySem.W.fnIn K g = true
def callCB (K : PySem.W.Frag) (C g : Addr) : Bool := decide (PySem.W.findIn K (.ref C) "__call__" = some (some (.ref g))) && (PySem.W.isFn K (.ref g) && PySem.W.fnIn K g)
theorem callC_ok {K : PySem.W.Frag} {C g : Addr} (h : callCB K C g = true) : CallC K C g := by
  obtain ⟨h1, h⟩ := ba h
  obtain ⟨h2, h3⟩ := ba h
  exact ⟨of_decide_eq_true h1, h2, h3⟩
section
variable {X : Cx} {σ : L2.St} {H : Hp} {Q : VK} {QA : List V → Hp → Prop} {k j i : Nat} {E : L2.St → XK} {sp : Sp} {p pos px pr pc : Pos} {fe e : Expr} {es : List Expr} {C g : Addr} {x : Str} {scope : Scope} {elt a : Expr}
theorem we_callO (B : Body X k E) (c : CallC X.K C g) (F : FnR X.prog X.w X.K X.mg X.base (RX X.prog X.w) j g sp) (hj : j ≤ k)
    (h : WE X fe σ H fun y H1 => ∃ a, y = .ref a ∧ WA X (e :: es) σ H1 fun vs H2 => (∃ dx fs, H2 a = some (.ins C dx fs)) ∧ sp (.ref a :: vs) H2 Q (E σ))
    (ht : eval (.Call fe (e :: es) [] pos) X.env = (do callWith pos (← eval fe X.env) [] (backTo pos (starEach (e :: es) X.env)) (backToKw pos (keywordEach [] X.env))) := by rfl)
    (he : starEach (e :: es) X.env = (false, eval e X.env) :: starEach es X.env := by rfl) (hpl : (backTo pos (starEach es X.env)).any (·.1) = false := by rfl) : WE X (.Call fe (e :: es) [] pos) σ H Q := by
  intro pins s I
  refine Call_ (thn (h pins s I) fun u s1 z => ?_) ht
  obtain ⟨y, H1, I1, ry, a, rfl, q⟩ := z
  obtain rfl : u = Value.ref a := ry
  refine StX.callO_with (thn (q pos pins s1 I1) fun us s2 z => ?_) he hpl
  obtain ⟨vs, H2, I2, r, ⟨dx, fs, hi⟩, q2⟩ := z
  obtain ⟨od, J⟩ := inst_of I2 hi
  refine ⟨⟨C, _, _, J, rfl⟩, ?_⟩
  exact wpAny_call (PySem.W.kco_code I2.kIn J rfl c.at_ c.fn c.fi (codeAny_mono (F _ X.stack s2 H2 (.ref a :: us) (.ref a :: vs) Q (E σ) (B.room.mono hj) I2.env0 (.cons rfl r) q2) (out_at (B.at σ) I2)))
/-! ### *e in a display -/
theorem wa_star (h : WE X e σ H fun x H1 => ∃ p xs, x = .ref p ∧ (SqT X.K H1 p xs ∨ SqL X.K H1 p xs) ∧ WA X es σ H1 fun ys H2 => QA (xs ++ ys) H2)
    (hs : starEach (.Starred e p :: es) X.env = (true, eval e X.env) :: starEach es X.env := by rfl) : WA X (.Starred e p :: es) σ H QA := waP (StX.pa_star peS paS hs) h
/-! ### [e for x in range(n)] -/
theorem we_lcR (B : Body X k E) (nd : X.N.Nodup) (bn : Bn X "range") (hi : X.N[i]? = some x) (hx : scope.names.lookup x = some .local) (ok : BlkOk X.N X.env.scope scope [(x, i)])
    (h : WE X a σ H fun v H1 => ∃ n' : Nat, v = .int n' ∧ n' ≤ 1000000000 ∧ LcR X scope elt i σ n' Q H1) (hst : starEach [a] X.env = [(false, eval a X.env)] := by rfl)
    (hs : ∀ v, foldedSetIterable (.Call (.Name "range" pr) [a] [] pc) X.env v = pure v := by intro _; rfl) : WE X (.ListComp elt [⟨.Name x px, .Call (.Name "range" pr) [a] [] pc, [], 0⟩] scope pos) σ H Q :=
  weP (pe_lc (own := [(x, i)]) (g := gName i) (tt := tYes) B.calm nd (pi_range1 bn.gl bn.no paS hst) ok (fun _ _ _ _ _ => pg_name nd hi (.inl (lookup_relS_keep (by decide) hx)) (.inr (lookup_relS_keep (by decide) hx))) (fun _ _ _ _ _ => pts_nil) peB hs) (lc_byR h hst)
end
end Rs

namespace Rs
open PySem PySem.Spec PyProof.Rows L2 He
/-! ### C(e, *xs, k=v) -/
section
variable {X : Cx} {σ : L2.St} {H : Hp} {Q : VK} {k j : Nat} {E : L2.St → XK} {x : Str} {sp : List V → Sp} {p pos : Pos} {e : Expr} {es : List Expr} {C : Addr} {ks : List Str} {kws : List Keyword}
theorem we_makeST (B : Body X k E) (gn : Gn X x) (f : GSK X.prog X.w X.K X.mg X.base j x C ks sp) (hj : j + 1 ≤ k) (h : WA X (e :: es) σ H fun vs H1 => WK X kws σ H1 fun zs H2 => zs.length = ks.length ∧ ∀ a dx, H2 a = none → H2 dx = none → dx ≠ a → sp (.ref a :: vs) zs (upd (upd H2 dx (.own a)) a (.ins C dx [])) (fun v H3 => v = .non ∧ Q (.ref a) H3) (E σ))
    (hall : (backToKw pos (keywordEach kws X.env)).all (·.1.isSome) = true := by rfl) (hks : (backToKw pos (keywordEach kws X.env)).filterMap (·.1) = ks := by rfl)
    (he : starEach (e :: es) X.env = (false, eval e X.env) :: starEach es X.env := by rfl) (hst : ((backTo pos (starEach (e :: es) X.env)).any (·.1) || (backToKw pos (keywordEach kws X.env)).any (·.1.isNone)) = true := by rfl) :
    WE X (.Call (.Name x p) (e :: es) kws pos) σ H Q := by
  obtain ⟨f, hm, M, F⟩ := f
  intro pins s I
  refine wpAny_Call_Name_kw (ld_glob I gn.gl hm ?_ gn.d1)
  refine callWith_starred (P := fun h => X.K.In h) hst (PySem.W.keeps_K M.kp) (evalArgs_kw2 hall (thn (h pos pins s I) fun us s1 z => ?_) he)
  obtain ⟨vs, H1, I1, r, q⟩ := z
  refine thn (q pos pins s1 I1) fun ws s2 z => ?_
  obtain ⟨zs, H2, I2, rz, l2, q⟩ := z
  refine ⟨I2.kIn, ?_⟩
  rw [hks]
  exact smake_at M F (B.room.mono hj) (B.at σ) I2 r rz l2 q
end
end Rs

/-! fractions of drawn numbers -/
namespace Mt
theorem dv_le {a b c d : Int} (hb : 0 < b) (hd : 0 < d) : Rat.divInt a b ≤ Rat.divInt c d ↔ a * d ≤ c * b := by
  obtain ⟨m, rfl⟩ := Int.eq_ofNat_of_zero_le (Int.le_of_lt hb)
  obtain ⟨n, rfl⟩ := Int.eq_ofNat_of_zero_le (Int.le_of_lt hd)
  have e1 : Rat.divInt a m = sc (m * n) (a * n) := by
    unfold sc
    rw [Int.natCast_mul, Rat.divInt_mul_right (by omega)]
  have e2 : Rat.divInt c n = sc (m * n) (c * m) := by
    unfold sc
    rw [Int.natCast_mul, Int.mul_comm (m : Int) (n : Int), Rat.divInt_mul_right (by omega)]
  have hn : m * n ≠ 0 := by
    have h1 : 0 < m := by omega
    have h2 : 0 < n := by omega
    exact Nat.ne_of_gt (Nat.mul_pos h1 h2)
  rw [e1, e2, ← Rat.not_lt, sc_lt hn, Int.not_lt]
theorem dv_lt {a b c d : Int} (hb : 0 < b) (hd : 0 < d) : Rat.divInt a b < Rat.divInt c d ↔ a * d < c * b := by
  rw [← Rat.not_le, dv_le hd hb, Int.not_le]
theorem dv_one {d : Int} (h : d ≠ 0) : Rat.divInt d d = 1 := Rat.divInt_self' h
theorem dv_pos {a b : Int} (hb : 0 < b) : 0 < Rat.divInt a b ↔ 0 < a := by
  have h := dv_lt (a := 0) (b := 1) (c := a) (d := b) (by decide) hb
  rw [Rat.zero_divInt, Int.zero_mul, Int.mul_one] at h
  exact h
theorem dv_nn {a b : Int} (hb : 0 < b) : 0 ≤ Rat.divInt a b ↔ 0 ≤ a := by
  have h := dv_le (a := 0) (b := 1) (c := a) (d := b) (by decide) hb
  rw [Rat.zero_divInt, Int.zero_mul, Int.mul_one] at h
  exact h
theorem dv_le1 {a b : Int} (hb : 0 < b) : Rat.divInt a b ≤ 1 ↔ a ≤ b := by
  have h := dv_le (a := a) (b := b) (c := 1) (d := 1) hb (by decide)
  rw [dv_one (by decide), Int.mul_one, Int.one_mul] at h
  exact h
theorem dv_ge1 {a b : Int} (hb : 0 < b) : 1 ≤ Rat.divInt a b ↔ b ≤ a := by
  have h := dv_le (a := 1) (b := 1) (c := a) (d := b) (by decide) hb
  rw [dv_one (by decide), Int.mul_one, Int.one_mul] at h
  exact h
end Mt

/-! rounds of small delays: where they stop, what they tell; over a bottom -/
namespace Mt
section
variable {W U : Int} {d : Bool} {ds : List (Option Int)}
/-- at most four delays, none above 32 units, the last one not lost -/
structure DSm (U : Int) (ds : List (Option Int)) : Prop where
  n0 : 0 < ds.length
  n4 : ds.length ≤ 4
  all : ∀ (j : Nat) (x : Int), (ds[j]?).getD none = some x → 1 ≤ x ∧ x ≤ 32 * U
  last : ∃ x, (ds[ds.length - 1]?).getD none = some x
theorem DSm.dl (h : DSm U ds) {k : Nat} {x : Int} (e : dlk ds k = some x) : 1 ≤ x ∧ x ≤ 32 * U := by
  unfold dlk at e
  split at e <;> exact h.all _ _ e
/-- an answer is one of a sending -/
theorem ans_of : ∀ (k : Nat) (a : Int), (rsk 0 W d ds k).ans = some a → ∃ j y, j < k ∧ dlk ds j = some y ∧ a = stk 0 W d j + y ∧ (rsk 0 W d ds k).dly = some y
  | 0, a, h => nomatch h
  | k + 1, a, h => by
    have ih := ans_of k
    unfold rsk at h ⊢
    generalize rsk 0 W d ds k = r at h ih ⊢
    obtain ⟨nd, an, ans, dly⟩ := r
    cases eo : dlk ds k with
    | none =>
      rw [eo] at h
      obtain ⟨j, y, hj, h1, h2, h3⟩ := ih a h
      exact ⟨j, y, by omega, h1, h2, h3⟩
    | some x =>
      rw [eo] at h
      cases ans with
      | none =>
        cases h
        exact ⟨k, x, by omega, eo, rfl, rfl⟩
      | some b =>
        have h' : (if stk 0 W d k + x < b then (⟨nd + 1, k, some (stk 0 W d k + x), some x⟩ : RS Int) else ⟨nd + 1, an, some b, dly⟩).ans = some a := h
        show ∃ j y, j < k + 1 ∧ dlk ds j = some y ∧ a = stk 0 W d j + y ∧ (if stk 0 W d k + x < b then (⟨nd + 1, k, some (stk 0 W d k + x), some x⟩ : RS Int) else ⟨nd + 1, an, some b, dly⟩).dly = some y
        by_cases c : stk 0 W d k + x < b
        · rw [if_pos c] at h' ⊢
          cases h'
          exact ⟨k, x, by omega, eo, rfl, rfl⟩
        · rw [if_neg c] at h' ⊢
          obtain ⟨j, y, hj, h1, h2, h3⟩ := ih a h'
          exact ⟨j, y, by omega, h1, h2, h3⟩
/-- an answer is behind the last sending -/
theorem ans_gt (h : DSm U ds) {k : Nat} {a : Int} (g : Gng 0 W d ds k) (e : (rsk 0 W d ds (k + 1)).ans = some a) : stk 0 W d k < a := by
  unfold Gng at g
  unfold rsk at e
  generalize rsk 0 W d ds k = r at g e
  obtain ⟨nd, an, ans, dly⟩ := r
  cases eo : dlk ds k with
  | none =>
    rw [eo] at e
    cases ans with
    | none => cases e
    | some b => cases e; exact g
  | some x =>
    have hx := h.dl eo
    rw [eo] at e
    cases ans with
    | none => cases e; omega
    | some b =>
      have e' : (if stk 0 W d k + x < b then (⟨nd + 1, k, some (stk 0 W d k + x), some x⟩ : RS Int) else ⟨nd + 1, an, some b, dly⟩).ans = some a := e
      have g' : stk 0 W d k < b := g
      by_cases c : stk 0 W d k + x < b
      · rw [if_pos c] at e'
        cases e'
        omega
      · rw [if_neg c] at e'
        cases e'
        exact g'
/-- a round that is over -/
structure Over (W U : Int) (d : Bool) (ds : List (Option Int)) (N : Nat) (a y : Int) : Prop where
  n0 : 0 < N
  nm : N ≤ 36
  st : ¬ Gng 0 W d ds N
  go : ∀ j, j < N → Gng 0 W d ds j
  ans : (rsk 0 W d ds N).ans = some a
  dly : (rsk 0 W d ds N).dly = some y
  a0 : stk 0 W d (N - 1) < a
  a1 : a ≤ 8 * W + 32 * U
  y0 : 1 ≤ y
  y1 : y ≤ 32 * U
theorem over_of (d : Bool) (hU : 1 ≤ U) (hW : U ≤ W) (h : DSm U ds) : ∃ N a y, Over W U d ds N a y := by
  obtain ⟨x, ex⟩ := h.last
  obtain ⟨n, en⟩ : ∃ n, ds.length = n + 1 := ⟨ds.length - 1, by have := h.n0; omega⟩
  have n4 := h.n4
  have ed : dlk ds n = some x := by
    unfold dlk
    rw [if_pos (by omega)]
    rw [en] at ex
    exact ex
  have hx := h.dl ed
  have b0 : Below (rsk 0 W d ds (n + 1)) (stk 0 W d n + x) := by
    show Below (rstep _ n _ (dlk ds n)) _
    rw [ed]
    exact below_new
  have bk : ∀ j, Below (rsk 0 W d ds (n + 1 + j)) (stk 0 W d n + x) := fun j => by
    induction j with
    | zero => exact b0
    | succ j ih => exact below_step ih
  have far := stk_far (W := W) (d := d) (by omega) n 32
  have st : ¬ Gng 0 W d ds (n + 32) := by
    obtain ⟨a, ea, la⟩ := bk 31
    rw [show n + 1 + 31 = n + 32 by omega] at ea
    unfold Gng
    rw [ea]
    show ¬ stk 0 W d (n + 32) < a
    omega
  obtain ⟨N, h1, h2, h3⟩ := least (P := fun k => ¬ Gng 0 W d ds k) (n + 32) st
  have go : ∀ j, j < N → Gng 0 W d ds j := fun j hj => Classical.byContradiction (h3 j hj)
  have n0 : 0 < N := by
    rcases Nat.eq_zero_or_pos N with e | e
    · subst e
      exact absurd trivial h2
    · exact e
  obtain ⟨a, ea⟩ : ∃ a, (rsk 0 W d ds N).ans = some a := by
    unfold Gng at h2
    cases q : (rsk 0 W d ds N).ans with
    | none => rw [q] at h2; exact absurd trivial h2
    | some a => exact ⟨a, rfl⟩
  obtain ⟨j, y, hj, e1, e2, e3⟩ := ans_of N a ea
  have hy := h.dl e1
  have s3 : ∀ k, k ≤ 3 → stk 0 W d k ≤ 8 * W := fun k hk => by
    have g := stk_le (W := W) (d := d) (by omega) k
    have p : (2 : Int) ^ k ≤ 8 := by
      have h := Int.ofNat_le.mpr (Nat.pow_le_pow_right (n := 2) (by decide) hk)
      rw [Int.natCast_pow] at h
      exact h
    have := Int.mul_le_mul_of_nonneg_left p (show 0 ≤ W by omega)
    omega
  have a1 : a ≤ 8 * W + 32 * U := by
    by_cases c : N ≤ n + 1
    · have := s3 j (by omega)
      omega
    · obtain ⟨b, eb, lb⟩ := bk (N - (n + 1))
      rw [show n + 1 + (N - (n + 1)) = N by omega, ea] at eb
      cases eb
      have := s3 n (by omega)
      omega
  obtain ⟨m, rfl⟩ : ∃ m, N = m + 1 := ⟨N - 1, by omega⟩
  exact ⟨m + 1, a, y, n0, by omega, h2, go, ea, e3, ans_gt h (go m (by omega)) ea, a1, hy.1, hy.2⟩
end
theorem sc_sub {L : Nat} (h : L ≠ 0) (a b : Int) : sc L (a - b) = sc L a - sc L b := by
  have e := sc_add h (a - b) b
  rw [show a - b + b = a by omega] at e
  rw [e]
  grind
theorem sc_up {L k : Nat} (hk : k ≠ 0) (i : Int) : sc (L * k) (i * k) = sc L i := by
  unfold sc
  rw [Int.natCast_mul, Rat.divInt_mul_right (by omega)]
theorem sc_le {L : Nat} (h : L ≠ 0) (a b : Int) : sc L a ≤ sc L b ↔ a ≤ b := by
  rw [← Rat.not_lt, sc_lt h, Int.not_lt]
theorem sc_mul {L m : Nat} (i j : Int) : sc L i * sc m j = sc (L * m) (i * j) := by
  unfold sc
  rw [Rat.divInt_mul_divInt, Int.natCast_mul]
theorem sc_inj {L : Nat} (h : L ≠ 0) {a b : Int} (e : sc L a = sc L b) : a = b := by
  have h1 : ¬ a < b := fun q => by
    have := (sc_lt h a b).mpr q
    rw [e] at this
    exact Rat.lt_irrefl this
  have h2 : ¬ b < a := fun q => by
    have := (sc_lt h b a).mpr q
    rw [e] at this
    exact Rat.lt_irrefl this
  omega
end Mt

namespace Rs
open PySem PySem.Spec PyProof.Rows L2 He
/-! ### a, b, c, d = e; t[:n]; (.., *t, ..) -/
section
variable {X : Cx} {k : Nat} {E : L2.St → XK} {σ : L2.St} {H : Hp} {D : Ends} {Q : VK} {a b e : Expr} {es : List Expr} {pos p2 : Pos}
theorem ws_unp4 {i0 i1 i2 i3 : Nat} {x0 x1 x2 x3 : Str} {q0 q1 q2 q3 pt : Pos} {kt : Nat} (B : Body X k E) (n0 : Sl X i0 x0) (n1 : Sl X i1 x1) (n2 : Sl X i2 x2) (n3 : Sl X i3 x3)
    (h : WE X e σ H fun v H1 => ∃ p v0 v1 v2 v3, v = .ref p ∧ SqT X.K H1 p [v0, v1, v2, v3] ∧ D.nx ((((σ.set i0 (some v0)).set i1 (some v1)).set i2 (some v2)).set i3 (some v3)) H1)
    (hs : swapsWithSole [.Tuple [.Name x0 q0, .Name x1 q1, .Name x2 q2, .Name x3 q3] kt pt] e pos.line X.env = pure false := by rfl) (hw : swappedStores [.Tuple [.Name x0 q0, .Name x1 q1, .Name x2 q2, .Name x3 q3] kt pt] e X.env = pure none := by rfl)
    (hn : (assignEach [Expr.Name x0 q0, .Name x1 q1, .Name x2 q2, .Name x3 q3] X.env).length = 4 := by rfl) (hst : (assignEach [Expr.Name x0 q0, .Name x1 q1, .Name x2 q2, .Name x3 q3] X.env).findIdx? (·.1) = none := by rfl)
    (h3 : (assignEach [Expr.Tuple [.Name x0 q0, .Name x1 q1, .Name x2 q2, .Name x3 q3] kt pt] X.env).map (·.2) = [assign (.Tuple [.Name x0 q0, .Name x1 q1, .Name x2 q2, .Name x3 q3] kt pt) X.env] := by rfl) :
    WS X (.Assign [.Tuple [.Name x0 q0, .Name x1 q1, .Name x2 q2, .Name x3 q3] kt pt] e pos) D σ H := by
  refine wsP (ps_asg peS (pg_tup B.calm (pgs_cons (pg_name n0.nd n0.at_ n0.loc n0.fn) (pgs_cons (pg_name n1.nd n1.at_ n1.loc n1.fn) (pgs_cons (pg_name n2.nd n2.at_ n2.loc n2.fn) (pgs_cons (pg_name n3.nd n3.at_ n3.loc n3.fn) pgs_nil)))) hn hst) hs hw h3) ?_
  refine we_mono h fun v H1 q => ?_
  obtain ⟨p, v0, v1, v2, v3, rfl, hq, z⟩ := q
  exact ⟨p, _, rfl, hq, rfl, v0, _, rfl, v1, _, rfl, v2, _, rfl, v3, _, rfl, rfl, z⟩
/-- a[:b] of a tuple -/
theorem we_cutT (h : WE X a σ H fun v H1 => WE X b σ H1 fun w H2 => ∃ p xs i, v = .ref p ∧ w = .int i ∧ H2 p = some (.tup xs) ∧ ∀ l H3, Ex H2 H3 → H3 l = some (.tup (cutV xs none (some i))) → Q (.ref l) H3) : WE X (.Subscript a (.Slice none (some b) none p2) pos) σ H Q :=
  weP (pe_slice sl_tupA peS po_none (po_some peS)) (we_mono h fun v H1 z => we_mono z fun w H2 z => by
    obtain ⟨p, xs, i, rfl, rfl, h1, z⟩ := z
    refine ⟨i, rfl, p, xs, rfl, .of h1, fun hw => z p H2 (.refl _) ?_, fun _ l nl => z l _ (Ex.new nl) upd_same⟩
    have e : cutV xs none (some i) = xs := by
      unfold cutV
      rw [hw.1, hw.2, Nat.sub_zero, List.drop_zero, List.take_length]
    rw [e]
    exact h1)
theorem cut_m1 (xs : List V) : cutV xs none (some (-1)) = xs.take (xs.length - 1) := by
  unfold cutV
  rw [HT.sIx_none, Nat.sub_zero, List.drop_zero]
  congr 1
  show (if (-1 : Int) < 0 then ((-1 : Int) + (xs.length : Int)).toNat else min (-1 : Int).toNat xs.length) = _
  rw [if_pos (by decide)]
  omega
/-- {} -/
theorem we_dict0 (h : ∀ p, H p = none → Q (.ref p) (upd H p (.dK []))) : WE X (.Dict [] [] pos) σ H Q := weP pe_dnewK h
/-- y = [e for x in t], t a tuple -/
theorem ws_setLcT {i n : Nat} {x y : Str} {scope : Scope} {elt iter : Expr} {px py spos : Pos} (B : Body X k E) (m : Sl X n y) (hy : X.env.scope.names.lookup y = some .local) (hk : X.env.scope.kind = .function) (hi : X.N[i]? = some x) (hx : scope.names.lookup x = some .local) (ok : BlkOk X.N X.env.scope scope [(x, i)])
    (h : WE X iter σ H fun v H1 => ∃ a xs, v = .ref a ∧ SqT X.K H1 a xs ∧ LcG X scope elt i (SqT X.K) σ a xs (fun v H' => D.nx (σ.set n (some v)) H') H1) (hl : (py.line == spos.line) = true := by rfl)
    (ha : (scope.names.any fun (n, k) => n == y && (k == .local || k == .cell)) = false := by decide +kernel) (he : pos.line = spos.line := by rfl) (hs : ∀ v, foldedSetIterable iter X.env v = pure v := by intro _; rfl) :
    WS X (.Assign [.Name y py] (.ListComp elt [⟨.Name x px, iter, [], 0⟩] scope pos) spos) D σ H :=
  wsP (ps_setLc (own := [(x, i)]) (g := gName i) (tt := tYes) B.calm m.nd m.at_ hy (sw_true hk hy (by rw [he]; exact hl) ha) (pi_tup peS) ok (fun _ _ _ _ _ => pg_name m.nd hi (.inl (lookup_relS_keep (by decide) hx)) (.inr (lookup_relS_keep (by decide) hx))) (fun _ _ _ _ _ => pts_nil) peB hs) (lc_byT h)
end
/-! ### len(x) of an own class -/
structure LenOwn (K : PySem.W.Frag) (C f : Addr) : Prop where
  at_ : PySem.W.findIn K (.ref C) "__len__" = some (some (.ref f))
  fn : PySem.W.isFn K (.ref f) = true
def lenOwnB (K : PySem.W.Frag) (C f : Addr) : Bool := decide (PySem.W.findIn K (.ref C) "__len__" = some (some (.ref f))) && PySem.W.isFn K (.ref f)
theorem lenOwn_ok {K : PySem.W.Frag} {C f : Addr} (h : lenOwnB K C f = true) : LenOwn K C f := by
  obtain ⟨h1, h2⟩ := ba h
  exact ⟨of_decide_eq_true h1, h2⟩
theorem we_lenO {X : Cx} {σ : L2.St} {H : Hp} {Q : VK} {k j : Nat} {E : XK} {C f : Addr} {sp : Sp} {a : Expr} {p pos : Pos} (bn : Bn X "len") (B : Body X k fun _ => E) (c : LenOwn X.K C f) (F : FnR X.prog X.w X.K X.mg X.base (RX X.prog X.w) j f sp) (hj : j + 1 ≤ k)
    (h : WE X a σ H fun v H1 => ∃ x dx fs, v = .ref x ∧ H1 x = some (.ins C dx fs) ∧ sp [.ref x] H1 (fun v H' => ∃ n : Nat, v = .int n ∧ n < 2 ^ 62 ∧ Q (.int n) H') E) (hs : starEach [a] X.env = [(false, eval a X.env)] := by rfl) (hl : (backTo pos (starEach [] X.env)).any (·.1) = false := by rfl) :
    WE X (.Call (.Name "len" p) [a] [] pos) σ H Q := by
  have hc : CallR X (.builtin "len") fun xs H Q => ∃ x dx fs, xs = [.ref x] ∧ H x = some (.ins C dx fs) ∧ sp [.ref x] H (fun v H' => ∃ n : Nat, v = .int n ∧ n < 2 ^ 62 ∧ Q (.int n) H') E := by
    intro pins s σ H xs us Q I r q
    obtain ⟨x, dx, fs, rfl, ea, q⟩ := q
    obtain ⟨u, rfl, ru⟩ := vals1 r
    cases ru
    obtain ⟨od, J⟩ := inst_of I ea
    obtain ⟨m, hF⟩ := I.fr
    refine PySem.W.len_K hF I.ok.mod.kin J c.at_ c.fn (wpAny_mono (wpAny_call (SlX.run_at (us := [.ref x]) (ws := [.ref x]) F (B.room.mono hj).in1 I.env0.in1 B.pass I (.cons rfl .nil) q)) (fun u s' z => ?_) fun _ _ z => z)
    obtain ⟨v, H', I', r', n, rfl, hn, q'⟩ := z
    obtain ⟨t, rfl⟩ := r'
    refine ⟨⟨by omega, by omega⟩, ?_⟩
    exact ⟨.int n, H', I'.tok _, ⟨_, rfl⟩, q'⟩
  exact we_callB hc bn boot_len (wa_one (we_mono h fun v H1 q => by
    obtain ⟨x, dx, fs, rfl, q⟩ := q
    exact ⟨x, dx, fs, rfl, q⟩) hs) (by decide) (by decide) hs hl
end Rs


namespace Rt
open PySem PySem.Spec PyProof.Rows L2 He Rs Mt
/-- what the top has written -/
structure Tm (K : PySem.W.Frag) (mg : Str → Option Value) : Prop where
  xc_ResendError : ExcC K (ga K "ResendError")
  xc_NoTime : ExcC K (ga K "NoTime")
  x_NoTime : ExcPlain K (ga K "NoTime")
  xc_NoText : ExcC K (ga K "NoText")
  xc_BadBook : ExcC K (ga K "BadBook")
  xc_TooMany : ExcC K (ga K "TooMany")
  xc_Open : ExcC K (ga K "Open")
  c_Time : IsC K (ga K "Time")
  k_Time : KitC K (ga K "Time")
  m_Time : Mk K (ga K "Time") (ma K (ga K "Time") "__init__")
  n_Time_over_line : NoAttr K (ga K "Time") "over_line"
  n_Time_under_line : NoAttr K (ga K "Time") "under_line"
  sn_Time : PySem.W.subIn K (.ref (ga K "Time")) (.type "NoneType") = some false
  w_Time : NeOwn K (ga K "Time") (ma K (ga K "Time") "__eq__")
  u_Time_abs : AbsOwn K (ga K "Time") (ma K (ga K "Time") "__abs__")
  b_Time___add__ : BinOwn K (ga K "Time") (ma K (ga K "Time") "__add__") .Add
  ni_Time___add__ : NoInpl K (ga K "Time") .Add
  o_Time___eq__ : CmpOwn K (ga K "Time") (ma K (ga K "Time") "__eq__") .Eq
  q_Time___eq__ : CmpRef K (ga K "Time") (ma K (ga K "Time") "__eq__") .Eq
  b_Time___floordiv__ : BinOwn K (ga K "Time") (ma K (ga K "Time") "__floordiv__") .FloorDiv
  o_Time___ge__ : CmpOwn K (ga K "Time") (ma K (ga K "Time") "__ge__") .GtE
  q_Time___ge__ : CmpRef K (ga K "Time") (ma K (ga K "Time") "__ge__") .LtE
  o_Time___gt__ : CmpOwn K (ga K "Time") (ma K (ga K "Time") "__gt__") .Gt
  q_Time___gt__ : CmpRef K (ga K "Time") (ma K (ga K "Time") "__gt__") .Lt
  o_Time___le__ : CmpOwn K (ga K "Time") (ma K (ga K "Time") "__le__") .LtE
  q_Time___le__ : CmpRef K (ga K "Time") (ma K (ga K "Time") "__le__") .GtE
  o_Time___lt__ : CmpOwn K (ga K "Time") (ma K (ga K "Time") "__lt__") .Lt
  q_Time___lt__ : CmpRef K (ga K "Time") (ma K (ga K "Time") "__lt__") .Gt
  b_Time___mul__ : BinOwn K (ga K "Time") (ma K (ga K "Time") "__mul__") .Mult
  ni_Time___mul__ : NoInpl K (ga K "Time") .Mult
  u_Time_neg : NegOwn K (ga K "Time") (ma K (ga K "Time") "__neg__")
  b_Time___pow__ : BinOwn K (ga K "Time") (ma K (ga K "Time") "__pow__") .Pow
  r_Time___radd__ : BinRef K (ga K "Time") (ma K (ga K "Time") "__radd__") .Add
  r_Time___rfloordiv__ : BinRef K (ga K "Time") (ma K (ga K "Time") "__rfloordiv__") .FloorDiv
  r_Time___rmul__ : BinRef K (ga K "Time") (ma K (ga K "Time") "__rmul__") .Mult
  r_Time___rsub__ : BinRef K (ga K "Time") (ma K (ga K "Time") "__rsub__") .Sub
  b_Time___sub__ : BinOwn K (ga K "Time") (ma K (ga K "Time") "__sub__") .Sub
  ni_Time___sub__ : NoInpl K (ga K "Time") .Sub
  p_Time_bottom : PropOf K (ga K "Time") "bottom" (ma K (ga K "Time") "bottom") (pgA K (ga K "Time") "bottom")
  e_Time_over : Meth K (ga K "Time") "over" (ma K (ga K "Time") "over")
  e_Time_power : Meth K (ga K "Time") "power" (ma K (ga K "Time") "power")
  p_Time_top : PropOf K (ga K "Time") "top" (ma K (ga K "Time") "top") (pgA K (ga K "Time") "top")
  c_Book : IsC K (ga K "Book")
  k_Book : KitC K (ga K "Book")
  m_Book : Mk K (ga K "Book") (ma K (ga K "Book") "__init__")
  n_Book_rules : NoAttr K (ga K "Book") "rules"
  sn_Book : PySem.W.subIn K (.ref (ga K "Book")) (.type "NoneType") = some false
  p_Book_doubled : PropOf K (ga K "Book") "doubled" (ma K (ga K "Book") "doubled") (pgA K (ga K "Book") "doubled")
  p_Book_factor : PropOf K (ga K "Book") "factor" (ma K (ga K "Book") "factor") (pgA K (ga K "Book") "factor")
  p_Book_floor : PropOf K (ga K "Book") "floor" (ma K (ga K "Book") "floor") (pgA K (ga K "Book") "floor")
  p_Book_kept : PropOf K (ga K "Book") "kept" (ma K (ga K "Book") "kept") (pgA K (ga K "Book") "kept")
  p_Book_latest : PropOf K (ga K "Book") "latest" (ma K (ga K "Book") "latest") (pgA K (ga K "Book") "latest")
  p_Book_margin : PropOf K (ga K "Book") "margin" (ma K (ga K "Book") "margin") (pgA K (ga K "Book") "margin")
  e_Book_put_part : Meth K (ga K "Book") "put_part" (ma K (ga K "Book") "put_part")
  p_Book_roof : PropOf K (ga K "Book") "roof" (ma K (ga K "Book") "roof") (pgA K (ga K "Book") "roof")
  p_Book_sample : PropOf K (ga K "Book") "sample" (ma K (ga K "Book") "sample") (pgA K (ga K "Book") "sample")
  p_Book_share : PropOf K (ga K "Book") "share" (ma K (ga K "Book") "share") (pgA K (ga K "Book") "share")
  c_Search : IsC K (ga K "Search")
  k_Search : KitC K (ga K "Search")
  m_Search : Mk K (ga K "Search") (ma K (ga K "Search") "__init__")
  n_Search_base : NoAttr K (ga K "Search") "base"
  n_Search_bound : NoAttr K (ga K "Search") "bound"
  n_Search_strict : NoAttr K (ga K "Search") "strict"
  n_Search_bits : NoAttr K (ga K "Search") "bits"
  e_Search_is_reached : Meth K (ga K "Search") "is_reached" (ma K (ga K "Search") "is_reached")
  e_Search_least : Meth K (ga K "Search") "least" (ma K (ga K "Search") "least")
  e_Search_squares : Meth K (ga K "Search") "squares" (ma K (ga K "Search") "squares")
  c_Verdict : IsC K (ga K "Verdict")
  k_Verdict : KitC K (ga K "Verdict")
  m_Verdict : Mk K (ga K "Verdict") (ma K (ga K "Verdict") "__init__")
  n_Verdict_told_word : NoAttr K (ga K "Verdict") "told_word"
  n_Verdict_told_number : NoAttr K (ga K "Verdict") "told_number"
  n_Verdict_told_rounds : NoAttr K (ga K "Verdict") "told_rounds"
  sn_Verdict : PySem.W.subIn K (.ref (ga K "Verdict")) (.type "NoneType") = some false
  w_Verdict : NeOwn K (ga K "Verdict") (ma K (ga K "Verdict") "__eq__")
  u_Verdict_bool : BoolOwn K (ga K "Verdict") (ma K (ga K "Verdict") "__bool__")
  o_Verdict___eq__ : CmpOwn K (ga K "Verdict") (ma K (ga K "Verdict") "__eq__") .Eq
  q_Verdict___eq__ : CmpRef K (ga K "Verdict") (ma K (ga K "Verdict") "__eq__") .Eq
  p_Verdict_ends : PropOf K (ga K "Verdict") "ends" (ma K (ga K "Verdict") "ends") (pgA K (ga K "Verdict") "ends")
  p_Verdict_number : PropOf K (ga K "Verdict") "number" (ma K (ga K "Verdict") "number") (pgA K (ga K "Verdict") "number")
  p_Verdict_rounds : PropOf K (ga K "Verdict") "rounds" (ma K (ga K "Verdict") "rounds") (pgA K (ga K "Verdict") "rounds")
  p_Verdict_word : PropOf K (ga K "Verdict") "word" (ma K (ga K "Verdict") "word") (pgA K (ga K "Verdict") "word")
  c_LastCourse : IsC K (ga K "LastCourse")
  k_LastCourse : KitC K (ga K "LastCourse")
  m_LastCourse : Mk K (ga K "LastCourse") (ma K (ga K "LastCourse") "__init__")
  n_LastCourse_kept_book : NoAttr K (ga K "LastCourse") "kept_book"
  n_LastCourse_kept_delay : NoAttr K (ga K "LastCourse") "kept_delay"
  n_LastCourse_trap : NoAttr K (ga K "LastCourse") "trap"
  n_LastCourse_window : NoAttr K (ga K "LastCourse") "window"
  n_LastCourse_passed : NoAttr K (ga K "LastCourse") "passed"
  n_LastCourse_counted : NoAttr K (ga K "LastCourse") "counted"
  n_LastCourse_seen : NoAttr K (ga K "LastCourse") "seen"
  e_LastCourse_go_on : Meth K (ga K "LastCourse") "go_on" (ma K (ga K "LastCourse") "go_on")
  e_LastCourse_run : Meth K (ga K "LastCourse") "run" (ma K (ga K "LastCourse") "run")
  e_LastCourse_told : Meth K (ga K "LastCourse") "told" (ma K (ga K "LastCourse") "told")
  i_MOST_FIGURES : ∃ t, mg "MOST_FIGURES" = some (.int 60 t)
  i_FIGURES : ∃ t, mg "FIGURES" = some (.str "0123456789" t)
  g_is_integer : mg "is_integer" = some (.ref (ga K "is_integer"))
  g_NoTime : mg "NoTime" = some (.ref (ga K "NoTime"))
  g_common : mg "common" = some (.ref (ga K "common"))
  g_is_time : mg "is_time" = some (.ref (ga K "is_time"))
  g_time_of : mg "time_of" = some (.ref (ga K "time_of"))
  g_Time : mg "Time" = some (.ref (ga K "Time"))
  i_MOST_POWER : ∃ t, mg "MOST_POWER" = some (.int 10000 t)
  g_raised : mg "raised" = some (.ref (ga K "raised"))
  g_NoText : mg "NoText" = some (.ref (ga K "NoText"))
  g_read_count : mg "read_count" = some (.ref (ga K "read_count"))
  i_MOST_LATEST : ∃ t, mg "MOST_LATEST" = some (.int 20 t)
  g_is_positive : mg "is_positive" = some (.ref (ga K "is_positive"))
  g_SAMPLES : mg "SAMPLES" = some (.ref (ga K "SAMPLES"))
  kt_SAMPLES : KTup K (ga K "SAMPLES") ["first", "last", "marked", "clean"]
  g_is_latest : mg "is_latest" = some (.ref (ga K "is_latest"))
  g_is_roof : mg "is_roof" = some (.ref (ga K "is_roof"))
  g_PARTS : mg "PARTS" = some (.ref (ga K "PARTS"))
  kt_PARTS : KTup K (ga K "PARTS") ["sample", "share", "latest", "factor", "margin", "floor", "roof", "doubled", "kept"]
  g_is_allowed : mg "is_allowed" = some (.ref (ga K "is_allowed"))
  g_BadBook : mg "BadBook" = some (.ref (ga K "BadBook"))
  g_greater : mg "greater" = some (.ref (ga K "greater"))
  g_lesser : mg "lesser" = some (.ref (ga K "lesser"))
  g_checked : mg "checked" = some (.ref (ga K "checked"))
  g_word_of : mg "word_of" = some (.ref (ga K "word_of"))
  g_Book : mg "Book" = some (.ref (ga K "Book"))
  g_bends : mg "bends" = some (.ref (ga K "bends"))
  g_made_of : mg "made_of" = some (.ref (ga K "made_of"))
  g_last_rise : mg "last_rise" = some (.ref (ga K "last_rise"))
  g_part_of : mg "part_of" = some (.ref (ga K "part_of"))
  g_check_times : mg "check_times" = some (.ref (ga K "check_times"))
  g_power_of : mg "power_of" = some (.ref (ga K "power_of"))
  g_exact_side : mg "exact_side" = some (.ref (ga K "exact_side"))
  g_told_side : mg "told_side" = some (.ref (ga K "told_side"))
  g_product : mg "product" = some (.ref (ga K "product"))
  i_FIRST_BITS : ∃ t, mg "FIRST_BITS" = some (.int 64 t)
  g_Search : mg "Search" = some (.ref (ga K "Search"))
  g_first_power : mg "first_power" = some (.ref (ga K "first_power"))
  g_resent : mg "resent" = some (.ref (ga K "resent"))
  g_waits_until : mg "waits_until" = some (.ref (ga K "waits_until"))
  g_needless_from : mg "needless_from" = some (.ref (ga K "needless_from"))
  g_lowest_wait : mg "lowest_wait" = some (.ref (ga K "lowest_wait"))
  g_stays_below_by_last : mg "stays_below_by_last" = some (.ref (ga K "stays_below_by_last"))
  g_Verdict : mg "Verdict" = some (.ref (ga K "Verdict"))
  g_trap_of : mg "trap_of" = some (.ref (ga K "trap_of"))
  g_greatest : mg "greatest" = some (.ref (ga K "greatest"))
  g_key_of : mg "key_of" = some (.ref (ga K "key_of"))
  i_MOST_NEEDLESS : ∃ t, mg "MOST_NEEDLESS" = some (.int 1000 t)
  g_TooMany : mg "TooMany" = some (.ref (ga K "TooMany"))
  g_learned_from : mg "learned_from" = some (.ref (ga K "learned_from"))
  i_MOST_PLAYED : ∃ t, mg "MOST_PLAYED" = some (.int 100 t)
  g_Open : mg "Open" = some (.ref (ga K "Open"))
  g_rounds_to : mg "rounds_to" = some (.ref (ga K "rounds_to"))
  g_first_with : mg "first_with" = some (.ref (ga K "first_with"))
  g_all_below : mg "all_below" = some (.ref (ga K "all_below"))
  g_learned_verdict : mg "learned_verdict" = some (.ref (ga K "learned_verdict"))
  g_LastCourse : mg "LastCourse" = some (.ref (ga K "LastCourse"))
  g__law_divisor : mg "_law_divisor" = some (.ref (ga K "_law_divisor"))
  g__law_cut : mg "_law_cut" = some (.ref (ga K "_law_cut"))
  g__law_less : mg "_law_less" = some (.ref (ga K "_law_less"))
  g__law_draw : mg "_law_draw" = some (.ref (ga K "_law_draw"))
  g__law_share : mg "_law_share" = some (.ref (ga K "_law_share"))
  g__law_moment : mg "_law_moment" = some (.ref (ga K "_law_moment"))
  g__law_sum : mg "_law_sum" = some (.ref (ga K "_law_sum"))
  g__law_time : mg "_law_time" = some (.ref (ga K "_law_time"))
  g__law_by : mg "_law_by" = some (.ref (ga K "_law_by"))
  g__law_most : mg "_law_most" = some (.ref (ga K "_law_most"))
  g__law_least : mg "_law_least" = some (.ref (ga K "_law_least"))
  g__law_wait : mg "_law_wait" = some (.ref (ga K "_law_wait"))
  g__law_estimate : mg "_law_estimate" = some (.ref (ga K "_law_estimate"))
  g__law_minus : mg "_law_minus" = some (.ref (ga K "_law_minus"))
  g__law_steady : mg "_law_steady" = some (.ref (ga K "_law_steady"))
  g__law_learn : mg "_law_learn" = some (.ref (ga K "_law_learn"))
  g__law_over : mg "_law_over" = some (.ref (ga K "_law_over"))
  g__law_close : mg "_law_close" = some (.ref (ga K "_law_close"))
  g__law_begin : mg "_law_begin" = some (.ref (ga K "_law_begin"))
  g__law_tame : mg "_law_tame" = some (.ref (ga K "_law_tame"))
  g__law_rules : mg "_law_rules" = some (.ref (ga K "_law_rules"))
  g__law_book : mg "_law_book" = some (.ref (ga K "_law_book"))
  g_decide : mg "decide" = some (.ref (ga K "decide"))
  g__law_state : mg "_law_state" = some (.ref (ga K "_law_state"))
  g__law_go : mg "_law_go" = some (.ref (ga K "_law_go"))
  g_law : mg "law" = some (.ref (ga K "law"))
  z_isinstance : mg "isinstance" = none
  z_int : mg "int" = none
  z_bool : mg "bool" = none
  z_abs : mg "abs" = none
  z_len : mg "len" = none
  z_str : mg "str" = none
  z_NotImplemented : mg "NotImplemented" = none
  z_dict : mg "dict" = none
  z_range : mg "range" = none
  z_all : mg "all" = none
  z_zip : mg "zip" = none
  z_tuple : mg "tuple" = none
  z_list : mg "list" = none
  d_is_integer : ∃ fd, FunD K "is_integer" "is_integer" (defArgs s_is_integer) (defBody s_is_integer) (defScope s_is_integer) [] [] (ga K "is_integer") fd
  d_common : ∃ fd, FunD K "common" "common" (defArgs s_common) (defBody s_common) (defScope s_common) [] [] (ga K "common") fd
  d_Time___init__ : ∃ fd, FunD K "__init__" "Time.__init__" (defArgs s_Time___init__) (defBody s_Time___init__) (defScope s_Time___init__) [.int 1] [] (ma K (ga K "Time") "__init__") fd
  d_Time_top : ∃ fd, FunD K "top" "Time.top" (defArgs s_Time_top) (defBody s_Time_top) (defScope s_Time_top) [] [] (pgA K (ga K "Time") "top") fd
  d_Time_bottom : ∃ fd, FunD K "bottom" "Time.bottom" (defArgs s_Time_bottom) (defBody s_Time_bottom) (defScope s_Time_bottom) [] [] (pgA K (ga K "Time") "bottom") fd
  d_Time___add__ : ∃ fd, FunD K "__add__" "Time.__add__" (defArgs s_Time___add__) (defBody s_Time___add__) (defScope s_Time___add__) [] [] (ma K (ga K "Time") "__add__") fd
  d_Time___radd__ : ∃ fd, FunD K "__radd__" "Time.__radd__" (defArgs s_Time___radd__) (defBody s_Time___radd__) (defScope s_Time___radd__) [] [] (ma K (ga K "Time") "__radd__") fd
  d_Time___sub__ : ∃ fd, FunD K "__sub__" "Time.__sub__" (defArgs s_Time___sub__) (defBody s_Time___sub__) (defScope s_Time___sub__) [] [] (ma K (ga K "Time") "__sub__") fd
  d_Time___rsub__ : ∃ fd, FunD K "__rsub__" "Time.__rsub__" (defArgs s_Time___rsub__) (defBody s_Time___rsub__) (defScope s_Time___rsub__) [] [] (ma K (ga K "Time") "__rsub__") fd
  d_Time___mul__ : ∃ fd, FunD K "__mul__" "Time.__mul__" (defArgs s_Time___mul__) (defBody s_Time___mul__) (defScope s_Time___mul__) [] [] (ma K (ga K "Time") "__mul__") fd
  d_Time___rmul__ : ∃ fd, FunD K "__rmul__" "Time.__rmul__" (defArgs s_Time___rmul__) (defBody s_Time___rmul__) (defScope s_Time___rmul__) [] [] (ma K (ga K "Time") "__rmul__") fd
  d_Time___floordiv__ : ∃ fd, FunD K "__floordiv__" "Time.__floordiv__" (defArgs s_Time___floordiv__) (defBody s_Time___floordiv__) (defScope s_Time___floordiv__) [] [] (ma K (ga K "Time") "__floordiv__") fd
  d_Time___rfloordiv__ : ∃ fd, FunD K "__rfloordiv__" "Time.__rfloordiv__" (defArgs s_Time___rfloordiv__) (defBody s_Time___rfloordiv__) (defScope s_Time___rfloordiv__) [] [] (ma K (ga K "Time") "__rfloordiv__") fd
  d_Time___neg__ : ∃ fd, FunD K "__neg__" "Time.__neg__" (defArgs s_Time___neg__) (defBody s_Time___neg__) (defScope s_Time___neg__) [] [] (ma K (ga K "Time") "__neg__") fd
  d_Time___abs__ : ∃ fd, FunD K "__abs__" "Time.__abs__" (defArgs s_Time___abs__) (defBody s_Time___abs__) (defScope s_Time___abs__) [] [] (ma K (ga K "Time") "__abs__") fd
  d_Time___eq__ : ∃ fd, FunD K "__eq__" "Time.__eq__" (defArgs s_Time___eq__) (defBody s_Time___eq__) (defScope s_Time___eq__) [] [] (ma K (ga K "Time") "__eq__") fd
  d_Time___lt__ : ∃ fd, FunD K "__lt__" "Time.__lt__" (defArgs s_Time___lt__) (defBody s_Time___lt__) (defScope s_Time___lt__) [] [] (ma K (ga K "Time") "__lt__") fd
  d_Time___le__ : ∃ fd, FunD K "__le__" "Time.__le__" (defArgs s_Time___le__) (defBody s_Time___le__) (defScope s_Time___le__) [] [] (ma K (ga K "Time") "__le__") fd
  d_Time___gt__ : ∃ fd, FunD K "__gt__" "Time.__gt__" (defArgs s_Time___gt__) (defBody s_Time___gt__) (defScope s_Time___gt__) [] [] (ma K (ga K "Time") "__gt__") fd
  d_Time___ge__ : ∃ fd, FunD K "__ge__" "Time.__ge__" (defArgs s_Time___ge__) (defBody s_Time___ge__) (defScope s_Time___ge__) [] [] (ma K (ga K "Time") "__ge__") fd
  d_Time_over : ∃ fd, FunD K "over" "Time.over" (defArgs s_Time_over) (defBody s_Time_over) (defScope s_Time_over) [] [] (ma K (ga K "Time") "over") fd
  d_is_time : ∃ fd, FunD K "is_time" "is_time" (defArgs s_is_time) (defBody s_is_time) (defScope s_is_time) [] [] (ga K "is_time") fd
  d_time_of : ∃ fd, FunD K "time_of" "time_of" (defArgs s_time_of) (defBody s_time_of) (defScope s_time_of) [] [] (ga K "time_of") fd
  d_lesser : ∃ fd, FunD K "lesser" "lesser" (defArgs s_lesser) (defBody s_lesser) (defScope s_lesser) [] [] (ga K "lesser") fd
  d_greater : ∃ fd, FunD K "greater" "greater" (defArgs s_greater) (defBody s_greater) (defScope s_greater) [] [] (ga K "greater") fd
  d_is_positive : ∃ fd, FunD K "is_positive" "is_positive" (defArgs s_is_positive) (defBody s_is_positive) (defScope s_is_positive) [] [] (ga K "is_positive") fd
  d_is_latest : ∃ fd, FunD K "is_latest" "is_latest" (defArgs s_is_latest) (defBody s_is_latest) (defScope s_is_latest) [] [] (ga K "is_latest") fd
  d_is_roof : ∃ fd, FunD K "is_roof" "is_roof" (defArgs s_is_roof) (defBody s_is_roof) (defScope s_is_roof) [] [] (ga K "is_roof") fd
  d_is_allowed : ∃ fd, FunD K "is_allowed" "is_allowed" (defArgs s_is_allowed) (defBody s_is_allowed) (defScope s_is_allowed) [] [] (ga K "is_allowed") fd
  d_checked : ∃ fd, FunD K "checked" "checked" (defArgs s_checked) (defBody s_checked) (defScope s_checked) [] [] (ga K "checked") fd
  d_made_of : ∃ fd, FunD K "made_of" "made_of" (defArgs s_made_of) (defBody s_made_of) (defScope s_made_of) [] [] (ga K "made_of") fd
  d_Book___init__ : ∃ fd, FunD K "__init__" "Book.__init__" (defArgs s_Book___init__) (defBody s_Book___init__) (defScope s_Book___init__) [] [("sample", .str "first"), ("share", .int 1), ("latest", .non), ("factor", .int 1), ("margin", .int 0), ("floor", .non), ("roof", .non), ("doubled", .bl false), ("kept", .bl false)] (ma K (ga K "Book") "__init__") fd
  d_Book_sample : ∃ fd, FunD K "sample" "Book.sample" (defArgs s_Book_sample) (defBody s_Book_sample) (defScope s_Book_sample) [] [] (pgA K (ga K "Book") "sample") fd
  d_Book_share : ∃ fd, FunD K "share" "Book.share" (defArgs s_Book_share) (defBody s_Book_share) (defScope s_Book_share) [] [] (pgA K (ga K "Book") "share") fd
  d_Book_latest : ∃ fd, FunD K "latest" "Book.latest" (defArgs s_Book_latest) (defBody s_Book_latest) (defScope s_Book_latest) [] [] (pgA K (ga K "Book") "latest") fd
  d_Book_factor : ∃ fd, FunD K "factor" "Book.factor" (defArgs s_Book_factor) (defBody s_Book_factor) (defScope s_Book_factor) [] [] (pgA K (ga K "Book") "factor") fd
  d_Book_margin : ∃ fd, FunD K "margin" "Book.margin" (defArgs s_Book_margin) (defBody s_Book_margin) (defScope s_Book_margin) [] [] (pgA K (ga K "Book") "margin") fd
  d_Book_floor : ∃ fd, FunD K "floor" "Book.floor" (defArgs s_Book_floor) (defBody s_Book_floor) (defScope s_Book_floor) [] [] (pgA K (ga K "Book") "floor") fd
  d_Book_roof : ∃ fd, FunD K "roof" "Book.roof" (defArgs s_Book_roof) (defBody s_Book_roof) (defScope s_Book_roof) [] [] (pgA K (ga K "Book") "roof") fd
  d_Book_doubled : ∃ fd, FunD K "doubled" "Book.doubled" (defArgs s_Book_doubled) (defBody s_Book_doubled) (defScope s_Book_doubled) [] [] (pgA K (ga K "Book") "doubled") fd
  d_Book_kept : ∃ fd, FunD K "kept" "Book.kept" (defArgs s_Book_kept) (defBody s_Book_kept) (defScope s_Book_kept) [] [] (pgA K (ga K "Book") "kept") fd
  d_check_times : ∃ fd, FunD K "check_times" "check_times" (defArgs s_check_times) (defBody s_check_times) (defScope s_check_times) [] [] (ga K "check_times") fd
  d_waits_until : ∃ fd, FunD K "waits_until" "waits_until" (defArgs s_waits_until) (defBody s_waits_until) (defScope s_waits_until) [] [] (ga K "waits_until") fd
  d_resent : ∃ fd, FunD K "resent" "resent" (defArgs s_resent) (defBody s_resent) (defScope s_resent) [] [("doubled", .bl false)] (ga K "resent") fd
  d_lowest_wait : ∃ fd, FunD K "lowest_wait" "lowest_wait" (defArgs s_lowest_wait) (defBody s_lowest_wait) (defScope s_lowest_wait) [] [] (ga K "lowest_wait") fd
  d_stays_below_by_last : ∃ fd, FunD K "stays_below_by_last" "stays_below_by_last" (defArgs s_stays_below_by_last) (defBody s_stays_below_by_last) (defScope s_stays_below_by_last) [] [] (ga K "stays_below_by_last") fd
  d_all_below : ∃ fd, FunD K "all_below" "all_below" (defArgs s_all_below) (defBody s_all_below) (defScope s_all_below) [] [] (ga K "all_below") fd
  d_Verdict___init__ : ∃ fd, FunD K "__init__" "Verdict.__init__" (defArgs s_Verdict___init__) (defBody s_Verdict___init__) (defScope s_Verdict___init__) [] [] (ma K (ga K "Verdict") "__init__") fd
  d_Verdict_ends : ∃ fd, FunD K "ends" "Verdict.ends" (defArgs s_Verdict_ends) (defBody s_Verdict_ends) (defScope s_Verdict_ends) [] [] (pgA K (ga K "Verdict") "ends") fd
  d_Verdict_word : ∃ fd, FunD K "word" "Verdict.word" (defArgs s_Verdict_word) (defBody s_Verdict_word) (defScope s_Verdict_word) [] [] (pgA K (ga K "Verdict") "word") fd
  d_decide : ∃ fd, FunD K "decide" "decide" (defArgs s_decide) (defBody s_decide) (defScope s_decide) [] [] (ga K "decide") fd
  d__law_begin : ∃ fd, FunD K "_law_begin" "_law_begin" (defArgs s__law_begin) (defBody s__law_begin) (defScope s__law_begin) [] [] (ga K "_law_begin") fd
  d__law_draw : ∃ fd, FunD K "_law_draw" "_law_draw" (defArgs s__law_draw) (defBody s__law_draw) (defScope s__law_draw) [] [] (ga K "_law_draw") fd
  d__law_divisor : ∃ fd, FunD K "_law_divisor" "_law_divisor" (defArgs s__law_divisor) (defBody s__law_divisor) (defScope s__law_divisor) [] [] (ga K "_law_divisor") fd
  d__law_cut : ∃ fd, FunD K "_law_cut" "_law_cut" (defArgs s__law_cut) (defBody s__law_cut) (defScope s__law_cut) [] [] (ga K "_law_cut") fd
  d__law_sum : ∃ fd, FunD K "_law_sum" "_law_sum" (defArgs s__law_sum) (defBody s__law_sum) (defScope s__law_sum) [] [] (ga K "_law_sum") fd
  d__law_minus : ∃ fd, FunD K "_law_minus" "_law_minus" (defArgs s__law_minus) (defBody s__law_minus) (defScope s__law_minus) [] [] (ga K "_law_minus") fd
  d__law_by : ∃ fd, FunD K "_law_by" "_law_by" (defArgs s__law_by) (defBody s__law_by) (defScope s__law_by) [] [] (ga K "_law_by") fd
  d__law_over : ∃ fd, FunD K "_law_over" "_law_over" (defArgs s__law_over) (defBody s__law_over) (defScope s__law_over) [] [] (ga K "_law_over") fd
  d__law_less : ∃ fd, FunD K "_law_less" "_law_less" (defArgs s__law_less) (defBody s__law_less) (defScope s__law_less) [] [] (ga K "_law_less") fd
  d__law_most : ∃ fd, FunD K "_law_most" "_law_most" (defArgs s__law_most) (defBody s__law_most) (defScope s__law_most) [] [] (ga K "_law_most") fd
  d__law_least : ∃ fd, FunD K "_law_least" "_law_least" (defArgs s__law_least) (defBody s__law_least) (defScope s__law_least) [] [] (ga K "_law_least") fd
  d__law_time : ∃ fd, FunD K "_law_time" "_law_time" (defArgs s__law_time) (defBody s__law_time) (defScope s__law_time) [] [] (ga K "_law_time") fd
  d__law_moment : ∃ fd, FunD K "_law_moment" "_law_moment" (defArgs s__law_moment) (defBody s__law_moment) (defScope s__law_moment) [] [] (ga K "_law_moment") fd
  d__law_share : ∃ fd, FunD K "_law_share" "_law_share" (defArgs s__law_share) (defBody s__law_share) (defScope s__law_share) [] [] (ga K "_law_share") fd
  d__law_rules : ∃ fd, FunD K "_law_rules" "_law_rules" (defArgs s__law_rules) (defBody s__law_rules) (defScope s__law_rules) [] [] (ga K "_law_rules") fd
  d__law_book : ∃ fd, FunD K "_law_book" "_law_book" (defArgs s__law_book) (defBody s__law_book) (defScope s__law_book) [] [] (ga K "_law_book") fd
  d__law_wait : ∃ fd, FunD K "_law_wait" "_law_wait" (defArgs s__law_wait) (defBody s__law_wait) (defScope s__law_wait) [] [] (ga K "_law_wait") fd
  d__law_steady : ∃ fd, FunD K "_law_steady" "_law_steady" (defArgs s__law_steady) (defBody s__law_steady) (defScope s__law_steady) [] [] (ga K "_law_steady") fd
  d__law_state : ∃ fd, FunD K "_law_state" "_law_state" (defArgs s__law_state) (defBody s__law_state) (defScope s__law_state) [] [] (ga K "_law_state") fd
  d__law_estimate : ∃ fd, FunD K "_law_estimate" "_law_estimate" (defArgs s__law_estimate) (defBody s__law_estimate) (defScope s__law_estimate) [] [] (ga K "_law_estimate") fd
  d__law_learn : ∃ fd, FunD K "_law_learn" "_law_learn" (defArgs s__law_learn) (defBody s__law_learn) (defScope s__law_learn) [] [] (ga K "_law_learn") fd
  d__law_go : ∃ fd, FunD K "_law_go" "_law_go" (defArgs s__law_go) (defBody s__law_go) (defScope s__law_go) [] [] (ga K "_law_go") fd
  d__law_close : ∃ fd, FunD K "_law_close" "_law_close" (defArgs s__law_close) (defBody s__law_close) (defScope s__law_close) [] [] (ga K "_law_close") fd
  d__law_tame : ∃ fd, FunD K "_law_tame" "_law_tame" (defArgs s__law_tame) (defBody s__law_tame) (defScope s__law_tame) [] [] (ga K "_law_tame") fd
  d_law : ∃ fd, FunD K "law" "law" (defArgs s_law) (defBody s_law) (defScope s_law) [] [] (ga K "law") fd
theorem sc_is_integer : FnScope ["thing"] ["thing"] (defScope s_is_integer) := ⟨rfl, rfl, rfl, by decide +kernel, rfl, by decide +kernel, by decide +kernel⟩
theorem sc_common : FnScope ["one", "other"] ["one", "other"] (defScope s_common) := ⟨rfl, rfl, rfl, by decide +kernel, rfl, by decide +kernel, by decide +kernel⟩
theorem sc_Time___init__ : FnScope ["self", "top", "bottom", "part"] ["self", "top", "bottom"] (defScope s_Time___init__) := ⟨rfl, rfl, rfl, by decide +kernel, rfl, by decide +kernel, by decide +kernel⟩
theorem sc_Time_top : FnScope ["self"] ["self"] (defScope s_Time_top) := ⟨rfl, rfl, rfl, by decide +kernel, rfl, by decide +kernel, by decide +kernel⟩
theorem sc_Time_bottom : FnScope ["self"] ["self"] (defScope s_Time_bottom) := ⟨rfl, rfl, rfl, by decide +kernel, rfl, by decide +kernel, by decide +kernel⟩
theorem sc_Time___add__ : FnScope ["self", "other", "more", "top"] ["self", "other"] (defScope s_Time___add__) := ⟨rfl, rfl, rfl, by decide +kernel, rfl, by decide +kernel, by decide +kernel⟩
theorem sc_Time___radd__ : FnScope ["self", "other"] ["self", "other"] (defScope s_Time___radd__) := ⟨rfl, rfl, rfl, by decide +kernel, rfl, by decide +kernel, by decide +kernel⟩
theorem sc_Time___sub__ : FnScope ["self", "other", "less", "top"] ["self", "other"] (defScope s_Time___sub__) := ⟨rfl, rfl, rfl, by decide +kernel, rfl, by decide +kernel, by decide +kernel⟩
theorem sc_Time___rsub__ : FnScope ["self", "other"] ["self", "other"] (defScope s_Time___rsub__) := ⟨rfl, rfl, rfl, by decide +kernel, rfl, by decide +kernel, by decide +kernel⟩
theorem sc_Time___mul__ : FnScope ["self", "other", "by"] ["self", "other"] (defScope s_Time___mul__) := ⟨rfl, rfl, rfl, by decide +kernel, rfl, by decide +kernel, by decide +kernel⟩
theorem sc_Time___rmul__ : FnScope ["self", "other"] ["self", "other"] (defScope s_Time___rmul__) := ⟨rfl, rfl, rfl, by decide +kernel, rfl, by decide +kernel, by decide +kernel⟩
theorem sc_Time___floordiv__ : FnScope ["self", "other", "by"] ["self", "other"] (defScope s_Time___floordiv__) := ⟨rfl, rfl, rfl, by decide +kernel, rfl, by decide +kernel, by decide +kernel⟩
theorem sc_Time___rfloordiv__ : FnScope ["self", "other"] ["self", "other"] (defScope s_Time___rfloordiv__) := ⟨rfl, rfl, rfl, by decide +kernel, rfl, by decide +kernel, by decide +kernel⟩
theorem sc_Time___neg__ : FnScope ["self"] ["self"] (defScope s_Time___neg__) := ⟨rfl, rfl, rfl, by decide +kernel, rfl, by decide +kernel, by decide +kernel⟩
theorem sc_Time___abs__ : FnScope ["self"] ["self"] (defScope s_Time___abs__) := ⟨rfl, rfl, rfl, by decide +kernel, rfl, by decide +kernel, by decide +kernel⟩
theorem sc_Time___eq__ : FnScope ["self", "other", "same"] ["self", "other"] (defScope s_Time___eq__) := ⟨rfl, rfl, rfl, by decide +kernel, rfl, by decide +kernel, by decide +kernel⟩
theorem sc_Time___lt__ : FnScope ["self", "other", "later"] ["self", "other"] (defScope s_Time___lt__) := ⟨rfl, rfl, rfl, by decide +kernel, rfl, by decide +kernel, by decide +kernel⟩
theorem sc_Time___le__ : FnScope ["self", "other", "later"] ["self", "other"] (defScope s_Time___le__) := ⟨rfl, rfl, rfl, by decide +kernel, rfl, by decide +kernel, by decide +kernel⟩
theorem sc_Time___gt__ : FnScope ["self", "other", "sooner"] ["self", "other"] (defScope s_Time___gt__) := ⟨rfl, rfl, rfl, by decide +kernel, rfl, by decide +kernel, by decide +kernel⟩
theorem sc_Time___ge__ : FnScope ["self", "other", "sooner"] ["self", "other"] (defScope s_Time___ge__) := ⟨rfl, rfl, rfl, by decide +kernel, rfl, by decide +kernel, by decide +kernel⟩
theorem sc_Time_over : FnScope ["self", "other", "by"] ["self", "other"] (defScope s_Time_over) := ⟨rfl, rfl, rfl, by decide +kernel, rfl, by decide +kernel, by decide +kernel⟩
theorem sc_is_time : FnScope ["thing"] ["thing"] (defScope s_is_time) := ⟨rfl, rfl, rfl, by decide +kernel, rfl, by decide +kernel, by decide +kernel⟩
theorem sc_time_of : FnScope ["thing"] ["thing"] (defScope s_time_of) := ⟨rfl, rfl, rfl, by decide +kernel, rfl, by decide +kernel, by decide +kernel⟩
theorem sc_lesser : FnScope ["one", "other", "first", "second"] ["one", "other"] (defScope s_lesser) := ⟨rfl, rfl, rfl, by decide +kernel, rfl, by decide +kernel, by decide +kernel⟩
theorem sc_greater : FnScope ["one", "other", "first", "second"] ["one", "other"] (defScope s_greater) := ⟨rfl, rfl, rfl, by decide +kernel, rfl, by decide +kernel, by decide +kernel⟩
theorem sc_is_positive : FnScope ["thing"] ["thing"] (defScope s_is_positive) := ⟨rfl, rfl, rfl, by decide +kernel, rfl, by decide +kernel, by decide +kernel⟩
theorem sc_is_latest : FnScope ["thing", "share"] ["thing", "share"] (defScope s_is_latest) := ⟨rfl, rfl, rfl, by decide +kernel, rfl, by decide +kernel, by decide +kernel⟩
theorem sc_is_roof : FnScope ["thing", "floor"] ["thing", "floor"] (defScope s_is_roof) := ⟨rfl, rfl, rfl, by decide +kernel, rfl, by decide +kernel, by decide +kernel⟩
theorem sc_is_allowed : FnScope ["part", "rules", "thing"] ["part", "rules"] (defScope s_is_allowed) := ⟨rfl, rfl, rfl, by decide +kernel, rfl, by decide +kernel, by decide +kernel⟩
theorem sc_checked : FnScope ["rules", "part", "found"] ["rules"] (defScope s_checked) := ⟨rfl, rfl, rfl, by decide +kernel, rfl, by decide +kernel, by decide +kernel⟩
theorem sc_made_of : FnScope ["book", "estimate", "wait"] ["book", "estimate"] (defScope s_made_of) := ⟨rfl, rfl, rfl, by decide +kernel, rfl, by decide +kernel, by decide +kernel⟩
theorem sc_Book___init__ : FnScope ["self", "sample", "share", "latest", "factor", "margin", "floor", "roof", "doubled", "kept"] ["self", "sample", "share", "latest", "factor", "margin", "floor", "roof", "doubled", "kept"] (defScope s_Book___init__) := ⟨rfl, rfl, rfl, by decide +kernel, rfl, by decide +kernel, by decide +kernel⟩
theorem sc_Book_sample : FnScope ["self"] ["self"] (defScope s_Book_sample) := ⟨rfl, rfl, rfl, by decide +kernel, rfl, by decide +kernel, by decide +kernel⟩
theorem sc_Book_share : FnScope ["self"] ["self"] (defScope s_Book_share) := ⟨rfl, rfl, rfl, by decide +kernel, rfl, by decide +kernel, by decide +kernel⟩
theorem sc_Book_latest : FnScope ["self"] ["self"] (defScope s_Book_latest) := ⟨rfl, rfl, rfl, by decide +kernel, rfl, by decide +kernel, by decide +kernel⟩
theorem sc_Book_factor : FnScope ["self"] ["self"] (defScope s_Book_factor) := ⟨rfl, rfl, rfl, by decide +kernel, rfl, by decide +kernel, by decide +kernel⟩
theorem sc_Book_margin : FnScope ["self"] ["self"] (defScope s_Book_margin) := ⟨rfl, rfl, rfl, by decide +kernel, rfl, by decide +kernel, by decide +kernel⟩
theorem sc_Book_floor : FnScope ["self"] ["self"] (defScope s_Book_floor) := ⟨rfl, rfl, rfl, by decide +kernel, rfl, by decide +kernel, by decide +kernel⟩
theorem sc_Book_roof : FnScope ["self"] ["self"] (defScope s_Book_roof) := ⟨rfl, rfl, rfl, by decide +kernel, rfl, by decide +kernel, by decide +kernel⟩
theorem sc_Book_doubled : FnScope ["self"] ["self"] (defScope s_Book_doubled) := ⟨rfl, rfl, rfl, by decide +kernel, rfl, by decide +kernel, by decide +kernel⟩
theorem sc_Book_kept : FnScope ["self"] ["self"] (defScope s_Book_kept) := ⟨rfl, rfl, rfl, by decide +kernel, rfl, by decide +kernel, by decide +kernel⟩
theorem sc_check_times : FnScope ["things", "thing"] ["things"] (defScope s_check_times) := ⟨rfl, rfl, rfl, by decide +kernel, rfl, by decide +kernel, by decide +kernel⟩
theorem sc_waits_until : FnScope ["count", "doubled"] ["count", "doubled"] (defScope s_waits_until) := ⟨rfl, rfl, rfl, by decide +kernel, rfl, by decide +kernel, by decide +kernel⟩
theorem sc_resent : FnScope ["wait", "delay", "doubled", "plain"] ["wait", "delay", "doubled"] (defScope s_resent) := ⟨rfl, rfl, rfl, by decide +kernel, rfl, by decide +kernel, by decide +kernel⟩
theorem sc_lowest_wait : FnScope ["book"] ["book"] (defScope s_lowest_wait) := ⟨rfl, rfl, rfl, by decide +kernel, rfl, by decide +kernel, by decide +kernel⟩
theorem sc_stays_below_by_last : FnScope ["book", "delay", "at", "behind"] ["book", "delay"] (defScope s_stays_below_by_last) := ⟨rfl, rfl, rfl, by decide +kernel, rfl, by decide +kernel, by decide +kernel⟩
theorem sc_all_below : FnScope ["book", "delay", "goal"] ["book", "delay"] (defScope s_all_below) := ⟨rfl, rfl, rfl, by decide +kernel, rfl, by decide +kernel, by decide +kernel⟩
theorem sc_Verdict___init__ : FnScope ["self", "word", "number", "rounds"] ["self", "word", "number", "rounds"] (defScope s_Verdict___init__) := ⟨rfl, rfl, rfl, by decide +kernel, rfl, by decide +kernel, by decide +kernel⟩
theorem sc_Verdict_ends : FnScope ["self"] ["self"] (defScope s_Verdict_ends) := ⟨rfl, rfl, rfl, by decide +kernel, rfl, by decide +kernel, by decide +kernel⟩
theorem sc_Verdict_word : FnScope ["self"] ["self"] (defScope s_Verdict_word) := ⟨rfl, rfl, rfl, by decide +kernel, rfl, by decide +kernel, by decide +kernel⟩
theorem sc_decide : FnScope ["book", "estimate", "delay", "start", "goal", "first_wait", "course"] ["book", "estimate", "delay"] (defScope s_decide) := ⟨rfl, rfl, rfl, by decide +kernel, rfl, by decide +kernel, by decide +kernel⟩
theorem sc__law_begin : FnScope ["_law_script"] ["_law_script"] (defScope s__law_begin) := ⟨rfl, rfl, rfl, by decide +kernel, rfl, by decide +kernel, by decide +kernel⟩
theorem sc__law_draw : FnScope ["_law_source", "_law_limit", "_law_cell", "_law_digit"] ["_law_source", "_law_limit"] (defScope s__law_draw) := ⟨rfl, rfl, rfl, by decide +kernel, rfl, by decide +kernel, by decide +kernel⟩
theorem sc__law_divisor : FnScope ["_law_one", "_law_other"] ["_law_one", "_law_other"] (defScope s__law_divisor) := ⟨rfl, rfl, rfl, by decide +kernel, rfl, by decide +kernel, by decide +kernel⟩
theorem sc__law_cut : FnScope ["_law_upper", "_law_lower", "_law_part"] ["_law_upper", "_law_lower"] (defScope s__law_cut) := ⟨rfl, rfl, rfl, by decide +kernel, rfl, by decide +kernel, by decide +kernel⟩
theorem sc__law_sum : FnScope ["_law_one", "_law_other"] ["_law_one", "_law_other"] (defScope s__law_sum) := ⟨rfl, rfl, rfl, by decide +kernel, rfl, by decide +kernel, by decide +kernel⟩
theorem sc__law_minus : FnScope ["_law_one", "_law_other"] ["_law_one", "_law_other"] (defScope s__law_minus) := ⟨rfl, rfl, rfl, by decide +kernel, rfl, by decide +kernel, by decide +kernel⟩
theorem sc__law_by : FnScope ["_law_one", "_law_other"] ["_law_one", "_law_other"] (defScope s__law_by) := ⟨rfl, rfl, rfl, by decide +kernel, rfl, by decide +kernel, by decide +kernel⟩
theorem sc__law_over : FnScope ["_law_one", "_law_other"] ["_law_one", "_law_other"] (defScope s__law_over) := ⟨rfl, rfl, rfl, by decide +kernel, rfl, by decide +kernel, by decide +kernel⟩
theorem sc__law_less : FnScope ["_law_one", "_law_other"] ["_law_one", "_law_other"] (defScope s__law_less) := ⟨rfl, rfl, rfl, by decide +kernel, rfl, by decide +kernel, by decide +kernel⟩
theorem sc__law_most : FnScope ["_law_one", "_law_other"] ["_law_one", "_law_other"] (defScope s__law_most) := ⟨rfl, rfl, rfl, by decide +kernel, rfl, by decide +kernel, by decide +kernel⟩
theorem sc__law_least : FnScope ["_law_one", "_law_other"] ["_law_one", "_law_other"] (defScope s__law_least) := ⟨rfl, rfl, rfl, by decide +kernel, rfl, by decide +kernel, by decide +kernel⟩
theorem sc__law_time : FnScope ["_law_pair"] ["_law_pair"] (defScope s__law_time) := ⟨rfl, rfl, rfl, by decide +kernel, rfl, by decide +kernel, by decide +kernel⟩
theorem sc__law_moment : FnScope ["_law_source", "_law_top"] ["_law_source"] (defScope s__law_moment) := ⟨rfl, rfl, rfl, by decide +kernel, rfl, by decide +kernel, by decide +kernel⟩
theorem sc__law_share : FnScope ["_law_source", "_law_some"] ["_law_source"] (defScope s__law_share) := ⟨rfl, rfl, rfl, by decide +kernel, rfl, by decide +kernel, by decide +kernel⟩
theorem sc__law_rules : FnScope ["_law_source", "_law_words", "_law_lesson", "_law_portion", "_law_newest", "_law_multiple", "_law_extra", "_law_ground", "_law_above", "_law_cover", "_law_twofold", "_law_stored", "_law_found"] ["_law_source", "_law_words"] (defScope s__law_rules) := ⟨rfl, rfl, rfl, by decide +kernel, rfl, by decide +kernel, by decide +kernel⟩
theorem sc__law_book : FnScope ["_law_rules_here", "_law_one", "_law_two", "_law_three", "_law_low", "_law_high"] ["_law_rules_here"] (defScope s__law_book) := ⟨rfl, rfl, rfl, by decide +kernel, rfl, by decide +kernel, by decide +kernel⟩
theorem sc__law_wait : FnScope ["_law_rules_here", "_law_estimate_here", "_law_wait_here"] ["_law_rules_here", "_law_estimate_here"] (defScope s__law_wait) := ⟨rfl, rfl, rfl, by decide +kernel, rfl, by decide +kernel, by decide +kernel⟩
theorem sc__law_steady : FnScope ["_law_twofold", "_law_wait_here", "_law_delay", "_law_here", "_law_goal", "_law_start", "_law_count", "_law_lower"] ["_law_twofold", "_law_wait_here", "_law_delay"] (defScope s__law_steady) := ⟨rfl, rfl, rfl, by decide +kernel, rfl, by decide +kernel, by decide +kernel⟩
theorem sc__law_state : FnScope ["_law_rules_here", "_law_estimate_here"] ["_law_rules_here", "_law_estimate_here"] (defScope s__law_state) := ⟨rfl, rfl, rfl, by decide +kernel, rfl, by decide +kernel, by decide +kernel⟩
theorem sc__law_estimate : FnScope ["_law_state_here", "_law_found", "_law_one"] ["_law_state_here"] (defScope s__law_estimate) := ⟨rfl, rfl, rfl, by decide +kernel, rfl, by decide +kernel, by decide +kernel⟩
theorem sc__law_learn : FnScope ["_law_rules_here", "_law_state_here", "_law_lesson", "_law_last", "_law_before"] ["_law_rules_here", "_law_state_here", "_law_lesson", "_law_last"] (defScope s__law_learn) := ⟨rfl, rfl, rfl, by decide +kernel, rfl, by decide +kernel, by decide +kernel⟩
theorem sc__law_go : FnScope ["_law_rules_here", "_law_state_here", "_law_delay", "_law_count", "_law_start", "_law_last", "_law_lesson"] ["_law_rules_here", "_law_state_here", "_law_delay"] (defScope s__law_go) := ⟨rfl, rfl, rfl, by decide +kernel, rfl, by decide +kernel, by decide +kernel⟩
theorem sc__law_close : FnScope ["_law_rules_here", "_law_delay", "_law_least_here", "_law_behind", "_law_made"] ["_law_rules_here", "_law_delay"] (defScope s__law_close) := ⟨rfl, rfl, rfl, by decide +kernel, rfl, by decide +kernel, by decide +kernel⟩
theorem sc__law_tame : FnScope ["_law_source", "_law_rules_here", "_law_delay"] ["_law_source", "_law_rules_here", "_law_delay"] (defScope s__law_tame) := ⟨rfl, rfl, rfl, by decide +kernel, rfl, by decide +kernel, by decide +kernel⟩
theorem sc_law : FnScope ["_law_script", "_law_source", "_law_turn", "_law_delay", "_law_rules_here", "_law_estimate_here", "_law_book_here", "_law_one", "_law_other", "_law_state_here", "_law_at"] ["_law_script"] (defScope s_law) := ⟨rfl, rfl, rfl, by decide +kernel, rfl, by decide +kernel, by decide +kernel⟩
theorem tm_of {K : PySem.W.Frag} {mg : Str → Option Value} {h : Heap} (X : K.In h) (G : h.Ns mainGlobals mg) (c : SaysX ψ fn K) : Tm K mg :=
  ⟨excC_ok (c.fact 0),
   excC_ok (c.fact 1),
   excPlain_ok (c.fact 2),
   excC_ok (c.fact 3),
   excC_ok (c.fact 4),
   excC_ok (c.fact 5),
   excC_ok (c.fact 6),
   isC_ok (c.fact 7),
   kitC_ok (c.fact 8),
   mkr_ok (c.fact 9),
   noat_ok (c.fact 10),
   noat_ok (c.fact 11),
   of_decide_eq_true (c.fact 12),
   neOwn_ok (c.fact 13),
   absOwn_ok (c.fact 14),
   binOwn_ok (c.fact 15),
   noInpl_ok (c.fact 16),
   cmpOwn_ok (c.fact 17),
   cmpRef_ok (c.fact 18),
   binOwn_ok (c.fact 19),
   cmpOwn_ok (c.fact 20),
   cmpRef_ok (c.fact 21),
   cmpOwn_ok (c.fact 22),
   cmpRef_ok (c.fact 23),
   cmpOwn_ok (c.fact 24),
   cmpRef_ok (c.fact 25),
   cmpOwn_ok (c.fact 26),
   cmpRef_ok (c.fact 27),
   binOwn_ok (c.fact 28),
   noInpl_ok (c.fact 29),
   negOwn_ok (c.fact 30),
   binOwn_ok (c.fact 31),
   binRef_ok (c.fact 32),
   binRef_ok (c.fact 33),
   binRef_ok (c.fact 34),
   binRef_ok (c.fact 35),
   binOwn_ok (c.fact 36),
   noInpl_ok (c.fact 37),
   prop_ok (c.fact 38),
   meth_ok (c.fact 39),
   meth_ok (c.fact 40),
   prop_ok (c.fact 41),
   isC_ok (c.fact 42),
   kitC_ok (c.fact 43),
   mkr_ok (c.fact 44),
   noat_ok (c.fact 45),
   of_decide_eq_true (c.fact 46),
   prop_ok (c.fact 47),
   prop_ok (c.fact 48),
   prop_ok (c.fact 49),
   prop_ok (c.fact 50),
   prop_ok (c.fact 51),
   prop_ok (c.fact 52),
   meth_ok (c.fact 53),
   prop_ok (c.fact 54),
   prop_ok (c.fact 55),
   prop_ok (c.fact 56),
   isC_ok (c.fact 57),
   kitC_ok (c.fact 58),
   mkr_ok (c.fact 59),
   noat_ok (c.fact 60),
   noat_ok (c.fact 61),
   noat_ok (c.fact 62),
   noat_ok (c.fact 63),
   meth_ok (c.fact 64),
   meth_ok (c.fact 65),
   meth_ok (c.fact 66),
   isC_ok (c.fact 67),
   kitC_ok (c.fact 68),
   mkr_ok (c.fact 69),
   noat_ok (c.fact 70),
   noat_ok (c.fact 71),
   noat_ok (c.fact 72),
   of_decide_eq_true (c.fact 73),
   neOwn_ok (c.fact 74),
   boolOwn_ok (c.fact 75),
   cmpOwn_ok (c.fact 76),
   cmpRef_ok (c.fact 77),
   prop_ok (c.fact 78),
   prop_ok (c.fact 79),
   prop_ok (c.fact 80),
   prop_ok (c.fact 81),
   isC_ok (c.fact 82),
   kitC_ok (c.fact 83),
   mkr_ok (c.fact 84),
   noat_ok (c.fact 85),
   noat_ok (c.fact 86),
   noat_ok (c.fact 87),
   noat_ok (c.fact 88),
   noat_ok (c.fact 89),
   noat_ok (c.fact 90),
   noat_ok (c.fact 91),
   meth_ok (c.fact 92),
   meth_ok (c.fact 93),
   meth_ok (c.fact 94),
   int_ok X G (c.fact 95),
   str_ok X G (c.fact 96),
   glo_ok X G (c.fact 97),
   glo_ok X G (c.fact 98),
   glo_ok X G (c.fact 99),
   glo_ok X G (c.fact 100),
   glo_ok X G (c.fact 101),
   glo_ok X G (c.fact 102),
   int_ok X G (c.fact 103),
   glo_ok X G (c.fact 104),
   glo_ok X G (c.fact 105),
   glo_ok X G (c.fact 106),
   int_ok X G (c.fact 107),
   glo_ok X G (c.fact 108),
   glo_ok X G (c.fact 109),
   kTup_ok (c.fact 110),
   glo_ok X G (c.fact 111),
   glo_ok X G (c.fact 112),
   glo_ok X G (c.fact 113),
   kTup_ok (c.fact 114),
   glo_ok X G (c.fact 115),
   glo_ok X G (c.fact 116),
   glo_ok X G (c.fact 117),
   glo_ok X G (c.fact 118),
   glo_ok X G (c.fact 119),
   glo_ok X G (c.fact 120),
   glo_ok X G (c.fact 121),
   glo_ok X G (c.fact 122),
   glo_ok X G (c.fact 123),
   glo_ok X G (c.fact 124),
   glo_ok X G (c.fact 125),
   glo_ok X G (c.fact 126),
   glo_ok X G (c.fact 127),
   glo_ok X G (c.fact 128),
   glo_ok X G (c.fact 129),
   glo_ok X G (c.fact 130),
   int_ok X G (c.fact 131),
   glo_ok X G (c.fact 132),
   glo_ok X G (c.fact 133),
   glo_ok X G (c.fact 134),
   glo_ok X G (c.fact 135),
   glo_ok X G (c.fact 136),
   glo_ok X G (c.fact 137),
   glo_ok X G (c.fact 138),
   glo_ok X G (c.fact 139),
   glo_ok X G (c.fact 140),
   glo_ok X G (c.fact 141),
   glo_ok X G (c.fact 142),
   int_ok X G (c.fact 143),
   glo_ok X G (c.fact 144),
   glo_ok X G (c.fact 145),
   int_ok X G (c.fact 146),
   glo_ok X G (c.fact 147),
   glo_ok X G (c.fact 148),
   glo_ok X G (c.fact 149),
   glo_ok X G (c.fact 150),
   glo_ok X G (c.fact 151),
   glo_ok X G (c.fact 152),
   glo_ok X G (c.fact 153),
   glo_ok X G (c.fact 154),
   glo_ok X G (c.fact 155),
   glo_ok X G (c.fact 156),
   glo_ok X G (c.fact 157),
   glo_ok X G (c.fact 158),
   glo_ok X G (c.fact 159),
   glo_ok X G (c.fact 160),
   glo_ok X G (c.fact 161),
   glo_ok X G (c.fact 162),
   glo_ok X G (c.fact 163),
   glo_ok X G (c.fact 164),
   glo_ok X G (c.fact 165),
   glo_ok X G (c.fact 166),
   glo_ok X G (c.fact 167),
   glo_ok X G (c.fact 168),
   glo_ok X G (c.fact 169),
   glo_ok X G (c.fact 170),
   glo_ok X G (c.fact 171),
   glo_ok X G (c.fact 172),
   glo_ok X G (c.fact 173),
   glo_ok X G (c.fact 174),
   glo_ok X G (c.fact 175),
   glo_ok X G (c.fact 176),
   glo_ok X G (c.fact 177),
   glo_ok X G (c.fact 178),
   free_ok X G (c.fact 179),
   free_ok X G (c.fact 180),
   free_ok X G (c.fact 181),
   free_ok X G (c.fact 182),
   free_ok X G (c.fact 183),
   free_ok X G (c.fact 184),
   free_ok X G (c.fact 185),
   free_ok X G (c.fact 186),
   free_ok X G (c.fact 187),
   free_ok X G (c.fact 188),
   free_ok X G (c.fact 189),
   free_ok X G (c.fact 190),
   free_ok X G (c.fact 191),
   c.dfn 0,
   c.dfn 1,
   c.dfn 2,
   c.dfn 3,
   c.dfn 4,
   c.dfn 5,
   c.dfn 6,
   c.dfn 7,
   c.dfn 8,
   c.dfn 9,
   c.dfn 10,
   c.dfn 11,
   c.dfn 12,
   c.dfn 13,
   c.dfn 14,
   c.dfn 15,
   c.dfn 16,
   c.dfn 17,
   c.dfn 18,
   c.dfn 19,
   c.dfn 20,
   c.dfn 21,
   c.dfn 22,
   c.dfn 23,
   c.dfn 24,
   c.dfn 25,
   c.dfn 26,
   c.dfn 27,
   c.dfn 28,
   c.dfn 29,
   c.dfn 30,
   c.dfn 31,
   c.dfn 32,
   c.dfn 33,
   c.dfn 34,
   c.dfn 35,
   c.dfn 36,
   c.dfn 37,
   c.dfn 38,
   c.dfn 39,
   c.dfn 40,
   c.dfn 41,
   c.dfn 42,
   c.dfn 43,
   c.dfn 44,
   c.dfn 45,
   c.dfn 46,
   c.dfn 47,
   c.dfn 48,
   c.dfn 49,
   c.dfn 50,
   c.dfn 51,
   c.dfn 52,
   c.dfn 53,
   c.dfn 54,
   c.dfn 55,
   c.dfn 56,
   c.dfn 57,
   c.dfn 58,
   c.dfn 59,
   c.dfn 60,
   c.dfn 61,
   c.dfn 62,
   c.dfn 63,
   c.dfn 64,
   c.dfn 65,
   c.dfn 66,
   c.dfn 67,
   c.dfn 68,
   c.dfn 69,
   c.dfn 70,
   c.dfn 71,
   c.dfn 72,
   c.dfn 73,
   c.dfn 74,
   c.dfn 75⟩
local macro_rules | `(tactic| walk_at "w") => `(tactic| first | ((with_reducible show Rs.WE _ _ _ _ _); walk_at "wE") | ((with_reducible show Rs.Op2 _ _ _ _ _ _); walk_at "wO") | ((with_reducible show Rs.WB _ _ _ _ _); walk_at "wB") | ((with_reducible show Rs.WS _ _ _ _ _); walk_at "wS") | ((with_reducible show Rs.WA _ _ _ _ _); walk_at "wA") | ((with_reducible show Rs.WT _ _ _ _ _); walk_at "wT") | ((with_reducible show L2.rIx _ _ _ _ _); walk_at "wR") | ((with_reducible show ite _ _ _); walk_at "wI") | walk_at "wX" | fail)
/-! steps over the text -/
local macro_rules | `(tactic| walk_at "wE") => `(tactic| first | ((with_reducible refine' we_name ?n ?h ?_); (case n => with_reducible assumption); (case h => exact rfl)) | with_reducible refine' we_int ?_ | with_reducible refine' we_str ?_ | with_reducible refine' we_bool ?_ | with_reducible refine' we_none ?_ | ((with_reducible refine' we_ref ?g ?m ?_); (case g => with_reducible assumption); (case m => with_reducible assumption)) | ((with_reducible refine' we_cint ?g ?m ?_); (case g => with_reducible assumption); (case m => with_reducible assumption)) | ((with_reducible refine' we_cstr ?g ?m ?_); (case g => with_reducible assumption); (case m => with_reducible assumption)) | with_reducible refine' we_bin ?_ | (with_reducible refine' we_cmp ?_ ?hm; (case hm => first | exact nomark _ | rfl)) | ((with_reducible refine' we_chain ?_ ?h1); (case h1 => rfl)) | with_reducible refine' we_and2 ?_ | with_reducible refine' we_and3 ?_ | with_reducible refine' we_or2 ?_ | with_reducible refine' we_not ?_ | with_reducible refine' we_un ?_ | with_reducible refine' we_if ?_ | ((with_reducible refine' we_isi ?b ?_ ?h1 ?h2 ?h3); (case b => with_reducible assumption); (case h1 => rfl); (case h2 => rfl); (case h3 => rfl)) | ((with_reducible refine' we_ty ?b ?hv ?_ ?hn ?hd); (case b => with_reducible assumption); (case hv => first | exact PyProof.Rows.boot_int | exact PyProof.Rows.boot_bool | exact PyProof.Rows.boot_str); (case hn => decide); (case hd => decide)) | ((with_reducible refine' we_call ?B ?g ?f ?hj ?_ ?hs ?hl); (case B => assumption); (case g => with_reducible assumption); (case f => with_reducible assumption); (case hj => decide); (case hs => rfl); (case hl => rfl)) | with_reducible refine' we_tup ?_ | with_reducible refine' we_lst ?_ | fail)
local macro_rules | `(tactic| walk_at "wO") => `(tactic| first | with_reducible refine' o_add ?_ | with_reducible refine' o_sub ?_ | with_reducible refine' o_lt ?_ | with_reducible refine' o_le ?_ | with_reducible refine' o_gt ?_ | with_reducible refine' o_ge ?_ | with_reducible refine' o_eq ?_ | with_reducible refine' o_ne ?_ | with_reducible refine' o_isN ?_ | with_reducible refine' o_notN ?_ | fail)
local macro_rules | `(tactic| walk_at "wB") => `(tactic| first | with_reducible refine' wb_one ?_ | with_reducible refine' wb_cons ?_ | with_reducible refine' wb_nil ?_ | fail)
local macro_rules | `(tactic| walk_at "wS") => `(tactic| first | ((with_reducible refine' ws_set ?n ?_ ?hs); (case n => with_reducible assumption); (case hs => rfl)) | with_reducible refine' ws_ret ?_ | with_reducible refine' ws_if ?_ | ((with_reducible refine' ws_par ?B ?n1 ?n2 ?hk ?hx ?hy ?_ ?h1 ?h2 ?h3 ?h4 ?h5 ?h6 ?h7 ?h8); (case B => assumption); (case n1 => with_reducible assumption); (case n2 => with_reducible assumption); (case hk => assumption); (case hx => assumption); (case hy => assumption); (case h1 => decide); (case h2 => decide); (case h3 => rfl); (case h4 => rfl); (case h5 => rfl); (case h6 => rfl); (case h7 => rfl); (case h8 => rfl)) | fail)
local macro_rules | `(tactic| walk_at "wA") => `(tactic| first | ((with_reducible refine' wa_two ?_ ?h1 ?h2); (case h1 => rfl); (case h2 => rfl)) | ((with_reducible refine' wa_one ?_ ?h1); (case h1 => rfl)) | ((with_reducible refine' wa_three ?_ ?h1 ?h2 ?h3); (case h1 => rfl); (case h2 => rfl); (case h3 => rfl)) | ((with_reducible refine' wa_cons ?_ ?h1); (case h1 => rfl)) | with_reducible refine' wa_nil ?_ | fail)
local macro_rules | `(tactic| walk_at "wT") => `(tactic| first | (with_reducible refine' wt_cmp ?_ ?hm; (case hm => first | exact nomark _ | rfl)) | ((with_reducible refine' wt_chain ?_ ?h1); (case h1 => rfl)) | with_reducible refine' wt_and2 ?_ | with_reducible refine' wt_and3 ?_ | with_reducible refine' wt_or2 ?_ | with_reducible refine' wt_or3 ?_ | with_reducible refine' wt_or4 ?_ | with_reducible refine' wt_not ?_ | ((with_reducible refine' wt_val ?_ ?he); (case he => intro _; rfl)) | fail)
local macro_rules | `(tactic| walk_at "wI") => `(tactic| first | with_reducible refine' iteT ?_ | with_reducible refine' iteNT ?_ | with_reducible refine' iteNF ?_ | with_reducible refine' iteF ?_ | fail)
local macro_rules | `(tactic| walk_at "wX") => `(tactic| first | with_reducible refine' o_neg ?_ | with_reducible refine' bl_ok ?_ | with_reducible refine' int_ok ?_ | fail)

/-! ### is_integer, common, is_time, time_of, Time(..) -/
section
variable {P : Program} {w : World} {K : PySem.W.Frag} {mg : Str → Option Value} {base : Heap}
def spIsInteger (K : PySem.W.Frag) : Sp := fun vs H Q _ => ∃ v t r1 r2, vs = [v] ∧ TyX K H v t ∧ PySem.W.kitOne K t (.type "int") = some r1 ∧ PySem.W.kitOne K t (.type "bool") = some r2 ∧ Q (.bl (r1 && !r2)) H
theorem f_is_integer (T : Tm K mg) : GFn P w K mg base 1 "is_integer" (spIsInteger K) := by
  obtain ⟨fd, F⟩ := T.d_is_integer
  refine GFn.mk F T.g_is_integer (def_ok F sc_is_integer (fun vs H Q E h => by obtain ⟨v, t, r1, r2, rfl, _⟩ := h; rfl) ?_) (F.bindsN fun _ _ _ _ _ _ us hl => match us, hl with | [_], _ => rfl)
  intro X eP ew eK em eb eN es hf nd H vs Q E B h
  subst eP ew eK em eb
  have n0 : Sl X 0 "thing" := slot_of eN es hf nd rfl (by first | exact Or.inl rfl | exact Or.inr rfl) (by decide) (by decide)
  have z_isinstance : Bn X "isinstance" := bn_of es rfl T.z_isinstance
  have z_int : Bn X "int" := bn_of es rfl T.z_int
  have z_bool : Bn X "bool" := bn_of es rfl T.z_bool
  obtain ⟨v, t, r1, r2, rfl, ht, h1, h2, q⟩ := h
  show WB X [_] _ [some v] H
  repeat walk_at "w"
  refine ⟨r1, ⟨t, _, .ty _, ht, h1⟩, ?_⟩
  repeat walk_at "w"
  refine ite_b (fun e => ?_) (fun e => ?_)
  · subst e
    repeat walk_at "w"
    refine ⟨r2, ⟨t, _, .ty _, ht, h2⟩, ?_⟩
    repeat walk_at "w"
    exact q
  · subst e
    exact q
def spCommon : Sp := fun vs H Q _ => ∃ a b, vs = [.int a, .int b] ∧ Q (.int (g1 a b)) H
theorem f_common (T : Tm K mg) : GFn P w K mg base 1 "common" spCommon := by
  obtain ⟨fd, F⟩ := T.d_common
  refine GFn.mk F T.g_common (def_ok F sc_common (fun vs H Q E h => by obtain ⟨a, b, rfl, _⟩ := h; rfl) ?_) (F.bindsN fun _ _ _ _ _ _ us hl => match us, hl with | [_, _], _ => rfl)
  intro X eP ew eK em eb eN es hf nd H vs Q E B h
  subst eP ew eK em eb
  have n0 : Sl X 0 "one" := slot_of eN es hf nd rfl (by first | exact Or.inl rfl | exact Or.inr rfl) (by decide) (by decide)
  have n1 : Sl X 1 "other" := slot_of eN es hf nd rfl (by first | exact Or.inl rfl | exact Or.inr rfl) (by decide) (by decide)
  have z_abs : Bn X "abs" := bn_of es rfl T.z_abs
  have kb : X.env.blockKind = .function := blk_of es rfl
  have k_one : X.env.kindOf "one" = some .local := kd_of es rfl
  have k_other : X.env.kindOf "other" = some .local := kd_of es rfl
  obtain ⟨a, b, rfl, q⟩ := h
  show WB X [_, _, _, _] _ [some (.int a), some (.int b)] H
  repeat walk_at "w"
  refine we_abs z_abs ?_
  repeat walk_at "w"
  refine we_abs z_abs ?_
  repeat walk_at "w"
  refine ws_while_by (fun σ H' => ∃ x y : Int, σ = [some (.int x), some (.int y)] ∧ 0 ≤ x ∧ 0 ≤ y ∧ Int.gcd x y = Int.gcd a b ∧ H' = H) (fun σ _ => match σ with | [_, some (.int y)] => y.toNat | _ => 0) B
    ⟨_, _, rfl, abs_nn a, abs_nn b, gcd_abs a b, rfl⟩ ?_
  rintro σ H' ⟨x, y, rfl, hx, hy, hg, rfl⟩
  repeat walk_at "w"
  refine ite_ndec (fun hc => ?_) (fun hc => ?_)
  · repeat walk_at "w"
    refine o_mod (by omega) ?_
    exact ⟨⟨y, x % y, rfl, hy, Int.emod_nonneg _ hc, by rw [gcd_turn, hg], rfl⟩, by have := Int.emod_lt_of_pos x (show 0 < y by omega); have := Int.emod_nonneg x hc; show (x % y).toNat < y.toNat; omega⟩
  · repeat walk_at "w"
    have e : g1 a b = if x > 0 then x else 1 := by
      unfold g1
      rw [← hg, hc, Int.gcd_zero_right, Int.natAbs_of_nonneg hx]
    refine ite_dec (fun hp => ?_) (fun hp => ?_)
    · repeat walk_at "w"
      rw [e, if_pos hp] at q
      exact q
    · repeat walk_at "w"
      rw [e, if_neg hp] at q
      exact q
def spIsTime (K : PySem.W.Frag) : Sp := fun vs H Q _ => ∃ v t r0 r1 r2, vs = [v] ∧ TyX K H v t ∧ PySem.W.kitOne K t (.ref (ga K "Time")) = some r0 ∧ PySem.W.kitOne K t (.type "int") = some r1 ∧ PySem.W.kitOne K t (.type "bool") = some r2 ∧ Q (.bl (r0 || (r1 && !r2))) H
theorem f_is_time (T : Tm K mg) : GFn P w K mg base 2 "is_time" (spIsTime K) := by
  obtain ⟨fd, F⟩ := T.d_is_time
  refine GFn.mk F T.g_is_time (def_ok F sc_is_time (fun vs H Q E h => by obtain ⟨v, t, r0, r1, r2, rfl, _⟩ := h; rfl) ?_) (F.bindsN fun _ _ _ _ _ _ us hl => match us, hl with | [_], _ => rfl)
  intro X eP ew eK em eb eN es hf nd H vs Q E B h
  subst eP ew eK em eb
  have n0 : Sl X 0 "thing" := slot_of eN es hf nd rfl (by first | exact Or.inl rfl | exact Or.inr rfl) (by decide) (by decide)
  have z_isinstance : Bn X "isinstance" := bn_of es rfl T.z_isinstance
  have g_Time : Gn X "Time" := gn_of es rfl (by decide)
  have m_Time := T.g_Time
  have g_is_integer : Gn X "is_integer" := gn_of es rfl (by decide)
  have F_is_integer := f_is_integer (P := X.prog) (w := X.w) (base := X.base) T
  obtain ⟨v, t, r0, r1, r2, rfl, ht, h0, h1, h2, q⟩ := h
  show WB X [_] _ [some v] H
  repeat walk_at "w"
  refine ⟨r0, ⟨t, _, .own _, ht, h0⟩, ?_⟩
  repeat walk_at "w"
  refine ite_b (fun e => ?_) (fun e => ?_)
  · subst e
    exact q
  · subst e
    repeat walk_at "w"
    exact ⟨v, t, r1, r2, rfl, ht, h1, h2, q⟩
end

/-! ### kinds of values -/
theorem g1_sz {t d : Int} (h : d ≠ 0) (hz : d.natAbs < 2 ^ 9000) : (g1 t d).natAbs < 2 ^ 9000 := Nat.lt_of_le_of_lt (g1_le h) hz
section
variable {K : PySem.W.Frag} {mg : Str → Option Value} {H : Hp} {Q : VK} {E : XK} {v : V} {q : Rat} {i : Int}
abbrev CT (K : PySem.W.Frag) : Addr := ga K "Time"
theorem k_ii : PySem.W.kitOne K (.type "int") (.type "int") = some true := kit_ty (by decide +kernel)
theorem k_ib : PySem.W.kitOne K (.type "int") (.type "bool") = some false := kit_ty (by decide +kernel)
theorem k_is_ : PySem.W.kitOne K (.type "int") (.type "str") = some false := kit_ty (by decide +kernel)
theorem k_bi : PySem.W.kitOne K (.type "bool") (.type "int") = some true := kit_ty (by decide +kernel)
theorem k_bb : PySem.W.kitOne K (.type "bool") (.type "bool") = some true := kit_ty (by decide +kernel)
theorem k_si : PySem.W.kitOne K (.type "str") (.type "int") = some false := kit_ty (by decide +kernel)
theorem k_sb : PySem.W.kitOne K (.type "str") (.type "bool") = some false := kit_ty (by decide +kernel)
theorem k_ss : PySem.W.kitOne K (.type "str") (.type "str") = some true := kit_ty (by decide +kernel)
theorem k_ni : PySem.W.kitOne K (.type "NoneType") (.type "int") = some false := kit_ty (by decide +kernel)
theorem k_nb : PySem.W.kitOne K (.type "NoneType") (.type "bool") = some false := kit_ty (by decide +kernel)
theorem k_ti : PySem.W.kitOne K (.type "tuple") (.type "int") = some false := kit_ty (by decide +kernel)
theorem k_tb : PySem.W.kitOne K (.type "tuple") (.type "bool") = some false := kit_ty (by decide +kernel)
theorem k_li : PySem.W.kitOne K (.type "list") (.type "int") = some false := kit_ty (by decide +kernel)
theorem k_lb : PySem.W.kitOne K (.type "list") (.type "bool") = some false := kit_ty (by decide +kernel)
theorem tyT (T : Tm K mg) (h : TimeV (CT K) q v H) : TyX K H v (.ref (CT K)) := by
  obtain ⟨p, dx, rfl, h⟩ := h
  exact T.c_Time.ty h
/-- is_integer's, is_time's answers -/
theorem ii_int (z : Q (.bl true) H) : spIsInteger K [.int i] H Q E := ⟨_, _, true, false, rfl, .base (.int i), k_ii, k_ib, z⟩
theorem it_int (T : Tm K mg) (z : Q (.bl true) H) : spIsTime K [.int i] H Q E := ⟨_, _, false, true, false, rfl, .base (.int i), T.k_Time.ofInt, k_ii, k_ib, z⟩
theorem it_T (T : Tm K mg) (h : TimeV (CT K) q v H) (z : Q (.bl true) H) : spIsTime K [v] H Q E := ⟨_, _, true, false, false, rfl, tyT T h, T.k_Time.self, T.k_Time.int, T.k_Time.bool, z⟩
/-- a time or an int: what time_of and the operators take -/
def Tim (K : PySem.W.Frag) (q : Rat) (v : V) (H : Hp) : Prop := TimeV (CT K) q v H ∨ ∃ i : Int, v = .int i ∧ q = (i : Rat)
theorem Tim.mono {H' : Hp} (x : Ex H H') (h : Tim K q v H) : Tim K q v H' := h.elim (fun h => .inl (h.mono x)) .inr
theorem it_tim (T : Tm K mg) (h : Tim K q v H) (z : Q (.bl true) H) : spIsTime K [v] H Q E := by
  rcases h with h | ⟨i, rfl, _⟩
  · exact it_T T h z
  · exact it_int T z
end
local macro_rules | `(tactic| walk_at "wX") => `(tactic| first | with_reducible refine' ii_int ?_ | (with_reducible refine' it_int ?T ?_; (case T => assumption)) | fail)
section
variable {P : Program} {w : World} {K : PySem.W.Frag} {mg : Str → Option Value} {base : Heap}
/-! ### fields -/
section
variable {X : Cx} {σ : L2.St} {H : Hp} {Q : VK} {e : Expr} {pos : Pos}
theorem we_over (T : Tm X.K X.mg) (h : WE X e σ H fun y H1 => ∃ q, TimeV (CT X.K) q y H1 ∧ Q (.int q.num) H1) (hb : attributeBase e "over_line" X.env (eval e X.env) = eval e X.env := by rfl) : WE X (.Attribute e "over_line" pos) σ H Q :=
  we_fld T.c_Time.cl T.n_Time_over_line (we_mono h fun y H1 z => by
    obtain ⟨q, ⟨p, dx, rfl, ht⟩, z⟩ := z
    exact ⟨p, dx, _, _, rfl, ht, tfs_over q, z⟩) hb
theorem we_under (T : Tm X.K X.mg) (h : WE X e σ H fun y H1 => ∃ q, TimeV (CT X.K) q y H1 ∧ Q (.int q.den) H1) (hb : attributeBase e "under_line" X.env (eval e X.env) = eval e X.env := by rfl) : WE X (.Attribute e "under_line" pos) σ H Q :=
  we_fld T.c_Time.cl T.n_Time_under_line (we_mono h fun y H1 z => by
    obtain ⟨q, ⟨p, dx, rfl, ht⟩, z⟩ := z
    exact ⟨p, dx, _, _, rfl, ht, tfs_under q, z⟩) hb
end
/-! ### Time.__init__ -/
def spInit (K : PySem.W.Frag) : Sp := fun vs H Q _ => ∃ p dx t d, vs = [.ref p, .int t, .int d] ∧ H p = some (.ins (CT K) dx []) ∧ d ≠ 0 ∧ (g1 t d).natAbs < 2 ^ 9000 ∧ Q .non (upd H p (.ins (CT K) dx (tfs (Rat.divInt t d))))
theorem ok_init {fd : FuncData} (T : Tm K mg) (F : FunD K "__init__" "Time.__init__" (defArgs s_Time___init__) (defBody s_Time___init__) (defScope s_Time___init__) [.int 1] [] (ma K (CT K) "__init__") fd) :
    FnOk P w K mg base (RX P w) 2 (ma K (CT K) "__init__") fd ["self", "top", "bottom"] (spInit K) := by
  refine def_ok F sc_Time___init__ (fun vs H Q E h => by obtain ⟨p, dx, t, d, rfl, _⟩ := h; rfl) ?_
  intro X eP ew eK em eb eN es hf nd H vs Q E B h
  subst eP ew eK em eb
  have n0 : Sl X 0 "self" := slot_of eN es hf nd rfl (by first | exact Or.inl rfl | exact Or.inr rfl) (by decide) (by decide)
  have n1 : Sl X 1 "top" := slot_of eN es hf nd rfl (by first | exact Or.inl rfl | exact Or.inr rfl) (by decide) (by decide)
  have n2 : Sl X 2 "bottom" := slot_of eN es hf nd rfl (by first | exact Or.inl rfl | exact Or.inr rfl) (by decide) (by decide)
  have n3 : Sl X 3 "part" := slot_of eN es hf nd rfl (by first | exact Or.inl rfl | exact Or.inr rfl) (by decide) (by decide)
  have g_is_integer : Gn X "is_integer" := gn_of es rfl (by decide)
  have F_is_integer := f_is_integer (P := X.prog) (w := X.w) (base := X.base) T
  have g_NoTime : Gn X "NoTime" := gn_of es rfl (by decide)
  have m_NoTime := T.g_NoTime
  have g_common : Gn X "common" := gn_of es rfl (by decide)
  have F_common := f_common (P := X.prog) (w := X.w) (base := X.base) T
  obtain ⟨p, dx, t, d, rfl, hp, d0, dz, q⟩ := h
  show WB X [_, _, _, _, _, _] _ [some (.ref p), some (.int t), some (.int d), none] H
  repeat walk_at "w"
  refine ite_dec (fun h => absurd h d0) fun _ => ?_
  repeat walk_at "w"
  refine ⟨t, d, rfl, ?_⟩
  repeat walk_at "w"
  have g0 := g1_pos t d
  have gz := dz
  have hn := made_num (t := t) d0
  have hd := made_den (t := t) d0
  have fin : ∀ {D : Ends} {σ : L2.St} {g : Int}, D.nx σ (upd H p (.ins (CT X.K) dx (tfs (Rat.divInt t d)))) → g = (if d < 0 then 0 - g1 t d else g1 t d) →
      D.nx σ (upd (upd H p (.ins (CT X.K) dx (putF "over_line" (.int (t.fdiv g)) []))) p (.ins (CT X.K) dx (putF "under_line" (.int (d.fdiv g)) (putF "over_line" (.int (t.fdiv g)) [])))) := by
    intro D σ g z e
    subst e
    rw [hn, hd, tfs_put, upd_upd]
    exact z
  refine ite_dec (fun hneg => ?_) fun hneg => ?_
  · repeat walk_at "w"
    refine ws_fld T.c_Time.cl T.n_Time_over_line ?_
    repeat walk_at "w"
    refine o_fdiv (by omega) (log2_small (m := 9000) (by rw [Int.zero_sub, Int.natAbs_neg]; exact gz) (by decide) (by decide)) ?_
    repeat walk_at "w"
    refine ⟨p, dx, _, rfl, hp, by decide, ?_⟩
    repeat walk_at "w"
    refine ws_fld T.c_Time.cl T.n_Time_under_line ?_
    repeat walk_at "w"
    refine o_fdiv (by omega) (log2_small (m := 9000) (by rw [Int.zero_sub, Int.natAbs_neg]; exact gz) (by decide) (by decide)) ?_
    repeat walk_at "w"
    refine ⟨p, dx, _, rfl, upd_same, (by show 1 < 1000; decide), ?_⟩
    exact fin (D := { nx := fun _ H' => Q .non H', rt := Q }) (σ := []) q (by rw [if_pos hneg])
  · repeat walk_at "w"
    refine ws_fld T.c_Time.cl T.n_Time_over_line ?_
    repeat walk_at "w"
    refine o_fdiv (by omega) (log2_small (m := 9000) gz (by decide) (by decide)) ?_
    repeat walk_at "w"
    refine ⟨p, dx, _, rfl, hp, by decide, ?_⟩
    repeat walk_at "w"
    refine ws_fld T.c_Time.cl T.n_Time_under_line ?_
    repeat walk_at "w"
    refine o_fdiv (by omega) (log2_small (m := 9000) gz (by decide) (by decide)) ?_
    repeat walk_at "w"
    refine ⟨p, dx, _, rfl, upd_same, (by show 1 < 1000; decide), ?_⟩
    exact fin (D := { nx := fun _ H' => Q .non H', rt := Q }) (σ := []) q (by rw [if_neg hneg])
end

/-! ### Time(..) made; time_of -/
section
variable {P : Program} {w : World} {K : PySem.W.Frag} {mg : Str → Option Value} {base : Heap}
theorem k_Time2 (T : Tm K mg) : GMk P w K mg base 2 "Time" (CT K) (spInit K) [] := by
  obtain ⟨fd, F⟩ := T.d_Time___init__
  obtain ⟨ds, hd, hb⟩ := F.binds1 (ps := ["self", "top", "bottom"]) 3 1 (List.cons_ne_nil _ _) rfl (fun _ _ _ _ _ _ _ us its h1 h2 => match us, its, h1, h2 with
    | [_, _, _], [_], _, _ => ⟨_, rfl, rfl⟩)
  exact ⟨_, fd, _, ds, T.g_Time, T.m_Time, ok_init T F, hb, hd⟩
theorem k_Time1 (T : Tm K mg) : GMk P w K mg base 2 "Time" (CT K) (spInit K) [.int 1] := by
  obtain ⟨fd, F⟩ := T.d_Time___init__
  obtain ⟨ds, hd, hb⟩ := F.binds1 (ps := ["self", "top", "bottom"]) 2 0 (List.cons_ne_nil _ _) rfl (fun _ _ _ _ _ _ _ us its h1 h2 => match us, its, h1, h2 with
    | [_, _], [_], _, _ => ⟨_, rfl, rfl⟩)
  exact ⟨_, fd, _, ds, T.g_Time, T.m_Time, ok_init T F, hb, hd⟩
section
variable {X : Cx} {σ : L2.St} {H : Hp} {Q : VK} {a b : Expr} {p pos : Pos} {k : Nat} {E : L2.St → XK}
/-- what a new time wants -/
def NewT (K : PySem.W.Frag) (t d : Int) (H : Hp) (Q : VK) : Prop := d ≠ 0 ∧ (g1 t d).natAbs < 2 ^ 9000 ∧ Ret H (TimeV (CT K) (Rat.divInt t d)) Q
theorem made_t {E : XK} {x dx : Addr} {t d : Int} {H : Hp} {Q : VK} (nx : H x = none) (nd : H dx = none) (ne : dx ≠ x) (h : NewT K t d H Q) : spInit K [.ref x, .int t, .int d] (upd (upd H dx (.own x)) x (.ins (CT K) dx [])) (fun v H2 => v = .non ∧ Q (.ref x) H2) E :=
  ⟨x, dx, t, d, rfl, upd_same, h.1, h.2.1, rfl, h.2.2 _ _ (Ex.made nx nd) ⟨x, dx, rfl, upd_same⟩⟩
theorem we_Time2 (B : Body X k E) (g : Gn X "Time") (T : Tm X.K X.mg) (hk : 3 ≤ k) (h : WE X a σ H fun x H1 => WE X b σ H1 fun y H2 => ∃ t d, x = .int t ∧ y = .int d ∧ NewT X.K t d H2 Q)
    (hs : starEach [a, b] X.env = (false, eval a X.env) :: starEach [b] X.env := by rfl) (ht : starEach [b] X.env = [(false, eval b X.env)] := by rfl) (hl : (backTo pos (starEach [b] X.env)).any (·.1) = false := by rfl) : WE X (.Call (.Name "Time" p) [a, b] [] pos) σ H Q :=
  we_make B g (k_Time2 (P := X.prog) (w := X.w) (base := X.base) T) hk (wa_two (we_mono h fun x H1 z => we_mono z fun y H2 z => by
    obtain ⟨t, d, rfl, rfl, z⟩ := z
    exact fun x dx nx nd ne => made_t nx nd ne z) hs ht) hs hl
theorem one_lt : (1 : Int).natAbs < 2 ^ 9000 := Nat.lt_of_lt_of_le (show 1 < 2 ^ 1 by decide) (Nat.pow_le_pow_right (by decide) (show 1 ≤ 9000 by decide))
theorem we_Time1 (B : Body X k E) (g : Gn X "Time") (T : Tm X.K X.mg) (hk : 3 ≤ k) (h : WE X a σ H fun x H1 => ∃ t, x = .int t ∧ Ret H1 (TimeV (CT X.K) (t : Rat)) Q)
    (hs : starEach [a] X.env = [(false, eval a X.env)] := by rfl) (hl : (backTo pos (starEach [] X.env)).any (·.1) = false := by rfl) : WE X (.Call (.Name "Time" p) [a] [] pos) σ H Q :=
  we_make B g (k_Time1 (P := X.prog) (w := X.w) (base := X.base) T) hk (wa_one (we_mono h fun x H1 z => by
    obtain ⟨t, rfl, z⟩ := z
    refine fun x dx nx nd ne => made_t nx nd ne ⟨by decide, ?_, by rw [int_eq]; exact z⟩
    exact g1_sz (by decide) one_lt) hs) hs hl
end
end
local macro_rules | `(tactic| walk_at "wE") => `(tactic| first | ((with_reducible refine' we_Time2 ?B ?g ?T ?hk ?_ ?h1 ?h2 ?h3); (case B => assumption); (case g => assumption); (case T => assumption); (case hk => decide); (case h1 => rfl); (case h2 => rfl); (case h3 => rfl)) | ((with_reducible refine' we_Time1 ?B ?g ?T ?hk ?_ ?h1 ?h2); (case B => assumption); (case g => assumption); (case T => assumption); (case hk => decide); (case h1 => rfl); (case h2 => rfl)) | fail)
section
variable {P : Program} {w : World} {K : PySem.W.Frag} {mg : Str → Option Value} {base : Heap}
def spTimeOf (K : PySem.W.Frag) : Sp := fun vs H Q E => ∃ v, vs = [v] ∧ ((∃ q, TimeV (CT K) q v H ∧ Q v H) ∨ (∃ i : Int, v = .int i ∧ Ret H (TimeV (CT K) (i : Rat)) Q) ∨
  ∃ t r1 r2, TyX K H v t ∧ PySem.W.kitOne K t (.ref (CT K)) = some false ∧ PySem.W.kitOne K t (.type "int") = some r1 ∧ PySem.W.kitOne K t (.type "bool") = some r2 ∧ (r1 && !r2) = false ∧ E (.ref (ga K "NoTime")) none H)
theorem f_time_of (T : Tm K mg) : GFn P w K mg base 4 "time_of" (spTimeOf K) := by
  obtain ⟨fd, F⟩ := T.d_time_of
  refine GFn.mk F T.g_time_of (def_ok F sc_time_of (fun vs H Q E h => by obtain ⟨v, rfl, _⟩ := h; rfl) ?_) (F.bindsN fun _ _ _ _ _ _ us hl => match us, hl with | [_], _ => rfl)
  intro X eP ew eK em eb eN es hf nd H vs Q E B h
  subst eP ew eK em eb
  have n0 : Sl X 0 "thing" := slot_of eN es hf nd rfl (by first | exact Or.inl rfl | exact Or.inr rfl) (by decide) (by decide)
  have z_isinstance : Bn X "isinstance" := bn_of es rfl T.z_isinstance
  have g_Time : Gn X "Time" := gn_of es rfl (by decide)
  have m_Time := T.g_Time
  have g_is_integer : Gn X "is_integer" := gn_of es rfl (by decide)
  have F_is_integer := f_is_integer (P := X.prog) (w := X.w) (base := X.base) T
  have g_NoTime : Gn X "NoTime" := gn_of es rfl (by decide)
  have m_NoTime := T.g_NoTime
  obtain ⟨v, rfl, h⟩ := h
  show WB X [_, _, _] _ [some v] H
  rcases h with ⟨q, hv, z⟩ | ⟨i, rfl, z⟩ | ⟨t, r1, r2, ht, h0, h1, h2, e, z⟩
  · repeat walk_at "w"
    refine ⟨true, ⟨_, _, .own _, tyT T hv, T.k_Time.self⟩, ?_⟩
    repeat walk_at "w"
    exact z
  · repeat walk_at "w"
    refine ⟨false, ⟨_, _, .own _, .base (.int i), T.k_Time.ofInt⟩, ?_⟩
    repeat walk_at "w"
    exact z
  · repeat walk_at "w"
    refine ⟨false, ⟨_, _, .own _, ht, h0⟩, ?_⟩
    repeat walk_at "w"
    refine ⟨v, t, r1, r2, rfl, ht, h1, h2, ?_⟩
    rw [e]
    repeat walk_at "w"
    exact ws_raise B g_NoTime m_NoTime T.x_NoTime z
theorem to_T {H : Hp} {Q : VK} {E : XK} {v : V} {q : Rat} (h : TimeV (CT K) q v H) (z : Q v H) : spTimeOf K [v] H Q E := ⟨v, rfl, .inl ⟨q, h, z⟩⟩
theorem to_int {H : Hp} {Q : VK} {E : XK} {i : Int} (z : Ret H (TimeV (CT K) (i : Rat)) Q) : spTimeOf K [.int i] H Q E := ⟨_, rfl, .inr (.inl ⟨i, rfl, z⟩)⟩
theorem to_tim {H : Hp} {Q : VK} {E : XK} {v : V} {q : Rat} (h : Tim K q v H) (z : Ret H (TimeV (CT K) q) Q) : spTimeOf K [v] H Q E := by
  rcases h with h | ⟨i, rfl, rfl⟩
  · exact to_T h (z.now h)
  · exact to_int z
end

/-! ### + - * of times -/
theorem tv_ok {C : Addr} {v : V} {H : Hp} {q : Rat} {R : Rat → Prop} (h : TimeV C q v H) (z : R q) : ∃ q, TimeV C q v H ∧ R q := ⟨q, h, z⟩
theorem cm_nn {q r : Rat} (h : Sz q 4000) (h' : Sz r 4000) : CMulW q.num r.num := wide_mul h.num h'.num (by decide) (by decide) (by decide)
theorem cm_nd {q r : Rat} (h : Sz q 4000) (h' : Sz r 4000) : CMulW q.num r.den := wide_mul h.num (by rw [Int.natAbs_natCast]; exact h'.den) (by decide) (by decide) (by decide)
theorem cm_dn {q r : Rat} (h : Sz q 4000) (h' : Sz r 4000) : CMulW q.den r.num := wide_mul (by rw [Int.natAbs_natCast]; exact h.den) h'.num (by decide) (by decide) (by decide)
theorem cm_dd {q r : Rat} (h : Sz q 4000) (h' : Sz r 4000) : CMulW q.den r.den := wide_mul (by rw [Int.natAbs_natCast]; exact h.den) (by rw [Int.natAbs_natCast]; exact h'.den) (by decide) (by decide) (by decide)
local macro_rules | `(tactic| walk_at "x") => `(tactic| first | assumption | exact Ex.refl _ | (refine Ex.trans ?_ (by assumption); walk_at "x"))
local macro_rules | `(tactic| walk_at "tv") => `(tactic| first | assumption | ((with_reducible refine' TimeV.mono ?x ?h); (case h => assumption); (case x => walk_at "x")))
local macro_rules | `(tactic| walk_at "sz") => `(tactic| first | exact cm_nd (by assumption) (by assumption) | exact cm_nn (by assumption) (by assumption) | exact cm_dd (by assumption) (by assumption) | exact cm_dn (by assumption) (by assumption))
local macro_rules | `(tactic| walk_at "wE") => `(tactic| first | ((with_reducible refine' we_over ?T ?_ ?hb); (case T => assumption); (case hb => rfl)) | ((with_reducible refine' we_under ?T ?_ ?hb); (case T => assumption); (case hb => rfl)) | fail)
local macro_rules | `(tactic| walk_at "wO") => `(tactic| first | ((with_reducible refine' o_mul ?hc ?_); (case hc => walk_at "sz")) | fail)
local macro_rules | `(tactic| walk_at "wX") => `(tactic| first | ((with_reducible refine' tv_ok ?h ?_); (case h => walk_at "tv")) | fail)
theorem dd_ne (q r : Rat) : (q.den : Int) * (r.den : Int) ≠ 0 := Int.mul_ne_zero (den_ne q) (den_ne r)
theorem dd_sz {q r : Rat} (h : Sz q 4000) (h' : Sz r 4000) : ((q.den : Int) * (r.den : Int)).natAbs < 2 ^ 9000 := by
  rw [Int.natAbs_mul, Int.natAbs_natCast, Int.natAbs_natCast]
  exact Nat.lt_of_lt_of_le (pow_add' h.den h'.den) (Nat.pow_le_pow_right (by decide) (by decide))
abbrev MT (K : PySem.W.Frag) (m : Str) : Addr := ma K (CT K) m

/-! ### + - * -/
section
variable {P : Program} {w : World} {K : PySem.W.Frag} {mg : Str → Option Value} {base : Heap}
/-- an operator of two times, or of a time and an int -/
def spOp (K : PySem.W.Frag) (f : Rat → Rat → Rat) : Sp := fun vs H Q _ => ∃ q r v u, vs = [v, u] ∧ TimeV (CT K) q v H ∧ Tim K r u H ∧ Sz q 4000 ∧ Sz r 4000 ∧ Ret H (TimeV (CT K) (f q r)) Q
theorem f_add (T : Tm K mg) : FnR P w K mg base (RX P w) 5 (MT K "__add__") (spOp K (· + ·)) := by
  obtain ⟨fd, F⟩ := T.d_Time___add__
  refine raw_of F (def_ok F sc_Time___add__ (fun vs H Q E h => by obtain ⟨q, r, v, u, rfl, _⟩ := h; rfl) ?_) (F.bindsN fun _ _ _ _ _ _ us hl => match us, hl with | [_, _], _ => rfl)
  intro X eP ew eK em eb eN es hf nd H vs Q E B h
  subst eP ew eK em eb
  have n0 : Sl X 0 "self" := slot_of eN es hf nd rfl (by first | exact Or.inl rfl | exact Or.inr rfl) (by decide) (by decide)
  have n1 : Sl X 1 "other" := slot_of eN es hf nd rfl (by first | exact Or.inl rfl | exact Or.inr rfl) (by decide) (by decide)
  have n2 : Sl X 2 "more" := slot_of eN es hf nd rfl (by first | exact Or.inl rfl | exact Or.inr rfl) (by decide) (by decide)
  have n3 : Sl X 3 "top" := slot_of eN es hf nd rfl (by first | exact Or.inl rfl | exact Or.inr rfl) (by decide) (by decide)
  have g_is_time : Gn X "is_time" := gn_of es rfl (by decide)
  have F_is_time := f_is_time (P := X.prog) (w := X.w) (base := X.base) T
  have g_time_of : Gn X "time_of" := gn_of es rfl (by decide)
  have F_time_of := f_time_of (P := X.prog) (w := X.w) (base := X.base) T
  have g_Time : Gn X "Time" := gn_of es rfl (by decide)
  have m_Time := T.g_Time
  obtain ⟨q, r, v, u, rfl, hv, hu, hq, hr, z⟩ := h
  show WB X [_, _, _, _] _ [some v, some u, none, none] H
  repeat walk_at "w"
  refine it_tim T hu ?_
  repeat walk_at "w"
  refine to_tim hu fun y H1 x1 hy => ?_
  repeat walk_at "w"
  exact ⟨_, _, rfl, rfl, dd_ne q r, g1_sz (dd_ne q r) (dd_sz hq hr), by rw [add_eq]; exact z.mono x1⟩
theorem f_sub (T : Tm K mg) : FnR P w K mg base (RX P w) 5 (MT K "__sub__") (spOp K (· - ·)) := by
  obtain ⟨fd, F⟩ := T.d_Time___sub__
  refine raw_of F (def_ok F sc_Time___sub__ (fun vs H Q E h => by obtain ⟨q, r, v, u, rfl, _⟩ := h; rfl) ?_) (F.bindsN fun _ _ _ _ _ _ us hl => match us, hl with | [_, _], _ => rfl)
  intro X eP ew eK em eb eN es hf nd H vs Q E B h
  subst eP ew eK em eb
  have n0 : Sl X 0 "self" := slot_of eN es hf nd rfl (by first | exact Or.inl rfl | exact Or.inr rfl) (by decide) (by decide)
  have n1 : Sl X 1 "other" := slot_of eN es hf nd rfl (by first | exact Or.inl rfl | exact Or.inr rfl) (by decide) (by decide)
  have n2 : Sl X 2 "less" := slot_of eN es hf nd rfl (by first | exact Or.inl rfl | exact Or.inr rfl) (by decide) (by decide)
  have n3 : Sl X 3 "top" := slot_of eN es hf nd rfl (by first | exact Or.inl rfl | exact Or.inr rfl) (by decide) (by decide)
  have g_is_time : Gn X "is_time" := gn_of es rfl (by decide)
  have F_is_time := f_is_time (P := X.prog) (w := X.w) (base := X.base) T
  have g_time_of : Gn X "time_of" := gn_of es rfl (by decide)
  have F_time_of := f_time_of (P := X.prog) (w := X.w) (base := X.base) T
  have g_Time : Gn X "Time" := gn_of es rfl (by decide)
  have m_Time := T.g_Time
  obtain ⟨q, r, v, u, rfl, hv, hu, hq, hr, z⟩ := h
  show WB X [_, _, _, _] _ [some v, some u, none, none] H
  repeat walk_at "w"
  refine it_tim T hu ?_
  repeat walk_at "w"
  refine to_tim hu fun y H1 x1 hy => ?_
  repeat walk_at "w"
  exact ⟨_, _, rfl, rfl, dd_ne q r, g1_sz (dd_ne q r) (dd_sz hq hr), by rw [sub_eq]; exact z.mono x1⟩
theorem f_mul (T : Tm K mg) : FnR P w K mg base (RX P w) 5 (MT K "__mul__") (spOp K (· * ·)) := by
  obtain ⟨fd, F⟩ := T.d_Time___mul__
  refine raw_of F (def_ok F sc_Time___mul__ (fun vs H Q E h => by obtain ⟨q, r, v, u, rfl, _⟩ := h; rfl) ?_) (F.bindsN fun _ _ _ _ _ _ us hl => match us, hl with | [_, _], _ => rfl)
  intro X eP ew eK em eb eN es hf nd H vs Q E B h
  subst eP ew eK em eb
  have n0 : Sl X 0 "self" := slot_of eN es hf nd rfl (by first | exact Or.inl rfl | exact Or.inr rfl) (by decide) (by decide)
  have n1 : Sl X 1 "other" := slot_of eN es hf nd rfl (by first | exact Or.inl rfl | exact Or.inr rfl) (by decide) (by decide)
  have n2 : Sl X 2 "by" := slot_of eN es hf nd rfl (by first | exact Or.inl rfl | exact Or.inr rfl) (by decide) (by decide)
  have g_is_time : Gn X "is_time" := gn_of es rfl (by decide)
  have F_is_time := f_is_time (P := X.prog) (w := X.w) (base := X.base) T
  have g_time_of : Gn X "time_of" := gn_of es rfl (by decide)
  have F_time_of := f_time_of (P := X.prog) (w := X.w) (base := X.base) T
  have g_Time : Gn X "Time" := gn_of es rfl (by decide)
  have m_Time := T.g_Time
  obtain ⟨q, r, v, u, rfl, hv, hu, hq, hr, z⟩ := h
  show WB X [_, _, _] _ [some v, some u, none] H
  repeat walk_at "w"
  refine it_tim T hu ?_
  repeat walk_at "w"
  refine to_tim hu fun y H1 x1 hy => ?_
  repeat walk_at "w"
  exact ⟨_, _, rfl, rfl, dd_ne q r, g1_sz (dd_ne q r) (dd_sz hq hr), by rw [mul_eq]; exact z.mono x1⟩
/-! the operators, by the kinds of their sides -/
section
variable {X : Cx} {k : Nat} {E : XK} {H : Hp} {Q : VK} {v u : V} {q r : Rat}
theorem o_addT (B : Body X k fun _ => E) (T : Tm X.K X.mg) (hk : 5 ≤ k) (hv : TimeV (CT X.K) q v H) (hu : Tim X.K r u H) (hq : Sz q 4000) (hr : Sz r 4000) (z : Ret H (TimeV (CT X.K) (q + r)) Q) : Op2 X (binaryOp .Add) v u H Q := by
  have s : spOp X.K (· + ·) [v, u] H Q E := ⟨q, r, v, u, rfl, hv, hu, hq, hr, z⟩
  obtain ⟨p, dx, rfl, hp⟩ := hv
  rcases hu with ⟨p', dx', rfl, hp'⟩ | ⟨i, rfl, _⟩
  · exact bin_tt B T.b_Time___add__ (f_add T) hk hp hp' s
  · exact bin_ti B T.b_Time___add__ (f_add T) hk hp s
theorem o_subT (B : Body X k fun _ => E) (T : Tm X.K X.mg) (hk : 5 ≤ k) (hv : TimeV (CT X.K) q v H) (hu : Tim X.K r u H) (hq : Sz q 4000) (hr : Sz r 4000) (z : Ret H (TimeV (CT X.K) (q - r)) Q) : Op2 X (binaryOp .Sub) v u H Q := by
  have s : spOp X.K (· - ·) [v, u] H Q E := ⟨q, r, v, u, rfl, hv, hu, hq, hr, z⟩
  obtain ⟨p, dx, rfl, hp⟩ := hv
  rcases hu with ⟨p', dx', rfl, hp'⟩ | ⟨i, rfl, _⟩
  · exact bin_tt B T.b_Time___sub__ (f_sub T) hk hp hp' s
  · exact bin_ti B T.b_Time___sub__ (f_sub T) hk hp s
theorem o_mulT (B : Body X k fun _ => E) (T : Tm X.K X.mg) (hk : 5 ≤ k) (hv : TimeV (CT X.K) q v H) (hu : Tim X.K r u H) (hq : Sz q 4000) (hr : Sz r 4000) (z : Ret H (TimeV (CT X.K) (q * r)) Q) : Op2 X (binaryOp .Mult) v u H Q := by
  have s : spOp X.K (· * ·) [v, u] H Q E := ⟨q, r, v, u, rfl, hv, hu, hq, hr, z⟩
  obtain ⟨p, dx, rfl, hp⟩ := hv
  rcases hu with ⟨p', dx', rfl, hp'⟩ | ⟨i, rfl, _⟩
  · exact bin_tt B T.b_Time___mul__ (f_mul T) hk hp hp' s
  · exact bin_ti B T.b_Time___mul__ (f_mul T) hk hp s
end
/-! ### int + time .. -/
def spROp (K : PySem.W.Frag) (f : Rat → Rat → Rat) : Sp := fun vs H Q _ => ∃ (q : Rat) (i : Int) (v : V), vs = [v, .int i] ∧ TimeV (CT K) q v H ∧ Sz q 4000 ∧ Sz (i : Rat) 4000 ∧ Ret H (TimeV (CT K) (f i q)) Q
theorem f_radd (T : Tm K mg) : FnR P w K mg base (RX P w) 6 (MT K "__radd__") (spROp K (· + ·)) := by
  obtain ⟨fd, F⟩ := T.d_Time___radd__
  refine raw_of F (def_ok F sc_Time___radd__ (fun vs H Q E h => by obtain ⟨q, i, v, rfl, _⟩ := h; rfl) ?_) (F.bindsN fun _ _ _ _ _ _ us hl => match us, hl with | [_, _], _ => rfl)
  intro X eP ew eK em eb eN es hf nd H vs Q E B h
  subst eP ew eK em eb
  have n0 : Sl X 0 "self" := slot_of eN es hf nd rfl (by first | exact Or.inl rfl | exact Or.inr rfl) (by decide) (by decide)
  have n1 : Sl X 1 "other" := slot_of eN es hf nd rfl (by first | exact Or.inl rfl | exact Or.inr rfl) (by decide) (by decide)
  have g_is_time : Gn X "is_time" := gn_of es rfl (by decide)
  have F_is_time := f_is_time (P := X.prog) (w := X.w) (base := X.base) T
  obtain ⟨q, i, v, rfl, hv, hq, hr, z⟩ := h
  show WB X [_, _] _ [some v, some (.int i)] H
  repeat walk_at "w"
  refine o_addT B T (by decide) hv (.inr ⟨i, rfl, rfl⟩) hq hr ?_
  rw [Rat.add_comm]
  exact z
theorem f_rmul (T : Tm K mg) : FnR P w K mg base (RX P w) 6 (MT K "__rmul__") (spROp K (· * ·)) := by
  obtain ⟨fd, F⟩ := T.d_Time___rmul__
  refine raw_of F (def_ok F sc_Time___rmul__ (fun vs H Q E h => by obtain ⟨q, i, v, rfl, _⟩ := h; rfl) ?_) (F.bindsN fun _ _ _ _ _ _ us hl => match us, hl with | [_, _], _ => rfl)
  intro X eP ew eK em eb eN es hf nd H vs Q E B h
  subst eP ew eK em eb
  have n0 : Sl X 0 "self" := slot_of eN es hf nd rfl (by first | exact Or.inl rfl | exact Or.inr rfl) (by decide) (by decide)
  have n1 : Sl X 1 "other" := slot_of eN es hf nd rfl (by first | exact Or.inl rfl | exact Or.inr rfl) (by decide) (by decide)
  have g_is_time : Gn X "is_time" := gn_of es rfl (by decide)
  have F_is_time := f_is_time (P := X.prog) (w := X.w) (base := X.base) T
  obtain ⟨q, i, v, rfl, hv, hq, hr, z⟩ := h
  show WB X [_, _] _ [some v, some (.int i)] H
  repeat walk_at "w"
  refine o_mulT B T (by decide) hv (.inr ⟨i, rfl, rfl⟩) hq hr ?_
  rw [Rat.mul_comm]
  exact z
theorem f_rsub (T : Tm K mg) : FnR P w K mg base (RX P w) 6 (MT K "__rsub__") (spROp K (· - ·)) := by
  obtain ⟨fd, F⟩ := T.d_Time___rsub__
  refine raw_of F (def_ok F sc_Time___rsub__ (fun vs H Q E h => by obtain ⟨q, i, v, rfl, _⟩ := h; rfl) ?_) (F.bindsN fun _ _ _ _ _ _ us hl => match us, hl with | [_, _], _ => rfl)
  intro X eP ew eK em eb eN es hf nd H vs Q E B h
  subst eP ew eK em eb
  have n0 : Sl X 0 "self" := slot_of eN es hf nd rfl (by first | exact Or.inl rfl | exact Or.inr rfl) (by decide) (by decide)
  have n1 : Sl X 1 "other" := slot_of eN es hf nd rfl (by first | exact Or.inl rfl | exact Or.inr rfl) (by decide) (by decide)
  have g_is_time : Gn X "is_time" := gn_of es rfl (by decide)
  have F_is_time := f_is_time (P := X.prog) (w := X.w) (base := X.base) T
  have g_time_of : Gn X "time_of" := gn_of es rfl (by decide)
  have F_time_of := f_time_of (P := X.prog) (w := X.w) (base := X.base) T
  obtain ⟨q, i, v, rfl, hv, hq, hr, z⟩ := h
  show WB X [_, _] _ [some v, some (.int i)] H
  repeat walk_at "w"
  refine to_int fun y H1 x1 hy => ?_
  repeat walk_at "w"
  exact o_subT B T (by decide) hy (.inl (hv.mono x1)) hr hq (z.mono x1)
section
variable {X : Cx} {k : Nat} {E : XK} {H : Hp} {Q : VK} {v : V} {q : Rat} {i : Int}
theorem o_addI (B : Body X k fun _ => E) (T : Tm X.K X.mg) (hk : 6 ≤ k) (hv : TimeV (CT X.K) q v H) (hq : Sz q 4000) (hr : Sz (i : Rat) 4000) (z : Ret H (TimeV (CT X.K) (i + q)) Q) : Op2 X (binaryOp .Add) (.int i) v H Q := by
  have s : spROp X.K (· + ·) [v, .int i] H Q E := ⟨q, i, v, rfl, hv, hq, hr, z⟩
  obtain ⟨p, dx, rfl, hp⟩ := hv
  exact bin_it B T.r_Time___radd__ PySem.F.fills_int_add idecl_add (f_radd T) hk hp s
theorem o_subI (B : Body X k fun _ => E) (T : Tm X.K X.mg) (hk : 6 ≤ k) (hv : TimeV (CT X.K) q v H) (hq : Sz q 4000) (hr : Sz (i : Rat) 4000) (z : Ret H (TimeV (CT X.K) (i - q)) Q) : Op2 X (binaryOp .Sub) (.int i) v H Q := by
  have s : spROp X.K (· - ·) [v, .int i] H Q E := ⟨q, i, v, rfl, hv, hq, hr, z⟩
  obtain ⟨p, dx, rfl, hp⟩ := hv
  exact bin_it B T.r_Time___rsub__ PySem.F.fills_int_sub idecl_sub (f_rsub T) hk hp s
theorem o_mulI (B : Body X k fun _ => E) (T : Tm X.K X.mg) (hk : 6 ≤ k) (hv : TimeV (CT X.K) q v H) (hq : Sz q 4000) (hr : Sz (i : Rat) 4000) (z : Ret H (TimeV (CT X.K) (i * q)) Q) : Op2 X (binaryOp .Mult) (.int i) v H Q := by
  have s : spROp X.K (· * ·) [v, .int i] H Q E := ⟨q, i, v, rfl, hv, hq, hr, z⟩
  obtain ⟨p, dx, rfl, hp⟩ := hv
  exact bin_it B T.r_Time___rmul__ PySem.F.fills_int_mul idecl_mul (f_rmul T) hk hp s
end
end

/-! ### -time, abs(time), top, bottom, += -= *= -/
section
variable {P : Program} {w : World} {K : PySem.W.Frag} {mg : Str → Option Value} {base : Heap}
abbrev rabs := Mt.rabs
def spUn (K : PySem.W.Frag) (f : Rat → Rat) : Sp := fun vs H Q _ => ∃ q v, vs = [v] ∧ TimeV (CT K) q v H ∧ Sz q 8000 ∧ Ret H (TimeV (CT K) (f q)) Q
theorem den_sz {q : Rat} (h : Sz q 8000) : (q.den : Int).natAbs < 2 ^ 9000 := by
  rw [Int.natAbs_natCast]
  exact (h.mono (show 8000 ≤ 9000 by decide)).den
theorem f_neg (T : Tm K mg) : FnR P w K mg base (RX P w) 4 (MT K "__neg__") (spUn K (- ·)) := by
  obtain ⟨fd, F⟩ := T.d_Time___neg__
  refine raw_of F (def_ok F sc_Time___neg__ (fun vs H Q E h => by obtain ⟨q, v, rfl, _⟩ := h; rfl) ?_) (F.bindsN fun _ _ _ _ _ _ us hl => match us, hl with | [_], _ => rfl)
  intro X eP ew eK em eb eN es hf nd H vs Q E B h
  subst eP ew eK em eb
  have n0 : Sl X 0 "self" := slot_of eN es hf nd rfl (by first | exact Or.inl rfl | exact Or.inr rfl) (by decide) (by decide)
  have g_Time : Gn X "Time" := gn_of es rfl (by decide)
  have m_Time := T.g_Time
  obtain ⟨q, v, rfl, hv, hq, z⟩ := h
  show WB X [_] _ [some v] H
  repeat walk_at "w"
  exact ⟨_, _, rfl, rfl, den_ne q, g1_sz (den_ne q) (den_sz hq), by rw [neg_eq]; exact z⟩
theorem f_abs (T : Tm K mg) : FnR P w K mg base (RX P w) 4 (MT K "__abs__") (spUn K rabs) := by
  obtain ⟨fd, F⟩ := T.d_Time___abs__
  refine raw_of F (def_ok F sc_Time___abs__ (fun vs H Q E h => by obtain ⟨q, v, rfl, _⟩ := h; rfl) ?_) (F.bindsN fun _ _ _ _ _ _ us hl => match us, hl with | [_], _ => rfl)
  intro X eP ew eK em eb eN es hf nd H vs Q E B h
  subst eP ew eK em eb
  have n0 : Sl X 0 "self" := slot_of eN es hf nd rfl (by first | exact Or.inl rfl | exact Or.inr rfl) (by decide) (by decide)
  have g_Time : Gn X "Time" := gn_of es rfl (by decide)
  have m_Time := T.g_Time
  have z_abs : Bn X "abs" := bn_of es rfl T.z_abs
  obtain ⟨q, v, rfl, hv, hq, z⟩ := h
  show WB X [_] _ [some v] H
  repeat walk_at "w"
  refine we_abs z_abs ?_
  repeat walk_at "w"
  exact ⟨_, _, rfl, rfl, den_ne q, g1_sz (den_ne q) (den_sz hq), z⟩
section
variable {X : Cx} {k : Nat} {E : XK} {σ : L2.St} {H : Hp} {Q : VK} {v u : V} {q r : Rat} {a e : Expr} {p pos : Pos}
theorem o_negT (B : Body X k fun _ => E) (T : Tm X.K X.mg) (hk : 4 ≤ k) (hv : TimeV (CT X.K) q v H) (hq : Sz q 8000) (z : Ret H (TimeV (CT X.K) (-q)) Q) : Op1 X (unaryOp .USub) v H Q := by
  have s : spUn X.K (- ·) [v] H Q E := ⟨q, v, rfl, hv, hq, z⟩
  obtain ⟨p, dx, rfl, hp⟩ := hv
  exact neg_t B T.u_Time_neg (f_neg T) hk hp s
theorem we_absTim (bn : Bn X "abs") (B : Body X k fun _ => E) (T : Tm X.K X.mg) (hk : 5 ≤ k) (h : WE X a σ H fun v H1 => ∃ q, TimeV (CT X.K) q v H1 ∧ Sz q 8000 ∧ Ret H1 (TimeV (CT X.K) (rabs q)) Q) (hs : starEach [a] X.env = [(false, eval a X.env)] := by rfl) (hl : (backTo pos (starEach [] X.env)).any (·.1) = false := by rfl) :
    WE X (.Call (.Name "abs" p) [a] [] pos) σ H Q := we_absT bn B T.u_Time_abs (f_abs T) hk (we_mono h fun v H1 z => by
  obtain ⟨q, ⟨x, dx, rfl, hp⟩, hq, z⟩ := z
  exact ⟨x, dx, _, rfl, hp, q, _, rfl, ⟨x, dx, rfl, hp⟩, hq, z⟩) hs hl
theorem i_addT (B : Body X k fun _ => E) (T : Tm X.K X.mg) (hk : 5 ≤ k) (hv : TimeV (CT X.K) q v H) (hu : TimeV (CT X.K) r u H) (hq : Sz q 4000) (hr : Sz r 4000) (z : Ret H (TimeV (CT X.K) (q + r)) Q) : Op2 X (inplaceOp .Add) v u H Q := by
  have s : spOp X.K (· + ·) [v, u] H Q E := ⟨q, r, v, u, rfl, hv, .inl hu, hq, hr, z⟩
  obtain ⟨p, dx, rfl, hp⟩ := hv
  obtain ⟨p', dx', rfl, hp'⟩ := hu
  exact inp_tt B T.ni_Time___add__ T.b_Time___add__ (f_add T) hk hp hp' s
theorem i_subT (B : Body X k fun _ => E) (T : Tm X.K X.mg) (hk : 5 ≤ k) (hv : TimeV (CT X.K) q v H) (hu : TimeV (CT X.K) r u H) (hq : Sz q 4000) (hr : Sz r 4000) (z : Ret H (TimeV (CT X.K) (q - r)) Q) : Op2 X (inplaceOp .Sub) v u H Q := by
  have s : spOp X.K (· - ·) [v, u] H Q E := ⟨q, r, v, u, rfl, hv, .inl hu, hq, hr, z⟩
  obtain ⟨p, dx, rfl, hp⟩ := hv
  obtain ⟨p', dx', rfl, hp'⟩ := hu
  exact inp_tt B T.ni_Time___sub__ T.b_Time___sub__ (f_sub T) hk hp hp' s
theorem i_mulT (B : Body X k fun _ => E) (T : Tm X.K X.mg) (hk : 5 ≤ k) (hv : TimeV (CT X.K) q v H) (hu : TimeV (CT X.K) r u H) (hq : Sz q 4000) (hr : Sz r 4000) (z : Ret H (TimeV (CT X.K) (q * r)) Q) : Op2 X (inplaceOp .Mult) v u H Q := by
  have s : spOp X.K (· * ·) [v, u] H Q E := ⟨q, r, v, u, rfl, hv, .inl hu, hq, hr, z⟩
  obtain ⟨p, dx, rfl, hp⟩ := hv
  obtain ⟨p', dx', rfl, hp'⟩ := hu
  exact inp_tt B T.ni_Time___mul__ T.b_Time___mul__ (f_mul T) hk hp hp' s
end
def spPart (K : PySem.W.Frag) (f : Rat → Int) : Sp := fun vs H Q _ => ∃ q v, vs = [v] ∧ TimeV (CT K) q v H ∧ Q (.int (f q)) H
theorem ok_top (T : Tm K mg) : ∃ fd, FnOk P w K mg base (RX P w) 1 (pgA K (CT K) "top") fd ["self"] (spPart K (·.num)) ∧ Binds K fd ["self"] [] := by
  obtain ⟨fd, F⟩ := T.d_Time_top
  refine ⟨fd, def_ok F sc_Time_top (fun vs H Q E h => by obtain ⟨q, v, rfl, _⟩ := h; rfl) ?_, (F.bindsN fun _ _ _ _ _ _ us hl => match us, hl with | [_], _ => rfl)⟩
  intro X eP ew eK em eb eN es hf nd H vs Q E B h
  subst eP ew eK em eb
  have n0 : Sl X 0 "self" := slot_of eN es hf nd rfl (by first | exact Or.inl rfl | exact Or.inr rfl) (by decide) (by decide)
  obtain ⟨q, v, rfl, hv, z⟩ := h
  show WB X [_] _ [some v] H
  repeat walk_at "w"
  exact z
theorem ok_bottom (T : Tm K mg) : ∃ fd, FnOk P w K mg base (RX P w) 1 (pgA K (CT K) "bottom") fd ["self"] (spPart K (·.den)) ∧ Binds K fd ["self"] [] := by
  obtain ⟨fd, F⟩ := T.d_Time_bottom
  refine ⟨fd, def_ok F sc_Time_bottom (fun vs H Q E h => by obtain ⟨q, v, rfl, _⟩ := h; rfl) ?_, (F.bindsN fun _ _ _ _ _ _ us hl => match us, hl with | [_], _ => rfl)⟩
  intro X eP ew eK em eb eN es hf nd H vs Q E B h
  subst eP ew eK em eb
  have n0 : Sl X 0 "self" := slot_of eN es hf nd rfl (by first | exact Or.inl rfl | exact Or.inr rfl) (by decide) (by decide)
  obtain ⟨q, v, rfl, hv, z⟩ := h
  show WB X [_] _ [some v] H
  repeat walk_at "w"
  exact z
end
section
variable {X : Cx} {k : Nat} {E : L2.St → XK} {σ : L2.St} {H : Hp} {Q : VK} {e : Expr} {pos : Pos}
theorem we_top (B : Body X k E) (T : Tm X.K X.mg) (hk : 2 ≤ k) (h : WE X e σ H fun y H1 => ∃ q, TimeV (CT X.K) q y H1 ∧ Q (.int q.num) H1) (he : attributeBase e "top" X.env (eval e X.env) = eval e X.env := by rfl) : WE X (.Attribute e "top" pos) σ H Q := by
  obtain ⟨fd, F, hb⟩ := ok_top (P := X.prog) (w := X.w) (base := X.base) T
  refine we_prop B T.c_Time.cl T.p_Time_top F hk hb .nil (we_mono h fun y H1 z => ?_) he
  obtain ⟨q, ⟨x, dx, rfl, hp⟩, z⟩ := z
  exact ⟨x, dx, _, rfl, hp, q, _, rfl, ⟨x, dx, rfl, hp⟩, z⟩
theorem we_bottom (B : Body X k E) (T : Tm X.K X.mg) (hk : 2 ≤ k) (h : WE X e σ H fun y H1 => ∃ q, TimeV (CT X.K) q y H1 ∧ Q (.int q.den) H1) (he : attributeBase e "bottom" X.env (eval e X.env) = eval e X.env := by rfl) : WE X (.Attribute e "bottom" pos) σ H Q := by
  obtain ⟨fd, F, hb⟩ := ok_bottom (P := X.prog) (w := X.w) (base := X.base) T
  refine we_prop B T.c_Time.cl T.p_Time_bottom F hk hb .nil (we_mono h fun y H1 z => ?_) he
  obtain ⟨q, ⟨x, dx, rfl, hp⟩, z⟩ := z
  exact ⟨x, dx, _, rfl, hp, q, _, rfl, ⟨x, dx, rfl, hp⟩, z⟩
end
local macro_rules | `(tactic| walk_at "wE") => `(tactic| first | ((with_reducible refine' we_top ?B ?T ?hk ?_ ?hb); (case B => assumption); (case T => assumption); (case hk => decide); (case hb => rfl)) | ((with_reducible refine' we_bottom ?B ?T ?hk ?_ ?hb); (case B => assumption); (case T => assumption); (case hk => decide); (case hb => rfl)) | fail)

/-! ### comparisons of times -/
def Bl (H : Hp) (r : Bool) (Q : VK) : Prop := ∀ H', Ex H H' → Q (.bl r) H'
theorem bl_i {H : Hp} {r : Bool} {Q : VK} (h : ∀ H', Ex H H' → Q (.bl r) H') : Bl H r Q := h
theorem Bl.mono {H H' : Hp} {r : Bool} {Q : VK} (k : Bl H r Q) (x : Ex H H') : Bl H' r Q := fun H2 y => k H2 (x.trans y)
theorem rat_ext {q r : Rat} : (q.num = r.num ∧ (q.den : Int) = r.den) ↔ q = r := by
  constructor
  · rintro ⟨h1, h2⟩
    exact Rat.ext h1 (by omega)
  · rintro rfl
    exact ⟨rfl, rfl⟩
local macro_rules | `(tactic| walk_at "wX") => `(tactic| first | with_reducible refine' bl_i fun _ _ => ?_ | with_reducible refine' ret_i fun _ _ _ _ => ?_ | fail)
section
variable {P : Program} {w : World} {K : PySem.W.Frag} {mg : Str → Option Value} {base : Heap}
def spCmp (K : PySem.W.Frag) (f : Rat → Rat → Bool) : Sp := fun vs H Q _ => ∃ q r v u, vs = [v, u] ∧ TimeV (CT K) q v H ∧ Tim K r u H ∧ Sz q 4000 ∧ Sz r 4000 ∧ Bl H (f q r) Q
theorem f_eq (T : Tm K mg) : FnR P w K mg base (RX P w) 5 (MT K "__eq__") (spCmp K fun q r => decide (q = r)) := by
  obtain ⟨fd, F⟩ := T.d_Time___eq__
  refine raw_of F (def_ok F sc_Time___eq__ (fun vs H Q E h => by obtain ⟨q, r, v, u, rfl, _⟩ := h; rfl) ?_) (F.bindsN fun _ _ _ _ _ _ us hl => match us, hl with | [_, _], _ => rfl)
  intro X eP ew eK em eb eN es hf nd H vs Q E B h
  subst eP ew eK em eb
  have n0 : Sl X 0 "self" := slot_of eN es hf nd rfl (by first | exact Or.inl rfl | exact Or.inr rfl) (by decide) (by decide)
  have n1 : Sl X 1 "other" := slot_of eN es hf nd rfl (by first | exact Or.inl rfl | exact Or.inr rfl) (by decide) (by decide)
  have n2 : Sl X 2 "same" := slot_of eN es hf nd rfl (by first | exact Or.inl rfl | exact Or.inr rfl) (by decide) (by decide)
  have g_is_time : Gn X "is_time" := gn_of es rfl (by decide)
  have F_is_time := f_is_time (P := X.prog) (w := X.w) (base := X.base) T
  have g_time_of : Gn X "time_of" := gn_of es rfl (by decide)
  have F_time_of := f_time_of (P := X.prog) (w := X.w) (base := X.base) T
  obtain ⟨q, r, v, u, rfl, hv, hu, hq, hr, z⟩ := h
  show WB X [_, _, _] _ [some (v), some (u), none] H
  repeat walk_at "w"
  refine it_tim T hu ?_
  repeat walk_at "w"
  refine to_tim hu fun y H1 x1 hy => ?_
  repeat walk_at "w"
  have e := rat_ext (q := q) (r := r)
  refine ite_dec (fun h1 => ?_) (fun h1 => ?_)
  · repeat walk_at "w"
    have e2 : decide ((q.den : Int) = r.den) = decide (q = r) := by
      congr 1
      exact propext ⟨fun h => e.mp ⟨h1, h⟩, fun h => (e.mpr h).2⟩
    rw [e2]
    exact z _ x1
  · have e2 : decide (q = r) = false := decide_eq_false fun h => h1 (e.mpr h).1
    have z : Bl H (decide (q = r)) Q := z
    rw [e2] at z
    exact z _ x1
theorem f_lt (T : Tm K mg) : FnR P w K mg base (RX P w) 5 (MT K "__lt__") (spCmp K fun q r => decide (q < r)) := by
  obtain ⟨fd, F⟩ := T.d_Time___lt__
  refine raw_of F (def_ok F sc_Time___lt__ (fun vs H Q E h => by obtain ⟨q, r, v, u, rfl, _⟩ := h; rfl) ?_) (F.bindsN fun _ _ _ _ _ _ us hl => match us, hl with | [_, _], _ => rfl)
  intro X eP ew eK em eb eN es hf nd H vs Q E B h
  subst eP ew eK em eb
  have n0 : Sl X 0 "self" := slot_of eN es hf nd rfl (by first | exact Or.inl rfl | exact Or.inr rfl) (by decide) (by decide)
  have n1 : Sl X 1 "other" := slot_of eN es hf nd rfl (by first | exact Or.inl rfl | exact Or.inr rfl) (by decide) (by decide)
  have n2 : Sl X 2 "later" := slot_of eN es hf nd rfl (by first | exact Or.inl rfl | exact Or.inr rfl) (by decide) (by decide)
  have g_is_time : Gn X "is_time" := gn_of es rfl (by decide)
  have F_is_time := f_is_time (P := X.prog) (w := X.w) (base := X.base) T
  have g_time_of : Gn X "time_of" := gn_of es rfl (by decide)
  have F_time_of := f_time_of (P := X.prog) (w := X.w) (base := X.base) T
  obtain ⟨q, r, v, u, rfl, hv, hu, hq, hr, z⟩ := h
  show WB X [_, _, _] _ [some (v), some (u), none] H
  repeat walk_at "w"
  refine it_tim T hu ?_
  repeat walk_at "w"
  refine to_tim hu fun y H1 x1 hy => ?_
  repeat walk_at "w"
  rw [show decide (q.num * (r.den : Int) < r.num * (q.den : Int)) = decide (q < r) from by congr 1; exact propext (Rat.lt_iff q r).symm]
  exact z _ x1
theorem f_le (T : Tm K mg) : FnR P w K mg base (RX P w) 5 (MT K "__le__") (spCmp K fun q r => decide (q ≤ r)) := by
  obtain ⟨fd, F⟩ := T.d_Time___le__
  refine raw_of F (def_ok F sc_Time___le__ (fun vs H Q E h => by obtain ⟨q, r, v, u, rfl, _⟩ := h; rfl) ?_) (F.bindsN fun _ _ _ _ _ _ us hl => match us, hl with | [_, _], _ => rfl)
  intro X eP ew eK em eb eN es hf nd H vs Q E B h
  subst eP ew eK em eb
  have n0 : Sl X 0 "self" := slot_of eN es hf nd rfl (by first | exact Or.inl rfl | exact Or.inr rfl) (by decide) (by decide)
  have n1 : Sl X 1 "other" := slot_of eN es hf nd rfl (by first | exact Or.inl rfl | exact Or.inr rfl) (by decide) (by decide)
  have n2 : Sl X 2 "later" := slot_of eN es hf nd rfl (by first | exact Or.inl rfl | exact Or.inr rfl) (by decide) (by decide)
  have g_is_time : Gn X "is_time" := gn_of es rfl (by decide)
  have F_is_time := f_is_time (P := X.prog) (w := X.w) (base := X.base) T
  have g_time_of : Gn X "time_of" := gn_of es rfl (by decide)
  have F_time_of := f_time_of (P := X.prog) (w := X.w) (base := X.base) T
  obtain ⟨q, r, v, u, rfl, hv, hu, hq, hr, z⟩ := h
  show WB X [_, _, _] _ [some (v), some (u), none] H
  repeat walk_at "w"
  refine it_tim T hu ?_
  repeat walk_at "w"
  refine to_tim hu fun y H1 x1 hy => ?_
  repeat walk_at "w"
  rw [show decide (q.num * (r.den : Int) ≤ r.num * (q.den : Int)) = decide (q ≤ r) from by congr 1; exact propext (Rat.le_iff q r).symm]
  exact z _ x1
theorem f_gt (T : Tm K mg) : FnR P w K mg base (RX P w) 5 (MT K "__gt__") (spCmp K fun q r => decide (r < q)) := by
  obtain ⟨fd, F⟩ := T.d_Time___gt__
  refine raw_of F (def_ok F sc_Time___gt__ (fun vs H Q E h => by obtain ⟨q, r, v, u, rfl, _⟩ := h; rfl) ?_) (F.bindsN fun _ _ _ _ _ _ us hl => match us, hl with | [_, _], _ => rfl)
  intro X eP ew eK em eb eN es hf nd H vs Q E B h
  subst eP ew eK em eb
  have n0 : Sl X 0 "self" := slot_of eN es hf nd rfl (by first | exact Or.inl rfl | exact Or.inr rfl) (by decide) (by decide)
  have n1 : Sl X 1 "other" := slot_of eN es hf nd rfl (by first | exact Or.inl rfl | exact Or.inr rfl) (by decide) (by decide)
  have n2 : Sl X 2 "sooner" := slot_of eN es hf nd rfl (by first | exact Or.inl rfl | exact Or.inr rfl) (by decide) (by decide)
  have g_is_time : Gn X "is_time" := gn_of es rfl (by decide)
  have F_is_time := f_is_time (P := X.prog) (w := X.w) (base := X.base) T
  have g_time_of : Gn X "time_of" := gn_of es rfl (by decide)
  have F_time_of := f_time_of (P := X.prog) (w := X.w) (base := X.base) T
  obtain ⟨q, r, v, u, rfl, hv, hu, hq, hr, z⟩ := h
  show WB X [_, _, _] _ [some (v), some (u), none] H
  repeat walk_at "w"
  refine it_tim T hu ?_
  repeat walk_at "w"
  refine to_tim hu fun y H1 x1 hy => ?_
  repeat walk_at "w"
  rw [show decide (r.num * (q.den : Int) < q.num * (r.den : Int)) = decide (r < q) from by congr 1; exact propext (Rat.lt_iff r q).symm]
  exact z _ x1
theorem f_ge (T : Tm K mg) : FnR P w K mg base (RX P w) 5 (MT K "__ge__") (spCmp K fun q r => decide (r ≤ q)) := by
  obtain ⟨fd, F⟩ := T.d_Time___ge__
  refine raw_of F (def_ok F sc_Time___ge__ (fun vs H Q E h => by obtain ⟨q, r, v, u, rfl, _⟩ := h; rfl) ?_) (F.bindsN fun _ _ _ _ _ _ us hl => match us, hl with | [_, _], _ => rfl)
  intro X eP ew eK em eb eN es hf nd H vs Q E B h
  subst eP ew eK em eb
  have n0 : Sl X 0 "self" := slot_of eN es hf nd rfl (by first | exact Or.inl rfl | exact Or.inr rfl) (by decide) (by decide)
  have n1 : Sl X 1 "other" := slot_of eN es hf nd rfl (by first | exact Or.inl rfl | exact Or.inr rfl) (by decide) (by decide)
  have n2 : Sl X 2 "sooner" := slot_of eN es hf nd rfl (by first | exact Or.inl rfl | exact Or.inr rfl) (by decide) (by decide)
  have g_is_time : Gn X "is_time" := gn_of es rfl (by decide)
  have F_is_time := f_is_time (P := X.prog) (w := X.w) (base := X.base) T
  have g_time_of : Gn X "time_of" := gn_of es rfl (by decide)
  have F_time_of := f_time_of (P := X.prog) (w := X.w) (base := X.base) T
  obtain ⟨q, r, v, u, rfl, hv, hu, hq, hr, z⟩ := h
  show WB X [_, _, _] _ [some (v), some (u), none] H
  repeat walk_at "w"
  refine it_tim T hu ?_
  repeat walk_at "w"
  refine to_tim hu fun y H1 x1 hy => ?_
  repeat walk_at "w"
  rw [show decide (r.num * (q.den : Int) ≤ q.num * (r.den : Int)) = decide (r ≤ q) from by congr 1; exact propext (Rat.le_iff r q).symm]
  exact z _ x1
/-- == of a value of another kind -/
def spEqN (K : PySem.W.Frag) : SpN := fun vs H D _ => ∃ v u t r1 r2, vs = [v, u] ∧ TyX K H u t ∧ PySem.W.kitOne K t (.ref (CT K)) = some false ∧ PySem.W.kitOne K t (.type "int") = some r1 ∧ PySem.W.kitOne K t (.type "bool") = some r2 ∧ (r1 && !r2) = false ∧ D H
theorem f_eqN (T : Tm K mg) : FnN P w K mg base (RX P w) 4 (MT K "__eq__") (spEqN K) := by
  obtain ⟨fd, F⟩ := T.d_Time___eq__
  refine def_ni F (F.bindsN fun _ _ _ _ _ _ us hl => match us, hl with | [_, _], _ => rfl) sc_Time___eq__ (fun vs H Q E h => by obtain ⟨v, u, t, r1, r2, rfl, _⟩ := h; rfl) ?_
  intro X eP ew eK em eb eN es hf nd H vs D E B h
  subst eP ew eK em eb
  have n0 : Sl X 0 "self" := slot_of eN es hf nd rfl (by first | exact Or.inl rfl | exact Or.inr rfl) (by decide) (by decide)
  have n1 : Sl X 1 "other" := slot_of eN es hf nd rfl (by first | exact Or.inl rfl | exact Or.inr rfl) (by decide) (by decide)
  have n2 : Sl X 2 "same" := slot_of eN es hf nd rfl (by first | exact Or.inl rfl | exact Or.inr rfl) (by decide) (by decide)
  have g_is_time : Gn X "is_time" := gn_of es rfl (by decide)
  have F_is_time := f_is_time (P := X.prog) (w := X.w) (base := X.base) T
  have g_time_of : Gn X "time_of" := gn_of es rfl (by decide)
  have F_time_of := f_time_of (P := X.prog) (w := X.w) (base := X.base) T
  have z_NI : Bn X "NotImplemented" := bn_of es rfl T.z_NotImplemented
  obtain ⟨v, u, t, r1, r2, rfl, ht, h0, h1, h2, e, z⟩ := h
  show WBN X (_ :: [_, _]) _ [some v, some u, none] H
  refine wbn_if z_NI ?_
  repeat walk_at "w"
  refine ⟨u, t, false, r1, r2, rfl, ht, h0, h1, h2, ?_⟩
  rw [e]
  repeat walk_at "w"
  exact ⟨rfl, z⟩
end
section
variable {X : Cx} {k : Nat} {E : XK} {H : Hp} {Q : VK} {v u : V} {q r : Rat} {i : Int}
theorem o_eqT (B : Body X k fun _ => E) (T : Tm X.K X.mg) (hk : 5 ≤ k) (hv : TimeV (CT X.K) q v H) (hu : Tim X.K r u H) (hq : Sz q 4000) (hr : Sz r 4000) (z : Bl H (decide (q = r)) Q) : Op2 X (compareOp .Eq) v u H Q := by
  have s : spCmp X.K (fun q r => decide (q = r)) [v, u] H Q E := ⟨q, r, v, u, rfl, hv, hu, hq, hr, z⟩
  obtain ⟨p, dx, rfl, hp⟩ := hv
  rcases hu with ⟨p', dx', rfl, hp'⟩ | ⟨i, rfl, _⟩
  · exact cmp_tt B rich_eq T.o_Time___eq__ (f_eq T) hk hp hp' s
  · exact cmp_ti B rich_eq T.o_Time___eq__ (f_eq T) hk hp s
theorem o_ltT (B : Body X k fun _ => E) (T : Tm X.K X.mg) (hk : 5 ≤ k) (hv : TimeV (CT X.K) q v H) (hu : Tim X.K r u H) (hq : Sz q 4000) (hr : Sz r 4000) (z : Bl H (decide (q < r)) Q) : Op2 X (compareOp .Lt) v u H Q := by
  have s : spCmp X.K (fun q r => decide (q < r)) [v, u] H Q E := ⟨q, r, v, u, rfl, hv, hu, hq, hr, z⟩
  obtain ⟨p, dx, rfl, hp⟩ := hv
  rcases hu with ⟨p', dx', rfl, hp'⟩ | ⟨i, rfl, _⟩
  · exact cmp_tt B rich_lt T.o_Time___lt__ (f_lt T) hk hp hp' s
  · exact cmp_ti B rich_lt T.o_Time___lt__ (f_lt T) hk hp s
theorem o_leT (B : Body X k fun _ => E) (T : Tm X.K X.mg) (hk : 5 ≤ k) (hv : TimeV (CT X.K) q v H) (hu : Tim X.K r u H) (hq : Sz q 4000) (hr : Sz r 4000) (z : Bl H (decide (q ≤ r)) Q) : Op2 X (compareOp .LtE) v u H Q := by
  have s : spCmp X.K (fun q r => decide (q ≤ r)) [v, u] H Q E := ⟨q, r, v, u, rfl, hv, hu, hq, hr, z⟩
  obtain ⟨p, dx, rfl, hp⟩ := hv
  rcases hu with ⟨p', dx', rfl, hp'⟩ | ⟨i, rfl, _⟩
  · exact cmp_tt B rich_le T.o_Time___le__ (f_le T) hk hp hp' s
  · exact cmp_ti B rich_le T.o_Time___le__ (f_le T) hk hp s
theorem o_gtT (B : Body X k fun _ => E) (T : Tm X.K X.mg) (hk : 5 ≤ k) (hv : TimeV (CT X.K) q v H) (hu : Tim X.K r u H) (hq : Sz q 4000) (hr : Sz r 4000) (z : Bl H (decide (r < q)) Q) : Op2 X (compareOp .Gt) v u H Q := by
  have s : spCmp X.K (fun q r => decide (r < q)) [v, u] H Q E := ⟨q, r, v, u, rfl, hv, hu, hq, hr, z⟩
  obtain ⟨p, dx, rfl, hp⟩ := hv
  rcases hu with ⟨p', dx', rfl, hp'⟩ | ⟨i, rfl, _⟩
  · exact cmp_tt B rich_gt T.o_Time___gt__ (f_gt T) hk hp hp' s
  · exact cmp_ti B rich_gt T.o_Time___gt__ (f_gt T) hk hp s
theorem o_geT (B : Body X k fun _ => E) (T : Tm X.K X.mg) (hk : 5 ≤ k) (hv : TimeV (CT X.K) q v H) (hu : Tim X.K r u H) (hq : Sz q 4000) (hr : Sz r 4000) (z : Bl H (decide (r ≤ q)) Q) : Op2 X (compareOp .GtE) v u H Q := by
  have s : spCmp X.K (fun q r => decide (r ≤ q)) [v, u] H Q E := ⟨q, r, v, u, rfl, hv, hu, hq, hr, z⟩
  obtain ⟨p, dx, rfl, hp⟩ := hv
  rcases hu with ⟨p', dx', rfl, hp'⟩ | ⟨i, rfl, _⟩
  · exact cmp_tt B rich_ge T.o_Time___ge__ (f_ge T) hk hp hp' s
  · exact cmp_ti B rich_ge T.o_Time___ge__ (f_ge T) hk hp s
theorem o_eqI (B : Body X k fun _ => E) (T : Tm X.K X.mg) (hk : 5 ≤ k) (hv : TimeV (CT X.K) q v H) (hq : Sz q 4000) (hr : Sz (i : Rat) 4000) (z : Bl H (decide (q = i)) Q) : Op2 X (compareOp .Eq) (.int i) v H Q := by
  have s : spCmp X.K (fun q r => decide (q = r)) [v, .int i] H Q E := ⟨q, _, v, _, rfl, hv, .inr ⟨i, rfl, rfl⟩, hq, hr, z⟩
  obtain ⟨p, dx, rfl, hp⟩ := hv
  exact cmp_it B rich_eq T.q_Time___eq__ idecl_eq (f_eq T) hk hp s
theorem o_ltI (B : Body X k fun _ => E) (T : Tm X.K X.mg) (hk : 5 ≤ k) (hv : TimeV (CT X.K) q v H) (hq : Sz q 4000) (hr : Sz (i : Rat) 4000) (z : Bl H (decide ((i : Rat) < q)) Q) : Op2 X (compareOp .Lt) (.int i) v H Q := by
  have s : spCmp X.K (fun q r => decide (r < q)) [v, .int i] H Q E := ⟨q, _, v, _, rfl, hv, .inr ⟨i, rfl, rfl⟩, hq, hr, z⟩
  obtain ⟨p, dx, rfl, hp⟩ := hv
  exact cmp_it B rich_lt T.q_Time___gt__ idecl_lt (f_gt T) hk hp s
theorem o_leI (B : Body X k fun _ => E) (T : Tm X.K X.mg) (hk : 5 ≤ k) (hv : TimeV (CT X.K) q v H) (hq : Sz q 4000) (hr : Sz (i : Rat) 4000) (z : Bl H (decide ((i : Rat) ≤ q)) Q) : Op2 X (compareOp .LtE) (.int i) v H Q := by
  have s : spCmp X.K (fun q r => decide (r ≤ q)) [v, .int i] H Q E := ⟨q, _, v, _, rfl, hv, .inr ⟨i, rfl, rfl⟩, hq, hr, z⟩
  obtain ⟨p, dx, rfl, hp⟩ := hv
  exact cmp_it B rich_le T.q_Time___ge__ idecl_le (f_ge T) hk hp s
theorem o_gtI (B : Body X k fun _ => E) (T : Tm X.K X.mg) (hk : 5 ≤ k) (hv : TimeV (CT X.K) q v H) (hq : Sz q 4000) (hr : Sz (i : Rat) 4000) (z : Bl H (decide (q < (i : Rat))) Q) : Op2 X (compareOp .Gt) (.int i) v H Q := by
  have s : spCmp X.K (fun q r => decide (q < r)) [v, .int i] H Q E := ⟨q, _, v, _, rfl, hv, .inr ⟨i, rfl, rfl⟩, hq, hr, z⟩
  obtain ⟨p, dx, rfl, hp⟩ := hv
  exact cmp_it B rich_gt T.q_Time___lt__ idecl_gt (f_lt T) hk hp s
theorem o_geI (B : Body X k fun _ => E) (T : Tm X.K X.mg) (hk : 5 ≤ k) (hv : TimeV (CT X.K) q v H) (hq : Sz q 4000) (hr : Sz (i : Rat) 4000) (z : Bl H (decide (q ≤ (i : Rat))) Q) : Op2 X (compareOp .GtE) (.int i) v H Q := by
  have s : spCmp X.K (fun q r => decide (q ≤ r)) [v, .int i] H Q E := ⟨q, _, v, _, rfl, hv, .inr ⟨i, rfl, rfl⟩, hq, hr, z⟩
  obtain ⟨p, dx, rfl, hp⟩ := hv
  exact cmp_it B rich_ge T.q_Time___le__ idecl_ge (f_le T) hk hp s
theorem o_neT (B : Body X k fun _ => E) (T : Tm X.K X.mg) (hk : 6 ≤ k) (hv : TimeV (CT X.K) q v H) (hu : Tim X.K r u H) (hq : Sz q 4000) (hr : Sz r 4000) (z : Bl H (!decide (q = r)) Q) : Op2 X (compareOp .NotEq) v u H Q := by
  have s : spCmp X.K (fun q r => decide (q = r)) [v, u] H (NotQ Q) E := ⟨q, r, v, u, rfl, hv, hu, hq, hr, fun H' x => ⟨_, rfl, z H' x⟩⟩
  obtain ⟨p, dx, rfl, hp⟩ := hv
  rcases hu with ⟨p', dx', rfl, hp'⟩ | ⟨i, rfl, _⟩
  · exact ne_tt B T.w_Time (f_eq T) hk hp hp' s
  · exact ne_ti B T.w_Time (f_eq T) hk hp s
theorem o_neI (B : Body X k fun _ => E) (T : Tm X.K X.mg) (hk : 6 ≤ k) (hv : TimeV (CT X.K) q v H) (hq : Sz q 4000) (hr : Sz (i : Rat) 4000) (z : Bl H (!decide (q = i)) Q) : Op2 X (compareOp .NotEq) (.int i) v H Q := by
  have s : spCmp X.K (fun q r => decide (q = r)) [v, .int i] H (NotQ Q) E := ⟨q, _, v, _, rfl, hv, .inr ⟨i, rfl, rfl⟩, hq, hr, fun H' x => ⟨_, rfl, z H' x⟩⟩
  obtain ⟨p, dx, rfl, hp⟩ := hv
  exact ne_it B T.w_Time (f_eq T) hk hp s
/-- the kinds that are no times -/
theorem fgn_ty {K : PySem.W.Frag} (T : Tm K X.mg) (g : Fgn H u) : ∃ t r1 r2, TyX K H u t ∧ PySem.W.kitOne K t (.ref (CT K)) = some false ∧ PySem.W.kitOne K t (.type "int") = some r1 ∧ PySem.W.kitOne K t (.type "bool") = some r2 ∧ (r1 && !r2) = false := by
  cases g with
  | non => exact ⟨_, _, _, .base .non, T.k_Time.ofNone, k_ni, k_nb, rfl⟩
  | bl b => exact ⟨_, _, _, .base (.bl b), T.k_Time.ofBool, k_bi, k_bb, rfl⟩
  | str z => exact ⟨_, _, _, .base (.str z), T.k_Time.ofStr, k_si, k_sb, rfl⟩
  | tup h => exact ⟨_, _, _, .base (.tup h), T.k_Time.ofTup, k_ti, k_tb, rfl⟩
  | lst h => exact ⟨_, _, _, .base (.lst h), T.k_Time.ofLst, k_li, k_lb, rfl⟩
theorem o_eqF (B : Body X k fun _ => E) (T : Tm X.K X.mg) (hk : 4 ≤ k) (hv : TimeV (CT X.K) q v H) (g : Fgn H u) (z : Q (.bl false) H) : Op2 X (compareOp .Eq) v u H Q := by
  obtain ⟨p, dx, rfl, hp⟩ := hv
  obtain ⟨t, r1, r2, h1, h2, h3, h4, h5⟩ := fgn_ty T g
  exact eq_fgn B T.w_Time (f_eqN T) hk hp g ⟨_, u, t, r1, r2, rfl, h1, h2, h3, h4, h5, hp, g, z⟩
theorem o_neF (B : Body X k fun _ => E) (T : Tm X.K X.mg) (hk : 5 ≤ k) (hv : TimeV (CT X.K) q v H) (g : Fgn H u) (z : Q (.bl true) H) : Op2 X (compareOp .NotEq) v u H Q := by
  obtain ⟨p, dx, rfl, hp⟩ := hv
  obtain ⟨t, r1, r2, h1, h2, h3, h4, h5⟩ := fgn_ty T g
  exact ne_fgn B T.w_Time (f_eqN T) hk hp g ⟨_, u, t, r1, r2, rfl, h1, h2, h3, h4, h5, hp, g, z⟩
end

/-! ### over, // -/
def Ix (H : Hp) (i : Int) (Q : VK) : Prop := ∀ H', Ex H H' → Q (.int i) H'
theorem ix_i {H : Hp} {i : Int} {Q : VK} (h : ∀ H', Ex H H' → Q (.int i) H') : Ix H i Q := h
theorem dn_ne {q r : Rat} (h : r.num ≠ 0) : (q.den : Int) * r.num ≠ 0 := Int.mul_ne_zero (den_ne q) h
theorem dn_sz {q r : Rat} (h : Sz q 4000) (h' : Sz r 4000) : ((q.den : Int) * r.num).natAbs < 2 ^ 8000 := by
  rw [Int.natAbs_mul, Int.natAbs_natCast]
  exact pow_add' h.den h'.num
local macro_rules | `(tactic| walk_at "w") => `(tactic| with_reducible refine' ix_i fun _ _ => ?_)
section
variable {P : Program} {w : World} {K : PySem.W.Frag} {mg : Str → Option Value} {base : Heap}
def spOver (K : PySem.W.Frag) : Sp := fun vs H Q E => ∃ q r v u, vs = [v, u] ∧ TimeV (CT K) q v H ∧ Tim K r u H ∧ Sz q 4000 ∧ Sz r 4000 ∧ ((r.num ≠ 0 ∧ Ret H (TimeV (CT K) (ov q r)) Q) ∨ (r.num = 0 ∧ ∀ H', Ex H H' → E (.ref (ga K "NoTime")) none H'))
theorem f_over (T : Tm K mg) : FnR P w K mg base (RX P w) 5 (MT K "over") (spOver K) := by
  obtain ⟨fd, F⟩ := T.d_Time_over
  refine raw_of F (def_ok F sc_Time_over (fun vs H Q E h => by obtain ⟨q, r, v, u, rfl, _⟩ := h; rfl) ?_) (F.bindsN fun _ _ _ _ _ _ us hl => match us, hl with | [_, _], _ => rfl)
  intro X eP ew eK em eb eN es hf nd H vs Q E B h
  subst eP ew eK em eb
  have n0 : Sl X 0 "self" := slot_of eN es hf nd rfl (by first | exact Or.inl rfl | exact Or.inr rfl) (by decide) (by decide)
  have n1 : Sl X 1 "other" := slot_of eN es hf nd rfl (by first | exact Or.inl rfl | exact Or.inr rfl) (by decide) (by decide)
  have n2 : Sl X 2 "by" := slot_of eN es hf nd rfl (by first | exact Or.inl rfl | exact Or.inr rfl) (by decide) (by decide)
  have g_time_of : Gn X "time_of" := gn_of es rfl (by decide)
  have F_time_of := f_time_of (P := X.prog) (w := X.w) (base := X.base) T
  have g_NoTime : Gn X "NoTime" := gn_of es rfl (by decide)
  have m_NoTime := T.g_NoTime
  have g_Time : Gn X "Time" := gn_of es rfl (by decide)
  have m_Time := T.g_Time
  obtain ⟨q, r, v, u, rfl, hv, hu, hq, hr, z⟩ := h
  show WB X [_, _, _] _ [some (v), some (u), none] H
  repeat walk_at "w"
  refine to_tim hu fun y H1 x1 hy => ?_
  repeat walk_at "w"
  refine ite_dec (fun h0 => ?_) (fun h0 => ?_)
  · rcases z with ⟨h1, _⟩ | ⟨_, z⟩
    · exact absurd h0 h1
    · repeat walk_at "w"
      exact ws_raise B g_NoTime m_NoTime T.x_NoTime (z _ x1)
  · rcases z with ⟨h1, z⟩ | ⟨h1, _⟩
    · repeat walk_at "w"
      exact ⟨_, _, rfl, rfl, dn_ne h0, g1_sz (dn_ne h0) (le_pow (dn_sz hq hr) (by decide)), z.mono x1⟩
    · exact absurd h1 h0
def spFloor (K : PySem.W.Frag) : Sp := fun vs H Q E => ∃ q r v u, vs = [v, u] ∧ TimeV (CT K) q v H ∧ Tim K r u H ∧ Sz q 4000 ∧ Sz r 4000 ∧ ((r.num ≠ 0 ∧ Ix H (fl q r) Q) ∨ (r.num = 0 ∧ ∀ H', Ex H H' → E (.ref (ga K "NoTime")) none H'))
theorem f_floor (T : Tm K mg) : FnR P w K mg base (RX P w) 5 (MT K "__floordiv__") (spFloor K) := by
  obtain ⟨fd, F⟩ := T.d_Time___floordiv__
  refine raw_of F (def_ok F sc_Time___floordiv__ (fun vs H Q E h => by obtain ⟨q, r, v, u, rfl, _⟩ := h; rfl) ?_) (F.bindsN fun _ _ _ _ _ _ us hl => match us, hl with | [_, _], _ => rfl)
  intro X eP ew eK em eb eN es hf nd H vs Q E B h
  subst eP ew eK em eb
  have n0 : Sl X 0 "self" := slot_of eN es hf nd rfl (by first | exact Or.inl rfl | exact Or.inr rfl) (by decide) (by decide)
  have n1 : Sl X 1 "other" := slot_of eN es hf nd rfl (by first | exact Or.inl rfl | exact Or.inr rfl) (by decide) (by decide)
  have n2 : Sl X 2 "by" := slot_of eN es hf nd rfl (by first | exact Or.inl rfl | exact Or.inr rfl) (by decide) (by decide)
  have g_is_time : Gn X "is_time" := gn_of es rfl (by decide)
  have F_is_time := f_is_time (P := X.prog) (w := X.w) (base := X.base) T
  have g_time_of : Gn X "time_of" := gn_of es rfl (by decide)
  have F_time_of := f_time_of (P := X.prog) (w := X.w) (base := X.base) T
  have g_NoTime : Gn X "NoTime" := gn_of es rfl (by decide)
  have m_NoTime := T.g_NoTime
  obtain ⟨q, r, v, u, rfl, hv, hu, hq, hr, z⟩ := h
  show WB X [_, _, _, _] _ [some (v), some (u), none] H
  repeat walk_at "w"
  refine it_tim T hu ?_
  repeat walk_at "w"
  refine to_tim hu fun y H1 x1 hy => ?_
  repeat walk_at "w"
  refine ite_dec (fun h0 => ?_) (fun h0 => ?_)
  · rcases z with ⟨h1, _⟩ | ⟨_, z⟩
    · exact absurd h0 h1
    · repeat walk_at "w"
      exact ws_raise B g_NoTime m_NoTime T.x_NoTime (z _ x1)
  · rcases z with ⟨h1, z⟩ | ⟨h1, _⟩
    · repeat walk_at "w"
      refine o_fdiv (dn_ne h0) (log2_small (dn_sz hq hr) (by decide) (by decide)) ?_
      exact z _ x1
    · exact absurd h1 h0
def spRFloor (K : PySem.W.Frag) : Sp := fun vs H Q E => ∃ (q : Rat) (i : Int) (v : V), vs = [v, .int i] ∧ TimeV (CT K) q v H ∧ Sz q 4000 ∧ Sz (i : Rat) 4000 ∧ ((q.num ≠ 0 ∧ Ix H (fl i q) Q) ∨ (q.num = 0 ∧ ∀ H', Ex H H' → E (.ref (ga K "NoTime")) none H'))
theorem f_rfloor (T : Tm K mg) : FnR P w K mg base (RX P w) 6 (MT K "__rfloordiv__") (spRFloor K) := by
  obtain ⟨fd, F⟩ := T.d_Time___rfloordiv__
  refine raw_of F (def_ok F sc_Time___rfloordiv__ (fun vs H Q E h => by obtain ⟨q, i, v, rfl, _⟩ := h; rfl) ?_) (F.bindsN fun _ _ _ _ _ _ us hl => match us, hl with | [_, _], _ => rfl)
  intro X eP ew eK em eb eN es hf nd H vs Q E B h
  subst eP ew eK em eb
  have n0 : Sl X 0 "self" := slot_of eN es hf nd rfl (by first | exact Or.inl rfl | exact Or.inr rfl) (by decide) (by decide)
  have n1 : Sl X 1 "other" := slot_of eN es hf nd rfl (by first | exact Or.inl rfl | exact Or.inr rfl) (by decide) (by decide)
  have g_is_time : Gn X "is_time" := gn_of es rfl (by decide)
  have F_is_time := f_is_time (P := X.prog) (w := X.w) (base := X.base) T
  have g_time_of : Gn X "time_of" := gn_of es rfl (by decide)
  have F_time_of := f_time_of (P := X.prog) (w := X.w) (base := X.base) T
  obtain ⟨q, i, v, rfl, hv, hq, hr, z⟩ := h
  show WB X [_, _] _ [some (v), some (.int i)] H
  repeat walk_at "w"
  refine to_int fun y H1 x1 hy => ?_
  repeat walk_at "w"
  obtain ⟨p, dx, rfl, hp⟩ := hy
  have hv1 := hv.mono x1
  obtain ⟨p', dx', rfl, hp'⟩ := hv1
  refine bin_tt B T.b_Time___floordiv__ (f_floor T) (by decide) hp hp' ⟨(i : Rat), q, _, _, rfl, ⟨p, dx, rfl, hp⟩, .inl ⟨p', dx', rfl, hp'⟩, hr, hq, ?_⟩
  rcases z with ⟨h1, z⟩ | ⟨h1, z⟩
  · exact .inl ⟨h1, fun H' x => z H' (x1.trans x)⟩
  · exact .inr ⟨h1, fun H' x => z H' (x1.trans x)⟩
end
section
variable {X : Cx} {σ : L2.St} {k : Nat} {E : L2.St → XK} {H : Hp} {Q : VK} {v u : V} {q r : Rat} {i : Int}
theorem a_floorT (B : Body X k E) (T : Tm X.K X.mg) (hk : 5 ≤ k) (hv : TimeV (CT X.K) q v H) (hu : Tim X.K r u H) (hq : Sz q 4000) (hr : Sz r 4000) (z : (r.num ≠ 0 ∧ Ix H (fl q r) Q) ∨ (r.num = 0 ∧ ∀ H', Ex H H' → E σ (.ref (ga X.K "NoTime")) none H')) : OpA X (binaryOp .FloorDiv) σ v u H Q := by
  have s : spFloor X.K [v, u] H Q (E σ) := ⟨q, r, v, u, rfl, hv, hu, hq, hr, z⟩
  obtain ⟨p, dx, rfl, hp⟩ := hv
  rcases hu with ⟨p', dx', rfl, hp'⟩ | ⟨i, rfl, _⟩
  · exact binA_tt B T.b_Time___floordiv__ (f_floor T) hk hp hp' s
  · exact binA_ti B T.b_Time___floordiv__ (f_floor T) hk hp s
theorem a_floorI (B : Body X k E) (T : Tm X.K X.mg) (hk : 6 ≤ k) (hv : TimeV (CT X.K) q v H) (hq : Sz q 4000) (hr : Sz (i : Rat) 4000) (z : (q.num ≠ 0 ∧ Ix H (fl i q) Q) ∨ (q.num = 0 ∧ ∀ H', Ex H H' → E σ (.ref (ga X.K "NoTime")) none H')) : OpA X (binaryOp .FloorDiv) σ (.int i) v H Q := by
  have s : spRFloor X.K [v, .int i] H Q (E σ) := ⟨q, i, v, rfl, hv, hq, hr, z⟩
  obtain ⟨p, dx, rfl, hp⟩ := hv
  exact binA_it B T.r_Time___rfloordiv__ PySem.F.fills_int_floordiv idecl_fdiv (f_rfloor T) hk hp s
theorem o_floorT {E : XK} (B : Body X k fun _ => E) (T : Tm X.K X.mg) (hk : 5 ≤ k) (hv : TimeV (CT X.K) q v H) (hu : Tim X.K r u H) (hq : Sz q 4000) (hr : Sz r 4000) (h0 : r.num ≠ 0) (z : Ix H (fl q r) Q) : Op2 X (binaryOp .FloorDiv) v u H Q := fun pins s σ => a_floorT (σ := σ) B T hk hv hu hq hr (.inl ⟨h0, z⟩) pins s
theorem o_floorI {E : XK} (B : Body X k fun _ => E) (T : Tm X.K X.mg) (hk : 6 ≤ k) (hv : TimeV (CT X.K) q v H) (hq : Sz q 4000) (hr : Sz (i : Rat) 4000) (h0 : q.num ≠ 0) (z : Ix H (fl i q) Q) : Op2 X (binaryOp .FloorDiv) (.int i) v H Q := fun pins s σ => a_floorI (σ := σ) B T hk hv hq hr (.inl ⟨h0, z⟩) pins s
end

/-! ### methods of times -/
section
variable {X : Cx} {k j : Nat} {E : L2.St → XK} {σ : L2.St} {H : Hp} {Q : VK} {sp : Sp} {o e : Expr} {m : Str} {f : Addr} {pos apos : Pos}
theorem we_methT {pl : Sem Bool} (B : Body X k E) (T : Tm X.K X.mg) (hm : Meth X.K (CT X.K) m f) (F : FnR X.prog X.w X.K X.mg X.base (RX X.prog X.w) j f sp) (hj : j ≤ k) (hf : ∀ q, (tfs q).lookup m = none)
    (h : WE X o σ H fun y H1 => (∃ q, TimeV (CT X.K) q y H1) ∧ WE X e σ H1 fun z H2 => sp [y, z] H2 Q (E σ)) (hs : starEach [e] X.env = [(false, eval e X.env)] := by rfl) (hl : (backTo pos (starEach [] X.env)).any (·.1) = false := by rfl)
    (ht : eval (.Call (.Attribute o m apos) [e] [] pos) X.env = (do
      let it ← eval o X.env
      standAt apos.atName
      let (g, first) ← holding [it] (getMethod it m pl)
      callWith pos g first (backTo pos (starEach [e] X.env)) (backToKw pos (keywordEach [] X.env))) := by rfl) : WE X (.Call (.Attribute o m apos) [e] [] pos) σ H Q :=
  we_meth (pl := pl) B T.c_Time.cl ⟨f, hm, F⟩ hj (we_mono h fun y H1 z => by
    obtain ⟨⟨q, p, dx, rfl, hp⟩, z⟩ := z
    exact ⟨p, dx, _, rfl, hp, hf q, wa_one z hs⟩) hs hl ht
theorem no_power (q : Rat) : (tfs q).lookup ("power" : Str) = none := rfl
theorem no_over (q : Rat) : (tfs q).lookup ("over" : Str) = none := rfl
end
theorem and_t {C : Addr} {v : V} {H : Hp} {q : Rat} {A : Prop} (h : TimeV C q v H) (a : A) : (∃ q, TimeV C q v H) ∧ A := ⟨⟨q, h⟩, a⟩
local macro_rules | `(tactic| walk_at "w") => `(tactic| ((with_reducible refine' and_t ?h ?_); (case h => walk_at "tv")))

/-! ### steps for the operators of times (sizes: facts at hand) -/
theorem Sz.big {q : Rat} (h : Sz q 4000) : Sz q 8000 := h.mono (by decide)
local macro_rules | `(tactic| walk_at "sq") => `(tactic| assumption)
local macro_rules | `(tactic| walk_at "tim") => `(tactic| first | (refine Or.inl ?_; walk_at "tv") | exact Or.inr ⟨_, rfl, rfl⟩ | ((with_reducible refine' Tim.mono ?x ?h); (case h => assumption); (case x => walk_at "x")))
local macro_rules | `(tactic| walk_at "wO") => `(tactic| first | ((with_reducible refine' o_addT ?B ?T ?hk ?hv ?hu ?hq ?hr ?_); (case B => assumption); (case T => assumption); (case hk => decide); (case hv => walk_at "tv"); (case hu => walk_at "tim"); (case hq => walk_at "sq"); (case hr => walk_at "sq")) | ((with_reducible refine' o_subT ?B ?T ?hk ?hv ?hu ?hq ?hr ?_); (case B => assumption); (case T => assumption); (case hk => decide); (case hv => walk_at "tv"); (case hu => walk_at "tim"); (case hq => walk_at "sq"); (case hr => walk_at "sq")) | ((with_reducible refine' o_mulT ?B ?T ?hk ?hv ?hu ?hq ?hr ?_); (case B => assumption); (case T => assumption); (case hk => decide); (case hv => walk_at "tv"); (case hu => walk_at "tim"); (case hq => walk_at "sq"); (case hr => walk_at "sq")) | ((with_reducible refine' i_addT ?B ?T ?hk ?hv ?hu ?hq ?hr ?_); (case B => assumption); (case T => assumption); (case hk => decide); (case hv => walk_at "tv"); (case hu => walk_at "tv"); (case hq => walk_at "sq"); (case hr => walk_at "sq")) | ((with_reducible refine' i_subT ?B ?T ?hk ?hv ?hu ?hq ?hr ?_); (case B => assumption); (case T => assumption); (case hk => decide); (case hv => walk_at "tv"); (case hu => walk_at "tv"); (case hq => walk_at "sq"); (case hr => walk_at "sq")) | ((with_reducible refine' i_mulT ?B ?T ?hk ?hv ?hu ?hq ?hr ?_); (case B => assumption); (case T => assumption); (case hk => decide); (case hv => walk_at "tv"); (case hu => walk_at "tv"); (case hq => walk_at "sq"); (case hr => walk_at "sq")) | ((with_reducible refine' o_addI ?B ?T ?hk ?hv ?hq ?hr ?_); (case B => assumption); (case T => assumption); (case hk => decide); (case hv => walk_at "tv"); (case hq => walk_at "sq"); (case hr => walk_at "sq")) | ((with_reducible refine' o_subI ?B ?T ?hk ?hv ?hq ?hr ?_); (case B => assumption); (case T => assumption); (case hk => decide); (case hv => walk_at "tv"); (case hq => walk_at "sq"); (case hr => walk_at "sq")) | ((with_reducible refine' o_mulI ?B ?T ?hk ?hv ?hq ?hr ?_); (case B => assumption); (case T => assumption); (case hk => decide); (case hv => walk_at "tv"); (case hq => walk_at "sq"); (case hr => walk_at "sq")) | ((with_reducible refine' o_ltT ?B ?T ?hk ?hv ?hu ?hq ?hr ?_); (case B => assumption); (case T => assumption); (case hk => decide); (case hv => walk_at "tv"); (case hu => walk_at "tim"); (case hq => walk_at "sq"); (case hr => walk_at "sq")) | ((with_reducible refine' o_leT ?B ?T ?hk ?hv ?hu ?hq ?hr ?_); (case B => assumption); (case T => assumption); (case hk => decide); (case hv => walk_at "tv"); (case hu => walk_at "tim"); (case hq => walk_at "sq"); (case hr => walk_at "sq")) | ((with_reducible refine' o_gtT ?B ?T ?hk ?hv ?hu ?hq ?hr ?_); (case B => assumption); (case T => assumption); (case hk => decide); (case hv => walk_at "tv"); (case hu => walk_at "tim"); (case hq => walk_at "sq"); (case hr => walk_at "sq")) | ((with_reducible refine' o_geT ?B ?T ?hk ?hv ?hu ?hq ?hr ?_); (case B => assumption); (case T => assumption); (case hk => decide); (case hv => walk_at "tv"); (case hu => walk_at "tim"); (case hq => walk_at "sq"); (case hr => walk_at "sq")) | ((with_reducible refine' o_eqT ?B ?T ?hk ?hv ?hu ?hq ?hr ?_); (case B => assumption); (case T => assumption); (case hk => decide); (case hv => walk_at "tv"); (case hu => walk_at "tim"); (case hq => walk_at "sq"); (case hr => walk_at "sq")) | ((with_reducible refine' o_neT ?B ?T ?hk ?hv ?hu ?hq ?hr ?_); (case B => assumption); (case T => assumption); (case hk => decide); (case hv => walk_at "tv"); (case hu => walk_at "tim"); (case hq => walk_at "sq"); (case hr => walk_at "sq")) | ((with_reducible refine' o_ltI ?B ?T ?hk ?hv ?hq ?hr ?_); (case B => assumption); (case T => assumption); (case hk => decide); (case hv => walk_at "tv"); (case hq => walk_at "sq"); (case hr => walk_at "sq")) | ((with_reducible refine' o_leI ?B ?T ?hk ?hv ?hq ?hr ?_); (case B => assumption); (case T => assumption); (case hk => decide); (case hv => walk_at "tv"); (case hq => walk_at "sq"); (case hr => walk_at "sq")) | ((with_reducible refine' o_gtI ?B ?T ?hk ?hv ?hq ?hr ?_); (case B => assumption); (case T => assumption); (case hk => decide); (case hv => walk_at "tv"); (case hq => walk_at "sq"); (case hr => walk_at "sq")) | ((with_reducible refine' o_geI ?B ?T ?hk ?hv ?hq ?hr ?_); (case B => assumption); (case T => assumption); (case hk => decide); (case hv => walk_at "tv"); (case hq => walk_at "sq"); (case hr => walk_at "sq")) | ((with_reducible refine' o_eqI ?B ?T ?hk ?hv ?hq ?hr ?_); (case B => assumption); (case T => assumption); (case hk => decide); (case hv => walk_at "tv"); (case hq => walk_at "sq"); (case hr => walk_at "sq")) | ((with_reducible refine' o_neI ?B ?T ?hk ?hv ?hq ?hr ?_); (case B => assumption); (case T => assumption); (case hk => decide); (case hv => walk_at "tv"); (case hq => walk_at "sq"); (case hr => walk_at "sq")) | fail)
local macro_rules | `(tactic| walk_at "wX") => `(tactic| first | ((with_reducible refine' o_negT ?B ?T ?hk ?hv ?hq ?_); (case B => assumption); (case T => assumption); (case hk => decide); (case hv => walk_at "tv"); (case hq => refine Sz.big ?_; walk_at "sq")) | fail)

/-! ### times that may be missing -/
def OptT (K : PySem.W.Frag) (o : Option Rat) (v : V) (H : Hp) : Prop := match o with
  | none => v = .non
  | some q => TimeV (CT K) q v H
theorem OptT.mono {K : PySem.W.Frag} {o : Option Rat} {v : V} {H H' : Hp} (x : Ex H H') (h : OptT K o v H) : OptT K o v H' := by
  cases o with
  | none => exact h
  | some q => exact TimeV.mono x h
theorem upd2 {H : Hp} {p : Addr} {o u : HO} : upd (upd H p o) p u = upd H p u := upd_upd
theorem TimeV.up {C p : Addr} {q : Rat} {v : V} {H : Hp} {o u : HO} (hp : H p = some o) (ho : ∀ dx, o ≠ .ins C dx (tfs q)) (h : TimeV C q v H) : TimeV C q v (upd H p u) := by
  obtain ⟨t, dx, rfl, ht⟩ := h
  refine ⟨t, dx, rfl, (upd_ne fun e => ?_).trans ht⟩
  subst e
  rw [hp] at ht
  cases ht
  exact ho dx rfl

/-! ### values that are no times above 0 -/
/-- a value that is no time above 0, and not None -/
def BadV (K : PySem.W.Frag) (v : V) (H : Hp) : Prop := (∃ b, v = .bl b) ∨ (∃ z, v = .str z) ∨ (∃ p i, v = .ref p ∧ H p = some (.lst [.int i])) ∨ ∃ q, Tim K q v H ∧ q ≤ 0 ∧ Sz q 4000
theorem one_ns' {i : Int} : ¬ Src (.lst [.int i]) := not_src_ints (ns := [i])
section
variable {K : PySem.W.Frag} {v : V} {H H' : Hp} {p C dx : Addr}
theorem BadV.mono (x : Ex H H') (h : BadV K v H) : BadV K v H' := by
  rcases h with h | h | ⟨p, i, e, h⟩ | ⟨q, h, r⟩
  · exact .inl h
  · exact .inr (.inl h)
  · exact .inr (.inr (.inl ⟨p, i, e, x.keep _ _ h one_ns'⟩))
  · exact .inr (.inr (.inr ⟨q, h.mono x, r⟩))
theorem BadV.nn (h : BadV K v H) : v ≠ .non := by
  rintro rfl
  rcases h with ⟨b, e⟩ | ⟨z, e⟩ | ⟨p, i, e, h⟩ | ⟨q, h | ⟨i, e, _⟩, r⟩
  · cases e
  · cases e
  · cases e
  · obtain ⟨t, dx, e, _⟩ := h
    cases e
  · cases e
theorem BadV.kind (h : BadV K v H) : Fgn H v ∨ ∃ q, Tim K q v H ∧ q ≤ 0 ∧ Sz q 4000 := by
  rcases h with ⟨b, rfl⟩ | ⟨z, rfl⟩ | ⟨p, i, rfl, h⟩ | h
  · exact .inl (.bl b)
  · exact .inl (.str z)
  · exact .inl (.lst h)
  · exact .inr h
/-- .. or None -/
def WBad (K : PySem.W.Frag) (v : V) (H : Hp) : Prop := v = .non ∨ BadV K v H
theorem WBad.mono (x : Ex H H') (h : WBad K v H) : WBad K v H' := h.elim .inl fun h => .inr (h.mono x)
theorem WBad.kind (h : WBad K v H) : Fgn H v ∨ ∃ q, Tim K q v H ∧ q ≤ 0 ∧ Sz q 4000 := by
  rcases h with rfl | h
  · exact .inl .non
  · exact h.kind
end
section
variable {K : PySem.W.Frag} {mg : Str → Option Value} {H : Hp} {Q : VK} {E : XK} {v : V}
theorem fgn_tyK (T : Tm K mg) (g : Fgn H v) : ∃ t r1 r2, TyX K H v t ∧ PySem.W.kitOne K t (.ref (CT K)) = some false ∧ PySem.W.kitOne K t (.type "int") = some r1 ∧ PySem.W.kitOne K t (.type "bool") = some r2 ∧ (r1 && !r2) = false := by
  cases g with
  | non => exact ⟨_, _, _, .base .non, T.k_Time.ofNone, k_ni, k_nb, rfl⟩
  | bl b => exact ⟨_, _, _, .base (.bl b), T.k_Time.ofBool, k_bi, k_bb, rfl⟩
  | str z => exact ⟨_, _, _, .base (.str z), T.k_Time.ofStr, k_si, k_sb, rfl⟩
  | tup h => exact ⟨_, _, _, .base (.tup h), T.k_Time.ofTup, k_ti, k_tb, rfl⟩
  | lst h => exact ⟨_, _, _, .base (.lst h), T.k_Time.ofLst, k_li, k_lb, rfl⟩
theorem it_no (T : Tm K mg) (h : Fgn H v) (z : Q (.bl false) H) : spIsTime K [v] H Q E := by
  obtain ⟨t, r1, r2, h1, h2, h3, h4, h5⟩ := fgn_tyK T h
  exact ⟨v, t, false, r1, r2, rfl, h1, h2, h3, h4, by rw [h5]; exact z⟩
end

/-! ### into a comprehension's block -/
section
variable {X : Cx} {s : Shared} {H0 : Hp} {scope : Scope} {C : Addr} {cl : List (Str × Addr)} {fp : List Addr} {elt : Expr} {σ : L2.St} {H : Hp} {Q : VK} {k i : Nat} {E : L2.St → XK} {x : Str} {N : List Str} {sco : Scope}
theorem in_blk (B : Body X k E) (h0 : scope.names.lookup ("0" : Str) = none) (h : Body (Bk X s H0 scope C cl fp) k (fun _ => E0) → WE (Bk X s H0 scope C cl fp) elt σ H Q) : WE (Bk X s H0 scope C cl fp) elt σ H Q := h (B.blk h0)
theorem in_own (eN : X.N = N) (nd : N.Nodup) (hi : N[i]? = some x) (hx : scope.names.lookup x = some .local) (d1 : (x == ("__debug__" : Str)) = false) (d2 : (x == ("__classdict__" : Str)) = false) (h : Sl (Bk X s H0 scope C cl fp) i x → WE (Bk X s H0 scope C cl fp) elt σ H Q) : WE (Bk X s H0 scope C cl fp) elt σ H Q := h (own_of eN nd hi hx d1 d2)
theorem in_gn (x : Str) (hx : scope.names.lookup x = some .globalImplicit) (d1 : (x == ("__debug__" : Str)) = false) (h : Gn (Bk X s H0 scope C cl fp) x → WE (Bk X s H0 scope C cl fp) elt σ H Q) : WE (Bk X s H0 scope C cl fp) elt σ H Q := h (gn_blk hx d1)
theorem in_bn (x : Str) (hx : scope.names.lookup x = some .globalImplicit) (no : X.mg x = none) (h : Bn (Bk X s H0 scope C cl fp) x → WE (Bk X s H0 scope C cl fp) elt σ H Q) : WE (Bk X s H0 scope C cl fp) elt σ H Q := h (bn_blk hx no)
theorem in_free (eN : X.N = N) (es : X.env.scope = sco) (hi : N[i]? = some x) (hx : (relS scope sco).names.lookup x = some .cell) (d1 : (x == ("__debug__" : Str)) = false) (d2 : (x == ("__classdict__" : Str)) = false) (h : SlF (Bk X s H0 scope C cl fp) i x → WE (Bk X s H0 scope C cl fp) elt σ H Q) : WE (Bk X s H0 scope C cl fp) elt σ H Q := h (free_of eN es hi hx d1 d2)
end
local macro_rules | `(tactic| walk_at "wE") => `(tactic| first | ((with_reducible refine' we_nameF ?n ?h ?_); (case n => with_reducible assumption); (case h => exact rfl)) | fail)

/-! ### books of rules: what a book holds -/
/-- a book's nine parts -/
structure Bk where
  word : Str
  share : Rat
  latest : Option Nat
  factor : Rat
  margin : Rat
  floor : Option Rat
  roof : Option Rat
  doubled : Bool
  kept : Bool
structure BkOk (z : Bk) : Prop where
  word : z.word ∈ (["first", "last", "marked", "clean"] : List Str)
  sh0 : 0 < z.share
  sh1 : z.share ≤ 1
  lat : ∀ n, z.latest = some n → 1 ≤ n ∧ n ≤ 20 ∧ z.share = 1
  fa : 1 ≤ z.factor
  ma : 0 ≤ z.margin
  fl : ∀ f, z.floor = some f → 0 < f
  ro : ∀ r, z.roof = some r → 0 < r ∧ ∀ f, z.floor = some f → f ≤ r
  ke : z.kept = true → z.doubled = true
  z1 : Sz z.share 1000
  z2 : Sz z.factor 1000
  z3 : Sz z.margin 1000
  z4 : ∀ f, z.floor = some f → Sz f 1000
  z5 : ∀ f, z.roof = some f → Sz f 1000
def latV : Option Nat → V
  | none => .non
  | some n => .int n
def pn : List Str := ["sample", "share", "latest", "factor", "margin", "floor", "roof", "doubled", "kept"]
def pk : List Key := pn.map Sum.inr
theorem pk_nd : pk.Nodup := by decide +kernel
theorem pk_at {i : Nat} {x : Str} (h : pn[i]? = some x) : pk[i]? = some (.inr x) := by
  unfold pk
  rw [List.getElem?_map, h]
  rfl
/-- a time, an int or None -/
def OTim (K : PySem.W.Frag) (o : Option Rat) (v : V) (H : Hp) : Prop := match o with
  | none => v = .non
  | some q => Tim K q v H
theorem OTim.mono {K : PySem.W.Frag} {o : Option Rat} {v : V} {H H' : Hp} (x : Ex H H') (h : OTim K o v H) : OTim K o v H' := by
  cases o with
  | none => exact h
  | some q => exact Tim.mono x h
theorem Tim.nn {K : PySem.W.Frag} {q : Rat} {v : V} {H : Hp} (h : Tim K q v H) : v ≠ .non := by
  rintro rfl
  rcases h with ⟨t, dx, e, _⟩ | ⟨i, e, _⟩ <;> cases e
theorem OptT.oTim {K : PySem.W.Frag} {o : Option Rat} {v : V} {H : Hp} (h : OptT K o v H) : OTim K o v H := by
  cases o with
  | none => exact h
  | some q => exact .inl h
/-- the nine values: times or ints -/
structure Raw (K : PySem.W.Frag) (z : Bk) (sh fa ma fl ro : V) (H : Hp) : Prop where
  sh : Tim K z.share sh H
  fa : Tim K z.factor fa H
  ma : Tim K z.margin ma H
  fl : OTim K z.floor fl H
  ro : OTim K z.roof ro H
theorem Raw.mono {K : PySem.W.Frag} {z : Bk} {sh fa ma fl ro : V} {H H' : Hp} (x : Ex H H') (h : Raw K z sh fa ma fl ro H) : Raw K z sh fa ma fl ro H' := ⟨h.sh.mono x, h.fa.mono x, h.ma.mono x, h.fl.mono x, h.ro.mono x⟩
abbrev row9 (z : Bk) (sh fa ma fl ro : V) : List V := [.str z.word, sh, latV z.latest, fa, ma, fl, ro, .bl z.doubled, .bl z.kept]
abbrev dk9 (z : Bk) (sh fa ma fl ro : V) : HO := .dK (pk.zip (row9 z sh fa ma fl ro))
theorem val9 {z : Bk} {sh fa ma fl ro v : V} {x : Str} (i : Nat) (hx : pn[i]? = some x) (hv : (row9 z sh fa ma fl ro)[i]? = some v) : valV (pk.zip (row9 z sh fa ma fl ro)) (.inr x) = some v := valV_zip pk_nd (pk_at hx) hv
theorem o_eqSt {X : Cx} {H : Hp} {Q : VK} {x y : Str} (h : decide (x = y) = true) (q : Q (.bl true) H) : Op2 X (compareOp .Eq) (.str x) (.str y) H Q := o_eqS (by rw [h]; exact q)
theorem o_eqSf {X : Cx} {H : Hp} {Q : VK} {x y : Str} (h : decide (x = y) = false) (q : Q (.bl false) H) : Op2 X (compareOp .Eq) (.str x) (.str y) H Q := o_eqS (by rw [h]; exact q)
theorem gr_ok {H : Hp} {Q : V → Prop} {z : Bk} {d : Addr} {sh fa ma fl ro v : V} {x : Str} (hd : H d = some (dk9 z sh fa ma fl ro)) (i : Nat) (hx : pn[i]? = some x) (hv : (row9 z sh fa ma fl ro)[i]? = some v) (q : Q v) :
    ∃ a kvs x' v', V.ref d = .ref a ∧ V.str x = .str x' ∧ H a = some (.dK kvs) ∧ valV kvs (.inr x') = some v' ∧ Q v' := ⟨d, _, x, v, rfl, rfl, hd, val9 i hx hv, q⟩
theorem gs_ok {H : Hp} {Q : V → Prop} {z : Bk} {d : Addr} {sh fa ma fl ro v : V} {x : Str} (hd : H d = some (dk9 z sh fa ma fl ro)) (i : Nat) (hx : pn[i]? = some x) (hv : (row9 z sh fa ma fl ro)[i]? = some v) (q : Q v) :
    ∃ a kvs v', V.ref d = .ref a ∧ H a = some (.dK kvs) ∧ valV kvs (.inr x) = some v' ∧ Q v' := ⟨d, _, v, rfl, hd, val9 i hx hv, q⟩
local macro_rules | `(tactic| walk_at "wE") => `(tactic| first | ((with_reducible refine' we_dgetS ?B ?_ ?hs); (case B => assumption); (case hs => intro _ _; rfl)) | ((with_reducible refine' we_cmp ?_ ?hm); (case hm => rfl)) | fail)
local macro_rules | `(tactic| walk_at "wO") => `(tactic| first | ((with_reducible refine' o_eqSt ?h ?_); (case h => decide +kernel)) | ((with_reducible refine' o_eqSf ?h ?_); (case h => decide +kernel)) | with_reducible refine' o_isB ?_ | fail)
section
variable {P : Program} {w : World} {K : PySem.W.Frag} {mg : Str → Option Value} {base : Heap}
theorem z0s : Sz ((0 : Int) : Rat) 4000 := (Sz.int (n := 2) (by decide) (by decide)).mono (by decide)
theorem z1s : Sz ((1 : Int) : Rat) 4000 := (Sz.int (n := 2) (by decide) (by decide)).mono (by decide)
def spIsPos (K : PySem.W.Frag) : Sp := fun vs H Q _ => ∃ q v, vs = [v] ∧ Tim K q v H ∧ Sz q 4000 ∧ Bl H (decide (0 < q)) Q
theorem f_is_positive (T : Tm K mg) : GFn P w K mg base 6 "is_positive" (spIsPos K) := by
  obtain ⟨fd, F⟩ := T.d_is_positive
  refine GFn.mk F T.g_is_positive (def_ok F sc_is_positive (fun vs H Q E h => by obtain ⟨q, v, rfl, _⟩ := h; rfl) ?_) (F.bindsN fun _ _ _ _ _ _ us hl => match us, hl with | [_], _ => rfl)
  intro X eP ew eK em eb eN es hf nd H vs Q E B h
  subst eP ew eK em eb
  have n0 : Sl X 0 "thing" := slot_of eN es hf nd rfl (by first | exact Or.inl rfl | exact Or.inr rfl) (by decide) (by decide)
  have g_is_time : Gn X "is_time" := gn_of es rfl (by decide)
  have F_is_time := f_is_time (P := X.prog) (w := X.w) (base := X.base) T
  have g_time_of : Gn X "time_of" := gn_of es rfl (by decide)
  have F_time_of := f_time_of (P := X.prog) (w := X.w) (base := X.base) T
  obtain ⟨q, v, rfl, hv, hq, z⟩ := h
  show WB X [_] _ [some (v)] H
  have z0 := z0s
  repeat walk_at "w"
  refine it_tim T hv ?_
  repeat walk_at "w"
  refine to_tim hv fun y H1 x1 hy => ?_
  repeat walk_at "w"
  exact z _ (by walk_at "x")
def spIsLatest (K : PySem.W.Frag) : Sp := fun vs H Q _ => ∃ o q v, vs = [latV o, v] ∧ Tim K q v H ∧ Sz q 4000 ∧ (∀ n, o = some n → 1 ≤ n ∧ n ≤ 20 ∧ q = 1) ∧ Yes H Q
theorem f_is_latest (T : Tm K mg) : GFn P w K mg base 6 "is_latest" (spIsLatest K) := by
  obtain ⟨fd, F⟩ := T.d_is_latest
  refine GFn.mk F T.g_is_latest (def_ok F sc_is_latest (fun vs H Q E h => by obtain ⟨o, q, v, rfl, _⟩ := h; rfl) ?_) (F.bindsN fun _ _ _ _ _ _ us hl => match us, hl with | [_, _], _ => rfl)
  intro X eP ew eK em eb eN es hf nd H vs Q E B h
  subst eP ew eK em eb
  have n0 : Sl X 0 "thing" := slot_of eN es hf nd rfl (by first | exact Or.inl rfl | exact Or.inr rfl) (by decide) (by decide)
  have n1 : Sl X 1 "share" := slot_of eN es hf nd rfl (by first | exact Or.inl rfl | exact Or.inr rfl) (by decide) (by decide)
  have z_isinstance : Bn X "isinstance" := bn_of es rfl T.z_isinstance
  have z_int : Bn X "int" := bn_of es rfl T.z_int
  have z_bool : Bn X "bool" := bn_of es rfl T.z_bool
  have g_MOST_LATEST : Gn X "MOST_LATEST" := gn_of es rfl (by decide)
  obtain ⟨t_MOST_LATEST, m_MOST_LATEST⟩ := T.i_MOST_LATEST
  have g_time_of : Gn X "time_of" := gn_of es rfl (by decide)
  have F_time_of := f_time_of (P := X.prog) (w := X.w) (base := X.base) T
  obtain ⟨o, q, v, rfl, hv, hq, hn, z⟩ := h
  show WB X [_, _, _] _ [some (latV o), some (v)] H
  have z1 := z1s
  cases o with
  | none =>
    repeat walk_at "w"
    rw [decide_eq_true (show latV none = V.non from rfl)]
    repeat walk_at "w"
    exact z _ (.refl _)
  | some n =>
    obtain ⟨n1, n2, rfl⟩ := hn n rfl
    repeat walk_at "w"
    rw [decide_eq_false (show ¬ latV (some n) = V.non from fun e => nomatch e)]
    repeat walk_at "w"
    refine ⟨true, ⟨_, _, .ty _, .base (.int n), k_ii⟩, ?_⟩
    repeat walk_at "w"
    refine ⟨false, ⟨_, _, .ty _, .base (.int n), k_ib⟩, ?_⟩
    repeat walk_at "w"
    refine o_le (l := (n : Int)) ?_
    repeat walk_at "w"
    rw [decide_eq_true (show (1 : Int) ≤ (n : Int) by omega)]
    repeat walk_at "w"
    refine o_le (i := (n : Int)) ?_
    repeat walk_at "w"
    rw [decide_eq_true (show (n : Int) ≤ 20 by omega)]
    repeat walk_at "w"
    refine to_tim hv fun y H1 x1 hy => ?_
    repeat walk_at "w"
    rw [decide_eq_true (show (1 : Rat) = ((1 : Int) : Rat) from rfl)]
    exact z _ (by walk_at "x")
def spIsRoof (K : PySem.W.Frag) : Sp := fun vs H Q _ => ∃ r f v u, vs = [v, u] ∧ OTim K r v H ∧ OTim K f u H ∧ (∀ q, r = some q → Sz q 4000 ∧ 0 < q ∧ ∀ g, f = some g → Sz g 4000 ∧ g ≤ q) ∧ Yes H Q
theorem f_is_roof (T : Tm K mg) : GFn P w K mg base 7 "is_roof" (spIsRoof K) := by
  obtain ⟨fd, F⟩ := T.d_is_roof
  refine GFn.mk F T.g_is_roof (def_ok F sc_is_roof (fun vs H Q E h => by obtain ⟨r, f, v, u, rfl, _⟩ := h; rfl) ?_) (F.bindsN fun _ _ _ _ _ _ us hl => match us, hl with | [_, _], _ => rfl)
  intro X eP ew eK em eb eN es hf nd H vs Q E B h
  subst eP ew eK em eb
  have n0 : Sl X 0 "thing" := slot_of eN es hf nd rfl (by first | exact Or.inl rfl | exact Or.inr rfl) (by decide) (by decide)
  have n1 : Sl X 1 "floor" := slot_of eN es hf nd rfl (by first | exact Or.inl rfl | exact Or.inr rfl) (by decide) (by decide)
  have g_is_positive : Gn X "is_positive" := gn_of es rfl (by decide)
  have F_is_positive := f_is_positive (P := X.prog) (w := X.w) (base := X.base) T
  have g_time_of : Gn X "time_of" := gn_of es rfl (by decide)
  have F_time_of := f_time_of (P := X.prog) (w := X.w) (base := X.base) T
  obtain ⟨r, f, v, u, rfl, hv, hu, hr, z⟩ := h
  show WB X [_, _] _ [some (v), some (u)] H
  cases r with
  | none =>
    cases hv
    repeat walk_at "w"
    rw [decide_eq_true (rfl : V.non = V.non)]
    repeat walk_at "w"
    exact z _ (.refl _)
  | some q =>
    obtain ⟨zq, q0, hg⟩ := hr q rfl
    have hv : Tim X.K q v H := hv
    repeat walk_at "w"
    rw [decide_eq_false hv.nn]
    repeat walk_at "w"
    refine ⟨q, v, rfl, hv, zq, ?_⟩
    rw [decide_eq_true q0]
    repeat walk_at "w"
    rename_i H1 x1
    cases f with
    | none =>
      cases hu
      rw [decide_eq_true (rfl : V.non = V.non)]
      repeat walk_at "w"
      exact z _ x1
    | some g =>
      obtain ⟨zg, gq⟩ := hg g rfl
      have hu : Tim X.K g u H := hu
      rw [decide_eq_false hu.nn]
      repeat walk_at "w"
      refine to_tim (hv.mono x1) fun y H2 x2 hy => ?_
      repeat walk_at "w"
      have hu2 : Tim X.K g u H2 := hu.mono (x1.trans x2)
      rw [decide_eq_true gq]
      exact z _ (by walk_at "x")
end
section
variable {P : Program} {w : World} {K : PySem.W.Frag} {mg : Str → Option Value} {base : Heap}
def spAllowed (K : PySem.W.Frag) : Sp := fun vs H Q _ => ∃ z d sh fa ma fl ro x, ∃ i : Nat, vs = [.str x, .ref d] ∧ H d = some (dk9 z sh fa ma fl ro) ∧ Raw K z sh fa ma fl ro H ∧ BkOk z ∧ pn[i]? = some x ∧ Yes H Q
theorem f_is_allowed (T : Tm K mg) : GFn P w K mg base 8 "is_allowed" (spAllowed K) := by
  obtain ⟨fd, F⟩ := T.d_is_allowed
  refine GFn.mk F T.g_is_allowed (def_ok F sc_is_allowed (fun vs H Q E h => by obtain ⟨z, d, sh, fa, ma, fl, ro, x, i, rfl, _⟩ := h; rfl) ?_) (F.bindsN fun _ _ _ _ _ _ us hl => match us, hl with | [_, _], _ => rfl)
  intro X eP ew eK em eb eN es hf nd H vs Q E B h
  subst eP ew eK em eb
  have n0 : Sl X 0 "part" := slot_of eN es hf nd rfl (by first | exact Or.inl rfl | exact Or.inr rfl) (by decide) (by decide)
  have n1 : Sl X 1 "rules" := slot_of eN es hf nd rfl (by first | exact Or.inl rfl | exact Or.inr rfl) (by decide) (by decide)
  have n2 : Sl X 2 "thing" := slot_of eN es hf nd rfl (by first | exact Or.inl rfl | exact Or.inr rfl) (by decide) (by decide)
  have z_isinstance : Bn X "isinstance" := bn_of es rfl T.z_isinstance
  have z_str : Bn X "str" := bn_of es rfl T.z_str
  have g_SAMPLES : Gn X "SAMPLES" := gn_of es rfl (by decide)
  have m_SAMPLES := T.g_SAMPLES
  have g_is_positive : Gn X "is_positive" := gn_of es rfl (by decide)
  have F_is_positive := f_is_positive (P := X.prog) (w := X.w) (base := X.base) T
  have g_time_of : Gn X "time_of" := gn_of es rfl (by decide)
  have F_time_of := f_time_of (P := X.prog) (w := X.w) (base := X.base) T
  have g_is_latest : Gn X "is_latest" := gn_of es rfl (by decide)
  have F_is_latest := f_is_latest (P := X.prog) (w := X.w) (base := X.base) T
  have g_is_time : Gn X "is_time" := gn_of es rfl (by decide)
  have F_is_time := f_is_time (P := X.prog) (w := X.w) (base := X.base) T
  have g_is_roof : Gn X "is_roof" := gn_of es rfl (by decide)
  have F_is_roof := f_is_roof (P := X.prog) (w := X.w) (base := X.base) T
  obtain ⟨z, d, sh, fa, ma, fl, ro, x, i, rfl, hd, hr, ok, hx, k⟩ := h
  show WB X [_, _, _, _, _, _, _, _, _, _] _ [some (.str x), some (.ref d), none] H
  have z0 := z0s
  have z1 := z1s
  have up : ∀ {q : Rat}, Sz q 1000 → Sz q 4000 := fun h => h.mono (by decide)
  have zsh := up ok.z1
  have zfa := up ok.z2
  have zma := up ok.z3
  match i, hx with
  | 0, hx =>
    cases hx
    refine wb_cons (ws_set n2 (we_dget B ?_))
    repeat walk_at "w"
    refine gr_ok hd 0 rfl rfl ?_
    repeat walk_at "w"
    refine ⟨true, ⟨_, _, .ty _, .base (.str _), k_ss⟩, ?_⟩
    repeat walk_at "w"
    refine o_inT (v := .str z.word) (T.kt_SAMPLES.sq _) rfl (by decide +kernel) ?_
    rw [show inV (.str z.word) _ = true from ?h]
    exact k _ (.refl _)
    have := ok.word
    simp only [List.mem_cons, List.not_mem_nil, or_false] at this
    rcases this with e | e | e | e <;> rw [e] <;> decide +kernel
  | 1, hx =>
    cases hx
    refine wb_cons (ws_set n2 (we_dget B ?_))
    repeat walk_at "w"
    refine gr_ok hd 1 rfl rfl ?_
    repeat walk_at "w"
    refine ⟨_, _, rfl, hr.sh, zsh, ?_⟩
    rw [decide_eq_true ok.sh0]
    repeat walk_at "w"
    rename_i H1 x1
    refine to_tim (hr.sh.mono x1) fun y H2 x2 hy => ?_
    repeat walk_at "w"
    rw [decide_eq_true (show z.share ≤ ((1 : Int) : Rat) from ok.sh1)]
    exact k _ (by walk_at "x")
  | 2, hx =>
    cases hx
    refine wb_cons (ws_set n2 (we_dget B ?_))
    repeat walk_at "w"
    refine gr_ok hd 2 rfl rfl ?_
    repeat walk_at "w"
    refine gs_ok hd 1 rfl rfl ?_
    repeat walk_at "w"
    refine ⟨z.latest, z.share, sh, rfl, hr.sh, zsh, ok.lat, ?_⟩
    exact k
  | 3, hx =>
    cases hx
    refine wb_cons (ws_set n2 (we_dget B ?_))
    repeat walk_at "w"
    refine gr_ok hd 3 rfl rfl ?_
    repeat walk_at "w"
    refine it_tim T hr.fa ?_
    repeat walk_at "w"
    refine to_tim hr.fa fun y H2 x2 hy => ?_
    repeat walk_at "w"
    rw [decide_eq_true (show ((1 : Int) : Rat) ≤ z.factor from ok.fa)]
    exact k _ (by walk_at "x")
  | 4, hx =>
    cases hx
    refine wb_cons (ws_set n2 (we_dget B ?_))
    repeat walk_at "w"
    refine gr_ok hd 4 rfl rfl ?_
    repeat walk_at "w"
    refine it_tim T hr.ma ?_
    repeat walk_at "w"
    refine to_tim hr.ma fun y H2 x2 hy => ?_
    repeat walk_at "w"
    rw [decide_eq_true (show ((0 : Int) : Rat) ≤ z.margin from ok.ma)]
    exact k _ (by walk_at "x")
  | 5, hx =>
    cases hx
    refine wb_cons (ws_set n2 (we_dget B ?_))
    repeat walk_at "w"
    refine gr_ok hd 5 rfl rfl ?_
    repeat walk_at "w"
    have hfl := hr.fl
    have h0 := ok.fl
    have hz := ok.z4
    generalize z.floor = o at hfl h0 hz
    cases o with
    | none =>
      cases hfl
      rw [decide_eq_true (rfl : V.non = V.non)]
      repeat walk_at "w"
      exact k _ (.refl _)
    | some q =>
      have hfl : Tim X.K q fl H := hfl
      rw [decide_eq_false hfl.nn]
      repeat walk_at "w"
      refine ⟨q, fl, rfl, hfl, up (hz q rfl), ?_⟩
      rw [decide_eq_true (h0 q rfl)]
      exact k
  | 6, hx =>
    cases hx
    refine wb_cons (ws_set n2 (we_dget B ?_))
    repeat walk_at "w"
    refine gr_ok hd 6 rfl rfl ?_
    repeat walk_at "w"
    refine gs_ok hd 5 rfl rfl ?_
    repeat walk_at "w"
    exact ⟨z.roof, z.floor, ro, fl, rfl, hr.ro, hr.fl, fun q e => ⟨up (ok.z5 q e), (ok.ro q e).1, fun g eg => ⟨up (ok.z4 g eg), (ok.ro q e).2 g eg⟩⟩, k⟩
  | 7, hx =>
    cases hx
    refine wb_cons (ws_set n2 (we_dget B ?_))
    repeat walk_at "w"
    refine gr_ok hd 7 rfl rfl ?_
    repeat walk_at "w"
    cases z.doubled with
    | true => exact k _ (.refl _)
    | false =>
      rw [decide_eq_false (show ¬ false = true by decide)]
      repeat walk_at "w"
      exact k _ (.refl _)
  | 8, hx =>
    cases hx
    refine wb_cons (ws_set n2 (we_dget B ?_))
    repeat walk_at "w"
    refine gr_ok hd 8 rfl rfl ?_
    repeat walk_at "w"
    have hk := ok.ke
    cases q : z.kept with
    | false => exact k _ (.refl _)
    | true =>
      rw [decide_eq_false (show ¬ true = false by decide)]
      repeat walk_at "w"
      rw [decide_eq_true (rfl : true = true)]
      repeat walk_at "w"
      refine gs_ok hd 7 rfl rfl ?_
      rw [hk q]
      exact k _ (.refl _)
  | i + 9, hx => cases hx
end
/-! ### checked, Book(..) -/
section
variable {K : PySem.W.Frag} {C p : Addr} {q : Rat} {v : V} {H : Hp} {kvs : List (Key × V)} {u : HO}
theorem TimeV.upD (hp : H p = some (.dK kvs)) (h : TimeV C q v H) : TimeV C q v (upd H p u) := TimeV.up hp (fun _ e => nomatch e) h
theorem Tim.upD (hp : H p = some (.dK kvs)) (h : Tim K q v H) : Tim K q v (upd H p u) := h.elim (fun h => .inl (TimeV.upD hp h)) .inr
theorem OTim.upD {o : Option Rat} (hp : H p = some (.dK kvs)) (h : OTim K o v H) : OTim K o v (upd H p u) := by
  cases o with
  | none => exact h
  | some q => exact Tim.upD hp h
theorem OptT.upD {o : Option Rat} (hp : H p = some (.dK kvs)) (h : OptT K o v H) : OptT K o v (upd H p u) := by
  cases o with
  | none => exact h
  | some q => exact TimeV.upD hp h
theorem Raw.upD {z : Bk} {sh fa ma fl ro : V} (hp : H p = some (.dK kvs)) (h : Raw K z sh fa ma fl ro H) : Raw K z sh fa ma fl ro (upd H p u) := ⟨h.sh.upD hp, h.fa.upD hp, h.ma.upD hp, h.fl.upD hp, h.ro.upD hp⟩
end
/-- the nine values as a book keeps them -/
structure Kept (K : PySem.W.Frag) (z : Bk) (sh fa ma fl ro : V) (H : Hp) : Prop where
  sh : TimeV (CT K) z.share sh H
  fa : TimeV (CT K) z.factor fa H
  ma : TimeV (CT K) z.margin ma H
  fl : OptT K z.floor fl H
  ro : OptT K z.roof ro H
theorem Kept.mono {K : PySem.W.Frag} {z : Bk} {sh fa ma fl ro : V} {H H' : Hp} (x : Ex H H') (h : Kept K z sh fa ma fl ro H) : Kept K z sh fa ma fl ro H' := ⟨TimeV.mono x h.sh, TimeV.mono x h.fa, TimeV.mono x h.ma, h.fl.mono x, h.ro.mono x⟩
theorem Kept.raw {K : PySem.W.Frag} {z : Bk} {sh fa ma fl ro : V} {H : Hp} (h : Kept K z sh fa ma fl ro H) : Raw K z sh fa ma fl ro H := ⟨.inl h.sh, .inl h.fa, .inl h.ma, h.fl.oTim, h.ro.oTim⟩
/-- found[name i] = v -/
theorem put9 {z : Bk} {sh fa ma fl ro v : V} {x : Str} (i : Nat) (hx : pn[i]? = some x) : putK (pk.zip (row9 z sh fa ma fl ro)) (.inr x) v = pk.zip ((row9 z sh fa ma fl ro).set i v) := putK_zip pk_nd rfl (pk_at hx)
section
variable {P : Program} {w : World} {K : PySem.W.Frag} {mg : Str → Option Value} {base : Heap}
def spCheckedB (K : PySem.W.Frag) : Sp := fun vs H Q _ => ∃ z d sh fa ma fl ro, vs = [.ref d] ∧ H d = some (dk9 z sh fa ma fl ro) ∧ Raw K z sh fa ma fl ro H ∧ BkOk z ∧
  ∀ d' H' sh fa ma fl ro, Ex H H' → H d' = none → H' d' = some (dk9 z sh fa ma fl ro) → Kept K z sh fa ma fl ro H' → Q (.ref d') H'
theorem f_checked (T : Tm K mg) : GFn P w K mg base 9 "checked" (spCheckedB K) := by
  obtain ⟨fd, F⟩ := T.d_checked
  refine GFn.mk F T.g_checked (def_ok F sc_checked (fun vs H Q E h => by obtain ⟨z, d, sh, fa, ma, fl, ro, rfl, _⟩ := h; rfl) ?_) (F.bindsN fun _ _ _ _ _ _ us hl => match us, hl with | [_], _ => rfl)
  intro X eP ew eK em eb eN es hf nd H vs Q E B h
  subst eP ew eK em eb
  have n0 : Sl X 0 "rules" := slot_of eN es hf nd rfl (by first | exact Or.inl rfl | exact Or.inr rfl) (by decide) (by decide)
  have n1 : Sl X 1 "part" := slot_of eN es hf nd rfl (by first | exact Or.inl rfl | exact Or.inr rfl) (by decide) (by decide)
  have n2 : Sl X 2 "found" := slot_of eN es hf nd rfl (by first | exact Or.inl rfl | exact Or.inr rfl) (by decide) (by decide)
  have g_PARTS : Gn X "PARTS" := gn_of es rfl (by decide)
  have m_PARTS := T.g_PARTS
  have g_is_allowed : Gn X "is_allowed" := gn_of es rfl (by decide)
  have F_is_allowed := f_is_allowed (P := X.prog) (w := X.w) (base := X.base) T
  have g_BadBook : Gn X "BadBook" := gn_of es rfl (by decide)
  have m_BadBook := T.g_BadBook
  have z_dict : Bn X "dict" := bn_of es rfl T.z_dict
  have g_time_of : Gn X "time_of" := gn_of es rfl (by decide)
  have F_time_of := f_time_of (P := X.prog) (w := X.w) (base := X.base) T
  obtain ⟨z, d, sh, fa, ma, fl, ro, rfl, hd, hr, ok, k⟩ := h
  show WB X [_, _, _, _, _] _ [some (.ref d), none, none] H
  refine wb_cons (ws_to (fun σ' H' => (∃ a, σ' = [some (.ref d), a, none]) ∧ Ex H H') ?_ ?_)
  · refine ws_for_tupE B n1 ?_
    repeat walk_at "w"
    refine ⟨_, _, rfl, fun _ σ' H' => (∃ a, σ' = [some (.ref d), a, none]) ∧ Ex H H', ⟨⟨_, rfl⟩, .refl _⟩, fun j σ' H' _ _ => T.kt_PARTS.sq H', ?_, fun _ _ h => h⟩
    rintro j y σ' H' hy ⟨⟨a, rfl⟩, x1⟩
    obtain ⟨x, hx, rfl⟩ : ∃ x, pn[j]? = some x ∧ y = .str x := by
      have e : (pn.map V.str)[j]? = some y := hy
      rw [List.getElem?_map] at e
      cases q : pn[j]? with
      | none => rw [q] at e; cases e
      | some x => rw [q] at e; cases e; exact ⟨x, rfl, rfl⟩
    repeat walk_at "w"
    refine ⟨z, d, sh, fa, ma, fl, ro, x, j, rfl, x1.keep _ _ hd not_src_dk, hr.mono x1, ok, hx, fun H2 x2 => ?_⟩
    repeat walk_at "w"
    exact ⟨⟨_, rfl⟩, x1.trans x2⟩
  rintro σ' H1 ⟨⟨a, rfl⟩, x1⟩
  refine wb_cons (ws_set n2 (we_dictC z_dict ?_))
  repeat walk_at "w"
  refine ⟨d, _, rfl, x1.keep _ _ hd not_src_dk, fun d' nd' => ?_⟩
  have hd1 := x1.keep _ _ hd not_src_dk
  have hr1 := hr.mono x1
  have x2 : Ex H (upd H1 d' (dk9 z sh fa ma fl ro)) := x1.trans (Ex.new nd')
  have nd0 := x1.back nd'
  have ne : d ≠ d' := fun e => by subst e; rw [nd'] at hd1; cases hd1
  have p2 : upd H1 d' (dk9 z sh fa ma fl ro) d' = some (dk9 z sh fa ma fl ro) := upd_same
  have hr2 : Raw X.K z sh fa ma fl ro (upd H1 d' (dk9 z sh fa ma fl ro)) := hr1.mono (Ex.new nd')
  show WB X _ _ [some (.ref d), a, some (.ref d')] (upd H1 d' (dk9 z sh fa ma fl ro))
  generalize upd H1 d' (dk9 z sh fa ma fl ro) = H2 at x2 p2 hr2 ⊢
  clear hd1 hr1 nd' x1
  have hd0 : ∀ {G : Hp}, Ex H G → G d = some (dk9 z sh fa ma fl ro) := fun x => x.keep _ _ hd not_src_dk
  -- share, factor, margin
  refine wb_cons (ws_to (fun σ' H' => ∃ b sh2 fa2 ma2, σ' = [some (.ref d), b, some (.ref d')] ∧ Ex H H' ∧ H' d' = some (dk9 z sh2 fa2 ma2 fl ro) ∧ TimeV (CT X.K) z.share sh2 H' ∧ TimeV (CT X.K) z.factor fa2 H' ∧ TimeV (CT X.K) z.margin ma2 H') ?_ ?_)
  · refine ws_for_tupE B n1 ?_
    refine we_tup ?_
    repeat walk_at "w"
    refine tup_i len3 fun t H3 x3 ht => ?_
    have p3 := x3.keep _ _ p2 not_src_dk
    refine ⟨t, [.str "share", .str "factor", .str "margin"], rfl, fun j σ' H' => ∃ b sh2 fa2 ma2, σ' = [some (.ref d), b, some (.ref d')] ∧ Ex H H' ∧ H' t = some (.tup [.str "share", .str "factor", .str "margin"]) ∧ H' d' = some (dk9 z sh2 fa2 ma2 fl ro) ∧ (1 ≤ j → TimeV (CT X.K) z.share sh2 H') ∧ (2 ≤ j → TimeV (CT X.K) z.factor fa2 H') ∧ (3 ≤ j → TimeV (CT X.K) z.margin ma2 H'),
      ⟨_, _, _, _, rfl, x2.trans x3, ht, p3, fun h => absurd h (by decide), fun h => absurd h (by decide), fun h => absurd h (by decide)⟩, fun j σ' H' _ h => ?_, ?_, ?_⟩
    · obtain ⟨b, sh2, fa2, ma2, _, _, ht, _⟩ := h
      exact .of ht
    · rintro j y σ' H4 hy ⟨b, sh2, fa2, ma2, rfl, x4, ht4, p4, c1, c2, c3⟩
      have hr4 := hr.mono x4
      have nt : ∀ {u : HO} {H5 : Hp}, Ex H4 H5 → upd H5 d' u t = some (.tup [.str "share", .str "factor", .str "margin"]) := fun {u H5} x => (upd_ne (fun e => by subst e; rw [ht4] at p4; cases p4)).trans (x.tup ht4)
      match j, hy with
      | 0, hy =>
        cases hy
        refine wb_one (ws_dput B ?_)
        repeat walk_at "w"
        refine we_dget B ?_
        repeat walk_at "w"
        refine gr_ok (hd0 x4) 1 rfl rfl ?_
        refine to_tim hr4.sh fun v H5 x5 hv => ?_
        repeat walk_at "w"
        have p5 := x5.keep _ _ p4 not_src_dk
        refine ⟨d', _, "share", rfl, rfl, p5, (show 9 < sizeLine by decide), ?_⟩
        rw [put9 1 rfl]
        exact ⟨_, v, fa2, ma2, rfl, (x4.trans x5).put nd0, nt x5, upd_same, fun _ => TimeV.upD p5 hv, fun h => absurd h (by decide), fun h => absurd h (by decide)⟩
      | 1, hy =>
        cases hy
        refine wb_one (ws_dput B ?_)
        repeat walk_at "w"
        refine we_dget B ?_
        repeat walk_at "w"
        refine gr_ok (hd0 x4) 3 rfl rfl ?_
        refine to_tim hr4.fa fun v H5 x5 hv => ?_
        repeat walk_at "w"
        have p5 := x5.keep _ _ p4 not_src_dk
        refine ⟨d', _, "factor", rfl, rfl, p5, (show 9 < sizeLine by decide), ?_⟩
        rw [put9 3 rfl]
        exact ⟨_, sh2, v, ma2, rfl, (x4.trans x5).put nd0, nt x5, upd_same, fun _ => TimeV.upD p5 (TimeV.mono x5 (c1 (by decide))), fun _ => TimeV.upD p5 hv, fun h => absurd h (by decide)⟩
      | 2, hy =>
        cases hy
        refine wb_one (ws_dput B ?_)
        repeat walk_at "w"
        refine we_dget B ?_
        repeat walk_at "w"
        refine gr_ok (hd0 x4) 4 rfl rfl ?_
        refine to_tim hr4.ma fun v H5 x5 hv => ?_
        repeat walk_at "w"
        have p5 := x5.keep _ _ p4 not_src_dk
        refine ⟨d', _, "margin", rfl, rfl, p5, (show 9 < sizeLine by decide), ?_⟩
        rw [put9 4 rfl]
        exact ⟨_, sh2, fa2, v, rfl, (x4.trans x5).put nd0, nt x5, upd_same, fun _ => TimeV.upD p5 (TimeV.mono x5 (c1 (by decide))), fun _ => TimeV.upD p5 (TimeV.mono x5 (c2 (by decide))), fun _ => TimeV.upD p5 hv⟩
      | j + 3, hy => cases hy
    · rintro σ' H4 ⟨b, sh2, fa2, ma2, rfl, x4, _, p4, c1, c2, c3⟩
      exact ⟨b, sh2, fa2, ma2, rfl, x4, p4, c1 (by decide), c2 (by decide), c3 (by decide)⟩
  rintro σ' H3 ⟨b, sh2, fa2, ma2, rfl, x3, p3, h1, h2, h3⟩
  clear p2 hr2 x2
  -- floor, roof
  refine wb_cons (ws_to (fun σ' H' => ∃ b fl2 ro2, σ' = [some (.ref d), b, some (.ref d')] ∧ Ex H H' ∧ H' d' = some (dk9 z sh2 fa2 ma2 fl2 ro2) ∧ Kept X.K z sh2 fa2 ma2 fl2 ro2 H') ?_ ?_)
  · refine ws_for_tupE B n1 ?_
    refine we_tup ?_
    repeat walk_at "w"
    refine tup_i len2 fun t H4 x4 ht => ?_
    have p4 := x4.keep _ _ p3 not_src_dk
    have hr4 := hr.mono (x3.trans x4)
    refine ⟨t, [.str "floor", .str "roof"], rfl, fun j σ' H' => ∃ b fl2 ro2, σ' = [some (.ref d), b, some (.ref d')] ∧ Ex H H' ∧ H' t = some (.tup [.str "floor", .str "roof"]) ∧ H' d' = some (dk9 z sh2 fa2 ma2 fl2 ro2) ∧ TimeV (CT X.K) z.share sh2 H' ∧ TimeV (CT X.K) z.factor fa2 H' ∧ TimeV (CT X.K) z.margin ma2 H' ∧ (if 1 ≤ j then OptT X.K z.floor fl2 H' else fl2 = fl) ∧ (if 2 ≤ j then OptT X.K z.roof ro2 H' else ro2 = ro),
      ⟨_, fl, ro, rfl, x3.trans x4, ht, p4, TimeV.mono x4 h1, TimeV.mono x4 h2, TimeV.mono x4 h3, rfl, rfl⟩, fun j σ' H' _ h => ?_, ?_, ?_⟩
    · obtain ⟨b, fl2, ro2, _, _, ht, _⟩ := h
      exact .of ht
    · rintro j y σ' H5 hy ⟨b, fl2, ro2, rfl, x5, ht5, p5, g1, g2, g3, c1, c2⟩
      have hr5 := hr.mono x5
      have nt : ∀ {u : HO} {H6 : Hp}, Ex H5 H6 → upd H6 d' u t = some (.tup [.str "floor", .str "roof"]) := fun {u H6} x => (upd_ne (fun e => by subst e; rw [ht5] at p5; cases p5)).trans (x.tup ht5)
      match j, hy with
      | 0, hy =>
        cases hy
        have c1 : fl2 = fl := c1
        subst c1
        have hf := hr5.fl
        repeat walk_at "w"
        refine we_dget B ?_
        repeat walk_at "w"
        refine gr_ok (hd0 x5) 5 rfl rfl ?_
        repeat walk_at "w"
        cases eo : z.floor with
        | none =>
          rw [eo] at hf
          cases hf
          rw [decide_eq_true (rfl : V.non = V.non)]
          repeat walk_at "w"
          exact ⟨_, _, _, rfl, x5, ht5, p5, g1, g2, g3, rfl, c2⟩
        | some q =>
          rw [eo] at hf
          have hf : Tim X.K q fl2 H5 := hf
          rw [decide_eq_false hf.nn]
          repeat walk_at "w"
          refine ws_dput B ?_
          repeat walk_at "w"
          refine we_dget B ?_
          repeat walk_at "w"
          refine gr_ok (hd0 x5) 5 rfl rfl ?_
          refine to_tim hf fun v H6 x6 hv => ?_
          repeat walk_at "w"
          have p6 := x6.keep _ _ p5 not_src_dk
          refine ⟨d', _, "floor", rfl, rfl, p6, (show 9 < sizeLine by decide), ?_⟩
          rw [put9 5 rfl]
          exact ⟨_, v, _, rfl, (x5.trans x6).put nd0, nt x6, upd_same, TimeV.upD p6 (TimeV.mono x6 g1), TimeV.upD p6 (TimeV.mono x6 g2), TimeV.upD p6 (TimeV.mono x6 g3), TimeV.upD p6 hv, c2⟩
      | 1, hy =>
        cases hy
        have c2 : ro2 = ro := c2
        subst c2
        have c1 : OptT X.K z.floor fl2 H5 := c1
        have hf := hr5.ro
        repeat walk_at "w"
        refine we_dget B ?_
        repeat walk_at "w"
        refine gr_ok (hd0 x5) 6 rfl rfl ?_
        repeat walk_at "w"
        cases eo : z.roof with
        | none =>
          rw [eo] at hf
          cases hf
          rw [decide_eq_true (rfl : V.non = V.non)]
          repeat walk_at "w"
          exact ⟨_, _, _, rfl, x5, ht5, p5, g1, g2, g3, c1, rfl⟩
        | some q =>
          rw [eo] at hf
          have hf : Tim X.K q ro2 H5 := hf
          rw [decide_eq_false hf.nn]
          repeat walk_at "w"
          refine ws_dput B ?_
          repeat walk_at "w"
          refine we_dget B ?_
          repeat walk_at "w"
          refine gr_ok (hd0 x5) 6 rfl rfl ?_
          refine to_tim hf fun v H6 x6 hv => ?_
          repeat walk_at "w"
          have p6 := x6.keep _ _ p5 not_src_dk
          refine ⟨d', _, "roof", rfl, rfl, p6, (show 9 < sizeLine by decide), ?_⟩
          rw [put9 6 rfl]
          exact ⟨_, _, v, rfl, (x5.trans x6).put nd0, nt x6, upd_same, TimeV.upD p6 (TimeV.mono x6 g1), TimeV.upD p6 (TimeV.mono x6 g2), TimeV.upD p6 (TimeV.mono x6 g3), OptT.upD p6 (c1.mono x6), TimeV.upD p6 hv⟩
      | j + 2, hy => cases hy
    · rintro σ' H5 ⟨b, fl2, ro2, rfl, x5, _, p5, g1, g2, g3, c1, c2⟩
      exact ⟨b, fl2, ro2, rfl, x5, p5, g1, g2, g3, c1, c2⟩
  rintro σ' H4 ⟨b, fl2, ro2, rfl, x4, p4, hk⟩
  repeat walk_at "w"
  exact k _ _ _ _ _ _ _ x4 nd0 p4 hk
end

/-! ### Book(..) made -/
abbrev CB (K : PySem.W.Frag) : Addr := ga K "Book"
def BookV (K : PySem.W.Frag) (z : Bk) (v : V) (H : Hp) : Prop := ∃ p dx d sh fa ma fl ro, v = .ref p ∧ H p = some (.ins (CB K) dx [("rules", .ref d)]) ∧ H d = some (dk9 z sh fa ma fl ro) ∧ Kept K z sh fa ma fl ro H
theorem BookV.mono {K : PySem.W.Frag} {z : Bk} {v : V} {H H' : Hp} (x : Ex H H') (h : BookV K z v H) : BookV K z v H' := by
  obtain ⟨p, dx, d, sh, fa, ma, fl, ro, rfl, hp, hd, hk⟩ := h
  exact ⟨p, dx, d, sh, fa, ma, fl, ro, rfl, x.ins hp, x.keep _ _ hd not_src_dk, hk.mono x⟩
theorem bk_fld {H : Hp} {p C dx d : Addr} {P : V → Prop} (hp : H p = some (.ins C dx [("rules", .ref d)])) (q : P (.ref d)) : ∃ a dx fs v, V.ref p = .ref a ∧ H a = some (.ins C dx fs) ∧ fs.lookup ("rules" : Str) = some v ∧ P v := ⟨p, dx, _, _, rfl, hp, rfl, q⟩
section
variable {X : Cx} {σ : L2.St} {H : Hp} {D : Ends} {Q : VK} {e o value : Expr} {pos pos' : Pos}
theorem we_rules (T : Tm X.K X.mg) (h : WE X e σ H fun y H1 => ∃ a dx fs v, y = .ref a ∧ H1 a = some (.ins (CB X.K) dx fs) ∧ fs.lookup ("rules" : Str) = some v ∧ Q v H1) (hb : attributeBase e "rules" X.env (eval e X.env) = eval e X.env := by rfl) : WE X (.Attribute e "rules" pos) σ H Q := we_fld T.c_Book.cl T.n_Book_rules h hb
theorem ws_rules (T : Tm X.K X.mg) (h : WE X value σ H fun y H1 => WE X o σ H1 fun z H2 => ∃ a dx fs, z = .ref a ∧ H2 a = some (.ins (CB X.K) dx fs) ∧ fs.length < 1000 ∧ D.nx σ (upd H2 a (.ins (CB X.K) dx (putF ("rules" : Str) y fs)))) (hs : swapsWith value (some (.Attribute o "rules" pos')) pos.line X.env = pure false := by rfl) : WS X (.Assign [.Attribute o "rules" pos'] value pos) D σ H := ws_fld T.c_Book.cl T.n_Book_rules h hs
end
local macro_rules | `(tactic| walk_at "wE") => `(tactic| first | ((with_reducible refine' we_rules ?T ?_ ?hb); (case T => assumption); (case hb => rfl)) | fail)
local macro_rules | `(tactic| walk_at "wS") => `(tactic| first | ((with_reducible refine' ws_rules ?T ?_ ?hs); (case T => assumption); (case hs => rfl)) | fail)
section
variable {P : Program} {w : World} {K : PySem.W.Frag} {mg : Str → Option Value} {base : Heap}
def spBInit (K : PySem.W.Frag) : Sp := fun vs H Q _ => ∃ z p dx sh fa ma fl ro, vs = .ref p :: row9 z sh fa ma fl ro ∧ H p = some (.ins (CB K) dx []) ∧ Raw K z sh fa ma fl ro H ∧ BkOk z ∧
  ∀ H', ExX (fun a => a = p) H H' → BookV K z (.ref p) H' → Q .non H'
theorem ok_binit (T : Tm K mg) {fd : FuncData} {kws : List (Str × V)} (F : FunD K "__init__" "Book.__init__" (defArgs s_Book___init__) (defBody s_Book___init__) (defScope s_Book___init__) [] kws (ma K (CB K) "__init__") fd) :
    FnOk P w K mg base (RX P w) 10 (ma K (CB K) "__init__") fd ["self", "sample", "share", "latest", "factor", "margin", "floor", "roof", "doubled", "kept"] (spBInit K) := by
  refine def_ok F sc_Book___init__ (fun vs H Q E h => by obtain ⟨z, p, dx, sh, fa, ma, fl, ro, rfl, _⟩ := h; rfl) ?_
  intro X eP ew eK em eb eN es hf nd H vs Q E B h
  subst eP ew eK em eb
  have n0 : Sl X 0 "self" := slot_of eN es hf nd rfl (by first | exact Or.inl rfl | exact Or.inr rfl) (by decide) (by decide)
  have n1 : Sl X 1 "sample" := slot_of eN es hf nd rfl (by first | exact Or.inl rfl | exact Or.inr rfl) (by decide) (by decide)
  have n2 : Sl X 2 "share" := slot_of eN es hf nd rfl (by first | exact Or.inl rfl | exact Or.inr rfl) (by decide) (by decide)
  have n3 : Sl X 3 "latest" := slot_of eN es hf nd rfl (by first | exact Or.inl rfl | exact Or.inr rfl) (by decide) (by decide)
  have n4 : Sl X 4 "factor" := slot_of eN es hf nd rfl (by first | exact Or.inl rfl | exact Or.inr rfl) (by decide) (by decide)
  have n5 : Sl X 5 "margin" := slot_of eN es hf nd rfl (by first | exact Or.inl rfl | exact Or.inr rfl) (by decide) (by decide)
  have n6 : Sl X 6 "floor" := slot_of eN es hf nd rfl (by first | exact Or.inl rfl | exact Or.inr rfl) (by decide) (by decide)
  have n7 : Sl X 7 "roof" := slot_of eN es hf nd rfl (by first | exact Or.inl rfl | exact Or.inr rfl) (by decide) (by decide)
  have n8 : Sl X 8 "doubled" := slot_of eN es hf nd rfl (by first | exact Or.inl rfl | exact Or.inr rfl) (by decide) (by decide)
  have n9 : Sl X 9 "kept" := slot_of eN es hf nd rfl (by first | exact Or.inl rfl | exact Or.inr rfl) (by decide) (by decide)
  have g_checked : Gn X "checked" := gn_of es rfl (by decide)
  have F_checked := f_checked (P := X.prog) (w := X.w) (base := X.base) T
  obtain ⟨z, p, dx, sh, fa, ma, fl, ro, rfl, hp, hr, ok, k⟩ := h
  show WB X [_] _ [some (.ref p), some (.str z.word), some (sh), some (latV z.latest), some (fa), some (ma), some (fl), some (ro), some (.bl z.doubled), some (.bl z.kept)] H
  repeat walk_at "w"
  refine we_disp (fun e => nomatch e) fun d nd' => ?_
  iterate 9
    refine wp_cons ?_
    repeat walk_at "w"
  refine wp_nil ⟨upd_same, pk.zip (row9 z sh fa ma fl ro), rfl, (show 9 ≤ 15 by decide), ?_⟩
  rw [mergeK_zip pk_nd rfl, upd2]
  have x1 : Ex H (upd H d (dk9 z sh fa ma fl ro)) := Ex.new nd'
  have hd1 : upd H d (dk9 z sh fa ma fl ro) d = some (dk9 z sh fa ma fl ro) := upd_same
  show spCheckedB _ _ (upd H d (dk9 z sh fa ma fl ro)) _ _
  generalize upd H d (dk9 z sh fa ma fl ro) = H1 at x1 hd1 ⊢
  refine ⟨z, d, sh, fa, ma, fl, ro, rfl, hd1, hr.mono x1, ok, fun d' H2 sh' fa' ma' fl' ro' x2 nd2 hd2 hk => ?_⟩
  repeat walk_at "w"
  have hp2 := (x1.trans x2).ins hp
  refine ⟨p, dx, [], rfl, hp2, (show 0 < 1000 by decide), ?_⟩
  have ne : d' ≠ p := fun e => by subst e; rw [hp2] at hd2; cases hd2
  have tp : ∀ {q : Rat} {v : V}, TimeV (CT X.K) q v H2 → TimeV (CT X.K) q v (upd H2 p (.ins (CB X.K) dx [("rules", .ref d')])) := fun h => TimeV.up hp2 (fun dx e => by injection e with _ _ e; cases e) h
  have op : ∀ {o : Option Rat} {v : V}, OptT X.K o v H2 → OptT X.K o v (upd H2 p (.ins (CB X.K) dx [("rules", .ref d')])) := fun {o v} h => by
    cases o with
    | none => exact h
    | some q => exact tp h
  exact k _ ((x1.trans x2).x.put rfl) ⟨p, dx, d', sh', fa', ma', fl', ro', rfl, upd_same, (upd_ne ne).trans hd2, tp hk.sh, tp hk.fa, tp hk.ma, op hk.fl, op hk.ro⟩
/-- Book with all nine words, in order -/
theorem k_Book9 (T : Tm K mg) : GKk P w K mg base 10 "Book" (CB K) (spBInit K) 0 ["sample", "share", "latest", "factor", "margin", "floor", "roof", "doubled", "kept"] (fun vs zs => vs ++ zs) := by
  obtain ⟨fd, F⟩ := T.d_Book___init__
  obtain ⟨mv, hb⟩ := F.kbinds0 (ps := ["self", "sample", "share", "latest", "factor", "margin", "floor", "roof", "doubled", "kept"]) 1 ["sample", "share", "latest", "factor", "margin", "floor", "roof", "doubled", "kept"] [] (fun us _ ws => us ++ ws) (List.cons_ne_nil _ _) (fun q h => nomatch h) (fun r1 _ r3 => r1.append r3) (by
    intro D doc pm an cdv ct us mv ws l1 l2 l3
    match us, ws, l1, l3 with
    | [a], [b1, b2, b3, b4, b5, b6, b7, b8, b9], _, _ => rfl)
  exact ⟨_, fd, _, _, T.g_Book, T.m_Book, ok_binit T F, hb⟩
def ord4 {α : Type} (us mv ws : List α) : List α := match us, mv, ws with
  | [s], [a, b, c, d, e], [w0, w1, w2, w3] => [s, w1, w0, a, w3, w2, b, c, d, e]
  | _, _, _ => []
/-- Book(share=, sample=, margin=, factor=) -/
theorem k_Book4 (T : Tm K mg) : GKk P w K mg base 10 "Book" (CB K) (spBInit K) 0 ["share", "sample", "margin", "factor"] (fun vs zs => ord4 vs [.non, .non, .non, .bl false, .bl false] zs) := by
  obtain ⟨fd, F⟩ := T.d_Book___init__
  obtain ⟨mv, hb⟩ := F.kbinds0 (ps := ["self", "sample", "share", "latest", "factor", "margin", "floor", "roof", "doubled", "kept"]) 1 ["share", "sample", "margin", "factor"] [("latest", .non), ("floor", .non), ("roof", .non), ("doubled", .bl false), ("kept", .bl false)] ord4 (List.cons_ne_nil _ _) (fun q h => by
    simp only [List.mem_cons, List.not_mem_nil, or_false] at h
    rcases h with rfl | rfl | rfl | rfl | rfl <;> simp [Dv.v]) (by
    intro vs mz zs us mv ws r1 r2 r3
    cases r1 with
    | nil => exact .nil
    | cons h0 t0 =>
      cases t0 with
      | cons _ _ => exact .nil
      | nil =>
        cases r2 with
        | nil => exact .nil
        | cons h1 r2 =>
          cases r2 with
          | nil => exact .nil
          | cons h2 r2 =>
            cases r2 with
            | nil => exact .nil
            | cons h3 r2 =>
              cases r2 with
              | nil => exact .nil
              | cons h4 r2 =>
                cases r2 with
                | nil => exact .nil
                | cons h5 r2 =>
                  cases r2 with
                  | cons _ _ => exact .nil
                  | nil =>
                    cases r3 with
                    | nil => exact .nil
                    | cons g0 r3 =>
                      cases r3 with
                      | nil => exact .nil
                      | cons g1 r3 =>
                        cases r3 with
                        | nil => exact .nil
                        | cons g2 r3 =>
                          cases r3 with
                          | nil => exact .nil
                          | cons g3 r3 =>
                            cases r3 with
                            | cons _ _ => exact .nil
                            | nil => exact .cons h0 (.cons g1 (.cons g0 (.cons h1 (.cons g3 (.cons g2 (.cons h2 (.cons h3 (.cons h4 (.cons h5 .nil)))))))))) (by
    intro D doc pm an cdv ct us mv ws l1 l2 l3
    match us, mv, ws, l1, l2, l3 with
    | [a], [m1, m2, m3, m4, m5], [b1, b2, b3, b4], _, _, _ => exact ⟨_, _, _, _, _, _, rfl, rfl, _, _, _, _, _, _, rfl, rfl, _, _, _, _, _, _, rfl, rfl, _, _, _, _, _, _, rfl, rfl, _, _, _, _, _, _, rfl, rfl, rfl⟩)
  exact ⟨_, fd, _, _, T.g_Book, T.m_Book, ok_binit T F, hb⟩
theorem made_b {H : Hp} {E : XK} {Q : Addr → Hp → Prop} {z : Bk} {sh fa ma fl ro : V} (hr : Raw K z sh fa ma fl ro H) (ok : BkOk z) (k : ∀ a H', Ex H H' → BookV K z (.ref a) H' → Q a H') :
    ∀ a dx, H a = none → H dx = none → dx ≠ a → spBInit K (.ref a :: row9 z sh fa ma fl ro) (upd (upd H dx (.own a)) a (.ins (CB K) dx [])) (fun v H2 => v = .non ∧ Q a H2) E := by
  intro a dx na nd ne
  have x1 : Ex H (upd (upd H dx (.own a)) a (.ins (CB K) dx [])) := Ex.new2 na nd
  exact ⟨z, a, dx, sh, fa, ma, fl, ro, rfl, upd_same, hr.mono x1, ok, fun H' x3 hb => ⟨rfl, k _ _ (ExX.fresh x1 x3 fun c e => by subst e; exact na) hb⟩⟩
end
/-! ### its properties -/
section
variable {P : Program} {w : World} {K : PySem.W.Frag} {mg : Str → Option Value} {base : Heap}
def spBk (K : PySem.W.Frag) (i : Nat) : Sp := fun vs H Q _ => ∃ z p dx d sh fa ma fl ro v', vs = [.ref p] ∧ H p = some (.ins (CB K) dx [("rules", .ref d)]) ∧ H d = some (dk9 z sh fa ma fl ro) ∧ (row9 z sh fa ma fl ro)[i]? = some v' ∧ Q v' H
theorem ok_B_sample (T : Tm K mg) : ∃ fd, FnOk P w K mg base (RX P w) 1 (pgA K (CB K) "sample") fd ["self"] (spBk K 0) ∧ Binds K fd ["self"] [] := by
  obtain ⟨fd, F⟩ := T.d_Book_sample
  refine ⟨fd, def_ok F sc_Book_sample (fun vs H Q E h => by obtain ⟨z, p, dx, d, sh, fa, ma, fl, ro, v', rfl, _⟩ := h; rfl) ?_, (F.bindsN fun _ _ _ _ _ _ us hl => match us, hl with | [_], _ => rfl)⟩
  intro X eP ew eK em eb eN es hf nd H vs Q E B h
  subst eP ew eK em eb
  have n0 : Sl X 0 "self" := slot_of eN es hf nd rfl (by first | exact Or.inl rfl | exact Or.inr rfl) (by decide) (by decide)
  obtain ⟨z, p, dx, d, sh, fa, ma, fl, ro, v', rfl, hp, hd, hv, k⟩ := h
  show WB X [_] _ [some (.ref p)] H
  repeat walk_at "w"
  refine bk_fld hp ?_
  exact gs_ok hd 0 rfl hv k
theorem ok_B_share (T : Tm K mg) : ∃ fd, FnOk P w K mg base (RX P w) 1 (pgA K (CB K) "share") fd ["self"] (spBk K 1) ∧ Binds K fd ["self"] [] := by
  obtain ⟨fd, F⟩ := T.d_Book_share
  refine ⟨fd, def_ok F sc_Book_share (fun vs H Q E h => by obtain ⟨z, p, dx, d, sh, fa, ma, fl, ro, v', rfl, _⟩ := h; rfl) ?_, (F.bindsN fun _ _ _ _ _ _ us hl => match us, hl with | [_], _ => rfl)⟩
  intro X eP ew eK em eb eN es hf nd H vs Q E B h
  subst eP ew eK em eb
  have n0 : Sl X 0 "self" := slot_of eN es hf nd rfl (by first | exact Or.inl rfl | exact Or.inr rfl) (by decide) (by decide)
  obtain ⟨z, p, dx, d, sh, fa, ma, fl, ro, v', rfl, hp, hd, hv, k⟩ := h
  show WB X [_] _ [some (.ref p)] H
  repeat walk_at "w"
  refine bk_fld hp ?_
  exact gs_ok hd 1 rfl hv k
theorem ok_B_latest (T : Tm K mg) : ∃ fd, FnOk P w K mg base (RX P w) 1 (pgA K (CB K) "latest") fd ["self"] (spBk K 2) ∧ Binds K fd ["self"] [] := by
  obtain ⟨fd, F⟩ := T.d_Book_latest
  refine ⟨fd, def_ok F sc_Book_latest (fun vs H Q E h => by obtain ⟨z, p, dx, d, sh, fa, ma, fl, ro, v', rfl, _⟩ := h; rfl) ?_, (F.bindsN fun _ _ _ _ _ _ us hl => match us, hl with | [_], _ => rfl)⟩
  intro X eP ew eK em eb eN es hf nd H vs Q E B h
  subst eP ew eK em eb
  have n0 : Sl X 0 "self" := slot_of eN es hf nd rfl (by first | exact Or.inl rfl | exact Or.inr rfl) (by decide) (by decide)
  obtain ⟨z, p, dx, d, sh, fa, ma, fl, ro, v', rfl, hp, hd, hv, k⟩ := h
  show WB X [_] _ [some (.ref p)] H
  repeat walk_at "w"
  refine bk_fld hp ?_
  exact gs_ok hd 2 rfl hv k
theorem ok_B_factor (T : Tm K mg) : ∃ fd, FnOk P w K mg base (RX P w) 1 (pgA K (CB K) "factor") fd ["self"] (spBk K 3) ∧ Binds K fd ["self"] [] := by
  obtain ⟨fd, F⟩ := T.d_Book_factor
  refine ⟨fd, def_ok F sc_Book_factor (fun vs H Q E h => by obtain ⟨z, p, dx, d, sh, fa, ma, fl, ro, v', rfl, _⟩ := h; rfl) ?_, (F.bindsN fun _ _ _ _ _ _ us hl => match us, hl with | [_], _ => rfl)⟩
  intro X eP ew eK em eb eN es hf nd H vs Q E B h
  subst eP ew eK em eb
  have n0 : Sl X 0 "self" := slot_of eN es hf nd rfl (by first | exact Or.inl rfl | exact Or.inr rfl) (by decide) (by decide)
  obtain ⟨z, p, dx, d, sh, fa, ma, fl, ro, v', rfl, hp, hd, hv, k⟩ := h
  show WB X [_] _ [some (.ref p)] H
  repeat walk_at "w"
  refine bk_fld hp ?_
  exact gs_ok hd 3 rfl hv k
theorem ok_B_margin (T : Tm K mg) : ∃ fd, FnOk P w K mg base (RX P w) 1 (pgA K (CB K) "margin") fd ["self"] (spBk K 4) ∧ Binds K fd ["self"] [] := by
  obtain ⟨fd, F⟩ := T.d_Book_margin
  refine ⟨fd, def_ok F sc_Book_margin (fun vs H Q E h => by obtain ⟨z, p, dx, d, sh, fa, ma, fl, ro, v', rfl, _⟩ := h; rfl) ?_, (F.bindsN fun _ _ _ _ _ _ us hl => match us, hl with | [_], _ => rfl)⟩
  intro X eP ew eK em eb eN es hf nd H vs Q E B h
  subst eP ew eK em eb
  have n0 : Sl X 0 "self" := slot_of eN es hf nd rfl (by first | exact Or.inl rfl | exact Or.inr rfl) (by decide) (by decide)
  obtain ⟨z, p, dx, d, sh, fa, ma, fl, ro, v', rfl, hp, hd, hv, k⟩ := h
  show WB X [_] _ [some (.ref p)] H
  repeat walk_at "w"
  refine bk_fld hp ?_
  exact gs_ok hd 4 rfl hv k
theorem ok_B_floor (T : Tm K mg) : ∃ fd, FnOk P w K mg base (RX P w) 1 (pgA K (CB K) "floor") fd ["self"] (spBk K 5) ∧ Binds K fd ["self"] [] := by
  obtain ⟨fd, F⟩ := T.d_Book_floor
  refine ⟨fd, def_ok F sc_Book_floor (fun vs H Q E h => by obtain ⟨z, p, dx, d, sh, fa, ma, fl, ro, v', rfl, _⟩ := h; rfl) ?_, (F.bindsN fun _ _ _ _ _ _ us hl => match us, hl with | [_], _ => rfl)⟩
  intro X eP ew eK em eb eN es hf nd H vs Q E B h
  subst eP ew eK em eb
  have n0 : Sl X 0 "self" := slot_of eN es hf nd rfl (by first | exact Or.inl rfl | exact Or.inr rfl) (by decide) (by decide)
  obtain ⟨z, p, dx, d, sh, fa, ma, fl, ro, v', rfl, hp, hd, hv, k⟩ := h
  show WB X [_] _ [some (.ref p)] H
  repeat walk_at "w"
  refine bk_fld hp ?_
  exact gs_ok hd 5 rfl hv k
theorem ok_B_roof (T : Tm K mg) : ∃ fd, FnOk P w K mg base (RX P w) 1 (pgA K (CB K) "roof") fd ["self"] (spBk K 6) ∧ Binds K fd ["self"] [] := by
  obtain ⟨fd, F⟩ := T.d_Book_roof
  refine ⟨fd, def_ok F sc_Book_roof (fun vs H Q E h => by obtain ⟨z, p, dx, d, sh, fa, ma, fl, ro, v', rfl, _⟩ := h; rfl) ?_, (F.bindsN fun _ _ _ _ _ _ us hl => match us, hl with | [_], _ => rfl)⟩
  intro X eP ew eK em eb eN es hf nd H vs Q E B h
  subst eP ew eK em eb
  have n0 : Sl X 0 "self" := slot_of eN es hf nd rfl (by first | exact Or.inl rfl | exact Or.inr rfl) (by decide) (by decide)
  obtain ⟨z, p, dx, d, sh, fa, ma, fl, ro, v', rfl, hp, hd, hv, k⟩ := h
  show WB X [_] _ [some (.ref p)] H
  repeat walk_at "w"
  refine bk_fld hp ?_
  exact gs_ok hd 6 rfl hv k
theorem ok_B_doubled (T : Tm K mg) : ∃ fd, FnOk P w K mg base (RX P w) 1 (pgA K (CB K) "doubled") fd ["self"] (spBk K 7) ∧ Binds K fd ["self"] [] := by
  obtain ⟨fd, F⟩ := T.d_Book_doubled
  refine ⟨fd, def_ok F sc_Book_doubled (fun vs H Q E h => by obtain ⟨z, p, dx, d, sh, fa, ma, fl, ro, v', rfl, _⟩ := h; rfl) ?_, (F.bindsN fun _ _ _ _ _ _ us hl => match us, hl with | [_], _ => rfl)⟩
  intro X eP ew eK em eb eN es hf nd H vs Q E B h
  subst eP ew eK em eb
  have n0 : Sl X 0 "self" := slot_of eN es hf nd rfl (by first | exact Or.inl rfl | exact Or.inr rfl) (by decide) (by decide)
  obtain ⟨z, p, dx, d, sh, fa, ma, fl, ro, v', rfl, hp, hd, hv, k⟩ := h
  show WB X [_] _ [some (.ref p)] H
  repeat walk_at "w"
  refine bk_fld hp ?_
  exact gs_ok hd 7 rfl hv k
theorem ok_B_kept (T : Tm K mg) : ∃ fd, FnOk P w K mg base (RX P w) 1 (pgA K (CB K) "kept") fd ["self"] (spBk K 8) ∧ Binds K fd ["self"] [] := by
  obtain ⟨fd, F⟩ := T.d_Book_kept
  refine ⟨fd, def_ok F sc_Book_kept (fun vs H Q E h => by obtain ⟨z, p, dx, d, sh, fa, ma, fl, ro, v', rfl, _⟩ := h; rfl) ?_, (F.bindsN fun _ _ _ _ _ _ us hl => match us, hl with | [_], _ => rfl)⟩
  intro X eP ew eK em eb eN es hf nd H vs Q E B h
  subst eP ew eK em eb
  have n0 : Sl X 0 "self" := slot_of eN es hf nd rfl (by first | exact Or.inl rfl | exact Or.inr rfl) (by decide) (by decide)
  obtain ⟨z, p, dx, d, sh, fa, ma, fl, ro, v', rfl, hp, hd, hv, k⟩ := h
  show WB X [_] _ [some (.ref p)] H
  repeat walk_at "w"
  refine bk_fld hp ?_
  exact gs_ok hd 8 rfl hv k
end
section
variable {X : Cx} {k : Nat} {E : L2.St → XK} {σ : L2.St} {H : Hp} {Q : VK} {e : Expr} {pos apos : Pos}
theorem bv_ok {K : PySem.W.Frag} {z : Bk} {v : V} {H : Hp} {R : Bk → Prop} (h : BookV K z v H) (r : R z) : ∃ z, BookV K z v H ∧ R z := ⟨z, h, r⟩
theorem tq_i {C : Addr} {q : Rat} {H : Hp} {Q : VK} (h : ∀ v, TimeV C q v H → Q v H) : ∀ v, TimeV C q v H → Q v H := h
theorem oq_i {K : PySem.W.Frag} {q : Option Rat} {H : Hp} {Q : VK} (h : ∀ v, OptT K q v H → Q v H) : ∀ v, OptT K q v H → Q v H := h
theorem we_B_sample (B : Body X k E) (T : Tm X.K X.mg) (hk : 2 ≤ k) (h : WE X e σ H fun y H1 => ∃ z, BookV X.K z y H1 ∧ Q (.str z.word) H1) (he : attributeBase e "sample" X.env (eval e X.env) = eval e X.env := by rfl) : WE X (.Attribute e "sample" pos) σ H Q := by
  obtain ⟨fd, F, hb⟩ := ok_B_sample (P := X.prog) (w := X.w) (base := X.base) T
  refine we_prop B T.c_Book.cl T.p_Book_sample F hk hb .nil (we_mono h fun y H1 r => ?_) he
  obtain ⟨z, ⟨p, dx, d, sh, fa, ma, fl, ro, rfl, hp, hd, hk⟩, q⟩ := r
  exact ⟨p, dx, _, rfl, hp, z, p, dx, d, sh, fa, ma, fl, ro, _, rfl, hp, hd, rfl, q⟩
theorem we_B_share (B : Body X k E) (T : Tm X.K X.mg) (hk : 2 ≤ k) (h : WE X e σ H fun y H1 => ∃ z, BookV X.K z y H1 ∧ ∀ v', TimeV (CT X.K) z.share v' H1 → Q v' H1) (he : attributeBase e "share" X.env (eval e X.env) = eval e X.env := by rfl) : WE X (.Attribute e "share" pos) σ H Q := by
  obtain ⟨fd, F, hb⟩ := ok_B_share (P := X.prog) (w := X.w) (base := X.base) T
  refine we_prop B T.c_Book.cl T.p_Book_share F hk hb .nil (we_mono h fun y H1 r => ?_) he
  obtain ⟨z, ⟨p, dx, d, sh, fa, ma, fl, ro, rfl, hp, hd, hk⟩, q⟩ := r
  exact ⟨p, dx, _, rfl, hp, z, p, dx, d, sh, fa, ma, fl, ro, _, rfl, hp, hd, rfl, q _ hk.sh⟩
theorem we_B_latest (B : Body X k E) (T : Tm X.K X.mg) (hk : 2 ≤ k) (h : WE X e σ H fun y H1 => ∃ z, BookV X.K z y H1 ∧ Q (latV z.latest) H1) (he : attributeBase e "latest" X.env (eval e X.env) = eval e X.env := by rfl) : WE X (.Attribute e "latest" pos) σ H Q := by
  obtain ⟨fd, F, hb⟩ := ok_B_latest (P := X.prog) (w := X.w) (base := X.base) T
  refine we_prop B T.c_Book.cl T.p_Book_latest F hk hb .nil (we_mono h fun y H1 r => ?_) he
  obtain ⟨z, ⟨p, dx, d, sh, fa, ma, fl, ro, rfl, hp, hd, hk⟩, q⟩ := r
  exact ⟨p, dx, _, rfl, hp, z, p, dx, d, sh, fa, ma, fl, ro, _, rfl, hp, hd, rfl, q⟩
theorem we_B_factor (B : Body X k E) (T : Tm X.K X.mg) (hk : 2 ≤ k) (h : WE X e σ H fun y H1 => ∃ z, BookV X.K z y H1 ∧ ∀ v', TimeV (CT X.K) z.factor v' H1 → Q v' H1) (he : attributeBase e "factor" X.env (eval e X.env) = eval e X.env := by rfl) : WE X (.Attribute e "factor" pos) σ H Q := by
  obtain ⟨fd, F, hb⟩ := ok_B_factor (P := X.prog) (w := X.w) (base := X.base) T
  refine we_prop B T.c_Book.cl T.p_Book_factor F hk hb .nil (we_mono h fun y H1 r => ?_) he
  obtain ⟨z, ⟨p, dx, d, sh, fa, ma, fl, ro, rfl, hp, hd, hk⟩, q⟩ := r
  exact ⟨p, dx, _, rfl, hp, z, p, dx, d, sh, fa, ma, fl, ro, _, rfl, hp, hd, rfl, q _ hk.fa⟩
theorem we_B_margin (B : Body X k E) (T : Tm X.K X.mg) (hk : 2 ≤ k) (h : WE X e σ H fun y H1 => ∃ z, BookV X.K z y H1 ∧ ∀ v', TimeV (CT X.K) z.margin v' H1 → Q v' H1) (he : attributeBase e "margin" X.env (eval e X.env) = eval e X.env := by rfl) : WE X (.Attribute e "margin" pos) σ H Q := by
  obtain ⟨fd, F, hb⟩ := ok_B_margin (P := X.prog) (w := X.w) (base := X.base) T
  refine we_prop B T.c_Book.cl T.p_Book_margin F hk hb .nil (we_mono h fun y H1 r => ?_) he
  obtain ⟨z, ⟨p, dx, d, sh, fa, ma, fl, ro, rfl, hp, hd, hk⟩, q⟩ := r
  exact ⟨p, dx, _, rfl, hp, z, p, dx, d, sh, fa, ma, fl, ro, _, rfl, hp, hd, rfl, q _ hk.ma⟩
theorem we_B_floor (B : Body X k E) (T : Tm X.K X.mg) (hk : 2 ≤ k) (h : WE X e σ H fun y H1 => ∃ z, BookV X.K z y H1 ∧ ∀ v', OptT X.K z.floor v' H1 → Q v' H1) (he : attributeBase e "floor" X.env (eval e X.env) = eval e X.env := by rfl) : WE X (.Attribute e "floor" pos) σ H Q := by
  obtain ⟨fd, F, hb⟩ := ok_B_floor (P := X.prog) (w := X.w) (base := X.base) T
  refine we_prop B T.c_Book.cl T.p_Book_floor F hk hb .nil (we_mono h fun y H1 r => ?_) he
  obtain ⟨z, ⟨p, dx, d, sh, fa, ma, fl, ro, rfl, hp, hd, hk⟩, q⟩ := r
  exact ⟨p, dx, _, rfl, hp, z, p, dx, d, sh, fa, ma, fl, ro, _, rfl, hp, hd, rfl, q _ hk.fl⟩
theorem we_B_roof (B : Body X k E) (T : Tm X.K X.mg) (hk : 2 ≤ k) (h : WE X e σ H fun y H1 => ∃ z, BookV X.K z y H1 ∧ ∀ v', OptT X.K z.roof v' H1 → Q v' H1) (he : attributeBase e "roof" X.env (eval e X.env) = eval e X.env := by rfl) : WE X (.Attribute e "roof" pos) σ H Q := by
  obtain ⟨fd, F, hb⟩ := ok_B_roof (P := X.prog) (w := X.w) (base := X.base) T
  refine we_prop B T.c_Book.cl T.p_Book_roof F hk hb .nil (we_mono h fun y H1 r => ?_) he
  obtain ⟨z, ⟨p, dx, d, sh, fa, ma, fl, ro, rfl, hp, hd, hk⟩, q⟩ := r
  exact ⟨p, dx, _, rfl, hp, z, p, dx, d, sh, fa, ma, fl, ro, _, rfl, hp, hd, rfl, q _ hk.ro⟩
theorem we_B_doubled (B : Body X k E) (T : Tm X.K X.mg) (hk : 2 ≤ k) (h : WE X e σ H fun y H1 => ∃ z, BookV X.K z y H1 ∧ Q (.bl z.doubled) H1) (he : attributeBase e "doubled" X.env (eval e X.env) = eval e X.env := by rfl) : WE X (.Attribute e "doubled" pos) σ H Q := by
  obtain ⟨fd, F, hb⟩ := ok_B_doubled (P := X.prog) (w := X.w) (base := X.base) T
  refine we_prop B T.c_Book.cl T.p_Book_doubled F hk hb .nil (we_mono h fun y H1 r => ?_) he
  obtain ⟨z, ⟨p, dx, d, sh, fa, ma, fl, ro, rfl, hp, hd, hk⟩, q⟩ := r
  exact ⟨p, dx, _, rfl, hp, z, p, dx, d, sh, fa, ma, fl, ro, _, rfl, hp, hd, rfl, q⟩
theorem we_B_kept (B : Body X k E) (T : Tm X.K X.mg) (hk : 2 ≤ k) (h : WE X e σ H fun y H1 => ∃ z, BookV X.K z y H1 ∧ Q (.bl z.kept) H1) (he : attributeBase e "kept" X.env (eval e X.env) = eval e X.env := by rfl) : WE X (.Attribute e "kept" pos) σ H Q := by
  obtain ⟨fd, F, hb⟩ := ok_B_kept (P := X.prog) (w := X.w) (base := X.base) T
  refine we_prop B T.c_Book.cl T.p_Book_kept F hk hb .nil (we_mono h fun y H1 r => ?_) he
  obtain ⟨z, ⟨p, dx, d, sh, fa, ma, fl, ro, rfl, hp, hd, hk⟩, q⟩ := r
  exact ⟨p, dx, _, rfl, hp, z, p, dx, d, sh, fa, ma, fl, ro, _, rfl, hp, hd, rfl, q⟩
end
local macro_rules | `(tactic| walk_at "bv") => `(tactic| first | assumption | ((with_reducible refine' BookV.mono ?x ?h); (case h => assumption); (case x => walk_at "x")) | fail)
local macro_rules | `(tactic| walk_at "wE") => `(tactic| first | ((with_reducible refine' we_B_sample ?B ?T ?hk ?_ ?he); (case B => assumption); (case T => assumption); (case hk => decide); (case he => rfl)) | ((with_reducible refine' we_B_share ?B ?T ?hk ?_ ?he); (case B => assumption); (case T => assumption); (case hk => decide); (case he => rfl)) | ((with_reducible refine' we_B_latest ?B ?T ?hk ?_ ?he); (case B => assumption); (case T => assumption); (case hk => decide); (case he => rfl)) | ((with_reducible refine' we_B_factor ?B ?T ?hk ?_ ?he); (case B => assumption); (case T => assumption); (case hk => decide); (case he => rfl)) | ((with_reducible refine' we_B_margin ?B ?T ?hk ?_ ?he); (case B => assumption); (case T => assumption); (case hk => decide); (case he => rfl)) | ((with_reducible refine' we_B_floor ?B ?T ?hk ?_ ?he); (case B => assumption); (case T => assumption); (case hk => decide); (case he => rfl)) | ((with_reducible refine' we_B_roof ?B ?T ?hk ?_ ?he); (case B => assumption); (case T => assumption); (case hk => decide); (case he => rfl)) | ((with_reducible refine' we_B_doubled ?B ?T ?hk ?_ ?he); (case B => assumption); (case T => assumption); (case hk => decide); (case he => rfl)) | ((with_reducible refine' we_B_kept ?B ?T ?hk ?_ ?he); (case B => assumption); (case T => assumption); (case hk => decide); (case he => rfl)) | fail)
local macro_rules | `(tactic| walk_at "wX") => `(tactic| first | ((with_reducible refine' bv_ok ?h ?_); (case h => walk_at "bv")) | fail)
/-! ### lesser, greater, made_of, wait_for -/
def rmin (q r : Rat) : Rat := if r < q then r else q
def rmax (q r : Rat) : Rat := if q < r then r else q
def lowW (f : Option Rat) (u : Rat) : Rat := match f with
  | none => u
  | some f => rmax u f
def highW (f : Option Rat) (u : Rat) : Rat := match f with
  | none => u
  | some f => rmin u f
/-- the wait that a book makes of an estimate -/
def madeW (z : Bk) (q : Rat) : Rat := highW z.roof (lowW z.floor (z.factor * q + z.margin))
theorem sz_rmin {q r : Rat} {n : Nat} (h : Sz q n) (h' : Sz r n) : Sz (rmin q r) n := by
  unfold rmin
  split
  · exact h'
  · exact h
theorem sz_rmax {q r : Rat} {n : Nat} (h : Sz q n) (h' : Sz r n) : Sz (rmax q r) n := by
  unfold rmax
  split
  · exact h'
  · exact h
section
variable {P : Program} {w : World} {K : PySem.W.Frag} {mg : Str → Option Value} {base : Heap}
def spTwo (K : PySem.W.Frag) (f : Rat → Rat → Rat) : Sp := fun vs H Q _ => ∃ q r v u, vs = [v, u] ∧ Tim K q v H ∧ Tim K r u H ∧ Sz q 4000 ∧ Sz r 4000 ∧ Ret H (TimeV (CT K) (f q r)) Q
theorem f_lesser (T : Tm K mg) : GFn P w K mg base 6 "lesser" (spTwo K rmin) := by
  obtain ⟨fd, F⟩ := T.d_lesser
  refine GFn.mk F T.g_lesser (def_ok F sc_lesser (fun vs H Q E h => by obtain ⟨q, r, v, u, rfl, _⟩ := h; rfl) ?_) (F.bindsN fun _ _ _ _ _ _ us hl => match us, hl with | [_, _], _ => rfl)
  intro X eP ew eK em eb eN es hf nd H vs Q E B h
  subst eP ew eK em eb
  have n0 : Sl X 0 "one" := slot_of eN es hf nd rfl (by first | exact Or.inl rfl | exact Or.inr rfl) (by decide) (by decide)
  have n1 : Sl X 1 "other" := slot_of eN es hf nd rfl (by first | exact Or.inl rfl | exact Or.inr rfl) (by decide) (by decide)
  have n2 : Sl X 2 "first" := slot_of eN es hf nd rfl (by first | exact Or.inl rfl | exact Or.inr rfl) (by decide) (by decide)
  have n3 : Sl X 3 "second" := slot_of eN es hf nd rfl (by first | exact Or.inl rfl | exact Or.inr rfl) (by decide) (by decide)
  have g_time_of : Gn X "time_of" := gn_of es rfl (by decide)
  have F_time_of := f_time_of (P := X.prog) (w := X.w) (base := X.base) T
  obtain ⟨q, r, v, u, rfl, hv, hu, hq, hr, z⟩ := h
  show WB X [_, _, _] _ [some (v), some (u), none, none] H
  repeat walk_at "w"
  refine to_tim hv fun y H1 x1 hy => ?_
  repeat walk_at "w"
  refine to_tim (hu.mono x1) fun y2 H2 x2 hy2 => ?_
  repeat walk_at "w"
  refine ite_dec (fun hc => ?_) (fun hc => ?_)
  · repeat walk_at "w"
    refine z _ _ (by walk_at "x") ?_
    rw [show rmin q r = r from if_pos hc]
    walk_at "tv"
  · repeat walk_at "w"
    refine z _ _ (by walk_at "x") ?_
    rw [show rmin q r = q from if_neg hc]
    walk_at "tv"
theorem f_greater (T : Tm K mg) : GFn P w K mg base 6 "greater" (spTwo K rmax) := by
  obtain ⟨fd, F⟩ := T.d_greater
  refine GFn.mk F T.g_greater (def_ok F sc_greater (fun vs H Q E h => by obtain ⟨q, r, v, u, rfl, _⟩ := h; rfl) ?_) (F.bindsN fun _ _ _ _ _ _ us hl => match us, hl with | [_, _], _ => rfl)
  intro X eP ew eK em eb eN es hf nd H vs Q E B h
  subst eP ew eK em eb
  have n0 : Sl X 0 "one" := slot_of eN es hf nd rfl (by first | exact Or.inl rfl | exact Or.inr rfl) (by decide) (by decide)
  have n1 : Sl X 1 "other" := slot_of eN es hf nd rfl (by first | exact Or.inl rfl | exact Or.inr rfl) (by decide) (by decide)
  have n2 : Sl X 2 "first" := slot_of eN es hf nd rfl (by first | exact Or.inl rfl | exact Or.inr rfl) (by decide) (by decide)
  have n3 : Sl X 3 "second" := slot_of eN es hf nd rfl (by first | exact Or.inl rfl | exact Or.inr rfl) (by decide) (by decide)
  have g_time_of : Gn X "time_of" := gn_of es rfl (by decide)
  have F_time_of := f_time_of (P := X.prog) (w := X.w) (base := X.base) T
  obtain ⟨q, r, v, u, rfl, hv, hu, hq, hr, z⟩ := h
  show WB X [_, _, _] _ [some (v), some (u), none, none] H
  repeat walk_at "w"
  refine to_tim hv fun y H1 x1 hy => ?_
  repeat walk_at "w"
  refine to_tim (hu.mono x1) fun y2 H2 x2 hy2 => ?_
  repeat walk_at "w"
  refine ite_dec (fun hc => ?_) (fun hc => ?_)
  · repeat walk_at "w"
    refine z _ _ (by walk_at "x") ?_
    rw [show rmax q r = r from if_pos hc]
    walk_at "tv"
  · repeat walk_at "w"
    refine z _ _ (by walk_at "x") ?_
    rw [show rmax q r = q from if_neg hc]
    walk_at "tv"
def spMadeOfG (K : PySem.W.Frag) : Sp := fun vs H Q _ => ∃ z q v u, vs = [v, u] ∧ BookV K z v H ∧ BkOk z ∧ TimeV (CT K) q u H ∧ Sz q 4000 ∧ Sz (z.factor * q) 4000 ∧ Sz (z.factor * q + z.margin) 4000 ∧ Ret H (TimeV (CT K) (madeW z q)) Q
theorem f_made_ofG (T : Tm K mg) : GFn P w K mg base 7 "made_of" (spMadeOfG K) := by
  obtain ⟨fd, F⟩ := T.d_made_of
  refine GFn.mk F T.g_made_of (def_ok F sc_made_of (fun vs H Q E h => by obtain ⟨z, q, v, u, rfl, _⟩ := h; rfl) ?_) (F.bindsN fun _ _ _ _ _ _ us hl => match us, hl with | [_, _], _ => rfl)
  intro X eP ew eK em eb eN es hf nd H vs Q E B h
  subst eP ew eK em eb
  have n0 : Sl X 0 "book" := slot_of eN es hf nd rfl (by first | exact Or.inl rfl | exact Or.inr rfl) (by decide) (by decide)
  have n1 : Sl X 1 "estimate" := slot_of eN es hf nd rfl (by first | exact Or.inl rfl | exact Or.inr rfl) (by decide) (by decide)
  have n2 : Sl X 2 "wait" := slot_of eN es hf nd rfl (by first | exact Or.inl rfl | exact Or.inr rfl) (by decide) (by decide)
  have g_greater : Gn X "greater" := gn_of es rfl (by decide)
  have F_greater := f_greater (P := X.prog) (w := X.w) (base := X.base) T
  have g_lesser : Gn X "lesser" := gn_of es rfl (by decide)
  have F_lesser := f_lesser (P := X.prog) (w := X.w) (base := X.base) T
  obtain ⟨z, q, v, u, rfl, hv, ok, hu, zq, zp4, zw, k⟩ := h
  show WB X [_, _, _, _] _ [some (v), some (u), none] H
  have zf : Sz z.factor 4000 := ok.z2.mono (by decide)
  have zm : Sz z.margin 4000 := ok.z3.mono (by decide)
  refine wb_cons (ws_to (fun σ' H' => ∃ y, σ' = [some v, some u, some y] ∧ Ex H H' ∧ TimeV (CT X.K) (z.factor * q + z.margin) y H') ?_ ?_)
  · repeat walk_at "w"
    intro v1 hv1
    repeat walk_at "w"
    intro v2 hv2
    repeat walk_at "w"
    exact ⟨_, rfl, by walk_at "x", by assumption⟩
  rintro σ' H1 ⟨y, rfl, x1, hy⟩
  have zl : Sz (lowW z.floor (z.factor * q + z.margin)) 4000 := by
    unfold lowW
    have h4 := ok.z4
    generalize z.floor = o at h4 ⊢
    cases o with
    | none => exact zw
    | some f => exact sz_rmax zw ((h4 f rfl).mono (by decide))
  refine wb_cons (ws_to (fun σ' H' => ∃ y, σ' = [some v, some u, some y] ∧ Ex H H' ∧ TimeV (CT X.K) (lowW z.floor (z.factor * q + z.margin)) y H') ?_ ?_)
  · have h4 := ok.z4
    repeat walk_at "w"
    intro v3 hv3
    cases eo : z.floor with
    | none =>
      rw [eo] at hv3
      cases hv3
      repeat walk_at "w"
      rw [decide_eq_true (rfl : V.non = V.non)]
      repeat walk_at "w"
      exact ⟨_, rfl, x1, hy⟩
    | some f =>
      rw [eo] at hv3
      have zf4 : Sz f 4000 := (h4 f eo).mono (by decide)
      have h3 : Tim X.K f v3 H1 := .inl hv3
      repeat walk_at "w"
      rw [decide_eq_false h3.nn]
      repeat walk_at "w"
      intro v4 hv4
      rw [eo] at hv4
      refine ⟨_, f, y, v4, rfl, .inl hy, .inl hv4, zw, zf4, fun v5 H2 x2 hv5 => ?_⟩
      repeat walk_at "w"
      exact ⟨_, rfl, x1.trans x2, hv5⟩
  rintro σ' H2 ⟨y2, rfl, x2, hy2⟩
  refine wb_cons (ws_to (fun σ' H' => ∃ y, σ' = [some v, some u, some y] ∧ Ex H H' ∧ TimeV (CT X.K) (madeW z q) y H') ?_ ?_)
  · have h5 := ok.z5
    unfold madeW
    repeat walk_at "w"
    intro v3 hv3
    cases eo : z.roof with
    | none =>
      rw [eo] at hv3
      cases hv3
      repeat walk_at "w"
      rw [decide_eq_true (rfl : V.non = V.non)]
      repeat walk_at "w"
      exact ⟨_, rfl, x2, hy2⟩
    | some f =>
      rw [eo] at hv3
      have zf4 : Sz f 4000 := (h5 f eo).mono (by decide)
      have h3 : Tim X.K f v3 H2 := .inl hv3
      repeat walk_at "w"
      rw [decide_eq_false h3.nn]
      repeat walk_at "w"
      intro v4 hv4
      rw [eo] at hv4
      refine ⟨_, f, y2, v4, rfl, .inl hy2, .inl hv4, zl, zf4, fun v5 H3 x3 hv5 => ?_⟩
      repeat walk_at "w"
      exact ⟨_, rfl, x2.trans x3, hv5⟩
  rintro σ' H3 ⟨y3, rfl, x3, hy3⟩
  repeat walk_at "w"
  exact k _ _ x3 hy3
def spMadeOf (K : PySem.W.Frag) : Sp := fun vs H Q _ => ∃ z q v u, vs = [v, u] ∧ BookV K z v H ∧ BkOk z ∧ TimeV (CT K) q u H ∧ Sz q 1500 ∧ Ret H (TimeV (CT K) (madeW z q)) Q
theorem f_made_of (T : Tm K mg) : GFn P w K mg base 7 "made_of" (spMadeOf K) := by
  obtain ⟨f, h1, h2, h3⟩ := f_made_ofG (P := P) (w := w) (base := base) T
  refine ⟨f, h1, h2, h3.imp fun vs H Q E h => ?_⟩
  obtain ⟨z, q, v, u, rfl, hv, ok, hu, hq, k⟩ := h
  have zp := ok.z2.mul hq
  exact ⟨z, q, v, u, rfl, hv, ok, hu, hq.mono (by decide), zp.mono (by decide), (zp.add ok.z3).mono (by decide), k⟩
end

/-! ### the source of draws -/
local macro_rules | `(tactic| walk_at "hp") => `(tactic| first | assumption | exact upd_same)
local macro_rules | `(tactic| walk_at "wE") => `(tactic| first | ((with_reducible refine' we_at ?_ ?hb); (case hb => intro _ _; rfl)) | ((with_reducible refine' we_len ?b ?_ ?h1 ?h2); (case b => with_reducible assumption); (case h1 => rfl); (case h2 => rfl)) | ((with_reducible refine' we_int1 ?b ?_ ?h1 ?h2); (case b => with_reducible assumption); (case h1 => rfl); (case h2 => rfl)) | fail)
local macro_rules | `(tactic| walk_at "wO") => `(tactic| first | ((with_reducible refine' o_pow ?hc ?_); (case hc => exact cpow_of (by decide))) | fail)
local macro_rules | `(tactic| walk_at "wS") => `(tactic| first | ((with_reducible refine' ws_put ?_ ?hs ?hw ?ha); (case hs => rfl); (case hw => rfl); (case ha => intro _; rfl)) | fail)
local macro_rules | `(tactic| walk_at "wR") => `(tactic| first | ((with_reducible refine' at_l ?hp ?he ?_); (case hp => walk_at "hp"); (case he => rfl)) | ((with_reducible refine' at_t ?hp ?he ?_); (case hp => walk_at "hp"); (case he => rfl)) | fail)
local macro_rules | `(tactic| walk_at "wX") => `(tactic| first | ((with_reducible refine' len_l ?hp ?_); (case hp => walk_at "hp")) | ((with_reducible refine' len_t ?hp ?_); (case hp => walk_at "hp")) | fail)
section
variable {P : Program} {w : World} {K : PySem.W.Frag} {mg : Str → Option Value} {base : Heap}
theorem f__law_draw (T : Tm K mg) : GFn P w K mg base 1 "_law_draw" spDraw := by
  obtain ⟨fd, F⟩ := T.d__law_draw
  refine GFn.mk F T.g__law_draw (def_ok F sc__law_draw (fun vs H Q E h => by obtain ⟨p, n, rfl, _⟩ := h; rfl) ?_) (F.bindsN fun _ _ _ _ _ _ us hl => match us, hl with | [_, _], _ => rfl)
  intro X eP ew eK em eb eN es hf nd H vs Q E B h
  subst eP ew eK em eb
  have n0 : Sl X 0 "_law_source" := slot_of eN es hf nd rfl (by first | exact Or.inl rfl | exact Or.inr rfl) (by decide) (by decide)
  have n1 : Sl X 1 "_law_limit" := slot_of eN es hf nd rfl (by first | exact Or.inl rfl | exact Or.inr rfl) (by decide) (by decide)
  have n2 : Sl X 2 "_law_cell" := slot_of eN es hf nd rfl (by first | exact Or.inl rfl | exact Or.inr rfl) (by decide) (by decide)
  have n3 : Sl X 3 "_law_digit" := slot_of eN es hf nd rfl (by first | exact Or.inl rfl | exact Or.inr rfl) (by decide) (by decide)
  have z_len : Bn X "len" := bn_of es rfl T.z_len
  have z_int : Bn X "int" := bn_of es rfl T.z_int
  obtain ⟨p, n, rfl, so, h0, hn, k⟩ := h
  obtain ⟨l, o, ns, hp, s, hl⟩ := so.ex
  obtain ⟨i, b, r, rfl, hi, hr, hr2⟩ := s
  have s : SrcL l (.lst [.ref l, .int i, .int b, .int r]) := ⟨i, b, r, rfl, hi, hr, hr2⟩
  show WB X [_, _, _, _] _ [some (.ref p), some (.int n), none, none] H
  have fin : ∀ {b r : Int} {i : Int} {H1 : Hp} {D : Ends} {c d : Option V}, D.rt = Q → Ex H H1 → H1 l = some (.lst (List.map V.int ns)) → H1 p = some (.lst [.ref l, .int i, .int b, .int r]) → SrcL l (.lst [.ref l, .int i, .int b, .int r]) → WB X (List.drop 1 (defBody s__law_draw)) D [some (.ref p), some (.int n), c, d] H1 := by
    intro b r i H1 D c d eD x1 hl hp s
    have hr : 0 ≤ r ∧ r < 2147483647 := by
      obtain ⟨i2, b2, r2, e, h1, h2, h3⟩ := s
      injection e with e; injection e with _ e; injection e with e1 e; injection e with e2 e; injection e with e3 e
      cases e3
      exact ⟨h2, h3⟩
    show WB X [_, _, _] _ _ _
    repeat walk_at "w"
    refine ite_dec (fun hb => ?_) (fun hb => ?_)
    · repeat walk_at "w"
      refine o_mod h0 ?_
      repeat walk_at "w"
      refine o_fdiv (by omega) (log2_small hn (by decide) (by decide)) ?_
      repeat walk_at "w"
      refine putS2 hl hp s fun H2 x2 hl hp s => ?_
      repeat walk_at "w"
      rw [eD]
      exact k _ _ (x1.trans x2) (Int.emod_nonneg _ (by omega)) (Int.emod_lt_of_pos _ h0)
    · repeat walk_at "w"
      refine o_mul (cmul31 hr.1 hr.2 (by decide)) ?_
      repeat walk_at "w"
      refine o_mod (by decide) ?_
      repeat walk_at "w"
      refine putS3 hl hp s (Int.emod_nonneg _ (by decide)) (Int.emod_lt_of_pos _ (by decide)) fun H2 x2 hl hp s => ?_
      repeat walk_at "w"
      refine o_fdiv (by decide) (by decide) ?_
      repeat walk_at "w"
      refine o_mod h0 ?_
      repeat walk_at "w"
      rw [eD]
      exact k _ _ (x1.trans x2) (Int.emod_nonneg _ (by omega)) (Int.emod_lt_of_pos _ h0)
  refine wb_cons (ws_if (wt_and2 ?_))
  repeat walk_at "w"
  refine ite_dec (fun hb => ?_) (fun hb => by refine iteF (wb_nil ?_); exact fin rfl (.refl H) hl hp s)
  repeat walk_at "w"
  refine ite_dec (fun hi2 => ?_) (fun hb => by refine wb_nil ?_; exact fin rfl (.refl H) hl hp s)
  repeat walk_at "w"
  have hlt : i.toNat < ns.length := by rw [List.length_map] at hi2; omega
  have hat : atI (ns.map V.int) i = some (.int ns[i.toNat]) := by
    unfold atI ixN
    rw [if_pos hi, if_pos (by rw [List.length_map]; omega)]
    show (ns.map V.int)[i.toNat]? = _
    rw [List.getElem?_map, List.getElem?_eq_getElem hlt]
    rfl
  refine at_l hl hat ?_
  repeat walk_at "w"
  refine putS1 hl hp s (by omega) fun H1 x1 hl hp s => ?_
  repeat walk_at "w"
  refine putS2 hl hp s fun H2 x2 hl hp s => ?_
  repeat walk_at "w"
  refine ite_dec (fun hb => ?_) (fun hb => ?_)
  · repeat walk_at "w"
    refine putS2 hl hp s fun H3 x3 hl hp s => ?_
    repeat walk_at "w"
    refine o_mul (cmul31 hr hr2 (by decide)) ?_
    repeat walk_at "w"
    refine o_mod (by decide) ?_
    repeat walk_at "w"
    refine o_mod (by decide) ?_
    repeat walk_at "w"
    refine putS3 hl hp s (Int.emod_nonneg _ (by decide)) (Int.emod_lt_of_pos _ (by decide)) fun H4 x4 hl hp s => ?_
    exact fin rfl (((x1.trans x2).trans x3).trans x4) hl hp s
  · repeat walk_at "w"
    refine o_mul (cmul31 hr hr2 (by decide)) ?_
    repeat walk_at "w"
    refine o_mod (by decide) ?_
    repeat walk_at "w"
    refine o_mod (by decide) ?_
    repeat walk_at "w"
    refine putS3 hl hp s (Int.emod_nonneg _ (by decide)) (Int.emod_lt_of_pos _ (by decide)) fun H4 x4 hl hp s => ?_
    exact fin rfl ((x1.trans x2).trans x4) hl hp s
end

/-! ### _law_divisor, _law_lowest, _law_integer -/
local macro_rules | `(tactic| walk_at "sou") => `(tactic| first | assumption | ((with_reducible refine' Sou.mono ?s ?x); (case s => assumption); (case x => walk_at "x")))
local macro_rules | `(tactic| walk_at "wO") => `(tactic| first | ((with_reducible refine' o_fdiv ?h0 ?h1 ?_); (case h0 => decide); (case h1 => decide)) | ((with_reducible refine' o_mod ?h0 ?_); (case h0 => decide)) | fail)
local macro_rules | `(tactic| walk_at "wX") => `(tactic| first | ((with_reducible refine' dr_ok ?s ?h0 ?h1 ?_); (case s => walk_at "sou"); (case h0 => decide); (case h1 => exact small_n (by decide))) | fail)

/-! ### _law_number, _law_under -/
local macro_rules | `(tactic| walk_at "hp") => `(tactic| ((with_reducible refine' Ex.tup ?x ?h); (case h => assumption); (case x => walk_at "x")))
local macro_rules | `(tactic| walk_at "wS") => `(tactic| first | ((with_reducible refine' ws_aug ?n ?h0 ?_); (case n => with_reducible assumption); (case h0 => rfl)) | fail)
local macro_rules | `(tactic| walk_at "wX") => `(tactic| first | with_reducible refine' ret_i fun _ _ _ _ => ?_ | with_reducible refine' draw_i fun _ _ _ _ _ => ?_ | with_reducible refine' num_i fun _ _ _ _ => ?_ | with_reducible refine' und_i fun _ _ _ _ _ => ?_ | with_reducible refine' prs_i fun _ _ _ _ => ?_ | with_reducible refine' yes_i fun _ _ => ?_ | fail)

/-! ### _law_begin -/
local macro_rules | `(tactic| walk_at "wX") => `(tactic| first | ((with_reducible refine' tup_i ?hl fun _ _ _ _ => ?_); (case hl => first | exact len2 | exact len3 | exact len4 | exact len1 | exact len5)) | ((with_reducible refine' lst_i ?hl fun _ _ _ _ _ => ?_); (case hl => first | exact len2 | exact len3 | exact len4 | exact len1 | exact len5)) | fail)
section
variable {P : Program} {w : World} {K : PySem.W.Frag} {mg : Str → Option Value} {base : Heap}
theorem f__law_begin (T : Tm K mg) : GFn P w K mg base 1 "_law_begin" (spBegin K) := by
  obtain ⟨fd, F⟩ := T.d__law_begin
  refine GFn.mk F T.g__law_begin (def_ok F sc__law_begin (fun vs H Q E h => by obtain ⟨a, ns, rfl, _⟩ := h; rfl) ?_) (F.bindsN fun _ _ _ _ _ _ us hl => match us, hl with | [_], _ => rfl)
  intro X eP ew eK em eb eN es hf nd H vs Q E B h
  subst eP ew eK em eb
  have n0 : Sl X 0 "_law_script" := slot_of eN es hf nd rfl (by first | exact Or.inl rfl | exact Or.inr rfl) (by decide) (by decide)
  have z_list : Bn X "list" := bn_of es rfl T.z_list
  obtain ⟨a, ns, rfl, hs, k⟩ := h
  show WB X [_] _ [some (.ref a)] H
  refine wb_one (ws_ret (we_lst (wa_cons (we_listof z_list (we_cutU ?_)) ?_)))
  case refine_2 => rfl
  repeat walk_at "w"
  obtain ⟨ms, em⟩ := cut_ints ns 63
  refine ⟨a, _, 63, rfl, rfl, hs, ?_⟩
  rw [em]
  intro l0 h0
  refine ⟨l0, _, rfl, .inl (.of upd_same), fun l h1 => ?_⟩
  refine wa_three ?_
  repeat walk_at "w"
  rename_i p H2 hp x e
  refine k p H2 (((Ex.new h0).trans (Ex.new h1)).trans x) ⟨l, _, ms, e, src0 (by decide) (by decide) (by decide), ?_⟩
  exact x.keep _ _ upd_same not_src_ints
end

/-! ### for x in range(n), the end not known before -/
section
variable {X : Cx} {k : Nat} {E : L2.St → XK} {x : Str} {D : Ends} {σ : L2.St} {H : Hp} {a : Expr} {i : Nat} {body : List Stmt} {px pr pc pos : Pos}
/-- for x in range(a), the end not known before -/
theorem ws_for_rangeE (B : Body X k E) (s : Sl X i x) (bn : Bn X "range")
    (h : WE X a σ H fun v H1 => ∃ n : Nat, v = .int n ∧ n ≤ 1000000000 ∧ ∃ P : Nat → L2.St → Hp → Prop, P 0 σ H1 ∧ (∀ j σ H, j < n → P j σ H → WB X body { D with nx := P (j + 1), ct := P (j + 1), bk := D.nx } (σ.set i (some (.int j))) H) ∧ ∀ σ H, P n σ H → D.nx σ H)
    (hs : starEach [a] X.env = [(false, eval a X.env)] := by rfl) : WS X (.For (.Name x px) (.Call (.Name "range" pr) [a] [] pc) body [] pos) D σ H := by
  refine wsP (ps_for B.po B.calm (pi_range1 bn.gl bn.no paS hs) (pg_name s.nd s.at_ s.loc s.fn) pbS) ?_
  refine wa_one (we_mono h fun v H1 q => ?_) hs
  obtain ⟨n, rfl, hn, P, p0, ht, hd⟩ := q
  refine ⟨n, rfl, by omega, by omega, for_range (lo := 0) P p0 (fun j σ H hj p => ?_) hd⟩
  have z := ht j σ H (by rw [Int.toNat_natCast] at hj; exact hj) p
  show WB X body _ (σ.set i (some (.int (0 + (j : Int))))) H
  rw [Int.zero_add]
  exact z
end

/-! ### items of drawn lists -/
theorem at_all {K : PySem.W.Frag} {H : Hp} {p : Addr} {xs : List V} {d : Int} {Q : VK} (hp : H p = some (.lst xs)) (d0 : 0 ≤ d) (d1 : d < xs.length) (q : ∀ x ∈ xs, Q x H) : rIx K (.ref p) (.int d) H Q := by
  obtain ⟨n, rfl⟩ := Int.eq_ofNat_of_zero_le d0
  have hn : n < xs.length := by omega
  exact at_l hp (atI_nat (List.getElem?_eq_getElem hn)) (q _ (List.getElem_mem hn))
theorem ns_len {vs : List V} (h : vs.length ≠ 4) : ¬ Src (.lst vs) := fun ⟨_, _, _, _, e, _⟩ => by
  injection e with e
  subst e
  exact h rfl
theorem ns_snd {a : V} {b : Addr} {r : List V} : ¬ Src (.lst (a :: .ref b :: r)) := fun ⟨_, _, _, _, e, _⟩ => by
  injection e with e
  injection e with _ e
  injection e with e _
  cases e
theorem ns_non {r : List V} : ¬ Src (.lst (.non :: r)) := fun ⟨_, _, _, _, e, _⟩ => by
  injection e with e
  injection e with e _
  cases e
theorem ns_str {x : Str} {r : List V} : ¬ Src (.lst (.str x :: r)) := fun ⟨_, _, _, _, e, _⟩ => by
  injection e with e
  injection e with e _
  cases e
theorem lenk {vs : List V} (n : Nat) (h : vs.length = n) (l : n ≤ 1000 := by decide) : vs.length ≤ sizeLine := by
  rw [h]
  exact Nat.le_trans l (by decide)
/-! ### pairs -/
def PrQ (q : Rat) (v : V) (H : Hp) : Prop := ∃ p, v = .ref p ∧ H p = some (.tup [.int q.num, .int q.den])
theorem PrQ.mono {q : Rat} {v : V} {H H' : Hp} (x : Ex H H') (h : PrQ q v H) : PrQ q v H' := by
  obtain ⟨p, e, h⟩ := h
  exact ⟨p, e, x.tup h⟩
def OPr (o : Option Rat) (v : V) (H : Hp) : Prop := match o with
  | none => v = .non
  | some q => PrQ q v H
theorem OPr.mono {o : Option Rat} {v : V} {H H' : Hp} (x : Ex H H') (h : OPr o v H) : OPr o v H' := by
  cases o with
  | none => exact h
  | some q => exact PrQ.mono x h
/-- a pair that comes back -/
def RetP (H : Hp) (q : Rat) (Q : VK) : Prop := ∀ v H', Ex H H' → PrQ q v H' → Q v H'
theorem retp_i {H : Hp} {q : Rat} {Q : VK} (h : ∀ v H', Ex H H' → PrQ q v H' → Q v H') : RetP H q Q := h
theorem RetP.mono {H H' : Hp} {q : Rat} {Q : VK} (k : RetP H q Q) (x : Ex H H') : RetP H' q Q := fun v H2 y h => k v H2 (x.trans y) h
theorem pq_at0 {K : PySem.W.Frag} {q : Rat} {v : V} {H : Hp} {Q : VK} (h : PrQ q v H) (k : Q (.int q.num) H) : rIx K v (.int 0) H Q := by
  obtain ⟨p, rfl, h⟩ := h
  exact at_t h rfl k
theorem pq_at1 {K : PySem.W.Frag} {q : Rat} {v : V} {H : Hp} {Q : VK} (h : PrQ q v H) (k : Q (.int q.den) H) : rIx K v (.int 1) H Q := by
  obtain ⟨p, rfl, h⟩ := h
  exact at_t h rfl k
local macro_rules | `(tactic| walk_at "pq") => `(tactic| first | assumption | ((with_reducible refine' PrQ.mono ?x ?h); (case h => assumption); (case x => walk_at "x")) | fail)
local macro_rules | `(tactic| walk_at "wE") => `(tactic| first | ((with_reducible refine' we_abs ?b ?_ ?h1 ?h2); (case b => with_reducible assumption); (case h1 => rfl); (case h2 => rfl)) | fail)
local macro_rules | `(tactic| walk_at "wR") => `(tactic| first | ((with_reducible refine' pq_at0 ?h ?_); (case h => walk_at "pq")) | ((with_reducible refine' pq_at1 ?h ?_); (case h => walk_at "pq")) | fail)
section
variable {P : Program} {w : World} {K : PySem.W.Frag} {mg : Str → Option Value} {base : Heap}
def spDiv2 : Sp := fun vs H Q _ => ∃ a b, vs = [.int a, .int b] ∧ Q (.int (Int.gcd a b)) H
theorem f__law_divisor (T : Tm K mg) : GFn P w K mg base 1 "_law_divisor" spDiv2 := by
  obtain ⟨fd, F⟩ := T.d__law_divisor
  refine GFn.mk F T.g__law_divisor (def_ok F sc__law_divisor (fun vs H Q E h => by obtain ⟨a, b, rfl, _⟩ := h; rfl) ?_) (F.bindsN fun _ _ _ _ _ _ us hl => match us, hl with | [_, _], _ => rfl)
  intro X eP ew eK em eb eN es hf nd H vs Q E B h
  subst eP ew eK em eb
  have n0 : Sl X 0 "_law_one" := slot_of eN es hf nd rfl (by first | exact Or.inl rfl | exact Or.inr rfl) (by decide) (by decide)
  have n1 : Sl X 1 "_law_other" := slot_of eN es hf nd rfl (by first | exact Or.inl rfl | exact Or.inr rfl) (by decide) (by decide)
  have z_abs : Bn X "abs" := bn_of es rfl T.z_abs
  have z_int : Bn X "int" := bn_of es rfl T.z_int
  have kb : X.env.blockKind = .function := blk_of es rfl
  have k__law_one : X.env.kindOf "_law_one" = some .local := kd_of es rfl
  have k__law_other : X.env.kindOf "_law_other" = some .local := kd_of es rfl
  obtain ⟨a, b, rfl, q⟩ := h
  show WB X [_, _, _] _ [some (.int a), some (.int b)] H
  repeat walk_at "w"
  refine ws_while_by (fun σ H' => ∃ (x y : Int), σ = [some (.int x), some (.int y)] ∧ 0 ≤ x ∧ 0 ≤ y ∧ Int.gcd x y = Int.gcd a b ∧ H' = H) (fun σ _ => match σ with | [_, some (.int y)] => y.toNat | _ => 0) B
    ⟨_, _, rfl, abs_nn a, abs_nn b, gcd_abs a b, rfl⟩ ?_
  rintro σ H' ⟨x, y, rfl, hx, hy, hg, rfl⟩
  repeat walk_at "w"
  refine ite_dec (fun hc => ?_) (fun hc => ?_)
  · repeat walk_at "w"
    refine o_mod hc ?_
    repeat walk_at "w"
    exact ⟨⟨y, x % y, rfl, hy, Int.emod_nonneg _ (by omega), by rw [gcd_turn, hg], rfl⟩, by have := Int.emod_lt_of_pos x hc; have := Int.emod_nonneg x (show y ≠ 0 by omega); show (x % y).toNat < y.toNat; omega⟩
  · repeat walk_at "w"
    have e : (Int.gcd a b : Int) = x := by
      rw [← hg, show y = 0 by omega, Int.gcd_zero_right, Int.natAbs_of_nonneg hx]
    rw [e] at q
    exact q
def spCut : Sp := fun vs H Q _ => ∃ a b, vs = [.int a, .int b] ∧ b ≠ 0 ∧ b.natAbs < 2 ^ 9000 ∧ RetP H (Rat.divInt a b) Q
theorem f__law_cut (T : Tm K mg) : GFn P w K mg base 2 "_law_cut" spCut := by
  obtain ⟨fd, F⟩ := T.d__law_cut
  refine GFn.mk F T.g__law_cut (def_ok F sc__law_cut (fun vs H Q E h => by obtain ⟨a, b, rfl, _⟩ := h; rfl) ?_) (F.bindsN fun _ _ _ _ _ _ us hl => match us, hl with | [_, _], _ => rfl)
  intro X eP ew eK em eb eN es hf nd H vs Q E B h
  subst eP ew eK em eb
  have n0 : Sl X 0 "_law_upper" := slot_of eN es hf nd rfl (by first | exact Or.inl rfl | exact Or.inr rfl) (by decide) (by decide)
  have n1 : Sl X 1 "_law_lower" := slot_of eN es hf nd rfl (by first | exact Or.inl rfl | exact Or.inr rfl) (by decide) (by decide)
  have n2 : Sl X 2 "_law_part" := slot_of eN es hf nd rfl (by first | exact Or.inl rfl | exact Or.inr rfl) (by decide) (by decide)
  have g__law_divisor : Gn X "_law_divisor" := gn_of es rfl (by decide)
  have F__law_divisor := f__law_divisor (P := X.prog) (w := X.w) (base := X.base) T
  obtain ⟨a, b, rfl, b0, bz, q⟩ := h
  show WB X [_, _, _] _ [some (.int a), some (.int b), none] H
  repeat walk_at "w"
  refine ⟨a, b, rfl, ?_⟩
  repeat walk_at "w"
  have g0 := g1_pos a b
  have eg : (Int.gcd a b : Int) = g1 a b := (g1_of b0).symm
  have gz : (g1 a b).natAbs < 2 ^ 9000 := Nat.lt_of_le_of_lt (g1_le b0) bz
  have hn := made_num (t := a) b0
  have hd := made_den (t := a) b0
  rw [eg]
  refine ite_dec (fun hneg => ?_) fun hneg => ?_
  · rw [if_pos hneg, Int.zero_sub] at hn hd
    repeat walk_at "w"
    refine o_fdiv (by omega) (log2_small (m := 9000) (by rw [Int.natAbs_neg]; exact gz) (by decide) (by decide)) ?_
    repeat walk_at "w"
    refine o_fdiv (by omega) (log2_small (m := 9000) (by rw [Int.natAbs_neg]; exact gz) (by decide) (by decide)) ?_
    rw [hn, hd]
    exact ⟨(show 2 ≤ sizeLine by decide), fun p H2 h0 x e => q (.ref p) H2 x ⟨p, rfl, by subst e; exact upd_same⟩⟩
  · rw [if_neg hneg] at hn hd
    repeat walk_at "w"
    refine o_fdiv (by omega) (log2_small (m := 9000) gz (by decide) (by decide)) ?_
    repeat walk_at "w"
    refine o_fdiv (by omega) (log2_small (m := 9000) gz (by decide) (by decide)) ?_
    rw [hn, hd]
    exact ⟨(show 2 ≤ sizeLine by decide), fun p H2 h0 x e => q (.ref p) H2 x ⟨p, rfl, by subst e; exact upd_same⟩⟩
def spPair2 (f : Rat → Rat → Rat) : Sp := fun vs H Q _ => ∃ q r v u, vs = [v, u] ∧ PrQ q v H ∧ PrQ r u H ∧ Sz q 4000 ∧ Sz r 4000 ∧ RetP H (f q r) Q
theorem Sz.nn {q : Rat} {n : Nat} (h : Sz q n) : q.num.natAbs < 2 ^ n := h.num
theorem f__law_sum (T : Tm K mg) : GFn P w K mg base 3 "_law_sum" (spPair2 ((· + ·))) := by
  obtain ⟨fd, F⟩ := T.d__law_sum
  refine GFn.mk F T.g__law_sum (def_ok F sc__law_sum (fun vs H Q E h => by obtain ⟨q, r, v, u, rfl, _⟩ := h; rfl) ?_) (F.bindsN fun _ _ _ _ _ _ us hl => match us, hl with | [_, _], _ => rfl)
  intro X eP ew eK em eb eN es hf nd H vs Q E B h
  subst eP ew eK em eb
  have n0 : Sl X 0 "_law_one" := slot_of eN es hf nd rfl (by first | exact Or.inl rfl | exact Or.inr rfl) (by decide) (by decide)
  have n1 : Sl X 1 "_law_other" := slot_of eN es hf nd rfl (by first | exact Or.inl rfl | exact Or.inr rfl) (by decide) (by decide)
  have g__law_cut : Gn X "_law_cut" := gn_of es rfl (by decide)
  have F__law_cut := f__law_cut (P := X.prog) (w := X.w) (base := X.base) T
  obtain ⟨q, r, v, u, rfl, hv, hu, hq, hr, k⟩ := h
  show WB X [_] _ [some (v), some (u)] H
  repeat walk_at "w"
  exact ⟨_, _, rfl, dd_ne q r, dd_sz hq hr, by rw [add_eq]; exact k⟩
theorem f__law_minus (T : Tm K mg) : GFn P w K mg base 3 "_law_minus" (spPair2 ((· - ·))) := by
  obtain ⟨fd, F⟩ := T.d__law_minus
  refine GFn.mk F T.g__law_minus (def_ok F sc__law_minus (fun vs H Q E h => by obtain ⟨q, r, v, u, rfl, _⟩ := h; rfl) ?_) (F.bindsN fun _ _ _ _ _ _ us hl => match us, hl with | [_, _], _ => rfl)
  intro X eP ew eK em eb eN es hf nd H vs Q E B h
  subst eP ew eK em eb
  have n0 : Sl X 0 "_law_one" := slot_of eN es hf nd rfl (by first | exact Or.inl rfl | exact Or.inr rfl) (by decide) (by decide)
  have n1 : Sl X 1 "_law_other" := slot_of eN es hf nd rfl (by first | exact Or.inl rfl | exact Or.inr rfl) (by decide) (by decide)
  have g__law_cut : Gn X "_law_cut" := gn_of es rfl (by decide)
  have F__law_cut := f__law_cut (P := X.prog) (w := X.w) (base := X.base) T
  obtain ⟨q, r, v, u, rfl, hv, hu, hq, hr, k⟩ := h
  show WB X [_] _ [some (v), some (u)] H
  repeat walk_at "w"
  exact ⟨_, _, rfl, dd_ne q r, dd_sz hq hr, by rw [sub_eq]; exact k⟩
theorem f__law_by (T : Tm K mg) : GFn P w K mg base 3 "_law_by" (spPair2 ((· * ·))) := by
  obtain ⟨fd, F⟩ := T.d__law_by
  refine GFn.mk F T.g__law_by (def_ok F sc__law_by (fun vs H Q E h => by obtain ⟨q, r, v, u, rfl, _⟩ := h; rfl) ?_) (F.bindsN fun _ _ _ _ _ _ us hl => match us, hl with | [_, _], _ => rfl)
  intro X eP ew eK em eb eN es hf nd H vs Q E B h
  subst eP ew eK em eb
  have n0 : Sl X 0 "_law_one" := slot_of eN es hf nd rfl (by first | exact Or.inl rfl | exact Or.inr rfl) (by decide) (by decide)
  have n1 : Sl X 1 "_law_other" := slot_of eN es hf nd rfl (by first | exact Or.inl rfl | exact Or.inr rfl) (by decide) (by decide)
  have g__law_cut : Gn X "_law_cut" := gn_of es rfl (by decide)
  have F__law_cut := f__law_cut (P := X.prog) (w := X.w) (base := X.base) T
  obtain ⟨q, r, v, u, rfl, hv, hu, hq, hr, k⟩ := h
  show WB X [_] _ [some (v), some (u)] H
  repeat walk_at "w"
  exact ⟨_, _, rfl, dd_ne q r, dd_sz hq hr, by rw [mul_eq]; exact k⟩
theorem over_eq {q r : Rat} (h : r.num ≠ 0) : Rat.divInt (q.num * r.den) (q.den * r.num) = q / r := by
  rw [Rat.div_def, Rat.inv_def, show q * Rat.divInt r.den r.num = Rat.divInt q.num q.den * Rat.divInt r.den r.num from by rw [Rat.num_divInt_den], Rat.divInt_mul_divInt]
def spPOver : Sp := fun vs H Q _ => ∃ q r v u, vs = [v, u] ∧ PrQ q v H ∧ PrQ r u H ∧ Sz q 4000 ∧ Sz r 4000 ∧ r.num ≠ 0 ∧ RetP H (q / r) Q
theorem f__law_over (T : Tm K mg) : GFn P w K mg base 3 "_law_over" spPOver := by
  obtain ⟨fd, F⟩ := T.d__law_over
  refine GFn.mk F T.g__law_over (def_ok F sc__law_over (fun vs H Q E h => by obtain ⟨q, r, v, u, rfl, _⟩ := h; rfl) ?_) (F.bindsN fun _ _ _ _ _ _ us hl => match us, hl with | [_, _], _ => rfl)
  intro X eP ew eK em eb eN es hf nd H vs Q E B h
  subst eP ew eK em eb
  have n0 : Sl X 0 "_law_one" := slot_of eN es hf nd rfl (by first | exact Or.inl rfl | exact Or.inr rfl) (by decide) (by decide)
  have n1 : Sl X 1 "_law_other" := slot_of eN es hf nd rfl (by first | exact Or.inl rfl | exact Or.inr rfl) (by decide) (by decide)
  have g__law_cut : Gn X "_law_cut" := gn_of es rfl (by decide)
  have F__law_cut := f__law_cut (P := X.prog) (w := X.w) (base := X.base) T
  obtain ⟨q, r, v, u, rfl, hv, hu, hq, hr, r0, k⟩ := h
  show WB X [_] _ [some (v), some (u)] H
  repeat walk_at "w"
  refine ⟨_, _, rfl, Int.mul_ne_zero (den_ne q) r0, ?_, by rw [over_eq r0]; exact k⟩
  rw [Int.natAbs_mul, Int.natAbs_natCast]
  exact Nat.lt_of_lt_of_le (pow_add' hq.den hr.num) (Nat.pow_le_pow_right (by decide) (by decide))
def spLess : Sp := fun vs H Q _ => ∃ q r v u, vs = [v, u] ∧ PrQ q v H ∧ PrQ r u H ∧ Sz q 4000 ∧ Sz r 4000 ∧ Q (.bl (decide (q < r))) H
theorem f__law_less (T : Tm K mg) : GFn P w K mg base 1 "_law_less" spLess := by
  obtain ⟨fd, F⟩ := T.d__law_less
  refine GFn.mk F T.g__law_less (def_ok F sc__law_less (fun vs H Q E h => by obtain ⟨q, r, v, u, rfl, _⟩ := h; rfl) ?_) (F.bindsN fun _ _ _ _ _ _ us hl => match us, hl with | [_, _], _ => rfl)
  intro X eP ew eK em eb eN es hf nd H vs Q E B h
  subst eP ew eK em eb
  have n0 : Sl X 0 "_law_one" := slot_of eN es hf nd rfl (by first | exact Or.inl rfl | exact Or.inr rfl) (by decide) (by decide)
  have n1 : Sl X 1 "_law_other" := slot_of eN es hf nd rfl (by first | exact Or.inl rfl | exact Or.inr rfl) (by decide) (by decide)
  obtain ⟨q, r, v, u, rfl, hv, hu, hq, hr, z⟩ := h
  show WB X [_] _ [some (v), some (u)] H
  repeat walk_at "w"
  rw [show decide (q.num * (r.den : Int) < r.num * (q.den : Int)) = decide (q < r) from by congr 1; exact propext (Rat.lt_iff q r).symm]
  exact z
/-- one of two pairs, the value itself -/
def spPick (f : Rat → Rat → Rat) : Sp := fun vs H Q _ => ∃ q r v u, vs = [v, u] ∧ PrQ q v H ∧ PrQ r u H ∧ Sz q 4000 ∧ Sz r 4000 ∧ ∀ y, PrQ (f q r) y H → Q y H
theorem f__law_most (T : Tm K mg) : GFn P w K mg base 2 "_law_most" (spPick rmax) := by
  obtain ⟨fd, F⟩ := T.d__law_most
  refine GFn.mk F T.g__law_most (def_ok F sc__law_most (fun vs H Q E h => by obtain ⟨q, r, v, u, rfl, _⟩ := h; rfl) ?_) (F.bindsN fun _ _ _ _ _ _ us hl => match us, hl with | [_, _], _ => rfl)
  intro X eP ew eK em eb eN es hf nd H vs Q E B h
  subst eP ew eK em eb
  have n0 : Sl X 0 "_law_one" := slot_of eN es hf nd rfl (by first | exact Or.inl rfl | exact Or.inr rfl) (by decide) (by decide)
  have n1 : Sl X 1 "_law_other" := slot_of eN es hf nd rfl (by first | exact Or.inl rfl | exact Or.inr rfl) (by decide) (by decide)
  have g__law_less : Gn X "_law_less" := gn_of es rfl (by decide)
  have F__law_less := f__law_less (P := X.prog) (w := X.w) (base := X.base) T
  obtain ⟨q, r, v, u, rfl, hv, hu, hq, hr, k⟩ := h
  show WB X [_] _ [some (v), some (u)] H
  repeat walk_at "w"
  refine ⟨_, _, _, _, rfl, hv, hu, hq, hr, ?_⟩
  repeat walk_at "w"
  refine ite_dec (fun hc => ?_) (fun hc => ?_)
  · repeat walk_at "w"
    exact k _ (by rw [show rmax q r = r from if_pos hc]; exact hu)
  · repeat walk_at "w"
    exact k _ (by rw [show rmax q r = q from if_neg hc]; exact hv)
theorem f__law_least (T : Tm K mg) : GFn P w K mg base 2 "_law_least" (spPick rmin) := by
  obtain ⟨fd, F⟩ := T.d__law_least
  refine GFn.mk F T.g__law_least (def_ok F sc__law_least (fun vs H Q E h => by obtain ⟨q, r, v, u, rfl, _⟩ := h; rfl) ?_) (F.bindsN fun _ _ _ _ _ _ us hl => match us, hl with | [_, _], _ => rfl)
  intro X eP ew eK em eb eN es hf nd H vs Q E B h
  subst eP ew eK em eb
  have n0 : Sl X 0 "_law_one" := slot_of eN es hf nd rfl (by first | exact Or.inl rfl | exact Or.inr rfl) (by decide) (by decide)
  have n1 : Sl X 1 "_law_other" := slot_of eN es hf nd rfl (by first | exact Or.inl rfl | exact Or.inr rfl) (by decide) (by decide)
  have g__law_less : Gn X "_law_less" := gn_of es rfl (by decide)
  have F__law_less := f__law_less (P := X.prog) (w := X.w) (base := X.base) T
  obtain ⟨q, r, v, u, rfl, hv, hu, hq, hr, k⟩ := h
  show WB X [_] _ [some (v), some (u)] H
  repeat walk_at "w"
  refine ⟨_, _, _, _, rfl, hu, hv, hr, hq, ?_⟩
  repeat walk_at "w"
  refine ite_dec (fun hc => ?_) (fun hc => ?_)
  · repeat walk_at "w"
    exact k _ (by rw [show rmin q r = r from if_pos hc]; exact hu)
  · repeat walk_at "w"
    exact k _ (by rw [show rmin q r = q from if_neg hc]; exact hv)
def spPTime (K : PySem.W.Frag) : Sp := fun vs H Q _ => ∃ o v, vs = [v] ∧ OPr o v H ∧ (∀ q, o = some q → Sz q 8000) ∧ ∀ v' H', Ex H H' → OptT K o v' H' → Q v' H'
theorem f__law_time (T : Tm K mg) : GFn P w K mg base 4 "_law_time" (spPTime K) := by
  obtain ⟨fd, F⟩ := T.d__law_time
  refine GFn.mk F T.g__law_time (def_ok F sc__law_time (fun vs H Q E h => by obtain ⟨o, v, rfl, _⟩ := h; rfl) ?_) (F.bindsN fun _ _ _ _ _ _ us hl => match us, hl with | [_], _ => rfl)
  intro X eP ew eK em eb eN es hf nd H vs Q E B h
  subst eP ew eK em eb
  have n0 : Sl X 0 "_law_pair" := slot_of eN es hf nd rfl (by first | exact Or.inl rfl | exact Or.inr rfl) (by decide) (by decide)
  have g_Time : Gn X "Time" := gn_of es rfl (by decide)
  have m_Time := T.g_Time
  obtain ⟨o, v, rfl, hv, hz, k⟩ := h
  show WB X [_] _ [some (v)] H
  cases o with
  | none =>
    cases hv
    repeat walk_at "w"
    rw [decide_eq_true (rfl : V.non = V.non)]
    repeat walk_at "w"
    exact k _ _ (.refl _) rfl
  | some q =>
    have hv : PrQ q v H := hv
    have nn : v ≠ .non := by
      obtain ⟨p, rfl, _⟩ := hv
      exact fun e => nomatch e
    repeat walk_at "w"
    rw [decide_eq_false nn]
    repeat walk_at "w"
    refine ⟨_, _, rfl, rfl, den_ne q, g1_sz (den_ne q) (den_sz (hz q rfl)), fun v' H' x h => k _ _ x ?_⟩
    rw [Rat.num_divInt_den] at h
    exact h
/-- a quotient of small numbers -/
def MomF (q : Rat) : Prop := ∃ a b : Int, q = Rat.divInt a b ∧ 1 ≤ a ∧ a ≤ 60 ∧ 1 ≤ b ∧ b ≤ 9
structure MomP (q : Rat) : Prop where
  pos : 0 < q
  sz : Sz q 8
  fi : MomF q
theorem mom_of {a b : Int} (a0 : 1 ≤ a) (a1 : a ≤ 60) (b0 : 1 ≤ b) (b1 : b ≤ 9) : MomP (Rat.divInt a b) := by
  refine ⟨?_, Sz.div (by omega) (by omega) (by omega), a, b, rfl, a0, a1, b0, b1⟩
  obtain ⟨n, rfl⟩ := Int.eq_ofNat_of_zero_le (show 0 ≤ b by omega)
  exact (sc_pos (show n ≠ 0 by omega)).mpr (by omega)
def spMoment : Sp := fun vs H Q _ => ∃ p, vs = [.ref p] ∧ Sou H p ∧ ∀ q v H', Ex H H' → PrQ q v H' → MomP q → Q v H'
theorem f__law_moment (T : Tm K mg) : GFn P w K mg base 3 "_law_moment" spMoment := by
  obtain ⟨fd, F⟩ := T.d__law_moment
  refine GFn.mk F T.g__law_moment (def_ok F sc__law_moment (fun vs H Q E h => by obtain ⟨p, rfl, _⟩ := h; rfl) ?_) (F.bindsN fun _ _ _ _ _ _ us hl => match us, hl with | [_], _ => rfl)
  intro X eP ew eK em eb eN es hf nd H vs Q E B h
  subst eP ew eK em eb
  have n0 : Sl X 0 "_law_source" := slot_of eN es hf nd rfl (by first | exact Or.inl rfl | exact Or.inr rfl) (by decide) (by decide)
  have n1 : Sl X 1 "_law_top" := slot_of eN es hf nd rfl (by first | exact Or.inl rfl | exact Or.inr rfl) (by decide) (by decide)
  have g__law_draw : Gn X "_law_draw" := gn_of es rfl (by decide)
  have F__law_draw := f__law_draw (P := X.prog) (w := X.w) (base := X.base) T
  have g__law_cut : Gn X "_law_cut" := gn_of es rfl (by decide)
  have F__law_cut := f__law_cut (P := X.prog) (w := X.w) (base := X.base) T
  obtain ⟨p, rfl, so, k⟩ := h
  show WB X [_, _] _ [some (.ref p), none] H
  repeat walk_at "w"
  rename_i l H1 nl x1 hl d H2 x2 d0 d1
  refine at_all (x2.keep _ _ hl (ns_len (show 3 ≠ 4 by decide))) d0 d1 ?_
  intro y hy
  obtain ⟨m, rfl, m0, m1⟩ : ∃ m : Int, y = .int m ∧ 1 ≤ m ∧ m ≤ 60 := by
    simp only [List.mem_cons, List.not_mem_nil, or_false] at hy
    rcases hy with rfl | rfl | rfl
    · exact ⟨_, rfl, by decide, by decide⟩
    · exact ⟨_, rfl, by decide, by decide⟩
    · exact ⟨_, rfl, by decide, by decide⟩
  refine dr_ok (so.mono (x1.trans x2)) (by omega) (small_n (le_pow (n := 20) (by omega) (by decide))) ?_
  repeat walk_at "w"
  rename_i e H3 x3 e0 e1 l2 H4 nl2 x4 hl2 d2 H5 x5 d20 d21
  refine at_all (x5.keep _ _ hl2 (ns_len (show 3 ≠ 4 by decide))) d20 d21 ?_
  intro y hy
  obtain ⟨m', rfl, m0', m1'⟩ : ∃ m : Int, y = .int m ∧ 1 ≤ m ∧ m ≤ 9 := by
    simp only [List.mem_cons, List.not_mem_nil, or_false] at hy
    rcases hy with rfl | rfl | rfl
    · exact ⟨_, rfl, by decide, by decide⟩
    · exact ⟨_, rfl, by decide, by decide⟩
    · exact ⟨_, rfl, by decide, by decide⟩
  refine dr_ok (so.mono ((((x1.trans x2).trans x3).trans x4).trans x5)) (by omega) (small_n (le_pow (n := 20) (by omega) (by decide))) ?_
  repeat walk_at "w"
  rename_i f H6 x6 f0 f1
  refine ⟨_, _, rfl, by omega, le_pow (n := 20) (by omega) (by decide), fun v H7 x7 hv => ?_⟩
  exact k _ v H7 ((((((x1.trans x2).trans x3).trans x4).trans x5).trans x6).trans x7) hv (mom_of (by omega) (by omega) (by omega) (by omega))
end

/-! ### drawn moments -/
theorem MomF.pos {q : Rat} (h : MomF q) : 0 < q := by
  obtain ⟨a, b, rfl, a1, a60, b1, b9⟩ := h
  rw [dv_pos (by omega)]
  omega
theorem MomF.sz {q : Rat} (h : MomF q) : Sz q 6 := by
  obtain ⟨a, b, rfl, a1, a60, b1, b9⟩ := h
  exact Sz.div (by omega) (by omega) (by omega)
theorem MomF.ninth {q : Rat} (h : MomF q) : Rat.divInt 1 9 ≤ q := by
  obtain ⟨a, b, rfl, a1, a60, b1, b9⟩ := h
  rw [dv_le (by decide) (by omega)]
  omega
theorem MomF.le60 {q : Rat} (h : MomF q) : q ≤ ((60 : Int) : Rat) := by
  obtain ⟨a, b, rfl, a1, a60, b1, b9⟩ := h
  rw [← int_eq, dv_le (by omega) (by decide)]
  omega

/-! ### drawn rules of a book -/
theorem prq_lit {p : Addr} {a b : Int} {H : Hp} (hn : (Rat.divInt a b).num = a) (hd : ((Rat.divInt a b).den : Int) = b) (h : H p = some (.tup [.int a, .int b])) : PrQ (Rat.divInt a b) (.ref p) H := ⟨p, rfl, by rw [hn, hd]; exact h⟩
def SharP (q : Rat) : Prop := 0 < q ∧ q ≤ 1 ∧ Sz q 8 ∧ ∃ a b : Int, q = Rat.divInt a b ∧ 1 ≤ a ∧ a ≤ b ∧ b ≤ 20
theorem sc_self {L : Nat} (h : L ≠ 0) : sc L L = 1 := by
  unfold sc
  rw [Rat.divInt_self' (by omega)]
theorem shar_of {a b : Int} (a0 : 1 ≤ a) (a1 : a ≤ b) (b1 : b ≤ 20) : SharP (Rat.divInt a b) := by
  obtain ⟨n, rfl⟩ := Int.eq_ofNat_of_zero_le (show 0 ≤ b by omega)
  have hn : n ≠ 0 := by omega
  refine ⟨(sc_pos hn).mpr (by omega), Rat.not_lt.mp fun h => ?_, Sz.div (by omega) (by omega) (by omega), a, _, rfl, a0, a1, b1⟩
  rw [← sc_self hn] at h
  have := (sc_lt hn _ _).mp h
  omega
theorem ge1_of {a b : Int} (b0 : 1 ≤ b) (h : b ≤ a) : 1 ≤ Rat.divInt a b := by
  obtain ⟨n, rfl⟩ := Int.eq_ofNat_of_zero_le (show 0 ≤ b by omega)
  have hn : n ≠ 0 := by omega
  refine Rat.not_lt.mp fun q => ?_
  rw [← sc_self hn] at q
  have := (sc_lt hn _ _).mp q
  omega
theorem ge0_of {a b : Int} (b0 : 1 ≤ b) (h : 0 ≤ a) : 0 ≤ Rat.divInt a b := by
  obtain ⟨n, rfl⟩ := Int.eq_ofNat_of_zero_le (show 0 ≤ b by omega)
  have hn : n ≠ 0 := by omega
  refine Rat.not_lt.mp fun q => ?_
  rw [← sc_zero n] at q
  have := (sc_lt hn _ _).mp q
  omega
/-- the nine rules as the law keeps them -/
structure RuP (z : Bk) (v1 v3 v4 v5 v6 : V) (H : Hp) : Prop where
  sh : PrQ z.share v1 H
  fa : PrQ z.factor v3 H
  ma : PrQ z.margin v4 H
  fl : OPr z.floor v5 H
  ro : OPr z.roof v6 H
theorem RuP.mono {z : Bk} {v1 v3 v4 v5 v6 : V} {H H' : Hp} (x : Ex H H') (h : RuP z v1 v3 v4 v5 v6 H) : RuP z v1 v3 v4 v5 v6 H' := ⟨h.sh.mono x, h.fa.mono x, h.ma.mono x, h.fl.mono x, h.ro.mono x⟩
/-- what the parts are made of -/
structure FineB (z : Bk) : Prop where
  sh : ∃ a b : Int, z.share = Rat.divInt a b ∧ 1 ≤ a ∧ a ≤ b ∧ b ≤ 20
  fa : ∃ a b : Int, z.factor = Rat.divInt a b ∧ 1 ≤ b ∧ b ≤ 10 ∧ b ≤ a ∧ a ≤ 40
  ma : ∃ a b : Int, z.margin = Rat.divInt a b ∧ 0 ≤ a ∧ a ≤ 29 ∧ 1 ≤ b ∧ b ≤ 9
  fl : ∀ f, z.floor = some f → MomF f
  ro : ∀ r, z.roof = some r → ∃ x y, r = x + y ∧ MomF x ∧ MomF y
/-- small parts -/
structure BkSm (z : Bk) : Prop where
  ok : BkOk z
  s1 : Sz z.share 8
  s2 : Sz z.factor 40
  s3 : Sz z.margin 40
  s4 : ∀ f, z.floor = some f → Sz f 40
  s5 : ∀ f, z.roof = some f → Sz f 40
  fi : FineB z
theorem ns9 {z : Bk} {v1 v3 v4 v5 v6 : V} : ¬ Src (.lst (row9 z v1 v3 v4 v5 v6)) := ns_len (show 9 ≠ 4 by decide)
theorem ne1_iff {q : Rat} : (q.num = 1 ∧ (q.den : Int) = 1) ↔ q = 1 := by
  have := rat_ext (q := q) (r := 1)
  exact this
section
variable {X : Cx} {k : Nat} {E : L2.St → XK} {H : Hp} {Q : VK} {p p' : Addr} {a b c d : Int}
theorem o_neT2 (B : Body X k E) (h : H p = some (.tup [.int a, .int b])) (h' : H p' = some (.tup [.int c, .int d])) (q : Q (.bl (!(decide (a = c) && decide (b = d)))) H) : Op2 X (compareOp .NotEq) (.ref p) (.ref p') H Q :=
  op2_of (op_neD (by have := B.room.un; omega)) ⟨.tuple [.int a, .int b], .tuple [.int c, .int d], .tup (.of h) (dp_ints [a, b]), .tup (.of h') (dp_ints [c, d]), shaped2 a b, shaped2 c d, by rw [eqv2]; exact q⟩
theorem o_catL {l b : Addr} {xs zs : List V} (h1 : H l = some (.lst xs)) (h2 : H b = some (.lst zs)) (h3 : xs.length + zs.length ≤ sizeLine) (q : ∀ p, H p = none → Q (.ref p) (upd H p (.lst (xs ++ zs)))) : Op2 X (binaryOp .Add) (.ref l) (.ref b) H Q :=
  op2_of op_cat ⟨l, b, xs, zs, rfl, rfl, h1, h2, h3, q⟩
end
section
variable {P : Program} {w : World} {K : PySem.W.Frag} {mg : Str → Option Value} {base : Heap}
def spShare : Sp := fun vs H Q _ => ∃ p, vs = [.ref p] ∧ Sou H p ∧ ∀ q v H', Ex H H' → PrQ q v H' → SharP q → Q v H'
theorem f__law_share (T : Tm K mg) : GFn P w K mg base 3 "_law_share" spShare := by
  obtain ⟨fd, F⟩ := T.d__law_share
  refine GFn.mk F T.g__law_share (def_ok F sc__law_share (fun vs H Q E h => by obtain ⟨p, rfl, _⟩ := h; rfl) ?_) (F.bindsN fun _ _ _ _ _ _ us hl => match us, hl with | [_], _ => rfl)
  intro X eP ew eK em eb eN es hf nd H vs Q E B h
  subst eP ew eK em eb
  have n0 : Sl X 0 "_law_source" := slot_of eN es hf nd rfl (by first | exact Or.inl rfl | exact Or.inr rfl) (by decide) (by decide)
  have n1 : Sl X 1 "_law_some" := slot_of eN es hf nd rfl (by first | exact Or.inl rfl | exact Or.inr rfl) (by decide) (by decide)
  have g__law_cut : Gn X "_law_cut" := gn_of es rfl (by decide)
  have F__law_cut := f__law_cut (P := X.prog) (w := X.w) (base := X.base) T
  have g__law_draw : Gn X "_law_draw" := gn_of es rfl (by decide)
  have F__law_draw := f__law_draw (P := X.prog) (w := X.w) (base := X.base) T
  obtain ⟨p, rfl, so, k⟩ := h
  show WB X [_, _] _ [some (.ref p), none] H
  repeat walk_at "w"
  rename_i t1 H1 x1 e1 t2 H2 x2 e2 t3 H3 x3 e3 t4 H4 x4 e4 t5 H5 x5 e5 d H6 x6 d0 d1
  refine ⟨_, _, rfl, by decide, le_pow (n := 20) (by decide) (by decide), fun v H7 x7 hv => ?_⟩
  refine lst_i (lenk 6 rfl) fun l H8 nl x8 hl => ?_
  repeat walk_at "w"
  rename_i g H9 x9 g0 g1
  refine at_all (x9.keep _ _ hl (ns_len (show 6 ≠ 4 by decide))) g0 g1 ?_
  have b5 := (((x6.trans x7).trans x8).trans x9)
  have b4 := x5.trans b5
  have b3 := x4.trans b4
  have b2 := x3.trans b3
  have b1 := x2.trans b2
  have b0 := x1.trans b1
  intro y hy
  simp only [List.mem_cons, List.not_mem_nil, or_false] at hy
  rcases hy with rfl | rfl | rfl | rfl | rfl | rfl
  · exact k _ _ _ b0 (prq_lit (by decide +kernel) (by decide +kernel) (b1.tup e1)) (shar_of (by decide) (by decide) (by decide))
  · exact k _ _ _ b0 (prq_lit (by decide +kernel) (by decide +kernel) (b2.tup e2)) (shar_of (by decide) (by decide) (by decide))
  · exact k _ _ _ b0 (prq_lit (by decide +kernel) (by decide +kernel) (b3.tup e3)) (shar_of (by decide) (by decide) (by decide))
  · exact k _ _ _ b0 (prq_lit (by decide +kernel) (by decide +kernel) (b4.tup e4)) (shar_of (by decide) (by decide) (by decide))
  · exact k _ _ _ b0 (prq_lit (by decide +kernel) (by decide +kernel) (b5.tup e5)) (shar_of (by decide) (by decide) (by decide))
  · exact k _ _ _ b0 (hv.mono (x8.trans x9)) (shar_of (by omega) (by omega) (by decide))
def W4 : List Str := ["first", "last", "marked", "clean"]
def spRules : Sp := fun vs H Q _ => ∃ p wl ws, vs = [.ref p, .ref wl] ∧ Sou H p ∧ H wl = some (.lst (List.map V.str ws)) ∧ 0 < ws.length ∧ ws.length ≤ 5 ∧ (∀ x ∈ ws, x ∈ W4) ∧
  ∀ z l v1 v3 v4 v5 v6 H', Ex H H' → H l = none → H' l = some (.lst (row9 z v1 v3 v4 v5 v6)) → RuP z v1 v3 v4 v5 v6 H' → BkSm z → z.word ∈ ws → Q (.ref l) H'
theorem strs_ns {ws : List Str} : ¬ Src (.lst (ws.map V.str)) := by
  cases ws with
  | nil => exact ns_len (show 0 ≠ 4 by decide)
  | cons x ws => exact ns_str
theorem f__law_rules (T : Tm K mg) : GFn P w K mg base 4 "_law_rules" spRules := by
  obtain ⟨fd, F⟩ := T.d__law_rules
  refine GFn.mk F T.g__law_rules (def_ok F sc__law_rules (fun vs H Q E h => by obtain ⟨p, wl, ws, rfl, _⟩ := h; rfl) ?_) (F.bindsN fun _ _ _ _ _ _ us hl => match us, hl with | [_, _], _ => rfl)
  intro X eP ew eK em eb eN es hf nd H vs Q E B h
  subst eP ew eK em eb
  have n0 : Sl X 0 "_law_source" := slot_of eN es hf nd rfl (by first | exact Or.inl rfl | exact Or.inr rfl) (by decide) (by decide)
  have n1 : Sl X 1 "_law_words" := slot_of eN es hf nd rfl (by first | exact Or.inl rfl | exact Or.inr rfl) (by decide) (by decide)
  have n2 : Sl X 2 "_law_lesson" := slot_of eN es hf nd rfl (by first | exact Or.inl rfl | exact Or.inr rfl) (by decide) (by decide)
  have n3 : Sl X 3 "_law_portion" := slot_of eN es hf nd rfl (by first | exact Or.inl rfl | exact Or.inr rfl) (by decide) (by decide)
  have n4 : Sl X 4 "_law_newest" := slot_of eN es hf nd rfl (by first | exact Or.inl rfl | exact Or.inr rfl) (by decide) (by decide)
  have n5 : Sl X 5 "_law_multiple" := slot_of eN es hf nd rfl (by first | exact Or.inl rfl | exact Or.inr rfl) (by decide) (by decide)
  have n6 : Sl X 6 "_law_extra" := slot_of eN es hf nd rfl (by first | exact Or.inl rfl | exact Or.inr rfl) (by decide) (by decide)
  have n7 : Sl X 7 "_law_ground" := slot_of eN es hf nd rfl (by first | exact Or.inl rfl | exact Or.inr rfl) (by decide) (by decide)
  have n8 : Sl X 8 "_law_above" := slot_of eN es hf nd rfl (by first | exact Or.inl rfl | exact Or.inr rfl) (by decide) (by decide)
  have n9 : Sl X 9 "_law_cover" := slot_of eN es hf nd rfl (by first | exact Or.inl rfl | exact Or.inr rfl) (by decide) (by decide)
  have n10 : Sl X 10 "_law_twofold" := slot_of eN es hf nd rfl (by first | exact Or.inl rfl | exact Or.inr rfl) (by decide) (by decide)
  have n11 : Sl X 11 "_law_stored" := slot_of eN es hf nd rfl (by first | exact Or.inl rfl | exact Or.inr rfl) (by decide) (by decide)
  have n12 : Sl X 12 "_law_found" := slot_of eN es hf nd rfl (by first | exact Or.inl rfl | exact Or.inr rfl) (by decide) (by decide)
  have g__law_draw : Gn X "_law_draw" := gn_of es rfl (by decide)
  have F__law_draw := f__law_draw (P := X.prog) (w := X.w) (base := X.base) T
  have z_len : Bn X "len" := bn_of es rfl T.z_len
  have g__law_share : Gn X "_law_share" := gn_of es rfl (by decide)
  have F__law_share := f__law_share (P := X.prog) (w := X.w) (base := X.base) T
  have g__law_cut : Gn X "_law_cut" := gn_of es rfl (by decide)
  have F__law_cut := f__law_cut (P := X.prog) (w := X.w) (base := X.base) T
  have g__law_moment : Gn X "_law_moment" := gn_of es rfl (by decide)
  have F__law_moment := f__law_moment (P := X.prog) (w := X.w) (base := X.base) T
  have g__law_sum : Gn X "_law_sum" := gn_of es rfl (by decide)
  have F__law_sum := f__law_sum (P := X.prog) (w := X.w) (base := X.base) T
  have kb : X.env.blockKind = .function := blk_of es rfl
  have k__law_lesson : X.env.kindOf "_law_lesson" = some .local := kd_of es rfl
  have k__law_portion : X.env.kindOf "_law_portion" = some .local := kd_of es rfl
  obtain ⟨p, wl, ws, rfl, so, hw, w0, w4, hW, k⟩ := h
  show WB X [_, _, _, _, _, _, _, _, _, _, _, _] _ [some (.ref p), some (.ref wl), none, none, none, none, none, none, none, none, none, none, none] H
  -- the word, the share
  with_reducible refine' wb_cons ?_
  with_reducible refine' ws_to (fun σ' H' => ∃ x v1 q1, σ' = [some (.ref p), some (.ref wl), some (.str x), some v1, none, none, none, none, none, none, none, none, none] ∧ Ex H H' ∧ x ∈ ws ∧ PrQ q1 v1 H' ∧ SharP q1) ?_ ?_
  · repeat walk_at "w"
    have wl0 : (List.map V.str ws).length = ws.length := List.length_map ..
    refine dr_ok so (by omega) (small_n (le_pow (n := 20) (by omega) (by decide))) ?_
    repeat walk_at "w"
    rename_i d H1 x1 d0 d1
    refine at_all (x1.keep _ _ hw strs_ns) d0 d1 ?_
    intro y hy
    obtain ⟨x, hx, rfl⟩ := List.mem_map.mp hy
    repeat walk_at "w"
    refine ⟨p, rfl, so.mono x1, fun q v H2 x2 hv hq => ?_⟩
    exact ⟨x, v, q, rfl, x1.trans x2, hx, hv, hq⟩
  rintro σ' H1 ⟨x, v1, q1, rfl, y1, hx, hv1, hq1⟩
  have so1 := so.mono y1
  -- the latest
  with_reducible refine' wb_cons ?_
  with_reducible refine' ws_to (fun σ' H' => ∃ o, σ' = [some (.ref p), some (.ref wl), some (.str x), some v1, some (latV o), none, none, none, none, none, none, none, none] ∧ Ex H1 H' ∧ ∀ n, o = some n → 1 ≤ n ∧ n ≤ 20) ?_ ?_
  · repeat walk_at "w"
    rename_i d1 Ha xa d10 d11 d2 Hb xb d20 d21 l Hc nl xc hl d3 Hd xd d30 d31
    refine at_all (xd.keep _ _ hl ns_non) d30 d31 ?_
    have xx := ((xa.trans xb).trans xc).trans xd
    intro y hy
    simp only [List.mem_cons, List.not_mem_nil, or_false] at hy
    rcases hy with rfl | rfl | rfl
    · exact ⟨none, rfl, xx, fun n e => nomatch e⟩
    · exact ⟨some (1 + d1).toNat, by show _ = [_, _, _, _, some (V.int ((1 + d1).toNat : Nat)), _, _, _, _, _, _, _, _]; rw [Int.toNat_of_nonneg (by omega)]; rfl, xx, fun n e => by cases e; omega⟩
    · exact ⟨some (1 + d2).toNat, by show _ = [_, _, _, _, some (V.int ((1 + d2).toNat : Nat)), _, _, _, _, _, _, _, _]; rw [Int.toNat_of_nonneg (by omega)]; rfl, xx, fun n e => by cases e; omega⟩
  rintro σ' H2 ⟨o2, rfl, y2, ho2⟩
  have so2 := so1.mono y2
  -- the factor
  with_reducible refine' wb_cons ?_
  with_reducible refine' ws_to (fun σ' H' => ∃ v3 q3, σ' = [some (.ref p), some (.ref wl), some (.str x), some v1, some (latV o2), some v3, none, none, none, none, none, none, none] ∧ Ex H2 H' ∧ PrQ q3 v3 H' ∧ 1 ≤ q3 ∧ Sz q3 8 ∧ ∃ a b : Int, q3 = Rat.divInt a b ∧ 1 ≤ b ∧ b ≤ 10 ∧ b ≤ a ∧ a ≤ 40) ?_ ?_
  · repeat walk_at "w"
    rename_i t1 Ha xa e1 t2 Hb xb e2 t3 Hc xc e3 t4 Hd xd e4 d He xe d0 d1
    refine ⟨_, _, rfl, by decide, le_pow (n := 20) (by decide) (by decide), fun v Hf xf hv => ?_⟩
    refine lst_i (lenk 5 rfl) fun l Hg nl xg hl => ?_
    repeat walk_at "w"
    rename_i g Hh xh g0 g1
    refine at_all (xh.keep _ _ hl (ns_len (show 5 ≠ 4 by decide))) g0 g1 ?_
    have b4 := (((xe.trans xf).trans xg).trans xh)
    have b3 := xd.trans b4
    have b2 := xc.trans b3
    have b1 := xb.trans b2
    have b0 := xa.trans b1
    intro y hy
    simp only [List.mem_cons, List.not_mem_nil, or_false] at hy
    rcases hy with rfl | rfl | rfl | rfl | rfl
    · exact ⟨_, _, rfl, b0, prq_lit (by decide +kernel) (by decide +kernel) (b1.tup e1), ge1_of (by decide) (by decide), Sz.div (by decide) (by decide) (by decide), _, _, rfl, by decide, by decide, by decide, by decide⟩
    · exact ⟨_, _, rfl, b0, prq_lit (by decide +kernel) (by decide +kernel) (b2.tup e2), ge1_of (by decide) (by decide), Sz.div (by decide) (by decide) (by decide), _, _, rfl, by decide, by decide, by decide, by decide⟩
    · exact ⟨_, _, rfl, b0, prq_lit (by decide +kernel) (by decide +kernel) (b3.tup e3), ge1_of (by decide) (by decide), Sz.div (by decide) (by decide) (by decide), _, _, rfl, by decide, by decide, by decide, by decide⟩
    · exact ⟨_, _, rfl, b0, prq_lit (by decide +kernel) (by decide +kernel) (b4.tup e4), ge1_of (by decide) (by decide), Sz.div (by decide) (by decide) (by decide), _, _, rfl, by decide, by decide, by decide, by decide⟩
    · exact ⟨_, _, rfl, b0, hv.mono (xg.trans xh), ge1_of (by decide) (by omega), Sz.div (by decide) (by omega) (by decide), _, _, rfl, by decide, by decide, by omega, by omega⟩
  rintro σ' H3 ⟨v3, q3, rfl, y3, hv3, hq3, zq3, fq3⟩
  have so3 := so2.mono y3
  -- the margin
  with_reducible refine' wb_cons ?_
  with_reducible refine' ws_to (fun σ' H' => ∃ v4 q4, σ' = [some (.ref p), some (.ref wl), some (.str x), some v1, some (latV o2), some v3, some v4, none, none, none, none, none, none] ∧ Ex H3 H' ∧ PrQ q4 v4 H' ∧ 0 ≤ q4 ∧ Sz q4 8 ∧ ∃ a b : Int, q4 = Rat.divInt a b ∧ 0 ≤ a ∧ a ≤ 29 ∧ 1 ≤ b ∧ b ≤ 9) ?_ ?_
  · repeat walk_at "w"
    rename_i t1 Ha xa e1 t2 Hb xb e2 t3 Hc xc e3 d He xe d0 d1 d' Hd xd d0' d1'
    refine ⟨_, _, rfl, by omega, le_pow (n := 20) (by omega) (by decide), fun v Hf xf hv => ?_⟩
    refine lst_i (lenk 4 rfl) fun l Hg nl xg hl => ?_
    repeat walk_at "w"
    rename_i g Hh xh g0 g1
    refine at_all (xh.keep _ _ hl ns_snd) g0 g1 ?_
    have b3 := ((((xe.trans xd).trans xf).trans xg).trans xh)
    have b2 := xc.trans b3
    have b1 := xb.trans b2
    have b0 := xa.trans b1
    intro y hy
    simp only [List.mem_cons, List.not_mem_nil, or_false] at hy
    rcases hy with rfl | rfl | rfl | rfl
    · exact ⟨_, _, rfl, b0, prq_lit (by decide +kernel) (by decide +kernel) (b1.tup e1), ge0_of (by decide) (by decide), Sz.div (by decide) (by decide) (by decide), _, _, rfl, by decide, by decide, by decide, by decide⟩
    · exact ⟨_, _, rfl, b0, prq_lit (by decide +kernel) (by decide +kernel) (b2.tup e2), ge0_of (by decide) (by decide), Sz.div (by decide) (by decide) (by decide), _, _, rfl, by decide, by decide, by decide, by decide⟩
    · exact ⟨_, _, rfl, b0, prq_lit (by decide +kernel) (by decide +kernel) (b3.tup e3), ge0_of (by decide) (by decide), Sz.div (by decide) (by decide) (by decide), _, _, rfl, by decide, by decide, by decide, by decide⟩
    · exact ⟨_, _, rfl, b0, hv.mono (xg.trans xh), ge0_of (by omega) (by omega), Sz.div (by omega) (by omega) (by omega), _, _, rfl, by omega, by omega, by omega, by omega⟩
  rintro σ' H4 ⟨v4, q4, rfl, y4, hv4, hq4, zq4, fq4⟩
  have so4 := so3.mono y4
  -- the floor
  with_reducible refine' wb_cons ?_
  with_reducible refine' ws_to (fun σ' H' => ∃ v5 o5, σ' = [some (.ref p), some (.ref wl), some (.str x), some v1, some (latV o2), some v3, some v4, some v5, none, none, none, none, none] ∧ Ex H4 H' ∧ OPr o5 v5 H' ∧ ∀ f, o5 = some f → MomP f) ?_ ?_
  · repeat walk_at "w"
    refine ⟨p, rfl, so4, fun q v Ha xa hv hq => ?_⟩
    refine lst_i (lenk 4 rfl) fun l Hb nl xb hl => ?_
    repeat walk_at "w"
    rename_i g Hc xc g0 g1
    refine at_all (xc.keep _ _ hl ns_non) g0 g1 ?_
    have b0 := (xa.trans xb).trans xc
    intro y hy
    simp only [List.mem_cons, List.not_mem_nil, or_false] at hy
    rcases hy with rfl | rfl | rfl | rfl
    · exact ⟨_, none, rfl, b0, rfl, fun f e => nomatch e⟩
    · exact ⟨_, none, rfl, b0, rfl, fun f e => nomatch e⟩
    · exact ⟨_, none, rfl, b0, rfl, fun f e => nomatch e⟩
    · exact ⟨_, some q, rfl, b0, hv.mono (xb.trans xc), fun f e => by cases e; exact hq⟩
  rintro σ' H5 ⟨v5, o5, rfl, y5, hv5, ho5⟩
  have so5 := so4.mono y5
  -- what the roof is
  with_reducible refine' wb_cons ?_
  with_reducible refine' ws_to (fun σ' H' => ∃ v6 q6, σ' = [some (.ref p), some (.ref wl), some (.str x), some v1, some (latV o2), some v3, some v4, some v5, some v6, none, none, none, none] ∧ Ex H5 H' ∧ PrQ q6 v6 H' ∧ 0 < q6 ∧ (∀ f, o5 = some f → f ≤ q6) ∧ Sz q6 20 ∧ ∃ x y, q6 = x + y ∧ MomF x ∧ MomF y) ?_ ?_
  · have m19 := mom_of (a := 1) (b := 9) (by decide) (by decide) (by decide) (by decide)
    cases o5 with
    | none =>
      cases hv5
      repeat walk_at "w"
      rw [decide_eq_true (rfl : V.non = V.non)]
      repeat walk_at "w"
      rename_i t Ha xa ht
      have hv := prq_lit (a := 1) (b := 9) (by decide +kernel) (by decide +kernel) ht
      refine ⟨p, rfl, so5.mono xa, fun q' v' Hb xb hv' hq' => ?_⟩
      refine ⟨_, q', _, v', rfl, hv.mono xb, hv', m19.2.mono (by decide), hq'.2.mono (by decide), fun v2 Hc xc hv2 => ?_⟩
      repeat walk_at "w"
      have p1 := hq'.1
      have p2 := m19.1
      exact ⟨v2, _, rfl, (xa.trans xb).trans xc, hv2, by grind, (fun f e => nomatch e), (m19.2.add hq'.2).mono (by decide), _, _, rfl, m19.fi, hq'.fi⟩
    | some f =>
      have hv5 : PrQ f v5 H5 := hv5
      have nn : v5 ≠ .non := by
        obtain ⟨t, rfl, _⟩ := hv5
        exact fun e => nomatch e
      have hf := ho5 f rfl
      repeat walk_at "w"
      rw [decide_eq_false nn]
      repeat walk_at "w"
      refine ⟨p, rfl, so5, fun q' v' Hb xb hv' hq' => ?_⟩
      refine ⟨f, q', v5, v', rfl, hv5.mono xb, hv', hf.2.mono (by decide), hq'.2.mono (by decide), fun v2 Hc xc hv2 => ?_⟩
      repeat walk_at "w"
      have p1 := hq'.1
      have p2 := hf.1
      exact ⟨v2, _, rfl, xb.trans xc, hv2, by grind, (fun g e => by cases e; grind), (hf.2.add hq'.2).mono (by decide), _, _, rfl, hf.fi, hq'.fi⟩
  rintro σ' H6 ⟨v6, q6, rfl, y6, hv6, q60, hf6, zq6, fq6⟩
  -- the roof
  with_reducible refine' wb_cons ?_
  with_reducible refine' ws_to (fun σ' H' => ∃ v7 o7, σ' = [some (.ref p), some (.ref wl), some (.str x), some v1, some (latV o2), some v3, some v4, some v5, some v6, some v7, none, none, none] ∧ Ex H6 H' ∧ OPr o7 v7 H' ∧ ∀ r, o7 = some r → r = q6) ?_ ?_
  · repeat walk_at "w"
    rename_i l Ha nl xa hl d Hb xb d0 d1
    refine at_all (xb.keep _ _ hl ns_non) d0 d1 ?_
    intro y hy
    simp only [List.mem_cons, List.not_mem_nil, or_false] at hy
    rcases hy with rfl | rfl | rfl | rfl
    · exact ⟨_, none, rfl, xa.trans xb, rfl, fun f e => nomatch e⟩
    · exact ⟨_, none, rfl, xa.trans xb, rfl, fun f e => nomatch e⟩
    · exact ⟨_, none, rfl, xa.trans xb, rfl, fun f e => nomatch e⟩
    · exact ⟨_, some q6, rfl, xa.trans xb, hv6.mono (xa.trans xb), fun f e => by cases e; rfl⟩
  rintro σ' H7 ⟨v7, o7, rfl, y7, hv7, ho7⟩
  -- doubled, kept
  with_reducible refine' wb_cons ?_
  with_reducible refine' ws_to (fun σ' H' => ∃ b, σ' = [some (.ref p), some (.ref wl), some (.str x), some v1, some (latV o2), some v3, some v4, some v5, some v6, some v7, some (.bl b), none, none] ∧ Ex H7 H') ?_ ?_
  · repeat walk_at "w"
    rename_i d Ha xa d0 d1
    exact ⟨_, rfl, xa⟩
  rintro σ' H8 ⟨b, rfl, y8⟩
  with_reducible refine' wb_cons ?_
  with_reducible refine' ws_to (fun σ' H' => ∃ c, σ' = [some (.ref p), some (.ref wl), some (.str x), some v1, some (latV o2), some v3, some v4, some v5, some v6, some v7, some (.bl b), some (.bl c), none] ∧ Ex H8 H' ∧ (c = true → b = true)) ?_ ?_
  · cases b with
    | false =>
      repeat walk_at "w"
      exact ⟨_, rfl, .refl _, fun e => nomatch e⟩
    | true =>
      repeat walk_at "w"
      rename_i d Ha xa d0 d1
      exact ⟨_, rfl, xa, fun _ => rfl⟩
  rintro σ' H9 ⟨c, rfl, y9, hbc⟩
  have y69 := (y7.trans y8).trans y9
  have y59 := y6.trans y69
  have y49 := y5.trans y59
  have y39 := y4.trans y49
  have y29 := y3.trans y39
  have y19 := y2.trans y29
  -- no latest beside a share
  with_reducible refine' wb_cons ?_
  with_reducible refine' ws_to (fun σ' H' => ∃ o, σ' = [some (.ref p), some (.ref wl), some (.str x), some v1, some (latV o), some v3, some v4, some v5, some v6, some v7, some (.bl b), some (.bl c), none] ∧ Ex H9 H' ∧ ∀ n, o = some n → 1 ≤ n ∧ n ≤ 20 ∧ q1 = 1) ?_ ?_
  · repeat walk_at "w"
    rename_i t Ha xa ht
    obtain ⟨t1, rfl, ht1⟩ := hv1.mono (y19.trans xa)
    refine o_neT2 B ht1 ht ?_
    by_cases e : q1 = 1
    · have e2 := ne1_iff.mpr e
      rw [decide_eq_true e2.1, decide_eq_true e2.2]
      refine ⟨false, rfl, iteF (wb_nil ?_)⟩
      exact ⟨o2, rfl, xa, fun n h => ⟨(ho2 n h).1, (ho2 n h).2, e⟩⟩
    · have e2 : (decide (q1.num = 1) && decide ((q1.den : Int) = 1)) = false := by
        rw [Bool.and_eq_false_iff, decide_eq_false_iff_not, decide_eq_false_iff_not]
        exact Classical.not_and_iff_not_or_not.mp fun h => e (ne1_iff.mp h)
      rw [e2]
      repeat walk_at "w"
      exact ⟨none, rfl, xa, fun n h => nomatch h⟩
  rintro σ' Ha ⟨o, rfl, ya, ho⟩
  -- the nine together
  repeat walk_at "w"
  rename_i l1 Hb nl1 xb hl1 l2 Hc nl2 xc hl2
  have ns4 : ¬ Src (.lst [.str x, v1, latV o, v3]) := ns_str
  refine o_catL (xc.keep _ _ hl1 ns4) hl2 (Nat.le_trans (show 4 + 5 ≤ 1000 by decide) (by decide)) fun l3 hl3 => ?_
  have yc := (ya.trans xb).trans xc
  have yd := yc.trans (Ex.new (o := .lst ([.str x, v1, latV o, v3] ++ [v4, v5, v7, .bl b, .bl c])) hl3)
  have y0c := ((y1.trans y19).trans yc)
  refine k ⟨x, q1, o, q3, q4, o5, o7, b, c⟩ l3 v1 v3 v4 v5 v7 _ (y0c.trans (Ex.new hl3)) (y0c.back hl3) upd_same ⟨hv1.mono (y19.trans yd), hv3.mono (y39.trans yd), hv4.mono (y49.trans yd), hv5.mono (y59.trans yd), hv7.mono ((y8.trans y9).trans yd)⟩ ⟨⟨hW x hx, hq1.1, hq1.2.1, ho, hq3, hq4, fun f e => (ho5 f e).1, fun r e => ?_, hbc, hq1.2.2.1.mono (by decide), zq3.mono (by decide), zq4.mono (by decide), fun f e => (ho5 f e).2.mono (by decide), fun r e => ?_⟩, hq1.2.2.1.mono (by decide), zq3.mono (by decide), zq4.mono (by decide), fun f e => (ho5 f e).2.mono (by decide), fun r e => ?_, hq1.2.2.2, fq3, fq4, fun f e => (ho5 f e).fi, fun r e => by rw [ho7 r e]; exact fq6⟩ hx
  · rw [ho7 r e]
    exact ⟨q60, hf6⟩
  · rw [ho7 r e]
    exact zq6.mono (by decide)
  · rw [ho7 r e]
    exact zq6.mono (by decide)
end

/-! ### _law_book -/
section
variable {X : Cx} {σ : L2.St} {H : Hp} {QT : Bool → Hp → Prop} {a b c d : Expr} {pos : Pos}
theorem wt_and4 (h : WT X a σ H fun k H1 => if k = true then WT X b σ H1 fun k2 H2 => if k2 = true then WT X c σ H2 fun k3 H3 => if k3 = true then WT X d σ H3 QT else QT false H3 else QT false H2 else QT false H1) : WT X (.BoolOp .And [a, b, c, d] pos) σ H QT :=
  wtP (PW.pt (pw_and ptS (pw_and ptS (pw_and ptS (pw_and1 ptS))))) h
end
theorem OptT.nn {K : PySem.W.Frag} {o : Option Rat} {v : V} {H : Hp} (h : OptT K o v H) : decide (v = .non) = o.isNone := by
  cases o with
  | none => cases h; rfl
  | some q =>
    obtain ⟨t, dx, rfl, _⟩ := (h : TimeV _ _ _ _)
    rfl
theorem latV_nn (o : Option Nat) : decide (latV o = .non) = o.isNone := by
  cases o <;> rfl
section
variable {P : Program} {w : World} {K : PySem.W.Frag} {mg : Str → Option Value} {base : Heap}
def spLBook (K : PySem.W.Frag) : Sp := fun vs H Q _ => ∃ z l v1 v3 v4 v5 v6, vs = [.ref l] ∧ H l = some (.lst (row9 z v1 v3 v4 v5 v6)) ∧ RuP z v1 v3 v4 v5 v6 H ∧ BkOk z ∧ ∀ a H', Ex H H' → BookV K z (.ref a) H' → Q (.ref a) H'
theorem f__law_book (T : Tm K mg) : GFn P w K mg base 12 "_law_book" (spLBook K) := by
  obtain ⟨fd, F⟩ := T.d__law_book
  refine GFn.mk F T.g__law_book (def_ok F sc__law_book (fun vs H Q E h => by obtain ⟨z, l, v1, v3, v4, v5, v6, rfl, _⟩ := h; rfl) ?_) (F.bindsN fun _ _ _ _ _ _ us hl => match us, hl with | [_], _ => rfl)
  intro X eP ew eK em eb eN es hf nd H vs Q E B h
  subst eP ew eK em eb
  have n0 : Sl X 0 "_law_rules_here" := slot_of eN es hf nd rfl (by first | exact Or.inl rfl | exact Or.inr rfl) (by decide) (by decide)
  have n1 : Sl X 1 "_law_one" := slot_of eN es hf nd rfl (by first | exact Or.inl rfl | exact Or.inr rfl) (by decide) (by decide)
  have n2 : Sl X 2 "_law_two" := slot_of eN es hf nd rfl (by first | exact Or.inl rfl | exact Or.inr rfl) (by decide) (by decide)
  have n3 : Sl X 3 "_law_three" := slot_of eN es hf nd rfl (by first | exact Or.inl rfl | exact Or.inr rfl) (by decide) (by decide)
  have n4 : Sl X 4 "_law_low" := slot_of eN es hf nd rfl (by first | exact Or.inl rfl | exact Or.inr rfl) (by decide) (by decide)
  have n5 : Sl X 5 "_law_high" := slot_of eN es hf nd rfl (by first | exact Or.inl rfl | exact Or.inr rfl) (by decide) (by decide)
  have g__law_time : Gn X "_law_time" := gn_of es rfl (by decide)
  have F__law_time := f__law_time (P := X.prog) (w := X.w) (base := X.base) T
  have g_Book : Gn X "Book" := gn_of es rfl (by decide)
  have m_Book := T.g_Book
  have kb : X.env.blockKind = .function := blk_of es rfl
  have k__law_low : X.env.kindOf "_law_low" = some .local := kd_of es rfl
  have k__law_high : X.env.kindOf "_law_high" = some .local := kd_of es rfl
  obtain ⟨z, l, v1, v3, v4, v5, v6, rfl, hl, hr, ok, k⟩ := h
  show WB X [_, _, _, _, _, _] _ [some (.ref l), none, none, none, none, none] H
  have kl : ∀ {G : Hp}, Ex H G → G l = some (.lst (row9 z v1 v3 v4 v5 v6)) := fun x => x.keep _ _ hl ns9
  have up : ∀ {q : Rat}, Sz q 1000 → Sz q 8000 := fun h => h.mono (by decide)
  repeat walk_at "w"
  refine ⟨some z.share, v1, rfl, hr.sh, fun q e => by cases e; exact up ok.z1, fun y1 H1 x1 h1 => ?_⟩
  repeat walk_at "w"
  refine at_l (kl x1) rfl ?_
  refine ⟨some z.factor, v3, rfl, hr.fa.mono x1, fun q e => by cases e; exact up ok.z2, fun y2 H2 x2 h2 => ?_⟩
  repeat walk_at "w"
  have x12 := x1.trans x2
  refine at_l (kl x12) rfl ?_
  refine ⟨some z.margin, v4, rfl, hr.ma.mono x12, fun q e => by cases e; exact up ok.z3, fun y3 H3 x3 h3 => ?_⟩
  repeat walk_at "w"
  have x13 := x12.trans x3
  refine at_l (kl x13) rfl ?_
  refine ⟨z.floor, v5, rfl, hr.fl.mono x13, fun q e => up (ok.z4 q e), fun y4 H4 x4 h4 => ?_⟩
  repeat walk_at "w"
  have x14 := x13.trans x4
  refine at_l (kl x14) rfl ?_
  refine ⟨z.roof, v6, rfl, hr.ro.mono x14, fun q e => up (ok.z5 q e), fun y5 H5 x5 h5 => ?_⟩
  have x15 := x14.trans x5
  have kp : Kept X.K z y1 y2 y3 y4 y5 H5 := ⟨TimeV.mono (((x2.trans x3).trans x4).trans x5) h1, TimeV.mono ((x3.trans x4).trans x5) h2, TimeV.mono (x4.trans x5) h3, h4.mono x5, h5⟩
  clear h1 h2 h3 h4 h5
  with_reducible refine' wb_cons ?_
  with_reducible refine' ws_if ?_
  with_reducible refine' wt_to (fun r H' => H' = H5 ∧ (r = true → z.latest = none ∧ z.floor = none ∧ z.roof = none ∧ z.doubled = false)) ?_ ?_
  · have hf := kp.fl.nn
    have hr2 := kp.ro.nn
    have hlt := latV_nn z.latest
    refine wt_and4 ?_
    repeat walk_at "w"
    refine at_l (kl x15) rfl ?_
    repeat walk_at "w"
    rw [hlt]
    cases e1 : z.latest with
    | some n =>
      rw [show (some n).isNone = false from rfl]
      repeat walk_at "w"
      exact ⟨rfl, fun q => nomatch q⟩
    | none =>
      rw [show (none : Option Nat).isNone = true from rfl]
      repeat walk_at "w"
      rw [hf]
      cases e2 : z.floor with
      | some n =>
        rw [show (some n).isNone = false from rfl]
        repeat walk_at "w"
        exact ⟨rfl, fun q => nomatch q⟩
      | none =>
        rw [show (none : Option Rat).isNone = true from rfl]
        repeat walk_at "w"
        rw [hr2]
        cases e3 : z.roof with
        | some n =>
          rw [show (some n).isNone = false from rfl]
          repeat walk_at "w"
          exact ⟨rfl, fun q => nomatch q⟩
        | none =>
          rw [show (none : Option Rat).isNone = true from rfl]
          repeat walk_at "w"
          refine at_l (kl x15) rfl ?_
          repeat walk_at "w"
          have nb : ∀ b : Bool, (!b) = true → b = false := by decide
          exact ⟨rfl, fun q => ⟨rfl, rfl, rfl, nb _ q⟩⟩
  rintro r H' ⟨rfl, hc⟩
  cases r with
  | true =>
    obtain ⟨e1, e2, e3, e4⟩ := hc rfl
    have e5 : z.kept = false := by
      cases q : z.kept with
      | false => rfl
      | true =>
        have := ok.ke q
        rw [e4] at this
        cases this
    refine iteT ?_
    with_reducible refine' wb_one ?_
    with_reducible refine' ws_ret ?_
    refine we_makeK0 B g_Book (k_Book4 T) (by decide) ?_
    refine wk_cons ?_
    repeat walk_at "w"
    refine wk_cons ?_
    repeat walk_at "w"
    refine at_l (kl x15) rfl ?_
    refine wk_cons ?_
    repeat walk_at "w"
    refine wk_cons ?_
    repeat walk_at "w"
    refine wk_nil ⟨rfl, ?_⟩
    have hfl := kp.fl
    have hro := kp.ro
    rw [e2] at hfl
    rw [e3] at hro
    cases hfl
    cases hro
    have er : ∀ a : Addr, ord4 [V.ref a] [.non, .non, .non, .bl false, .bl false] [y1, .str z.word, y3, y2] = .ref a :: row9 z y1 y2 y3 .non .non := fun a => by
      show [V.ref a, .str z.word, y1, .non, y2, y3, .non, .non, .bl false, .bl false] = _
      rw [show row9 z y1 y2 y3 .non .non = [.str z.word, y1, latV z.latest, y2, y3, .non, .non, .bl z.doubled, .bl z.kept] from rfl, e1, e4, e5]
      rfl
    intro a dx na nd ne
    show spBInit _ (ord4 [V.ref a] [.non, .non, .non, .bl false, .bl false] [y1, .str z.word, y3, y2]) _ _ _
    rw [er]
    exact made_b kp.raw ok (fun a H' x hb => k a H' (x15.trans x) hb) a dx na nd ne
  | false =>
    refine iteF ?_
    with_reducible refine' wb_nil ?_
    with_reducible refine' wb_one ?_
    with_reducible refine' ws_ret ?_
    refine we_makeK0 B g_Book (k_Book9 T) (by decide) ?_
    refine wk_cons ?_
    repeat walk_at "w"
    refine at_l (kl x15) rfl ?_
    refine wk_cons ?_
    repeat walk_at "w"
    refine wk_cons ?_
    repeat walk_at "w"
    refine at_l (kl x15) rfl ?_
    refine wk_cons ?_
    repeat walk_at "w"
    refine wk_cons ?_
    repeat walk_at "w"
    refine wk_cons ?_
    repeat walk_at "w"
    refine wk_cons ?_
    repeat walk_at "w"
    refine wk_cons ?_
    repeat walk_at "w"
    refine at_l (kl x15) rfl ?_
    refine wk_cons ?_
    repeat walk_at "w"
    refine at_l (kl x15) rfl ?_
    refine wk_nil ⟨rfl, ?_⟩
    exact made_b kp.raw ok (fun a H' x hb => k a H' (x15.trans x) hb)
def spLWait : Sp := fun vs H Q _ => ∃ z l v1 v3 v4 v5 v6 q v, vs = [.ref l, v] ∧ H l = some (.lst (row9 z v1 v3 v4 v5 v6)) ∧ RuP z v1 v3 v4 v5 v6 H ∧ BkOk z ∧ PrQ q v H ∧ Sz q 1000 ∧ RetP H (madeW z q) Q
theorem f__law_wait (T : Tm K mg) : GFn P w K mg base 4 "_law_wait" spLWait := by
  obtain ⟨fd, F⟩ := T.d__law_wait
  refine GFn.mk F T.g__law_wait (def_ok F sc__law_wait (fun vs H Q E h => by obtain ⟨z, l, v1, v3, v4, v5, v6, q, v, rfl, _⟩ := h; rfl) ?_) (F.bindsN fun _ _ _ _ _ _ us hl => match us, hl with | [_, _], _ => rfl)
  intro X eP ew eK em eb eN es hf nd H vs Q E B h
  subst eP ew eK em eb
  have n0 : Sl X 0 "_law_rules_here" := slot_of eN es hf nd rfl (by first | exact Or.inl rfl | exact Or.inr rfl) (by decide) (by decide)
  have n1 : Sl X 1 "_law_estimate_here" := slot_of eN es hf nd rfl (by first | exact Or.inl rfl | exact Or.inr rfl) (by decide) (by decide)
  have n2 : Sl X 2 "_law_wait_here" := slot_of eN es hf nd rfl (by first | exact Or.inl rfl | exact Or.inr rfl) (by decide) (by decide)
  have g__law_sum : Gn X "_law_sum" := gn_of es rfl (by decide)
  have F__law_sum := f__law_sum (P := X.prog) (w := X.w) (base := X.base) T
  have g__law_by : Gn X "_law_by" := gn_of es rfl (by decide)
  have F__law_by := f__law_by (P := X.prog) (w := X.w) (base := X.base) T
  have g__law_most : Gn X "_law_most" := gn_of es rfl (by decide)
  have F__law_most := f__law_most (P := X.prog) (w := X.w) (base := X.base) T
  have g__law_least : Gn X "_law_least" := gn_of es rfl (by decide)
  have F__law_least := f__law_least (P := X.prog) (w := X.w) (base := X.base) T
  obtain ⟨z, l, v1, v3, v4, v5, v6, q, v, rfl, hl, hr, sm, hv, hq, k⟩ := h
  show WB X [_, _, _, _] _ [some (.ref l), some (v), none] H
  have kl : ∀ {G : Hp}, Ex H G → G l = some (.lst (row9 z v1 v3 v4 v5 v6)) := fun x => x.keep _ _ hl ns9
  have zw := (sm.z2.mul hq).add sm.z3
  have zw4 : Sz (z.factor * q + z.margin) 4000 := zw.mono (by decide)
  with_reducible refine' wb_cons ?_
  with_reducible refine' ws_to (fun σ' H' => ∃ y, σ' = [some (.ref l), some v, some y] ∧ Ex H H' ∧ PrQ (z.factor * q + z.margin) y H') ?_ ?_
  · repeat walk_at "w"
    refine ⟨_, _, _, _, rfl, hr.fa, hv, sm.z2.mono (by decide), hq.mono (by decide), fun y1 H1 x1 h1 => ?_⟩
    repeat walk_at "w"
    refine at_l (kl x1) rfl ?_
    refine ⟨_, _, _, _, rfl, h1, hr.ma.mono x1, (sm.z2.mul hq).mono (by decide), sm.z3.mono (by decide), fun y2 H2 x2 h2 => ?_⟩
    repeat walk_at "w"
    exact ⟨_, rfl, x1.trans x2, h2⟩
  rintro σ' H1 ⟨y, rfl, x1, hy⟩
  have zl : Sz (lowW z.floor (z.factor * q + z.margin)) 4000 := by
    unfold lowW
    have h4 := sm.z4
    generalize z.floor = o at h4 ⊢
    cases o with
    | none => exact zw4
    | some f => exact sz_rmax zw4 ((h4 f rfl).mono (by decide))
  with_reducible refine' wb_cons ?_
  with_reducible refine' ws_to (fun σ' H' => ∃ y, σ' = [some (.ref l), some v, some y] ∧ H' = H1 ∧ PrQ (lowW z.floor (z.factor * q + z.margin)) y H') ?_ ?_
  · have hfl := hr.fl.mono x1
    have h4 := sm.z4
    repeat walk_at "w"
    refine at_l (kl x1) rfl ?_
    repeat walk_at "w"
    cases eo : z.floor with
    | none =>
      rw [eo] at hfl
      cases hfl
      rw [decide_eq_true (rfl : V.non = V.non)]
      repeat walk_at "w"
      exact ⟨_, rfl, rfl, hy⟩
    | some f =>
      rw [eo] at hfl
      have hfl : PrQ f v5 H1 := hfl
      have nn : v5 ≠ .non := by
        obtain ⟨t, rfl, _⟩ := hfl
        exact fun e => nomatch e
      rw [decide_eq_false nn]
      repeat walk_at "w"
      refine at_l (kl x1) rfl ?_
      refine ⟨_, _, _, _, rfl, hy, hfl, zw4, (h4 f eo).mono (by decide), fun y2 h2 => ?_⟩
      repeat walk_at "w"
      exact ⟨_, rfl, rfl, h2⟩
  rintro σ' H2 ⟨y2, rfl, rfl, hy2⟩
  with_reducible refine' wb_cons ?_
  with_reducible refine' ws_to (fun σ' H' => ∃ y, σ' = [some (.ref l), some v, some y] ∧ H' = H2 ∧ PrQ (madeW z q) y H') ?_ ?_
  · have hfl := hr.ro.mono x1
    have h5 := sm.z5
    unfold madeW
    repeat walk_at "w"
    refine at_l (kl x1) rfl ?_
    repeat walk_at "w"
    cases eo : z.roof with
    | none =>
      rw [eo] at hfl
      cases hfl
      rw [decide_eq_true (rfl : V.non = V.non)]
      repeat walk_at "w"
      exact ⟨_, rfl, rfl, hy2⟩
    | some f =>
      rw [eo] at hfl
      have hfl : PrQ f v6 H2 := hfl
      have nn : v6 ≠ .non := by
        obtain ⟨t, rfl, _⟩ := hfl
        exact fun e => nomatch e
      rw [decide_eq_false nn]
      repeat walk_at "w"
      refine at_l (kl x1) rfl ?_
      refine ⟨_, _, _, _, rfl, hy2, hfl, zl, (h5 f eo).mono (by decide), fun y2 h2 => ?_⟩
      repeat walk_at "w"
      exact ⟨_, rfl, rfl, h2⟩
  rintro σ' H3 ⟨y3, rfl, rfl, hy3⟩
  repeat walk_at "w"
  exact k _ _ x1 hy3
end

--IMPORT Mt13
/-! ### steady worlds: check_times, check_count, waits_until, mark, resent -/
section
variable {P : Program} {w : World} {K : PySem.W.Frag} {mg : Str → Option Value} {base : Heap}
/-- times above 0 -/
def PosT (K : PySem.W.Frag) (v : V) (H : Hp) : Prop := ∃ q, Tim K q v H ∧ 0 < q ∧ Sz q 4000
theorem PosT.mono {v : V} {H H' : Hp} (x : Ex H H') (h : PosT K v H) : PosT K v H' := h.elim fun q h => ⟨q, h.1.mono x, h.2⟩
def spChT (K : PySem.W.Frag) : Sp := fun vs H Q _ => ∃ p ys, vs = [.ref p] ∧ H p = some (.tup ys) ∧ (∀ v ∈ ys, PosT K v H) ∧ ∀ H', Ex H H' → Q .non H'
def spCheckT (K : PySem.W.Frag) : Sp := fun vs H Q _ => vs.length ≤ 100 ∧ (∀ v ∈ vs, PosT K v H) ∧ ∀ H', Ex H H' → Q .non H'
theorem b_check_times (T : Tm K mg) : ∀ (X : Cx), X.prog = P → X.w = w → X.K = K → X.mg = mg → X.base = base → X.N = ([("things" : Str), "thing"] : List Str) → X.env.scope = defScope s_check_times → (∀ x, X.fn x = true) → ([("things" : Str), "thing"] : List Str).Nodup → ∀ (H : Hp) (vs : List V) (Q : VK) (E : XK), Body X 7 (fun _ => E) → spChT K vs H Q E →
    WB X (defBody s_check_times) { nx := fun _ H' => Q .non H', rt := Q } (L2.start ([("things" : Str), "thing"] : List Str) vs) H := by
  intro X eP ew eK em eb eN es hf nd H vs Q E B h
  subst eP ew eK em eb
  have n0 : Sl X 0 "things" := slot_of eN es hf nd rfl (by first | exact Or.inl rfl | exact Or.inr rfl) (by decide) (by decide)
  have n1 : Sl X 1 "thing" := slot_of eN es hf nd rfl (by first | exact Or.inl rfl | exact Or.inr rfl) (by decide) (by decide)
  have g_is_positive : Gn X "is_positive" := gn_of es rfl (by decide)
  have F_is_positive := f_is_positive (P := X.prog) (w := X.w) (base := X.base) T
  have g_NoTime : Gn X "NoTime" := gn_of es rfl (by decide)
  have m_NoTime := T.g_NoTime
  obtain ⟨p, ys, rfl, hp, hy, k⟩ := h
  show WB X [_] _ [some (.ref p), none] H
  refine wb_one (ws_for_tupE B n1 ?_)
  repeat walk_at "w"
  refine ⟨p, ys, rfl, fun _ σ H' => (∃ c, σ = [some (.ref p), c]) ∧ Ex H H', ⟨⟨_, rfl⟩, .refl _⟩, fun _ _ H' _ h => .of (h.2.tup hp), ?_, fun σ H' h => k _ h.2⟩
  rintro j v σ H' hv ⟨⟨c, rfl⟩, x⟩
  obtain ⟨q, h1, h2, h3⟩ := (hy v (List.mem_of_getElem? hv)).mono x
  repeat walk_at "w"
  refine ⟨q, v, rfl, h1, h3, fun H2 x2 => ?_⟩
  rw [decide_eq_true h2]
  repeat walk_at "w"
  exact ⟨⟨_, rfl⟩, x.trans x2⟩
theorem f_check_times (T : Tm K mg) : GFn P w K mg base 8 "check_times" (spCheckT K) := by
  obtain ⟨fd, F⟩ := T.d_check_times
  refine ⟨_, T.g_check_times, F.kp, FnR.imp (def_starP (k := 7) (ps := []) (pv := "things") (sp := spChT K) F sc_check_times ?_ (b_check_times T)) fun vs H Q E h => ?_⟩
  · intro kV doc pm an cdv ct us rest l
    match us, l with
    | [], _ =>
      cases rest with
      | nil => rfl
      | cons r rs => rfl
  · obtain ⟨l, h, k⟩ := h
    refine ⟨[], vs, rfl, rfl, Nat.le_trans l (by decide), fun p hp => ?_⟩
    have x := Ex.new (o := .tup vs) hp
    exact ⟨p, vs, rfl, upd_same, fun v hv => (h v hv).mono x, fun H' x2 => k _ (x.trans x2)⟩
def spWaits : Sp := fun vs H Q _ => ∃ n : Nat, ∃ b, vs = [.int n, .bl b] ∧ n ≤ 20000 ∧ Q (.int (Mt.mk b n)) H
theorem f_waits_until (T : Tm K mg) : GFn P w K mg base 1 "waits_until" spWaits := by
  obtain ⟨fd, F⟩ := T.d_waits_until
  refine GFn.mk F T.g_waits_until (def_ok F sc_waits_until (fun vs H Q E h => by obtain ⟨n, b, rfl, _⟩ := h; rfl) ?_) (F.bindsN fun _ _ _ _ _ _ us hl => match us, hl with | [_, _], _ => rfl)
  intro X eP ew eK em eb eN es hf nd H vs Q E B h
  subst eP ew eK em eb
  have n0 : Sl X 0 "count" := slot_of eN es hf nd rfl (by first | exact Or.inl rfl | exact Or.inr rfl) (by decide) (by decide)
  have n1 : Sl X 1 "doubled" := slot_of eN es hf nd rfl (by first | exact Or.inl rfl | exact Or.inr rfl) (by decide) (by decide)
  obtain ⟨n, b, rfl, hn, k⟩ := h
  show WB X [_] _ [some (.int n), some (.bl b)] H
  cases b with
  | true =>
    repeat walk_at "w"
    refine o_oneShl (by omega) ?_
    repeat walk_at "w"
    exact k
  | false =>
    repeat walk_at "w"
    exact k
def ord1 {α : Type} (us _mv ws : List α) : List α := us ++ ws
/-- the needless sendings of a steady round -/
def spResent (K : PySem.W.Frag) : Sp := fun vs H Q _ => ∃ u d v y b, vs = [v, y, .bl b] ∧ Tim K u v H ∧ Tim K d y H ∧ 0 < u ∧ 0 < d ∧ Sz u 1000 ∧ Sz d 1000 ∧ ∀ H', Ex H H' → Q (.int ((Mt.snd b (Mt.cei d u) : Nat) - 1 : Int)) H'
theorem ok_resent (T : Tm K mg) {fd : FuncData} (F : FunD K "resent" "resent" (defArgs s_resent) (defBody s_resent) (defScope s_resent) [] [("doubled", .bl false)] (ga K "resent") fd) : FnOk P w K mg base (RX P w) 9 (ga K "resent") fd ["wait", "delay", "doubled"] (spResent K) := by
  refine def_ok F sc_resent (fun vs H Q E h => by obtain ⟨u, d, v, y, b, rfl, _⟩ := h; rfl) ?_
  intro X eP ew eK em eb eN es hf nd H vs Q E B h
  subst eP ew eK em eb
  have n0 : Sl X 0 "wait" := slot_of eN es hf nd rfl (by first | exact Or.inl rfl | exact Or.inr rfl) (by decide) (by decide)
  have n1 : Sl X 1 "delay" := slot_of eN es hf nd rfl (by first | exact Or.inl rfl | exact Or.inr rfl) (by decide) (by decide)
  have n2 : Sl X 2 "doubled" := slot_of eN es hf nd rfl (by first | exact Or.inl rfl | exact Or.inr rfl) (by decide) (by decide)
  have n3 : Sl X 3 "plain" := slot_of eN es hf nd rfl (by first | exact Or.inl rfl | exact Or.inr rfl) (by decide) (by decide)
  have g_check_times : Gn X "check_times" := gn_of es rfl (by decide)
  have F_check_times := f_check_times (P := X.prog) (w := X.w) (base := X.base) T
  have g_time_of : Gn X "time_of" := gn_of es rfl (by decide)
  have F_time_of := f_time_of (P := X.prog) (w := X.w) (base := X.base) T
  obtain ⟨u, d, v, y, b, rfl, hv, hy, u0, d0, zu, zd, k⟩ := h
  show WB X [_, _, _] _ [some (v), some (y), some (.bl b), none] H
  with_reducible refine' wb_cons ?_
  with_reducible refine' ws_to (fun σ' H' => σ' = [some v, some y, some (.bl b), none] ∧ Ex H H') ?_ ?_
  · with_reducible refine' ws_expr ?_ ?hs
    case hs => rfl
    repeat walk_at "w"
    refine ⟨(show 2 ≤ 100 by decide), fun t ht => ?_, fun H1 x1 => ?_⟩
    · simp only [List.mem_cons, List.not_mem_nil, or_false] at ht
      rcases ht with rfl | rfl
      · exact ⟨u, hv, u0, zu.mono (by decide)⟩
      · exact ⟨d, hy, d0, zd.mono (by decide)⟩
    · repeat walk_at "w"
      exact ⟨rfl, x1⟩
  rintro σ' H1 ⟨rfl, x1⟩
  show WB X _ _ _ _
  have z0 : Sz ((0 : Int) : Rat) 4000 := (Sz.int (n := 2) (by decide) (by decide)).mono (by decide)
  with_reducible refine' wb_cons ?_
  with_reducible refine' ws_to (fun σ' H' => σ' = [some v, some y, some (.bl b), some (.int (Mt.cei d u - 1))] ∧ Ex H H') ?_ ?_
  · repeat walk_at "w"
    refine to_tim (hy.mono x1) fun t H2 x2 ht => ?_
    repeat walk_at "w"
    have z02 : Sz ((0 : Int) : Rat) 2 := Sz.int (n := 2) (by decide) (by decide)
    refine o_subI B T (by decide) ht (zd.mono (by decide)) z0 fun r H3 x3 hr => ?_
    repeat walk_at "w"
    refine o_floorT B T (by decide) hr (hv.mono ((x1.trans x2).trans x3)) ((z02.sub zd).mono (by decide)) (zu.mono (by decide)) (Int.ne_of_gt (Mt.num_pos0 u0)) fun H4 x4 => ?_
    repeat walk_at "w"
    exact ⟨rfl, ((x1.trans x2).trans x3).trans x4⟩
  rintro σ' H2 ⟨rfl, x2⟩
  show WB X _ _ _ _
  have c1 := Mt.cei_pos u0 d0
  have k := k _ x2
  cases b with
  | true =>
    repeat walk_at "w"
    refine we_bits ?_
    repeat walk_at "w"
    rw [Int.sub_add_cancel]
    exact k
  | false =>
    repeat walk_at "w"
    have e : ((Mt.snd false (Mt.cei d u) : Nat) : Int) = Mt.cei d u := by
      show (((Mt.cei d u).toNat : Nat) : Int) = _
      omega
    rw [e] at k
    exact k
theorem k_resent (T : Tm K mg) : GKn P w K mg base 9 "resent" (spResent K) 2 ["doubled"] (fun vs zs => vs ++ zs) := by
  obtain ⟨fd, F⟩ := T.d_resent
  obtain ⟨mv, hb⟩ := F.kbinds0 (ps := ["wait", "delay", "doubled"]) 2 ["doubled"] [] ord1 (List.cons_ne_nil _ _) (fun q h => nomatch h) (fun r1 _ r3 => r1.append r3) (by
    intro D doc pm an cdv ct us mv ws l1 l2 l3
    match us, ws, l1, l3 with
    | [a, b], [c], _, _ => rfl)
  exact ⟨_, fd, _, _, T.g_resent, F.kp, ok_resent T F, hb⟩
end
section
variable {P : Program} {w : World} {K : PySem.W.Frag} {mg : Str → Option Value} {base : Heap}
theorem f_resent (T : Tm K mg) : GKn P w K mg base 9 "resent" (spResent K) 2 ["doubled"] (fun vs zs => vs ++ zs) := k_resent T
end

/-! ### check_times, check_count that refuse -/
--IMPORT Mt13
section
variable {P : Program} {w : World} {K : PySem.W.Frag} {mg : Str → Option Value} {base : Heap}
def spIsPosX (K : PySem.W.Frag) : Sp := fun vs H Q _ => ∃ v, vs = [v] ∧ WBad K v H ∧ Bl H false Q
theorem f_is_positiveX (T : Tm K mg) : GFn P w K mg base 6 "is_positive" (spIsPosX K) := by
  obtain ⟨fd, F⟩ := T.d_is_positive
  refine GFn.mk F T.g_is_positive (def_ok F sc_is_positive (fun vs H Q E h => by obtain ⟨v, rfl, _⟩ := h; rfl) ?_) (F.bindsN fun _ _ _ _ _ _ us hl => match us, hl with | [_], _ => rfl)
  intro X eP ew eK em eb eN es hf nd H vs Q E B h
  subst eP ew eK em eb
  have n0 : Sl X 0 "thing" := slot_of eN es hf nd rfl (by first | exact Or.inl rfl | exact Or.inr rfl) (by decide) (by decide)
  have g_is_time : Gn X "is_time" := gn_of es rfl (by decide)
  have F_is_time := f_is_time (P := X.prog) (w := X.w) (base := X.base) T
  have g_time_of : Gn X "time_of" := gn_of es rfl (by decide)
  have F_time_of := f_time_of (P := X.prog) (w := X.w) (base := X.base) T
  obtain ⟨v, rfl, hv, z⟩ := h
  show WB X [_] _ [some (v)] H
  have z0 := z0s
  rcases hv.kind with hg | ⟨q, hq, q0, zq⟩
  · repeat walk_at "w"
    refine it_no T hg ?_
    repeat walk_at "w"
    exact z _ (.refl _)
  · repeat walk_at "w"
    refine it_tim T hq ?_
    repeat walk_at "w"
    refine to_tim hq fun y H1 x1 hy => ?_
    repeat walk_at "w"
    rw [decide_eq_false (show ¬ ((0 : Int) : Rat) < q from Rat.not_lt.mpr q0)]
    exact z _ (by walk_at "x")
/-- good times, then one that is none -/
def Firsts (K : PySem.W.Frag) (ys : List V) (n : Nat) (H : Hp) : Prop := (∀ j v, j < n → ys[j]? = some v → PosT K v H) ∧ ∃ v, ys[n]? = some v ∧ WBad K v H
theorem Firsts.mono {ys : List V} {n : Nat} {H H' : Hp} (x : Ex H H') (h : Firsts K ys n H) : Firsts K ys n H' := ⟨fun j v l e => (h.1 j v l e).mono x, h.2.elim fun v h => ⟨v, h.1, h.2.mono x⟩⟩
def spChTX (K : PySem.W.Frag) : Sp := fun vs H _ E => ∃ p ys n, vs = [.ref p] ∧ H p = some (.tup ys) ∧ Firsts K ys n H ∧ ∀ H', Ex H H' → E (.ref (ga K "NoTime")) none H'
def spCheckTX (K : PySem.W.Frag) : Sp := fun vs H _ E => vs.length ≤ 100 ∧ (∃ n, Firsts K vs n H) ∧ ∀ H', Ex H H' → E (.ref (ga K "NoTime")) none H'
theorem b_check_timesX (T : Tm K mg) : ∀ (X : Cx), X.prog = P → X.w = w → X.K = K → X.mg = mg → X.base = base → X.N = ([("things" : Str), "thing"] : List Str) → X.env.scope = defScope s_check_times → (∀ x, X.fn x = true) → ([("things" : Str), "thing"] : List Str).Nodup → ∀ (H : Hp) (vs : List V) (Q : VK) (E : XK), Body X 7 (fun _ => E) → spChTX K vs H Q E →
    WB X (defBody s_check_times) { nx := fun _ H' => Q .non H', rt := Q } (L2.start ([("things" : Str), "thing"] : List Str) vs) H := by
  intro X eP ew eK em eb eN es hf nd H vs Q E B h
  subst eP ew eK em eb
  have n0 : Sl X 0 "things" := slot_of eN es hf nd rfl (by first | exact Or.inl rfl | exact Or.inr rfl) (by decide) (by decide)
  have n1 : Sl X 1 "thing" := slot_of eN es hf nd rfl (by first | exact Or.inl rfl | exact Or.inr rfl) (by decide) (by decide)
  have g_is_positive : Gn X "is_positive" := gn_of es rfl (by decide)
  have F_is_positive := f_is_positive (P := X.prog) (w := X.w) (base := X.base) T
  have g_NoTime : Gn X "NoTime" := gn_of es rfl (by decide)
  have m_NoTime := T.g_NoTime
  obtain ⟨p, ys, n, rfl, hp, hy, k⟩ := h
  show WB X [_] _ [some (.ref p), none] H
  refine wb_one (ws_for_tupE B n1 ?_)
  repeat walk_at "w"
  refine ⟨p, ys, rfl, fun j σ H' => (∃ c, σ = [some (.ref p), c]) ∧ Ex H H' ∧ j ≤ n, ⟨⟨_, rfl⟩, .refl _, Nat.zero_le _⟩, fun _ _ H' _ h => .of (h.2.1.tup hp), ?_, fun σ H' h => ?_⟩
  · rintro j v σ H' hv ⟨⟨c, rfl⟩, x, jn⟩
    have hy := hy.mono x
    by_cases l : j < n
    · obtain ⟨q, h1, h2, h3⟩ := hy.1 j v l hv
      repeat walk_at "w"
      refine ⟨q, v, rfl, h1, h3, fun H2 x2 => ?_⟩
      rw [decide_eq_true h2]
      repeat walk_at "w"
      exact ⟨⟨_, rfl⟩, x.trans x2, l⟩
    · obtain rfl : j = n := by omega
      obtain ⟨u, e, hb⟩ := hy.2
      rw [hv] at e
      cases e
      clear F_is_positive
      have FX := f_is_positiveX (P := X.prog) (w := X.w) (base := X.base) T
      repeat walk_at "w"
      refine ⟨v, rfl, hb, fun H2 x2 => ?_⟩
      repeat walk_at "w"
      exact ws_raise B g_NoTime m_NoTime T.x_NoTime (k _ (x.trans x2))
  · obtain ⟨u, e, _⟩ := hy.2
    have := (List.getElem?_eq_some_iff.mp e).1
    have := h.2.2
    omega
theorem f_check_timesX (T : Tm K mg) : GFn P w K mg base 8 "check_times" (spCheckTX K) := by
  obtain ⟨fd, F⟩ := T.d_check_times
  refine ⟨_, T.g_check_times, F.kp, FnR.imp (def_starP (k := 7) (ps := []) (pv := "things") (sp := spChTX K) F sc_check_times ?_ (b_check_timesX T)) fun vs H Q E h => ?_⟩
  · intro kV doc pm an cdv ct us rest l
    match us, l with
    | [], _ =>
      cases rest with
      | nil => rfl
      | cons r rs => rfl
  · obtain ⟨l, ⟨n, h⟩, k⟩ := h
    refine ⟨[], vs, rfl, rfl, Nat.le_trans l (by decide), fun p hp => ?_⟩
    have x := Ex.new (o := .tup vs) hp
    exact ⟨p, vs, n, rfl, upd_same, h.mono x, fun H' x2 => k _ (x.trans x2)⟩
/-- a value that is no count up to m -/
def BadC (K : PySem.W.Frag) (m : Int) (v : V) (H : Hp) : Prop := (∃ n : Int, v = .int n ∧ (n < 0 ∨ m < n)) ∨ v = .non ∨ (∃ b, v = .bl b) ∨ (∃ z, v = .str z) ∨ ∃ q, TimeV (CT K) q v H
theorem BadC.mono {m : Int} {v : V} {H H' : Hp} (x : Ex H H') (h : BadC K m v H) : BadC K m v H' := by
  rcases h with h | h | h | h | ⟨q, h⟩
  · exact .inl h
  · exact .inr (.inl h)
  · exact .inr (.inr (.inl h))
  · exact .inr (.inr (.inr (.inl h)))
  · exact .inr (.inr (.inr (.inr ⟨q, TimeV.mono x h⟩)))
/-- a def with doubled alone behind a *, called without it -/
theorem GFn.mk0 {x qual : Str} {pa : Arguments} {body : List Stmt} {sc : Scope} {f : Addr} {fd : FuncData} {k : Nat} {sp : Sp} {ps : List Str} (F : FunD K x qual pa body sc [] [("doubled", .bl false)] f fd) (hm : mg x = some (.ref f)) (ok : FnOk P w K mg base (RX P w) k f fd ps sp)
    (hb : ∃ ds, Vals ([("doubled", V.bl false)].map (·.2)) ds ∧ Binds K fd ps ds) : GFn P w K mg base k x fun vs H Q E => sp (vs ++ [.bl false]) H Q E := by
  obtain ⟨ds, r, hb⟩ := hb
  exact ⟨f, hm, F.kp, FnOk.raw ok hb r⟩
theorem f_resent0 (T : Tm K mg) : GFn P w K mg base 9 "resent" (fun vs H Q E => spResent K (vs ++ [.bl false]) H Q E) := by
  obtain ⟨fd, F⟩ := T.d_resent
  exact GFn.mk0 F T.g_resent (ok_resent T F) (F.binds0 2 (List.cons_ne_nil _ _) rfl (by
    intro D doc pm an cdv ct us ks l1 l2
    match us, ks, l1, l2 with
    | [a, b], [c], _, _ => exact ⟨_, _, _, _, _, _, rfl, rfl, rfl⟩))
/-- mark refuses -/
def spMarkX (K : PySem.W.Frag) : Sp := fun vs H _ E => ∃ v c b, vs = [v, c, .bl b] ∧ ((WBad K v H ∧ ∀ H', Ex H H' → E (.ref (ga K "NoTime")) none H') ∨ PosT K v H ∧ BadC K 10000 c H ∧ ∀ H', Ex H H' → E (.ref (ga K "NoCount")) none H')
/-- resent refuses -/
def spResentX (K : PySem.W.Frag) : Sp := fun vs H _ E => ∃ v c b, vs = [v, c, .bl b] ∧ (WBad K v H ∨ PosT K v H ∧ WBad K c H) ∧ ∀ H', Ex H H' → E (.ref (ga K "NoTime")) none H'
theorem ok_resentX (T : Tm K mg) {fd : FuncData} (F : FunD K "resent" "resent" (defArgs s_resent) (defBody s_resent) (defScope s_resent) [] [("doubled", .bl false)] (ga K "resent") fd) : FnOk P w K mg base (RX P w) 9 (ga K "resent") fd ["wait", "delay", "doubled"] (spResentX K) := by
  refine def_ok F sc_resent (fun vs H Q E h => by obtain ⟨v, c, b, rfl, _⟩ := h; rfl) ?_
  intro X eP ew eK em eb eN es hf nd H vs Q E B h
  subst eP ew eK em eb
  have n0 : Sl X 0 "wait" := slot_of eN es hf nd rfl (by first | exact Or.inl rfl | exact Or.inr rfl) (by decide) (by decide)
  have n1 : Sl X 1 "delay" := slot_of eN es hf nd rfl (by first | exact Or.inl rfl | exact Or.inr rfl) (by decide) (by decide)
  have n2 : Sl X 2 "doubled" := slot_of eN es hf nd rfl (by first | exact Or.inl rfl | exact Or.inr rfl) (by decide) (by decide)
  have n3 : Sl X 3 "plain" := slot_of eN es hf nd rfl (by first | exact Or.inl rfl | exact Or.inr rfl) (by decide) (by decide)
  have g_check_times : Gn X "check_times" := gn_of es rfl (by decide)
  have F_check_times := f_check_times (P := X.prog) (w := X.w) (base := X.base) T
  have g_time_of : Gn X "time_of" := gn_of es rfl (by decide)
  have F_time_of := f_time_of (P := X.prog) (w := X.w) (base := X.base) T
  obtain ⟨v, c, b, rfl, h, k⟩ := h
  show WB X [_, _, _] _ [some (v), some (c), some (.bl b), none] H
  have FX := f_check_timesX (P := X.prog) (w := X.w) (base := X.base) T
  clear F_check_times
  refine wb_cons (ws_expr ?_ (by rfl))
  repeat walk_at "w"
  refine ⟨(show 2 ≤ 100 by decide), ?_, k⟩
  rcases h with h | ⟨h, h2⟩
  · exact ⟨0, fun j _ l _ => absurd l (Nat.not_lt_zero j), v, rfl, h⟩
  · refine ⟨1, fun j u l e => ?_, c, rfl, h2⟩
    obtain rfl : j = 0 := by omega
    cases e
    exact h
theorem f_resentX (T : Tm K mg) : GFn P w K mg base 9 "resent" (fun vs H Q E => spResentX K (vs ++ [.bl false]) H Q E) := by
  obtain ⟨fd, F⟩ := T.d_resent
  exact GFn.mk0 F T.g_resent (ok_resentX T F) (F.binds0 2 (List.cons_ne_nil _ _) rfl (by
    intro D doc pm an cdv ct us ks l1 l2
    match us, ks, l1, l2 with
    | [a, b], [c], _, _ => exact ⟨_, _, _, _, _, _, rfl, rfl, rfl⟩))
end

/-! ### a, b = a list; a call of a def that a name holds -/
section
variable {X : Cx} {k j : Nat} {E : L2.St → XK} {σ : L2.St} {H : Hp} {D : Ends} {e : Expr} {pos : Pos} {Q : VK}
theorem ws_unl2 {i i' : Nat} {x y : Str} {px py pt : Pos} {kt : Nat} (B : Body X k E) (n : Sl X i x) (n' : Sl X i' y)
    (h : WE X e σ H fun v H1 => ∃ p v0 v1, v = .ref p ∧ SqL X.K H1 p [v0, v1] ∧ D.nx ((σ.set i (some v0)).set i' (some v1)) H1)
    (hs : swapsWithSole [.Tuple [.Name x px, .Name y py] kt pt] e pos.line X.env = pure false := by rfl) (hw : swappedStores [.Tuple [.Name x px, .Name y py] kt pt] e X.env = pure none := by rfl)
    (hn : (assignEach [Expr.Name x px, .Name y py] X.env).length = 2 := by rfl) (hst : (assignEach [Expr.Name x px, .Name y py] X.env).findIdx? (·.1) = none := by rfl)
    (h3 : (assignEach [Expr.Tuple [.Name x px, .Name y py] kt pt] X.env).map (·.2) = [assign (.Tuple [.Name x px, .Name y py] kt pt) X.env] := by rfl) :
    WS X (.Assign [.Tuple [.Name x px, .Name y py] kt pt] e pos) D σ H := by
  refine wsP (ps_asg peS (pg_lst B.calm (pgs_cons (pg_name n.nd n.at_ n.loc n.fn) (pgs_cons (pg_name n'.nd n'.at_ n'.loc n'.fn) pgs_nil)) hn hst) hs hw h3) ?_
  refine we_mono h fun v H1 q => ?_
  obtain ⟨p, v0, v1, rfl, hq, z⟩ := q
  exact ⟨p, _, rfl, hq, rfl, v0, _, rfl, v1, _, rfl, rfl, z⟩
theorem ws_unl3 {i i' i2 : Nat} {x y z : Str} {px py pz pt : Pos} {kt : Nat} (B : Body X k E) (n : Sl X i x) (n' : Sl X i' y) (n2 : Sl X i2 z)
    (h : WE X e σ H fun v H1 => ∃ p v0 v1 v2, v = .ref p ∧ SqL X.K H1 p [v0, v1, v2] ∧ D.nx (((σ.set i (some v0)).set i' (some v1)).set i2 (some v2)) H1)
    (hs : swapsWithSole [.Tuple [.Name x px, .Name y py, .Name z pz] kt pt] e pos.line X.env = pure false := by rfl) (hw : swappedStores [.Tuple [.Name x px, .Name y py, .Name z pz] kt pt] e X.env = pure none := by rfl)
    (hn : (assignEach [Expr.Name x px, .Name y py, .Name z pz] X.env).length = 3 := by rfl) (hst : (assignEach [Expr.Name x px, .Name y py, .Name z pz] X.env).findIdx? (·.1) = none := by rfl)
    (h3 : (assignEach [Expr.Tuple [.Name x px, .Name y py, .Name z pz] kt pt] X.env).map (·.2) = [assign (.Tuple [.Name x px, .Name y py, .Name z pz] kt pt) X.env] := by rfl) :
    WS X (.Assign [.Tuple [.Name x px, .Name y py, .Name z pz] kt pt] e pos) D σ H := by
  refine wsP (ps_asg peS (pg_lst B.calm (pgs_cons (pg_name n.nd n.at_ n.loc n.fn) (pgs_cons (pg_name n'.nd n'.at_ n'.loc n'.fn) (pgs_cons (pg_name n2.nd n2.at_ n2.loc n2.fn) pgs_nil))) hn hst) hs hw h3) ?_
  refine we_mono h fun v H1 q => ?_
  obtain ⟨p, v0, v1, v2, rfl, hq, z⟩ := q
  exact ⟨p, _, rfl, hq, rfl, v0, _, rfl, v1, _, rfl, v2, _, rfl, rfl, z⟩
/-- x(e, ..), x holds the def of the name y -/
theorem we_callV {i : Nat} {x y : Str} {sp : Sp} {g : Addr} {p : Pos} {es : List Expr} (B : Body X k E) (n : SlF X i x) (hv : σ[i]? = some (some (.ref g))) (hg : X.mg y = some (.ref g)) (f : Fn X j y sp) (hj : j ≤ k)
    (h : WA X (e :: es) σ H fun vs H1 => sp vs H1 Q (E σ))
    (hs : starEach (e :: es) X.env = (false, eval e X.env) :: starEach es X.env := by rfl) (hl : (backTo pos (starEach es X.env)).any (·.1) = false := by rfl) : WE X (.Call (.Name x p) (e :: es) [] pos) σ H Q := by
  obtain ⟨a, hm, hk, F⟩ := f
  rw [hg] at hm
  cases hm
  intro pins s I
  refine wpAny_Call_Name_kw (thn ((pe_var (pos := p) (i := i) n.at_ n.vis n.d1 n.d2).run pins s σ H (fun v G => v = .ref g ∧ G = H) I ⟨.ref g, hv, rfl, rfl⟩) fun u t z => ?_)
  obtain ⟨v, G, J, rv, rfl, rfl⟩ := z
  cases rv
  refine PySem.W.callWith_K (h₀ := X.base) J.ok.mod.kin hk (thn (h pos pins t J) fun us s1 z => ?_) hs hl
  obtain ⟨vs, H1, I1, r, q⟩ := z
  exact ⟨I1.kIn, go_at F (B.room.mono hj) (B.at σ) I1 r q⟩
end
/-- a, b = x, y with constants -/
theorem sw_const {env : Env} {x y : Str} {px py pt pt2 : Pos} {e1 e2 : Expr} {kt k2 : Nat} (h : [e1, e2].all (foldedForSure 8) = true) : swappedStores [.Tuple [.Name x px, .Name y py] kt pt] (.Tuple [e1, e2] k2 pt2) env = pure none := by
  unfold swappedStores
  simp only [h, if_true]
  repeat (first | rfl | split)
section
variable {X : Cx} {k : Nat} {E : L2.St → XK} {σ : L2.St} {H : Hp} {D : Ends} {a b : Expr} {pos : Pos}
theorem ws_unpC {i i' : Nat} {x y : Str} {px py pt pt2 : Pos} {kt k2 : Nat} (B : Body X k E) (n : Sl X i x) (n' : Sl X i' y) 
    (h : WE X a σ H fun v H1 => WE X b σ H1 fun w H2 => ∀ H3, Ex H2 H3 → D.nx ((σ.set i (some v)).set i' (some w)) H3)
    (hc : [a, b].all (foldedForSure 8) = true := by rfl) (hs : starEach [a, b] X.env = (false, eval a X.env) :: starEach [b] X.env := by rfl) (ht : starEach [b] X.env = [(false, eval b X.env)] := by rfl)
    (hn : (assignEach [Expr.Name x px, .Name y py] X.env).length = 2 := by rfl) (hst : (assignEach [Expr.Name x px, .Name y py] X.env).findIdx? (·.1) = none := by rfl)
    (h1 : (assignEach [Expr.Name x px, .Name y py] X.env).map (·.2) = assign (.Name x px) X.env :: (assignEach [Expr.Name y py] X.env).map (·.2) := by rfl)
    (h2 : (assignEach [Expr.Name y py] X.env).map (·.2) = assign (.Name y py) X.env :: (assignEach [] X.env).map (·.2) := by rfl)
    (h3 : (assignEach [Expr.Tuple [.Name x px, .Name y py] kt pt] X.env).map (·.2) = [assign (.Tuple [.Name x px, .Name y py] kt pt) X.env] := by rfl) :
    WS X (.Assign [.Tuple [.Name x px, .Name y py] kt pt] (.Tuple [a, b] k2 pt2) pos) D σ H := by
  refine wsP (ps_asg (peS (e := .Tuple [a, b] k2 pt2)) (pg_tup B.calm (pgs_cons (pg_name n.nd n.at_ n.loc n.fn) (pgs_cons (pg_name n'.nd n'.at_ n'.loc n'.fn) pgs_nil h2) h1) hn hst) rfl (sw_const hc) h3) ?_
  refine we_tup (wa_two (we_mono h fun v H1 q => we_mono q fun w H2 q => ?_) hs ht)
  refine ⟨Nat.le_trans (show 2 ≤ 1000 by decide) (by decide), fun p H3 hp x e => ?_⟩
  exact ⟨p, _, rfl, .of (by rw [e]; exact upd_same), rfl, v, [w], rfl, w, [], rfl, rfl, q H3 x⟩
end

--IMPORT Mt13
/-! ### needless sendings of a round, until the next sample -/
theorem le_big {u d : Rat} (u0 : 0 < u) (zu : Sz u 200) (zd : Sz d 200) : d ≤ ((2 ^ 400 : Nat) : Rat) * u := by
  refine Rat.not_lt.mp fun h => ?_
  have h : ((2 ^ 400 : Int) : Rat) * u < d := by
    rw [show ((2 ^ 400 : Int) : Rat) = ((2 ^ 400 : Nat) : Rat) from rfl]
    exact h
  have h2 := Mt.times_lt.mp h
  have n0 := Mt.num_pos0 u0
  have a1 := zd.num
  have a2 := zu.den
  have dp : 0 < (d.den : Int) := by have := d.den_nz; omega
  have g1 : (2 : Int) ^ 400 * 1 ≤ (2 : Int) ^ 400 * (u.num * d.den) := Int.mul_le_mul_of_nonneg_left (Int.mul_pos n0 dp) (by decide)
  have g2 : (d.num * (u.den : Int)).natAbs < 2 ^ 400 := by
    rw [Int.natAbs_mul, Int.natAbs_natCast]
    have := Nat.mul_lt_mul'' a1 a2
    rw [← Nat.pow_add] at this
    exact this
  have e : ((2 : Int) ^ 400) = ((2 ^ 400 : Nat) : Int) := rfl
  generalize (2 : Int) ^ 400 = N at g1 h2 e
  generalize d.num * (u.den : Int) = z at h2 g2
  generalize (2 : Nat) ^ 400 = M at e g2
  generalize N * (u.num * d.den) = y at g1 h2
  omega
theorem snd_le_log {c : Int} {n : Nat} (h : 1 ≤ c) (hc : c ≤ ((2 ^ n : Nat) : Int)) : Mt.snd true c ≤ n + 1 := by
  refine Nat.not_lt.mp fun l => ?_
  have := ((Mt.snd_spec h true).2 (n + 1)).mpr l
  have e : Mt.mk true (n + 1) = 2 ^ (n + 1) - 1 := rfl
  rw [e, Int.pow_succ] at this
  have p := Mt.pow_pos2 n
  have e2 : ((2 ^ n : Nat) : Int) = (2 : Int) ^ n := by rw [Int.natCast_pow]; rfl
  rw [e2] at hc
  omega
/-- the needless sendings of a round, of one delay -/
def ndl (b : Bool) (u d : Rat) : Nat := Mt.snd b (Mt.cei d u) - 1
section
variable {b : Bool} {u d : Rat}
theorem ndl_int (u0 : 0 < u) (d0 : 0 < d) : ((Mt.snd b (Mt.cei d u) : Nat) : Int) - 1 = (ndl b u d : Nat) := by
  have := (Mt.snd_spec (Mt.cei_pos u0 d0) b).1
  unfold ndl
  omega
theorem ndl_lt (u0 : 0 < u) (d0 : 0 < d) {k : Nat} : (Mt.mk b k : Rat) * u < d ↔ k ≤ ndl b u d := by
  rw [Mt.cei_spec u0, (Mt.snd_spec (Mt.cei_pos u0 d0) b).2]
  have := (Mt.snd_spec (Mt.cei_pos u0 d0) b).1
  unfold ndl
  omega
theorem ndl_le (u0 : 0 < u) (d0 : 0 < d) (zu : Sz u 200) (zd : Sz d 200) : ndl true u d ≤ 400 := by
  have := snd_le_log (Mt.cei_pos u0 d0) (Mt.cei_le u0 (le_big u0 zu zd))
  unfold ndl
  omega
theorem ndl_z (u0 : 0 < u) (d0 : 0 < d) (zu : Sz u 200) (zd : Sz d 200) : ndl b u d ≤ 2 ^ 400 := by
  cases b with
  | true => exact Nat.le_trans (ndl_le u0 d0 zu zd) (Nat.le_trans (show 400 ≤ 2 ^ 9 by decide) (Nat.pow_le_pow_right (by decide) (by decide)))
  | false =>
    have h := Mt.cei_le u0 (le_big u0 zu zd)
    have e : (Mt.snd false (Mt.cei d u) : Nat) = (Mt.cei d u).toNat := rfl
    unfold ndl
    omega
theorem two_rat (n : Nat) : ((2 ^ (n + 1) : Int) : Rat) = ((2 ^ n : Int) : Rat) * 2 := by
  rw [Int.pow_succ, Rat.intCast_mul]
  rfl
theorem two_posR (n : Nat) : (0 : Rat) < ((2 ^ n : Int) : Rat) := by
  rw [← Rat.intCast_zero]
  exact Rat.intCast_lt_intCast.mpr (Mt.pow_pos2 n)
theorem mk_rat (n : Nat) : ((Mt.mk true n : Int) : Rat) = ((2 ^ n : Int) : Rat) - 1 := by
  show (((2 : Int) ^ n - 1 : Int) : Rat) = _
  rw [Rat.intCast_sub]
  rfl
/-- behind a round with n needless sendings the kept wait is 2 ^ n first ones: at most one more -/
theorem kept_one (u0 : 0 < u) (d0 : 0 < d) (lt : ((2 ^ ndl true u d : Int) : Rat) * u < d) : ndl true (((2 ^ ndl true u d : Int) : Rat) * u) d = 1 ∧ ¬ ((2 ^ (ndl true u d + 1) : Int) : Rat) * u < d := by
  generalize hn : ndl true u d = n at lt ⊢
  have v0 : 0 < ((2 ^ n : Int) : Rat) * u := Rat.mul_pos (two_posR n) u0
  have hi : ¬ (Mt.mk true (n + 1) : Rat) * u < d := fun h => by
    have := (ndl_lt u0 d0).mp h
    omega
  rw [mk_rat, two_rat] at hi
  have p0 := two_posR n
  have e1 : 0 < ((2 ^ n : Int) : Rat) * u := v0
  have q1 : 1 ≤ ((2 ^ n : Int) : Rat) := by
    have := Mt.pow_pos2 n
    have h : (1 : Int) ≤ 2 ^ n := by omega
    have := Rat.intCast_le_intCast.mpr h
    exact this
  have q2 : 1 * u ≤ ((2 ^ n : Int) : Rat) * u := Rat.mul_le_mul_of_nonneg_right q1 (Rat.le_of_lt u0)
  refine ⟨?_, ?_⟩
  · have h1 : 1 ≤ ndl true (((2 ^ n : Int) : Rat) * u) d := (ndl_lt v0 d0).mp (by
      rw [mk_rat]
      have : ((2 ^ 1 : Int) : Rat) = 2 := rfl
      rw [this]
      grind)
    have h2 : ¬ 2 ≤ ndl true (((2 ^ n : Int) : Rat) * u) d := fun h => by
      have := (ndl_lt v0 d0).mpr h
      rw [mk_rat] at this
      have e : ((2 ^ 2 : Int) : Rat) = 4 := rfl
      rw [e] at this
      grind
    omega
  · rw [two_rat]
    grind
end
/-- the needless sendings until the next sample -/
def nf (z : Bk) (u d : Rat) : Option Nat :=
  if z.word = "clean" ∧ ndl z.doubled u d ≠ 0 then (if z.kept = true then some (if ((2 ^ ndl true u d : Int) : Rat) * u < d then ndl true u d + 1 else ndl true u d) else none) else some (ndl z.doubled u d)
/-- the next sample -/
def lf (z : Bk) (u d : Rat) : Option Rat :=
  if z.word = "last" then some (d - u * (Mt.mk z.doubled (ndl z.doubled u d) : Rat)) else if (nf z u d).isSome then some d else none
def mvo (z : Bk) (e d : Rat) : Option Rat := (lf z (madeW z e) d).map fun s => e + z.share * (s - e)
def optI : Option Nat → V
  | none => .non
  | some n => .int n

/-! ### parts that all_below can take -/
structure ParZ (z : Bk) : Prop where
  ok : BkOk z
  sh : True
  s1 : Sz z.share 8
  s2 : Sz z.factor 40
  s3 : Sz z.margin 40
theorem ov_div (q r : Rat) (h : r.num ≠ 0) : ov q r = q / r := by
  unfold ov
  rw [Rat.div_def, Rat.inv_def, show q * Rat.divInt r.den r.num = Rat.divInt q.num q.den * Rat.divInt r.den r.num from by rw [Rat.num_divInt_den], Rat.divInt_mul_divInt]
theorem div_szR {q r : Rat} {a b : Nat} (hq : Sz q a) (hr : Sz r b) (r0 : r.num ≠ 0) : Sz (q / r) (a + b) := by
  rw [← ov_div q r r0]
  unfold ov
  refine Sz.div (Int.mul_ne_zero (den_ne q) r0) (mulB hq.num (by rw [Int.natAbs_natCast]; exact hr.den)) (mulB (by rw [Int.natAbs_natCast]; exact hq.den) hr.num)
theorem one_sub_sz {s : Rat} (h : Sz s 8) : Sz (((1 : Int) : Rat) - s) 11 := ((Sz.int (n := 2) (by decide) (by decide)).sub h).mono (by decide)

/-! ### a number or None -/
def onV : Option Nat → V
  | none => .non
  | some n => .int (n : Nat)

/-! ### all_below, in plain mathematics -/
structure DecZ (z : Bk) : Prop where
  par : ParZ z
  s4 : ∀ f, z.floor = some f → Sz f 40
  s5 : ∀ f, z.roof = some f → Sz f 40
def lowestW (z : Bk) : Rat := match z.floor with
  | none => z.margin
  | some f => rmax z.margin f
/-- the wait at which the next one is the greatest -/
def atL (z : Bk) (d : Rat) : Rat := rmax (d / (((if z.doubled = true then 3 else 2) : Int) : Rat)) (lowestW z)
def behL (z : Bk) (d : Rat) : Rat := (((1 : Int) : Rat) - z.share) * atL z d + z.share * (z.factor * (d - atL z d) + z.margin)
def staysB (z : Bk) (d : Rat) : Bool := decide (behL z d < d) || (decide (behL z d = d) && decide (atL z d = z.margin))
def roofB (o : Option Rat) (d : Rat) : Bool := match o with
  | some r => decide (r < d)
  | none => false
def allB (z : Bk) (d : Rat) : Bool := roofB z.roof d || decide (d ≤ lowestW z) || (if z.word = "last" then staysB z d else if z.word = "clean" ∧ z.kept = false then true else decide (z.latest = none) && decide (z.share < 1) && decide (z.factor = 1) && decide (z.margin = 0))
theorem DecZ.lz {z : Bk} (h : DecZ z) : Sz (lowestW z) 40 := by
  unfold lowestW
  have h3 := h.par.s3
  have h4 := h.s4
  cases hf : z.floor with
  | none => exact h3
  | some f => exact sz_rmax h3 (h4 f hf)
theorem DecZ.az {z : Bk} (h : DecZ z) {d : Rat} (zd : Sz d 200) : Sz (atL z d) 202 := by
  unfold atL
  refine sz_rmax ((div_szR (b := 2) zd (Sz.int (by split <;> decide) (by decide)) ?_).mono (by decide)) (h.lz.mono (by decide))
  rw [Rat.num_intCast]
  split <;> decide

/-! ### class Verdict -/
def CVd (K : PySem.W.Frag) : Addr := ga K "Verdict"
section
variable {X : Cx} {σ : L2.St} {H : Hp} {D : Ends} {Q : VK} {e o value : Expr} {pos pos' : Pos}
theorem we_vd_told_word (T : Tm X.K X.mg) (h : WE X e σ H fun y H1 => ∃ a dx fs v, y = .ref a ∧ H1 a = some (.ins (CVd X.K) dx fs) ∧ fs.lookup ("told_word" : Str) = some v ∧ Q v H1) (hb : attributeBase e "told_word" X.env (eval e X.env) = eval e X.env := by rfl) : WE X (.Attribute e "told_word" pos) σ H Q := we_fld T.c_Verdict.cl T.n_Verdict_told_word h hb
theorem ws_vd_told_word (T : Tm X.K X.mg) (h : WE X value σ H fun y H1 => WE X o σ H1 fun z H2 => ∃ a dx fs, z = .ref a ∧ H2 a = some (.ins (CVd X.K) dx fs) ∧ fs.length < 1000 ∧ D.nx σ (upd H2 a (.ins (CVd X.K) dx (putF ("told_word" : Str) y fs)))) (hs : swapsWith value (some (.Attribute o "told_word" pos')) pos.line X.env = pure false := by rfl) : WS X (.Assign [.Attribute o "told_word" pos'] value pos) D σ H := ws_fld T.c_Verdict.cl T.n_Verdict_told_word h hs
theorem we_vd_told_number (T : Tm X.K X.mg) (h : WE X e σ H fun y H1 => ∃ a dx fs v, y = .ref a ∧ H1 a = some (.ins (CVd X.K) dx fs) ∧ fs.lookup ("told_number" : Str) = some v ∧ Q v H1) (hb : attributeBase e "told_number" X.env (eval e X.env) = eval e X.env := by rfl) : WE X (.Attribute e "told_number" pos) σ H Q := we_fld T.c_Verdict.cl T.n_Verdict_told_number h hb
theorem ws_vd_told_number (T : Tm X.K X.mg) (h : WE X value σ H fun y H1 => WE X o σ H1 fun z H2 => ∃ a dx fs, z = .ref a ∧ H2 a = some (.ins (CVd X.K) dx fs) ∧ fs.length < 1000 ∧ D.nx σ (upd H2 a (.ins (CVd X.K) dx (putF ("told_number" : Str) y fs)))) (hs : swapsWith value (some (.Attribute o "told_number" pos')) pos.line X.env = pure false := by rfl) : WS X (.Assign [.Attribute o "told_number" pos'] value pos) D σ H := ws_fld T.c_Verdict.cl T.n_Verdict_told_number h hs
theorem we_vd_told_rounds (T : Tm X.K X.mg) (h : WE X e σ H fun y H1 => ∃ a dx fs v, y = .ref a ∧ H1 a = some (.ins (CVd X.K) dx fs) ∧ fs.lookup ("told_rounds" : Str) = some v ∧ Q v H1) (hb : attributeBase e "told_rounds" X.env (eval e X.env) = eval e X.env := by rfl) : WE X (.Attribute e "told_rounds" pos) σ H Q := we_fld T.c_Verdict.cl T.n_Verdict_told_rounds h hb
theorem ws_vd_told_rounds (T : Tm X.K X.mg) (h : WE X value σ H fun y H1 => WE X o σ H1 fun z H2 => ∃ a dx fs, z = .ref a ∧ H2 a = some (.ins (CVd X.K) dx fs) ∧ fs.length < 1000 ∧ D.nx σ (upd H2 a (.ins (CVd X.K) dx (putF ("told_rounds" : Str) y fs)))) (hs : swapsWith value (some (.Attribute o "told_rounds" pos')) pos.line X.env = pure false := by rfl) : WS X (.Assign [.Attribute o "told_rounds" pos'] value pos) D σ H := ws_fld T.c_Verdict.cl T.n_Verdict_told_rounds h hs
end
local macro_rules | `(tactic| walk_at "wE") => `(tactic| first | ((with_reducible refine' we_vd_told_word ?T ?_ ?hb); (case T => assumption); (case hb => rfl)) | ((with_reducible refine' we_vd_told_number ?T ?_ ?hb); (case T => assumption); (case hb => rfl)) | ((with_reducible refine' we_vd_told_rounds ?T ?_ ?hb); (case T => assumption); (case hb => rfl)) | fail)
local macro_rules | `(tactic| walk_at "wS") => `(tactic| first | ((with_reducible refine' ws_vd_told_word ?T ?_ ?hs); (case T => assumption); (case hs => rfl)) | ((with_reducible refine' ws_vd_told_number ?T ?_ ?hs); (case T => assumption); (case hs => rfl)) | ((with_reducible refine' ws_vd_told_rounds ?T ?_ ?hs); (case T => assumption); (case hs => rfl)) | fail)
def VdO (K : PySem.W.Frag) (dx : Addr) (w : Str) (n r : Option Nat) : HO := .ins (CVd K) dx [("told_word", .str w), ("told_number", onV n), ("told_rounds", onV r)]
/-- a verdict -/
def VdV (K : PySem.W.Frag) (w : Str) (n r : Option Nat) (v : V) (H : Hp) : Prop := ∃ a dx, v = .ref a ∧ H a = some (VdO K dx w n r)
theorem VdV.mono {K : PySem.W.Frag} {w : Str} {n r : Option Nat} {v : V} {H H' : Hp} (x : Ex H H') (h : VdV K w n r v H) : VdV K w n r v H' := by
  obtain ⟨a, dx, e, h⟩ := h
  exact ⟨a, dx, e, x.ins h⟩
section
variable {P : Program} {w : World} {K : PySem.W.Frag} {mg : Str → Option Value} {base : Heap}
def spVInit (K : PySem.W.Frag) : Sp := fun vs H Q _ => ∃ a dx wd n r, vs = [.ref a, .str wd, onV n, onV r] ∧ H a = some (.ins (CVd K) dx []) ∧ ∀ H', ExX (fun c => c = a) H H' → H' a = some (VdO K dx wd n r) → Q .non H'
theorem ok_vdinit (T : Tm K mg) {fd : FuncData} (F : FunD K "__init__" "Verdict.__init__" (defArgs s_Verdict___init__) (defBody s_Verdict___init__) (defScope s_Verdict___init__) [] [] (ma K (CVd K) "__init__") fd) : FnOk P w K mg base (RX P w) 1 (ma K (CVd K) "__init__") fd ["self", "word", "number", "rounds"] (spVInit K) := by
  refine def_ok F sc_Verdict___init__ (fun vs H Q E h => by obtain ⟨a, dx, wd, n, r, rfl, _⟩ := h; rfl) ?_
  intro X eP ew eK em eb eN es hf nd H vs Q E B h
  subst eP ew eK em eb
  have n0 : Sl X 0 "self" := slot_of eN es hf nd rfl (by first | exact Or.inl rfl | exact Or.inr rfl) (by decide) (by decide)
  have n1 : Sl X 1 "word" := slot_of eN es hf nd rfl (by first | exact Or.inl rfl | exact Or.inr rfl) (by decide) (by decide)
  have n2 : Sl X 2 "number" := slot_of eN es hf nd rfl (by first | exact Or.inl rfl | exact Or.inr rfl) (by decide) (by decide)
  have n3 : Sl X 3 "rounds" := slot_of eN es hf nd rfl (by first | exact Or.inl rfl | exact Or.inr rfl) (by decide) (by decide)
  obtain ⟨a, dx, wd, n, r, rfl, ha, k⟩ := h
  show WB X [_, _, _] _ [some (.ref a), some (.str wd), some (onV n), some (onV r)] H
  with_reducible refine' wb_cons ?_
  with_reducible refine' ws_to (fun σ' H' => σ' = [some (.ref a), some (.str wd), some (onV n), some (onV r)] ∧ H' = upd H a (.ins (CVd X.K) dx [("told_word", .str wd)])) ?_ ?_
  · repeat walk_at "w"
    exact ⟨a, dx, _, rfl, ha, (show 0 < 1000 by decide), rfl, rfl⟩
  rintro σ' H1 ⟨rfl, rfl⟩
  have ha1 : upd H a (.ins (CVd X.K) dx [("told_word", .str wd)]) a = some (.ins (CVd X.K) dx [("told_word", .str wd)]) := upd_same
  have x1 : ExX (fun c => c = a) H (upd H a (.ins (CVd X.K) dx [("told_word", .str wd)])) := (ExX.refl H).put rfl
  generalize upd H a (.ins (CVd X.K) dx [("told_word", .str wd)]) = H1 at ha1 x1 ⊢
  show WB X _ _ _ _
  with_reducible refine' wb_cons ?_
  with_reducible refine' ws_to (fun σ' H' => σ' = [some (.ref a), some (.str wd), some (onV n), some (onV r)] ∧ H' = upd H1 a (.ins (CVd X.K) dx [("told_word", .str wd), ("told_number", onV n)])) ?_ ?_
  · repeat walk_at "w"
    exact ⟨a, dx, _, rfl, ha1, (show 1 < 1000 by decide), rfl, rfl⟩
  rintro σ' H2 ⟨rfl, rfl⟩
  have ha2 : upd H1 a (.ins (CVd X.K) dx [("told_word", .str wd), ("told_number", onV n)]) a = some (.ins (CVd X.K) dx [("told_word", .str wd), ("told_number", onV n)]) := upd_same
  have x2 : ExX (fun c => c = a) H (upd H1 a (.ins (CVd X.K) dx [("told_word", .str wd), ("told_number", onV n)])) := x1.put rfl
  generalize upd H1 a (.ins (CVd X.K) dx [("told_word", .str wd), ("told_number", onV n)]) = H2 at ha2 x2 ⊢
  show WB X _ _ _ _
  repeat walk_at "w"
  exact ⟨a, dx, _, rfl, ha2, (show 2 < 1000 by decide), k _ (x2.put rfl) upd_same⟩
theorem k_Verdict (T : Tm K mg) : GMk P w K mg base 1 "Verdict" (CVd K) (spVInit K) [] := by
  obtain ⟨fd, F⟩ := T.d_Verdict___init__
  exact ⟨_, fd, _, [], T.g_Verdict, T.m_Verdict, ok_vdinit T F, (F.bindsN fun _ _ _ _ _ _ us hl => match us, hl with | [_, _, _, _], _ => rfl), .nil⟩
/-- a verdict made -/
theorem made_vd {H : Hp} {E : XK} {P : Addr → Hp → Prop} {wd : Str} {n r : Option Nat} (k : ∀ a H', Ex H H' → VdV K wd n r (.ref a) H' → P a H') :
    ∀ a dx, H a = none → H dx = none → dx ≠ a → spVInit K ([.ref a, .str wd, onV n, onV r] ++ []) (upd (upd H dx (.own a)) a (.ins (CVd K) dx [])) (fun v H2 => v = .non ∧ P a H2) E := by
  intro a dx na nd ne
  have x1 : Ex H (upd (upd H dx (.own a)) a (.ins (CVd K) dx [])) := Ex.new2 na nd
  exact ⟨a, dx, wd, n, r, rfl, upd_same, fun H' x3 h3 => ⟨rfl, k a _ (ExX.fresh x1 x3 fun c e => by subst e; exact na) ⟨a, dx, rfl, h3⟩⟩⟩
theorem bne_nev {wd : Str} : decide (wd ≠ "never") = (wd != "never") := by
  by_cases h : wd = "never"
  · subst h
    decide
  · rw [decide_eq_true h]
    exact (bne_iff_ne.mpr h).symm
def spVd (K : PySem.W.Frag) (f : Str → Option Nat → Option Nat → V) : Sp := fun vs H Q _ => ∃ wd n r v, vs = [v] ∧ VdV K wd n r v H ∧ Q (f wd n r) H
theorem ok_V_ends (T : Tm K mg) : ∃ fd, FnOk P w K mg base (RX P w) 1 (pgA K (CVd K) "ends") fd ["self"] (spVd K fun wd n r => (.bl (!decide (wd = "never")))) ∧ Binds K fd ["self"] [] := by
  obtain ⟨fd, F⟩ := T.d_Verdict_ends
  refine ⟨fd, def_ok F sc_Verdict_ends (fun vs H Q E h => by obtain ⟨wd, n, r, v, rfl, _⟩ := h; rfl) ?_, (F.bindsN fun _ _ _ _ _ _ us hl => match us, hl with | [_], _ => rfl)⟩
  intro X eP ew eK em eb eN es hf nd H vs Q E B h
  subst eP ew eK em eb
  have n0 : Sl X 0 "self" := slot_of eN es hf nd rfl (by first | exact Or.inl rfl | exact Or.inr rfl) (by decide) (by decide)
  obtain ⟨wd, n, r, v, rfl, ⟨a, dx, rfl, ha⟩, k⟩ := h
  show WB X [_] _ [some (.ref a)] H
  unfold VdO at ha
  repeat walk_at "w"
  refine ⟨a, dx, _, _, rfl, ha, rfl, ?_⟩
  repeat walk_at "w"
  refine o_neS ?_
  exact k
theorem ok_V_word (T : Tm K mg) : ∃ fd, FnOk P w K mg base (RX P w) 1 (pgA K (CVd K) "word") fd ["self"] (spVd K fun wd n r => (.str wd)) ∧ Binds K fd ["self"] [] := by
  obtain ⟨fd, F⟩ := T.d_Verdict_word
  refine ⟨fd, def_ok F sc_Verdict_word (fun vs H Q E h => by obtain ⟨wd, n, r, v, rfl, _⟩ := h; rfl) ?_, (F.bindsN fun _ _ _ _ _ _ us hl => match us, hl with | [_], _ => rfl)⟩
  intro X eP ew eK em eb eN es hf nd H vs Q E B h
  subst eP ew eK em eb
  have n0 : Sl X 0 "self" := slot_of eN es hf nd rfl (by first | exact Or.inl rfl | exact Or.inr rfl) (by decide) (by decide)
  obtain ⟨wd, n, r, v, rfl, ⟨a, dx, rfl, ha⟩, k⟩ := h
  show WB X [_] _ [some (.ref a)] H
  unfold VdO at ha
  repeat walk_at "w"
  refine ⟨a, dx, _, _, rfl, ha, rfl, ?_⟩
  exact k
end
section
variable {X : Cx} {k : Nat} {E : L2.St → XK} {σ : L2.St} {H : Hp} {Q : VK} {e : Expr} {pos apos : Pos}
theorem we_V_ends (B : Body X k E) (T : Tm X.K X.mg) (hk : 2 ≤ k) (h : WE X e σ H fun y H1 => ∃ wd n r, VdV X.K wd n r y H1 ∧ Q (.bl (!decide (wd = "never"))) H1) (he : attributeBase e "ends" X.env (eval e X.env) = eval e X.env := by rfl) : WE X (.Attribute e "ends" pos) σ H Q := by
  obtain ⟨fd, F, hb⟩ := ok_V_ends (P := X.prog) (w := X.w) (base := X.base) T
  refine we_prop B T.c_Verdict.cl T.p_Verdict_ends F hk hb .nil (we_mono h fun y H1 z => ?_) he
  obtain ⟨wd, n, r, ⟨a, dx, rfl, ha⟩, q⟩ := z
  exact ⟨a, dx, _, rfl, ha, wd, n, r, _, rfl, ⟨a, dx, rfl, ha⟩, q⟩
theorem we_V_word (B : Body X k E) (T : Tm X.K X.mg) (hk : 2 ≤ k) (h : WE X e σ H fun y H1 => ∃ wd n r, VdV X.K wd n r y H1 ∧ Q (.str wd) H1) (he : attributeBase e "word" X.env (eval e X.env) = eval e X.env := by rfl) : WE X (.Attribute e "word" pos) σ H Q := by
  obtain ⟨fd, F, hb⟩ := ok_V_word (P := X.prog) (w := X.w) (base := X.base) T
  refine we_prop B T.c_Verdict.cl T.p_Verdict_word F hk hb .nil (we_mono h fun y H1 z => ?_) he
  obtain ⟨wd, n, r, ⟨a, dx, rfl, ha⟩, q⟩ := z
  exact ⟨a, dx, _, rfl, ha, wd, n, r, _, rfl, ⟨a, dx, rfl, ha⟩, q⟩
theorem vd_ok {K : PySem.W.Frag} {wd : Str} {n r : Option Nat} {v : V} {H : Hp} {R : Str → Option Nat → Option Nat → Prop} (h : VdV K wd n r v H) (q : R wd n r) : ∃ wd n r, VdV K wd n r v H ∧ R wd n r := ⟨wd, n, r, h, q⟩
end
local macro_rules | `(tactic| walk_at "vd") => `(tactic| first | assumption | ((with_reducible refine' VdV.mono ?x ?h); (case h => assumption); (case x => walk_at "x")) | fail)
local macro_rules | `(tactic| walk_at "wE") => `(tactic| first | ((with_reducible refine' we_V_ends ?B ?T ?hk ?_ ?he); (case B => assumption); (case T => assumption); (case hk => decide); (case he => rfl)) | ((with_reducible refine' we_V_word ?B ?T ?hk ?_ ?he); (case B => assumption); (case T => assumption); (case hk => decide); (case he => rfl)) | fail)
local macro_rules | `(tactic| walk_at "wX") => `(tactic| first | ((with_reducible refine' vd_ok ?h ?_); (case h => walk_at "vd")) | fail)

/-! ### lowest_wait, stays_below_by_last, all_below -/
section
variable {X : Cx} {σ : L2.St} {H : Hp} {Q : VK}
theorem we_and4w {a b c d : Expr} {pos : Pos} (h : WE X a σ H fun x H1 => ∃ k, x = .bl k ∧ if k = true then WE X b σ H1 fun y H2 => ∃ k, y = .bl k ∧ if k = true then WE X c σ H2 fun u H3 => ∃ k, u = .bl k ∧ if k = true then WE X d σ H3 Q else Q (.bl false) H3 else Q (.bl false) H2 else Q (.bl false) H1) : WE X (.BoolOp .And [a, b, c, d] pos) σ H Q := weP (pe_and peS (pe_and peS (pe_and peS (pe_one peS)))) h
end
section
variable {P : Program} {w : World} {K : PySem.W.Frag} {mg : Str → Option Value} {base : Heap}
def spLowW (K : PySem.W.Frag) : Sp := fun vs H Q _ => ∃ z v, vs = [v] ∧ BookV K z v H ∧ DecZ z ∧ Ret H (TimeV (CT K) (lowestW z)) Q
theorem f_lowest_wait (T : Tm K mg) : GFn P w K mg base 8 "lowest_wait" (spLowW K) := by
  obtain ⟨fd, F⟩ := T.d_lowest_wait
  refine GFn.mk F T.g_lowest_wait (def_ok F sc_lowest_wait (fun vs H Q E h => by obtain ⟨z, v, rfl, _⟩ := h; rfl) ?_) (F.bindsN fun _ _ _ _ _ _ us hl => match us, hl with | [_], _ => rfl)
  intro X eP ew eK em eb eN es hf nd H vs Q E B h
  subst eP ew eK em eb
  have n0 : Sl X 0 "book" := slot_of eN es hf nd rfl (by first | exact Or.inl rfl | exact Or.inr rfl) (by decide) (by decide)
  have g_greater : Gn X "greater" := gn_of es rfl (by decide)
  have F_greater := f_greater (P := X.prog) (w := X.w) (base := X.base) T
  obtain ⟨z, v, rfl, hb, dz, k⟩ := h
  show WB X [_] _ [some (v)] H
  repeat walk_at "w"
  intro v3 hv3
  unfold lowestW at k
  cases eo : z.floor with
  | none =>
    rw [eo] at hv3 k
    cases hv3
    repeat walk_at "w"
    rw [decide_eq_true (rfl : V.non = V.non)]
    repeat walk_at "w"
    intro v4 hv4
    exact k v4 H (.refl _) hv4
  | some f =>
    rw [eo] at hv3 k
    have h3 : Tim X.K f v3 H := .inl hv3
    repeat walk_at "w"
    rw [decide_eq_false h3.nn]
    repeat walk_at "w"
    intro v4 hv4
    repeat walk_at "w"
    intro v5 hv5
    rw [eo] at hv5
    exact ⟨z.margin, f, v4, v5, rfl, .inl hv4, .inl hv5, dz.par.s3.mono (by decide), (dz.s4 f eo).mono (by decide), fun y G x hy => k y G x hy⟩
def spStays (K : PySem.W.Frag) : Sp := fun vs H Q _ => ∃ z d v dv, vs = [v, dv] ∧ BookV K z v H ∧ DecZ z ∧ TimeV (CT K) d dv H ∧ Sz d 200 ∧ Bl H (staysB z d) Q
theorem f_stays_below_by_last (T : Tm K mg) : GFn P w K mg base 9 "stays_below_by_last" (spStays K) := by
  obtain ⟨fd, F⟩ := T.d_stays_below_by_last
  refine GFn.mk F T.g_stays_below_by_last (def_ok F sc_stays_below_by_last (fun vs H Q E h => by obtain ⟨z, d, v, dv, rfl, _⟩ := h; rfl) ?_) (F.bindsN fun _ _ _ _ _ _ us hl => match us, hl with | [_, _], _ => rfl)
  intro X eP ew eK em eb eN es hf nd H vs Q E B h
  subst eP ew eK em eb
  have n0 : Sl X 0 "book" := slot_of eN es hf nd rfl (by first | exact Or.inl rfl | exact Or.inr rfl) (by decide) (by decide)
  have n1 : Sl X 1 "delay" := slot_of eN es hf nd rfl (by first | exact Or.inl rfl | exact Or.inr rfl) (by decide) (by decide)
  have n2 : Sl X 2 "at" := slot_of eN es hf nd rfl (by first | exact Or.inl rfl | exact Or.inr rfl) (by decide) (by decide)
  have n3 : Sl X 3 "behind" := slot_of eN es hf nd rfl (by first | exact Or.inl rfl | exact Or.inr rfl) (by decide) (by decide)
  have g_greater : Gn X "greater" := gn_of es rfl (by decide)
  have F_greater := f_greater (P := X.prog) (w := X.w) (base := X.base) T
  have g_lowest_wait : Gn X "lowest_wait" := gn_of es rfl (by decide)
  have F_lowest_wait := f_lowest_wait (P := X.prog) (w := X.w) (base := X.base) T
  obtain ⟨z, d, v, dv, rfl, hb, dz, hd, zd, k⟩ := h
  show WB X [_, _, _] _ [some (v), some (dv), none, none] H
  have zat := dz.az zd
  with_reducible refine' wb_cons ?_
  with_reducible refine' ws_to (fun σ' H' => ∃ a, σ' = [some v, some dv, some a, none] ∧ Ex H H' ∧ TimeV (CT X.K) (atL z d) a H') ?_ ?_
  · have y12 : Sz d 4000 := zd.mono (by decide)
    repeat walk_at "w"
    refine we_methT (pl := _) B T T.e_Time_over (f_over T) (by decide) no_over ?_
    repeat walk_at "w"
    have go : ∀ m : Int, m = (if z.doubled = true then 3 else 2) → ∀ {Q' : VK}, (∀ y Ha, Ex H Ha → TimeV (CT X.K) (d / (m : Rat)) y Ha → Q' y Ha) → spOver X.K [dv, .int m] H Q' E := fun m e {Q'} kk => by
      have mn : ((m : Rat)).num ≠ 0 := by
        rw [Rat.num_intCast, e]
        split <;> decide
      refine ⟨d, (m : Rat), dv, .int m, rfl, hd, .inr ⟨m, rfl, rfl⟩, y12, (Sz.int (n := 2) (by rw [e]; split <;> decide) (by decide)).mono (by decide), .inl ⟨mn, fun y Ha xa hy => kk y Ha xa ?_⟩⟩
      rwa [ov_div _ _ mn] at hy
    cases hdb : z.doubled with
    | true =>
      repeat walk_at "w"
      refine go 3 (by rw [hdb]; rfl) fun y Ha xa hy => ?_
      repeat walk_at "w"
      refine ⟨z, v, rfl, hb.mono xa, dz, fun y2 Hb xb hy2 => ?_⟩
      refine ⟨d / ((3 : Int) : Rat), lowestW z, y, y2, rfl, .inl (TimeV.mono xb hy), .inl hy2, (div_szR (b := 2) zd (Sz.int (by decide) (by decide)) (by decide)).mono (by decide), dz.lz.mono (by decide), fun y3 Hc xc hy3 => ?_⟩
      refine ⟨y3, rfl, (xa.trans xb).trans xc, ?_⟩
      unfold atL
      rw [hdb]
      exact hy3
    | false =>
      repeat walk_at "w"
      refine go 2 (by rw [hdb]; rfl) fun y Ha xa hy => ?_
      repeat walk_at "w"
      refine ⟨z, v, rfl, hb.mono xa, dz, fun y2 Hb xb hy2 => ?_⟩
      refine ⟨d / ((2 : Int) : Rat), lowestW z, y, y2, rfl, .inl (TimeV.mono xb hy), .inl hy2, (div_szR (b := 2) zd (Sz.int (by decide) (by decide)) (by decide)).mono (by decide), dz.lz.mono (by decide), fun y3 Hc xc hy3 => ?_⟩
      refine ⟨y3, rfl, (xa.trans xb).trans xc, ?_⟩
      unfold atL
      rw [hdb]
      exact hy3
  rintro σ' H1 ⟨a, rfl, x1, ha⟩
  have hb1 := hb.mono x1
  have hd1 := TimeV.mono x1 hd
  have s1 := dz.par.s1
  have s2 := dz.par.s2
  have s3 := dz.par.s3
  have z1 : Sz (((1 : Int) : Rat) - z.share) 11 := one_sub_sz s1
  have zda : Sz (d - atL z d) 403 := (zd.sub zat).mono (by decide)
  have zf : Sz (z.factor * (d - atL z d)) 443 := (s2.mul zda).mono (by decide)
  have zfm : Sz (z.factor * (d - atL z d) + z.margin) 484 := (zf.add s3).mono (by decide)
  have zsf : Sz (z.share * (z.factor * (d - atL z d) + z.margin)) 492 := (s1.mul zfm).mono (by decide)
  have zoa : Sz ((((1 : Int) : Rat) - z.share) * atL z d) 213 := (z1.mul zat).mono (by decide)
  have zb : Sz (behL z d) 706 := (zoa.add zsf).mono (by decide)
  have y1 : Sz z.share 4000 := s1.mono (by decide)
  have y2 : Sz z.factor 4000 := s2.mono (by decide)
  have y3 : Sz z.margin 4000 := s3.mono (by decide)
  have y4 : Sz (((1 : Int) : Rat) - z.share) 4000 := z1.mono (by decide)
  have y5 : Sz (atL z d) 4000 := zat.mono (by decide)
  have y6 : Sz (d - atL z d) 4000 := zda.mono (by decide)
  have y7 : Sz (z.factor * (d - atL z d)) 4000 := zf.mono (by decide)
  have y8 : Sz (z.factor * (d - atL z d) + z.margin) 4000 := zfm.mono (by decide)
  have y9 : Sz (z.share * (z.factor * (d - atL z d) + z.margin)) 4000 := zsf.mono (by decide)
  have y10 : Sz ((((1 : Int) : Rat) - z.share) * atL z d) 4000 := zoa.mono (by decide)
  have y11 : Sz (behL z d) 4000 := zb.mono (by decide)
  have y12 : Sz d 4000 := zd.mono (by decide)
  have z1s' := z1s
  show WB X _ _ _ _
  with_reducible refine' wb_cons ?_
  with_reducible refine' ws_to (fun σ' H' => ∃ b, σ' = [some v, some dv, some a, some b] ∧ Ex H1 H' ∧ TimeV (CT X.K) (behL z d) b H') ?_ ?_
  · unfold behL
    repeat walk_at "w"
    intro v2 hv2
    repeat walk_at "w"
    intro v3 hv3
    repeat walk_at "w"
    intro v4 hv4
    repeat walk_at "w"
    intro v5 hv5
    repeat walk_at "w"
    exact ⟨_, rfl, by walk_at "x", by assumption⟩
  rintro σ' H2 ⟨b, rfl, x2, hbh⟩
  have hd2 := TimeV.mono x2 hd1
  have ha2 := TimeV.mono x2 ha
  have hb2 := hb1.mono x2
  show WB X _ _ _ _
  unfold staysB at k
  have x02 := x1.trans x2
  repeat walk_at "w"
  rename_i Ha xa
  refine ite_dec (fun hc => ?_) (fun hc => ?_)
  · have := k Ha (x02.trans xa)
    rw [decide_eq_true hc, Bool.true_or] at this
    exact this
  · rw [decide_eq_false hc, Bool.false_or] at k
    have hba := TimeV.mono xa hbh
    have hda := TimeV.mono xa hd2
    have haa := TimeV.mono xa ha2
    have hbb := hb2.mono xa
    repeat walk_at "w"
    rename_i Hb xb
    refine ite_dec (fun hc2 => ?_) (fun hc2 => ?_)
    · rw [decide_eq_true hc2, Bool.true_and] at k
      repeat walk_at "w"
      intro v4 hv4
      repeat walk_at "w"
      exact k _ (by walk_at "x")
    · rw [decide_eq_false hc2, Bool.false_and] at k
      exact k _ ((x02.trans xa).trans xb)
def spAllB (K : PySem.W.Frag) : Sp := fun vs H Q _ => ∃ z d v dv, vs = [v, dv] ∧ BookV K z v H ∧ DecZ z ∧ Tim K d dv H ∧ 0 < d ∧ Sz d 200 ∧ Bl H (allB z d) Q
theorem f_all_below (T : Tm K mg) : GFn P w K mg base 10 "all_below" (spAllB K) := by
  obtain ⟨fd, F⟩ := T.d_all_below
  refine GFn.mk F T.g_all_below (def_ok F sc_all_below (fun vs H Q E h => by obtain ⟨z, d, v, dv, rfl, _⟩ := h; rfl) ?_) (F.bindsN fun _ _ _ _ _ _ us hl => match us, hl with | [_, _], _ => rfl)
  intro X eP ew eK em eb eN es hf nd H vs Q E B h
  subst eP ew eK em eb
  have n0 : Sl X 0 "book" := slot_of eN es hf nd rfl (by first | exact Or.inl rfl | exact Or.inr rfl) (by decide) (by decide)
  have n1 : Sl X 1 "delay" := slot_of eN es hf nd rfl (by first | exact Or.inl rfl | exact Or.inr rfl) (by decide) (by decide)
  have n2 : Sl X 2 "goal" := slot_of eN es hf nd rfl (by first | exact Or.inl rfl | exact Or.inr rfl) (by decide) (by decide)
  have g_check_times : Gn X "check_times" := gn_of es rfl (by decide)
  have F_check_times := f_check_times (P := X.prog) (w := X.w) (base := X.base) T
  have g_time_of : Gn X "time_of" := gn_of es rfl (by decide)
  have F_time_of := f_time_of (P := X.prog) (w := X.w) (base := X.base) T
  have g_lowest_wait : Gn X "lowest_wait" := gn_of es rfl (by decide)
  have F_lowest_wait := f_lowest_wait (P := X.prog) (w := X.w) (base := X.base) T
  have g_stays_below_by_last : Gn X "stays_below_by_last" := gn_of es rfl (by decide)
  have F_stays_below_by_last := f_stays_below_by_last (P := X.prog) (w := X.w) (base := X.base) T
  obtain ⟨z, d, v, dv, rfl, hb, dz, hd, d0, zd, k⟩ := h
  have ok := dz.par.ok
  have zd4 : Sz d 4000 := zd.mono (by decide)
  show WB X [_, _, _, _, _, _] _ [some (v), some (dv), none] H
  with_reducible refine' wb_cons ?_
  with_reducible refine' ws_to (fun σ' H' => σ' = [some v, some dv, none] ∧ Ex H H') ?_ ?_
  · with_reducible refine' ws_expr ?_ ?hs
    case hs => rfl
    repeat walk_at "w"
    refine ⟨(show 1 ≤ 100 by decide), fun t ht => ?_, fun H1 x1 => ?_⟩
    · obtain rfl := List.mem_singleton.mp ht
      exact ⟨d, hd, d0, zd4⟩
    · repeat walk_at "w"
      exact ⟨rfl, x1⟩
  rintro σ' H1 ⟨rfl, x1⟩
  show WB X _ _ _ _
  with_reducible refine' wb_cons ?_
  with_reducible refine' ws_to (fun σ' H' => ∃ g, σ' = [some v, some dv, some g] ∧ Ex H H' ∧ TimeV (CT X.K) d g H') ?_ ?_
  · repeat walk_at "w"
    refine to_tim (hd.mono x1) fun y Ha xa hy => ?_
    repeat walk_at "w"
    exact ⟨y, rfl, x1.trans xa, hy⟩
  rintro σ' H2 ⟨g, rfl, x2, hg⟩
  have hb2 := hb.mono x2
  show WB X _ _ _ _
  with_reducible refine' wb_cons ?_
  with_reducible refine' ws_to (fun σ' H' => σ' = [some v, some dv, some g] ∧ Ex H2 H' ∧ (∀ r, z.roof = some r → ¬ r < d) ∧ ¬ d ≤ lowestW z) ?_ ?_
  · have yes : ∀ {G : Hp}, Ex H G → (∃ r, z.roof = some r ∧ r < d) ∨ d ≤ lowestW z → Q (.bl true) G := fun {G} xg h => by
      have := k G xg
      unfold allB at this
      rcases h with ⟨r, hr, l⟩ | h
      · rw [hr, show roofB (some r) d = true from decide_eq_true l, Bool.true_or, Bool.true_or] at this
        exact this
      · rw [decide_eq_true h, Bool.or_true, Bool.true_or] at this
        exact this
    have zl4 : Sz (lowestW z) 4000 := dz.lz.mono (by decide)
    have low : ∀ {G : Hp}, Ex H2 G → (∀ r, z.roof = some r → ¬ r < d) → BookV X.K z v G ∧ TimeV (CT X.K) d g G := fun {G} x _ => ⟨hb2.mono x, TimeV.mono x hg⟩
    refine ws_if (wt_or2 (wt_and2 (wt_cmp ?_ ?hm)))
    case hm => rfl
    repeat walk_at "w"
    intro v3 hv3
    cases eo : z.roof with
    | none =>
      rw [eo] at hv3
      cases hv3
      repeat walk_at "w"
      rw [decide_eq_true (rfl : V.non = V.non)]
      repeat walk_at "w"
      refine ⟨z, v, rfl, hb2, dz, fun y Ha xa hy => ?_⟩
      have hga := TimeV.mono xa hg
      repeat walk_at "w"
      rename_i Hb xb
      refine ite_dec (fun hc => ?_) (fun hc => ?_)
      · repeat walk_at "w"
        exact yes ((x2.trans xa).trans xb) (.inr hc)
      · repeat walk_at "w"
        exact ⟨rfl, xa.trans xb, (fun r e => nomatch e), hc⟩
    | some r =>
      rw [eo] at hv3
      have h3 : Tim X.K r v3 H2 := .inl hv3
      have zr4 : Sz r 4000 := (dz.s5 r eo).mono (by decide)
      repeat walk_at "w"
      rw [decide_eq_false h3.nn]
      repeat walk_at "w"
      intro v4 hv4
      rw [eo] at hv4
      have h4 : Tim X.K r v4 H2 := .inl hv4
      repeat walk_at "w"
      rename_i Hz xz
      refine ite_dec (fun hc => ?_) (fun hc => ?_)
      · repeat walk_at "w"
        exact yes (x2.trans xz) (.inl ⟨r, eo, hc⟩)
      · repeat walk_at "w"
        refine ⟨z, v, rfl, hb2.mono xz, dz, fun y Ha xa hy => ?_⟩
        have hga := TimeV.mono (xz.trans xa) hg
        repeat walk_at "w"
        rename_i Hb xb
        have xx := ((x2.trans xz).trans xa).trans xb
        refine ite_dec (fun hc2 => ?_) (fun hc2 => ?_)
        · repeat walk_at "w"
          exact yes xx (.inr hc2)
        · repeat walk_at "w"
          exact ⟨rfl, (xz.trans xa).trans xb, fun r' e => by cases e; exact hc, hc2⟩
  rintro σ' H3 ⟨rfl, x3, hro, hlw⟩
  have x03 := x2.trans x3
  have hb3 := hb.mono x03
  have hg3 := TimeV.mono x3 hg
  have rest : ∀ {b : Bool} {G : Hp}, Ex H G → (if z.word = "last" then staysB z d else if z.word = "clean" ∧ z.kept = false then true else decide (z.latest = none) && decide (z.share < 1) && decide (z.factor = 1) && decide (z.margin = 0)) = b → Q (.bl b) G := fun {b G} xg h => by
    have := k G xg
    unfold allB at this
    rw [h, decide_eq_false hlw, Bool.or_false] at this
    cases er : z.roof with
    | none =>
      rw [er] at this
      exact this
    | some r =>
      rw [er, show roofB (some r) d = false from decide_eq_false (hro r er), Bool.false_or] at this
      exact this
  show WB X _ _ _ _
  with_reducible refine' wb_cons ?_
  with_reducible refine' ws_to (fun σ' H' => σ' = [some v, some dv, some g] ∧ H3 = H' ∧ z.word ≠ "last") ?_ ?_
  · by_cases hw : z.word = "last"
    · repeat walk_at "w"
      refine o_eqS ?_
      rw [decide_eq_true hw]
      repeat walk_at "w"
      refine ⟨z, d, v, g, rfl, hb3, dz, hg3, zd, fun Ha xa => ?_⟩
      exact rest (x03.trans xa) (if_pos hw)
    · repeat walk_at "w"
      refine o_eqS ?_
      rw [decide_eq_false hw]
      repeat walk_at "w"
      exact ⟨rfl, rfl, hw⟩
  rintro σ' H' ⟨rfl, rfl, hw⟩
  show WB X _ _ _ _
  with_reducible refine' wb_cons ?_
  with_reducible refine' ws_to (fun σ' H' => σ' = [some v, some dv, some g] ∧ H3 = H' ∧ ¬ (z.word = "clean" ∧ z.kept = false)) ?_ ?_
  · refine ws_if (wt_and2 (wt_cmp ?_ ?hm))
    case hm => rfl
    repeat walk_at "w"
    refine o_eqS ?_
    by_cases hc : z.word = "clean"
    · rw [decide_eq_true hc]
      repeat walk_at "w"
      cases hk : z.kept with
      | true =>
        repeat walk_at "w"
        exact ⟨rfl, rfl, fun c => nomatch c.2⟩
      | false =>
        repeat walk_at "w"
        exact rest x03 ((if_neg hw).trans (if_pos ⟨hc, hk⟩))
    · rw [decide_eq_false hc]
      repeat walk_at "w"
      exact ⟨rfl, rfl, fun c => hc c.1⟩
  rintro σ' H' ⟨rfl, rfl, hcl⟩
  have rest2 : ∀ {b : Bool} {G : Hp}, Ex H3 G → (decide (z.latest = none) && decide (z.share < 1) && decide (z.factor = 1) && decide (z.margin = 0)) = b → Q (.bl b) G := fun {b G} xg h => rest (x03.trans xg) (((if_neg hw).trans (if_neg hcl)).trans h)
  have zs4 : Sz z.share 4000 := dz.par.s1.mono (by decide)
  have zf4 : Sz z.factor 4000 := dz.par.s2.mono (by decide)
  have zm4 : Sz z.margin 4000 := dz.par.s3.mono (by decide)
  have z1s' := z1s
  have z0s' := z0s
  show WB X _ _ _ _
  refine wb_one (ws_ret (we_and4w ?_))
  repeat walk_at "w"
  cases el : z.latest with
  | some m =>
    rw [decide_eq_false (fun e => nomatch e : ¬ latV (some m) = V.non)]
    exact rest2 (.refl _) (by rw [el, decide_eq_false (fun e => nomatch e : ¬ some m = none), Bool.false_and, Bool.false_and, Bool.false_and])
  | none =>
    have rest3 : ∀ {b : Bool} {G : Hp}, Ex H3 G → (decide (z.share < 1) && decide (z.factor = 1) && decide (z.margin = 0)) = b → Q (.bl b) G := fun {b G} xg h => rest2 xg (by rw [el, decide_eq_true (rfl : (none : Option Nat) = none), Bool.true_and]; exact h)
    rw [decide_eq_true (show latV none = V.non from rfl)]
    repeat walk_at "w"
    intro v4 hv4
    repeat walk_at "w"
    rename_i Ha xa
    refine ite_dec (fun hc => ?_) (fun hc => ?_)
    · have hba := hb3.mono xa
      repeat walk_at "w"
      intro v5 hv5
      repeat walk_at "w"
      rename_i Hb xb
      refine ite_dec (fun hc2 => ?_) (fun hc2 => ?_)
      · have hbb := hba.mono xb
        repeat walk_at "w"
        intro v6 hv6
        repeat walk_at "w"
        refine rest3 (by walk_at "x") ?_
        rw [decide_eq_true (show z.share < 1 from hc), decide_eq_true (show z.factor = 1 from hc2), Bool.true_and, Bool.true_and]
        rfl
      · refine rest3 (xa.trans xb) ?_
        rw [decide_eq_false (show ¬ z.factor = 1 from hc2), Bool.and_false, Bool.false_and]
    · refine rest3 xa ?_
      rw [decide_eq_false (show ¬ z.share < 1 from hc), Bool.false_and, Bool.false_and]
end

/-! ### whole in so many parts -/
/-- so many parts make it whole -/
def IntD (D : Nat) (q : Rat) : Prop := ∃ i : Int, q * ((D : Int) : Rat) = (i : Rat)
theorem IntD.mul {D D' : Nat} {q q' : Rat} (h : IntD D q) (h' : IntD D' q') : IntD (D * D') (q * q') := by
  obtain ⟨i, hi⟩ := h
  obtain ⟨j, hj⟩ := h'
  refine ⟨i * j, ?_⟩
  rw [Rat.intCast_mul, ← hi, ← hj, Int.natCast_mul, Rat.intCast_mul]
  grind
theorem IntD.add {D : Nat} {q q' : Rat} (h : IntD D q) (h' : IntD D q') : IntD D (q + q') := by
  obtain ⟨i, hi⟩ := h
  obtain ⟨j, hj⟩ := h'
  refine ⟨i + j, ?_⟩
  rw [Rat.intCast_add, ← hi, ← hj]
  grind
theorem IntD.sub {D : Nat} {q q' : Rat} (h : IntD D q) (h' : IntD D q') : IntD D (q - q') := by
  obtain ⟨i, hi⟩ := h
  obtain ⟨j, hj⟩ := h'
  refine ⟨i - j, ?_⟩
  rw [Rat.intCast_sub, ← hi, ← hj]
  grind
theorem IntD.up {D D' : Nat} {q : Rat} (h : IntD D q) (d : D ∣ D') : IntD D' q := by
  obtain ⟨i, hi⟩ := h
  obtain ⟨k, rfl⟩ := d
  refine ⟨i * k, ?_⟩
  rw [Int.natCast_mul, Rat.intCast_mul, Rat.intCast_mul, ← hi]
  grind
theorem IntD.int (i : Int) : IntD 1 (i : Rat) := ⟨i, by
  show (i : Rat) * ((1 : Int) : Rat) = i
  exact Rat.mul_one _⟩
theorem IntD.dv {a b : Int} {D : Nat} (b0 : 1 ≤ b) (d : b.toNat ∣ D) : IntD D (Rat.divInt a b) := by
  obtain ⟨k, hk⟩ := d
  refine ⟨a * k, ?_⟩
  have e : (D : Int) = b * k := by
    rw [hk, Int.natCast_mul, Int.toNat_of_nonneg (by omega)]
  rw [e, ← int_eq, ← int_eq, Rat.divInt_mul_divInt, Rat.divInt_eq_divInt_iff (by omega) (by decide)]
  grind
theorem IntD.pos {D : Nat} {q : Rat} (h : IntD D q) (q0 : 0 < q) (D0 : 0 < D) : 1 ≤ q * ((D : Int) : Rat) := by
  obtain ⟨i, hi⟩ := h
  have d0 : (0 : Rat) < ((D : Int) : Rat) := by
    have : ((0 : Int) : Rat) < ((D : Int) : Rat) := Rat.intCast_lt_intCast.mpr (by omega)
    exact this
  have p := Rat.mul_pos q0 d0
  rw [hi] at p ⊢
  have : ((0 : Int) : Rat) < (i : Rat) := p
  have : (0 : Int) < i := Rat.intCast_lt_intCast.mp this
  have : ((1 : Int) : Rat) ≤ (i : Rat) := Rat.intCast_le_intCast.mpr (by omega)
  exact this
theorem MomF.d {q : Rat} (h : MomF q) : IntD 2520 q := by
  obtain ⟨a, b, rfl, _, _, b1, b9⟩ := h
  refine IntD.dv b1 ?_
  rcases (show b = 1 ∨ b = 2 ∨ b = 3 ∨ b = 4 ∨ b = 5 ∨ b = 6 ∨ b = 7 ∨ b = 8 ∨ b = 9 by omega) with rfl | rfl | rfl | rfl | rfl | rfl | rfl | rfl | rfl <;> decide

/-! ### _law_steady -/
theorem cut_times {i : Int} {u d : Rat} : Rat.divInt (i * (u.num * d.den)) (u.den * d.den) = (i : Rat) * u := by
  rw [← Int.mul_assoc, Rat.divInt_mul_right (by have := d.den_nz; omega)]
  have := mul_eq (i : Rat) u
  rw [Rat.num_intCast, Rat.den_intCast] at this
  rw [← this]
  congr 1
  omega
theorem mk_next (k : Nat) : Mt.mk true k + 2 ^ k = Mt.mk true (k + 1) := by
  show (2 : Int) ^ k - 1 + 2 ^ k = 2 ^ (k + 1) - 1
  rw [Int.pow_succ]
  omega
theorem ndl_leB {u d : Rat} (u0 : 0 < u) (d0 : 0 < d) (big : d ≤ ((2 ^ 400 : Nat) : Rat) * u) : ndl true u d ≤ 400 := by
  have := snd_le_log (Mt.cei_pos u0 d0) (Mt.cei_le u0 big)
  unfold ndl
  omega
theorem ndl_zB {b : Bool} {u d : Rat} (u0 : 0 < u) (d0 : 0 < d) (big : d ≤ ((2 ^ 400 : Nat) : Rat) * u) : ndl b u d ≤ 2 ^ 400 := by
  cases b with
  | true => exact Nat.le_trans (ndl_leB u0 d0 big) (Nat.le_trans (show 400 ≤ 2 ^ 9 by decide) (Nat.pow_le_pow_right (by decide) (by decide)))
  | false =>
    have h := Mt.cei_le u0 big
    have e : (Mt.snd false (Mt.cei d u) : Nat) = (Mt.cei d u).toNat := rfl
    unfold ndl
    omega
theorem one_le_two (n : Nat) : (1 : Rat) ≤ ((2 ^ n : Int) : Rat) := by
  have := Mt.pow_pos2 n
  have h : (1 : Int) ≤ 2 ^ n := by omega
  exact Rat.intCast_le_intCast.mpr h
section
variable {P : Program} {w : World} {K : PySem.W.Frag} {mg : Str → Option Value} {base : Heap}
def spSteady : Sp := fun vs H Q _ => ∃ b u d uv dv, vs = [.bl b, uv, dv] ∧ PrQ u uv H ∧ PrQ d dv H ∧ 0 < u ∧ 0 < d ∧ Sz u 700 ∧ Sz d 200 ∧ d ≤ ((2 ^ 400 : Nat) : Rat) * u ∧ ∀ t x y H', Ex H H' → H' t = some (.lst [.int (ndl b u d : Nat), x, y]) → PrQ ((Mt.mk b (ndl b u d) : Rat) * u) x H' → PrQ ((Mt.wk b (ndl b u d) : Rat) * u) y H' → Q (.ref t) H'
theorem f__law_steady (T : Tm K mg) : GFn P w K mg base 3 "_law_steady" spSteady := by
  obtain ⟨fd, F⟩ := T.d__law_steady
  refine GFn.mk F T.g__law_steady (def_ok F sc__law_steady (fun vs H Q E h => by obtain ⟨b, u, d, uv, dv, rfl, _⟩ := h; rfl) ?_) (F.bindsN fun _ _ _ _ _ _ us hl => match us, hl with | [_, _, _], _ => rfl)
  intro X eP ew eK em eb eN es hf nd H vs Q E B h
  subst eP ew eK em eb
  have n0 : Sl X 0 "_law_twofold" := slot_of eN es hf nd rfl (by first | exact Or.inl rfl | exact Or.inr rfl) (by decide) (by decide)
  have n1 : Sl X 1 "_law_wait_here" := slot_of eN es hf nd rfl (by first | exact Or.inl rfl | exact Or.inr rfl) (by decide) (by decide)
  have n2 : Sl X 2 "_law_delay" := slot_of eN es hf nd rfl (by first | exact Or.inl rfl | exact Or.inr rfl) (by decide) (by decide)
  have n3 : Sl X 3 "_law_here" := slot_of eN es hf nd rfl (by first | exact Or.inl rfl | exact Or.inr rfl) (by decide) (by decide)
  have n4 : Sl X 4 "_law_goal" := slot_of eN es hf nd rfl (by first | exact Or.inl rfl | exact Or.inr rfl) (by decide) (by decide)
  have n5 : Sl X 5 "_law_start" := slot_of eN es hf nd rfl (by first | exact Or.inl rfl | exact Or.inr rfl) (by decide) (by decide)
  have n6 : Sl X 6 "_law_count" := slot_of eN es hf nd rfl (by first | exact Or.inl rfl | exact Or.inr rfl) (by decide) (by decide)
  have n7 : Sl X 7 "_law_lower" := slot_of eN es hf nd rfl (by first | exact Or.inl rfl | exact Or.inr rfl) (by decide) (by decide)
  have g__law_cut : Gn X "_law_cut" := gn_of es rfl (by decide)
  have F__law_cut := f__law_cut (P := X.prog) (w := X.w) (base := X.base) T
  have kb : X.env.blockKind = .function := blk_of es rfl
  have k__law_here : X.env.kindOf "_law_here" = some .local := kd_of es rfl
  have k__law_goal : X.env.kindOf "_law_goal" = some .local := kd_of es rfl
  have k__law_start : X.env.kindOf "_law_start" = some .local := kd_of es rfl
  have k__law_count : X.env.kindOf "_law_count" = some .local := kd_of es rfl
  obtain ⟨b, u, d, uv, dv, rfl, hu, hd, u0, d0, zu, zd, big, k⟩ := h
  show WB X [_, _, _, _, _, _] _ [some (.bl b), some (uv), some (dv), none, none, none, none, none] H
  have n0 := Mt.num_pos0 u0
  have dp : 0 < (d.den : Int) := by have := d.den_nz; omega
  have up : 0 < (u.den : Int) := by have := u.den_nz; omega
  obtain ⟨A, hA⟩ : ∃ A, A = u.num * d.den := ⟨_, rfl⟩
  obtain ⟨G, hG⟩ : ∃ G, G = d.num * u.den := ⟨_, rfl⟩
  have A0 : 0 < A := by rw [hA]; exact Int.mul_pos n0 dp
  have lt : ∀ i : Int, (i : Rat) * u < d ↔ i * A < G := fun i => by rw [hA, hG]; exact Mt.times_lt
  have zA : A.natAbs < 2 ^ 900 := by
    rw [hA, Int.natAbs_mul, Int.natAbs_natCast]
    have := Nat.mul_lt_mul'' zu.num zd.den
    rw [← Nat.pow_add] at this
    exact this
  have zG : G.natAbs < 2 ^ 900 := by
    rw [hG, Int.natAbs_mul, Int.natAbs_natCast]
    have := Nat.mul_lt_mul'' zd.num zu.den
    rw [← Nat.pow_add] at this
    exact this
  with_reducible refine' wb_cons ?_
  with_reducible refine' ws_to (fun σ' H' => σ' = [some (.bl b), some uv, some dv, some (.int A), some (.int G), none, none, none] ∧ Ex H H') ?_ ?_
  · repeat walk_at "w"
    have zu2 : Sz u 2000 := zu.mono (by decide)
    have zd2 : Sz d 2000 := zd.mono (by decide)
    refine o_mul (cm_sm zu2.num (by rw [Int.natAbs_natCast]; exact zd2.den)) ?_
    rw [← hA]
    repeat walk_at "w"
    refine o_mul (cm_sm zd2.num (by rw [Int.natAbs_natCast]; exact zu2.den)) ?_
    rw [← hG]
    repeat walk_at "w"
    exact ⟨rfl, .refl _⟩
  rintro σ' H1 ⟨rfl, x1⟩
  show WB X _ _ _ _
  with_reducible refine' wb_cons ?_
  with_reducible refine' ws_to (fun σ' H' => σ' = [some (.bl b), some uv, some dv, some (.int A), some (.int G), some (.int 0), some (.int 0), none] ∧ Ex H1 H') ?_ ?_
  · refine ws_unpC B n5 n6 ?_
    repeat walk_at "w"
    intro H3 x3
    exact ⟨rfl, x3⟩
  rintro σ' H2 ⟨rfl, x2⟩
  show WB X _ _ _ _
  obtain ⟨n, hn⟩ : ∃ n, n = ndl b u d := ⟨_, rfl⟩
  rw [← hn] at k
  have nl : ∀ {i : Nat}, (Mt.mk b i : Int) * A < G ↔ i ≤ n := fun {i} => by rw [← lt, hn]; exact ndl_lt u0 d0
  have ln : b = true → n ≤ 400 := fun e => by rw [hn, e]; exact ndl_leB u0 d0 big
  have n9 : n ≤ 2 ^ 400 := by rw [hn]; exact ndl_zB u0 d0 big
  have p4 : (2 : Nat) ^ 400 < 2 ^ 2000 := Nat.pow_lt_pow_right (by decide) (by decide)
  have zA2 : A.natAbs < 2 ^ 2000 := Nat.lt_trans zA (Nat.pow_lt_pow_right (by decide) (by decide))
  with_reducible refine' wb_cons ?_
  with_reducible refine' ws_to (fun σ' H' => σ' = [some (.bl b), some uv, some dv, some (.int A), some (.int G), some (.int (if b = true then 0 else (n : Int) * A)), some (.int (if b = true then 0 else (n : Int))), none] ∧ H2 = H') ?_ ?_
  · cases b with
    | true =>
      repeat walk_at "w"
      exact ⟨rfl, rfl⟩
    | false =>
      have g1 : (n : Int) * A < G := (nl (i := n)).mpr (Nat.le_refl _)
      have g2 : ¬ ((n + 1 : Nat) : Int) * A < G := fun h => by
        have := (nl (i := n + 1)).mp h
        omega
      have e : (G - 1).fdiv A = (n : Int) := by
        rw [Int.fdiv_eq_ediv_of_nonneg _ (Int.le_of_lt A0)]
        refine Int.le_antisymm (Int.lt_add_one_iff.mp (Int.ediv_lt_of_lt_mul A0 ?_)) (Int.le_ediv_of_mul_le A0 (by omega))
        rw [Int.natCast_add] at g2
        have : ((1 : Nat) : Int) = 1 := rfl
        rw [this] at g2
        omega
      repeat walk_at "w"
      refine o_fdiv (by omega) ((Nat.log2_lt (by omega)).mpr (Nat.lt_trans zA (Nat.pow_lt_pow_right (by decide) (by decide)))) ?_
      rw [e]
      repeat walk_at "w"
      refine o_mul (cm_sm (by rw [Int.natAbs_natCast]; omega) zA2) ?_
      exact ⟨rfl, rfl⟩
  rintro σ' H' ⟨rfl, rfl⟩
  show WB X _ _ _ _
  with_reducible refine' wb_cons ?_
  with_reducible refine' ws_to (fun σ' H' => σ' = [some (.bl b), some uv, some dv, some (.int ((Mt.wk b n) * A)), some (.int G), some (.int ((Mt.mk b n) * A)), some (.int (n : Nat)), none] ∧ H2 = H') ?_ ?_
  · cases b with
    | false =>
      show WS X _ _ _ _
      refine ws_while_by (fun σ H => σ = [some (.bl false), some uv, some dv, some (.int A), some (.int G), some (.int (n * A)), some (.int (n : Nat)), none] ∧ H2 = H) (fun _ _ => 0) B ⟨rfl, rfl⟩ ?_
      rintro σ H ⟨rfl, rfl⟩
      repeat walk_at "w"
      refine ⟨?_, rfl⟩
      rw [show Mt.wk false n = 1 from rfl, Int.one_mul]
      rfl
    | true =>
      have ln := ln rfl
      show WS X _ _ _ _
      refine ws_while_by (fun σ H => ∃ k : Nat, σ = [some (.bl true), some uv, some dv, some (.int (2 ^ k * A)), some (.int G), some (.int (Mt.mk true k * A)), some (.int (k : Nat)), none] ∧ k ≤ n ∧ H2 = H) (fun σ _ => match σ with | [_, _, _, _, _, _, some (.int m), _] => (n - m).toNat | _ => 0) B ⟨0, ?_, Nat.zero_le _, rfl⟩ ?_
      · rw [show Mt.mk true 0 = 0 from rfl, Int.zero_mul, Int.pow_zero, Int.one_mul]
        rfl
      rintro σ H ⟨k, rfl, kn, rfl⟩
      have zk : (2 ^ k * A).natAbs < 2 ^ 2000 := by
        rw [Int.natAbs_mul, Int.natAbs_pow]
        have h1 : (2 : Int).natAbs ^ k ≤ 2 ^ 400 := Nat.pow_le_pow_right (by decide) (by omega)
        have h2 := Nat.mul_lt_mul_of_le_of_lt h1 zA (Nat.two_pow_pos 400)
        rw [← Nat.pow_add] at h2
        exact Nat.lt_trans h2 (Nat.pow_lt_pow_right (by decide) (by decide))
      repeat walk_at "w"
      rw [← Int.add_mul, mk_next]
      refine ite_dec (fun hlt => ?_) (fun hlt => ?_)
      · have k1 := nl.mp hlt
        repeat walk_at "w"
        refine o_mul (cm_sm zk (Nat.lt_of_lt_of_le (show (2 : Int).natAbs < 2 ^ 3 by decide) (Nat.pow_le_pow_right (by decide) (by decide)))) ?_
        refine ⟨⟨k + 1, ?_, k1, rfl⟩, ?_⟩
        · have e : (2 : Int) ^ k * A * 2 = 2 ^ (k + 1) * A := by rw [Int.pow_succ, Int.mul_assoc, Int.mul_comm A 2, ← Int.mul_assoc]
          rw [e, ← Int.add_mul, mk_next]
          rfl
        · show ((n : Int) - ((k : Int) + 1)).toNat < ((n : Int) - (k : Int)).toNat
          omega
      · have : k = n := by
          have : ¬ k + 1 ≤ n := fun h => hlt (nl.mpr h)
          omega
        subst this
        exact ⟨rfl, rfl⟩
  rintro σ' H' ⟨rfl, rfl⟩
  have ud : (u.den : Int) * d.den ≠ 0 := Int.ne_of_gt (Int.mul_pos up dp)
  have uz : ((u.den : Int) * d.den).natAbs < 2 ^ 9000 := by
    rw [Int.natAbs_mul, Int.natAbs_natCast, Int.natAbs_natCast]
    have := Nat.mul_lt_mul'' zu.den zd.den
    rw [← Nat.pow_add] at this
    exact Nat.lt_trans this (Nat.pow_lt_pow_right (by decide) (by decide))
  have zu2 : Sz u 2000 := zu.mono (by decide)
  have zd2 : Sz d 2000 := zd.mono (by decide)
  show WB X _ _ _ _
  repeat walk_at "w"
  refine o_mul (cm_sm (by rw [Int.natAbs_natCast]; exact zu2.den) (by rw [Int.natAbs_natCast]; exact zd2.den)) ?_
  repeat walk_at "w"
  refine ⟨_, _, rfl, ud, uz, fun x Ha xa hx => ?_⟩
  repeat walk_at "w"
  refine ⟨_, _, rfl, ud, uz, fun y Hb xb hy => ?_⟩
  rw [hA, cut_times] at hx hy
  repeat walk_at "w"
  rename_i q Hc nq xc hq
  exact k q x y _ ((((x1.trans x2).trans xa).trans xb).trans xc) hq (hx.mono (xb.trans xc)) (hy.mono xc)
theorem ndl_none {b : Bool} {u d : Rat} (u0 : 0 < u) (d0 : 0 < d) (h : ¬ u < d) : ndl b u d = 0 := by
  have : ¬ 1 ≤ ndl b u d := fun g => by
    have := (ndl_lt u0 d0).mpr g
    have e : Mt.mk b 1 = 1 := by cases b <;> rfl
    rw [e] at this
    have e2 : ((1 : Int) : Rat) = 1 := rfl
    rw [e2, Rat.one_mul] at this
    exact h this
  omega
end

/-! ### _law_estimate, _law_learner, _law_far -/
theorem refsP_ns {vs : List V} (h : ∀ (j : Nat) (v : V), vs[j]? = some v → ∃ a, v = .ref a) : ¬ Src (.lst vs) := by
  rintro ⟨l, i, b, r, e, _⟩
  cases e
  obtain ⟨a, z⟩ := h 1 (.int i) rfl
  cases z
def PrL (qs : List Rat) (vs : List V) (H : Hp) : Prop := vs.length = qs.length ∧ ∀ j v, vs[j]? = some v → PrQ (qs.getD j 0) v H
theorem PrL.mono {qs : List Rat} {vs : List V} {H H' : Hp} (x : Ex H H') (h : PrL qs vs H) : PrL qs vs H' := ⟨h.1, fun j v e => (h.2 j v e).mono x⟩
theorem PrL.ns {qs : List Rat} {vs : List V} {H : Hp} (h : PrL qs vs H) : ¬ Src (.lst vs) := refsP_ns fun j v e => by
  obtain ⟨a, rfl, _⟩ := h.2 j v e
  exact ⟨a, rfl⟩
theorem foldl_sz {n : Nat} : ∀ {l : List Rat} {q : Rat}, Sz q n → (∀ r ∈ l, Sz r n) → Sz (l.foldl rmax q) n := by
  intro l
  induction l with
  | nil => exact fun h _ => h
  | cons x l ih => exact fun h h2 => ih (sz_rmax h (h2 x List.mem_cons_self)) fun r hr => h2 r (List.mem_cons_of_mem _ hr)
section
variable {P : Program} {w : World} {K : PySem.W.Frag} {mg : Str → Option Value} {base : Heap}
def spMaxE : Sp := fun vs H Q _ => ∃ s l rest q qs us, vs = [.ref s] ∧ H s = some (.lst (.ref l :: rest)) ∧ H l = some (.lst us) ∧ PrL (q :: qs) us H ∧ (∀ r ∈ q :: qs, Sz r 4000) ∧ ∀ y, PrQ (qs.foldl rmax q) y H → Q y H
theorem f__law_estimate (T : Tm K mg) : GFn P w K mg base 3 "_law_estimate" spMaxE := by
  obtain ⟨fd, F⟩ := T.d__law_estimate
  refine GFn.mk F T.g__law_estimate (def_ok F sc__law_estimate (fun vs H Q E h => by obtain ⟨s, l, rest, q, qs, us, rfl, _⟩ := h; rfl) ?_) (F.bindsN fun _ _ _ _ _ _ us hl => match us, hl with | [_], _ => rfl)
  intro X eP ew eK em eb eN es hf nd H vs Q E B h
  subst eP ew eK em eb
  have n0 : Sl X 0 "_law_state_here" := slot_of eN es hf nd rfl (by first | exact Or.inl rfl | exact Or.inr rfl) (by decide) (by decide)
  have n1 : Sl X 1 "_law_found" := slot_of eN es hf nd rfl (by first | exact Or.inl rfl | exact Or.inr rfl) (by decide) (by decide)
  have n2 : Sl X 2 "_law_one" := slot_of eN es hf nd rfl (by first | exact Or.inl rfl | exact Or.inr rfl) (by decide) (by decide)
  have g__law_most : Gn X "_law_most" := gn_of es rfl (by decide)
  have F__law_most := f__law_most (P := X.prog) (w := X.w) (base := X.base) T
  obtain ⟨s, l, rest, q, qs, us, rfl, hs, hl, hp, hz, k⟩ := h
  show WB X [_, _, _] _ [some (.ref s), none, none] H
  with_reducible refine' wb_cons ?_
  with_reducible refine' ws_to (fun σ' H' => ∃ y, σ' = [some (.ref s), some y, none] ∧ H' = H ∧ PrQ q y H') ?_ ?_
  · repeat walk_at "w"
    cases us with
    | nil => exact absurd hp.1 (by simp)
    | cons u0 us =>
      refine at_l hs (atI_nat (xs := .ref l :: rest) (j := 0) rfl) ?_
      repeat walk_at "w"
      exact at_l hl (atI_nat (xs := u0 :: us) (j := 0) rfl) ⟨_, rfl, rfl, hp.2 0 u0 rfl⟩
  rintro σ' H1 ⟨y, rfl, rfl, hy⟩
  show WB X _ _ _ _
  with_reducible refine' wb_cons ?_
  with_reducible refine' ws_to (fun σ' H' => ∃ y c, σ' = [some (.ref s), some y, c] ∧ H' = H1 ∧ PrQ (qs.foldl rmax q) y H') ?_ ?_
  · refine ws_for_listE B n2 ?_
    repeat walk_at "w"
    refine at_l hs (atI_nat (xs := .ref l :: rest) (j := 0) rfl) ?_
    refine ⟨l, us, rfl, fun j σ H' => ∃ y c, σ = [some (.ref s), some y, c] ∧ H' = H1 ∧ PrQ (((q :: qs).take j).foldl rmax q) y H', ⟨y, none, rfl, rfl, hy⟩, fun _ _ H' _ h => by obtain ⟨_, _, _, e, _⟩ := h; rw [e]; exact .of hl, ?_, fun σ' H' h => ?_⟩
    · rintro j v σ H2 hv ⟨y3, c, rfl, rfl, hy3⟩
      have jl : j < (q :: qs).length := by
        have := (List.getElem?_eq_some_iff.mp hv).1
        rw [hp.1] at this
        exact this
      have hvq := hp.2 j v hv
      rw [List.getD_eq_getElem?_getD, List.getElem?_eq_getElem jl, Option.getD_some] at hvq
      repeat walk_at "w"
      refine ⟨_, _, y3, v, rfl, hy3, hvq, foldl_sz (hz q List.mem_cons_self) (fun r hr => hz r (List.mem_of_mem_take hr)), hz _ (List.getElem_mem jl), fun y2 hy2 => ?_⟩
      refine ⟨y2, _, rfl, rfl, ?_⟩
      rw [List.take_succ_eq_append_getElem jl, List.foldl_append]
      exact hy2
    · obtain ⟨y3, c, rfl, rfl, hy3⟩ := h
      rw [hp.1, List.take_length, List.foldl_cons, show rmax q q = q from by unfold rmax; split <;> rfl] at hy3
      exact ⟨y3, c, rfl, rfl, hy3⟩
  rintro σ' H2 ⟨y3, c, rfl, rfl, hy3⟩
  show WB X _ _ _ _
  repeat walk_at "w"
  exact k y3 hy3
end

--IMPORT HandS.Style
/-! ### _law_refused -/
section
variable {X : Cx} {k : Nat} {E : L2.St → XK} {σ : L2.St} {H : Hp} {D : Ends} {a b c : Expr} {pos : Pos}
/-- a, b, c = x, y, z -/
theorem ws_par3 {i i' i2 : Nat} {x y z : Str} {px py pz pt : Pos} {kt k2 : Nat} {pt2 : Pos} (B : Body X k E) (n : Sl X i x) (n' : Sl X i' y) (n2 : Sl X i2 z) (hk : X.env.blockKind = .function) (hx : X.env.kindOf x = some .local) (hy : X.env.kindOf y = some .local) (hz : X.env.kindOf z = some .local)
    (h : WE X a σ H fun v H1 => WE X b σ H1 fun w H2 => WE X c σ H2 fun u H3 => D.nx (((σ.set i (some v)).set i' (some w)).set i2 (some u)) H3) (hii : i ≠ i' := by decide) (hi2 : i ≠ i2 := by decide) (hj2 : i' ≠ i2 := by decide) (hne : ([x, y, z] : List Str).eraseDups.length = 3 := by decide) (hl : (py.line == px.line) = true := by rfl) (hl2 : (pz.line == px.line) = true := by rfl)
    (h1 : ([a, b, c].any fun | .Starred .. => true | _ => false) = false := by rfl) (h2 : [a, b, c].all (foldedForSure 8) = false := by rfl) (h3 : [a, b, c].all (constantsAlone 8) = false := by rfl)
    (hs : starEach [a, b, c] X.env = (false, eval a X.env) :: starEach [b, c] X.env := by rfl) (hs2 : starEach [b, c] X.env = (false, eval b X.env) :: starEach [c] X.env := by rfl) (ht : starEach [c] X.env = [(false, eval c X.env)] := by rfl) : WS X (.Assign [.Tuple [.Name x px, .Name y py, .Name z pz] kt pt] (.Tuple [a, b, c] k2 pt2) pos) D σ H := by
  have hw : swappedStores [.Tuple [.Name x px, .Name y py, .Name z pz] kt pt] (.Tuple [a, b, c] k2 pt2) X.env = pure (some [x, y, z]) := by
    unfold swappedStores
    simp only [hk, hx, hy, hz, hl, hl2, h2, h3, List.length_cons, List.length_nil, List.head?_cons, Option.map_some, Option.getD_some, List.filterMap_cons, List.filterMap_nil, Expr.pos, beq_self_eq_true, Bool.and_self, Bool.and_true, if_true, hne]
    rw [if_neg (by decide)]
    refine (if_neg (fun q => Bool.false_ne_true (h1.symm.trans q))).trans ?_
    rw [if_neg (by decide), if_neg Bool.false_ne_true, if_neg Bool.false_ne_true]
  exact wsP (ps_par3 B.calm n.nd n.at_ n'.at_ n2.at_ hii hi2 hj2 hx hy hz paS hw) (wa_three (we_mono h fun v H1 q => we_mono q fun w H2 q => we_mono q fun u H3 q => ⟨v, w, u, rfl, q⟩) hs hs2 ht)
end
section
variable {P : Program} {w : World} {K : PySem.W.Frag} {mg : Str → Option Value} {base : Heap}
theorem boot_VE : bootBuiltins "ValueError" = some (.type "ValueError") := by decide +kernel
theorem call_isED2 {X : Cx} {a D dd : Addr} {oe : Obj} {pn : List (Addr × Obj)} (C : ExcC X.K D) (hz : Zc (.ref D) (some dd) oe) (hf : ∃ vs, oe.data = .fields vs) : CallR (X.suite a ((a, oe) :: pn)) (.builtin "isinstance") fun xs H Q => ∃ (t C1 C2 : Addr) (r : Bool) (fs : List (Str × V)), xs = [.ref a, .ref t] ∧ H dd = some (.xd fs) ∧ H t = some (.tup [.ref C1, .ref C2]) ∧ PySem.W.kitAny X.K (.ref D) [.ref C1, .ref C2] = some r ∧ Q (.bl r) H := by
  intro pins s σ H xs us Q I r h
  obtain ⟨t, C1, C2, r', fs, rfl, hdd, ht, e, q⟩ := h
  cases r with
  | cons rx rr =>
    cases rr with
    | cons rt rr =>
      cases rr
      cases rx
      cases rt
      obtain ⟨hget, _⟩ := I.pin (a, oe) (List.mem_append.mpr (.inl List.mem_cons_self))
      have hx : ObjOk X.prog X.w H s.heap dd (.xd fs) := I.hok dd _ hdd
      obtain ⟨mA, hns, hr⟩ := hx
      obtain ⟨od, ho, hl⟩ := lookIn_ns hns
      obtain ⟨vs, hv⟩ := hf
      have J : PySem.W.InstAt s.heap a oe D (some od) := ⟨hget, hz.1, by unfold PySem.W.notCls; rw [hv] <;> rfl, by rw [hz.2]; exact ho⟩
      have hcl : (PySem.W.clsIn X.K D).isSome = true := by
        cases z : PySem.W.clsIn X.K D with
        | none =>
          have y := C.hd
          unfold PySem.W.hasDictIn at y
          rw [z] at y
          cases y
        | some cd => rfl
      obtain ⟨its, rv, ⟨o, ho, hc, n, hd⟩, _⟩ := I.tuple (.of ht : SqT X.K H t [.ref C1, .ref C2])
      have ev : its = [Value.ref C1, Value.ref C2] := by
        cases rv with
        | cons r1 rv =>
          cases rv with
          | cons r2 rv =>
            cases rv
            cases r1
            cases r2
            rfl
      obtain ⟨oc, od', oda, osl⟩ := o
      dsimp only at hc hd
      subst hc hd ev
      exact PySem.W.kia_tup (its := [.ref C1, .ref C2]) (PySem.W.kitx_exc (od := some od) hcl C.hg C.hk C.hs C.ha C.hn C.ht C.hm) I.kIn J ho e (fun z => nomatch z) fun tk => ⟨.bl r', H, I.kept (t' := tk) fun _ _ z => z, rfl, q⟩
section
variable {X : Cx} {a D dd : Addr} {oe : Obj} {pn : List (Addr × Obj)} {σ : L2.St} {H : Hp} {Q : VK} {e b : Expr} {p pos : Pos} {n : Str}
theorem we_isED2 (C : ExcC X.K D) (hz : L2N.Zn (.ref D) (some dd) oe) (hf : ∃ vs, oe.data = .fields vs) (bn : Bn (X.suite a ((a, oe) :: pn)) "isinstance")
    (h : WE (X.suite a ((a, oe) :: pn)) e σ H fun v H1 => WE (X.suite a ((a, oe) :: pn)) b σ H1 fun w H2 => v = .ref a ∧ ∃ (t C1 C2 : Addr) (r : Bool) (fs : List (Str × V)), w = .ref t ∧ H2 dd = some (.xd fs) ∧ H2 t = some (.tup [.ref C1, .ref C2]) ∧ PySem.W.kitAny X.K (.ref D) [.ref C1, .ref C2] = some r ∧ Q (.bl r) H2)
    (hs : starEach [e, b] X.env = (false, eval e X.env) :: starEach [b] X.env := by rfl) (ht : starEach [b] X.env = [(false, eval b X.env)] := by rfl) (hl : (backTo pos (starEach [b] X.env)).any (·.1) = false := by rfl) :
    WE (X.suite a ((a, oe) :: pn)) (.Call (.Name "isinstance" p) [e, b] [] pos) σ H Q :=
  we_callB (call_isED2 (pn := pn) C hz.zc hf) bn boot_isinstance (wa_two (we_mono h fun v H1 q => we_mono q fun w H2 q => by
    obtain ⟨rfl, t, C1, C2, r, fs, rfl, hd, h1, h2, q⟩ := q
    exact ⟨t, C1, C2, r, fs, rfl, hd, h1, h2, q⟩) hs ht) (by decide) (by decide) hs hl
end
theorem Ex.xd {H H' : Hp} {d : Addr} {o : HO} (x : Ex H H') (h : H' d = none) : Ex H (upd H' d o) := x.trans (Ex.new h)
theorem cvd_ref {C D a d : Addr} {H : Hp} {fs : List (Str × V)} {r : Bool} {P : Bool → Prop} (hd : H d = some (.xd fs)) (h : PySem.W.kitOne K (.ref D) (.ref C) = some r) (q : P r) :
    V.ref a = .ref a ∧ (∃ fs, H d = some (.xd fs)) ∧ ∃ cv r, (∀ u, RelV (.ref C) u → u = cv) ∧ PySem.W.kitOne K (.ref D) cv = some r ∧ P r := ⟨rfl, ⟨_, hd⟩, _, _, fun _ z => z, h, q⟩
theorem cvd_ty {t : String} {D a d : Addr} {H : Hp} {fs : List (Str × V)} {r : Bool} {P : Bool → Prop} (hd : H d = some (.xd fs)) (h : PySem.W.kitOne K (.ref D) (.type t) = some r) (q : P r) :
    V.ref a = .ref a ∧ (∃ fs, H d = some (.xd fs)) ∧ ∃ cv r, (∀ u, RelV (.ty t) u → u = cv) ∧ PySem.W.kitOne K (.ref D) cv = some r ∧ P r := ⟨rfl, ⟨_, hd⟩, _, _, fun _ z => z, h, q⟩
end

/-! ### rows of pairs: tails, one more, copies -/
theorem cut1 {xs : List V} : cutV xs (some 1) none = xs.tail := by
  unfold cutV
  rw [show HT.sIx xs.length 0 (some 1) = min 1 xs.length from HT.sIx_nat xs.length 0 1, HT.sIx_none]
  cases xs with
  | nil => rfl
  | cons x xs =>
    rw [show min 1 (x :: xs).length = 1 from by rw [List.length_cons]; omega, List.drop_one, List.tail_cons, List.length_cons, Nat.add_sub_cancel, List.take_length]
theorem PrL.tail {qs : List Rat} {us : List V} {H : Hp} (h : PrL qs us H) : PrL qs.tail us.tail H := by
  refine ⟨by rw [List.length_tail, List.length_tail, h.1], fun j v hv => ?_⟩
  rw [List.getElem?_tail] at hv
  have := h.2 (j + 1) v hv
  rw [List.getD_eq_getElem?_getD, List.getElem?_tail, ← List.getD_eq_getElem?_getD]
  exact this
theorem PrL.app1 {qs : List Rat} {us : List V} {H : Hp} {d : Rat} {dv : V} (h : PrL qs us H) (hd : PrQ d dv H) : PrL (qs ++ [d]) (us ++ [dv]) H := by
  refine ⟨by rw [List.length_append, List.length_append, h.1]; rfl, fun j v hv => ?_⟩
  have hj := (List.getElem?_eq_some_iff.mp hv).1
  rw [List.length_append] at hj
  have hj : j < us.length + 1 := hj
  by_cases c : j < us.length
  · rw [List.getElem?_append_left c] at hv
    rw [List.getD_eq_getElem?_getD, List.getElem?_append_left (by rw [← h.1]; exact c), ← List.getD_eq_getElem?_getD]
    exact h.2 j v hv
  · obtain rfl : j = us.length := by omega
    rw [List.getElem?_append_right (Nat.le_refl _), Nat.sub_self] at hv
    cases hv
    rw [List.getD_eq_getElem?_getD, h.1, List.getElem?_append_right (Nat.le_refl _), Nat.sub_self]
    exact hd
theorem PrL.rep {n : Nat} {e : Rat} {ev : V} {H : Hp} (h : PrQ e ev H) : PrL (List.replicate n e) (List.replicate n ev) H := by
  refine ⟨by rw [List.length_replicate, List.length_replicate], fun j v hv => ?_⟩
  have hj : j < n := by
    have := (List.getElem?_eq_some_iff.mp hv).1
    rw [List.length_replicate] at this
    exact this
  have ev' := (List.mem_replicate.mp (List.mem_of_getElem? hv)).2
  subst ev'
  rw [List.getD_eq_getElem?_getD, List.getElem?_replicate, if_pos hj]
  exact h

/-! ### rounds played one by one: _law_state, _law_learn, _law_go -/
/-- the samples that are kept, and the next wait -/
structure BkPl (z : Bk) : Prop where
  ok : BkOk z
  s1 : Sz z.share 8
structure PSt where
  es : List Rat
  wt : Rat
def mxl : List Rat → Rat
  | [] => 0
  | q :: qs => qs.foldl rmax q
def StP (st : PSt) (s : Addr) (H : Hp) : Prop := ∃ h us wv, H s = some (.lst [.ref h, wv]) ∧ H h = some (.lst us) ∧ PrL st.es us H ∧ PrQ st.wt wv H
theorem StP.mono {st : PSt} {s : Addr} {H H' : Hp} (x : Ex H H') (h : StP st s H) : StP st s H' := by
  obtain ⟨l, us, wv, h1, h2, h3, h4⟩ := h
  exact ⟨l, us, wv, x.keep _ _ h1 (ns_len (show 2 ≠ 4 by decide)), x.keep _ _ h2 h3.ns, h3.mono x, h4.mono x⟩
/-- small samples and a small wait -/
structure SzP (st : PSt) : Prop where
  ne : st.es ≠ []
  ln : st.es.length ≤ 100
  es : ∀ r ∈ st.es, Sz r 900
  wt : Sz st.wt 700
/-- the samples behind one more -/
def lrnE (z : Bk) (st : PSt) (x : Rat) : List Rat := match z.latest with
  | none => [mxl st.es + z.share * (x - mxl st.es)]
  | some _ => st.es.tail ++ [x]
def lrnP (z : Bk) (st : PSt) : Option Rat → Rat → PSt
  | none, last => if z.kept = true then ⟨st.es, last⟩ else st
  | some x, _ => ⟨lrnE z st x, madeW z (mxl (lrnE z st x))⟩
theorem lrn_kept {z : Bk} {st : PSt} {last : Rat} (h : z.kept = true) : lrnP z st none last = ⟨st.es, last⟩ := if_pos h
theorem lrn_not {z : Bk} {st : PSt} {last : Rat} (h : z.kept = false) : lrnP z st none last = st := if_neg (by rw [h]; exact Bool.false_ne_true)
theorem lrnE_n {z : Bk} {st : PSt} {x : Rat} (h : z.latest = none) : lrnE z st x = [mxl st.es + z.share * (x - mxl st.es)] := by unfold lrnE; rw [h]
theorem lrnE_s {z : Bk} {st : PSt} {x : Rat} {m : Nat} (h : z.latest = some m) : lrnE z st x = st.es.tail ++ [x] := by unfold lrnE; rw [h]
theorem lrnE_ne {z : Bk} {st : PSt} {x : Rat} : lrnE z st x ≠ [] := by
  unfold lrnE
  cases z.latest with
  | none => exact fun e => nomatch e
  | some m => exact List.append_ne_nil_of_right_ne_nil _ (fun e => nomatch e)
/-- the sample of a round -/
def lesP (z : Bk) (u d : Rat) : Option Rat := if z.word = "clean" ∧ 0 < ndl z.doubled u d then none else if z.word = "last" then some (d - (Mt.mk z.doubled (ndl z.doubled u d) : Rat) * u) else some d
def goP (z : Bk) (st : PSt) (d : Rat) : PSt := lrnP z st (lesP z st.wt d) ((Mt.wk z.doubled (ndl z.doubled st.wt d) : Rat) * st.wt)
theorem PrL.uph {qs : List Rat} {us : List V} {s : Addr} {xs ys : List V} {H : Hp} (hs : H s = some (.lst xs)) (h : PrL qs us H) : PrL qs us (upd H s (.lst ys)) := ⟨h.1, fun j v e => by
  obtain ⟨t, e1, h1⟩ := h.2 j v e
  exact ⟨t, e1, (upd_ne (fun c => by subst c; rw [h1] at hs; cases hs)).trans h1⟩⟩
theorem PrQ.uph {q : Rat} {v : V} {s : Addr} {xs ys : List V} {H : Hp} (hs : H s = some (.lst xs)) (h : PrQ q v H) : PrQ q v (upd H s (.lst ys)) := by
  obtain ⟨t, e1, h1⟩ := h
  exact ⟨t, e1, (upd_ne (fun c => by subst c; rw [h1] at hs; cases hs)).trans h1⟩
/-- the state is none of its rows -/
theorem st_ne {es : List Rat} {us : List V} {s h : Addr} {wv : V} {H : Hp} (ne : es ≠ []) (hs : H s = some (.lst [.ref h, wv])) (hh : H h = some (.lst us)) (hp : PrL es us H) : h ≠ s := fun e => by
  subst e
  rw [hs] at hh
  cases hh
  obtain ⟨t, e1, h1⟩ := hp.2 0 (.ref h) rfl
  cases e1
  rw [hs] at h1
  cases h1
theorem mxl_sz {n : Nat} {l : List Rat} (hn : l ≠ []) (h : ∀ r ∈ l, Sz r n) : Sz (mxl l) n := by
  cases l with
  | nil => exact absurd rfl hn
  | cons q qs => exact foldl_sz (h q List.mem_cons_self) fun r hr => h r (List.mem_cons_of_mem _ hr)
section
variable {P : Program} {w : World} {K : PySem.W.Frag} {mg : Str → Option Value} {base : Heap}
/-- state[0], its greatest one -/
theorem est_i {st : PSt} {s h : Addr} {us : List V} {wv : V} {H : Hp} {Q : VK} {E : XK} (z : SzP st) (hs : H s = some (.lst [.ref h, wv])) (hh : H h = some (.lst us)) (hp : PrL st.es us H) (k : ∀ y, PrQ (mxl st.es) y H → Q y H) : spMaxE [.ref s] H Q E := by
  obtain ⟨es, wt⟩ := st
  cases es with
  | nil => exact absurd rfl z.ne
  | cons q qs => exact ⟨s, h, _, q, qs, us, rfl, hs, hh, hp, fun r hr => (z.es r hr).mono (by decide), fun y hy => k y hy⟩
def spState : Sp := fun vs H Q _ => ∃ z l v1 v3 v4 v5 v6 e ev, vs = [.ref l, ev] ∧ H l = some (.lst (row9 z v1 v3 v4 v5 v6)) ∧ RuP z v1 v3 v4 v5 v6 H ∧ BkPl z ∧ PrQ e ev H ∧ Sz e 900 ∧ ∀ s H', Ex H H' → H s = none → StP ⟨List.replicate (z.latest.getD 1) e, madeW z e⟩ s H' → Q (.ref s) H'
theorem f__law_state (T : Tm K mg) : GFn P w K mg base 5 "_law_state" spState := by
  obtain ⟨fd, F⟩ := T.d__law_state
  refine GFn.mk F T.g__law_state (def_ok F sc__law_state (fun vs H Q E h => by obtain ⟨z, l, v1, v3, v4, v5, v6, e, ev, rfl, _⟩ := h; rfl) ?_) (F.bindsN fun _ _ _ _ _ _ us hl => match us, hl with | [_, _], _ => rfl)
  intro X eP ew eK em eb eN es hf nd H vs Q E B h
  subst eP ew eK em eb
  have n0 : Sl X 0 "_law_rules_here" := slot_of eN es hf nd rfl (by first | exact Or.inl rfl | exact Or.inr rfl) (by decide) (by decide)
  have n1 : Sl X 1 "_law_estimate_here" := slot_of eN es hf nd rfl (by first | exact Or.inl rfl | exact Or.inr rfl) (by decide) (by decide)
  have g__law_wait : Gn X "_law_wait" := gn_of es rfl (by decide)
  have F__law_wait := f__law_wait (P := X.prog) (w := X.w) (base := X.base) T
  obtain ⟨z, l, v1, v3, v4, v5, v6, e, ev, rfl, hl, hr, sm, he, ze, k⟩ := h
  show WB X [_] _ [some (.ref l), some (ev)] H
  repeat walk_at "w"
  rename_i lw Hg ng xg hg
  have hlg := xg.keep _ _ hl ns9
  repeat walk_at "w"
  cases el : z.latest with
  | none =>
    rw [decide_eq_true (show latV none = V.non from rfl)]
    repeat walk_at "w"
    refine op2_of op_rep ⟨lw, 1, [ev], rfl, rfl, hg, by decide, by decide, lenk (vs := [ev]) 1 rfl, fun q nq => ?_⟩
    have xq := xg.trans (Ex.new (o := .lst ((List.replicate (Int.toNat 1) [ev]).flatten)) nq)
    repeat walk_at "w"
    refine ⟨z, l, v1, v3, v4, v5, v6, e, ev, rfl, xq.keep _ _ hl ns9, hr.mono xq, sm.ok, he.mono xq, ze.mono (by decide), fun y Hc xc hy => ?_⟩
    refine lst_i (lenk 2 rfl) fun s Hs ns xs hs => ?_
    refine k s Hs ((xq.trans xc).trans xs) ((xq.trans xc).back ns) ⟨q, _, y, hs, (xc.trans xs).keep _ _ upd_same (PrL.rep (n := 1) he).ns, ?_, hy.mono xs⟩
    rw [el]
    exact PrL.rep (n := 1) (he.mono ((xq.trans xc).trans xs))
  | some m =>
    have k20 := sm.ok.lat m el
    rw [decide_eq_false (fun e => nomatch e : ¬ latV (some m) = V.non)]
    repeat walk_at "w"
    rw [el]
    refine op2_of op_rep ⟨lw, m, [ev], rfl, rfl, hg, by omega, by omega, ?_, fun q nq => ?_⟩
    · rw [Int.toNat_natCast]
      exact Nat.le_trans (show 1 * m ≤ 1000 by omega) (by decide)
    rw [Int.toNat_natCast, List.flatten_replicate_singleton]
    have xq := xg.trans (Ex.new (o := .lst (List.replicate m ev)) nq)
    repeat walk_at "w"
    refine ⟨z, l, v1, v3, v4, v5, v6, e, ev, rfl, xq.keep _ _ hl ns9, hr.mono xq, sm.ok, he.mono xq, ze.mono (by decide), fun y Hc xc hy => ?_⟩
    refine lst_i (lenk 2 rfl) fun s Hs ns xs hs => ?_
    refine k s Hs ((xq.trans xc).trans xs) ((xq.trans xc).back ns) ⟨q, _, y, hs, (xc.trans xs).keep _ _ upd_same (PrL.rep he).ns, ?_, hy.mono xs⟩
    rw [el]
    exact PrL.rep (he.mono ((xq.trans xc).trans xs))
def spLearn : Sp := fun vs H Q _ => ∃ H0 z l v1 v3 v4 v5 v6 s st o last ov lv, vs = [.ref l, .ref s, ov, lv] ∧ Ex H0 H ∧ H0 s = none ∧ H0 l = some (.lst (row9 z v1 v3 v4 v5 v6)) ∧ RuP z v1 v3 v4 v5 v6 H0 ∧ BkPl z ∧ StP st s H ∧ SzP st ∧ OPr o ov H ∧ (∀ x, o = some x → Sz x 900 ∧ ∀ r ∈ lrnE z st x, Sz r 900) ∧ (o = none → PrQ last lv H) ∧
  ∀ H', Ex H0 H' → StP (lrnP z st o last) s H' → Q (.ref s) H'
theorem f__law_learn (T : Tm K mg) : GFn P w K mg base 6 "_law_learn" spLearn := by
  obtain ⟨fd, F⟩ := T.d__law_learn
  refine GFn.mk F T.g__law_learn (def_ok F sc__law_learn (fun vs H Q E h => by obtain ⟨H0, z, l, v1, v3, v4, v5, v6, s, st, o, last, ov, lv, rfl, _⟩ := h; rfl) ?_) (F.bindsN fun _ _ _ _ _ _ us hl => match us, hl with | [_, _, _, _], _ => rfl)
  intro X eP ew eK em eb eN es hf nd H vs Q E B h
  subst eP ew eK em eb
  have n0 : Sl X 0 "_law_rules_here" := slot_of eN es hf nd rfl (by first | exact Or.inl rfl | exact Or.inr rfl) (by decide) (by decide)
  have n1 : Sl X 1 "_law_state_here" := slot_of eN es hf nd rfl (by first | exact Or.inl rfl | exact Or.inr rfl) (by decide) (by decide)
  have n2 : Sl X 2 "_law_lesson" := slot_of eN es hf nd rfl (by first | exact Or.inl rfl | exact Or.inr rfl) (by decide) (by decide)
  have n3 : Sl X 3 "_law_last" := slot_of eN es hf nd rfl (by first | exact Or.inl rfl | exact Or.inr rfl) (by decide) (by decide)
  have n4 : Sl X 4 "_law_before" := slot_of eN es hf nd rfl (by first | exact Or.inl rfl | exact Or.inr rfl) (by decide) (by decide)
  have g__law_estimate : Gn X "_law_estimate" := gn_of es rfl (by decide)
  have F__law_estimate := f__law_estimate (P := X.prog) (w := X.w) (base := X.base) T
  have g__law_sum : Gn X "_law_sum" := gn_of es rfl (by decide)
  have F__law_sum := f__law_sum (P := X.prog) (w := X.w) (base := X.base) T
  have g__law_by : Gn X "_law_by" := gn_of es rfl (by decide)
  have F__law_by := f__law_by (P := X.prog) (w := X.w) (base := X.base) T
  have g__law_minus : Gn X "_law_minus" := gn_of es rfl (by decide)
  have F__law_minus := f__law_minus (P := X.prog) (w := X.w) (base := X.base) T
  have g__law_wait : Gn X "_law_wait" := gn_of es rfl (by decide)
  have F__law_wait := f__law_wait (P := X.prog) (w := X.w) (base := X.base) T
  obtain ⟨H0, z, l, v1, v3, v4, v5, v6, s, st, o, last, ov, lv, rfl, x0, ns, hl0, hr0, sm, ⟨h, us, wv, hs, hh, hp, hw⟩, zs, ho, zo, hlast, k⟩ := h
  show WB X [_, _, _, _, _] _ [some (.ref l), some (.ref s), some (ov), some (lv), none] H
  have kl : ∀ {G : Hp}, Ex H0 G → G l = some (.lst (row9 z v1 v3 v4 v5 v6)) := fun x => x.keep _ _ hl0 ns9
  have hl := kl x0
  have hr := hr0.mono x0
  have ns2 : ∀ {a b : V}, ¬ Src (.lst [a, b]) := fun {a b} => ns_len (show 2 ≠ 4 by decide)
  cases o with
  | none =>
    cases ho
    have hlast := hlast rfl
    repeat walk_at "w"
    rw [decide_eq_true (rfl : V.non = V.non)]
    repeat walk_at "w"
    cases ek : z.kept with
    | true =>
      rw [lrn_kept ek] at k
      refine iteT (wb_one (ws_put ?_))
      repeat walk_at "w"
      refine put_l hs (j := 1) rfl ?_
      show WB X _ _ _ _
      repeat walk_at "w"
      exact k _ (x0.put ns) ⟨h, us, lv, upd_same, (upd_ne (st_ne zs.ne hs hh hp)).trans hh, PrL.uph hs hp, PrQ.uph hs hlast⟩
    | false =>
      rw [lrn_not ek] at k
      refine iteF ?_
      repeat walk_at "w"
      exact k H x0 ⟨h, us, wv, hs, hh, hp, hw⟩
  | some x =>
    have ho : PrQ x ov H := ho
    obtain ⟨zx, zle⟩ := zo x rfl
    have nn : ov ≠ .non := by
      obtain ⟨t, rfl, _⟩ := ho
      exact fun e => nomatch e
    with_reducible refine' wb_cons ?_
    with_reducible refine' ws_to (fun σ' H' => σ' = [some (.ref l), some (.ref s), some ov, some lv, none] ∧ H = H') ?_ ?_
    · repeat walk_at "w"
      rw [decide_eq_false nn]
      repeat walk_at "w"
      exact ⟨rfl, rfl⟩
    rintro σ' H' ⟨rfl, rfl⟩
    show WB X _ _ _ _
    with_reducible refine' wb_cons ?_
    with_reducible refine' ws_to (fun σ' H' => ∃ b, σ' = [some (.ref l), some (.ref s), some ov, some lv, some b] ∧ H = H' ∧ PrQ (mxl st.es) b H) ?_ ?_
    · repeat walk_at "w"
      exact est_i zs hs hh hp fun y hy => ⟨y, rfl, rfl, hy⟩
    rintro σ' H' ⟨b, rfl, rfl, hb⟩
    show WB X _ _ _ _
    have zmx := mxl_sz zs.ne zs.es
    have zxm : Sz (x - mxl st.es) 1801 := (zx.sub zmx).mono (by decide)
    have zsx : Sz (z.share * (x - mxl st.es)) 1809 := (sm.s1.mul zxm).mono (by decide)
    with_reducible refine' wb_cons ?_
    with_reducible refine' ws_to (fun σ' H' => ∃ h' us', σ' = [some (.ref l), some (.ref s), some ov, some lv, some b] ∧ Ex H0 H' ∧ H' s = some (.lst [.ref h', wv]) ∧ H' h' = some (.lst us') ∧ PrL (lrnE z st x) us' H') ?_ ?_
    · refine ws_if (wt_cmp ?_ ?hm)
      case hm => rfl
      repeat walk_at "w"
      cases el : z.latest with
      | none =>
        rw [decide_eq_true (show latV none = V.non from rfl)]
        refine iteT (wb_one (ws_put ?_))
        repeat walk_at "w"
        refine ⟨x, mxl st.es, ov, b, rfl, ho, hb, zx.mono (by decide), zmx.mono (by decide), fun w1 Hc xc hw1 => ?_⟩
        refine ⟨z.share, _, v1, w1, rfl, hr.sh.mono xc, hw1, sm.s1.mono (by decide), zxm.mono (by decide), fun w2 Hd xd hw2 => ?_⟩
        refine ⟨mxl st.es, _, b, w2, rfl, hb.mono (xc.trans xd), hw2, zmx.mono (by decide), zsx.mono (by decide), fun w3 He xe hw3 => ?_⟩
        refine lst_i (show ([w3] : List V).length ≤ sizeLine from lenk 1 rfl) fun q Hf nq xf hq => ?_
        have xx := ((xc.trans xd).trans xe).trans xf
        have hsf := xx.keep _ _ hs ns2
        repeat walk_at "w"
        refine put_l hsf (j := 0) rfl ?_
        refine ⟨q, [w3], rfl, (x0.trans xx).put ns, upd_same, (upd_ne (fun e => by subst e; have := ((xc.trans xd).trans xe).keep _ _ hs ns2; rw [nq] at this; cases this)).trans hq, ?_⟩
        rw [lrnE_n el]
        exact PrL.uph hsf (PrL.rep (n := 1) (hw3.mono xf))
      | some m =>
        have k20 := sm.ok.lat m el
        rw [decide_eq_false (fun e => nomatch e : ¬ latV (some m) = V.non)]
        refine iteF (wb_one (ws_put ?_))
        repeat walk_at "w"
        refine we_cutL ?_
        repeat walk_at "w"
        repeat walk_at "w"
        refine ⟨h, us, 1, rfl, rfl, .of hh, fun l2 n2 => ?_⟩
        have xd := Ex.new (o := .lst (cutV us (some 1) none)) n2
        repeat walk_at "w"
        rename_i l3 Hc n3 xc h3
        have hpt := hp.tail
        rw [cut1] at xd xc
        refine o_catL (xs := us.tail) (zs := [ov]) (xc.keep _ _ (upd_same) (hpt.ns)) h3 ?_ fun q nq => ?_
        · rw [List.length_tail, hp.1]
          have := zs.ln
          exact Nat.le_trans (show st.es.length - 1 + 1 ≤ 1000 by omega) (by decide)
        have xq := Ex.new (o := .lst (us.tail ++ [ov])) nq
        have xx := (xd.trans xc).trans xq
        have hsf := xx.keep _ _ hs ns2
        repeat walk_at "w"
        refine put_l hsf (j := 0) rfl ?_
        refine ⟨q, us.tail ++ [ov], rfl, (x0.trans xx).put ns, upd_same, (upd_ne (fun e => by subst e; have := (xd.trans xc).keep _ _ hs ns2; rw [nq] at this; cases this)).trans upd_same, ?_⟩
        rw [lrnE_s el]
        exact PrL.uph hsf ((hpt.app1 ho).mono xx)
    rintro σ' H1 ⟨h1, us1, rfl, x1, hs1, hh1, hp1⟩
    have hl1 := kl x1
    have hr1 := hr0.mono x1
    show WB X _ _ _ _
    with_reducible refine' wb_cons ?_
    with_reducible refine' ws_to (fun σ' H' => σ' = [some (.ref l), some (.ref s), some ov, some lv, some b] ∧ Ex H0 H' ∧ StP (lrnP z st (some x) last) s H') ?_ ?_
    · refine ws_put ?_
      repeat walk_at "w"
      have zne : lrnE z st x ≠ [] := lrnE_ne
      have zm1 := mxl_sz zne zle
      obtain ⟨q, qs, eq⟩ : ∃ q qs, lrnE z st x = q :: qs := by
        cases e : lrnE z st x with
        | nil => exact absurd e zne
        | cons q qs => exact ⟨q, qs, rfl⟩
      have hp2 := hp1
      rw [eq] at hp2
      refine ⟨s, h1, _, q, qs, us1, rfl, hs1, hh1, hp2, fun r hr => (zle r (by rw [eq]; exact hr)).mono (by decide), fun y hy => ?_⟩
      have hy : PrQ (mxl (lrnE z st x)) y H1 := by rw [eq]; exact hy
      refine ⟨z, l, v1, v3, v4, v5, v6, _, y, rfl, hl1, hr1, sm.ok, hy, zm1.mono (by decide), fun y2 Hc xc hy2 => ?_⟩
      have hsc := xc.keep _ _ hs1 ns2
      repeat walk_at "w"
      refine put_l hsc (j := 1) rfl ?_
      refine ⟨rfl, (x1.trans xc).put ns, h1, us1, y2, upd_same, (upd_ne (st_ne zne hs1 hh1 hp1)).trans (xc.keep _ _ hh1 hp1.ns), PrL.uph hsc (hp1.mono xc), PrQ.uph hsc hy2⟩
    rintro σ' H2 ⟨rfl, x2, hst⟩
    show WB X _ _ _ _
    repeat walk_at "w"
    exact k H2 x2 hst
end

/-! ### _law_go -/
theorem mk_szP {b : Bool} {n : Nat} (h1 : b = true → n ≤ 400) (h2 : n ≤ 2 ^ 400) : Sz (Mt.mk b n : Rat) 410 := by
  refine Sz.int ?_ (by decide)
  cases b with
  | true => exact Nat.lt_of_le_of_lt (Mt.mk_le true n) (Nat.pow_lt_pow_right (by decide) (by have := h1 rfl; omega))
  | false =>
    show ((n : Nat) : Int).natAbs < 2 ^ 410
    rw [Int.natAbs_natCast]
    exact Nat.lt_of_le_of_lt h2 (Nat.pow_lt_pow_right (by decide) (by decide))
section
variable {P : Program} {w : World} {K : PySem.W.Frag} {mg : Str → Option Value} {base : Heap}
def spGo : Sp := fun vs H Q _ => ∃ H0 z l v1 v3 v4 v5 v6 s st d dv, vs = [.ref l, .ref s, dv] ∧ Ex H0 H ∧ H0 s = none ∧ H0 l = some (.lst (row9 z v1 v3 v4 v5 v6)) ∧ RuP z v1 v3 v4 v5 v6 H0 ∧ BkPl z ∧ StP st s H ∧ SzP st ∧ PrQ d dv H0 ∧ 0 < d ∧ 0 < st.wt ∧ Sz d 200 ∧ d ≤ ((2 ^ 400 : Nat) : Rat) * st.wt ∧
  (∀ x, lesP z st.wt d = some x → Sz x 900 ∧ ∀ r ∈ lrnE z st x, Sz r 900) ∧ ∀ H', Ex H0 H' → StP (goP z st d) s H' → Q (.int (ndl z.doubled st.wt d : Nat)) H'
theorem f__law_go (T : Tm K mg) : GFn P w K mg base 7 "_law_go" spGo := by
  obtain ⟨fd, F⟩ := T.d__law_go
  refine GFn.mk F T.g__law_go (def_ok F sc__law_go (fun vs H Q E h => by obtain ⟨H0, z, l, v1, v3, v4, v5, v6, s, st, d, dv, rfl, _⟩ := h; rfl) ?_) (F.bindsN fun _ _ _ _ _ _ us hl => match us, hl with | [_, _, _], _ => rfl)
  intro X eP ew eK em eb eN es hf nd H vs Q E B h
  subst eP ew eK em eb
  have n0 : Sl X 0 "_law_rules_here" := slot_of eN es hf nd rfl (by first | exact Or.inl rfl | exact Or.inr rfl) (by decide) (by decide)
  have n1 : Sl X 1 "_law_state_here" := slot_of eN es hf nd rfl (by first | exact Or.inl rfl | exact Or.inr rfl) (by decide) (by decide)
  have n2 : Sl X 2 "_law_delay" := slot_of eN es hf nd rfl (by first | exact Or.inl rfl | exact Or.inr rfl) (by decide) (by decide)
  have n3 : Sl X 3 "_law_count" := slot_of eN es hf nd rfl (by first | exact Or.inl rfl | exact Or.inr rfl) (by decide) (by decide)
  have n4 : Sl X 4 "_law_start" := slot_of eN es hf nd rfl (by first | exact Or.inl rfl | exact Or.inr rfl) (by decide) (by decide)
  have n5 : Sl X 5 "_law_last" := slot_of eN es hf nd rfl (by first | exact Or.inl rfl | exact Or.inr rfl) (by decide) (by decide)
  have n6 : Sl X 6 "_law_lesson" := slot_of eN es hf nd rfl (by first | exact Or.inl rfl | exact Or.inr rfl) (by decide) (by decide)
  have g__law_steady : Gn X "_law_steady" := gn_of es rfl (by decide)
  have F__law_steady := f__law_steady (P := X.prog) (w := X.w) (base := X.base) T
  have g__law_minus : Gn X "_law_minus" := gn_of es rfl (by decide)
  have F__law_minus := f__law_minus (P := X.prog) (w := X.w) (base := X.base) T
  have g__law_learn : Gn X "_law_learn" := gn_of es rfl (by decide)
  have F__law_learn := f__law_learn (P := X.prog) (w := X.w) (base := X.base) T
  obtain ⟨H0, z, l, v1, v3, v4, v5, v6, s, st, d, dv, rfl, x0, ns, hl0, hr0, sm, hst, zs, hd0, d0, w0, zd, big, zo, k⟩ := h
  show WB X [_, _, _, _, _, _] _ [some (.ref l), some (.ref s), some (dv), none, none, none, none] H
  have kl : ∀ {G : Hp}, Ex H0 G → G l = some (.lst (row9 z v1 v3 v4 v5 v6)) := fun x => x.keep _ _ hl0 ns9
  have hl := kl x0
  have hr := hr0.mono x0
  have hd := hd0.mono x0
  generalize hc : ndl z.doubled st.wt d = c at k
  with_reducible refine' wb_cons ?_
  with_reducible refine' ws_to (fun σ' H' => ∃ av lv, σ' = [some (.ref l), some (.ref s), some dv, some (.int (c : Nat)), some av, some lv, none] ∧ Ex H H' ∧ PrQ ((Mt.mk z.doubled c : Rat) * st.wt) av H' ∧ PrQ ((Mt.wk z.doubled c : Rat) * st.wt) lv H') ?_ ?_
  · obtain ⟨h, us, wv, hs, hh, hp, hw⟩ := hst
    refine ws_unl3 B n3 n4 n5 ?_
    repeat walk_at "w"
    refine ⟨z.doubled, st.wt, d, wv, dv, rfl, hw, hd, w0, d0, zs.wt, zd, big, fun t x y H' xa ht hx hy => ?_⟩
    rw [hc] at ht hx hy
    exact ⟨t, _, x, y, rfl, .of ht, x, y, rfl, xa, hx, hy⟩
  rintro σ' H1 ⟨av, lv, rfl, x1, hav, hlv⟩
  have x01 := x0.trans x1
  have hl1 := kl x01
  have hd1 := hd.mono x1
  have hst1 := hst.mono x1
  show WB X _ _ _ _
  with_reducible refine' wb_cons ?_
  with_reducible refine' ws_to (fun σ' H' => σ' = [some (.ref l), some (.ref s), some dv, some (.int (c : Nat)), some av, some lv, some dv] ∧ H1 = H') ?_ ?_
  · repeat walk_at "w"
    exact ⟨rfl, rfl⟩
  rintro σ' H' ⟨rfl, rfl⟩
  show WB X _ _ _ _
  with_reducible refine' wb_cons ?_
  with_reducible refine' ws_to (fun σ' H' => ∃ xv, σ' = [some (.ref l), some (.ref s), some dv, some (.int (c : Nat)), some av, some lv, some xv] ∧ Ex H1 H' ∧ PrQ (if z.word = "last" then d - (Mt.mk z.doubled c : Rat) * st.wt else d) xv H') ?_ ?_
  · repeat walk_at "w"
    refine o_eqS ?_
    by_cases hw : z.word = "last"
    · rw [decide_eq_true hw]
      repeat walk_at "w"
      have zmk : Sz ((Mt.mk z.doubled c : Int) : Rat) 410 := by
        rw [← hc]
        exact mk_szP (fun hb => by rw [hb]; exact ndl_leB w0 d0 big) (ndl_zB w0 d0 big)
      refine ⟨d, _, dv, av, rfl, hd1, hav, zd.mono (by decide), (zmk.mul zs.wt).mono (by decide), fun y Ha xa hy => ?_⟩
      rw [if_pos hw]
      exact ⟨y, rfl, xa, hy⟩
    · rw [decide_eq_false hw]
      repeat walk_at "w"
      rw [if_neg hw]
      exact ⟨dv, rfl, .refl _, hd1⟩
  rintro σ' H2 ⟨xv, rfl, x2, hxv⟩
  have x02 := x01.trans x2
  have hl2 := kl x02
  show WB X _ _ _ _
  with_reducible refine' wb_cons ?_
  with_reducible refine' ws_to (fun σ' H' => ∃ xv, σ' = [some (.ref l), some (.ref s), some dv, some (.int (c : Nat)), some av, some lv, some xv] ∧ Ex H2 H' ∧ OPr (lesP z st.wt d) xv H') ?_ ?_
  · unfold lesP
    rw [hc]
    refine ws_if (wt_and2 (wt_cmp ?_ ?hm))
    case hm => rfl
    repeat walk_at "w"
    refine o_eqS ?_
    by_cases hw : z.word = "clean"
    · rw [decide_eq_true hw]
      repeat walk_at "w"
      by_cases c0 : 0 < c
      · rw [decide_eq_true (show (0 : Int) < (c : Nat) by omega)]
        repeat walk_at "w"
        rw [if_pos ⟨hw, c0⟩]
        exact ⟨.non, rfl, .refl _, rfl⟩
      · rw [decide_eq_false (show ¬ (0 : Int) < (c : Nat) by omega)]
        repeat walk_at "w"
        rw [if_neg (fun x => c0 x.2)]
        refine ⟨xv, rfl, .refl _, ?_⟩
        split at hxv <;> rename_i g
        · rw [if_pos g]; exact hxv
        · rw [if_neg g]; exact hxv
    · rw [decide_eq_false hw]
      repeat walk_at "w"
      rw [if_neg (fun x => hw x.1)]
      refine ⟨xv, rfl, .refl _, ?_⟩
      split at hxv <;> rename_i g
      · rw [if_pos g]; exact hxv
      · rw [if_neg g]; exact hxv
  rintro σ' H3 ⟨ov, rfl, x3, hov⟩
  have x13 := x2.trans x3
  show WB X _ _ _ _
  with_reducible refine' wb_cons ?_
  with_reducible refine' ws_to (fun σ' H' => σ' = [some (.ref l), some (.ref s), some dv, some (.int (c : Nat)), some av, some lv, some ov] ∧ Ex H0 H' ∧ StP (goP z st d) s H') ?_ ?_
  · with_reducible refine' ws_expr ?_ ?hs
    case hs => rfl
    repeat walk_at "w"
    refine ⟨H0, z, l, v1, v3, v4, v5, v6, s, st, lesP z st.wt d, (Mt.wk z.doubled c : Rat) * st.wt, ov, lv, rfl, x01.trans x13, ns, hl0, hr0, sm, hst1.mono x13, zs, hov, zo, fun _ => hlv.mono x13, fun G xg hg => ⟨rfl, xg, ?_⟩⟩
    unfold goP
    rw [hc]
    exact hg
  rintro σ' H4 ⟨rfl, x4, hst4⟩
  show WB X _ _ _ _
  repeat walk_at "w"
  exact k H4 x4 hst4
end

/-! ### rows of pairs and None -/
section
variable {vs : List V}
theorem refs_not_src (h : ∀ (j : Nat) (v : V), vs[j]? = some v → (∃ a, v = .ref a) ∨ v = .non) : ¬ Src (.lst vs) := by
  rintro ⟨l, i, b, r, e, _⟩
  cases e
  rcases h 1 (.int i) rfl with ⟨a, z⟩ | z <;> cases z
end
/-- rows of pairs and None -/
def PsV (os : List (Option Rat)) (vs : List V) (H : Hp) : Prop := vs.length = os.length ∧ ∀ (j : Nat) (v : V), vs[j]? = some v → OPr ((os[j]?).getD none) v H
theorem PsV.mono {os : List (Option Rat)} {vs : List V} {H H' : Hp} (x : Ex H H') (h : PsV os vs H) : PsV os vs H' := ⟨h.1, fun j v e => (h.2 j v e).mono x⟩
theorem PsV.ns {os : List (Option Rat)} {vs : List V} {H : Hp} (h : PsV os vs H) : ¬ Src (.lst vs) := refs_not_src fun j v e => by
  have := h.2 j v e
  cases q : (os[j]?).getD none with
  | none => rw [q] at this; exact .inr this
  | some r =>
    rw [q] at this
    obtain ⟨p, rfl, _⟩ := (this : PrQ r v H)
    exact .inl ⟨p, rfl⟩
theorem PsV.app {os ps : List (Option Rat)} {vs us : List V} {H : Hp} (h : PsV os vs H) (h' : PsV ps us H) : PsV (os ++ ps) (vs ++ us) H := by
  refine ⟨by rw [List.length_append, List.length_append, h.1, h'.1], fun j v e => ?_⟩
  by_cases c : j < vs.length
  · rw [List.getElem?_append_left c] at e
    rw [List.getElem?_append_left (by rw [← h.1]; exact c)]
    exact h.2 j v e
  · rw [List.getElem?_append_right (by omega)] at e
    rw [List.getElem?_append_right (by rw [← h.1]; omega), ← h.1]
    exact h'.2 _ v e
theorem PsV.one {o : Option Rat} {v : V} {H : Hp} (h : OPr o v H) : PsV [o] [v] H := ⟨rfl, fun j u e => by
  obtain rfl : j = 0 := by
    have := (List.getElem?_eq_some_iff.mp e).1
    have : j < 1 := this
    omega
  cases e
  exact h⟩
theorem PsV.rep {n : Nat} {H : Hp} : PsV (List.replicate n none) (List.replicate n .non) H := ⟨by rw [List.length_replicate, List.length_replicate], fun j u e => by
  rw [List.getElem?_replicate] at e
  split at e
  · rename_i c
    cases e
    rw [List.getElem?_replicate, if_pos c]
    exact rfl
  · cases e⟩
theorem OPr.upG {o : Option Rat} {v : V} {H : Hp} {p : Addr} {ys zs : List V} (h : OPr o v H) (hp : H p = some (.lst ys)) : OPr o v (upd H p (.lst zs)) := by
  cases o with
  | none => exact h
  | some q =>
    obtain ⟨t, rfl, ht⟩ := (h : PrQ q v H)
    exact ⟨t, rfl, (upd_ne (fun e => by subst e; rw [ht] at hp; cases hp)).trans ht⟩
theorem PsV.nil {H : Hp} : PsV [] [] H := ⟨rfl, fun j u e => by cases e⟩

/-! ### found[a], found[b] = x, y -/
theorem sw_sub2 {a b c d e1 e2 : Expr} {p1 p2 pt pt2 : Pos} {kt k2 : Nat} {env : Env} : swappedStores [.Tuple [.Subscript a b p1, .Subscript c d p2] kt pt] (.Tuple [e1, e2] k2 pt2) env = pure none := by
  unfold swappedStores
  cases h1 : (env.blockKind != .function) <;> cases h2 : ([e1, e2].any fun | .Starred .. => true | _ => false) <;> simp [h1, h2]
section
variable {X : Cx} {k : Nat} {E : L2.St → XK} {σ : L2.St} {H : Hp} {D : Ends} {a b c d e1 e2 : Expr} {pos p1 p2 pt pt2 : Pos} {kt k2 : Nat}
def PutAt (H : Hp) (x y v : V) (P : Hp → Prop) : Prop := ∃ p xs i j, x = .ref p ∧ y = .int i ∧ H p = some (.lst xs) ∧ ixN xs.length i = some j ∧ P (upd H p (.lst (xs.set j v)))
theorem PutAt.mk {p : Addr} {xs : List V} {i : Int} {j : Nat} {v : V} {P : Hp → Prop} (hp : H p = some (.lst xs)) (hj : ixN xs.length i = some j) (q : P (upd H p (.lst (xs.set j v)))) : PutAt H (.ref p) (.int i) v P := ⟨p, xs, i, j, rfl, rfl, hp, hj, q⟩
theorem ws_put2 (B : Body X k E)
    (h : WE X e1 σ H fun v H1 => WE X e2 σ H1 fun w H2 => ∀ H3, Ex H2 H3 → WE X a σ H3 fun x H4 => WE X b σ H4 fun y H5 => PutAt H5 x y v fun H6 => WE X c σ H6 fun x' H7 => WE X d σ H7 fun y' H8 => PutAt H8 x' y' w fun H9 => D.nx σ H9)
    (hs : starEach [e1, e2] X.env = (false, eval e1 X.env) :: starEach [e2] X.env := by rfl) (ht : starEach [e2] X.env = [(false, eval e2 X.env)] := by rfl)
    (hn : (assignEach [Expr.Subscript a b p1, .Subscript c d p2] X.env).length = 2 := by rfl) (hst : (assignEach [Expr.Subscript a b p1, .Subscript c d p2] X.env).findIdx? (·.1) = none := by rfl)
    (ha : ∀ v, assign (.Subscript a b p1) X.env v = (do
      let ov ← holding [v] (eval a X.env)
      let iv ← holding [v, ov] (eval b X.env)
      standAt p1
      holding [v, ov, iv] (setItem ov iv v)
      release [v, ov, iv] []) := by intro _; rfl)
    (hb : ∀ v, assign (.Subscript c d p2) X.env v = (do
      let ov ← holding [v] (eval c X.env)
      let iv ← holding [v, ov] (eval d X.env)
      standAt p2
      holding [v, ov, iv] (setItem ov iv v)
      release [v, ov, iv] []) := by intro _; rfl)
    (h1 : (assignEach [Expr.Subscript a b p1, .Subscript c d p2] X.env).map (·.2) = assign (.Subscript a b p1) X.env :: (assignEach [Expr.Subscript c d p2] X.env).map (·.2) := by rfl)
    (h2 : (assignEach [Expr.Subscript c d p2] X.env).map (·.2) = assign (.Subscript c d p2) X.env :: (assignEach [] X.env).map (·.2) := by rfl)
    (h3 : (assignEach [Expr.Tuple [.Subscript a b p1, .Subscript c d p2] kt pt] X.env).map (·.2) = [assign (.Tuple [.Subscript a b p1, .Subscript c d p2] kt pt) X.env] := by rfl) :
    WS X (.Assign [.Tuple [.Subscript a b p1, .Subscript c d p2] kt pt] (.Tuple [e1, e2] k2 pt2) pos) D σ H := by
  refine wsP (ps_asg (peS (e := .Tuple [e1, e2] k2 pt2)) (pg_tup B.calm (pgs_cons (pg_sub peS peS set_list ha) (pgs_cons (pg_sub peS peS set_list hb) pgs_nil h2) h1) hn hst) rfl sw_sub2 h3) ?_
  refine we_tup (wa_two (we_mono h fun v H1 q => we_mono q fun w H2 q => ?_) hs ht)
  refine ⟨Nat.le_trans (show 2 ≤ 1000 by decide) (by decide), fun p H3 hp x e => ?_⟩
  refine ⟨p, _, rfl, .of (by rw [e]; exact upd_same), rfl, v, [w], rfl, we_mono (q H3 x) fun x' H4 q => we_mono q fun y' H5 q => ?_⟩
  obtain ⟨p', xs, i, j, e1, e2, hx, hj, q⟩ := q
  refine ⟨p', xs, i, j, e1, e2, hx, hj, w, [], rfl, we_mono q fun x' H6 q => we_mono q fun y' H7 q => ?_⟩
  obtain ⟨p', xs, i, j, e1, e2, hx, hj, q⟩ := q
  exact ⟨p', xs, i, j, e1, e2, hx, hj, rfl, q⟩
end
theorem put_row {H Ha : Hp} {l : Addr} {xs ys : List V} (xa : Ex H Ha) (nl : H l = none) (hl : Ha l = some (.lst xs)) : Ex H (upd Ha l (.lst ys)) ∧ (∀ q v, PrQ q v Ha → PrQ q v (upd Ha l (.lst ys))) ∧ (∀ o v, OPr o v Ha → OPr o v (upd Ha l (.lst ys))) ∧ upd Ha l (.lst ys) l = some (.lst ys) :=
  ⟨xa.put nl, fun q v h => OPr.upG (o := some q) h hl, fun o v h => OPr.upG h hl, upd_same⟩

/-! ### all_below: what the probes tell -/
theorem highW_leA {o : Option Rat} {u : Rat} : highW o u ≤ u := by
  unfold highW
  cases o with
  | none => exact Rat.le_refl
  | some r => show rmin u r ≤ u; unfold rmin; split <;> grind
theorem lowW_geA {o : Option Rat} {u : Rat} : u ≤ lowW o u := by
  unfold lowW
  cases o with
  | none => exact Rat.le_refl
  | some r => show u ≤ rmax u r; unfold rmax; split <;> grind
theorem lowW_flA {r u : Rat} : r ≤ lowW (some r) u := by
  show r ≤ rmax u r
  unfold rmax
  split <;> grind
def oneS (z : Bk) : Bool := match z.latest with
  | none => true
  | some n => decide (n = 1)
/-- what is learned, of one delay -/
def lsn (z : Bk) (e d : Rat) : Rat := if z.word = "last" then d - (Mt.mk z.doubled (ndl z.doubled (madeW z e) d) : Rat) * madeW z e else d
def bhd (z : Bk) (e d : Rat) : Rat := if oneS z = true then e + z.share * (lsn z e d - e) else rmax e (lsn z e d)
/-- the wait is below the delay, and the next one is not -/
def Lvs (z : Bk) (e d : Rat) : Prop := madeW z e < d ∧ ndl z.doubled (madeW z e) d ≤ 1000 ∧ ¬ (z.word = "clean" ∧ z.kept = false) ∧ d ≤ madeW z (bhd z e d)
section
variable {z : Bk} {e d w : Rat}
theorem mk_1 (b : Bool) : Mt.mk b 1 = 1 := by cases b <;> decide
theorem mk_2 (b : Bool) : Mt.mk b 2 = if b = true then 3 else 2 := by cases b <;> decide
theorem mk_ge1 (b : Bool) {n : Nat} (h : 1 ≤ n) : 1 ≤ Mt.mk b n := by
  obtain ⟨k, rfl⟩ : ∃ k, n = k + 1 := ⟨n - 1, by omega⟩
  unfold Mt.mk
  cases b with
  | false => show (1 : Int) ≤ ((k + 1 : Nat) : Int); omega
  | true =>
    show (1 : Int) ≤ 2 ^ (k + 1) - 1
    have := Mt.pow_pos2 k
    rw [Int.pow_succ]
    omega
theorem mk_two (n : Nat) : Mt.mk true (n + 1) = 2 * Mt.mk true n + 1 := by
  unfold Mt.mk
  show (2 : Int) ^ (n + 1) - 1 = 2 * (2 ^ n - 1) + 1
  rw [Int.pow_succ]
  omega
theorem ndl_1 (u0 : 0 < w) (d0 : 0 < d) (h : w < d) : 1 ≤ ndl z.doubled w d := (ndl_lt u0 d0).mp (by rw [mk_1]; have : ((1 : Int) : Rat) = 1 := rfl; rw [this, Rat.one_mul]; exact h)
def kD (z : Bk) : Rat := (((if z.doubled = true then 3 else 2) : Int) : Rat)
theorem kD_2 : 2 ≤ kD z := by unfold kD; split <;> decide
theorem kD_p : 0 < kD z := by have := kD_2 (z := z); grind
theorem ndl_one (u0 : 0 < w) (d0 : 0 < d) (h : w < d) (h2 : d ≤ kD z * w) : ndl z.doubled w d = 1 := by
  refine Nat.le_antisymm (Nat.not_lt.mp fun c => ?_) (ndl_1 u0 d0 h)
  have := (ndl_lt (b := z.doubled) (k := 2) u0 d0).mpr c
  rw [mk_2] at this
  exact absurd this (Rat.not_lt.mpr h2)
/-- the facts below the delay -/
structure Blw (z : Bk) (e d : Rat) : Prop where
  lin : z.factor * e + z.margin ≤ madeW z e
  fl : ∀ f, z.floor = some f → f ≤ madeW z e
theorem blw (ok : BkOk z) (nr : ∀ r, z.roof = some r → ¬ r < d) (h : madeW z e < d) : Blw z e d := by
  have lo : lowW z.floor (z.factor * e + z.margin) = madeW z e := by
    unfold madeW highW at h ⊢
    cases er : z.roof with
    | none => rfl
    | some r =>
      have := nr r er
      rw [er] at h
      have h : rmin (lowW z.floor (z.factor * e + z.margin)) r < d := h
      show lowW z.floor (z.factor * e + z.margin) = rmin (lowW z.floor (z.factor * e + z.margin)) r
      unfold rmin at h ⊢
      split <;> grind
  refine ⟨by rw [← lo]; exact lowW_geA, fun f ef => ?_⟩
  rw [← lo, ef]
  exact lowW_flA
theorem lin_of (b : Blw z e d) (h : madeW z e < d) {x : Rat} (hx : d ≤ madeW z x) : d ≤ z.factor * x + z.margin := by
  have l : madeW z x ≤ lowW z.floor (z.factor * x + z.margin) := highW_leA
  cases ef : z.floor with
  | none => rw [ef] at l; exact Rat.le_trans hx l
  | some f =>
    have := b.fl f ef
    rw [ef] at l
    have l : madeW z x ≤ rmax (z.factor * x + z.margin) f := l
    unfold rmax at l
    split at l <;> grind
theorem bhd_lin (ok : BkOk z) (b : Blw z e d) (h : madeW z e < d) (e0 : 0 < e) (hx : d ≤ z.factor * bhd z e d + z.margin) : d ≤ (1 - z.share) * madeW z e + z.share * (z.factor * lsn z e d + z.margin) := by
  have sh0 := ok.sh0
  have sh1 := ok.sh1
  have fa := ok.fa
  have l := b.lin
  unfold bhd at hx
  split at hx
  · have p := Rat.mul_le_mul_of_nonneg_left l (show 0 ≤ 1 - z.share by grind)
    grind
  · rename_i c
    have s1 : z.share = 1 := by
      unfold oneS at c
      cases el : z.latest with
      | none => rw [el] at c; exact absurd rfl c
      | some n => exact (ok.lat n el).2.2
    have p := Rat.mul_le_mul_of_nonneg_left (show rmax e (lsn z e d) ≤ rmax e (lsn z e d) from Rat.le_refl) (show 0 ≤ z.factor by grind)
    rw [s1]
    unfold rmax at hx
    split at hx <;> grind
theorem lowest_facts (ok : BkOk z) : z.margin ≤ lowestW z ∧ (∀ f, z.floor = some f → f ≤ lowestW z) ∧ (lowestW z = z.margin ∨ z.floor = some (lowestW z)) := by
  unfold lowestW
  cases ef : z.floor with
  | none => exact ⟨Rat.le_refl, (fun f e => nomatch e), .inl rfl⟩
  | some f =>
    show z.margin ≤ rmax z.margin f ∧ (∀ g, some f = some g → g ≤ rmax z.margin f) ∧ (rmax z.margin f = z.margin ∨ some f = some (rmax z.margin f))
    unfold rmax
    split
    · exact ⟨by grind, (fun g e => by cases e; exact Rat.le_refl), .inr rfl⟩
    · exact ⟨Rat.le_refl, (fun g e => by cases e; grind), .inl rfl⟩
theorem low_lt (ok : BkOk z) (b : Blw z e d) (e0 : 0 < e) : z.margin < madeW z e ∧ lowestW z ≤ madeW z e := by
  have l := b.lin
  have fa := ok.fa
  have p := Rat.mul_pos (show 0 < z.factor by grind) e0
  refine ⟨by grind, ?_⟩
  rcases (lowest_facts ok).2.2 with h | h
  · rw [h]
    grind
  · exact b.fl _ h
/-- the last sample: no wait above that at which the next one is the greatest -/
theorem last_no (ok : BkOk z) (b : Blw z e d) (h : madeW z e < d) (e0 : 0 < e) (d0 : 0 < d) (w0 : 0 < madeW z e) (hw : z.word = "last") (st : staysB z d = true) (hx : d ≤ z.factor * bhd z e d + z.margin) : False := by
  have key := bhd_lin ok b h e0 hx
  have sh0 := ok.sh0
  have sh1 := ok.sh1
  have fa := ok.fa
  obtain ⟨mw, lw⟩ := low_lt ok b e0
  have n1 := ndl_1 (z := z) w0 d0 h
  have sf : 0 < z.share * z.factor := Rat.mul_pos sh0 (by grind)
  have k2 := kD_2 (z := z)
  have el : lsn z e d = d - (Mt.mk z.doubled (ndl z.doubled (madeW z e) d) : Rat) * madeW z e := if_pos hw
  have ea : atL z d = rmax (d / kD z) (lowestW z) := rfl
  have eb : behL z d = (1 - z.share) * atL z d + z.share * (z.factor * (d - atL z d) + z.margin) := rfl
  have dk : d / kD z * kD z = d := Rat.div_mul_cancel (by have := kD_p (z := z); grind)
  have st : behL z d < d ∨ behL z d = d ∧ atL z d = z.margin := by
    unfold staysB at st
    rw [Bool.or_eq_true, Bool.and_eq_true, decide_eq_true_eq, decide_eq_true_eq, decide_eq_true_eq] at st
    exact st
  rw [el] at key
  generalize madeW z e = w at *
  generalize atL z d = at' at *
  generalize behL z d = bh at *
  have c1 : (1 : Rat) ≤ (Mt.mk z.doubled (ndl z.doubled w d) : Rat) := by
    exact Rat.intCast_le_intCast.mpr (mk_ge1 _ n1)
  have up : ¬ (Mt.mk z.doubled (ndl z.doubled w d + 1) : Rat) * w < d := fun q => by
    have := (ndl_lt w0 d0).mp q
    omega
  have up := Rat.not_lt.mp up
  have l1 : d - (Mt.mk z.doubled (ndl z.doubled w d) : Rat) * w ≤ d - w := by
    have := Rat.mul_le_mul_of_nonneg_right c1 (Rat.le_of_lt w0)
    grind
  by_cases c : at' ≤ w
  · -- between at and the delay it is straight
    have p1 := Rat.mul_le_mul_of_nonneg_left l1 (Rat.le_of_lt sf)
    have g1 : d ≤ (1 - z.share) * w + z.share * (z.factor * (d - w) + z.margin) := by grind
    have m1 : z.share * z.margin < z.share * d := Rat.mul_lt_mul_of_pos_left (by grind) sh0
    rcases st with q | ⟨q, qm⟩
    · have a1 := Rat.mul_lt_mul_of_pos_right q (show 0 < d - w by grind)
      have a2 := Rat.mul_le_mul_of_nonneg_right (Rat.le_of_lt m1) (show 0 ≤ w - at' by grind)
      have a3 := Rat.mul_le_mul_of_nonneg_right g1 (show 0 ≤ d - at' by grind)
      rw [eb] at a1
      grind
    · have a2 := Rat.mul_lt_mul_of_pos_right m1 (show 0 < w - at' by grind)
      have a3 := Rat.mul_le_mul_of_nonneg_right g1 (show 0 ≤ d - at' by grind)
      rw [eb] at q
      have a1 : ((1 - z.share) * at' + z.share * (z.factor * (d - at') + z.margin)) * (d - w) = d * (d - w) := by rw [q]
      grind
  · have c := Rat.not_le.mp c
    have ek : at' = d / kD z := by
      rw [ea] at c ⊢
      unfold rmax at c ⊢
      split <;> grind
    generalize d / kD z = q at *
    subst ek
    have l2 : d - (Mt.mk z.doubled (ndl z.doubled w d) : Rat) * w ≤ d - at' := by
      unfold kD at dk
      cases hd : z.doubled with
      | false =>
        rw [hd] at dk up
        rw [if_neg (by decide)] at dk
        have e2 : ((2 : Int) : Rat) = 2 := rfl
        rw [e2] at dk
        have eu : (Mt.mk false (ndl false w d + 1) : Rat) = (Mt.mk false (ndl false w d) : Rat) + 1 := by
          have : Mt.mk false (ndl false w d + 1) = Mt.mk false (ndl false w d) + 1 := by unfold Mt.mk; show ((ndl false w d + 1 : Nat) : Int) = ((ndl false w d : Nat) : Int) + 1; omega
          rw [this, Rat.intCast_add]
          rfl
        rw [eu] at up
        grind
      | true =>
        rw [hd] at dk up
        rw [if_pos rfl] at dk
        have e3 : ((3 : Int) : Rat) = 3 := rfl
        rw [e3] at dk
        have eu : (Mt.mk true (ndl true w d + 1) : Rat) = 2 * (Mt.mk true (ndl true w d) : Rat) + 1 := by
          rw [mk_two, Rat.intCast_add, Rat.intCast_mul]
          rfl
        rw [eu] at up
        grind
    have p1 := Rat.mul_le_mul_of_nonneg_left l2 (Rat.le_of_lt sf)
    have p2 := Rat.mul_le_mul_of_nonneg_left (Rat.le_of_lt c) (show 0 ≤ 1 - z.share by grind)
    -- strictly
    by_cases s1 : z.share = 1
    · have l3 : d - (Mt.mk z.doubled (ndl z.doubled w d) : Rat) * w < d - at' := by
        unfold kD at dk
        cases hd : z.doubled with
        | false =>
          rw [hd] at dk up
          rw [if_neg (by decide)] at dk
          have e2 : ((2 : Int) : Rat) = 2 := rfl
          rw [e2] at dk
          have eu : (Mt.mk false (ndl false w d + 1) : Rat) = (Mt.mk false (ndl false w d) : Rat) + 1 := by
            have : Mt.mk false (ndl false w d + 1) = Mt.mk false (ndl false w d) + 1 := by unfold Mt.mk; show ((ndl false w d + 1 : Nat) : Int) = ((ndl false w d : Nat) : Int) + 1; omega
            rw [this, Rat.intCast_add]
            rfl
          rw [eu] at up
          grind
        | true =>
          rw [hd] at dk up
          rw [if_pos rfl] at dk
          have e3 : ((3 : Int) : Rat) = 3 := rfl
          rw [e3] at dk
          have eu : (Mt.mk true (ndl true w d + 1) : Rat) = 2 * (Mt.mk true (ndl true w d) : Rat) + 1 := by
            rw [mk_two, Rat.intCast_add, Rat.intCast_mul]
            rfl
          rw [eu] at up
          grind
      have p3 := Rat.mul_lt_mul_of_pos_left l3 sf
      rcases st with g | ⟨g, _⟩ <;> rw [eb] at g <;> grind
    · have p3 := Rat.mul_lt_mul_of_pos_left c (show 0 < 1 - z.share by grind)
      rcases st with g | ⟨g, _⟩ <;> rw [eb] at g <;> grind
theorem made_posA (ok : BkOk z) (e0 : 0 < e) : 0 < madeW z e := by
  have fa := ok.fa
  have p := Rat.mul_pos (show 0 < z.factor by grind) e0
  have l0 : 0 < lowW z.floor (z.factor * e + z.margin) := by
    have := lowW_geA (o := z.floor) (u := z.factor * e + z.margin)
    have := ok.ma
    grind
  have hr := ok.ro
  unfold madeW highW
  cases er : z.roof with
  | none => exact l0
  | some r =>
    have := (hr r er).1
    show 0 < rmin _ r
    unfold rmin
    split <;> grind
/-- all below: no estimate leaves -/
theorem allB_no (ok : BkOk z) (e0 : 0 < e) (d0 : 0 < d) (h : allB z d = true) : ¬ Lvs z e d := by
  rintro ⟨wd, _, ck, lv⟩
  have w0 := made_posA ok e0
  by_cases hr : ∃ r, z.roof = some r ∧ r < d
  · obtain ⟨r, er, rd⟩ := hr
    have : madeW z (bhd z e d) ≤ r := by
      unfold madeW highW
      rw [er]
      show rmin _ r ≤ r
      unfold rmin
      split <;> grind
    grind
  · have nr : ∀ r, z.roof = some r → ¬ r < d := fun r er rd => hr ⟨r, er, rd⟩
    have b := blw ok nr wd
    have lx := lin_of b wd lv
    have rb : roofB z.roof d = false := by
      unfold roofB
      cases er : z.roof with
      | none => rfl
      | some r => exact decide_eq_false (nr r er)
    obtain ⟨mw, lw⟩ := low_lt ok b e0
    unfold allB at h
    rw [rb, Bool.false_or, decide_eq_false (show ¬ d ≤ lowestW z by grind), Bool.false_or] at h
    by_cases hw : z.word = "last"
    · rw [if_pos hw] at h
      exact last_no ok b wd e0 d0 w0 hw h lx
    · rw [if_neg hw, if_neg ck, Bool.and_eq_true, Bool.and_eq_true, Bool.and_eq_true, decide_eq_true_eq, decide_eq_true_eq, decide_eq_true_eq, decide_eq_true_eq] at h
      obtain ⟨⟨⟨h1, h2⟩, h3⟩, h4⟩ := h
      have o1 : oneS z = true := by unfold oneS; rw [h1]
      have es : lsn z e d = d := if_neg hw
      have ex : bhd z e d = e + z.share * (d - e) := by unfold bhd; rw [if_pos o1, es]
      have l := b.lin
      rw [ex, h3, h4] at lx
      rw [h3, h4] at l
      have p := Rat.mul_pos (show 0 < 1 - z.share by grind) (show 0 < d - e by grind)
      grind
/-! ### not all below: a probe leaves -/
def tiny : Rat := Rat.divInt 1 1000000000
/-- the numbers are no closer than the probes tell -/
structure Grn (z : Bk) (d : Rat) : Prop where
  m9 : z.margin < d → z.margin < d * (1 - tiny)
  f9 : ∀ f, z.floor = some f → f < d → f < d * (1 - tiny)
  h3 : z.word ≠ "last" → ¬ (z.factor = 1 ∧ z.margin = 0) → (1 - z.share) * (d * tiny) ≤ z.share * (z.factor * d + z.margin - d)
  h4a : z.word = "last" → z.margin < d → z.factor * tiny + z.margin < d
  h4 : z.word = "last" → z.margin < d → d ≤ kD z * z.margin → d < (1 - z.share) * z.margin + z.share * (z.factor * (d - z.margin) + z.margin) → d ≤ (1 - z.share) * (z.factor * tiny + z.margin) + z.share * (z.factor * (d - (z.factor * tiny + z.margin)) + z.margin)
/-- the estimate whose wait is so much, without floor and roof -/
def prb (z : Bk) (v : Rat) : Rat := (v - z.margin) / z.factor
theorem prb_lin (ok : BkOk z) {v : Rat} (h : z.margin < v) : z.factor * prb z v + z.margin = v ∧ 0 < prb z v := by
  have fa := ok.fa
  have f0 : 0 < z.factor := by grind
  have e : (v - z.margin) / z.factor * z.factor = v - z.margin := Rat.div_mul_cancel (by grind)
  unfold prb
  refine ⟨by grind, ?_⟩
  have : 0 < (v - z.margin) / z.factor * z.factor := by grind
  exact Classical.byContradiction fun q => by
    have := Rat.mul_le_mul_of_nonneg_right (Rat.not_lt.mp q) (Rat.le_of_lt f0)
    grind
theorem made_at (nr : ∀ r, z.roof = some r → ¬ r < d) {v : Rat} (hl : z.factor * e + z.margin = v) (hf : ∀ f, z.floor = some f → f ≤ v) (hv : v < d) : madeW z e = v := by
  have lo : lowW z.floor (z.factor * e + z.margin) = v := by
    rw [hl]
    unfold lowW
    cases ef : z.floor with
    | none => rfl
    | some f =>
      have := hf f ef
      show rmax v f = v
      unfold rmax
      split <;> grind
  unfold madeW highW
  rw [lo]
  cases er : z.roof with
  | none => rfl
  | some r =>
    have := nr r er
    show rmin v r = v
    unfold rmin
    split <;> grind
theorem made_up40 (nr : ∀ r, z.roof = some r → ¬ r < d) {x : Rat} (h : d ≤ z.factor * x + z.margin) : d ≤ madeW z x := by
  have l := Rat.le_trans h (lowW_geA (o := z.floor))
  unfold madeW highW
  cases er : z.roof with
  | none => exact l
  | some r =>
    have := nr r er
    show d ≤ rmin _ r
    unfold rmin
    split <;> grind
theorem bhd_up (ok : BkOk z) {v : Rat} (hl : z.factor * e + z.margin = v) (h : d ≤ (1 - z.share) * v + z.share * (z.factor * lsn z e d + z.margin)) : d ≤ z.factor * bhd z e d + z.margin := by
  have fa := ok.fa
  unfold bhd
  split
  · have e1 : z.factor * (e + z.share * (lsn z e d - e)) + z.margin = (1 - z.share) * (z.factor * e + z.margin) + z.share * (z.factor * lsn z e d + z.margin) := by grind
    rw [e1, hl]
    exact h
  · rename_i c
    have s1 : z.share = 1 := by
      unfold oneS at c
      cases el : z.latest with
      | none => rw [el] at c; exact absurd rfl c
      | some n => exact (ok.lat n el).2.2
    rw [s1] at h
    have m : lsn z e d ≤ rmax e (lsn z e d) := by unfold rmax; split <;> grind
    have p := Rat.mul_le_mul_of_nonneg_left m (show 0 ≤ z.factor by grind)
    grind
/-- one of the probes leaves -/
theorem allB_yes (ok : BkOk z) (d0 : 0 < d) (g : Grn z d) (h : allB z d = false) :
    (z.margin < d / kD z ∧ Lvs z (prb z (d / kD z)) d) ∨ (∃ f, z.floor = some f ∧ z.margin < f ∧ Lvs z (prb z f) d) ∨ (z.margin < d * (1 - tiny) ∧ Lvs z (prb z (d * (1 - tiny))) d) ∨ Lvs z tiny d := by
  have sh0 := ok.sh0
  have sh1 := ok.sh1
  have fa := ok.fa
  have ma := ok.ma
  have t0 : 0 < tiny := by decide +kernel
  have t1 : tiny * 4 ≤ 1 := by decide +kernel
  have k2 := kD_2 (z := z)
  have dk : d / kD z * kD z = d := Rat.div_mul_cancel (by have := kD_p (z := z); grind)
  unfold allB at h
  rw [Bool.or_eq_false_iff, Bool.or_eq_false_iff] at h
  obtain ⟨⟨rb, h2⟩, h3⟩ := h
  have h2 := Rat.not_le.mp (of_decide_eq_false h2)
  have nr : ∀ r, z.roof = some r → ¬ r < d := fun r er => by
    unfold roofB at rb
    rw [er] at rb
    exact of_decide_eq_false rb
  obtain ⟨lm, lf', lor⟩ := lowest_facts ok
  by_cases hw : z.word = "last"
  · rw [if_pos hw] at h3
    have nck : ¬ (z.word = "clean" ∧ z.kept = false) := fun q => by rw [hw] at q; exact absurd q.1 (by decide)
    have ea : atL z d = rmax (d / kD z) (lowestW z) := rfl
    have eb : behL z d = (1 - z.share) * atL z d + z.share * (z.factor * (d - atL z d) + z.margin) := rfl
    have st : d < behL z d ∨ behL z d = d ∧ ¬ atL z d = z.margin := by
      unfold staysB at h3
      rw [Bool.or_eq_false_iff, Bool.and_eq_false_iff, decide_eq_false_iff_not, decide_eq_false_iff_not, decide_eq_false_iff_not] at h3
      rcases h3 with ⟨a, b | b⟩
      · left
        grind
      · by_cases c : behL z d = d
        · exact .inr ⟨c, b⟩
        · left
          grind
    -- a wait at which the next one is the greatest
    have leave : ∀ v, z.margin < v → v = atL z d → v < d → (∀ f, z.floor = some f → f ≤ v) → d ≤ kD z * v → Lvs z (prb z v) d := fun v mv ev vd fv kv => by
      obtain ⟨hl, p0⟩ := prb_lin ok mv
      have w := made_at nr hl fv vd
      have v0 : 0 < v := by grind
      have n1 := ndl_one (z := z) v0 d0 vd kv
      refine ⟨by rw [w]; exact vd, by rw [w, n1]; decide, nck, made_up40 nr (bhd_up ok hl ?_)⟩
      have es : lsn z (prb z v) d = d - v := by
        unfold lsn
        rw [if_pos hw, w, n1, mk_1]
        have : ((1 : Int) : Rat) = 1 := rfl
        rw [this, Rat.one_mul]
      rw [es, ev, ← eb]
      rcases st with q | ⟨q, _⟩ <;> grind
    have kp := kD_p (z := z)
    have dk1 : d / kD z < d := by
      have := Rat.mul_le_mul_of_nonneg_left k2 (show 0 ≤ d / kD z by
        exact Classical.byContradiction fun q => by
          have := Rat.mul_lt_mul_of_pos_right (Rat.not_le.mp q) kp
          grind)
      grind
    by_cases am : atL z d = z.margin
    · -- no wait is the margin
      right; right; right
      have st := st.resolve_right fun q => q.2 am
      rw [eb, am] at st
      have md : z.margin < d := by grind
      have km : d ≤ kD z * z.margin := by
        have : d / kD z ≤ z.margin := by rw [← am, ea]; unfold rmax; split <;> grind
        have := Rat.mul_le_mul_of_nonneg_right this (Rat.le_of_lt kp)
        grind
      have h4 := g.h4 hw md km st
      have h4a := g.h4a hw md
      have hl : z.factor * tiny + z.margin = z.factor * tiny + z.margin := rfl
      have ft := Rat.mul_pos (show 0 < z.factor by grind) t0
      have lm2 : lowestW z ≤ z.margin := by rw [← am, ea]; unfold rmax; split <;> grind
      have w := made_at nr hl (fun f ef => by have := lf' f ef; grind) h4a
      have kv : d ≤ kD z * (z.factor * tiny + z.margin) := by
        have := Rat.mul_pos kp ft
        grind
      have n1 := ndl_one (z := z) (show 0 < z.factor * tiny + z.margin by grind) d0 h4a kv
      refine ⟨by rw [w]; exact h4a, by rw [w, n1]; decide, nck, made_up40 nr (bhd_up ok hl ?_)⟩
      have es : lsn z tiny d = d - (z.factor * tiny + z.margin) := by
        unfold lsn
        rw [if_pos hw, w, n1, mk_1]
        have : ((1 : Int) : Rat) = 1 := rfl
        rw [this, Rat.one_mul]
      rw [es]
      exact h4
    · by_cases c : d / kD z < lowestW z
      · have e1 : atL z d = lowestW z := by rw [ea]; unfold rmax; split <;> grind
        rcases lor with q | q
        · exact absurd (e1.trans q) am
        · right; left
          have ml : z.margin < lowestW z := by
            have : lowestW z ≠ z.margin := fun r => am (e1.trans r)
            grind
          refine ⟨lowestW z, q, ml, leave _ ml e1.symm h2 lf' ?_⟩
          have := Rat.mul_lt_mul_of_pos_right c kp
          grind
      · have e1 : atL z d = d / kD z := by rw [ea]; unfold rmax; split <;> grind
        have ml : z.margin < d / kD z := by
          have : d / kD z ≠ z.margin := fun r => am (e1.trans r)
          grind
        exact .inl ⟨ml, leave _ ml e1.symm dk1 (fun f ef => by have := lf' f ef; grind) (by grind)⟩
  · rw [if_neg hw] at h3
    have md : z.margin < d := by grind
    have m9 := g.m9 md
    have vd : d * (1 - tiny) < d := by
      have := Rat.mul_pos d0 t0
      grind
    right; right; left
    refine ⟨m9, ?_⟩
    by_cases ck : z.word = "clean" ∧ z.kept = false
    · rw [if_pos ck] at h3
      cases h3
    rw [if_neg ck] at h3
    obtain ⟨hl, p0⟩ := prb_lin ok m9
    have w := made_at nr hl (fun f ef => Rat.le_of_lt (g.f9 f ef (by have := lf' f ef; grind))) vd
    have v0 : 0 < d * (1 - tiny) := by grind
    have kv : d ≤ kD z * (d * (1 - tiny)) := by
      have p := Rat.mul_le_mul_of_nonneg_right k2 (Rat.le_of_lt v0)
      have q := Rat.mul_le_mul_of_nonneg_left t1 (Rat.le_of_lt d0)
      grind
    have n1 := ndl_one (z := z) v0 d0 vd kv
    refine ⟨by rw [w]; exact vd, by rw [w, n1]; decide, ck, made_up40 nr (bhd_up ok hl ?_)⟩
    have es : lsn z (prb z (d * (1 - tiny))) d = d := if_neg hw
    rw [es]
    by_cases s1 : z.share = 1
    · rw [s1]
      have := Rat.mul_le_mul_of_nonneg_right fa (Rat.le_of_lt d0)
      grind
    · have sl : z.share < 1 := by grind
      have ln : z.latest = none := by
        cases el : z.latest with
        | none => rfl
        | some n => exact absurd (ok.lat n el).2.2 s1
      rw [decide_eq_true ln, decide_eq_true sl, Bool.true_and, Bool.true_and] at h3
      have := g.h3 hw (fun ⟨q1, q2⟩ => by rw [decide_eq_true q1, decide_eq_true q2] at h3; cases h3)
      grind
end

/-! ### books that stay below, of the last sample -/
theorem kD_half {z : Bk} {d : Rat} (d0 : 0 < d) : 0 < d / kD z ∧ d / kD z * kD z = d ∧ d ≤ 3 * (d / kD z) ∧ 2 * (d / kD z) ≤ d := by
  have kp := kD_p (z := z)
  have k2 := kD_2 (z := z)
  have dk : d / kD z * kD z = d := Rat.div_mul_cancel (by grind)
  have L0 : 0 < d / kD z := Classical.byContradiction fun q => by
    have := Rat.mul_le_mul_of_nonneg_right (Rat.not_lt.mp q) (Rat.le_of_lt kp)
    grind
  have k3 : kD z ≤ 3 := by unfold kD; split <;> decide
  have p1 := Rat.mul_le_mul_of_nonneg_left k2 (Rat.le_of_lt L0)
  have p2 := Rat.mul_le_mul_of_nonneg_left k3 (Rat.le_of_lt L0)
  exact ⟨L0, dk, by grind, by grind⟩
/-- what the law looks at -/
def closB (z : Bk) (d : Rat) : Bool := decide ((1 - z.share) * (d / kD z) + z.share * (z.factor * (d - d / kD z) + z.margin) < d) && decide (z.margin < d)
structure Tam (z : Bk) (d : Rat) (S F D : Nat) : Prop where
  ok : BkOk z
  wd : z.word = "last"
  fl : z.floor = none
  s1 : Sz z.share 8
  s2 : Sz z.factor 40
  s3 : Sz z.margin 40
  s5 : ∀ r, z.roof = some r → Sz r 40
  dS : IntD S z.share
  dF : IntD F z.factor
  dM : IntD D z.margin
  dR : ∀ r, z.roof = some r → IntD D r
  dd : IntD D d
  d0 : 0 < d
  d60 : d ≤ ((60 : Int) : Rat)
  S1 : 1 ≤ S
  S31 : S ≤ 31
  F1 : 1 ≤ F
  F10 : F ≤ 10
  D1 : 1 ≤ D
  f40 : z.factor ≤ ((40 : Int) : Rat)
  ro : ∀ r, z.roof = some r → r = d * Rat.divInt 9 10
  ma : z.roof = none → z.margin ≤ d * Rat.divInt 1 100
  cl : z.roof = none → closB z d = true ∨ z.factor = 1
section
variable {z : Bk} {d e : Rat} {S F D : Nat}
theorem q910 : Rat.divInt 9 10 * 10 = 9 := by decide +kernel
theorem q100 : Rat.divInt 1 100 * 100 = 1 := by decide +kernel
theorem q90 : Rat.divInt 1 90 * 90 = 1 := by decide +kernel
theorem nineT (d : Rat) : d * Rat.divInt 9 10 * 10 = 9 * d := by rw [Rat.mul_assoc, q910, Rat.mul_comm]
theorem hundT (d : Rat) : d * Rat.divInt 1 100 * 100 = d := by rw [Rat.mul_assoc, q100, Rat.mul_one]
theorem ninetyT (d : Rat) : d * Rat.divInt 1 90 * 90 = d := by rw [Rat.mul_assoc, q90, Rat.mul_one]
theorem Tam.all (t : Tam z d S F D) : allB z d = true := by
  have d0 := t.d0
  have sh0 := t.ok.sh0
  have sh1 := t.ok.sh1
  have ma := t.ok.ma
  unfold allB
  cases er : z.roof with
  | some r =>
    have e := t.ro r er
    have : roofB (some r) d = true := by
      unfold roofB
      refine decide_eq_true ?_
      rw [e]
      have := nineT d
      grind
    rw [this]
    rfl
  | none =>
    have m := t.ma er
    have m : 100 * z.margin ≤ d := by have := hundT d; grind
    obtain ⟨L0, dk, L3, L2⟩ := kD_half (z := z) d0
    have el : lowestW z = z.margin := by unfold lowestW; rw [t.fl]
    have ea : atL z d = d / kD z := by
      show rmax (d / kD z) (lowestW z) = _
      rw [el]
      unfold rmax
      split <;> grind
    have eb : behL z d = (1 - z.share) * (d / kD z) + z.share * (z.factor * (d - d / kD z) + z.margin) := by
      unfold behL
      rw [ea]
      rfl
    have st : behL z d < d := by
      rcases t.cl er with c | c
      · unfold closB at c
        rw [Bool.and_eq_true, decide_eq_true_eq, decide_eq_true_eq] at c
        rw [eb]
        exact c.1
      · rw [eb, c]
        generalize d / kD z = L at *
        have p1 := Rat.mul_le_mul_of_nonneg_right sh1 (show 0 ≤ d - 2 * L + z.margin by grind)
        grind
    rw [if_pos t.wd]
    have : staysB z d = true := by
      unfold staysB
      rw [decide_eq_true st]
      rfl
    rw [this, Bool.or_true]
/-- the wait of a ninetieth of the delay -/
theorem Tam.low (t : Tam z d S F D) (h : e = d * Rat.divInt 1 90) : madeW z e < d := by
  have d0 := t.d0
  have f40 := t.f40
  have e90 : e * 90 = d := by rw [h]; exact ninetyT d
  have lo : lowW z.floor (z.factor * e + z.margin) = z.factor * e + z.margin := by rw [t.fl]; rfl
  unfold madeW
  rw [lo]
  cases er : z.roof with
  | some r =>
    have er' := t.ro r er
    have := nineT d
    show rmin _ r < d
    unfold rmin
    split <;> grind
  | none =>
    have m := t.ma er
    have := hundT d
    have c40 : ((40 : Int) : Rat) = 40 := rfl
    rw [c40] at f40
    have p := Rat.mul_le_mul_of_nonneg_right f40 (show 0 ≤ e by grind)
    show z.factor * e + z.margin < d
    grind
theorem Tam.ge (t : Tam z d S F D) (e0 : 0 < e) (h : madeW z e < d) : e ≤ madeW z e ∨ madeW z e = d * Rat.divInt 9 10 := by
  have lo : lowW z.floor (z.factor * e + z.margin) = z.factor * e + z.margin := by rw [t.fl]; rfl
  have fa := t.ok.fa
  have ma := t.ok.ma
  have p := Rat.mul_le_mul_of_nonneg_right fa (Rat.le_of_lt e0)
  unfold madeW at h ⊢
  rw [lo] at h ⊢
  cases er : z.roof with
  | none => left; show e ≤ z.factor * e + z.margin; grind
  | some r =>
    have er' := t.ro r er
    show e ≤ rmin _ r ∨ rmin _ r = _
    unfold rmin
    split
    · right; exact er'
    · left; grind
theorem Tam.few (t : Tam z d S F D) (e0 : 0 < e) (h : madeW z e < d) (e90 : d ≤ 90 * e) : ndl z.doubled (madeW z e) d ≤ 90 := by
  have d0 := t.d0
  have w0 := made_posA t.ok e0
  have : d ≤ ((90 : Nat) : Rat) * madeW z e := by
    have c : ((90 : Nat) : Rat) = 90 := rfl
    rw [c]
    rcases t.ge e0 h with g | g
    · grind
    · have := nineT d
      grind
  have := Mt.snd_le (Mt.cei_pos w0 d0) (Mt.cei_le w0 this) z.doubled
  unfold ndl
  omega
/-! ### the grid of the rounds -/
def gT (S F D n : Nat) : Nat := D * (S * F) ^ n
theorem gT_s (S F D n : Nat) : gT S F D n * (S * F) = gT S F D (n + 1) := by unfold gT; rw [Nat.mul_assoc, ← Nat.pow_succ]
theorem gT_d (S F D n : Nat) : D ∣ gT S F D n := ⟨_, rfl⟩
theorem Tam.gb (t : Tam z d S F D) {m n : Nat} (hn : n ≤ m) (hD : D < 2 ^ 25) : gT S F D n < 2 ^ (25 + 9 * m) := by
  have h1 : S * F ≤ 2 ^ 9 := Nat.le_trans (Nat.mul_le_mul t.S31 t.F10) (by decide)
  have h2 : (S * F) ^ n ≤ (2 ^ 9) ^ m := Nat.le_trans (Nat.pow_le_pow_left h1 n) (Nat.pow_le_pow_right (by decide) hn)
  rw [← Nat.pow_mul] at h2
  rw [Nat.pow_add]
  exact Nat.mul_lt_mul_of_lt_of_le hD h2 (Nat.pow_pos (by decide))
theorem Tam.gp (t : Tam z d S F D) (n : Nat) : 0 < gT S F D n := Nat.mul_pos t.D1 (Nat.pow_pos (Nat.mul_pos t.S1 t.F1))
/-- the state behind n rounds -/
structure StN (z : Bk) (d : Rat) (S F D n : Nat) (st : PSt) : Prop where
  len : st.es.length = z.latest.getD 1
  es : ∀ r ∈ st.es, 0 < r ∧ r ≤ ((60 : Int) : Rat) ∧ IntD (gT S F D n) r
  wt : st.wt = madeW z (mxl st.es)
  lt : st.wt < d
theorem StN.ne {n : Nat} {st : PSt} (t : Tam z d S F D) (h : StN z d S F D n st) : st.es ≠ [] := fun e => by
  have := h.len
  rw [e] at this
  cases el : z.latest with
  | none => rw [el] at this; cases this
  | some m =>
    rw [el] at this
    have := (t.ok.lat m el).1
    have h2 : 0 = m := by assumption
    omega
theorem foldl_mem : ∀ (l : List Rat) (q : Rat), l.foldl rmax q = q ∨ l.foldl rmax q ∈ l
  | [], q => .inl rfl
  | x :: l, q => by
    rw [List.foldl_cons]
    rcases foldl_mem l (rmax q x) with h | h
    · rw [h]
      unfold rmax
      split
      · exact .inr List.mem_cons_self
      · exact .inl rfl
    · exact .inr (List.mem_cons_of_mem _ h)
theorem mxl_mem {l : List Rat} (h : l ≠ []) : mxl l ∈ l := by
  cases l with
  | nil => exact absurd rfl h
  | cons q l =>
    show l.foldl rmax q ∈ q :: l
    rcases foldl_mem l q with e | e
    · rw [e]; exact List.mem_cons_self
    · exact List.mem_cons_of_mem _ e
theorem foldl_up : ∀ (l : List Rat) (q b : Rat), q ≤ b → (∀ r ∈ l, r ≤ b) → l.foldl rmax q ≤ b
  | [], q, b, h, _ => h
  | x :: l, q, b, h, h2 => by
    rw [List.foldl_cons]
    refine foldl_up l _ b ?_ fun r hr => h2 r (List.mem_cons_of_mem _ hr)
    have := h2 x List.mem_cons_self
    unfold rmax
    split <;> grind
theorem foldl_geM : ∀ (l : List Rat) (q : Rat), q ≤ l.foldl rmax q ∧ ∀ r ∈ l, r ≤ l.foldl rmax q
  | [], q => ⟨Rat.le_refl, fun r hr => nomatch hr⟩
  | x :: l, q => by
    rw [List.foldl_cons]
    obtain ⟨h1, h2⟩ := foldl_geM l (rmax q x)
    have a : q ≤ rmax q x ∧ x ≤ rmax q x := by unfold rmax; split <;> grind
    exact ⟨Rat.le_trans a.1 h1, fun r hr => by
      rcases List.mem_cons.mp hr with e | e
      · rw [e]; exact Rat.le_trans a.2 h1
      · exact h2 r e⟩
theorem mxl_ge {l : List Rat} {r : Rat} (h : r ∈ l) : r ≤ mxl l := by
  cases l with
  | nil => cases h
  | cons q l =>
    show r ≤ l.foldl rmax q
    obtain ⟨a, b⟩ := foldl_geM l q
    rcases List.mem_cons.mp h with e | e
    · rw [e]; exact a
    · exact b r e
theorem mxl_le {l : List Rat} {b : Rat} (h : l ≠ []) (h2 : ∀ r ∈ l, r ≤ b) : mxl l ≤ b := h2 _ (mxl_mem h)
theorem mxl_rep {n : Nat} (h : 1 ≤ n) : mxl (List.replicate n e) = e := by
  have : List.replicate n e ≠ [] := by
    intro c
    have := congrArg List.length c
    rw [List.length_replicate] at this
    have h2 : n = 0 := this
    omega
  exact List.eq_of_mem_replicate (mxl_mem this)
theorem lat_pos (ok : BkOk z) : 1 ≤ z.latest.getD 1 ∧ z.latest.getD 1 ≤ 20 := by
  cases el : z.latest with
  | none => exact ⟨Nat.le_refl 1, by show (1 : Nat) ≤ 20; decide⟩
  | some m => exact ⟨(ok.lat m el).1, (ok.lat m el).2.1⟩
theorem made_dT (t : Tam z d S F D) {G : Nat} (h : D ∣ G) {x : Rat} (hx : IntD G x) : IntD (G * F) (madeW z x) := by
  have h1 : IntD (G * F) (z.factor * x + z.margin) := by
    refine IntD.add ?_ ((t.dM.up h).up ⟨F, rfl⟩)
    rw [Nat.mul_comm]
    exact t.dF.mul hx
  have lo : lowW z.floor (z.factor * x + z.margin) = z.factor * x + z.margin := by rw [t.fl]; rfl
  unfold madeW
  rw [lo]
  cases er : z.roof with
  | none => exact h1
  | some r =>
    show IntD _ (rmin _ r)
    unfold rmin
    split
    · exact ((t.dR r er).up h).up ⟨F, rfl⟩
    · exact h1
theorem made_upT (ok : BkOk z) {a b : Rat} (h : a ≤ b) : madeW z a ≤ madeW z b := by
  have fa := ok.fa
  have l1 : z.factor * a + z.margin ≤ z.factor * b + z.margin := by
    have := Rat.mul_le_mul_of_nonneg_left h (show 0 ≤ z.factor by grind)
    grind
  have l2 : lowW z.floor (z.factor * a + z.margin) ≤ lowW z.floor (z.factor * b + z.margin) := by
    unfold lowW
    cases z.floor with
    | none => exact l1
    | some f => show rmax _ f ≤ rmax _ f; unfold rmax; split <;> split <;> grind
  unfold madeW highW
  cases z.roof with
  | none => exact l2
  | some r => show rmin _ r ≤ rmin _ r; unfold rmin; split <;> split <;> grind
/-- the sample of the last sending -/
theorem les_lastT (t : Tam z d S F D) {u : Rat} : lesP z u d = some (d - (Mt.mk z.doubled (ndl z.doubled u d) : Rat) * u) := by
  unfold lesP
  rw [if_neg (fun h => by rw [t.wd] at h; exact absurd h.1 (by decide)), if_pos t.wd]
theorem mk_nn (b : Bool) (n : Nat) : (0 : Rat) ≤ (Mt.mk b n : Rat) := by
  cases n with
  | zero => cases b <;> decide
  | succ n => exact Rat.intCast_le_intCast.mpr (Int.le_trans (by decide) (mk_ge1 b (Nat.succ_le_succ (Nat.zero_le n))))
theorem smp_in (t : Tam z d S F D) {u : Rat} (u0 : 0 < u) : 0 < d - (Mt.mk z.doubled (ndl z.doubled u d) : Rat) * u ∧ d - (Mt.mk z.doubled (ndl z.doubled u d) : Rat) * u ≤ d := by
  have h := (ndl_lt (b := z.doubled) u0 t.d0).mpr (Nat.le_refl _)
  have := Rat.mul_nonneg (mk_nn z.doubled (ndl z.doubled u d)) (Rat.le_of_lt u0)
  exact ⟨by grind, by grind⟩
theorem smp_dT (t : Tam z d S F D) {G : Nat} (h : D ∣ G) {x : Rat} (hx : IntD G x) : IntD (G * F) (d - (Mt.mk z.doubled (ndl z.doubled (madeW z x) d) : Rat) * madeW z x) := by
  refine IntD.sub ((t.dd.up h).up ⟨F, rfl⟩) ?_
  have := (IntD.int (Mt.mk z.doubled (ndl z.doubled (madeW z x) d))).mul (made_dT t h hx)
  rwa [Nat.one_mul] at this
/-- the samples behind one round more -/
theorem StN.rows {n : Nat} {st : PSt} (t : Tam z d S F D) (h : StN z d S F D n st) :
    (lrnE z st (d - (Mt.mk z.doubled (ndl z.doubled st.wt d) : Rat) * st.wt)).length = z.latest.getD 1 ∧ ∀ r ∈ lrnE z st (d - (Mt.mk z.doubled (ndl z.doubled st.wt d) : Rat) * st.wt), 0 < r ∧ r ≤ ((60 : Int) : Rat) ∧ IntD (gT S F D (n + 1)) r := by
  have ne := h.ne t
  have sh0 := t.ok.sh0
  have sh1 := t.ok.sh1
  obtain ⟨e0, e60, eD⟩ := h.es _ (mxl_mem ne)
  have w0 : 0 < st.wt := by rw [h.wt]; exact made_posA t.ok e0
  obtain ⟨x0, xd⟩ := smp_in t w0
  have xD : IntD (gT S F D n * F) (d - (Mt.mk z.doubled (ndl z.doubled st.wt d) : Rat) * st.wt) := by
    rw [h.wt]
    exact smp_dT t (gT_d S F D n) eD
  have d60 := t.d60
  generalize d - (Mt.mk z.doubled (ndl z.doubled st.wt d) : Rat) * st.wt = x at *
  have dv : gT S F D n * F ∣ gT S F D (n + 1) := ⟨S, by rw [← gT_s, Nat.mul_assoc, Nat.mul_comm F S]⟩
  cases el : z.latest with
  | none =>
    rw [lrnE_n el]
    refine ⟨rfl, fun r hr => ?_⟩
    obtain rfl := List.mem_singleton.mp hr
    generalize mxl st.es = e at *
    have p1 := Rat.mul_pos sh0 x0
    have p2 := Rat.mul_nonneg (show 0 ≤ 1 - z.share by grind) (Rat.le_of_lt e0)
    have p3 := Rat.mul_le_mul_of_nonneg_left (show x ≤ ((60 : Int) : Rat) from Rat.le_trans xd d60) (Rat.le_of_lt sh0)
    have p4 := Rat.mul_le_mul_of_nonneg_left e60 (show 0 ≤ 1 - z.share by grind)
    refine ⟨by grind, by grind, ?_⟩
    have a : IntD (gT S F D (n + 1)) e := eD.up ⟨S * F, (gT_s S F D n).symm⟩
    have b : IntD (S * (gT S F D n * F)) (z.share * (x - e)) := t.dS.mul (xD.sub (eD.up ⟨F, rfl⟩))
    refine IntD.add a (b.up ?_)
    rw [← gT_s]
    exact ⟨1, by grind⟩
  | some m =>
    rw [lrnE_s el]
    have l := h.len
    rw [el] at l
    have m1 := (t.ok.lat m el).1
    have l : st.es.length = m := l
    refine ⟨by rw [List.length_append, List.length_tail, l]; show m - 1 + 1 = m; omega, fun r hr => ?_⟩
    rcases List.mem_append.mp hr with q | q
    · obtain ⟨a, b, c⟩ := h.es r (List.mem_of_mem_tail q)
      exact ⟨a, b, c.up ⟨S * F, (gT_s S F D n).symm⟩⟩
    · obtain rfl := List.mem_singleton.mp q
      exact ⟨x0, Rat.le_trans xd d60, xD.up dv⟩
theorem StN.go {n : Nat} {st : PSt} (t : Tam z d S F D) (h : StN z d S F D n st) (c : ndl z.doubled st.wt d ≤ 1000) : StN z d S F D (n + 1) (goP z st d) := by
  have ne := h.ne t
  obtain ⟨e0, e60, eD⟩ := h.es _ (mxl_mem ne)
  obtain ⟨r1, r2⟩ := h.rows t
  have eg : goP z st d = ⟨lrnE z st (d - (Mt.mk z.doubled (ndl z.doubled st.wt d) : Rat) * st.wt), madeW z (mxl (lrnE z st (d - (Mt.mk z.doubled (ndl z.doubled st.wt d) : Rat) * st.wt)))⟩ := by
    unfold goP
    rw [les_lastT t]
    rfl
  rw [eg]
  refine ⟨r1, r2, rfl, Rat.not_le.mp fun lv => ?_⟩
  refine allB_no t.ok e0 t.d0 t.all ⟨by rw [← h.wt]; exact h.lt, by rw [← h.wt]; exact c, fun q => by rw [t.wd] at q; exact absurd q.1 (by decide), Rat.le_trans lv (made_upT t.ok ?_)⟩
  have el : lsn z (mxl st.es) d = d - (Mt.mk z.doubled (ndl z.doubled st.wt d) : Rat) * st.wt := by
    unfold lsn
    rw [if_pos t.wd, ← h.wt]
  unfold bhd oneS
  rw [el]
  show mxl (lrnE z st _) ≤ _
  generalize d - (Mt.mk z.doubled (ndl z.doubled st.wt d) : Rat) * st.wt = x
  cases hl : z.latest with
  | none =>
    rw [lrnE_n hl, if_pos rfl]
    exact Rat.le_refl
  | some m =>
    have l := h.len
    rw [hl] at l
    have l : st.es.length = m := l
    rw [lrnE_s hl]
    have nx : st.es.tail ++ [x] ≠ [] := List.append_ne_nil_of_right_ne_nil _ (fun e => nomatch e)
    by_cases m1 : m = 1
    · subst m1
      have s1 := (t.ok.lat 1 hl).2.2
      have et : st.es.tail = [] := by
        refine List.eq_nil_of_length_eq_zero ?_
        rw [List.length_tail, l]
      rw [et, if_pos (show _ = true from decide_eq_true (rfl : (1 : Nat) = 1)), s1]
      show mxl [x] ≤ _
      show x ≤ _
      grind
    · rw [if_neg (fun h => m1 (of_decide_eq_true h))]
      refine mxl_le nx fun r hr => ?_
      have a : mxl st.es ≤ rmax (mxl st.es) x ∧ x ≤ rmax (mxl st.es) x := by unfold rmax; split <;> grind
      rcases List.mem_append.mp hr with q | q
      · exact Rat.le_trans (mxl_ge (List.mem_of_mem_tail q)) a.1
      · obtain rfl := List.mem_singleton.mp q
        exact a.2
/-! ### sizes -/
theorem intD_sz {D B n : Nat} {q : Rat} (h : IntD D q) (D0 : 0 < D) (q0 : 0 ≤ q) (qB : q ≤ ((B : Int) : Rat)) (h1 : B * D < 2 ^ n) (h2 : D < 2 ^ n) : Sz q n := by
  obtain ⟨k, hk⟩ := h
  have d0 : (0 : Rat) < ((D : Int) : Rat) := by
    have : ((0 : Int) : Rat) < ((D : Int) : Rat) := Rat.intCast_lt_intCast.mpr (by omega)
    exact this
  have e : q = Rat.divInt k D := by
    have e1 : Rat.divInt k D = (k : Rat) / ((D : Int) : Rat) := Rat.divInt_eq_div k D
    rw [e1, ← hk, Rat.mul_div_cancel (by grind)]
  have k0 : (0 : Int) ≤ k := by
    have p := Rat.mul_nonneg q0 (Rat.le_of_lt d0)
    rw [hk, ← Rat.intCast_zero] at p
    exact Rat.intCast_le_intCast.mp p
  have k1 : k ≤ B * D := by
    have p := Rat.mul_le_mul_of_nonneg_right qB (Rat.le_of_lt d0)
    rw [hk, ← Rat.intCast_mul] at p
    exact Rat.intCast_le_intCast.mp p
  have k2 : k ≤ ((B * D : Nat) : Int) := by rw [Int.natCast_mul]; exact k1
  rw [e]
  exact Sz.div (by omega) (by omega) (by omega)
theorem StN.sz {n : Nat} {st : PSt} (t : Tam z d S F D) (hD : D < 2 ^ 25) (hn : n ≤ 21) (h : StN z d S F D n st) : (∀ r ∈ st.es, Sz r 240) := fun r hr => by
  obtain ⟨a, b, c⟩ := h.es r hr
  have g := t.gb (m := 21) hn hD
  refine intD_sz c (t.gp n) (Rat.le_of_lt a) (B := 60) b ?_ (Nat.lt_of_lt_of_le g (Nat.pow_le_pow_right (by decide) (by decide)))
  exact Nat.lt_of_lt_of_le (Nat.mul_lt_mul_of_le_of_lt (show 60 ≤ 2 ^ 6 by decide) g (by decide)) (by rw [← Nat.pow_add]; exact Nat.pow_le_pow_right (by decide) (by decide))
theorem lowW_sz {o : Option Rat} {u : Rat} {n : Nat} (h : Sz u n) (h4 : ∀ f, o = some f → Sz f n) : Sz (lowW o u) n := by
  cases o with
  | none => exact h
  | some f => exact sz_rmax h (h4 f rfl)
theorem highW_sz {o : Option Rat} {u : Rat} {n : Nat} (h : Sz u n) (h4 : ∀ f, o = some f → Sz f n) : Sz (highW o u) n := by
  cases o with
  | none => exact h
  | some f => exact sz_rmin h (h4 f rfl)
theorem made_szT (t : Tam z d S F D) {x : Rat} {n : Nat} (h : Sz x n) (hn : n ≤ 600) : Sz (madeW z x) (n + 81) := by
  exact highW_sz (lowW_sz (((t.s2.mul h).add t.s3).mono (by omega)) fun f hf => by rw [t.fl] at hf; cases hf) fun f hf => (t.s5 f hf).mono (by omega)
theorem StN.szp {n : Nat} {st : PSt} (t : Tam z d S F D) (hD : D < 2 ^ 25) (hn : n ≤ 20) (h : StN z d S F D n st) : SzP st ∧ 0 < st.wt ∧ d ≤ ((2 ^ 400 : Nat) : Rat) * st.wt ∧ (∀ x, lesP z st.wt d = some x → Sz x 900 ∧ ∀ r ∈ lrnE z st x, Sz r 900) := by
  have ne := h.ne t
  have zs := h.sz t hD (Nat.le_succ_of_le hn)
  obtain ⟨e0, e60, eD⟩ := h.es _ (mxl_mem ne)
  have w0 : 0 < st.wt := by rw [h.wt]; exact made_posA t.ok e0
  have zw : Sz st.wt 321 := by rw [h.wt]; exact made_szT t (zs _ (mxl_mem ne)) (by decide)
  obtain ⟨r1, r2⟩ := h.rows t
  refine ⟨⟨ne, by rw [h.len]; exact Nat.le_trans (lat_pos t.ok).2 (by decide), fun r hr => (zs r hr).mono (by decide), zw.mono (by decide)⟩, w0, ?_, fun x hx => ?_⟩
  · have lo := t.ge e0 (by rw [← h.wt]; exact h.lt)
    rw [← h.wt] at lo
    have d60 := t.d60
    have d0 := t.d0
    rcases lo with g | g
    · have p := eD.pos e0 (t.gp n)
      have gb := t.gb (m := 21) (Nat.le_succ_of_le hn) hD
      have big : ((60 : Int) : Rat) * ((gT S F D n : Int) : Rat) ≤ ((2 ^ 400 : Nat) : Rat) := by
        have : 60 * gT S F D n ≤ 2 ^ 400 := Nat.le_trans (Nat.mul_le_mul (show 60 ≤ 2 ^ 6 by decide) (Nat.le_of_lt gb)) (by rw [← Nat.pow_add]; exact Nat.pow_le_pow_right (by decide) (by decide))
        have : ((60 * gT S F D n : Nat) : Int) ≤ ((2 ^ 400 : Nat) : Int) := Int.ofNat_le.mpr this
        have : (((60 * gT S F D n : Nat) : Int) : Rat) ≤ (((2 ^ 400 : Nat) : Int) : Rat) := Rat.intCast_le_intCast.mpr this
        rw [Int.natCast_mul, Rat.intCast_mul] at this
        exact this
      have p2 := Rat.mul_le_mul_of_nonneg_right big (Rat.le_of_lt w0)
      generalize ((gT S F D n : Int) : Rat) = G at *
      generalize ((2 ^ 400 : Nat) : Rat) = Y at *
      have c60 : ((60 : Int) : Rat) = 60 := rfl
      rw [c60] at *
      have G0 : 0 ≤ G := Classical.byContradiction fun q => by
        have := Rat.mul_le_mul_of_nonneg_left (Rat.le_of_lt (Rat.not_le.mp q)) (Rat.le_of_lt e0)
        grind
      have p3 := Rat.mul_le_mul_of_nonneg_right g G0
      grind
    · rw [g]
      have q := nineT d
      have big : (2 : Rat) ≤ ((2 ^ 400 : Nat) : Rat) := by decide +kernel
      have := Rat.mul_le_mul_of_nonneg_right big (show 0 ≤ d * Rat.divInt 9 10 by grind)
      grind
  · rw [les_lastT t] at hx
    cases hx
    have zr : ∀ r ∈ lrnE z st (d - (Mt.mk z.doubled (ndl z.doubled st.wt d) : Rat) * st.wt), Sz r 240 := fun r hr => by
      obtain ⟨a, b, c⟩ := r2 r hr
      have g := t.gb (m := 21) (show n + 1 ≤ 21 by omega) hD
      refine intD_sz c (t.gp (n + 1)) (Rat.le_of_lt a) (B := 60) b ?_ (Nat.lt_of_lt_of_le g (Nat.pow_le_pow_right (by decide) (by decide)))
      exact Nat.lt_of_lt_of_le (Nat.mul_lt_mul_of_le_of_lt (show 60 ≤ 2 ^ 6 by decide) g (by decide)) (by rw [← Nat.pow_add]; exact Nat.pow_le_pow_right (by decide) (by decide))
    refine ⟨?_, fun r hr => (zr r hr).mono (by decide)⟩
    obtain ⟨x0, xd⟩ := smp_in t w0
    have xD : IntD (gT S F D n * F) (d - (Mt.mk z.doubled (ndl z.doubled st.wt d) : Rat) * st.wt) := by
      rw [h.wt]
      exact smp_dT t (gT_d S F D n) eD
    have g := t.gb (m := 21) (Nat.le_succ_of_le hn) hD
    have gf : gT S F D n * F < 2 ^ 220 := Nat.lt_of_lt_of_le (Nat.mul_lt_mul_of_lt_of_le g (Nat.le_trans t.F10 (show 10 ≤ 2 ^ 4 by decide)) (by decide)) (by rw [← Nat.pow_add]; exact Nat.pow_le_pow_right (by decide) (by decide))
    refine (intD_sz (n := 240) xD (Nat.mul_pos (t.gp n) t.F1) (Rat.le_of_lt x0) (B := 60) (Rat.le_trans xd t.d60) ?_ (Nat.lt_of_lt_of_le gf (Nat.pow_le_pow_right (by decide) (by decide)))).mono (by decide)
    exact Nat.lt_of_lt_of_le (Nat.mul_lt_mul_of_le_of_lt (show 60 ≤ 2 ^ 6 by decide) gf (by decide)) (by rw [← Nat.pow_add]; exact Nat.pow_le_pow_right (by decide) (by decide))
theorem StN.start (t : Tam z d S F D) (e0 : 0 < e) (e60 : e ≤ ((60 : Int) : Rat)) (eD : IntD D e) (lt : madeW z e < d) : StN z d S F D 0 ⟨List.replicate (z.latest.getD 1) e, madeW z e⟩ := by
  refine ⟨List.length_replicate, fun r hr => ?_, by rw [mxl_rep (lat_pos t.ok).1], lt⟩
  rw [List.eq_of_mem_replicate hr]
  refine ⟨e0, e60, ?_⟩
  have : gT S F D 0 = D := by unfold gT; rw [Nat.pow_zero, Nat.mul_one]
  rw [this]
  exact eD
end

/-! ### _law_close, _law_tame -/
theorem marg_d {z : Bk} (sm : BkSm z) : IntD 2520 z.margin := by
  obtain ⟨ma, mb, em, ma0, ma29, mb1, mb9⟩ := sm.fi.ma
  rw [em]
  refine IntD.dv (D := 2520) mb1 ?_
  rcases (show mb = 1 ∨ mb = 2 ∨ mb = 3 ∨ mb = 4 ∨ mb = 5 ∨ mb = 6 ∨ mb = 7 ∨ mb = 8 ∨ mb = 9 by omega) with rfl | rfl | rfl | rfl | rfl | rfl | rfl | rfl | rfl <;> decide
theorem up_N {q : Rat} {D : Nat} (h : IntD D q) (d : D ∣ 252000) (N : Nat) : IntD (252000 * N) q := h.up (Nat.dvd_trans d ⟨N, rfl⟩)
theorem one_over {b : Int} (h : 1 ≤ b) : (Rat.divInt 1 b).num = 1 ∧ ((Rat.divInt 1 b).den : Int) = b := by
  obtain ⟨n, rfl⟩ := Int.eq_ofNat_of_zero_le (show 0 ≤ b by omega)
  have e : Rat.divInt 1 (n : Int) = ⟨1, n, by omega, by simp⟩ := Rat.num_divInt_den ⟨1, n, by omega, by simp⟩
  rw [e]
  exact ⟨rfl, rfl⟩
theorem kL_sz {z : Bk} {d : Rat} (zd : Sz d 6) : Sz (d / kD z) 8 := (div_szR zd (show Sz (kD z) 2 from Sz.int (by split <;> decide) (by decide)) (by unfold kD; rw [Rat.num_intCast]; split <;> decide)).mono (by decide)
section
variable {P : Program} {w : World} {K : PySem.W.Frag} {mg : Str → Option Value} {base : Heap}
def spClose : Sp := fun vs H Q _ => ∃ l z v1 v3 v4 v5 v6 d dv, vs = [.ref l, dv] ∧ H l = some (.lst (row9 z v1 v3 v4 v5 v6)) ∧ RuP z v1 v3 v4 v5 v6 H ∧ Sz z.share 8 ∧ Sz z.factor 40 ∧ Sz z.margin 40 ∧ 0 < d ∧ Sz d 6 ∧ PrQ d dv H ∧ Bl H (closB z d) Q
theorem f__law_close (T : Tm K mg) : GFn P w K mg base 6 "_law_close" spClose := by
  obtain ⟨fd, F⟩ := T.d__law_close
  refine GFn.mk F T.g__law_close (def_ok F sc__law_close (fun vs H Q E h => by obtain ⟨l, z, v1, v3, v4, v5, v6, d, dv, rfl, _⟩ := h; rfl) ?_) (F.bindsN fun _ _ _ _ _ _ us hl => match us, hl with | [_, _], _ => rfl)
  intro X eP ew eK em eb eN es hf nd H vs Q E B h
  subst eP ew eK em eb
  have n0 : Sl X 0 "_law_rules_here" := slot_of eN es hf nd rfl (by first | exact Or.inl rfl | exact Or.inr rfl) (by decide) (by decide)
  have n1 : Sl X 1 "_law_delay" := slot_of eN es hf nd rfl (by first | exact Or.inl rfl | exact Or.inr rfl) (by decide) (by decide)
  have n2 : Sl X 2 "_law_least_here" := slot_of eN es hf nd rfl (by first | exact Or.inl rfl | exact Or.inr rfl) (by decide) (by decide)
  have n3 : Sl X 3 "_law_behind" := slot_of eN es hf nd rfl (by first | exact Or.inl rfl | exact Or.inr rfl) (by decide) (by decide)
  have n4 : Sl X 4 "_law_made" := slot_of eN es hf nd rfl (by first | exact Or.inl rfl | exact Or.inr rfl) (by decide) (by decide)
  have g__law_over : Gn X "_law_over" := gn_of es rfl (by decide)
  have F__law_over := f__law_over (P := X.prog) (w := X.w) (base := X.base) T
  have g__law_by : Gn X "_law_by" := gn_of es rfl (by decide)
  have F__law_by := f__law_by (P := X.prog) (w := X.w) (base := X.base) T
  have g__law_minus : Gn X "_law_minus" := gn_of es rfl (by decide)
  have F__law_minus := f__law_minus (P := X.prog) (w := X.w) (base := X.base) T
  have g__law_sum : Gn X "_law_sum" := gn_of es rfl (by decide)
  have F__law_sum := f__law_sum (P := X.prog) (w := X.w) (base := X.base) T
  have g__law_less : Gn X "_law_less" := gn_of es rfl (by decide)
  have F__law_less := f__law_less (P := X.prog) (w := X.w) (base := X.base) T
  obtain ⟨l, z, v1, v3, v4, v5, v6, d, dv, rfl, hl, hr, zs, zf, zm, d0, zd, hd, k⟩ := h
  show WB X [_, _, _, _] _ [some (.ref l), some (dv), none, none, none] H
  obtain ⟨L0, dk, L3, L2⟩ := kD_half (z := z) d0
  have zL := kL_sz (z := z) zd
  have kl : ∀ {G : Hp}, Ex H G → G l = some (.lst (row9 z v1 v3 v4 v5 v6)) := fun x => x.keep _ _ hl ns9
  have eB : closB z d = (decide ((1 - z.share) * (d / kD z) + z.share * (z.factor * (d - d / kD z) + z.margin) < d) && decide (z.margin < d)) := rfl
  obtain ⟨L, hL⟩ : ∃ L, L = d / kD z := ⟨_, rfl⟩
  rw [← hL] at L0 dk L3 L2 zL eB
  with_reducible refine' wb_cons ?_
  with_reducible refine' ws_to (fun σ' H' => ∃ lv, σ' = [some (.ref l), some dv, some lv, none, none] ∧ Ex H H' ∧ PrQ L lv H') ?_ ?_
  · repeat walk_at "w"
    cases hdb : z.doubled with
    | true =>
      repeat walk_at "w"
      rename_i t Ha xa ht
      have hk : PrQ ((3 : Int) : Rat) (.ref t) Ha := prq_lit (a := 3) (b := 1) (by decide +kernel) (by decide +kernel) ht
      have ek : ((3 : Int) : Rat) = kD z := by unfold kD; rw [hdb]; rfl
      refine ⟨d, ((3 : Int) : Rat), dv, .ref t, rfl, hd.mono xa, hk, zd.mono (by decide), Sz.int (by decide) (by decide), by decide, fun y Hb xb hy => ?_⟩
      rw [ek, ← hL] at hy
      exact ⟨y, rfl, xa.trans xb, hy⟩
    | false =>
      repeat walk_at "w"
      rename_i t Ha xa ht
      have hk : PrQ ((2 : Int) : Rat) (.ref t) Ha := prq_lit (a := 2) (b := 1) (by decide +kernel) (by decide +kernel) ht
      have ek : ((2 : Int) : Rat) = kD z := by unfold kD; rw [hdb]; rfl
      refine ⟨d, ((2 : Int) : Rat), dv, .ref t, rfl, hd.mono xa, hk, zd.mono (by decide), Sz.int (by decide) (by decide), by decide, fun y Hb xb hy => ?_⟩
      rw [ek, ← hL] at hy
      exact ⟨y, rfl, xa.trans xb, hy⟩
  rintro σ' H1 ⟨lv, rfl, x1, hlv⟩
  have hr1 := hr.mono x1
  have hd1 := hd.mono x1
  have z1s : Sz (1 - z.share) 12 := ((show Sz ((1 : Int) : Rat) 2 from Sz.int (by decide) (by decide)).sub zs).mono (by decide)
  have zb := z1s.mul zL
  have zg := zd.sub zL
  have zfg := zf.mul zg
  have zma := zfg.add zm
  have zsm := zs.mul zma
  have zsum := zb.add zsm
  show WB X _ _ _ _
  with_reducible refine' wb_cons ?_
  with_reducible refine' ws_to (fun σ' H' => ∃ bv, σ' = [some (.ref l), some dv, some lv, some bv, none] ∧ Ex H1 H' ∧ PrQ ((1 - z.share) * L) bv H') ?_ ?_
  · repeat walk_at "w"
    rename_i t Ha xa ht
    have h1 : PrQ 1 (.ref t) Ha := prq_lit (a := 1) (b := 1) (by decide +kernel) (by decide +kernel) ht
    refine at_l (kl (x1.trans xa)) rfl ?_
    refine ⟨1, z.share, .ref t, v1, rfl, h1, hr1.sh.mono xa, Sz.int (i := 1) (by decide) (by decide), zs.mono (by decide), fun y Hb xb hy => ?_⟩
    repeat walk_at "w"
    exact ⟨1 - z.share, L, y, lv, rfl, hy, hlv.mono (xa.trans xb), z1s.mono (by decide), zL.mono (by decide), fun y2 Hc xc hy2 => ⟨y2, rfl, (xa.trans xb).trans xc, hy2⟩⟩
  rintro σ' H2 ⟨bv, rfl, x2, hbv⟩
  have x02 := x1.trans x2
  have hr2 := hr1.mono x2
  have hd2 := hd1.mono x2
  have hlv2 := hlv.mono x2
  show WB X _ _ _ _
  with_reducible refine' wb_cons ?_
  with_reducible refine' ws_to (fun σ' H' => ∃ mv, σ' = [some (.ref l), some dv, some lv, some bv, some mv] ∧ Ex H2 H' ∧ PrQ (z.factor * (d - L) + z.margin) mv H') ?_ ?_
  · repeat walk_at "w"
    refine at_l (kl x02) rfl ?_
    repeat walk_at "w"
    refine ⟨d, L, dv, lv, rfl, hd2, hlv2, zd.mono (by decide), zL.mono (by decide), fun y1 Ha xa hy1 => ?_⟩
    refine ⟨z.factor, d - L, v3, y1, rfl, hr2.fa.mono xa, hy1, zf.mono (by decide), zg.mono (by decide), fun y2 Hb xb hy2 => ?_⟩
    have xab := xa.trans xb
    repeat walk_at "w"
    refine at_l (kl (x02.trans xab)) rfl ?_
    exact ⟨z.factor * (d - L), z.margin, y2, v4, rfl, hy2, hr2.ma.mono xab, zfg.mono (by decide), zm.mono (by decide), fun y3 Hc xc hy3 => ⟨y3, rfl, xab.trans xc, hy3⟩⟩
  rintro σ' H3 ⟨mv, rfl, x3, hmv⟩
  have x03 := x02.trans x3
  have hr3 := hr2.mono x3
  have hd3 := hd2.mono x3
  have hbv3 := hbv.mono x3
  show WB X _ _ _ _
  repeat walk_at "w"
  refine at_l (kl x03) rfl ?_
  repeat walk_at "w"
  refine ⟨z.share, _, v1, mv, rfl, hr3.sh, hmv, zs.mono (by decide), zma.mono (by decide), fun y1 Ha xa hy1 => ?_⟩
  refine ⟨(1 - z.share) * L, _, bv, y1, rfl, hbv3.mono xa, hy1, zb.mono (by decide), zsm.mono (by decide), fun y2 Hb xb hy2 => ?_⟩
  have xab := xa.trans xb
  repeat walk_at "w"
  refine ⟨_, d, y2, dv, rfl, hy2, hd3.mono xab, zsum.mono (by decide), zd.mono (by decide), ?_⟩
  rw [eB] at k
  by_cases c1 : (1 - z.share) * L + z.share * (z.factor * (d - L) + z.margin) < d
  · rw [decide_eq_true c1] at k ⊢
    repeat walk_at "w"
    refine at_l (kl (x03.trans xab)) rfl ?_
    repeat walk_at "w"
    refine ⟨_, d, v4, dv, rfl, hr3.ma.mono xab, hd3.mono xab, zm.mono (by decide), zd.mono (by decide), ?_⟩
    repeat walk_at "w"
    exact k _ (x03.trans xab)
  · rw [decide_eq_false c1] at k ⊢
    repeat walk_at "w"
    exact k _ (x03.trans xab)
def spTame : Sp := fun vs H Q _ => ∃ p l z v1 v3 v4 v5 v6 d dv G, vs = [.ref p, .ref l, dv] ∧ Ex G H ∧ G l = none ∧ Sou G p ∧ H l = some (.lst (row9 z v1 v3 v4 v5 v6)) ∧ RuP z v1 v3 v4 v5 v6 H ∧ BkSm z ∧ MomF d ∧ PrQ d dv H ∧
  ∀ z' u1 u3 u4 u6 H' S F, Ex G H' → H' l = some (.lst (row9 z' u1 u3 u4 .non u6)) → RuP z' u1 u3 u4 .non u6 H' → PrQ d dv H' → (∀ N, 1 ≤ N → Tam z' d S F (252000 * N)) → Q (.ref l) H'
theorem f__law_tame (T : Tm K mg) : GFn P w K mg base 7 "_law_tame" spTame := by
  obtain ⟨fd, F⟩ := T.d__law_tame
  refine GFn.mk F T.g__law_tame (def_ok F sc__law_tame (fun vs H Q E h => by obtain ⟨p, l, z, v1, v3, v4, v5, v6, d, dv, G, rfl, _⟩ := h; rfl) ?_) (F.bindsN fun _ _ _ _ _ _ us hl => match us, hl with | [_, _, _], _ => rfl)
  intro X eP ew eK em eb eN es hf nd H vs Q E B h
  subst eP ew eK em eb
  have n0 : Sl X 0 "_law_source" := slot_of eN es hf nd rfl (by first | exact Or.inl rfl | exact Or.inr rfl) (by decide) (by decide)
  have n1 : Sl X 1 "_law_rules_here" := slot_of eN es hf nd rfl (by first | exact Or.inl rfl | exact Or.inr rfl) (by decide) (by decide)
  have n2 : Sl X 2 "_law_delay" := slot_of eN es hf nd rfl (by first | exact Or.inl rfl | exact Or.inr rfl) (by decide) (by decide)
  have g__law_by : Gn X "_law_by" := gn_of es rfl (by decide)
  have F__law_by := f__law_by (P := X.prog) (w := X.w) (base := X.base) T
  have g__law_draw : Gn X "_law_draw" := gn_of es rfl (by decide)
  have F__law_draw := f__law_draw (P := X.prog) (w := X.w) (base := X.base) T
  have g__law_close : Gn X "_law_close" := gn_of es rfl (by decide)
  have F__law_close := f__law_close (P := X.prog) (w := X.w) (base := X.base) T
  obtain ⟨p, l, z, v1, v3, v4, v5, v6, d, dv, G, rfl, x0, nl, so, hl, hr, sm, md, hd, k⟩ := h
  show WB X [_, _, _, _, _, _] _ [some (.ref p), some (.ref l), some (dv)] H
  have zd := md.sz
  have d0 := md.pos
  have ok := sm.ok
  obtain ⟨sa, sb, esh, sa1, sab, sb20⟩ := sm.fi.sh
  obtain ⟨fa, fb, efa, fb1, fb10, fab, fa40⟩ := sm.fi.fa
  have dS0 : IntD sb.toNat z.share := by rw [esh]; exact IntD.dv (by omega) ⟨1, (Nat.mul_one _).symm⟩
  have dF0 : IntD fb.toNat z.factor := by rw [efa]; exact IntD.dv (by omega) ⟨1, (Nat.mul_one _).symm⟩
  have f40 : z.factor ≤ ((40 : Int) : Rat) := by rw [efa, ← int_eq, dv_le (by omega) (by decide)]; omega
  with_reducible refine' wb_cons ?_
  with_reducible refine' ws_to (fun σ' H' => σ' = [some (.ref p), some (.ref l), some dv] ∧ Ex G H' ∧ H' l = some (.lst (row9 { z with word := "last", floor := none } v1 v3 v4 .non v6)) ∧ RuP { z with word := "last", floor := none } v1 v3 v4 .non v6 H' ∧ PrQ d dv H') ?_ ?_
  · refine ws_put2 B ?_
    repeat walk_at "w"
    intro Ha xa
    repeat walk_at "w"
    have hla := xa.keep _ _ hl ns9
    have hra := hr.mono xa
    have hda := hd.mono xa
    refine PutAt.mk hla (j := 0) rfl ?_
    obtain ⟨q1, q2, q3, q4⟩ := put_row (ys := (row9 z v1 v3 v4 v5 v6).set 0 (.str "last")) (x0.trans xa) nl hla
    have g1 := q2 _ _ hra.sh
    have g2 := q2 _ _ hra.fa
    have g3 := q2 _ _ hra.ma
    have g4 := q3 _ _ hra.ro
    have g5 := q2 _ _ hda
    have q4 : upd Ha l (.lst ((row9 z v1 v3 v4 v5 v6).set 0 (.str "last"))) l = some (.lst (row9 { z with word := "last" } v1 v3 v4 v5 v6)) := q4
    clear q2 q3
    generalize upd Ha l (.lst ((row9 z v1 v3 v4 v5 v6).set 0 (.str "last"))) = Hb at q1 q4 g1 g2 g3 g4 g5 ⊢
    repeat walk_at "w"
    refine PutAt.mk q4 (j := 5) rfl ?_
    obtain ⟨t1, t2, t3, t4⟩ := put_row (ys := (row9 { z with word := "last" } v1 v3 v4 v5 v6).set 5 .non) q1 nl q4
    exact ⟨rfl, t1, t4, ⟨t2 _ _ g1, t2 _ _ g2, t2 _ _ g3, rfl, t3 _ _ g4⟩, t2 _ _ g5⟩
  rintro σ' H1 ⟨rfl, x1, hl1, hr1, hd1⟩
  have so1 := so.mono x1
  have okz : ∀ {s f m : Rat} {r : Option Rat}, 0 < s → s ≤ 1 → (∀ n, z.latest = some n → s = 1) → 1 ≤ f → 0 ≤ m → (∀ q, r = some q → 0 < q) → Sz s 1000 → Sz f 1000 → Sz m 1000 → (∀ q, r = some q → Sz q 1000) → BkOk { z with word := "last", share := s, factor := f, margin := m, floor := none, roof := r } := fun {s f m r} a b c d e g h1 h2 h3 h4 =>
    ⟨(show ("last" : Str) ∈ (["first", "last", "marked", "clean"] : List Str) by decide +kernel), a, b, fun n en => ⟨(ok.lat n en).1, (ok.lat n en).2.1, c n en⟩, d, e, (fun f e => nomatch e), fun q eq => ⟨g q eq, fun f e => nomatch e⟩, ok.ke, h1, h2, h3, (fun f e => nomatch e), h4⟩
  have dd : ∀ N, IntD (252000 * N) d := fun N => up_N md.d ⟨100, rfl⟩ N
  have D1 : ∀ {N : Nat}, 1 ≤ N → 1 ≤ 252000 * N := fun h => by omega
  clear hl hr hd x0
  show WB X _ _ _ _
  with_reducible refine' wb_cons ?_
  with_reducible refine' ws_to (fun σ' H' => σ' = [some (.ref p), some (.ref l), some dv] ∧ Ex H1 H' ∧ z.roof = none) ?_ ?_
  · repeat walk_at "w"
    cases er : z.roof with
    | some r =>
      have z9 : Sz (Rat.divInt 9 10) 4 := Sz.div (by decide) (by decide) (by decide)
      have zr : Sz (d * Rat.divInt 9 10) 10 := (zd.mul z9).mono (by decide)
      have h6 : v6 ≠ .non := by
        have := hr1.ro
        rw [show ({ z with word := "last", floor := none } : Bk).roof = some r from er] at this
        obtain ⟨t, rfl, _⟩ := (show PrQ r v6 H1 from this)
        exact fun e => nomatch e
      rw [decide_eq_false h6]
      repeat walk_at "w"
      rename_i t Ha xa ht
      have h9 : PrQ (Rat.divInt 9 10) (.ref t) Ha := prq_lit (a := 9) (b := 10) (by decide +kernel) (by decide +kernel) ht
      refine ⟨d, Rat.divInt 9 10, dv, .ref t, rfl, hd1.mono xa, h9, zd.mono (by decide), z9.mono (by decide), fun y Hb xb hy => ?_⟩
      have hlb := (xa.trans xb).keep _ _ hl1 ns9
      have hrb := hr1.mono (xa.trans xb)
      repeat walk_at "w"
      refine put_l hlb (j := 6) rfl ?_
      obtain ⟨q1, q2, q3, q4⟩ := put_row (ys := (row9 { z with word := "last", floor := none } v1 v3 v4 .non v6).set 6 y) (x1.trans (xa.trans xb)) nl hlb
      have n9 : 0 < d * Rat.divInt 9 10 := Rat.mul_pos d0 (by decide +kernel)
      have i9 : IntD (2520 * 10) (d * Rat.divInt 9 10) := md.d.mul (IntD.dv (by decide) ⟨1, rfl⟩)
      repeat walk_at "w"
      refine k { z with word := "last", floor := none, roof := some (d * Rat.divInt 9 10) } v1 v3 v4 y _ sb.toNat fb.toNat q1 q4 ⟨q2 _ _ hrb.sh, q2 _ _ hrb.fa, q2 _ _ hrb.ma, rfl, q2 _ _ hy⟩ (q2 _ _ (hd1.mono (xa.trans xb))) fun N hN => ?_
      exact ⟨okz ok.sh0 ok.sh1 (fun n en => (ok.lat n en).2.2) ok.fa ok.ma (fun q e => by cases e; exact n9) ok.z1 ok.z2 ok.z3 (fun q e => by cases e; exact zr.mono (by decide)), rfl, rfl, sm.s1, sm.s2, sm.s3, (fun q e => by cases e; exact zr.mono (by decide)), dS0, dF0, up_N (marg_d sm) ⟨100, rfl⟩ N, (fun q e => by cases e; exact up_N i9 ⟨10, rfl⟩ N), dd N, d0, md.le60, by omega, by omega, by omega, by omega, D1 hN, f40, (fun q e => by cases e; rfl), (fun e => nomatch e), (fun e => nomatch e)⟩
    | none =>
      have h6 : v6 = .non := by
        have := hr1.ro
        rw [show ({ z with word := "last", floor := none } : Bk).roof = none from er] at this
        exact this
      rw [decide_eq_true h6]
      repeat walk_at "w"
      exact ⟨rfl, .refl _, rfl⟩
  rintro σ' H2 ⟨rfl, x2, er⟩
  have so2 := so1.mono x2
  have hl2 := x2.keep _ _ hl1 ns9
  have hr2 := hr1.mono x2
  have hd2 := hd1.mono x2
  have x12 := x1.trans x2
  clear hl1 hr1 hd1 so1
  show WB X _ _ _ _
  with_reducible refine' wb_cons ?_
  with_reducible refine' ws_to (fun σ' H' => ∃ s f u1 u3 S F, σ' = [some (.ref p), some (.ref l), some dv] ∧ Ex G H' ∧ H' l = some (.lst (row9 { z with word := "last", share := s, factor := f, floor := none } u1 u3 v4 .non v6)) ∧ RuP { z with word := "last", share := s, factor := f, floor := none } u1 u3 v4 .non v6 H' ∧ PrQ d dv H' ∧ 0 < s ∧ s ≤ 1 ∧ (∀ n, z.latest = some n → s = 1) ∧ 1 ≤ f ∧ f ≤ ((40 : Int) : Rat) ∧ Sz s 8 ∧ Sz f 40 ∧ IntD S s ∧ IntD F f ∧ 1 ≤ S ∧ S ≤ 31 ∧ 1 ≤ F ∧ F ≤ 10) ?_ ?_
  · repeat walk_at "w"
    rw [latV_nn]
    cases eb : z.latest.isNone with
    | true =>
      have el : z.latest = none := Option.isNone_iff_eq_none.mp eb
      repeat walk_at "w"
      rename_i g Ha xa g0 g1 t Hb xb ht
      obtain ⟨on, od⟩ := one_over (b := 2 + g) (by omega)
      have h1 : PrQ (Rat.divInt 1 (2 + g)) (.ref t) Hb := prq_lit on od ht
      have hlb := (xa.trans xb).keep _ _ hl2 ns9
      have hrb := hr2.mono (xa.trans xb)
      refine put_l hlb (j := 1) rfl ?_
      obtain ⟨q1, q2, q3, q4⟩ := put_row (ys := (row9 { z with word := "last", floor := none } v1 v3 v4 .non v6).set 1 (.ref t)) (x12.trans (xa.trans xb)) nl hlb
      exact ⟨Rat.divInt 1 (2 + g), z.factor, .ref t, v3, (2 + g).toNat, fb.toNat, rfl, q1, q4, ⟨q2 _ _ h1, q2 _ _ hrb.fa, q2 _ _ hrb.ma, rfl, q3 _ _ hrb.ro⟩, q2 _ _ (hd2.mono (xa.trans xb)), (dv_pos (by omega)).mpr (by decide), (dv_le1 (by omega)).mpr (by omega), (fun n e => by rw [el] at e; cases e), ok.fa, f40, Sz.div (by omega) (by decide) (by omega), sm.s2, IntD.dv (by omega) ⟨1, (Nat.mul_one _).symm⟩, dF0, by omega, by omega, by omega, by omega⟩
    | false =>
      repeat walk_at "w"
      rename_i t Hb xb ht
      have h1 : PrQ 1 (.ref t) Hb := prq_lit (a := 1) (b := 1) (by decide +kernel) (by decide +kernel) ht
      have hlb := xb.keep _ _ hl2 ns9
      have hrb := hr2.mono xb
      refine put_l hlb (j := 3) rfl ?_
      obtain ⟨q1, q2, q3, q4⟩ := put_row (ys := (row9 { z with word := "last", floor := none } v1 v3 v4 .non v6).set 3 (.ref t)) (x12.trans xb) nl hlb
      exact ⟨z.share, 1, v1, .ref t, sb.toNat, 1, rfl, q1, q4, ⟨q2 _ _ hrb.sh, q2 _ _ h1, q2 _ _ hrb.ma, rfl, q3 _ _ hrb.ro⟩, q2 _ _ (hd2.mono xb), ok.sh0, ok.sh1, (fun n e => (ok.lat n e).2.2), Rat.le_refl, by decide, sm.s1, Sz.int (i := 1) (by decide) (by decide), dS0, IntD.int 1, by omega, by omega, by decide, by decide⟩
  rintro σ' H3 ⟨s, f, u1, u3, S, F', rfl, x3, hl3, hr3, hd3, s0, s1, sl, f1, f4, zs, zf, dS, dF, S1, S31, F1, F10⟩
  have so3 := so.mono x3
  show WB X _ _ _ _
  with_reducible refine' wb_cons ?_
  with_reducible refine' ws_to (fun σ' H' => ∃ m u4, σ' = [some (.ref p), some (.ref l), some dv] ∧ Ex G H' ∧ H' l = some (.lst (row9 { z with word := "last", share := s, factor := f, margin := m, floor := none } u1 u3 u4 .non v6)) ∧ RuP { z with word := "last", share := s, factor := f, margin := m, floor := none } u1 u3 u4 .non v6 H' ∧ PrQ d dv H' ∧ 0 ≤ m ∧ m ≤ d * Rat.divInt 1 100 ∧ Sz m 40 ∧ IntD 252000 m) ?_ ?_
  · repeat walk_at "w"
    rename_i t1 Ha xa e1 t2 Hb xb e2 t3 Hc xc e3 lq He nq xe hlq dr Hf xf d0' d1'
    have y3 := xe.trans xf
    have y2 := xc.trans y3
    have y1 := xb.trans y2
    have y0 := xa.trans y1
    refine at_all (xf.keep _ _ hlq (ns_len (show 3 ≠ 4 by decide))) d0' d1' fun y hy => ?_
    have ey : ∃ q t, y = .ref t ∧ PrQ q (.ref t) Hf ∧ (q = 0 ∨ q = Rat.divInt 1 100) := by
      simp only [List.mem_cons, List.not_mem_nil, or_false] at hy
      rcases hy with rfl | rfl | rfl
      · exact ⟨Rat.divInt 0 1, t1, rfl, prq_lit (by decide +kernel) (by decide +kernel) (y1.tup e1), .inl (by decide +kernel)⟩
      · exact ⟨Rat.divInt 0 1, t2, rfl, prq_lit (by decide +kernel) (by decide +kernel) (y2.tup e2), .inl (by decide +kernel)⟩
      · exact ⟨Rat.divInt 1 100, t3, rfl, prq_lit (by decide +kernel) (by decide +kernel) (y3.tup e3), .inr rfl⟩
    obtain ⟨q, t, rfl, ht, hq⟩ := ey
    have zq : Sz q 8 := by
      rcases hq with rfl | rfl
      · exact Sz.int (i := 0) (by decide) (by decide)
      · exact Sz.div (by decide) (by decide) (by decide)
    refine ⟨d, q, dv, .ref t, rfl, hd3.mono y0, ht, zd.mono (by decide), zq.mono (by decide), fun u Hg xg hu => ?_⟩
    have z0 := y0.trans xg
    have hlb := z0.keep _ _ hl3 ns9
    have hrb := hr3.mono z0
    repeat walk_at "w"
    refine put_l hlb (j := 4) rfl ?_
    obtain ⟨q1, q2, q3, q4⟩ := put_row (ys := (row9 { z with word := "last", share := s, factor := f, floor := none } u1 u3 v4 .non v6).set 4 u) (x3.trans z0) nl hlb
    have c1 : (0 : Rat) ≤ Rat.divInt 1 100 := by decide +kernel
    have iq : IntD 100 q := by
      rcases hq with rfl | rfl
      · exact ⟨0, by rw [Rat.zero_mul]; rfl⟩
      · exact IntD.dv (by decide) ⟨1, rfl⟩
    refine ⟨d * q, u, rfl, q1, q4, ⟨q2 _ _ hrb.sh, q2 _ _ hrb.fa, q2 _ _ hu, rfl, q3 _ _ hrb.ro⟩, q2 _ _ (hd3.mono z0), ?_, ?_, (zd.mul zq).mono (by decide), md.d.mul iq⟩
    · exact Rat.mul_nonneg (Rat.le_of_lt d0) (by rcases hq with rfl | rfl <;> decide +kernel)
    · exact Rat.mul_le_mul_of_nonneg_left (by rcases hq with rfl | rfl <;> decide +kernel) (Rat.le_of_lt d0)
  rintro σ' H4 ⟨m, u4, rfl, x4, hl4, hr4, hd4, m0, m1, zm, dm⟩
  have so4 := so.mono x4
  show WB X _ _ _ _
  with_reducible refine' wb_cons ?_
  with_reducible refine' ws_to (fun σ' H' => ∃ f u3 F, σ' = [some (.ref p), some (.ref l), some dv] ∧ Ex G H' ∧ H' l = some (.lst (row9 { z with word := "last", share := s, factor := f, margin := m, floor := none } u1 u3 u4 .non v6)) ∧ RuP { z with word := "last", share := s, factor := f, margin := m, floor := none } u1 u3 u4 .non v6 H' ∧ PrQ d dv H' ∧ (∀ N, 1 ≤ N → Tam { z with word := "last", share := s, factor := f, margin := m, floor := none } d S F (252000 * N))) ?_ ?_
  · have tamF : ∀ g F, 1 ≤ g → g ≤ ((40 : Int) : Rat) → Sz g 40 → IntD F g → 1 ≤ F → F ≤ 10 → (closB { z with word := "last", share := s, factor := g, margin := m, floor := none } d = true ∨ g = 1) → ∀ N, 1 ≤ N → Tam { z with word := "last", share := s, factor := g, margin := m, floor := none } d S F (252000 * N) := fun g F g1 g4 zg dg h1 h10 hc N hN =>
      ⟨okz s0 s1 sl g1 m0 (fun q e => by rw [er] at e; cases e) (zs.mono (by decide)) (zg.mono (by decide)) (zm.mono (by decide)) (fun q e => by rw [er] at e; cases e), rfl, rfl, zs, zg, zm, (fun q e => by rw [er] at e; cases e), dS, dg, up_N dm ⟨1, rfl⟩ N, (fun q e => by rw [er] at e; cases e), dd N, d0, md.le60, S1, S31, h1, h10, D1 hN, g4, (fun q e => by rw [er] at e; cases e), (fun _ => m1), fun _ => hc⟩
    repeat walk_at "w"
    refine ⟨l, _, u1, u3, u4, .non, v6, d, dv, rfl, hl4, hr4, zs, zf, zm, d0, zd, hd4, fun Ha xa => ?_⟩
    cases hc : closB { z with word := "last", share := s, factor := f, margin := m, floor := none } d with
    | true =>
      repeat walk_at "w"
      exact ⟨f, u3, F', rfl, x4.trans xa, xa.keep _ _ hl4 ns9, hr4.mono xa, hd4.mono xa, tamF f F' f1 f4 zf dF F1 F10 (.inl hc)⟩
    | false =>
      repeat walk_at "w"
      rename_i t Hb xb ht
      have h1 : PrQ 1 (.ref t) Hb := prq_lit (a := 1) (b := 1) (by decide +kernel) (by decide +kernel) ht
      have hlb := (xa.trans xb).keep _ _ hl4 ns9
      have hrb := hr4.mono (xa.trans xb)
      refine put_l hlb (j := 3) rfl ?_
      obtain ⟨q1, q2, q3, q4⟩ := put_row (ys := (row9 { z with word := "last", share := s, factor := f, margin := m, floor := none } u1 u3 u4 .non v6).set 3 (.ref t)) (x4.trans (xa.trans xb)) nl hlb
      exact ⟨1, .ref t, 1, rfl, q1, q4, ⟨q2 _ _ hrb.sh, q2 _ _ h1, q2 _ _ hrb.ma, rfl, q3 _ _ hrb.ro⟩, q2 _ _ (hd4.mono (xa.trans xb)), tamF 1 1 Rat.le_refl (by decide) (Sz.int (i := 1) (by decide) (by decide)) (IntD.int 1) (by decide) (by decide) (.inr rfl)⟩
  rintro σ' H5 ⟨f', u3', F5, rfl, x5, hl5, hr5, hd5, tam⟩
  show WB X _ _ _ _
  repeat walk_at "w"
  exact k _ u1 u3' u4 v6 H5 S F5 x5 hl5 hr5 hd5 tam
end

/-! ### decide, where all waits stay below -/
theorem o_notB {X : Cx} {H : Hp} {Q : VK} {a b : Bool} (q : Q (.bl (!decide (a = b))) H) : Op2 X (compareOp .IsNot) (.bl a) (.bl b) H Q := op2_of op_notBl ⟨a, b, rfl, rfl, q⟩
section
variable {P : Program} {w : World} {K : PySem.W.Frag} {mg : Str → Option Value} {base : Heap}
def spDecN (K : PySem.W.Frag) : Sp := fun vs H Q _ => ∃ z e d v ev dv, vs = [v, ev, dv] ∧ BookV K z v H ∧ DecZ z ∧ Tim K e ev H ∧ Tim K d dv H ∧ 0 < e ∧ 0 < d ∧ Sz e 400 ∧ Sz (madeW z e) 500 ∧ Sz d 100 ∧ madeW z e < d ∧ ndl z.doubled (madeW z e) d ≤ 1000 ∧ allB z d = true ∧
  ∀ y H', Ex H H' → VdV K "never" none none y H' → Q y H'
theorem f_decide (T : Tm K mg) : GFn P w K mg base 17 "decide" (spDecN K) := by
  obtain ⟨fd, F⟩ := T.d_decide
  refine GFn.mk F T.g_decide (def_ok F sc_decide (fun vs H Q E h => by obtain ⟨z, e, d, v, ev, dv, rfl, _⟩ := h; rfl) ?_) (F.bindsN fun _ _ _ _ _ _ us hl => match us, hl with | [_, _, _], _ => rfl)
  intro X eP ew eK em eb eN es hf nd H vs Q E B h
  subst eP ew eK em eb
  have n0 : Sl X 0 "book" := slot_of eN es hf nd rfl (by first | exact Or.inl rfl | exact Or.inr rfl) (by decide) (by decide)
  have n1 : Sl X 1 "estimate" := slot_of eN es hf nd rfl (by first | exact Or.inl rfl | exact Or.inr rfl) (by decide) (by decide)
  have n2 : Sl X 2 "delay" := slot_of eN es hf nd rfl (by first | exact Or.inl rfl | exact Or.inr rfl) (by decide) (by decide)
  have n3 : Sl X 3 "start" := slot_of eN es hf nd rfl (by first | exact Or.inl rfl | exact Or.inr rfl) (by decide) (by decide)
  have n4 : Sl X 4 "goal" := slot_of eN es hf nd rfl (by first | exact Or.inl rfl | exact Or.inr rfl) (by decide) (by decide)
  have n5 : Sl X 5 "first_wait" := slot_of eN es hf nd rfl (by first | exact Or.inl rfl | exact Or.inr rfl) (by decide) (by decide)
  have n6 : Sl X 6 "course" := slot_of eN es hf nd rfl (by first | exact Or.inl rfl | exact Or.inr rfl) (by decide) (by decide)
  have g_check_times : Gn X "check_times" := gn_of es rfl (by decide)
  have F_check_times := f_check_times (P := X.prog) (w := X.w) (base := X.base) T
  have g_time_of : Gn X "time_of" := gn_of es rfl (by decide)
  have F_time_of := f_time_of (P := X.prog) (w := X.w) (base := X.base) T
  have g_made_of : Gn X "made_of" := gn_of es rfl (by decide)
  have F_made_of := f_made_of (P := X.prog) (w := X.w) (base := X.base) T
  have g_Verdict : Gn X "Verdict" := gn_of es rfl (by decide)
  have m_Verdict := T.g_Verdict
  have g_resent : Gn X "resent" := gn_of es rfl (by decide)
  have F_resent := f_resent (P := X.prog) (w := X.w) (base := X.base) T
  have g_MOST_NEEDLESS : Gn X "MOST_NEEDLESS" := gn_of es rfl (by decide)
  obtain ⟨t_MOST_NEEDLESS, m_MOST_NEEDLESS⟩ := T.i_MOST_NEEDLESS
  have g_TooMany : Gn X "TooMany" := gn_of es rfl (by decide)
  have m_TooMany := T.g_TooMany
  have g_all_below : Gn X "all_below" := gn_of es rfl (by decide)
  have F_all_below := f_all_below (P := X.prog) (w := X.w) (base := X.base) T
  have g_learned_verdict : Gn X "learned_verdict" := gn_of es rfl (by decide)
  have g_LastCourse : Gn X "LastCourse" := gn_of es rfl (by decide)
  have m_LastCourse := T.g_LastCourse
  have z_len : Bn X "len" := bn_of es rfl T.z_len
  have kb : X.env.blockKind = .function := blk_of es rfl
  have k_start : X.env.kindOf "start" = some .local := kd_of es rfl
  have k_goal : X.env.kindOf "goal" = some .local := kd_of es rfl
  obtain ⟨z, e, d, v, ev, dv, rfl, hb, dz, he, hd, e0, d0, ze, zm, zd, wd, c1000, ha, k⟩ := h
  have ok := dz.par.ok
  have w0 := made_posA ok e0
  show WB X [_, _, _, _, _, _, _, _, _, _] _ [some (v), some (ev), some (dv), none, none, none, none] H
  with_reducible refine' wb_cons ?_
  with_reducible refine' ws_to (fun σ' H' => σ' = [some v, some ev, some dv, none, none, none, none] ∧ Ex H H') ?_ ?_
  · with_reducible refine' ws_expr ?_ ?hs
    case hs => rfl
    repeat walk_at "w"
    refine ⟨(show 2 ≤ 100 by decide), fun t ht => ?_, fun H1 x1 => ?_⟩
    · simp only [List.mem_cons, List.not_mem_nil, or_false] at ht
      rcases ht with rfl | rfl
      · exact ⟨e, he, e0, ze.mono (by decide)⟩
      · exact ⟨d, hd, d0, zd.mono (by decide)⟩
    · repeat walk_at "w"
      exact ⟨rfl, x1⟩
  rintro σ' H1 ⟨rfl, x1⟩
  show WB X _ _ _ _
  with_reducible refine' wb_cons ?_
  with_reducible refine' ws_to (fun σ' H' => ∃ s g, σ' = [some v, some ev, some dv, some s, some g, none, none] ∧ Ex H H' ∧ TimeV (CT X.K) e s H' ∧ TimeV (CT X.K) d g H') ?_ ?_
  · repeat walk_at "w"
    refine to_tim (he.mono x1) fun y1 Ha xa hy1 => ?_
    repeat walk_at "w"
    refine to_tim (hd.mono (x1.trans xa)) fun y2 Hb xb hy2 => ?_
    repeat walk_at "w"
    exact ⟨_, _, rfl, (x1.trans xa).trans xb, TimeV.mono xb hy1, hy2⟩
  rintro σ' H2 ⟨s, g, rfl, x2, hs, hg⟩
  have hb2 := hb.mono x2
  show WB X _ _ _ _
  with_reducible refine' wb_cons ?_
  with_reducible refine' ws_to (fun σ' H' => ∃ w, σ' = [some v, some ev, some dv, some s, some g, some w, none] ∧ Ex H2 H' ∧ TimeV (CT X.K) (madeW z e) w H') ?_ ?_
  · repeat walk_at "w"
    exact ⟨z, e, v, s, rfl, hb2, ok, hs, ze.mono (by decide), fun y Ha xa hy => ⟨y, rfl, xa, hy⟩⟩
  rintro σ' H3 ⟨w, rfl, x3, hw⟩
  have hg3 := TimeV.mono x3 hg
  have zm4 : Sz (madeW z e) 4000 := zm.mono (by decide)
  have zd4 : Sz d 4000 := zd.mono (by decide)
  show WB X _ _ _ _
  with_reducible refine' wb_cons ?_
  with_reducible refine' ws_to (fun σ' H' => σ' = [some v, some ev, some dv, some s, some g, some w, none] ∧ Ex H3 H') ?_ ?_
  · repeat walk_at "w"
    rename_i Ha xa
    rw [decide_eq_false (show ¬ d ≤ madeW z e from Rat.not_le.mpr wd)]
    repeat walk_at "w"
    exact ⟨rfl, xa⟩
  rintro σ' H4 ⟨rfl, x4⟩
  have hw4 := TimeV.mono x4 hw
  have hg4 := TimeV.mono x4 hg3
  have hb4 := hb2.mono (x3.trans x4)
  show WB X _ _ _ _
  with_reducible refine' wb_cons ?_
  with_reducible refine' ws_to (fun σ' H' => σ' = [some v, some ev, some dv, some s, some g, some w, none] ∧ Ex H4 H') ?_ ?_
  · refine ws_if (wt_cmp (we_callK B g_resent F_resent (by decide) ?_) (by rfl))
    repeat walk_at "w"
    refine wk_cons ?_
    repeat walk_at "w"
    refine wk_nil ⟨rfl, rfl, madeW z e, d, w, g, z.doubled, rfl, .inl hw4, .inl hg4, w0, d0, zm.mono (by decide), zd.mono (by decide), fun Ha xa => ?_⟩
    rw [ndl_int w0 d0]
    repeat walk_at "w"
    rw [decide_eq_false (show ¬ (1000 : Int) < (ndl z.doubled (madeW z e) d : Nat) by omega)]
    repeat walk_at "w"
    exact ⟨rfl, xa⟩
  rintro σ' H5 ⟨rfl, x5⟩
  have hb5 := hb4.mono x5
  have hg5 := TimeV.mono x5 hg4
  have x05 := ((x2.trans x3).trans x4).trans x5
  show WB X _ _ _ _
  refine wb_cons (ws_if ?_)
  repeat walk_at "w"
  refine ⟨z, d, v, g, rfl, hb5, dz, .inl hg5, d0, zd.mono (by decide), fun Hd xd => ?_⟩
  rw [ha]
  repeat walk_at "w"
  refine we_make B g_Verdict (k_Verdict T) (by decide) ?_
  repeat walk_at "w"
  exact made_vd (n := none) (r := none) fun a G xg h => k _ G ((x05.trans xd).trans xg) h
end

/-! ### the law -/
section
variable {P : Program} {w : World} {K : PySem.W.Frag} {mg : Str → Option Value} {base : Heap}
def spLaw (K : PySem.W.Frag) : Sp := fun vs H Q _ => ∃ a ns, vs = [.ref a] ∧ SqL K H a (List.map V.int ns) ∧ ∀ H', Q (.bl true) H'
theorem ok_law (hP : P = PySem.Challenge.pw_resendtimers_k41_whole_last_stays_below) (T : Tm K mg) {fd : FuncData} (F : FunD K "law" "law" (defArgs s_law) (defBody s_law) (defScope s_law) [] [] (ga K "law") fd) : FnOk P w K mg base CX0 21 (ga K "law") fd ["_law_script"] (spLaw K) := by
  refine def_okN F sc_law (fun vs H Q E h => by obtain ⟨a, ns, rfl, _⟩ := h; rfl) ?_
  intro X eP ew eK em eb eN es hf nd H vs Q E B h
  subst eP ew eK em eb
  have n0 : Sl X 0 "_law_script" := slot_of eN es hf nd rfl (by first | exact Or.inl rfl | exact Or.inr rfl) (by decide) (by decide)
  have n1 : Sl X 1 "_law_source" := slot_of eN es hf nd rfl (by first | exact Or.inl rfl | exact Or.inr rfl) (by decide) (by decide)
  have n2 : Sl X 2 "_law_turn" := slot_of eN es hf nd rfl (by first | exact Or.inl rfl | exact Or.inr rfl) (by decide) (by decide)
  have n3 : Sl X 3 "_law_delay" := slot_of eN es hf nd rfl (by first | exact Or.inl rfl | exact Or.inr rfl) (by decide) (by decide)
  have n4 : Sl X 4 "_law_rules_here" := slot_of eN es hf nd rfl (by first | exact Or.inl rfl | exact Or.inr rfl) (by decide) (by decide)
  have n5 : Sl X 5 "_law_estimate_here" := slot_of eN es hf nd rfl (by first | exact Or.inl rfl | exact Or.inr rfl) (by decide) (by decide)
  have n6 : Sl X 6 "_law_book_here" := slot_of eN es hf nd rfl (by first | exact Or.inl rfl | exact Or.inr rfl) (by decide) (by decide)
  have n7 : Sl X 7 "_law_one" := slot_of eN es hf nd rfl (by first | exact Or.inl rfl | exact Or.inr rfl) (by decide) (by decide)
  have n8 : Sl X 8 "_law_other" := slot_of eN es hf nd rfl (by first | exact Or.inl rfl | exact Or.inr rfl) (by decide) (by decide)
  have n9 : Sl X 9 "_law_state_here" := slot_of eN es hf nd rfl (by first | exact Or.inl rfl | exact Or.inr rfl) (by decide) (by decide)
  have n10 : Sl X 10 "_law_at" := slot_of eN es hf nd rfl (by first | exact Or.inl rfl | exact Or.inr rfl) (by decide) (by decide)
  have g__law_begin : Gn X "_law_begin" := gn_of es rfl (by decide)
  have F__law_begin := f__law_begin (P := X.prog) (w := X.w) (base := X.base) T
  have z_range : Bn X "range" := bn_of es rfl T.z_range
  have g__law_moment : Gn X "_law_moment" := gn_of es rfl (by decide)
  have F__law_moment := f__law_moment (P := X.prog) (w := X.w) (base := X.base) T
  have g__law_tame : Gn X "_law_tame" := gn_of es rfl (by decide)
  have F__law_tame := f__law_tame (P := X.prog) (w := X.w) (base := X.base) T
  have g__law_rules : Gn X "_law_rules" := gn_of es rfl (by decide)
  have F__law_rules := f__law_rules (P := X.prog) (w := X.w) (base := X.base) T
  have g__law_less : Gn X "_law_less" := gn_of es rfl (by decide)
  have F__law_less := f__law_less (P := X.prog) (w := X.w) (base := X.base) T
  have g__law_wait : Gn X "_law_wait" := gn_of es rfl (by decide)
  have F__law_wait := f__law_wait (P := X.prog) (w := X.w) (base := X.base) T
  have g__law_by : Gn X "_law_by" := gn_of es rfl (by decide)
  have F__law_by := f__law_by (P := X.prog) (w := X.w) (base := X.base) T
  have g__law_draw : Gn X "_law_draw" := gn_of es rfl (by decide)
  have F__law_draw := f__law_draw (P := X.prog) (w := X.w) (base := X.base) T
  have g__law_book : Gn X "_law_book" := gn_of es rfl (by decide)
  have F__law_book := f__law_book (P := X.prog) (w := X.w) (base := X.base) T
  have g__law_time : Gn X "_law_time" := gn_of es rfl (by decide)
  have F__law_time := f__law_time (P := X.prog) (w := X.w) (base := X.base) T
  have g_all_below : Gn X "all_below" := gn_of es rfl (by decide)
  have F_all_below := f_all_below (P := X.prog) (w := X.w) (base := X.base) T
  have g_decide : Gn X "decide" := gn_of es rfl (by decide)
  have F_decide := f_decide (P := X.prog) (w := X.w) (base := X.base) T
  have g__law_state : Gn X "_law_state" := gn_of es rfl (by decide)
  have F__law_state := f__law_state (P := X.prog) (w := X.w) (base := X.base) T
  have g__law_go : Gn X "_law_go" := gn_of es rfl (by decide)
  have F__law_go := f__law_go (P := X.prog) (w := X.w) (base := X.base) T
  have z_len : Bn X "len" := bn_of es rfl T.z_len
  have z_str : Bn X "str" := bn_of es rfl T.z_str
  have g__law_estimate : Gn X "_law_estimate" := gn_of es rfl (by decide)
  have F__law_estimate := f__law_estimate (P := X.prog) (w := X.w) (base := X.base) T
  have g__law_steady : Gn X "_law_steady" := gn_of es rfl (by decide)
  have F__law_steady := f__law_steady (P := X.prog) (w := X.w) (base := X.base) T
  obtain ⟨a, ns, rfl, hs, k⟩ := h
  show WB X [_, _, _] _ [some (.ref a), none, none, none, none, none, none, none, none, none, none] H
  repeat walk_at "w"
  refine ⟨a, ns, rfl, hs, fun p H1 x1 so => ?_⟩
  show WB X _ _ _ _
  with_reducible refine' wb_cons ?_
  with_reducible refine' ws_to (fun _ _ => True) ?_ ?_
  · refine ws_for_range (n := 4) B n2 z_range (fun _ σ H' => (∃ c2 c3 c4 c5 c6 c7 c8 c9 c10, σ = [some (.ref a), some (.ref p), c2, c3, c4, c5, c6, c7, c8, c9, c10]) ∧ Ex H1 H') ?_ ?_ ?_
    · exact we_int ⟨rfl, ⟨_, _, _, _, _, _, _, _, _, rfl⟩, .refl _⟩
    · rintro j σ' H2 _ ⟨⟨c2, c3, c4, c5, c6, c7, c8, c9, c10, rfl⟩, x2⟩
      have so2 := so.mono x2
      show WB X _ _ [some (.ref a), some (.ref p), some (.int (j : Nat)), c3, c4, c5, c6, c7, c8, c9, c10] H2
      with_reducible refine' wb_cons ?_
      with_reducible refine' ws_to (fun σ' H' => ∃ d dv, σ' = [some (.ref a), some (.ref p), some (.int (j : Nat)), some dv, c4, c5, c6, c7, c8, c9, c10] ∧ Ex H2 H' ∧ PrQ d dv H' ∧ MomF d) ?_ ?_
      · repeat walk_at "w"
        exact ⟨p, rfl, so2, fun d dv Ha xa hd m => ⟨d, dv, rfl, xa, hd, m.fi⟩⟩
      rintro σ' H3 ⟨d, dv, rfl, x3, hd, md⟩
      have so3 := so2.mono x3
      have d0 := md.pos
      have zd := md.sz
      show WB X _ _ _ _
      with_reducible refine' wb_cons ?_
      with_reducible refine' ws_to (fun σ' H' => ∃ z l u1 u3 u4 u6 S F, σ' = [some (.ref a), some (.ref p), some (.int (j : Nat)), some dv, some (.ref l), c5, c6, c7, c8, c9, c10] ∧ Ex H3 H' ∧ H' l = some (.lst (row9 z u1 u3 u4 .non u6)) ∧ RuP z u1 u3 u4 .non u6 H' ∧ PrQ d dv H' ∧ (∀ N, 1 ≤ N → Tam z d S F (252000 * N))) ?_ ?_
      · repeat walk_at "w"
        rename_i wl G1 n1 y1 h1
        refine ⟨p, wl, ["last"], rfl, so3.mono y1, h1, by decide, by decide, by decide +kernel, fun z l v1 v3 v4 v5 v6 H' x nl hl hr sm hw => ?_⟩
        repeat walk_at "w"
        refine ⟨p, l, z, v1, v3, v4, v5, v6, d, dv, H3, rfl, y1.trans x, y1.back nl, so3, hl, hr, sm, md, hd.mono (y1.trans x), fun z' u1 u3 u4 u6 Hb S F xb hlb hrb hdb tam => ?_⟩
        exact ⟨z', l, u1, u3, u4, u6, S, F, rfl, xb, hlb, hrb, hdb, tam⟩
      rintro σ' H4 ⟨z, l, u1, u3, u4, u6, S, F', rfl, x4, hl, hr, hd4, tam⟩
      have t1 := tam 1 (by decide)
      have ok := t1.ok
      have so4 := so3.mono x4
      have kl : ∀ {G : Hp}, Ex H4 G → G l = some (.lst (row9 z u1 u3 u4 .non u6)) := fun x => x.keep _ _ hl ns9
      show WB X _ _ _ _
      with_reducible refine' wb_cons ?_
      with_reducible refine' ws_to (fun σ' H' => ∃ e ev, σ' = [some (.ref a), some (.ref p), some (.int (j : Nat)), some dv, some (.ref l), some ev, c6, c7, c8, c9, c10] ∧ Ex H4 H' ∧ PrQ e ev H' ∧ MomF e) ?_ ?_
      · repeat walk_at "w"
        exact ⟨p, rfl, so4, fun e ev Ha xa he m => ⟨e, ev, rfl, xa, he, m.fi⟩⟩
      rintro σ' H5 ⟨e1, ev1, rfl, x5, he1, me⟩
      have so5 := so4.mono x5
      have hr5 := hr.mono x5
      have hd5 := hd4.mono x5
      have ze1 := me.sz
      show WB X _ _ _ _
      with_reducible refine' wb_cons ?_
      with_reducible refine' ws_to (fun σ' H' => ∃ e ev, σ' = [some (.ref a), some (.ref p), some (.int (j : Nat)), some dv, some (.ref l), some ev, c6, c7, c8, c9, c10] ∧ Ex H5 H' ∧ PrQ e ev H' ∧ 0 < e ∧ e ≤ ((60 : Int) : Rat) ∧ Sz e 20 ∧ (∃ N, 1 ≤ N ∧ N ≤ 90 ∧ IntD (252000 * N) e) ∧ d ≤ 90 * e) ?_ ?_
      · have zm1 : Sz (madeW z e1) 120 := (made_szT t1 ze1 (by decide)).mono (by decide)
        have fin : ∀ g : Int, 0 ≤ g → g < 60 → 0 < d * Rat.divInt 1 (3 + g) ∧ d * Rat.divInt 1 (3 + g) ≤ ((60 : Int) : Rat) ∧ Sz (d * Rat.divInt 1 (3 + g)) 20 ∧ (∃ N, 1 ≤ N ∧ N ≤ 90 ∧ IntD (252000 * N) (d * Rat.divInt 1 (3 + g))) ∧ d ≤ 90 * (d * Rat.divInt 1 (3 + g)) := fun g g0 g1 => by
          have q0 : 0 < Rat.divInt 1 (3 + g) := (dv_pos (by omega)).mpr (by decide)
          have q1 : Rat.divInt 1 (3 + g) ≤ 1 := (dv_le1 (by omega)).mpr (by omega)
          have q9 : Rat.divInt 1 90 ≤ Rat.divInt 1 (3 + g) := by rw [dv_le (by decide) (by omega)]; omega
          have zq : Sz (Rat.divInt 1 (3 + g)) 6 := Sz.div (by omega) (by decide) (by omega)
          have p1 := Rat.mul_le_mul_of_nonneg_left q1 (Rat.le_of_lt d0)
          have p9 := Rat.mul_le_mul_of_nonneg_left q9 (Rat.le_of_lt d0)
          have n9 := ninetyT d
          have d60 := md.le60
          have i1 : IntD (2520 * (3 + g).toNat) (d * Rat.divInt 1 (3 + g)) := md.d.mul (IntD.dv (by omega) ⟨1, (Nat.mul_one _).symm⟩)
          exact ⟨Rat.mul_pos d0 q0, by grind, (zd.mul zq).mono (by decide), ⟨(3 + g).toNat, by omega, by omega, i1.up (Nat.mul_dvd_mul_right ⟨100, rfl⟩ _)⟩, by grind⟩
        repeat walk_at "w"
        refine ⟨z, l, u1, u3, u4, .non, u6, e1, ev1, rfl, kl x5, hr5, ok, he1, ze1.mono (by decide), fun y Ha xa hy => ?_⟩
        repeat walk_at "w"
        refine ⟨_, d, y, dv, rfl, hy, hd5.mono xa, zm1.mono (by decide), zd.mono (by decide), ?_⟩
        by_cases hc : madeW z e1 < d
        · rw [decide_eq_true hc]
          repeat walk_at "w"
          rename_i t Hb xb ht
          have h90 : PrQ ((90 : Int) : Rat) (.ref t) Hb := prq_lit (a := 90) (b := 1) (by decide +kernel) (by decide +kernel) ht
          have z90 : Sz ((90 : Int) : Rat) 7 := Sz.int (by decide) (by decide)
          refine ⟨e1, ((90 : Int) : Rat), ev1, .ref t, rfl, he1.mono (xa.trans xb), h90, ze1.mono (by decide), z90.mono (by decide), fun y2 Hc xc hy2 => ?_⟩
          have xac := (xa.trans xb).trans xc
          repeat walk_at "w"
          refine ⟨_, d, y2, dv, rfl, hy2, hd5.mono xac, (ze1.mul z90).mono (by decide), zd.mono (by decide), ?_⟩
          have e90 : ((90 : Int) : Rat) = 90 := rfl
          by_cases c2 : e1 * ((90 : Int) : Rat) < d
          · rw [decide_eq_true c2]
            repeat walk_at "w"
            rename_i g Hd xd g0 g1 t2 He xe ht2
            obtain ⟨on, od⟩ := one_over (b := 3 + g) (by omega)
            have h1 : PrQ (Rat.divInt 1 (3 + g)) (.ref t2) He := prq_lit on od ht2
            have z1 : Sz (Rat.divInt 1 (3 + g)) 6 := Sz.div (by omega) (by decide) (by omega)
            have xae := (xac.trans xd).trans xe
            refine ⟨d, Rat.divInt 1 (3 + g), dv, .ref t2, rfl, hd5.mono xae, h1, zd.mono (by decide), z1.mono (by decide), fun y3 Hf xf hy3 => ?_⟩
            obtain ⟨f1, f2, f3, f4, f5⟩ := fin g g0 g1
            exact ⟨_, y3, rfl, xae.trans xf, hy3, f1, f2, f3, f4, f5⟩
          · rw [decide_eq_false c2]
            repeat walk_at "w"
            exact ⟨e1, ev1, rfl, xac, he1.mono xac, me.pos, me.le60, ze1.mono (by decide), ⟨1, by decide, by decide, up_N me.d ⟨100, rfl⟩ 1⟩, by rw [e90] at c2; grind⟩
        · rw [decide_eq_false hc]
          repeat walk_at "w"
          rename_i g Hd xd g0 g1 t2 He xe ht2
          obtain ⟨on, od⟩ := one_over (b := 3 + g) (by omega)
          have h1 : PrQ (Rat.divInt 1 (3 + g)) (.ref t2) He := prq_lit on od ht2
          have z1 : Sz (Rat.divInt 1 (3 + g)) 6 := Sz.div (by omega) (by decide) (by omega)
          have xae := (xa.trans xd).trans xe
          refine ⟨d, Rat.divInt 1 (3 + g), dv, .ref t2, rfl, hd5.mono xae, h1, zd.mono (by decide), z1.mono (by decide), fun y3 Hf xf hy3 => ?_⟩
          obtain ⟨f1, f2, f3, f4, f5⟩ := fin g g0 g1
          exact ⟨_, y3, rfl, xae.trans xf, hy3, f1, f2, f3, f4, f5⟩
      rintro σ' H6 ⟨e2, ev2, rfl, x6, he2, e20, e260, ze2, ⟨N, N1, N90, dN⟩, e290⟩
      have hr6 := hr5.mono x6
      have hd6 := hd5.mono x6
      show WB X _ _ _ _
      with_reducible refine' wb_cons ?_
      with_reducible refine' ws_to (fun σ' H' => ∃ e ev, σ' = [some (.ref a), some (.ref p), some (.int (j : Nat)), some dv, some (.ref l), some ev, c6, c7, c8, c9, c10] ∧ Ex H6 H' ∧ PrQ e ev H' ∧ 0 < e ∧ e ≤ ((60 : Int) : Rat) ∧ Sz e 20 ∧ (∃ N, 1 ≤ N ∧ N ≤ 90 ∧ IntD (252000 * N) e) ∧ d ≤ 90 * e ∧ madeW z e < d) ?_ ?_
      · have zm2 : Sz (madeW z e2) 120 := (made_szT t1 ze2 (by decide)).mono (by decide)
        repeat walk_at "w"
        refine ⟨z, l, u1, u3, u4, .non, u6, e2, ev2, rfl, kl (x5.trans x6), hr6, ok, he2, ze2.mono (by decide), fun y Ha xa hy => ?_⟩
        repeat walk_at "w"
        refine ⟨_, d, y, dv, rfl, hy, hd6.mono xa, zm2.mono (by decide), zd.mono (by decide), ?_⟩
        by_cases hc : madeW z e2 < d
        · rw [decide_eq_true hc]
          repeat walk_at "w"
          exact ⟨e2, ev2, rfl, xa, he2.mono xa, e20, e260, ze2, ⟨N, N1, N90, dN⟩, e290, hc⟩
        · rw [decide_eq_false hc]
          repeat walk_at "w"
          rename_i t Hb xb ht
          have h9 : PrQ (Rat.divInt 1 90) (.ref t) Hb := prq_lit (a := 1) (b := 90) (by decide +kernel) (by decide +kernel) ht
          have z9 : Sz (Rat.divInt 1 90) 7 := Sz.div (by decide) (by decide) (by decide)
          refine ⟨d, Rat.divInt 1 90, dv, .ref t, rfl, hd6.mono (xa.trans xb), h9, zd.mono (by decide), z9.mono (by decide), fun y2 Hc xc hy2 => ?_⟩
          have q0 : 0 < Rat.divInt 1 90 := by decide +kernel
          have q1 : Rat.divInt 1 90 ≤ 1 := by decide +kernel
          have p1 := Rat.mul_le_mul_of_nonneg_left q1 (Rat.le_of_lt d0)
          have n9 := ninetyT d
          have d60 := md.le60
          have i1 : IntD (2520 * 90) (d * Rat.divInt 1 90) := md.d.mul (IntD.dv (by decide) ⟨1, rfl⟩)
          exact ⟨_, y2, rfl, (xa.trans xb).trans xc, hy2, Rat.mul_pos d0 q0, by grind, (zd.mul z9).mono (by decide), ⟨90, by decide, by decide, i1.up ⟨100, rfl⟩⟩, by grind, t1.low rfl⟩
      clear he1 me ze1 he2 e20 e260 ze2 dN N1 N90 e290
      rintro σ' H7 ⟨e, ev, rfl, x7, he, e0, e60, ze, ⟨N, N1, N90, dN⟩, e90, wd⟩
      have x47 := (x5.trans x6).trans x7
      have so7 := so4.mono x47
      have hr7 := hr.mono x47
      have hd7 := hd4.mono x47
      have t := tam N N1
      have hD : 252000 * N < 2 ^ 25 := by omega
      have few := t.few e0 wd e90
      show WB X _ _ _ _
      with_reducible refine' wb_cons ?_
      with_reducible refine' ws_to (fun σ' H' => ∃ bk, σ' = [some (.ref a), some (.ref p), some (.int (j : Nat)), some dv, some (.ref l), some ev, some (.ref bk), c7, c8, c9, c10] ∧ Ex H7 H' ∧ BookV X.K z (.ref bk) H') ?_ ?_
      · repeat walk_at "w"
        exact ⟨z, l, u1, u3, u4, .non, u6, rfl, kl x47, hr7, ok, fun bk Hb xb hb => ⟨bk, rfl, xb, hb⟩⟩
      rintro σ' H8 ⟨bk, rfl, x8, hb8⟩
      have he8 := he.mono x8
      have hd8 := hd7.mono x8
      show WB X _ _ _ _
      with_reducible refine' wb_cons ?_
      with_reducible refine' ws_to (fun σ' H' => ∃ tv, σ' = [some (.ref a), some (.ref p), some (.int (j : Nat)), some dv, some (.ref l), some ev, some (.ref bk), some tv, c8, c9, c10] ∧ Ex H8 H' ∧ TimeV (CT X.K) e tv H') ?_ ?_
      · repeat walk_at "w"
        exact ⟨some e, ev, rfl, he8, fun q eq => by cases eq; exact ze.mono (by decide), fun tv Hb xb ht => ⟨tv, rfl, xb, ht⟩⟩
      rintro σ' H9 ⟨tv, rfl, x9, htv⟩
      have hd9 := hd8.mono x9
      show WB X _ _ _ _
      with_reducible refine' wb_cons ?_
      with_reducible refine' ws_to (fun σ' H' => ∃ gv, σ' = [some (.ref a), some (.ref p), some (.int (j : Nat)), some dv, some (.ref l), some ev, some (.ref bk), some tv, some gv, c9, c10] ∧ Ex H9 H' ∧ TimeV (CT X.K) d gv H') ?_ ?_
      · repeat walk_at "w"
        exact ⟨some d, dv, rfl, hd9, fun q eq => by cases eq; exact zd.mono (by decide), fun tv Hb xb ht => ⟨tv, rfl, xb, ht⟩⟩
      rintro σ' H10 ⟨gv, rfl, x10, hgv⟩
      have hb10 := hb8.mono (x9.trans x10)
      have htv10 := TimeV.mono x10 htv
      have dz : DecZ z := ⟨⟨ok, trivial, t.s1, t.s2, t.s3⟩, (fun f ef => by rw [t.fl] at ef; cases ef), t.s5⟩
      have zm : Sz (madeW z e) 120 := (made_szT t ze (by decide)).mono (by decide)
      show WB X _ _ _ _
      with_reducible refine' wb_cons ?_
      with_reducible refine' ws_to (fun σ' H' => σ' = [some (.ref a), some (.ref p), some (.int (j : Nat)), some dv, some (.ref l), some ev, some (.ref bk), some tv, some gv, c9, c10] ∧ Ex H10 H') ?_ ?_
      · repeat walk_at "w"
        refine ⟨z, d, .ref bk, gv, rfl, hb10, dz, .inl hgv, d0, zd.mono (by decide), fun Hd xd => ?_⟩
        rw [t.all]
        repeat walk_at "w"
        refine o_notB ?_
        rw [decide_eq_true rfl]
        repeat walk_at "w"
        refine ⟨z, e, d, .ref bk, tv, gv, rfl, hb10.mono xd, dz, .inl (TimeV.mono xd htv10), .inl (TimeV.mono xd hgv), e0, d0, ze.mono (by decide), zm.mono (by decide), zd.mono (by decide), wd, by omega, t.all, fun y Hb xb hy => ?_⟩
        repeat walk_at "w"
        refine o_neS ?_
        rw [decide_eq_true (rfl : ("never" : Str) = "never")]
        repeat walk_at "w"
        exact ⟨rfl, xd.trans xb⟩
      rintro σ' H11 ⟨rfl, x11⟩
      have x7b := ((x8.trans x9).trans x10).trans x11
      have x4b := x47.trans x7b
      have hr11 := hr.mono x4b
      have he11 := he.mono x7b
      have hd11 := hd4.mono x4b
      have hb11 := hb10.mono x11
      have hgv11 := TimeV.mono x11 hgv
      show WB X _ _ _ _
      with_reducible refine' wb_cons ?_
      with_reducible refine' ws_to (fun σ' H' => ∃ s, σ' = [some (.ref a), some (.ref p), some (.int (j : Nat)), some dv, some (.ref l), some ev, some (.ref bk), some tv, some gv, some (.ref s), c10] ∧ Ex H11 H' ∧ H11 s = none ∧ StP ⟨List.replicate (z.latest.getD 1) e, madeW z e⟩ s H') ?_ ?_
      · repeat walk_at "w"
        exact ⟨z, l, u1, u3, u4, .non, u6, e, ev, rfl, kl x4b, hr11, ⟨ok, t.s1⟩, he11, ze.mono (by decide), fun s Ha xa ns hst => ⟨s, rfl, xa, ns, hst⟩⟩
      rintro σ' H12 ⟨s, rfl, x12, ns, hst⟩
      show WB X _ _ _ _
      with_reducible refine' wb_cons ?_
      with_reducible refine' ws_to (fun σ' H' => ∃ st c10, σ' = [some (.ref a), some (.ref p), some (.int (j : Nat)), some dv, some (.ref l), some ev, some (.ref bk), some tv, some gv, some (.ref s), c10] ∧ Ex H11 H' ∧ StP st s H' ∧ StN z d S F' (252000 * N) 20 st) ?_ ?_
      · refine ws_for_range (n := 20) B n10 z_range (fun n σ H' => (∃ st c10, σ = [some (.ref a), some (.ref p), some (.int (j : Nat)), some dv, some (.ref l), some ev, some (.ref bk), some tv, some gv, some (.ref s), c10] ∧ StP st s H' ∧ StN z d S F' (252000 * N) n st) ∧ Ex H11 H') ?_ ?_ ?_
        · exact we_int ⟨rfl, ⟨_, c10, rfl, hst, StN.start t e0 e60 dN wd⟩, x12⟩
        · rintro n σ' Ha hn ⟨⟨st, c10, rfl, hsa, sn⟩, xa⟩
          have n20 : n < 20 := by have : Int.toNat 20 = 20 := rfl; omega
          obtain ⟨zst, wt0, big, zo⟩ := sn.szp t hD (show n ≤ 20 by omega)
          have hda := hd11.mono xa
          show WB X _ _ [some (.ref a), some (.ref p), some (.int (j : Nat)), some dv, some (.ref l), some ev, some (.ref bk), some tv, some gv, some (.ref s), some (.int (n : Nat))] Ha
          with_reducible refine' wb_cons ?_
          with_reducible refine' ws_to (fun σ' H' => σ' = [some (.ref a), some (.ref p), some (.int (j : Nat)), some dv, some (.ref l), some ev, some (.ref bk), some tv, some gv, some (.ref s), some (.int (n : Nat))] ∧ Ha = H') ?_ ?_
          · obtain ⟨h, us, wv, hs, hh, hp, hw⟩ := hsa
            repeat walk_at "w"
            refine ⟨st.wt, d, wv, dv, rfl, hw, hda, zst.wt.mono (by decide), zd.mono (by decide), ?_⟩
            rw [decide_eq_true sn.lt]
            repeat walk_at "w"
            exact ⟨rfl, rfl⟩
          rintro σ' _ ⟨rfl, rfl⟩
          show WB X _ _ _ _
          repeat walk_at "w"
          refine ⟨H11, z, l, u1, u3, u4, .non, u6, s, st, d, dv, rfl, xa, ns, kl x4b, hr11, ⟨ok, t.s1⟩, hsa, zst, hd11, d0, wt0, zd.mono (by decide), big, zo, fun G xg hg => ?_⟩
          repeat walk_at "w"
          refine ite_dec (fun hc => ?_) (fun hc => ?_)
          · repeat walk_at "w"
            exact k _
          · repeat walk_at "w"
            exact ⟨⟨goP z st d, _, rfl, hg, sn.go t (by omega)⟩, xg⟩
        · rintro σ' H' ⟨⟨st, c10, rfl, hsa, sn⟩, xa⟩
          exact ⟨st, c10, rfl, xa, hsa, sn⟩
      rintro σ' H13 ⟨st, c10, rfl, x13, hsa, sn⟩
      have x4d := x4b.trans x13
      have hr13 := hr11.mono x13
      have hd13 := hd11.mono x13
      have hb13 := hb11.mono x13
      have hgv13 := TimeV.mono x13 hgv11
      obtain ⟨zst, wt0, big, zo⟩ := sn.szp t hD (Nat.le_refl 20)
      have zes := sn.sz t hD (show 20 ≤ 21 by decide)
      have ne := sn.ne t
      obtain ⟨m0, m60, mD⟩ := sn.es _ (mxl_mem ne)
      have zmx := zes _ (mxl_mem ne)
      have zmw : Sz (madeW z (mxl st.es)) 321 := made_szT t zmx (by decide)
      show WB X _ _ _ _
      refine wb_one (ws_if (wt_and2 (wt_cmp ?_ ?hm)))
      case hm => rfl
      obtain ⟨h, us, wv, hs', hh, hp, hw⟩ := id hsa
      repeat walk_at "w"
      refine we_strI z_str ?_
      repeat walk_at "w"
      refine est_i zst hs' hh hp fun y hy => ?_
      repeat walk_at "w"
      have l2 : (((mxl st.es).den : Nat) : Int).natAbs.log2 < 1920 := by
        rw [Int.natAbs_natCast]
        exact (Nat.log2_lt (mxl st.es).den_nz).mpr (Nat.lt_of_lt_of_le zmx.den (Nat.pow_le_pow_right (by decide) (by decide)))
      refine ⟨l2, ?_⟩
      refine len_s (Nat.le_trans (itx_len l2) (show 1921 ≤ sizeLine by decide)) ?_
      repeat walk_at "w"
      have x1d : Ex H1 H13 := ((x2.trans x3).trans x4).trans x4d
      by_cases c58 : (((itx (((mxl st.es).den : Nat) : Int)).length : Nat) : Int) < 58
      · rw [decide_eq_true c58]
        refine iteT ?_
        repeat walk_at "w"
        refine at_l (kl x4d) rfl ?_
        repeat walk_at "w"
        refine ⟨z.doubled, st.wt, d, wv, dv, rfl, hw, hd13, wt0, d0, zst.wt, zd.mono (by decide), big, fun t' x' y' Ha xa ht hx hy' => ?_⟩
        repeat walk_at "w"
        by_cases c9 : ((ndl z.doubled st.wt d : Nat) : Int) < 900
        · rw [decide_eq_true c9]
          have hsa' := xa.keep _ _ hs' (ns_len (show 2 ≠ 4 by decide))
          have hha := xa.keep _ _ hh hp.ns
          repeat walk_at "w"
          refine est_i zst hsa' hha (hp.mono xa) fun y2 hy2 => ?_
          repeat walk_at "w"
          refine ⟨some (mxl st.es), y2, rfl, hy2, fun q eq => by cases eq; exact zmx.mono (by decide), fun tv2 Hb xb htv2 => ?_⟩
          repeat walk_at "w"
          have hwt : madeW z (mxl st.es) = st.wt := sn.wt.symm
          refine ⟨z, mxl st.es, d, .ref bk, tv2, gv, rfl, hb13.mono (xa.trans xb), dz, .inl htv2, .inl (TimeV.mono (xa.trans xb) hgv13), m0, d0, zmx.mono (by decide), zmw.mono (by decide), zd.mono (by decide), by rw [hwt]; exact sn.lt, by rw [hwt]; omega, t.all, fun y3 Hc xc hy3 => ?_⟩
          repeat walk_at "w"
          show WB X _ _ _ _
          repeat walk_at "w"
          exact ⟨⟨_, _, _, _, _, _, _, _, _, rfl⟩, x1d.trans ((xa.trans xb).trans xc)⟩
        · rw [decide_eq_false c9]
          repeat walk_at "w"
          exact ⟨⟨_, _, _, _, _, _, _, _, _, rfl⟩, x1d.trans xa⟩
      · rw [decide_eq_false c58]
        repeat walk_at "w"
        exact ⟨⟨_, _, _, _, _, _, _, _, _, rfl⟩, x1d⟩
    · intro σ' H' _
      trivial
  intro σ' H3 _
  show WB X _ _ _ _
  repeat walk_at "w"
  exact k _
end

end Rt
open PySem PySem.W PySem.Calls PyProof.Rows
theorem PySem.Challenge.cw_resendtimers_k41_whole_last_stays_below_holds : PySem.Challenge.rw_resendtimers_k41_whole_last_stays_below.Holds := by
  w_on; o_law
  refine HandSHeadRun.head_any (r := OpenLaw.row PySem.Challenge.rw_resendtimers_k41_whole_last_stays_below) (q := view (OpenLaw.row PySem.Challenge.rw_resendtimers_k41_whole_last_stays_below).prog [92]) (H := Rs.hookX 6 Rt.ψ Rt.fn) (ob := Rs.obX 6 Rt.ψ Rt.fn) (M := 14000) (loose := Rt.loose)
    (d := HandSHeadRun.topDef (OpenLaw.row PySem.Challenge.rw_resendtimers_k41_whole_last_stays_below).prog 92) (kwd := []) (Rs.obX_eq 6 Rt.ψ Rt.fn)
    (by kernel_rfl) (fun s => by kernel_rfl) Rt.run (by kernel_rfl) (by kernel_rfl) (by kernel_rfl) (by rfl) (by first | assumption | decide +kernel) (by decide +kernel) ⟨rfl, rfl, rfl, rfl, rfl, by decide +kernel⟩ ?hw ?hc
  case hw => w_witness2
  case hc =>
    refine L2.walk_ofE (l := PySem.Challenge.rw_resendtimers_k41_whole_last_stays_below) (n := 63) (k := 21) (x := "_law_script") (CX := L2.CX0) rfl (by decide) (by kernel_rfl) ⟨rfl, by decide, by decide⟩ ?F (fun _ _ _ _ z => z)
    intro w mg fa h Y G hmg0
    obtain ⟨K, KX, c⟩ := Y
    have hmg : mg ("law" : PySem.Str) = some (.ref fa) := by
      have e : (HandSHeadRun.topDef (OpenLaw.row PySem.Challenge.rw_resendtimers_k41_whole_last_stays_below).prog 92).name = ("law" : PySem.Str) := by kernel_rfl
      rw [← e]
      exact hmg0
    have T := Rt.tm_of KX G c
    obtain ⟨fd, F⟩ := T.d_law
    have e := hmg.symm.trans T.g_law
    cases e
    have b := L2.FunD.bindsA (ps := ["_law_script"]) F fun _ _ _ _ _ _ us hl => match us, hl with | [_], _ => rfl
    exact ⟨K, fd, Rt.spLaw K, KX, fun s v => b s [v] rfl, fun H a ns hl _ hS => ⟨a, ns, rfl, hS, fun _ => rfl⟩, fun base _ _ => Rt.ok_law rfl T F⟩
