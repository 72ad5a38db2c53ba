import PyProof.Rows.All
import Wide.All
import OpenK.AllK
import Wide.FinOn
import HandS.Exc
import HandS.ExcIs
import HandS.IsInst
import HandS.ForMost
import HandS.Lambda
import KE.SortData
import KE.DataCmp
import HandS.TupAny
import HandS.TupMul
import HandS.TupLe
import HandS.Wide
import HandS.Deep
import KE.LtData
import HandS.Conv
import HandS.Rev
import KE.GoesNew
import HandS.ExcOwn
import HandS.CallSlots
import HandS.Defaults
import HandS.Style
import KE.KRevSl
import HandS.TryOnly
import HandS.CallRecv
import HandS.HeadWalk
import HandS.ExcBuiltin
import KE.SortKeyHeap
import HandS.SetFor
import HandS.RevTup
import HandS.Strs
import KE.DataMinMax
import KE.KDictPairs
import HandS.Replace
import HandS.Text
import PyProof.FactsAll.str_4
import KE.KDictSum
import HandS.FStr
import HandS.ExcValue
import HandS.WordsExc
import HandS.SetKeys
import HandS.Small
import PyProof.AutoSeq1
import HandS.Iter
import HandS.DictTup
import HandS.Codes
import KE.KStateDown
import HandS.Ends
import HandS.More
import HandS.Words
import HandS.Head0
import HandS.Head1
import HandS.Head2
import HandS.HeadEnd
import HandS.HeadHook1
import HandS.HeadHook2
import HandS.HeadHook3
import HandS.HeadHook4
import HandS.EndTab
import KE.OsArith
import KE.BitLaws
import PyProof.P3Eq
import PySem.Challenge.RW_oftentogether_k31_shares
set_option Elab.async false
set_option linter.all false
set_option maxRecDepth 100000
set_option autoImplicit false
/-! Irx1: a caught exception that is kept: the clause's name bears an object that the heap knows. -/
namespace Ir
open PySem PySem.Spec PyProof.Rows L2
/-- an exception's object, its class, its dict -/
def excO (a : Addr) (cls : Value) (d : Option Addr) : HO := .ext fun h => ∃ oe vs, h.get? a = some oe ∧ Zc cls d oe ∧ oe.data = .fields vs
section
variable {X : Cx} {pins : List (Addr × Obj)} {σ : L2.St} {H : Hp} {s : Shared}
theorem excO_ok {P : Program} {w : World} {h : Heap} {a : Addr} {oe : Obj} {vs : Array Value} {cls : Value} {d : Option Addr} (he : h.get? a = some oe) (hz : Zc cls d oe) (hd : oe.data = .fields vs) : ObjOk P w H h a (excO a cls d) :=
  ⟨⟨oe, vs, he, hz, hd⟩, ⟨oe, he⟩, fun h1 h2 z k => by
    obtain ⟨o1, v1, e1, e2⟩ := z
    exact ⟨o1, v1, k _ e1, e2⟩⟩
/-- it is known from now on -/
theorem inv_trackX (I : Inv X pins σ H s) {a : Addr} {oe : Obj} {vs : Array Value} {cls : Value} {d : Option Addr} (he : s.heap.get? a = some oe) (hz : Zc cls d oe) (hd : oe.data = .fields vs) (na : H a = none) (n0 : ∀ o, X.s_0.heap.get? a ≠ some o) (np : ∀ p ∈ X.pn ++ pins, p.1 ≠ a) (nL : a ≠ X.env.locals) :
    Inv X pins σ (upd H a (excO a cls d)) s := by
  have ne : ∀ b o, H b = some o → b ≠ a := fun b o e z => by
    rw [z, na] at e
    cases e
  have nu : ∀ b o, H b = some o → upd H a (excO a cls d) b = some o := fun b o e => by rw [upd_ne (ne b o e), e]
  refine ⟨I.ok, I.os, I.bare, ⟨I.base.keep, I.base.slot, fun b o e n hx => ?_, I.base.there, fun b xs e => nu b _ (I.base.tups b xs e), fun b o u e => nu b _ (I.base.frzs b o u e), fun b ps e => ?_⟩, I.loc, I.cell, ?_, fun x c e => ?_, fun p hp => ?_, fun b o e => ?_, I.len⟩
  · rw [upd_ne fun z => n0 o (by rw [← z]; exact e)]
    exact I.base.free b o e n hx
  · obtain ⟨m, q⟩ := I.base.tbls b ps e
    exact ⟨m, nu b _ q⟩
  · rw [upd_ne (Ne.symm nL)]
    exact I.free
  · obtain ⟨v, q⟩ := I.cell x c e
    rw [upd_ne fun z => ?_]
    · exact I.freeC x c e
    · obtain ⟨oc, q1, q2⟩ := q
      rw [z, he] at q1
      cases q1
      rw [hd] at q2
      cases q2
  · obtain ⟨q1, q2, q3⟩ := I.pin p hp
    exact ⟨q1, by rw [upd_ne (np p hp)]; exact q2, q3⟩
  · by_cases c : b = a
    · subst c
      rw [upd_same] at e
      cases e
      exact excO_ok he hz hd
    · rw [upd_ne c] at e
      exact (I.hok b o e).stay (fun _ _ _ q => q) (fun b' q => nu b' _ q) fun b' xs q => nu b' _ q
theorem to_suite (I : Inv X pins σ H s) (a : Addr) : Inv (X.suite a (X.pn ++ pins)) [] σ H s :=
  ⟨I.ok.suite _ _, I.os, I.bare, I.base, I.loc, I.cell, I.free, I.freeC, fun p hp => I.pin p (by rwa [List.append_nil] at hp), I.hok, I.len⟩
theorem of_suite {a : Addr} {ps : List (Addr × Obj)} (I : Inv (X.suite a (X.pn ++ pins)) ps σ H s) (ok : X.Ok) : Inv X pins σ H s :=
  ⟨ok, I.os, I.bare, I.base, I.loc, I.cell, I.free, I.freeC, fun p hp => I.pin p (List.mem_append_left _ hp), I.hok, I.len⟩
/-- what is wished of an exception of the body; slot i is the clause's name -/
def wK (K : PySem.W.Frag) (c : Value) (i : Nat) (ts : TS) (Wo : WX) (D : Ends) : WX := fun cls d σ H =>
  ∃ b, PySem.W.exmOne K cls c = some b ∧ (b = true → ∀ a, H a = none → ts ⟨fun σ' H' => D.nx (σ'.set i none) H', D.rt, fun σ' H' => D.bk (σ'.set i none) H', fun σ' H' => D.ct (σ'.set i none) H'⟩ (σ.set i (some (.ref a))) (upd H a (excO a cls d))) ∧ (b = false → Wo cls d σ H)
end
end Ir
namespace Ir
open PySem PySem.Spec PyProof.Rows L2
section
variable {X : Cx} {x n : Str} {c : Value} {i : Nat} {bd rest : List Stmt} {q0 : Stmt} {p1 p2 p3 : Pos} {tb : WX → TS} {ts : TS} {Wo : WX}
/-- try: bd / except x as n: q0, rest -/
theorem ps_tryK (hs : X.stack = X.env :: X.outer) (hf : X.env.frame = some X.env.locals) (hx : X.ex = []) (nd : X.N.Nodup) (hi : X.N[i]? = some n) (hl : X.env.kindOf n = some .local) (hc : Names X x c) (tk : Takes X Wo)
    (hb : ∀ (W : WX) (pn : List (Addr × Obj)) (xe : Value → Shared → Prop), Takes (X.tr pn xe) W → PassesOwn (model X.prog X.w) X.A X.env xe → PSs (X.tr pn xe) bd (tb W))
    (hq : ∀ (a : Addr) (pn : List (Addr × Obj)), PSs (X.suite a pn) (q0 :: rest) ts) :
    PS X (.Try bd [.ExceptHandler (some (.Name x p1)) (some n) (q0 :: rest) p2] [] [] p3) (fun D σ H => tb (wK X.K c i ts Wo D) D σ H) := by
  constructor
  intro pins s σ H D I h
  have ok := I.ok
  have ff : X.A.frames = some (X.env :: X.outer) := ok.frames.trans (by rw [hs])
  apply wpAny_Try_except
  refine wpAny_mono ((hb _ (X.pn ++ pins) (fun ev sa => wpAny (model X.prog X.w) X.A (noteFrame ev X.env) (fun _ sb => wpAny (model X.prog X.w) X.A (setFlight ev none) (fun _ sc =>
    wpAny (model X.prog X.w) X.A (handleBy ev X.env [.ExceptHandler (some (.Name x p1)) (some n) (q0 :: rest) p2]) (SP X pins D) X.xe sc) X.xe sb) X.xe sa) (fun u t z => ?_) PassesOwn.looking).run [] s σ H D (I.toTry _) h) (fun f t hp => ?_) (fun _ _ he => he)
  · obtain ⟨a, B, sJ, pj, σ', H', cls, d, rfl, Jt, nb, up, sky, na, os, ag, b, e1, yes, no⟩ := z
    have J := Jt.ofTry ok
    rw [hs] at sky
    show wpAny (model X.prog X.w) X.A (noteFrame (.ref a) X.env) _ _ _
    refine Sky.land Zc.steady ff hf sky fun g3 f3 u3 => ?_
    have J3 : Inv X pins σ' H' { t with heap := g3 } := J.landed nb f3.1 (up.trans u3) os ag
    obtain ⟨o3, v3, w3, z3, d3⟩ := f3.there
    have away : ∀ {h : Heap} {o : Obj} {vs : Array Value}, h.FunFrames B (X.env :: X.outer) → h.get? a = some o → o.data = .fields vs → a ∉ frs (X.env :: X.outer) := by
      intro h o vs fr e dd hm
      obtain ⟨_, o', e', no'⟩ := fr.mem hm
      rw [e] at e'
      cases e'
      exact no' _ dd
    have nfr := away f3.2.2.1 w3 d3
    have nL : a ≠ X.env.locals := fun q => nfr (List.mem_filterMap.mpr ⟨X.env, List.mem_cons_self, by rw [hf, q]⟩)
    have nF : a ∉ X.fs := fun hm => by
      obtain ⟨ev, h1, h2⟩ := List.mem_filterMap.mp hm
      exact nfr (List.mem_filterMap.mpr ⟨ev, List.mem_cons_of_mem _ h1, h2⟩)
    have S3 := J3.suite w3 d3 na nL nF
    refine wpAny_handleBy_cons (codeAny_handlers_test ?_) (fun q => nomatch q)
    have lt : PySem.W.Looks (model X.prog X.w) g3 (typeOf (.ref a)) cls := fun _ _ _ _ k q => wpAny_typeOf_ref (k _ _ w3) (by rw [z3.1]; exact q)
    have lm := PySem.W.exm_one (M := model X.prog X.w) J3.kIn lt e1
    have named : ∀ {Q : Value → Shared → Prop} {E : Value → Shared → Prop}, Q c { t with heap := g3 } → wpAny (model X.prog X.w) (X.A.mark (some (.ref a))) (eval (.Name x p1) X.env) Q E { t with heap := g3 } := by
      intro Q E q
      obtain ⟨h1, h2, h3 | ⟨h3, h4, h5⟩⟩ := hc
      · exact ld_glob (X := X.suite a _) S3 h1 h3 q h2
      · exact ld_blt (X := X.suite a _) S3 h1 h3 h4 q h5 h2
    refine named (lm.here ?_)
    match b, yes, no with
    | true, yes, _ =>
      apply codeAny_handlers_suite_as
      refine HandSPX.lands_againZ f3 fun g4 f4 u4 => ?_
      have J4 : Inv X pins σ' H' { t with heap := g4 } := J.landed nb f4.1 ((up.trans u3).trans u4) os ag
      obtain ⟨o4, v4, w4, z4, d4⟩ := f4.there
      have noB : ∀ o, B.get? a ≠ some o := fun o e => by
        have := f4.2.1
        rw [this] at e
        cases e
      have n0 : ∀ o, X.s_0.heap.get? a ≠ some o := fun o e => by
        obtain ⟨o', e'⟩ := J.base.there a o e (by rw [hx]; exact List.not_mem_nil)
        exact noB o' (nb a o' e' (by rw [hs]; exact nfr))
      have np : ∀ p ∈ X.pn ++ pins, p.1 ≠ a := fun p hp q => by
        obtain ⟨q1, _, q3, q4, _⟩ := J.pin p hp
        refine noB p.2 (nb a p.2 (by rw [← q]; exact q1) (by rw [hs]; exact nfr))
      have K4 := inv_trackX J4 w4 z4 d4 na n0 np nL
      have S4 := to_suite K4 a
      refine store_ok (X := X.suite a (X.pn ++ pins)) (v := .ref a) S4 nd hi (.inl hl) rfl (fun s5 S5 => ?_) (.inr hl)
      refine wpAny_mono ((hq a (X.pn ++ pins)).run [] s5 _ _ _ S5 (yes rfl a na)) (fun f s6 hp => ?_) (fun _ _ z => z.elim)
      have fin : ∀ {σ6 : L2.St} {H6 : Hp} {Q : Shared → Prop}, Inv (X.suite a (X.pn ++ pins)) [] σ6 H6 s6 → (∀ s7, Inv X pins (σ6.set i none) H6 s7 → Q s7) →
          wpAny (model X.prog X.w) X.A (do bindName X.env n .none; unbindBehindTheSuite X.env n p2) (fun _ s7 => Q s7) X.xe s6 := by
        intro σ6 H6 Q S6 k
        exact gone_ok (of_suite S6 ok) nd hi hl k
      cases f with
      | ret u =>
        obtain ⟨v6, σ6, H6, S6, r6, q6⟩ := hp
        exact fin S6 fun s7 J7 => ⟨_, _, _, J7, r6, q6⟩
      | next =>
        obtain ⟨σ6, H6, S6, q6⟩ := hp
        exact fin S6 fun s7 J7 => ⟨_, _, J7, q6⟩
      | brk =>
        obtain ⟨σ6, H6, S6, q6⟩ := hp
        exact fin S6 fun s7 J7 => ⟨_, _, J7, q6⟩
      | cont =>
        obtain ⟨σ6, H6, S6, q6⟩ := hp
        exact fin S6 fun s7 J7 => ⟨_, _, J7, q6⟩
    | false, _, no =>
      show wpAny _ X.A (handleBy (.ref a) X.env []) _ _ _
      apply wpAny_handleBy_nil
      obtain ⟨_, _, _, ob, vs, tb', ot, tq, y1, y2, y3, y4, _⟩ := id f3
      unfold PySem.passOn
      refine wpAny_bind (wpAny_field y1 y3 y4 ?_)
      rw [if_neg (show ¬ ((Value.ref tb' == Value.none) = true) from by simp)]
      have out : wpAny (model X.prog X.w) X.A (setFlight (.ref a) X.env.frame) (fun _ sd => wpAny (model X.prog X.w) X.A (throw (.ref a) : Sem Flow) (SP X pins D) X.xe sd) X.xe { t with heap := g3 } := by
        rw [hf]
        refine HandSPX.setFlight_upZ f3 fun g4 k4 u4 => wpAny_throw (tk _ _ ?_)
        exact ⟨a, B, sJ, pins, σ', H', cls, d, rfl, J, nb, (up.trans u3).trans u4, .inr (.inr (by rw [hs]; exact k4)), na, os, ag, no rfl⟩
      first
        | exact wpAny_bind (wpAny_pure (wpAny_bind out))
        | exact wpAny_bind out
  · cases f with
    | ret u =>
      obtain ⟨v, σ', H', J, r, q⟩ := hp
      exact ⟨v, σ', H', J.ofTry ok, r, q⟩
    | next =>
      obtain ⟨σ', H', J, q⟩ := hp
      exact wpAny_execs_nil ⟨σ', H', J.ofTry ok, q⟩
    | brk =>
      obtain ⟨σ', H', J, q⟩ := hp
      exact ⟨σ', H', J.ofTry ok, q⟩
    | cont =>
      obtain ⟨σ', H', J, q⟩ := hp
      exact ⟨σ', H', J.ofTry ok, q⟩
end
/-! ### isinstance of a kept exception -/
section
variable {X : Cx}
theorem ins_exc {h : Heap} {a D : Addr} {oe : Obj} {vs : Array Value} (e : h.get? a = some oe) (hz : Zc (.ref D) none oe) (hd : oe.data = .fields vs) : PySem.W.InstAt h a oe D none := by
  obtain ⟨oc, od, oda, osl⟩ := oe
  obtain ⟨h1, h2⟩ := hz
  dsimp only at h1 h2 hd
  subst h1 h2 hd
  exact ⟨e, rfl, rfl, trivial⟩
theorem exc_kit {pins : List (Addr × Obj)} {σ : L2.St} {H : Hp} {s : Shared} {a D : Addr} (C : ExcC X.K D) (I : Inv X pins σ H s) (e : H a = some (excO a (.ref D) none)) : ∃ P : Heap → Prop, PySem.W.KitX X.K (.ref a) (.ref D) P ∧ P s.heap := by
  obtain ⟨⟨oe, vs, h1, h2, h3⟩, _⟩ := (show ObjOk X.prog X.w H s.heap a (excO a (.ref D) none) from I.hok a _ e)
  exact ⟨_, PySem.W.handS_kitx_exc C.hg C.hk C.hs C.hd C.ha C.hn C.ht C.hm, ins_exc h1 h2 h3⟩
def rIsX (K : PySem.W.Frag) : List V → Hp → VK → Prop := fun xs H Q => ∃ (a D : Addr) (c : V) (u : Value) (b : Bool), xs = [.ref a, c] ∧ ClsV c u ∧ ExcC K D ∧ H a = some (excO a (.ref D) none) ∧ PySem.W.kitOne K (.ref D) u = some b ∧ Q (.bl b) H
def rIsXT (K : PySem.W.Frag) : List V → Hp → VK → Prop := fun xs H Q => ∃ (a D tp : Addr) (cs : List V) (us : List Value) (b : Bool), xs = [.ref a, .ref tp] ∧ H tp = some (.tup cs) ∧ Paired ClsV cs us ∧ ExcC K D ∧ H a = some (excO a (.ref D) none) ∧ PySem.W.kitAny K (.ref D) us = some b ∧ Q (.bl b) H
theorem call_isX : CallR X (.builtin "isinstance") (rIsX X.K) := by
  intro pins s σ H xs us Q I r h
  obtain ⟨a, D, c, u, b, rfl, k, C, e, y, q⟩ := h
  obtain ⟨u1, u2, rfl, r1, r2⟩ := vals2 r
  cases (show u1 = Value.ref a from r1)
  have e2 := k.eq r2
  subst e2
  obtain ⟨P, Z, p⟩ := exc_kit C I e
  exact PySem.W.kia_one Z I.kIn p y (fun z => nomatch z) fun tk => ⟨.bl b, H, I.tok tk, rfl, q⟩
theorem call_isXT : CallR X (.builtin "isinstance") (rIsXT X.K) := by
  intro pins s σ H xs us Q I r h
  obtain ⟨a, D, tp, cs, ws, b, rfl, hT, k, C, e, y, q⟩ := h
  obtain ⟨u1, u2, rfl, r1, r2⟩ := vals2 r
  cases (show u1 = Value.ref a from r1)
  cases (show u2 = Value.ref tp from r2)
  obtain ⟨P, Z, p⟩ := exc_kit C I e
  obtain ⟨_, its, rv, o, h1, h2, n, h3⟩ := (show ObjOk X.prog X.w H s.heap tp (.tup cs) from I.hok tp _ hT)
  have e3 := ClsV.all k rv
  subst e3
  obtain ⟨oc, od, dt, sl⟩ := o
  dsimp only at h2 h3
  subst h2 h3
  exact PySem.W.kia_tup Z I.kIn p h1 y (fun z => nomatch z) fun tk => ⟨.bl b, H, I.tok tk, rfl, q⟩
end
end Ir

/-! Ir0: a small language of plain data: values D, results R, expressions E, statements S, and what they do. No heap here. -/
namespace Ir
open PySem L2

/-- plain values; a dict's t: 0 its keys are ints and texts, 1 tuples of such, 2: no dict, but a tuple (of vs, ks empty) that has no fields of its own for sure; an instance without fields by its class's name -/
inductive D where
  | non | bl (b : Bool) | int (i : Int) | str (s : Str) | tup (l : List D) | lst (l : List D) | dct (t : Nat) (ks vs : List D) | ins (c : Str) | adr (a : Addr) | exc (c : Str)
  deriving Inhabited

mutual
def D.py : D → PyData
  | .non => .none
  | .bl b => .bool b
  | .int i => .int i
  | .str s => .str s
  | .tup l => .tuple (pyL l)
  | .lst l => .list (pyL l)
  | .dct _ _ _ => .dict []
  | .ins _ => .dict []
  | .adr _ => .dict []
  | .exc _ => .dict []
def pyL : List D → List PyData
  | [] => []
  | d :: ds => d.py :: pyL ds
end
mutual
/-- no dict, no instance within -/
def D.flat : D → Bool
  | .dct _ _ _ => false
  | .ins _ => false
  | .adr _ => false
  | .exc _ => false
  | .tup l => flatL l
  | .lst l => flatL l
  | .str s => PyData.strOk s
  | .non => true
  | .bl _ => true
  | .int _ => true
def flatL : List D → Bool
  | [] => true
  | d :: ds => d.flat && flatL ds
end
mutual
def D.dep : D → Nat
  | .tup l => depL l + 1
  | .lst l => depL l + 1
  | _ => 0
def depL : List D → Nat
  | [] => 0
  | d :: ds => max d.dep (depL ds)
end

/-- results: no answer is promised, an exception leaves, a value -/
inductive R (α : Type) where
  | stuck | exc (c : Str) (fs : List (Str × D)) | ok (a : α)
def R.bind {α β : Type} (r : R α) (f : α → R β) : R β := match r with
  | .stuck => .stuck
  | .exc c fs => .exc c fs
  | .ok a => f a
@[simp] theorem R.bind_ok {α β : Type} (a : α) (f : α → R β) : (R.ok a).bind f = f a := rfl
@[simp] theorem R.bind_stuck {α β : Type} (f : α → R β) : (R.stuck : R α).bind f = .stuck := rfl
@[simp] theorem R.bind_exc {α β : Type} (c : Str) (fs : List (Str × D)) (f : α → R β) : (R.exc c fs : R α).bind f = .exc c fs := rfl
def R.ofO {α : Type} : Option α → R α
  | some a => .ok a
  | none => .stuck
@[simp] theorem R.ofO_some {α : Type} (a : α) : R.ofO (some a) = .ok a := rfl
@[simp] theorem R.ofO_none {α : Type} : (R.ofO none : R α) = .stuck := rfl
/-- guarded -/
def R.iff {α : Type} (b : Bool) (r : R α) : R α := match b with
  | true => r
  | false => .stuck
@[simp] theorem R.iff_true {α : Type} (r : R α) : R.iff true r = r := rfl
@[simp] theorem R.iff_false {α : Type} (r : R α) : R.iff false r = .stuck := rfl
/-- what a comprehension's block lets out: no exception -/
def R.nox {α : Type} : R α → R α
  | .exc _ _ => .stuck
  | r => r

def LIM : Nat := 16777216
/-- the turns that a while may have -/
def FUEL : Nat := 2 ^ 200

/-! ### operators -/
def addD : D → D → R D
  | .int i, .int j => .ok (.int (i + j))
  | .tup a, .tup b => .iff (decide (a.length + b.length ≤ LIM)) (.ok (.tup (a ++ b)))
  | .lst a, .lst b => .iff (decide (a.length + b.length ≤ LIM)) (.ok (.lst (a ++ b)))
  | .str a, .str b => .iff (decide (a.length + b.length ≤ LIM)) (.ok (.str (a ++ b)))
  | _, _ => .stuck
def subD : D → D → R D
  | .int i, .int j => .ok (.int (i - j))
  | _, _ => .stuck
def smallB (i : Int) : Bool := decide (-(2 ^ 64) < i ∧ i < 2 ^ 64)
def mulD : D → D → R D
  | .int i, .int j => .iff (smallB i || smallB j) (.ok (.int (i * j)))
  | .lst a, .int k => .iff (decide (0 ≤ k ∧ k ≤ 1000000 ∧ a.length * k.toNat ≤ LIM)) (.ok (.lst (List.replicate k.toNat a).flatten))
  | .tup a, .int k => .iff (decide (0 ≤ k ∧ k ≤ 1000 ∧ a.length ≤ 1000)) (.ok (.tup (List.replicate k.toNat a).flatten))
  | _, _ => .stuck
def fdivD : D → D → R D
  | .int i, .int j => .iff (decide (0 < j ∧ j < 2 ^ 250)) (.ok (.int (i / j)))
  | _, _ => .stuck
def modD : D → D → R D
  | .int i, .int j => .iff (decide (0 < j)) (.ok (.int (i % j)))
  | _, _ => .stuck
def powD : D → D → R D
  | .int i, .int j => .iff (decide (0 ≤ j ∧ j ≤ 1000000 ∧ i.natAbs < 2 ^ 64)) (.ok (.int (i ^ j.toNat)))
  | _, _ => .stuck
def shlD : D → D → R D
  | .int i, .int j => .iff (decide (0 ≤ j ∧ j ≤ 1000000 ∧ i.natAbs < 2 ^ 64)) (.ok (.int (i * 2 ^ j.toNat)))
  | _, _ => .stuck
def shrD : D → D → R D
  | .int i, .int j => .iff (decide (0 ≤ j)) (.ok (.int (i / 2 ^ j.toNat)))
  | _, _ => .stuck
def andD : D → D → R D
  | .int i, .int j => .ok (.int (Builtin.bitAnd i j))
  | _, _ => .stuck
def orD : D → D → R D
  | .int i, .int j => .ok (.int (Builtin.bitOr i j))
  | _, _ => .stuck
def binD (o : Operator) (x y : D) : R D := match o with
  | .Add => addD x y
  | .Sub => subD x y
  | .Mult => mulD x y
  | .FloorDiv => fdivD x y
  | .Mod => modD x y
  | .Pow => powD x y
  | .LShift => shlD x y
  | .RShift => shrD x y
  | .BitAnd => andD x y
  | .BitOr => orD x y
  | _ => .stuck
/-- name op= e -/
def augD (o : Operator) (x y : D) : R D := match o, x, y with
  | .Add, .int i, .int j => .ok (.int (i + j))
  | .Sub, .int i, .int j => .ok (.int (i - j))
  | _, _, _ => .stuck

/-! ### comparisons -/
def eqB (x y : D) : Bool := PyData.eqv x.py y.py
def eqD (x y : D) : R Bool := match x, y with
  | .int i, .int j => .ok (decide (i = j))
  | .str i, .str j => .ok (decide (i = j))
  | x, y => .iff (x.flat && y.flat && decide (min x.dep y.dep ≤ 64)) (.ok (eqB x y))
def ltB (x y : D) : Bool := PySem.W.dataLt x.py y.py
def ltD (x y : D) : R Bool := match x, y with
  | .int i, .int j => .ok (decide (i < j))
  | .tup a, .tup b => .iff (flatL a && flatL b && PySem.W.alike (D.tup a).py (D.tup b).py && decide (min (D.tup a).dep (D.tup b).dep ≤ 64)) (.ok (ltB (.tup a) (.tup b)))
  | _, _ => .stuck
def leD : D → D → R Bool
  | .int i, .int j => .ok (decide (i ≤ j))
  | .tup a, .tup b => .iff (flatL a && flatL b && PySem.W.alike (D.tup a).py (D.tup b).py && decide (min (D.tup a).dep (D.tup b).dep ≤ 64)) (.ok (!ltB (.tup b) (.tup a)))
  | _, _ => .stuck
def isNon : D → Bool
  | .non => true
  | _ => false
def isD (x y : D) : R Bool := match x, y with
  | x, .non => .ok (isNon x)
  | .bl a, .bl b => .ok (decide (a = b))
  | _, _ => .stuck
def hasK (k : D) : List D → Bool
  | [] => false
  | a :: ks => eqB a k || hasK k ks
/-- a key that a dict here may have: an int, a text, a tuple of such, a tuple of two such tuples -/
def keyA : D → Bool
  | .int _ => true
  | .str _ => true
  | _ => false
def keyOk (t : Nat) (d : D) : Bool := match t, d with
  | 0, .int _ => true
  | 0, .str _ => true
  | 1, .tup l => l.all keyA
  | _, _ => false
def inD (x y : D) : R Bool := match y with
  | .tup l => .iff (x.flat && flatL l && decide (x.dep ≤ 64)) (.ok (l.any fun z => eqB z x))
  | .lst l => .iff (x.flat && flatL l && decide (x.dep ≤ 64)) (.ok (l.any fun z => eqB z x))
  | .dct t ks _ => .iff (keyOk t x) (.ok (hasK x ks))
  | .str t => match x with
    | .str s => .ok (!(Builtin.Str.occurrences t s 0 t.length 1).isEmpty)
    | _ => .stuck
  | _ => .stuck
def cmpD (o : CmpOp) (x y : D) : R Bool := match o with
  | .Eq => eqD x y
  | .NotEq => (eqD x y).bind fun b => .ok (!b)
  | .Lt => ltD x y
  | .Gt => match x, y with
    | .int i, .int j => .ok (decide (j < i))
    | _, _ => .stuck
  | .LtE => leD x y
  | .GtE => match x, y with
    | .int i, .int j => .ok (decide (j ≤ i))
    | _, _ => .stuck
  | .Is => isD x y
  | .IsNot => (isD x y).bind fun b => .ok (!b)
  | .In => inD x y
  | .NotIn => (inD x y).bind fun b => .ok (!b)

/-! ### truth, items, slices -/
def truD : D → R Bool
  | .non => .ok false
  | .bl b => .ok b
  | .int i => .ok (i != 0)
  | .str s => .iff (decide (s.length ≤ LIM)) (.ok ((s.length : Int) != 0))
  | .tup l => .ok (!l.isEmpty)
  | .lst l => .ok (!l.isEmpty)
  | _ => .stuck
def lookD (k : D) : List D → List D → Option D
  | a :: ks, v :: vs => if eqB a k then some v else lookD k ks vs
  | _, _ => none
def setV (k v : D) : List D → List D → List D
  | a :: ks, w :: vs => (if eqB a k then v else w) :: setV k v ks vs
  | _, vs => vs
def putD (k v : D) (ks vs : List D) : List D × List D := if hasK k ks then (ks, setV k v ks vs) else (ks ++ [k], vs ++ [v])
def subsD (x i : D) : R D := match x, i with
  | .lst l, .int i => .ofO (atI l i)
  | .tup l, .int i => .ofO (atI l i)
  | .str z, .int i => .iff (decide (z.length ≤ LIM)) ((R.ofO (atI z.cps.toList i)).bind fun c => .ok (.str ⟨#[c]⟩))
  | .dct t ks vs, k => .iff (keyOk t k) (.ofO (lookD k ks vs))
  | _, _ => .stuck
def cut {α : Type} (xs : List α) (lo hi : Option Int) : List α := (xs.drop (HT.sIx xs.length 0 lo)).take (HT.sIx xs.length xs.length hi - HT.sIx xs.length 0 lo)
def slcD (x : D) (lo hi : Option Int) : R D := match x with
  | .lst l => .ok (.lst (cut l lo hi))
  | .tup l => .ok (.tup (cut l lo hi))
  | .str z => .iff (decide (z.length ≤ LIM)) (.ok (.str (cutS z lo hi)))
  | _ => .stuck
def intO1 : D → R Int
  | .int i => .ok i
  | _ => .stuck
def intO : D → R (Option Int)
  | .int i => .ok (some i)
  | _ => .stuck

/-! ### built-ins -/
inductive BF where
  | len | sum | sorted | tuple | list | dict | min | max | any | int | abs | str | range
  deriving DecidableEq
def intsD : List D → Option (List Int)
  | [] => some []
  | .int i :: l => (intsD l).map fun r => i :: r
  | _ => none
def bools : List D → Option (List Bool)
  | [] => some []
  | .bl i :: l => (bools l).map fun r => i :: r
  | _ => none
/-- may be sorted: alike, no None -/
def sortOk (l : List D) : Bool := flatL l && (l.all fun a => l.all fun b => PySem.W.alike a.py b.py && decide (a.dep ≤ 64)) &&
  ((l.all fun a => match a with | .tup (_ :: _) => true | _ => false) || (l.all fun a => match a with | .tup _ => false | .non => false | _ => true))
def sortL (l : List D) : List D := l.mergeSort (PySem.W.dataLe false D.py)
def revSortL (l : List D) : List D := l.mergeSort (PySem.W.dataLe true D.py)
def maxL : List Int → Option Int
  | [] => none
  | a :: l => match maxL l with
    | none => some a
    | some m => some (if m > a then m else a)
def minL : List Int → Option Int
  | [] => none
  | a :: l => match minL l with
    | none => some a
    | some m => some (if m < a then m else a)
def lenD : D → R D
  | .tup l => .ok (.int l.length)
  | .lst l => .ok (.int l.length)
  | .str s => .iff (decide (s.length ≤ LIM)) (.ok (.int s.length))
  | .dct 0 ks _ => .ok (.int ks.length)
  | _ => .stuck
def pairsOf : List D → Option (List D × List D)
  | [] => some ([], [])
  | .tup [k, v] :: l => (pairsOf l).map fun r => (k :: r.1, v :: r.2)
  | _ => none
def nodupK : List D → Bool
  | [] => true
  | k :: ks => !hasK k ks && nodupK ks
def bltD (f : BF) (a : List D) : R D := match f, a with
  | .len, [x] => lenD x
  | .sum, [.lst l] => (R.ofO (intsD l)).bind fun ns => .ok (.int ns.sum)
  | .sorted, [.lst l] => .iff (sortOk l && decide (l.length ≤ LIM)) (.ok (.lst (sortL l)))
  | .sorted, [.tup l] => .iff (sortOk l && decide (l.length ≤ LIM)) (.ok (.lst (sortL l)))
  | .tuple, [.lst l] => .ok (.tup l)
  | .tuple, [.tup l] => .ok (.tup l)
  | .list, [.lst l] => .ok (.lst l)
  | .list, [.tup l] => .ok (.lst l)
  | .list, [.dct t ks _] => .iff (decide (t ≠ 2)) (.ok (.lst ks))
  | .min, [.int i, .int j] => .ok (.int (if j < i then j else i))
  | .max, [.int i, .int j] => .ok (.int (if j > i then j else i))
  | .any, [.lst l] => (R.ofO (bools l)).bind fun bs => .ok (.bl (bs.any id))
  | .int, [.int i] => .ok (.int i)
  | .int, [.bl b] => .ok (.int (if b then 1 else 0))
  | .int, [.str s] => .iff (decide (s.length ≤ 640)) ((R.ofO (PySem.intText? s)).bind fun n => .ok (.int n))
  | .abs, [.int i] => .ok (.int (if i < 0 then -i else i))
  | .str, [.int i] => .iff (decide (i.natAbs.log2 < 1920)) (.ok (.str (toString i)))
  | _, _ => .stuck
/-- the built-in types that isinstance is asked of -/
inductive TyI where
  | int | bool | tuple | str | list
  deriving DecidableEq
def isiD (x : D) (t : TyI) : R Bool := match x, t with
  | .int _, .int => .ok true
  | .bl _, .int => .ok true
  | .bl _, .bool => .ok true
  | .tup _, .tuple => .ok true
  | .str _, .str => .ok true
  | .lst _, .list => .ok true
  | .ins _, _ => .stuck
  | .adr _, _ => .stuck
  | .exc _, _ => .stuck
  | .dct 0 _ _, _ => .ok false
  | .dct _ _ _, _ => .stuck
  | _, _ => .ok false

/-! ### the state: slots -/
inductive SV where
  /-- only read -/
  | im (d : D)
  /-- a list or dict of one's own -/
  | own (d : D)
  /-- one that the caller handed in to be written, by its place -/
  | io (a : Addr) (d : D)
/-- what may be written -/
def SV.wr : SV → Option D
  | .im _ => none
  | .own d => some d
  | .io _ d => some d
def SV.at_ : SV → Addr → Prop
  | .io a _, b => a = b
  | _, _ => True
abbrev Sl := List (Option SV)
def getI (ρ : Sl) (i : Nat) : R D := match ρ[i]? with
  | some (some (.im d)) => .ok d
  | _ => .stuck
def getP (ρ : Sl) (i : Nat) : R D := match ρ[i]? with
  | some (some (.im d)) => .ok d
  | some (some (.own d)) => .ok d
  | some (some (.io _ d)) => .ok d
  | _ => .stuck
/-- a list or dict that may be written -/
def getW (ρ : Sl) (i : Nat) : R D := match ρ[i]? with
  | some (some (.own d)) => .ok d
  | some (some (.io _ d)) => .ok d
  | _ => .stuck
def getOwn (ρ : Sl) (i : Nat) : R D := match ρ[i]? with
  | some (some (.own d)) => .ok d
  | _ => .stuck
def putI (ρ : Sl) (i : Nat) (d : D) : Sl := ρ.set i (some (.im d))
def putO (ρ : Sl) (i : Nat) (d : D) : Sl := ρ.set i (some (.own d))
/-- what is written in its place -/
def wrS (d : D) : Option SV → SV
  | some (.io a _) => .io a d
  | _ => .own d
def putW (ρ : Sl) (i : Nat) (d : D) : Sl := match ρ[i]? with
  | some x => ρ.set i (some (wrS d x))
  | none => ρ
def wipeS (ρ : Sl) : List Nat → Sl
  | [] => ρ
  | v :: vs => (wipeS ρ vs).set v none
/-- none of these is a list or a dict of one's own -/
def noOwn (ρ : Sl) : List Nat → Bool
  | [] => true
  | i :: l => (match ρ[i]? with
    | some (some (.own _)) => false
    | some (some (.io _ _)) => false
    | _ => true) && noOwn ρ l
/-- what was not there ahead is forgotten -/
def mask : Sl → Sl → Sl
  | a :: l, b :: m => (match a with
    | none => none
    | some _ => b) :: mask l m
  | [], m => m.map fun _ => none
  | _ :: _, [] => []

/-! ### the syntax -/
mutual
inductive Tg where
  | nm (i : Nat) | tup (l : Tgs)
inductive Tgs where
  | nil | cons (t : Tg) (l : Tgs)
end
/-- pure forms of more than one word; their parts are only read -/
inductive XP where
  | sortRev | sortSet | dictT | tupX | lenSet | tupRng1 | tupRng2 | lstRng1 | lstRev | step2 | maxD | minD
  | joinS (s : Str) | splitS (s : Str) | startsS (s : Str) | partS (s : Str) | index | fstrI (s : Str) | tupD
  deriving DecidableEq
mutual
inductive E where
  | var (i : Nat) | int (i : Int) | bl (b : Bool) | non | str (s : Str) | glb (x : Nat)
  | bin (o : Operator) (a b : E) | neg (a : E) | not (a : E) | tupRev (a : E) | revT (a : E)
  | cmp (o : CmpOp) (a b : E) | chain (o p : CmpOp) (a b c : E)
  | and (a b : E) | or (a b : E)
  | tup (l : Es) | lst (l : Es) | dct0 (k : Nat)
  | sub (a i : E) | slc (a : E) (lo hi : E) | slcL (a lo : E) | slcH (a hi : E) | slcN (a : E)
  | call (f : Nat) (l : Es)
  | callK (f : Nat) (l : Es) (ks : List Str) (m : Es)
  | blt (f : BF) (l : Es)
  | isi (a : E) (t : TyI)
  | comp (e : E) (tg : Tg) (it : Wk) | compIf (e : E) (tg : Tg) (it : Wk) (c : E)
  | xp1 (x : XP) (a : E) | xp2 (x : XP) (a b : E)
  /-- C() of a class without fields; its methods, the receiver ahead; isinstance by such classes -/
  | mk (c : Str) | meth (m : Str) (a : E) (l : Es) | isiC (a : E) (cs : List Str)
  /-- sorted(a, key=f); sorted(a, key=lambda x: b), x the slot i -/
  | sortF (f : Nat) (a : E) | sortL (i : Nat) (b a : E)
  /-- any other form, by its number: rules of their own -/
  | ext (n : Nat) (l : Es)
inductive Es where
  | nil | cons (e : E) (l : Es)
inductive Wk where
  | rng1 (a : E) | rng2 (a b : E) | seq (a : E) | zip (a b : E) | enum (a : E) | rev (a : E)
end
mutual
inductive S where
  | expr (e : E) | asg (i : Nat) (e : E) | asgO (i : Nat) (e : E) | asgT (t : Tg) (e : E)
  | par (i j : Nat) (a b : E) | aug (i : Nat) (o : Operator) (e : E)
  | app (i : Nat) (e : E) | extn (i : Nat) (e : E) | put (i : Nat) (k e : E) | setd (i : Nat) (k e : E)
  | ret (e : E) | retN | ife (c : E) (a b : Ss) | for_ (t : Tg) (it : Wk) (b : Ss) | whl (c : E) (b : Ss)
  | brk | cnt | pass | frz (i : Nat) | nev
  | callio (f : Nat) (l : Es) (i : Nat)
  /-- t = (slot i).pop(); (slot i).append((slot j).pop(e)) -/
  | popT (t : Tg) (i : Nat) | appPop (i j : Nat) (e : E)
  | forD (m : Bool) (t : Tg) (i : Nat) (b : Ss)
  /-- for t in it: (slot j += e; if c: (slot i).setdefault(k, []).append(x)), where slot i is an empty dict of one's own -/
  | grp (t : Tg) (it : Wk) (j : Nat) (e c : E) (i : Nat) (k x : E)
  /-- raise c('..'); try: b except x as i: q; the same of an if's two branches, each one expression -/
  | raise (c : Str) | tryE (b : E) (x : Str) (i : Nat) (q : Ss) | tryI (c a b : E) (x : Str) (i : Nat) (q : Ss)
  /-- slot i = [[], ..], and what stands behind it to the end: lists of one's own in the slots js; o.append(e), where o is the one in slot j; no longer to be written -/
  | nest (i : Nat) (js : List Nat) (b : Ss) | appN (o : E) (j : Nat) (e : E) | frzN (i : Nat) (js : List Nat)
  | ext (n : Nat) (l : Es)
inductive Ss where
  | nil | cons (s : S) (l : Ss)
end

/-- what the surroundings give: the module's constants, its defs, its other forms; the turns that a while may have -/
structure Tbl where
  cst : Nat → R D
  fn : Nat → List D → R D
  fnK : Nat → List Str → List D → List D → R D
  io : Nat → List D → D → R D
  ee : Nat → List D → R D
  /-- may be made -/
  mkc : Str → Bool
  /-- the method of a class -/
  hm : Str → Str → Bool
  mt : Str → Str → List D → R D
  /-- the class stands under one of these -/
  sub : Str → List Str → R Bool
  /-- may be raised with one text; of a caught one: stands under one of these; is caught by a clause -/
  rs : Str → Bool
  subE : Str → List Str → R Bool
  exm : Str → Str → R Bool
  fuel : Nat

inductive Fl where
  | nx (ρ : Sl) | bk (ρ : Sl) | ct (ρ : Sl) | rt (d : D)

mutual
def asgTg : Tg → D → Sl → R Sl
  | .nm i, d, ρ => .iff (decide (i < ρ.length)) (.ok (putI ρ i d))
  | .tup l, d, ρ => match d with
    | .tup ds => asgTgs l ds ρ
    | .lst ds => asgTgs l ds ρ
    | _ => .stuck
def asgTgs : Tgs → List D → Sl → R Sl
  | .nil, ds, ρ => match ds with
    | [] => .ok ρ
    | _ => .stuck
  | .cons t l, ds, ρ => match ds with
    | d :: ds => (asgTg t d ρ).bind fun ρ' => asgTgs l ds ρ'
    | _ => .stuck
end
mutual
def Tg.slots : Tg → List Nat
  | .nm i => [i]
  | .tup l => l.slots
def Tgs.slots : Tgs → List Nat
  | .nil => []
  | .cons t l => t.slots ++ l.slots
end

def compL {α : Type} (f : α → R (List D)) : List α → R (List D)
  | [] => .ok []
  | a :: l => (f a).nox.bind fun x => (compL f l).bind fun r => .ok (x ++ r)
def isVar : E → Bool
  | .var _ => true
  | _ => false
/-- the same, but of a list of one's own only where it is read -/
def imO (e : E) (ρ : Sl) (r : R D) : R D := match e with
  | .var i => getI ρ i
  | _ => r
def rngL (lo : Int) (n : Nat) : List D := (List.range n).map fun i => .int (lo + (i : Nat))
def rngOk (i : Int) : Bool := decide (-(2 ^ 62) ≤ i ∧ i < 2 ^ 62)
def zipL : List D → List D → List D
  | a :: l, b :: m => .tup [a, b] :: zipL l m
  | _, _ => []
def enumL (i : Int) : List D → List D
  | [] => []
  | a :: l => .tup [.int i, a] :: enumL (i + 1) l
def seqOf : D → R (List D)
  | .tup l => .ok l
  | .lst l => .ok l
  | .str z => .ok (z.cps.toList.map fun c => .str ⟨#[c]⟩)
  | .dct t _ l => .iff (decide (t = 2)) (.ok l)
  | _ => .stuck
def seqOf2 : D → R (List D)
  | .tup l => .ok l
  | .lst l => .ok l
  | _ => .stuck

/-! ### pure forms -/
/-- the first ones of their like -/
def firsts : List Int → List Int
  | [] => []
  | a :: l => a :: (firsts l).filter fun b => decide (b ≠ a)
def firstsS : List Str → List Str
  | [] => []
  | a :: l => a :: (firstsS l).filter fun b => decide (b ≠ a)
def strsD : List D → Option (List Str)
  | [] => some []
  | .str i :: l => (strsD l).map fun r => i :: r
  | _ => none
/-- put in where it stands, once -/
def insI (a : Int) : List Int → List Int
  | [] => [a]
  | b :: l => if a < b then a :: b :: l else if a = b then b :: l else b :: insI a l
def sortI : List Int → List Int
  | [] => []
  | a :: l => insI a (sortI l)
/-- the greatest, the least -/
def foldD (b : Bool) (n : Int) (r : List Int) : Int := match b with
  | true => r.foldl max n
  | false => r.foldl min n
def mmD (b : Bool) (d : Int) : List Int → R D
  | [] => .ok (.int d)
  | n :: r => .ok (.int (foldD b n r))
/-- every second one -/
def evens {α : Type} : List α → List α
  | [] => []
  | [a] => [a]
  | a :: _ :: l => a :: evens l
def xpD (x : XP) (ds : List D) : R D := match x, ds with
  | .sortRev, [.lst l] => .iff (sortOk l && decide (l.length ≤ LIM)) (.ok (.lst (revSortL l)))
  | .sortSet, [.lst l] => (R.ofO (intsD l)).bind fun ns => .iff (decide (l.length < 64)) (.ok (.lst ((sortI ns).map D.int)))
  | .lenSet, [.lst l] => (R.ofO (strsD l)).bind fun ns => .iff (decide (l.length < 4000)) (.ok (.int (firstsS ns).length))
  | .joinS s, [.lst l] => (R.ofO (strsD l)).bind fun ys => .iff (decide ((ys.map Str.length).sum + ys.length * s.length ≤ LIM)) (.ok (.str (Txt.join s ys)))
  | .splitS s, [.str a] => .iff (decide (s.length ≠ 0 ∧ a.length + 2 ≤ LIM)) (.ok (.lst ((Txt.split a s).map .str)))
  | .partS s, [.str a] => .iff (decide (s.length ≠ 0 ∧ a.length ≤ LIM)) (.ok (.tup [.str (Txt.partition a s).1, .str (Txt.partition a s).2.1, .str (Txt.partition a s).2.2]))
  | .startsS s, [.str a] => .ok (.bl (Txt.startswith a s))
  | .fstrI s, [.int i] => .iff (decide (i.natAbs.log2 < 1920) && decide ((Str.empty ++ (toString i : Str)).length ≤ LIM) && decide (((Str.empty ++ (toString i : Str)) ++ s).length ≤ LIM)) (.ok (.str ((Str.empty ++ (toString i : Str)) ++ s)))
  | .tupD, [.dct t ks _] => .iff (decide (t = 0)) (.ok (.tup ks))
  | .index, [.str a, .str b] => (R.ofO (Builtin.Str.occurrences a b 0 a.length 1).head?).bind fun i => .ok (.int (i : Nat))
  | .tupRng1, [.int n] => .iff (rngOk n && decide (n ≤ 1000000)) (.ok (.tup (rngL 0 n.toNat)))
  | .tupRng2, [.int i, .int j] => .iff (rngOk i && rngOk j && decide (j - i ≤ 1000000)) (.ok (.tup (rngL i (j - i).toNat)))
  | .lstRng1, [.int n] => .iff (rngOk n && decide (n ≤ 1000000)) (.ok (.lst (rngL 0 n.toNat)))
  | .lstRev, [.lst l] => .ok (.lst l.reverse)
  | .step2, [.tup l] => .ok (.tup (evens l))
  | .maxD, [.lst l, .int d] => (R.ofO (intsD l)).bind fun ns => mmD true d ns
  | .minD, [.lst l, .int d] => (R.ofO (intsD l)).bind fun ns => mmD false d ns
  | .tupX, [.lst l] => .ok (.dct 2 [] l)
  | .dictT, [.dct t _ l] => .iff (decide (t = 2)) ((R.ofO (pairsOf l)).bind fun p => .iff (p.1.all (keyOk 1) && nodupK p.1 && decide (l.length ≤ LIM)) (.ok (.dct 1 p.1 p.2)))
  | .dictT, [.lst l] => (R.ofO (pairsOf l)).bind fun p => .iff (p.1.all (keyOk 1) && nodupK p.1 && decide (l.length ≤ LIM)) (.ok (.dct 1 p.1 p.2))
  | _, _ => .stuck
/-! ### sorting by keys -/
def keyPy (p : D × D) : PyData := p.1.py
def sortByK (ks xs : List D) : List D := ((ks.zip xs).mergeSort (PySem.W.dataLe false keyPy)).map (·.2)
def mapR {α β : Type} (f : α → R β) : List α → R (List β)
  | [] => .ok []
  | a :: l => (f a).nox.bind fun x => (mapR f l).bind fun r => .ok (x :: r)
def sortK (ks xs : List D) : R D := .iff (sortOk ks) (.ok (.lst (sortByK ks xs)))
def lstO : D → R (List D)
  | .lst l => .ok l
  | _ => .stuck
def insO : D → R Str
  | .ins c => .ok c
  | _ => .stuck
/-- isinstance by own classes -/
def isiCD (T : Tbl) (x : D) (cs : List Str) : R Bool := match x with
  | .ins c => T.sub c cs
  | .exc c => T.subE c cs
  | _ => .stuck
section
variable (T : Tbl)
mutual
/-- the value, of a list of one's own too -/
def evP : E → Sl → R D
  | .var i, ρ => getP ρ i
  | .int i, _ => .ok (.int i)
  | .bl b, _ => .ok (.bl b)
  | .non, _ => .ok .non
  | .str s, _ => .ok (.str s)
  | .glb x, _ => T.cst x
  | .bin o a b, ρ => (evP a ρ).bind fun x => (evP b ρ).bind fun y => binD o x y
  | .revT a, ρ => (evP a ρ).bind fun x => match x with
    | .tup l => .ok (.tup l.reverse)
    | _ => .stuck
  | .tupRev a, ρ => (evP a ρ).bind fun x => match x with
    | .lst l => .ok (.tup l.reverse)
    | _ => .stuck
  | .neg a, ρ => (evP a ρ).bind fun x => match x with
    | .int i => .ok (.int (-i))
    | _ => .stuck
  | .not a, ρ => (evP a ρ).bind fun x => (truD x).bind fun b => .ok (.bl (!b))
  | .cmp o a b, ρ => (evP a ρ).bind fun x => (evP b ρ).bind fun y => (cmpD o x y).bind fun r => .ok (.bl r)
  | .chain o p a b c, ρ => (evP a ρ).bind fun x => (evP b ρ).bind fun y => (cmpD o x y).bind fun r => match r with
    | true => (evP c ρ).bind fun z => (cmpD p y z).bind fun r => .ok (.bl r)
    | false => .ok (.bl false)
  | .and a b, ρ => (evP a ρ).bind fun x => match x with
    | .bl true => imO b ρ (evP b ρ)
    | .bl false => .ok (.bl false)
    | _ => .stuck
  | .or a b, ρ => (evP a ρ).bind fun x => match x with
    | .bl true => .ok (.bl true)
    | .bl false => imO b ρ (evP b ρ)
    | _ => .stuck
  | .tup l, ρ => (evL l ρ).bind fun ds => .iff (decide (ds.length ≤ LIM)) (.ok (.tup ds))
  | .lst l, ρ => (evL l ρ).bind fun ds => .iff (decide (ds.length ≤ LIM)) (.ok (.lst ds))
  | .dct0 t, _ => .ok (.dct t [] [])
  | .sub a i, ρ => (evP a ρ).bind fun x => (evP i ρ).bind fun y => subsD x y
  | .slc a lo hi, ρ => (evP a ρ).bind fun x => (evP lo ρ).bind fun l => (intO l).bind fun l => (evP hi ρ).bind fun h => (intO h).bind fun h => slcD x l h
  | .slcL a lo, ρ => (evP a ρ).bind fun x => (evP lo ρ).bind fun l => (intO l).bind fun l => slcD x l none
  | .slcH a hi, ρ => (evP a ρ).bind fun x => (evP hi ρ).bind fun h => (intO h).bind fun h => slcD x none h
  | .slcN a, ρ => (evP a ρ).bind fun x => slcD x none none
  | .call f l, ρ => (evL l ρ).bind fun ds => T.fn f ds
  | .callK f l ks m, ρ => (evL l ρ).bind fun ds => (evL m ρ).bind fun es => T.fnK f ks ds es
  | .blt f l, ρ => (evLP l ρ).bind fun ds => bltD f ds
  | .isi a t, ρ => (evP a ρ).bind fun x => (isiD x t).bind fun b => .ok (.bl b)
  | .comp e tg it, ρ => (evIP it ρ).bind fun ds => .iff (decide (ds.length ≤ LIM) && noOwn ρ tg.slots) ((compL (fun d => (asgTg tg d (wipeS ρ tg.slots)).bind fun ρ' => (imO e ρ' (evP e ρ')).bind fun x => .ok [x]) ds).bind fun xs => .ok (.lst xs))
  | .compIf e tg it c, ρ => (evIP it ρ).bind fun ds => .iff (decide (ds.length ≤ LIM) && noOwn ρ tg.slots) ((compL (fun d => (asgTg tg d (wipeS ρ tg.slots)).bind fun ρ' => (evP c ρ').bind fun t => (truD t).bind fun t => match t with
      | true => (imO e ρ' (evP e ρ')).bind fun x => .ok [x]
      | false => .ok []) ds).bind fun xs => .ok (.lst xs))
  | .xp1 x a, ρ => (evP a ρ).bind fun y => xpD x [y]
  | .xp2 x a b, ρ => (evP a ρ).bind fun y => (evP b ρ).bind fun z => xpD x [y, z]
  | .mk c, _ => .iff (T.mkc c) (.ok (.ins c))
  | .meth m a l, ρ => (imO a ρ (evP a ρ)).bind fun x => (insO x).bind fun c => .iff (T.hm c m) ((evL l ρ).bind fun ds => T.mt c m (x :: ds))
  | .isiC a cs, ρ => (evP a ρ).bind fun x => (isiCD T x cs).bind fun b => .ok (.bl b)
  | .sortF f a, ρ => (evP a ρ).bind fun x => (lstO x).bind fun l => (mapR (fun d => T.fn f [d]) l).bind fun ks => sortK ks l
  | .sortL i b a, ρ => (evP a ρ).bind fun x => (lstO x).bind fun l => .iff (decide (i < ρ.length) && noOwn ρ [i]) ((mapR (fun d => imO b (putI ρ i d) (evP b (putI ρ i d))) l).bind fun ks => sortK ks l)
  | .ext n l, ρ => (evLP l ρ).bind fun ds => T.ee n ds
/-- arguments, items of a display -/
def evL : Es → Sl → R (List D)
  | .nil, _ => .ok []
  | .cons e l, ρ => (imO e ρ (evP e ρ)).bind fun x => (evL l ρ).bind fun xs => .ok (x :: xs)
/-- arguments that are only read -/
def evLP : Es → Sl → R (List D)
  | .nil, _ => .ok []
  | .cons e l, ρ => (evP e ρ).bind fun x => (evLP l ρ).bind fun xs => .ok (x :: xs)
/-- what is walked, only read -/
def evIP : Wk → Sl → R (List D)
  | .rng1 a, ρ => (evP a ρ).bind fun x => match x with
    | .int n => .iff (rngOk n) (.ok (rngL 0 n.toNat))
    | _ => .stuck
  | .rng2 a b, ρ => (evP a ρ).bind fun x => (evP b ρ).bind fun y => match x, y with
    | .int i, .int j => .iff (rngOk i && rngOk j) (.ok (rngL i (j - i).toNat))
    | _, _ => .stuck
  | .seq a, ρ => (evP a ρ).bind fun x => seqOf x
  | .zip a b, ρ => (evP a ρ).bind fun x => (evP b ρ).bind fun y => (seqOf2 x).bind fun l => (seqOf2 y).bind fun m => .ok (zipL l m)
  | .enum a, ρ => (evP a ρ).bind fun x => (seqOf2 x).bind fun l => .ok (enumL 0 l)
  | .rev a, ρ => (evP a ρ).bind fun x => (seqOf2 x).bind fun l => .ok l.reverse
end
def ev (e : E) (ρ : Sl) : R D := imO e ρ (evP T e ρ)
/-- what is walked: no list of one's own -/
def evI (it : Wk) (ρ : Sl) : R (List D) := match it with
  | .seq a => (ev T a ρ).bind fun x => seqOf x
  | .zip a b => (ev T a ρ).bind fun x => (ev T b ρ).bind fun y => (seqOf2 x).bind fun l => (seqOf2 y).bind fun m => .ok (zipL l m)
  | .enum a => (ev T a ρ).bind fun x => (seqOf2 x).bind fun l => .ok (enumL 0 l)
  | .rev a => (ev T a ρ).bind fun x => (seqOf2 x).bind fun l => .ok l.reverse
  | it => evIP T it ρ
def evT (e : E) (ρ : Sl) : R Bool := (evP T e ρ).bind truD
end

def forL (m : Sl → Sl) (f : D → Sl → R Fl) : List D → Sl → R Fl
  | [], ρ => .ok (.nx ρ)
  | d :: ds, ρ => (f d ρ).bind fun x => match x with
    | .nx ρ' => forL m f ds (m ρ')
    | .ct ρ' => forL m f ds (m ρ')
    | .bk ρ' => .ok (.nx (m ρ'))
    | .rt d => .ok (.rt d)
def whlL (m : Sl → Sl) (c : Sl → R Bool) (f : Sl → R Fl) : Nat → Sl → R Fl
  | 0, _ => .stuck
  | n + 1, ρ => (c ρ).bind fun b => match b with
    | false => .ok (.nx ρ)
    | true => (f ρ).bind fun x => match x with
      | .nx ρ' => whlL m c f n (m ρ')
      | .ct ρ' => whlL m c f n (m ρ')
      | .bk ρ' => .ok (.nx (m ρ'))
      | .rt d => .ok (.rt d)
/-- put behind its group -/
def addG (k x : D) : List D → List (List D) → List D × List (List D)
  | a :: ks, l :: ls => if eqB a k then (a :: ks, (l ++ [x]) :: ls) else (a :: (addG k x ks ls).1, l :: (addG k x ks ls).2)
  | _, _ => ([k], [[x]])
def grpL (m : Sl → Sl) (f : D → Sl → R Sl) (c : Sl → R Bool) (k x : Sl → R D) : List D → Sl → List D → List (List D) → R (Sl × List D × List (List D))
  | [], ρ, ks, ls => .ok (ρ, ks, ls)
  | d :: ds, ρ, ks, ls => (f d ρ).bind fun ρ1 => (c ρ1).bind fun b => match b with
    | false => grpL m f c k x ds (m ρ1) ks ls
    | true => (k ρ1).bind fun kd => (x ρ1).bind fun xd => .iff (keyOk 0 kd && decide (ks.length < LIM) && ls.all fun l => decide (l.length < LIM)) (grpL m f c k x ds (m ρ1) (addG kd xd ks ls).1 (addG kd xd ks ls).2)
/-- the keys of a dict, its pairs -/
def dctL (m : Bool) (ks vs : List D) : List D := match m with
  | false => ks
  | true => zipL ks vs
/-- makes a new list or dict -/
def fresh : E → Bool
  | .lst _ => true
  | .dct0 _ => true
  | .comp _ _ _ => true
  | .compIf _ _ _ _ => true
  | .bin .Mult (.lst _) _ => true
  | .blt .list (.cons _ .nil) => true
  | _ => false

def adrO : D → R Addr
  | .adr a => .ok a
  | _ => .stuck
def adrL : List D → R (List Addr)
  | [] => .ok []
  | d :: l => (adrO d).bind fun a => (adrL l).bind fun r => .ok (a :: r)
def adrsO : D → R (List Addr)
  | .lst l => adrL l
  | _ => .stuck
def ioO (ρ : Sl) (j : Nat) (a : Addr) : R (List D) := match ρ[j]? with
  | some (some (.io b (.lst l))) => .iff (decide (b = a)) (.ok l)
  | _ => .stuck
def iosO (ρ : Sl) : List Nat → List Addr → R (List (List D))
  | [], [] => .ok []
  | j :: js, b :: bs => (ioO ρ j b).bind fun l => (iosO ρ js bs).bind fun r => .ok (l :: r)
  | _, _ => .stuck
def setIos : Sl → List Nat → List Addr → Sl
  | ρ, j :: js, b :: bs => setIos (ρ.set j (some (.io b (.lst [])))) js bs
  | ρ, _, _ => ρ
def nestS (ρ : Sl) (i : Nat) (js : List Nat) (bs : List Addr) : Sl := (setIos ρ js bs).set i (some (.im (.lst (bs.map .adr))))
open Classical in
/-- what it returns wherever those stand -/
noncomputable def nestR (n : Nat) (f : List Addr → R Fl) : R Fl := if h : ∃ d, ∀ bs : List Addr, bs.length = n → f bs = .ok (.rt d) then .ok (.rt h.choose) else .stuck
theorem nestR_eq {n : Nat} {f : List Addr → R Fl} {d : D} (h : ∀ bs : List Addr, bs.length = n → f bs = .ok (.rt d)) : nestR n f = .ok (.rt d) := by
  have hx : ∃ d, ∀ bs : List Addr, bs.length = n → f bs = .ok (.rt d) := ⟨d, h⟩
  unfold nestR
  rw [dif_pos hx]
  have z := hx.choose_spec (List.replicate n 0) (List.length_replicate ..)
  rw [h _ (List.length_replicate ..)] at z
  exact z.symm ▸ rfl
theorem nestR_ok {n : Nat} {f : List Addr → R Fl} {x : Fl} (h : nestR n f = .ok x) : ∃ d, x = .rt d ∧ ∀ bs : List Addr, bs.length = n → f bs = .ok (.rt d) := by
  unfold nestR at h
  split at h
  · rename_i hx
    exact ⟨hx.choose, (R.ok.inj h).symm, hx.choose_spec⟩
  · cases h
theorem nestR_noexc {n : Nat} {f : List Addr → R Fl} {c : Str} {fs : List (Str × D)} (h : nestR n f = .exc c fs) : False := by
  unfold nestR at h
  split at h <;> cases h
/-- what follows a try's body -/
def tryR {α : Type} (exm : Str → Str → R Bool) (x : Str) (r : R α) (ρ : Sl) (f : Str → R Fl) : R Fl := match r with
  | .stuck => .stuck
  | .ok _ => .ok (.nx ρ)
  | .exc c fs => match fs with
    | [] => (exm c x).nox.bind fun b => match b with
      | true => f c
      | false => .exc c []
    | _ :: _ => .stuck
/-- the clause's name goes -/
def goneF (i : Nat) : Fl → R Fl
  | .nx ρ => .ok (.nx (ρ.set i none))
  | .rt d => .ok (.rt d)
  | _ => .stuck
noncomputable section
variable (T : Tbl)
mutual
def exS : S → Sl → R Fl
  | .expr e, ρ => (evP T e ρ).bind fun _ => .ok (.nx ρ)
  | .asg i e, ρ => (ev T e ρ).bind fun d => .iff (decide (i < ρ.length)) (.ok (.nx (putI ρ i d)))
  | .asgO i e, ρ => .iff (fresh e && decide (i < ρ.length)) ((evP T e ρ).bind fun d => .ok (.nx (putO ρ i d)))
  | .asgT t e, ρ => (ev T e ρ).bind fun d => (asgTg t d ρ).bind fun ρ' => .ok (.nx ρ')
  | .par i j a b, ρ => (ev T a ρ).bind fun x => (ev T b ρ).bind fun y => .iff (decide (i < ρ.length ∧ j < ρ.length)) (.ok (.nx (putI (putI ρ i x) j y)))
  | .aug i o e, ρ => (getI ρ i).bind fun x => (evP T e ρ).bind fun y => (augD o x y).bind fun z => .ok (.nx (putI ρ i z))
  | .app i e, ρ => (getW ρ i).bind fun x => match x with
    | .lst l => (ev T e ρ).bind fun y => .iff (decide (l.length < LIM)) (.ok (.nx (putW ρ i (.lst (l ++ [y])))))
    | _ => .stuck
  | .extn i e, ρ => (getW ρ i).bind fun x => match x with
    | .lst l => (ev T e ρ).bind fun y => (seqOf2 y).bind fun m => .iff (decide (l.length + m.length ≤ LIM)) (.ok (.nx (putW ρ i (.lst (l ++ m)))))
    | _ => .stuck
  | .put i k e, ρ => (ev T e ρ).bind fun v => (getW ρ i).bind fun x => (evP T k ρ).bind fun k => match x with
    | .lst l => match k with
      | .int n => (R.ofO (ixN l.length n)).bind fun j => .ok (.nx (putW ρ i (.lst (l.set j v))))
      | _ => .stuck
    | .dct t ks vs => .iff (keyOk t k && decide (ks.length < LIM)) (.ok (.nx (putW ρ i (.dct t (putD k v ks vs).1 (putD k v ks vs).2))))
    | _ => .stuck
  | .setd i k e, ρ => (getW ρ i).bind fun x => match x with
    | .dct t ks vs => .iff (decide (t = 0)) ((evP T k ρ).bind fun k => (ev T e ρ).bind fun v => .iff (keyOk 0 k && decide (ks.length < LIM)) (.ok (.nx (putW ρ i (if hasK k ks then .dct t ks vs else .dct t (putD k v ks vs).1 (putD k v ks vs).2)))))
    | _ => .stuck
  | .ret e, ρ => (evP T e ρ).bind fun d => .ok (.rt d)
  | .retN, _ => .ok (.rt .non)
  | .ife c a b, ρ => (evT T c ρ).bind fun t => match t with
    | true => exSs a ρ
    | false => exSs b ρ
  | .for_ t it b, ρ => (evI T it ρ).bind fun ds => forL (mask ρ) (fun d ρ' => (asgTg t d ρ').bind fun ρ2 => exSs b ρ2) ds ρ
  | .whl c b, ρ => whlL (mask ρ) (fun ρ' => evT T c ρ') (fun ρ' => exSs b ρ') T.fuel ρ
  | .brk, ρ => .ok (.bk ρ)
  | .cnt, ρ => .ok (.ct ρ)
  | .pass, ρ => .ok (.nx ρ)
  | .frz i, ρ => (getOwn ρ i).bind fun d => .ok (.nx (putI ρ i d))
  | .nev, _ => .stuck
  | .forD m t i b, ρ => (getI ρ i).bind fun d => match d with
    | .dct k ks vs => .iff (decide (k ≠ 2)) (forL (mask ρ) (fun d ρ' => (asgTg t d ρ').bind fun ρ2 => exSs b ρ2) (dctL m ks vs) ρ).nox
    | _ => .stuck
  | .grp t it j e c i k x, ρ => (evI T it ρ).bind fun ds => (getOwn ρ i).bind fun d => match d with
    | .dct 0 [] [] => .iff (decide (i ∉ t.slots ∧ i ≠ j)) ((grpL (mask (ρ.set i none)) (fun d ρ' => (asgTg t d ρ').bind fun ρ2 => (getI ρ2 j).bind fun y => (evP T e ρ2).bind fun z => (augD .Add y z).bind fun z => .ok (putI ρ2 j z)) (fun ρ' => evT T c ρ') (fun ρ' => evP T k ρ') (fun ρ' => ev T x ρ') ds (ρ.set i none) [] []).nox.bind fun r => .ok (.nx (r.1.set i (some (.own (.dct 0 r.2.1 (r.2.2.map .lst)))))))
    | _ => .stuck
  | .popT t i, ρ => (getW ρ i).bind fun x => match x with
    | .lst l => (R.ofO l[l.length - 1]?).bind fun d => (asgTg t d (putW ρ i (.lst l.dropLast))).bind fun ρ' => .ok (.nx ρ')
    | _ => .stuck
  | .appPop i j e, ρ => (getW ρ i).bind fun x => match x with
    | .lst l => (getW ρ j).bind fun y => match y with
      | .lst m => (evP T e ρ).bind fun n => (intO1 n).bind fun n => (R.ofO (ixN m.length n)).bind fun k => (R.ofO m[k]?).bind fun d => .iff (decide (i ≠ j) && decide (l.length < LIM) && decide (m.length ≤ LIM)) (.ok (.nx (putW (putW ρ j (.lst (m.eraseIdx k))) i (.lst (l ++ [d])))))
      | _ => .stuck
    | _ => .stuck
  | .callio f l i, ρ => (evL T l ρ).bind fun ds => (getW ρ i).bind fun x => (T.io f ds x).bind fun y => .ok (.nx (putW ρ i y))
  | .raise c, _ => .iff (T.rs c) (.exc c [])
  | .tryE b x i q, ρ => .iff (decide (i < ρ.length)) ((T.exm x x).nox.bind fun t => .iff t (tryR T.exm x (evP T b ρ) ρ fun c => (exSs q (putI ρ i (.exc c))).nox.bind (goneF i)))
  | .tryI c a b x i q, ρ => .iff (decide (i < ρ.length)) ((T.exm x x).nox.bind fun t => .iff t (tryR T.exm x ((evT T c ρ).bind fun t => match t with
      | true => evP T a ρ
      | false => evP T b ρ) ρ fun c => (exSs q (putI ρ i (.exc c))).nox.bind (goneF i)))
  | .nest i js b, ρ => .iff (decide (i < ρ.length ∧ i ∉ js ∧ js.Nodup) && js.all fun j => decide (j < ρ.length)) (nestR js.length fun bs => exSs b (nestS ρ i js bs))
  | .appN o j e, ρ => (evP T o ρ).bind fun x => (adrO x).bind fun a => (ioO ρ j a).bind fun l => (ev T e ρ).bind fun y => .iff (decide (l.length < LIM)) (.ok (.nx (putW ρ j (.lst (l ++ [y])))))
  | .frzN i js, ρ => (getI ρ i).bind fun x => (adrsO x).bind fun bs => (iosO ρ js bs).bind fun ls => .iff (decide (i ∉ js)) (.ok (.nx (putI (wipeS ρ js) i (.lst (ls.map .lst)))))
  | .ext _ _, _ => .stuck
def exSs : Ss → Sl → R Fl
  | .nil, ρ => .ok (.nx ρ)
  | .cons s l, ρ => (exS s ρ).bind fun x => match x with
    | .nx ρ' => exSs l ρ'
    | f => .ok f
end
end
def flR : Fl → R D
  | .rt d => .ok d
  | .nx _ => .ok .non
  | _ => .stuck
/-- a def's body, of n slots -/
noncomputable def body (T : Tbl) (n : Nat) (b : Ss) (ds : List D) : R D := (exSs T b (ds.map (fun d => some (.im d)) ++ List.replicate (n - ds.length) none)).bind flR
/-- a def that writes to its last argument; a: where that one stands -/
noncomputable def bodyAt (T : Tbl) (n : Nat) (b : Ss) (ds : List D) (a : Addr) (x : D) : R D := (exSs T b (ds.map (fun d => some (.im d)) ++ some (.io a x) :: List.replicate (n - (ds.length + 1)) none)).bind fun f => match f with
  | .nx ρ => match ρ[ds.length]? with
    | some (some (.io a' y)) => .iff (decide (a' = a)) (.ok y)
    | _ => .stuck
  | _ => .stuck
open Classical in
/-- what it does wherever that one stands -/
noncomputable def bodyIo (T : Tbl) (n : Nat) (b : Ss) (ds : List D) (x : D) : R D := if h : ∃ r, ∀ a, bodyAt T n b ds a x = r then h.choose else .stuck
theorem bodyIo_eq {T : Tbl} {n : Nat} {b : Ss} {ds : List D} {x : D} {r : R D} (h : ∀ a, bodyAt T n b ds a x = r) : bodyIo T n b ds x = r := by
  have z : ∃ r, ∀ a, bodyAt T n b ds a x = r := ⟨r, h⟩
  unfold bodyIo
  rw [dif_pos z]
  exact (z.choose_spec 0).symm.trans (h 0)
theorem bodyIo_at {T : Tbl} {n : Nat} {b : Ss} {ds : List D} {x : D} {r : R D} (h : bodyIo T n b ds x = r) (nr : r ≠ .stuck) (a : Addr) : bodyAt T n b ds a x = r := by
  unfold bodyIo at h
  by_cases z : ∃ r, ∀ a, bodyAt T n b ds a x = r
  · rw [dif_pos z] at h
    exact (z.choose_spec a).trans h
  · rw [dif_neg z] at h
    exact (nr h.symm).elim
end Ir

/-! Ir1: how plain data stand in the heap, how the slots do. -/
namespace Ir
open PySem L2

structure Gx where
  P : Program
  w : World
  K : PySem.W.Frag
  mg : Str → Option Value
  base : Heap
  /-- the tables of the defs that make lambdas, with these one's names -/
  tb : List (Addr × Str)

/-! ### what goes on: all but the tables stays, the tables go on to be such -/
theorem HO.cs (o : HO) : (∃ ps, o = .tbl ps) ∨ ∀ ps, o ≠ .tbl ps := by
  cases o <;> first | exact .inl ⟨_, rfl⟩ | exact .inr fun ps z => by cases z
structure Same (G : Gx) (H H' : Hp) : Prop where
  ext : ∀ a o, H a = some o → (∀ ps, o ≠ .tbl ps) → H' a = some o
  tbl : ∀ a ps, H a = some (.tbl ps) → ∃ ps', H' a = some (.tbl ps')
  tab : ∀ p ∈ G.tb, LamX.TabS H p.1 p.2 → LamX.TabS H' p.1 p.2
section
variable {G : Gx}
theorem Same.refl (H : Hp) : Same G H H := ⟨fun _ _ e _ => e, fun _ ps e => ⟨ps, e⟩, fun _ _ t => t⟩
theorem Same.trans {H H1 H2 : Hp} (s : Same G H H1) (t : Same G H1 H2) : Same G H H2 :=
  ⟨fun a o e n => t.ext a o (s.ext a o e n) n, fun a ps e => let ⟨ps', e'⟩ := s.tbl a ps e; t.tbl a ps' e', fun p hp z => t.tab p hp (s.tab p hp z)⟩
theorem Same.of2 {H H' : Hp} (s : L2.Same H H') : Same G H H' := ⟨fun a o e _ => s a o e, fun a ps e => ⟨ps, s _ _ e⟩, fun p _ t => t.ext fun b o e => s b o e⟩
theorem Same.there {H H' : Hp} {a : Addr} {o : HO} (s : Same G H H') (e : H a = some o) : ∃ o', H' a = some o' := by
  rcases HO.cs o with ⟨ps, rfl⟩ | n
  · obtain ⟨ps', e'⟩ := s.tbl a ps e
    exact ⟨_, e'⟩
  · exact ⟨_, s.ext a o e n⟩
theorem Same.free {H H' : Hp} {a : Addr} (s : Same G H H') (n : H' a = none) : H a = none := by
  cases q : H a with
  | none => rfl
  | some o =>
    obtain ⟨o', e⟩ := s.there q
    rw [n] at e
    cases e
theorem Same.lst {H H' : Hp} (s : Same G H H') {a : Addr} {xs : List V} (e : H a = some (.lst xs)) : H' a = some (.lst xs) := s.ext a _ e fun ps z => by cases z
theorem Same.tup {H H' : Hp} (s : Same G H H') {a : Addr} {xs : List V} (e : H a = some (.tup xs)) : H' a = some (.tup xs) := s.ext a _ e fun ps z => by cases z
theorem Same.dK {H H' : Hp} (s : Same G H H') {a : Addr} {xs : List (Key × V)} (e : H a = some (.dK xs)) : H' a = some (.dK xs) := s.ext a _ e fun ps z => by cases z
/-- a list, a dict -/
def MutL : Option HO → Prop
  | some (.lst _) => True
  | some (.dK _) => True
  | some (.dT _) => True
  | _ => False
theorem MutL.mut {o : Option HO} (h : MutL o) : Mut o := by
  cases o with
  | none => exact h
  | some o => cases o <;> first | trivial | exact h.elim
theorem MutL.nt {o : HO} (h : MutL (some o)) : ∀ ps, o ≠ .tbl ps := fun ps z => by
  subst z
  exact h
theorem tab_keep {H H' : Hp} {P : Addr} {q : Str} (k : ∀ b o, H b = some o → ¬ MutL (some o) → H' b = some o) (t : LamX.TabS H P q) : LamX.TabS H' P q := by
  obtain ⟨ps, h1, h2, h3⟩ := t
  refine ⟨ps, k _ _ h1 fun z => z, h2, fun pos cv hc => ?_⟩
  obtain ⟨c, e1, e2⟩ := h3 pos cv hc
  exact ⟨c, e1, k _ _ e2 fun z => z⟩
/-- the tables are such -/
def Tbs (G : Gx) (H : Hp) : Prop := ∀ p ∈ G.tb, LamX.TabS H p.1 p.2
theorem Tbs.same {H H' : Hp} (t : Tbs G H) (s : Same G H H') : Tbs G H' := fun p hp => s.tab p hp (t p hp)
/-- the heap without one -/
def del (H : Hp) (a : Addr) : Hp := fun b => if b = a then none else H b
theorem del_same {H : Hp} {a : Addr} : del H a a = none := by
  unfold del
  rw [if_pos rfl]
theorem del_ne {H : Hp} {a b : Addr} (h : b ≠ a) : del H a b = H b := by
  unfold del
  rw [if_neg h]
theorem del_some {H : Hp} {a b : Addr} {o : HO} (h : del H a b = some o) : b ≠ a ∧ H b = some o := by
  unfold del at h
  by_cases e : b = a
  · rw [if_pos e] at h
    cases h
  · rw [if_neg e] at h
    exact ⟨e, h⟩
theorem tab_del {H : Hp} {a P : Addr} {q : Str} (t : LamX.TabS (del H a) P q) : LamX.TabS H P q := tab_keep (fun b o e _ => (del_some e).2) t
theorem del_tab {H : Hp} {a P : Addr} {q : Str} (m : MutL (H a)) (t : LamX.TabS H P q) : LamX.TabS (del H a) P q := tab_keep (fun b o e n => by
  rw [del_ne fun z => n (by rw [← e, z]; exact m)]
  exact e) t
theorem Same.del {H : Hp} (a : Addr) : Same G (del H a) H := ⟨fun b o e _ => (del_some e).2, fun b ps e => ⟨ps, (del_some e).2⟩, fun p _ t => tab_del t⟩
/-- one list, one dict is written -/
theorem Same.delW {H H' : Hp} {a : Addr} (k : ∀ b, b ≠ a → H' b = H b) : Same G (Ir.del H a) H' :=
  ⟨fun b o e _ => by
    obtain ⟨n, e⟩ := del_some e
    rw [k b n]
    exact e, fun b ps e => by
    obtain ⟨n, e⟩ := del_some e
    exact ⟨ps, by rw [k b n]; exact e⟩, fun p _ t => tab_keep (fun b o e _ => by
    obtain ⟨n, e⟩ := del_some e
    rw [k b n]
    exact e) t⟩
end

def keyD : Key → D
  | .inl i => .int i
  | .inr s => .str s
/-- a tuple that is read: no blocked object -/
def TupAt (G : Gx) (B : Addr → Prop) (H : Hp) (a : Addr) (vs : List V) : Prop :=
  H a = some (.tup vs) ∧ ¬ B a
/-- a dict's pairs by its object: keys ints and texts; tuples of such -/
def DctAt (H : Hp) (a : Addr) (t : Nat) (ks : List D) (vs : List V) : Prop :=
  (∃ kvs : List (Key × V), t = 0 ∧ Rd H a (.dK kvs) ∧ ks = kvs.map (fun p => keyD p.1) ∧ vs = kvs.map (·.2)) ∨
  (∃ kvs : List (List Key × V), t = 1 ∧ Rd H a (.dT kvs) ∧ ks = kvs.map (fun p => D.tup (p.1.map keyD)) ∧ vs = kvs.map (·.2)) ∨
  (t = 2 ∧ ks = [] ∧ ∃ o : Obj, o.dict = none ∧ H a = some (.frz o (.tup vs)))
mutual
/-- a value bears plain data; no object of it is blocked -/
def rep (G : Gx) (B : Addr → Prop) (H : Hp) : D → V → Prop
  | .non, v => v = .non
  | .bl b, v => v = .bl b
  | .int i, v => v = .int i
  | .str s, v => v = .str s
  | .tup l, v => ∃ a vs, v = .ref a ∧ TupAt G B H a vs ∧ reps G B H l vs
  | .lst l, v => ∃ a vs, v = .ref a ∧ Rd H a (.lst vs) ∧ ¬ B a ∧ reps G B H l vs
  | .dct t ks l, v => ∃ a vs, v = .ref a ∧ DctAt H a t ks vs ∧ ¬ B a ∧ reps G B H l vs
  | .ins c, v => ∃ a C dx, v = .ref a ∧ G.mg c = some (.ref C) ∧ H a = some (.ins C dx []) ∧ ¬ B a
  | .adr a, v => v = .ref a
  | .exc c, v => ∃ a C, v = .ref a ∧ G.mg c = some (.ref C) ∧ H a = some (excO a (.ref C) none) ∧ ¬ B a
def reps (G : Gx) (B : Addr → Prop) (H : Hp) : List D → List V → Prop
  | [], vs => vs = []
  | d :: l, vs => ∃ v r, vs = v :: r ∧ rep G B H d v ∧ reps G B H l r
end
/-- the top may be blocked -/
def repT (G : Gx) (B : Addr → Prop) (H : Hp) (d : D) (v : V) : Prop := match d with
  | .lst l => ∃ a vs, v = .ref a ∧ Rd H a (.lst vs) ∧ reps G B H l vs
  | .dct t ks l => ∃ a vs, v = .ref a ∧ DctAt H a t ks vs ∧ reps G B H l vs
  | d => rep G B H d v
/-- a list, a dict of one's own, to be written -/
def DctOw (H : Hp) (a : Addr) (t : Nat) (ks : List D) (vs : List V) : Prop :=
  (∃ kvs : List (Key × V), t = 0 ∧ H a = some (.dK kvs) ∧ ks = kvs.map (fun p => keyD p.1) ∧ vs = kvs.map (·.2)) ∨
  ∃ kvs : List (List Key × V), t = 1 ∧ H a = some (.dT kvs) ∧ ks = kvs.map (fun p => D.tup (p.1.map keyD)) ∧ vs = kvs.map (·.2)
def ownR (G : Gx) (B : Addr → Prop) (H : Hp) (a : Addr) : D → Prop
  | .lst l => ∃ vs, H a = some (.lst vs) ∧ reps G B H l vs
  | .dct t ks l => ∃ vs, DctOw H a t ks vs ∧ reps G B H l vs
  | _ => False

def Keep (B : Addr → Prop) (H H' : Hp) : Prop := ∀ a o, H a = some o → ¬ B a → (∀ ps, o ≠ .tbl ps) → H' a = some o
theorem Keep.of {G : Gx} {B : Addr → Prop} {H H' : Hp} (s : Same G H H') : Keep B H H' := fun a o h _ n => s.ext a o h n
theorem Rd.keep {B : Addr → Prop} {H H' : Hp} {a : Addr} {u : HO} (k : Keep B H H') (h : Rd H a u) (nb : ¬ B a) (nt : ∀ ps, u ≠ .tbl ps := by intro ps z; cases z) : Rd H' a u := by
  rcases h with h | ⟨o, h⟩
  · exact .inl (k a _ h nb nt)
  · exact .inr ⟨o, k a _ h nb fun ps z => by cases z⟩
theorem Rd.there {H : Hp} {a : Addr} {u : HO} (h : Rd H a u) : ∃ o, H a = some o := by
  rcases h with h | ⟨o, h⟩ <;> exact ⟨_, h⟩
theorem TupAt.keep {G : Gx} {B B' : Addr → Prop} {H H' : Hp} {a : Addr} {vs : List V} (k : Keep B H H') (b : ∀ a o, H a = some o → B' a → B a) (h : TupAt G B H a vs) : TupAt G B' H' a vs := by
  exact ⟨k a _ h.1 h.2 fun ps z => (by cases z), fun z => h.2 (b a _ h.1 z)⟩
theorem DctAt.keep {B : Addr → Prop} {H H' : Hp} {a : Addr} {t : Nat} {ks : List D} {vs : List V} (k : Keep B H H') (nb : ¬ B a) (h : DctAt H a t ks vs) : DctAt H' a t ks vs := by
  rcases h with ⟨kvs, t0, h, r⟩ | ⟨kvs, t0, h, r⟩ | ⟨t0, r, o, od, h⟩
  · exact .inl ⟨kvs, t0, Rd.keep k h nb, r⟩
  · exact .inr (.inl ⟨kvs, t0, Rd.keep k h nb, r⟩)
  · exact .inr (.inr ⟨t0, r, o, od, k a _ h nb fun ps z => by cases z⟩)
theorem DctAt.there {H : Hp} {a : Addr} {t : Nat} {ks : List D} {vs : List V} (h : DctAt H a t ks vs) : ∃ o, H a = some o := by
  rcases h with ⟨kvs, _, h, r⟩ | ⟨kvs, _, h, r⟩ | ⟨_, _, o, _, h⟩
  · exact Rd.there h
  · exact Rd.there h
  · exact ⟨_, h⟩
mutual
/-- what bears data goes on to bear it -/
theorem rep_keep {G : Gx} {B B' : Addr → Prop} {H H' : Hp} (k : Keep B H H') (b : ∀ a o, H a = some o → B' a → B a) : ∀ {d : D} {v : V}, rep G B H d v → rep G B' H' d v
  | .non, v, h => h
  | .bl _, v, h => h
  | .int _, v, h => h
  | .str _, v, h => h
  | .tup l, v, h => by
    obtain ⟨a, vs, e, t, r⟩ := h
    exact ⟨a, vs, e, t.keep k b, reps_keep k b r⟩
  | .lst l, v, h => by
    obtain ⟨a, vs, e, t, nb, r⟩ := h
    obtain ⟨o, eo⟩ := Rd.there t
    exact ⟨a, vs, e, Rd.keep k t nb, fun z => nb (b a o eo z), reps_keep k b r⟩
  | .dct t ks l, v, h => by
    obtain ⟨a, vs, e, t, nb, r⟩ := h
    obtain ⟨o, eo⟩ := t.there
    exact ⟨a, vs, e, t.keep k nb, fun z => nb (b a o eo z), reps_keep k b r⟩
  | .ins c, v, h => by
    obtain ⟨a, C, dx, e, m, t, nb⟩ := h
    exact ⟨a, C, dx, e, m, k a _ t nb fun ps z => (by cases z), fun z => nb (b a _ t z)⟩
  | .adr _, v, h => h
  | .exc c, v, h => by
    obtain ⟨a, C, e, m, t, nb⟩ := h
    exact ⟨a, C, e, m, k a _ t nb fun ps z => (by cases z), fun z => nb (b a _ t z)⟩
theorem reps_keep {G : Gx} {B B' : Addr → Prop} {H H' : Hp} (k : Keep B H H') (b : ∀ a o, H a = some o → B' a → B a) : ∀ {l : List D} {vs : List V}, reps G B H l vs → reps G B' H' l vs
  | [], vs, h => h
  | d :: l, vs, h => by
    obtain ⟨v, r, e, h1, h2⟩ := h
    exact ⟨v, r, e, rep_keep k b h1, reps_keep k b h2⟩
end
theorem rep_same {G : Gx} {B : Addr → Prop} {H H' : Hp} (s : Same G H H') {d : D} {v : V} (h : rep G B H d v) : rep G B H' d v := rep_keep (Keep.of s) (fun _ _ _ z => z) h
theorem reps_same {G : Gx} {B : Addr → Prop} {H H' : Hp} (s : Same G H H') {l : List D} {vs : List V} (h : reps G B H l vs) : reps G B H' l vs := reps_keep (Keep.of s) (fun _ _ _ z => z) h
theorem rep_anti {G : Gx} {B B' : Addr → Prop} {H : Hp} (b : ∀ a, B' a → B a) {d : D} {v : V} (h : rep G B H d v) : rep G B' H d v := rep_keep (fun _ _ h _ _ => h) (fun a _ _ => b a) h
theorem reps_anti {G : Gx} {B B' : Addr → Prop} {H : Hp} (b : ∀ a, B' a → B a) {l : List D} {vs : List V} (h : reps G B H l vs) : reps G B' H l vs := reps_keep (fun _ _ h _ _ => h) (fun a _ _ => b a) h
theorem reps_len {G : Gx} {B : Addr → Prop} {H : Hp} : ∀ {l : List D} {vs : List V}, reps G B H l vs → vs.length = l.length
  | [], vs, h => by
    have e : vs = [] := h
    rw [e] <;> rfl
  | d :: l, vs, h => by
    obtain ⟨v, r, e, h1, h2⟩ := h
    rw [e, List.length_cons, List.length_cons, reps_len h2]
theorem reps_get {G : Gx} {B : Addr → Prop} {H : Hp} : ∀ {l : List D} {vs : List V} {i : Nat} {d : D}, reps G B H l vs → l[i]? = some d → ∃ v, vs[i]? = some v ∧ rep G B H d v
  | [], _, i, _, _, e => by simp at e
  | d :: l, vs, i, x, h, e => by
    obtain ⟨v, r, rfl, h1, h2⟩ := h
    cases i with
    | zero =>
      simp at e
      subst e
      exact ⟨v, rfl, h1⟩
    | succ i =>
      obtain ⟨u, e1, e2⟩ := reps_get h2 (i := i) (by simpa using e)
      exact ⟨u, by simpa using e1, e2⟩
theorem reps_getV {G : Gx} {B : Addr → Prop} {H : Hp} : ∀ {l : List D} {vs : List V} {i : Nat} {v : V}, reps G B H l vs → vs[i]? = some v → ∃ d, l[i]? = some d ∧ rep G B H d v
  | [], vs, i, _, h, e => by
    have e' : vs = [] := h
    subst e'
    simp at e
  | d :: l, vs, i, x, h, e => by
    obtain ⟨v, r, rfl, h1, h2⟩ := h
    cases i with
    | zero =>
      simp at e
      subst e
      exact ⟨d, rfl, h1⟩
    | succ i =>
      obtain ⟨u, e1, e2⟩ := reps_getV h2 (i := i) (by simpa using e)
      exact ⟨u, by simpa using e1, e2⟩
theorem reps_app {G : Gx} {B : Addr → Prop} {H : Hp} : ∀ {l m : List D} {vs ws : List V}, reps G B H l vs → reps G B H m ws → reps G B H (l ++ m) (vs ++ ws)
  | [], m, vs, ws, h, h' => by
    have e : vs = [] := h
    subst e
    exact h'
  | d :: l, m, vs, ws, h, h' => by
    obtain ⟨v, r, rfl, h1, h2⟩ := h
    exact ⟨v, r ++ ws, rfl, h1, reps_app h2 h'⟩
theorem reps_take {G : Gx} {B : Addr → Prop} {H : Hp} : ∀ {l : List D} {vs : List V} (n : Nat), reps G B H l vs → reps G B H (l.take n) (vs.take n)
  | _, _, 0, _ => by
    rw [List.take_zero, List.take_zero]
    exact rfl
  | [], vs, n + 1, h => by
    have e : vs = [] := h
    subst e
    exact rfl
  | d :: l, vs, n + 1, h => by
    obtain ⟨v, r, rfl, h1, h2⟩ := h
    exact ⟨v, r.take n, rfl, h1, reps_take n h2⟩
theorem reps_drop {G : Gx} {B : Addr → Prop} {H : Hp} : ∀ {l : List D} {vs : List V} (n : Nat), reps G B H l vs → reps G B H (l.drop n) (vs.drop n)
  | _, _, 0, h => h
  | [], vs, n + 1, h => by
    have e : vs = [] := h
    subst e
    exact rfl
  | d :: l, vs, n + 1, h => by
    obtain ⟨v, r, rfl, h1, h2⟩ := h
    exact reps_drop n h2
theorem reps_rev {G : Gx} {B : Addr → Prop} {H : Hp} : ∀ {l : List D} {vs : List V}, reps G B H l vs → reps G B H l.reverse vs.reverse
  | [], vs, h => by
    have e : vs = [] := h
    subst e
    exact rfl
  | d :: l, vs, h => by
    obtain ⟨v, r, rfl, h1, h2⟩ := h
    rw [List.reverse_cons, List.reverse_cons]
    exact reps_app (reps_rev h2) ⟨v, [], rfl, h1, rfl⟩
theorem reps_set {G : Gx} {B : Addr → Prop} {H : Hp} {d : D} {v : V} (h : rep G B H d v) : ∀ {l : List D} {vs : List V} (j : Nat), reps G B H l vs → reps G B H (l.set j d) (vs.set j v)
  | [], vs, j, h => by
    have e : vs = [] := h
    subst e
    exact rfl
  | x :: l, vs, 0, q => by
    obtain ⟨u, r, rfl, h1, h2⟩ := q
    exact ⟨v, r, rfl, h, h2⟩
  | x :: l, vs, j + 1, q => by
    obtain ⟨u, r, rfl, h1, h2⟩ := q
    exact ⟨u, _, rfl, h1, reps_set h j h2⟩
theorem reps_flat {G : Gx} {B : Addr → Prop} {H : Hp} {l : List D} {vs : List V} (h : reps G B H l vs) : ∀ n : Nat, reps G B H (List.replicate n l).flatten (List.replicate n vs).flatten
  | 0 => rfl
  | n + 1 => by
    rw [List.replicate_succ, List.replicate_succ, List.flatten_cons, List.flatten_cons]
    exact reps_app h (reps_flat h n)
theorem reps_map {G : Gx} {B : Addr → Prop} {H : Hp} {α : Type} {f : α → D} {g : α → V} (h : ∀ x, rep G B H (f x) (g x)) : ∀ l : List α, reps G B H (l.map f) (l.map g)
  | [] => rfl
  | x :: l => ⟨g x, l.map g, rfl, h x, reps_map h l⟩
theorem reps_ints {G : Gx} {B : Addr → Prop} {H : Hp} : ∀ {l : List D} {vs : List V} {ns : List Int}, reps G B H l vs → intsD l = some ns → vs = ns.map V.int
  | [], vs, ns, h, e => by
    have e' : vs = [] := h
    have e2 : ns = [] := (Option.some.inj e).symm
    subst e' e2
    rfl
  | d :: l, vs, ns, h, e => by
    obtain ⟨v, r, rfl, h1, h2⟩ := h
    cases d with
    | int i =>
      have e3 : ((intsD l).map fun r => i :: r) = some ns := e
      cases q : intsD l with
      | none =>
        rw [q] at e3
        cases e3
      | some ms =>
        rw [q] at e3
        have e4 : i :: ms = ns := Option.some.inj e3
        subst e4
        have h1' : v = .int i := h1
        rw [h1', reps_ints h2 q]
        rfl
    | _ => cases e
theorem reps_bools {G : Gx} {B : Addr → Prop} {H : Hp} : ∀ {l : List D} {vs : List V} {ns : List Bool}, reps G B H l vs → bools l = some ns → vs = ns.map V.bl
  | [], vs, ns, h, e => by
    have e' : vs = [] := h
    have e2 : ns = [] := (Option.some.inj e).symm
    subst e' e2
    rfl
  | d :: l, vs, ns, h, e => by
    obtain ⟨v, r, rfl, h1, h2⟩ := h
    cases d with
    | bl i =>
      have e3 : ((bools l).map fun r => i :: r) = some ns := e
      cases q : bools l with
      | none =>
        rw [q] at e3
        cases e3
      | some ms =>
        rw [q] at e3
        have e4 : i :: ms = ns := Option.some.inj e3
        subst e4
        have h1' : v = .bl i := h1
        rw [h1', reps_bools h2 q]
        rfl
    | _ => cases e
theorem rep_T {G : Gx} {B : Addr → Prop} {H : Hp} {d : D} {v : V} (h : rep G B H d v) : repT G B H d v := by
  cases d with
  | lst l =>
    obtain ⟨a, vs, e, t, nb, r⟩ := h
    exact ⟨a, vs, e, t, r⟩
  | dct t ks l =>
    obtain ⟨a, vs, e, t, nb, r⟩ := h
    exact ⟨a, vs, e, t, r⟩
  | _ => exact h
theorem repT_keep {G : Gx} {B : Addr → Prop} {H H' : Hp} (s : Same G H H') {d : D} {v : V} (h : repT G B H d v) : repT G B H' d v := by
  have k0 : Keep (fun _ => False) H H' := Keep.of s
  cases d with
  | lst l =>
    obtain ⟨a, vs, e, t, r⟩ := h
    exact ⟨a, vs, e, Rd.keep k0 t (fun z => z), reps_same s r⟩
  | dct t ks l =>
    obtain ⟨a, vs, e, t, r⟩ := h
    exact ⟨a, vs, e, t.keep k0 (fun z => z), reps_same s r⟩
  | non => exact h
  | bl _ => exact h
  | int _ => exact h
  | str _ => exact h
  | tup l => exact rep_same (d := .tup l) s h
  | ins c => exact rep_same (d := .ins c) s h
  | adr _ => exact h
  | exc c => exact rep_same (d := .exc c) s h
theorem TupAt.sq {G : Gx} {B : Addr → Prop} {H : Hp} {a : Addr} {vs : List V} (h : TupAt G B H a vs) : SqT G.K H a vs := .inl (.inl h.1)
theorem Rd.sq {K : PySem.W.Frag} {H : Hp} {a : Addr} {vs : List V} (h : Rd H a (.lst vs)) : SqL K H a vs := .inl h
mutual
theorem rep_dp {G : Gx} {B : Addr → Prop} {H : Hp} : ∀ {d : D} {v : V}, d.flat = true → rep G B H d v → Dp G.K H v d.py
  | .non, v, _, h => by
    have e : v = .non := h
    subst e
    exact .non
  | .bl b, v, _, h => by
    have e : v = .bl b := h
    subst e
    exact .bl b
  | .int i, v, _, h => by
    have e : v = .int i := h
    subst e
    exact .int i
  | .str x, v, _, h => by
    have e : v = .str x := h
    subst e
    exact .str x
  | .tup l, v, f, h => by
    obtain ⟨a, vs, rfl, t, r⟩ := h
    exact .tup t.sq (reps_dp f r)
  | .lst l, v, f, h => by
    obtain ⟨a, vs, rfl, t, nb, r⟩ := h
    exact .lst (Rd.sq t) (reps_dp f r)
  | .dct _ _ _, v, f, _ => by cases f
  | .ins _, v, f, _ => by cases f
  | .adr _, v, f, _ => by cases f
  | .exc _, v, f, _ => by cases f
theorem reps_dp {G : Gx} {B : Addr → Prop} {H : Hp} : ∀ {l : List D} {vs : List V}, flatL l = true → reps G B H l vs → DpAll G.K H vs (pyL l)
  | [], vs, _, h => by
    have e : vs = [] := h
    subst e
    exact .nil
  | d :: l, vs, f, h => by
    obtain ⟨v, r, rfl, h1, h2⟩ := h
    have f' : (d.flat && flatL l) = true := f
    rw [Bool.and_eq_true] at f'
    exact .cons (rep_dp f'.1 h1) (reps_dp f'.2 h2)
end
theorem repT_dp {G : Gx} {B : Addr → Prop} {H : Hp} {d : D} {v : V} (f : d.flat = true) (h : repT G B H d v) : Dp G.K H v d.py := by
  cases d with
  | lst l =>
    obtain ⟨a, vs, rfl, t, r⟩ := h
    exact .lst (Rd.sq t) (reps_dp f r)
  | dct t ks l => cases f
  | non => exact rep_dp (B := B) (d := .non) f h
  | bl b => exact rep_dp (B := B) (d := .bl b) f h
  | int i => exact rep_dp (B := B) (d := .int i) f h
  | str x => exact rep_dp (B := B) (d := .str x) f h
  | tup l => exact rep_dp (B := B) (d := .tup l) f h
  | ins c => cases f
  | adr _ => cases f
  | exc _ => cases f
mutual
theorem dep_py : ∀ d : D, d.flat = true → d.py.depth = d.dep
  | .non, _ => rfl
  | .bl _, _ => rfl
  | .int _, _ => rfl
  | .str _, _ => rfl
  | .tup l, f => by
    show PyData.depth (.tuple (pyL l)) = depL l + 1
    rw [PyData.depth, depL_py l f]
  | .lst l, f => by
    show PyData.depth (.list (pyL l)) = depL l + 1
    rw [PyData.depth, depL_py l f]
  | .dct _ _ _, f => by cases f
  | .ins _, f => by cases f
  | .adr _, f => by cases f
  | .exc _, f => by cases f
theorem depL_py : ∀ l : List D, flatL l = true → PyData.depthAll (pyL l) = depL l
  | [], _ => by
    show PyData.depthAll [] = 0
    rw [PyData.depthAll]
  | d :: l, f => by
    have f' : (d.flat && flatL l) = true := f
    rw [Bool.and_eq_true] at f'
    show PyData.depthAll (d.py :: pyL l) = max d.dep (depL l)
    rw [PyData.depthAll, dep_py d f'.1, depL_py l f'.2]
end
mutual
theorem lay_py : ∀ d : D, d.flat = true → d.py.canLay0 = true
  | .non, _ => by simp [D.py, PyData.canLay0]
  | .bl _, _ => by simp [D.py, PyData.canLay0]
  | .int _, _ => by simp [D.py, PyData.canLay0]
  | .str x, f => by
    show PyData.canLay0 (.str x) = true
    rw [PyData.canLay0]
    exact f
  | .tup l, f => by
    show PyData.canLay0 (.tuple (pyL l)) = true
    rw [PyData.canLay0]
    exact layL_py l f
  | .lst l, f => by
    show PyData.canLay0 (.list (pyL l)) = true
    rw [PyData.canLay0]
    exact layL_py l f
  | .dct _ _ _, f => by cases f
  | .ins _, f => by cases f
  | .adr _, f => by cases f
  | .exc _, f => by cases f
theorem layL_py : ∀ l : List D, flatL l = true → PyData.canLayAll0 (pyL l) = true
  | [], _ => by
    show PyData.canLayAll0 [] = true
    rw [PyData.canLayAll0]
  | d :: l, f => by
    have f' : (d.flat && flatL l) = true := f
    rw [Bool.and_eq_true] at f'
    show PyData.canLayAll0 (d.py :: pyL l) = true
    rw [PyData.canLayAll0, lay_py d f'.1, layL_py l f'.2]
    rfl
end

/-! ### the slots -/
def Own (ρ : Sl) (σ : St) (a : Addr) : Prop := ∃ (i : Nat) (s : SV) (d : D), ρ[i]? = some (some s) ∧ s.wr = some d ∧ σ[i]? = some (some (V.ref a))
def Blk (B : Addr → Prop) (ρ : Sl) (σ : St) (a : Addr) : Prop := B a ∨ Own ρ σ a
structure RelS (G : Gx) (B : Addr → Prop) (H0 : Hp) (ρ : Sl) (σ : St) (H : Hp) : Prop where
  len : ρ.length = σ.length
  same : Same G H0 H
  tab : Tbs G H
  dom : ∀ a, B a → MutL (H a)
  im : ∀ (i : Nat) (d : D), ρ[i]? = some (some (SV.im d)) → ∃ v, σ[i]? = some (some v) ∧ rep G (Blk B ρ σ) H d v
  own : ∀ (i : Nat) (s : SV) (d : D), ρ[i]? = some (some s) → s.wr = some d → ∃ a, s.at_ a ∧ σ[i]? = some (some (V.ref a)) ∧ (H0 a = none ∧ ¬ B a) ∧ ownR G (Blk B ρ σ) H a d
  inj : ∀ (i j : Nat) (s t : SV) (d e : D) (a : Addr), ρ[i]? = some (some s) → s.wr = some d → ρ[j]? = some (some t) → t.wr = some e → σ[i]? = some (some (V.ref a)) → σ[j]? = some (some (V.ref a)) → i = j
def Dom (B : Addr → Prop) (H : Hp) : Prop := ∀ a, B a → MutL (H a)
theorem mut_some {o : Option HO} (h : MutL o) : ∃ u, o = some u := by
  cases o with
  | none => exact h.elim
  | some u => exact ⟨u, rfl⟩
theorem Dom.new {B : Addr → Prop} {H : Hp} {p : Addr} (d : Dom B H) (n : H p = none) : ¬ B p := fun z => by
  have e := d p z
  rw [n] at e
  exact e
theorem Dom.tup {B : Addr → Prop} {H : Hp} {p : Addr} {vs : List V} (d : Dom B H) (n : H p = some (.tup vs)) : ¬ B p := fun z => by
  have e := d p z
  rw [n] at e
  exact e
theorem MutL.same {G : Gx} {H H' : Hp} {a : Addr} (s : Same G H H') (h : MutL (H a)) : MutL (H' a) := by
  obtain ⟨o, e⟩ := mut_some h
  rw [e] at h
  rw [s.ext a o e h.nt]
  exact h
theorem Dom.same {G : Gx} {B : Addr → Prop} {H H' : Hp} (d : Dom B H) (s : Same G H H') : Dom B H' := fun a z => (d a z).same s
theorem ownR.there {G : Gx} {B : Addr → Prop} {H : Hp} {a : Addr} {d : D} (h : ownR G B H a d) : ∃ o, H a = some o := by
  cases d with
  | lst l =>
    obtain ⟨vs, e, _⟩ := h
    exact ⟨_, e⟩
  | dct t ks l =>
    obtain ⟨vs, ⟨kvs, _, e, _⟩ | ⟨kvs, _, e, _⟩, _⟩ := h <;> exact ⟨_, e⟩
  | _ => exact h.elim
theorem ownR.mut {G : Gx} {B : Addr → Prop} {H : Hp} {a : Addr} {d : D} (h : ownR G B H a d) : MutL (H a) := by
  cases d with
  | lst l =>
    obtain ⟨vs, e, _⟩ := h
    rw [e]
    trivial
  | dct t ks l =>
    obtain ⟨vs, ⟨kvs, _, e, _⟩ | ⟨kvs, _, e, _⟩, _⟩ := h <;> rw [e] <;> trivial
  | _ => exact h.elim
theorem ownR.keep {G : Gx} {B B' : Addr → Prop} {H H' : Hp} {a : Addr} {d : D} (h : ownR G B H a d) (ha : H' a = H a) (k : Keep B H H') (b : ∀ a o, H a = some o → B' a → B a) : ownR G B' H' a d := by
  cases d with
  | lst l =>
    obtain ⟨vs, e, r⟩ := h
    exact ⟨vs, ha.trans e, reps_keep k b r⟩
  | dct t ks l =>
    obtain ⟨vs, ⟨kvs, t0, e, q⟩ | ⟨kvs, t0, e, q⟩, r⟩ := h
    · exact ⟨vs, .inl ⟨kvs, t0, ha.trans e, q⟩, reps_keep k b r⟩
    · exact ⟨vs, .inr ⟨kvs, t0, ha.trans e, q⟩, reps_keep k b r⟩
  | _ => exact h.elim
theorem ownR.at_same {G : Gx} {B : Addr → Prop} {H H' : Hp} {a : Addr} {d : D} (h : ownR G B H a d) (s : Same G H H') : H' a = H a := by
  obtain ⟨o, eo⟩ := h.there
  have m := h.mut
  rw [eo] at m
  exact (s.ext a o eo m.nt).trans eo.symm
theorem DctOw.at_ {H : Hp} {a : Addr} {t : Nat} {ks : List D} {vs : List V} (h : DctOw H a t ks vs) : DctAt H a t ks vs := by
  rcases h with ⟨kvs, t0, e, q⟩ | ⟨kvs, t0, e, q⟩
  · exact .inl ⟨kvs, t0, .inl e, q⟩
  · exact .inr (.inl ⟨kvs, t0, .inl e, q⟩)
theorem ownR.T {G : Gx} {B : Addr → Prop} {H : Hp} {a : Addr} {d : D} (h : ownR G B H a d) : repT G B H d (.ref a) := by
  cases d with
  | lst l =>
    obtain ⟨vs, e, r⟩ := h
    exact ⟨a, vs, rfl, .inl e, r⟩
  | dct t ks l =>
    obtain ⟨vs, q, r⟩ := h
    exact ⟨a, vs, rfl, q.at_, r⟩
  | _ => exact h.elim
section
variable {G : Gx} {B : Addr → Prop} {H0 H H' : Hp} {ρ : Sl} {σ : St}
theorem RelS.bdom (r : RelS G B H0 ρ σ H) : Dom (Blk B ρ σ) H := fun a z => by
  rcases z with z | ⟨i, s, d, e1, w, e2⟩
  · exact r.dom a z
  · obtain ⟨a', _, e3, _, q⟩ := r.own i s d e1 w
    rw [e2] at e3
    cases e3
    exact q.mut
theorem RelS.mono (r : RelS G B H0 ρ σ H) (s : Same G H H') : RelS G B H0 ρ σ H' := by
  refine ⟨r.len, r.same.trans s, r.tab.same s, Dom.same r.dom s, fun i d e => ?_, fun i x d e w => ?_, r.inj⟩
  · obtain ⟨v, e1, q⟩ := r.im i d e
    exact ⟨v, e1, rep_same s q⟩
  · obtain ⟨a, t, e1, n, q⟩ := r.own i x d e w
    exact ⟨a, t, e1, n, q.keep (q.at_same s) (Keep.of s) fun _ _ _ z => z⟩
theorem RelS.getP (r : RelS G B H0 ρ σ H) {i : Nat} {d : D} (e : getP ρ i = .ok d) : ∃ v, σ[i]? = some (some v) ∧ repT G (Blk B ρ σ) H d v := by
  unfold Ir.getP at e
  split at e
  · rename_i d' h
    cases e
    obtain ⟨v, e1, q⟩ := r.im i d h
    exact ⟨v, e1, rep_T q⟩
  · rename_i d' h
    cases e
    obtain ⟨a, _, e1, _, q⟩ := r.own i _ d h rfl
    exact ⟨_, e1, q.T⟩
  · rename_i b d' h
    cases e
    obtain ⟨a, _, e1, _, q⟩ := r.own i _ d h rfl
    exact ⟨_, e1, q.T⟩
  · cases e
theorem RelS.getI (r : RelS G B H0 ρ σ H) {i : Nat} {d : D} (e : getI ρ i = .ok d) : ∃ v, σ[i]? = some (some v) ∧ rep G (Blk B ρ σ) H d v := by
  unfold Ir.getI at e
  split at e
  · rename_i d' h
    cases e
    exact r.im i d h
  · cases e
theorem getI_noexc {ρ : Sl} {i : Nat} {c : Str} {fs : List (Str × D)} (e : getI ρ i = .exc c fs) : False := by
  unfold Ir.getI at e
  split at e <;> cases e
theorem getP_noexc {ρ : Sl} {i : Nat} {c : Str} {fs : List (Str × D)} (e : getP ρ i = .exc c fs) : False := by
  unfold Ir.getP at e
  split at e <;> cases e
theorem getOwn_of {ρ : Sl} {i : Nat} {d : D} (e : getOwn ρ i = .ok d) : ρ[i]? = some (some (.own d)) := by
  unfold Ir.getOwn at e
  split at e
  · rename_i d' h
    cases e
    exact h
  · cases e
theorem getOwn_noexc {ρ : Sl} {i : Nat} {c : Str} {fs : List (Str × D)} (e : getOwn ρ i = .exc c fs) : False := by
  unfold Ir.getOwn at e
  split at e <;> cases e
theorem getW_of {ρ : Sl} {i : Nat} {d : D} (e : getW ρ i = .ok d) : ∃ s, ρ[i]? = some (some s) ∧ s.wr = some d := by
  unfold Ir.getW at e
  split at e
  · rename_i d' h
    cases e
    exact ⟨_, h, rfl⟩
  · rename_i a d' h
    cases e
    exact ⟨_, h, rfl⟩
  · cases e
theorem getW_noexc {ρ : Sl} {i : Nat} {c : Str} {fs : List (Str × D)} (e : getW ρ i = .exc c fs) : False := by
  unfold Ir.getW at e
  split at e <;> cases e
/-- fewer of one's own, the same else -/
theorem set_get {α : Type} {l : List α} {i j : Nat} {x y : α} (h : (l.set i x)[j]? = some y) : (i = j ∧ y = x) ∨ (i ≠ j ∧ l[j]? = some y) := by
  by_cases e : i = j
  · subst e
    rw [List.getElem?_set_self'] at h
    cases q : l[i]? with
    | none =>
      rw [q] at h
      cases h
    | some z =>
      rw [q] at h
      exact .inl ⟨rfl, (Option.some.inj h).symm⟩
  · rw [List.getElem?_set_ne e] at h
    exact .inr ⟨e, h⟩
theorem no_im {s : SV} {d e : D} (q : some s = some (SV.im d)) (w : s.wr = some e) : False := by
  cases q
  cases w
/-- name = plain data -/
theorem RelS.putI (r : RelS G B H0 ρ σ H) {i : Nat} {d : D} {v : V} (hi : i < ρ.length) (h : rep G (Blk B ρ σ) H d v) : RelS G B H0 (putI ρ i d) (σ.set i (some v)) H := by
  have hs : i < σ.length := by rw [← r.len]; exact hi
  have hb : ∀ a, Blk B (Ir.putI ρ i d) (σ.set i (some v)) a → Blk B ρ σ a := fun a z => by
    rcases z with z | ⟨j, s, e, e1, w, e2⟩
    · exact .inl z
    · refine .inr ⟨j, s, e, ?_, w, ?_⟩
      · rcases set_get e1 with ⟨_, q⟩ | ⟨_, q⟩
        · exact (no_im q w).elim
        · exact q
      · rcases set_get e1 with ⟨_, q⟩ | ⟨ne, _⟩
        · exact (no_im q w).elim
        · rw [List.getElem?_set_ne ne] at e2
          exact e2
  refine ⟨by unfold Ir.putI; rw [List.length_set, List.length_set, r.len], r.same, r.tab, r.dom, fun j e h1 => ?_, fun j s e h1 w => ?_, fun j k s t e e' a h1 w h2 w' h3 h4 => ?_⟩
  · rcases set_get h1 with ⟨rfl, q⟩ | ⟨ne, q⟩
    · cases q
      exact ⟨v, by rw [List.getElem?_set_self hs], rep_anti hb h⟩
    · obtain ⟨u, e1, q1⟩ := r.im j e q
      exact ⟨u, by rw [List.getElem?_set_ne ne]; exact e1, rep_anti hb q1⟩
  · rcases set_get h1 with ⟨rfl, q⟩ | ⟨ne, q⟩
    · exact (no_im q w).elim
    · obtain ⟨a, t, e1, n, q1⟩ := r.own j s e q w
      exact ⟨a, t, by rw [List.getElem?_set_ne ne]; exact e1, n, q1.keep rfl (fun _ _ h _ _ => h) fun a _ _ => hb a⟩
  · rcases set_get h1 with ⟨_, q⟩ | ⟨ne, q⟩
    · exact (no_im q w).elim
    · rcases set_get h2 with ⟨_, q'⟩ | ⟨ne', q'⟩
      · exact (no_im q' w').elim
      · rw [List.getElem?_set_ne ne] at h3
        rw [List.getElem?_set_ne ne'] at h4
        exact r.inj j k s t e e' a q w q' w' h3 h4
/-- name = a new list, a new dict, to be written -/
theorem RelS.putN (r : RelS G B H0 ρ σ H) {i : Nat} {d : D} {p : Addr} (hi : i < ρ.length) (s : Same G H H') (n : H p = none) (h : ownR G (fun a => a = p ∨ Blk B ρ σ a) H' p d) : RelS G B H0 (putO ρ i d) (σ.set i (some (.ref p))) H' := by
  have hs : i < σ.length := by rw [← r.len]; exact hi
  have hb : ∀ a, Blk B (putO ρ i d) (σ.set i (some (.ref p))) a → a = p ∨ Blk B ρ σ a := fun a z => by
    rcases z with z | ⟨j, x, e, e1, w, e2⟩
    · exact .inr (.inl z)
    · rcases set_get e1 with ⟨rfl, q⟩ | ⟨ne, q⟩
      · rw [List.getElem?_set_self hs] at e2
        cases e2
        exact .inl rfl
      · rw [List.getElem?_set_ne ne] at e2
        exact .inr (.inr ⟨j, x, e, q, w, e2⟩)
  have hk : ∀ a o, H a = some o → Blk B (putO ρ i d) (σ.set i (some (.ref p))) a → Blk B ρ σ a := fun a o e z => by
    rcases hb a z with rfl | z
    · rw [n] at e
      cases e
    · exact z
  have n0 : H0 p = none := r.same.free n
  refine ⟨by unfold putO; rw [List.length_set, List.length_set, r.len], r.same.trans s, r.tab.same s, Dom.same r.dom s, fun j e h1 => ?_, fun j x e h1 w => ?_, fun j k x y e e' a h1 w h2 w' h3 h4 => ?_⟩
  · rcases set_get h1 with ⟨rfl, q⟩ | ⟨ne, q⟩
    · cases q
    · obtain ⟨u, e1, q1⟩ := r.im j e q
      exact ⟨u, by rw [List.getElem?_set_ne ne]; exact e1, rep_keep (Keep.of s) hk q1⟩
  · rcases set_get h1 with ⟨rfl, q⟩ | ⟨ne, q⟩
    · cases q
      cases w
      refine ⟨p, trivial, by rw [List.getElem?_set_self hs], ⟨n0, Dom.new r.dom n⟩, ?_⟩
      exact h.keep rfl (fun _ _ h _ _ => h) fun a _ _ => hb a
    · obtain ⟨a, t, e1, m, q1⟩ := r.own j x e q w
      exact ⟨a, t, by rw [List.getElem?_set_ne ne]; exact e1, m, q1.keep (q1.at_same s) (Keep.of s) hk⟩
  · rcases set_get h1 with ⟨rfl, q⟩ | ⟨ne, q⟩
    · rcases set_get h2 with ⟨rfl, q'⟩ | ⟨ne', q'⟩
      · rfl
      · rw [List.getElem?_set_self hs] at h3
        cases h3
        rw [List.getElem?_set_ne ne'] at h4
        obtain ⟨a, _, e1, m, q1⟩ := r.own k y e' q' w'
        rw [h4] at e1
        cases e1
        obtain ⟨o, eo⟩ := q1.there
        rw [n] at eo
        cases eo
    · rcases set_get h2 with ⟨rfl, q'⟩ | ⟨ne', q'⟩
      · rw [List.getElem?_set_self hs] at h4
        cases h4
        rw [List.getElem?_set_ne ne] at h3
        obtain ⟨a, _, e1, m, q1⟩ := r.own j x e q w
        rw [h3] at e1
        cases e1
        obtain ⟨o, eo⟩ := q1.there
        rw [n] at eo
        cases eo
      · rw [List.getElem?_set_ne ne] at h3
        rw [List.getElem?_set_ne ne'] at h4
        exact r.inj j k x y e e' a q w q' w' h3 h4
end
end Ir

/-! Ir2: the operators of plain data are those of the machine. -/
namespace L2
open PySem PySem.Spec PyProof.Rows
theorem irx_mulS (l : Addr) (items : Array Value) (n : Nat) (dd : Option Addr) (sl : Array (Option Value)) (x : Int) (u : Tok) (d0 : (decide (x < -(2 ^ 63)) || decide (x ≥ 2 ^ 63)) = false) (d1 : (items.isEmpty || x == 1) = true) :
    Meets (Builtin.«tuple.__mul__» ⟨[.ref l, .int x u], []⟩) (fun _ R s => s.heap.get? l = some { cls := .type "tuple", dict := dd, data := .seq items n, slots := sl } ∧ R (.ok (.ret (.ref l))) s) :=
  .of_wp fun prog w A R s h => by
    obtain ⟨hp, g, d, tk, os⟩ := s
    obtain ⟨hl, h⟩ := h
    have f1 := AutoSeq1.idx_int
    wp_walk using wpAny_loadPart' hl
    repeat (first
      | (refine wpAny_ite_false (decide_eq_false (by rw [d0]; exact Bool.false_ne_true)) ?_; wp_walk using wpAny_loadPart' hl)
      | (refine wpAny_ite_true (decide_eq_true (by rw [d1])) ?_; wp_walk using wpAny_loadPart' hl))
    exact ⟨_, rfl, h⟩
theorem irx_mul0 (l : Addr) (items : Array Value) (n : Nat) (dd : Option Addr) (sl : Array (Option Value)) (x : Int) (u : Tok) (d0 : (decide (x < -(2 ^ 63)) || decide (x ≥ 2 ^ 63)) = false) (d1 : (items.isEmpty || x == 1) = false) (d2 : (decide (x ≤ 0) || items.isEmpty) = true) :
    Meets (Builtin.«tuple.__mul__» ⟨[.ref l, .int x u], []⟩) (fun _ R s => s.heap.get? l = some { cls := .type "tuple", dict := dd, data := .seq items n, slots := sl } ∧ R (.ok (.ret (Value.ref s.heap.objs.size))) { s with heap := s.heap.push { cls := Value.type "tuple", data := Data.seq #[] }, toks := s.toks }) :=
  .of_wp fun prog w A R s h => by
    obtain ⟨hp, g, d, tk, os⟩ := s
    obtain ⟨hl, h⟩ := h
    have f1 := AutoSeq1.idx_int
    wp_walk using wpAny_loadPart' hl
    repeat (first
      | (refine wpAny_ite_false (decide_eq_false (by rw [d0]; exact Bool.false_ne_true)) ?_; wp_walk using wpAny_loadPart' hl)
      | (refine wpAny_ite_false (decide_eq_false (by rw [d1]; exact Bool.false_ne_true)) ?_; wp_walk using wpAny_loadPart' hl)
      | (refine wpAny_ite_true (decide_eq_true (by rw [d2])) ?_; wp_walk using wpAny_loadPart' hl))
    exact ⟨_, rfl, h⟩
/-- a tuple of nothing, or once: itself; nought times: a new one of nothing -/
def rRepU (K : PySem.W.Frag) : R2 := fun x y H Q => ∃ l k xs, x = .ref l ∧ y = .int k ∧ SqT K H l xs ∧ -1000 ≤ k ∧ k ≤ 1000 ∧ ((xs = [] ∨ k = 1) ∧ Q (.ref l) H ∨ xs ≠ [] ∧ k ≤ 0 ∧ ∀ p, H p = none → Q (.ref p) (upd H p (.tup [])))
theorem op_repU {X : Cx} : OpR X (binaryOp .Mult) (rRepU X.K) := by
  intro pins s σ H x y v u Q I rx ry h
  obtain ⟨l, k, xs, rfl, rfl, hT, h1, h2, h3⟩ := h
  cases rx
  obtain ⟨t, rfl⟩ := ry
  obtain ⟨its, r, ⟨⟨cls, dd, data, sl⟩, ho, hc, n, hd⟩, hs⟩ := I.tuple hT
  simp only at hc hd
  subst hc hd
  have hle : its.length = xs.length := r.length.symm
  have d0 : (decide (k < -(2 ^ 63)) || decide (k ≥ 2 ^ 63)) = false := by
    rw [decide_eq_false (by omega), decide_eq_false (by omega)] <;> rfl
  rcases h3 with ⟨h3, q⟩ | ⟨h3, h4, q⟩
  · have d1 : (its.toArray.isEmpty || k == 1) = true := by
      rcases h3 with rfl | rfl
      · rw [List.eq_nil_of_length_eq_zero hle] <;> rfl
      · rw [Bool.or_eq_true]
        exact .inr rfl
    refine wpAny_binaryOp_repeat_ref (T := "tuple") (U := "int") (by decide) ⟨_, ho, rfl⟩ (fun s' => typeIs_int s' k t) noFill_tuple_mul F.fills_int_mul F.slot_int_rmul repeat_tuple F.slot_int_index.lookup
      (call_meets F.slot_int_rmul (typeIs_int s k t) F.entry_int_rmul (F.args_int_rmul_2 _ _) (int_rmul_tuple k t l its.toArray n dd sl)
        ⟨ho, rfl, ⟨_, ho, rfl⟩, call_meets F.slot_tuple_mul ⟨_, ho, rfl⟩ F.entry_tuple_mul (F.args_tuple_mul_2 _ _) (irx_mulS l its.toArray n dd sl k t d0 d1) ⟨ho, ?_⟩⟩)
    exact ⟨.ref l, _, I, rfl, q⟩
  · have hn : its ≠ [] := fun e => h3 (by
      rw [e] at hle
      exact List.eq_nil_of_length_eq_zero hle.symm)
    have hi : its.toArray.isEmpty = false := by
      cases its with
      | nil => exact absurd rfl hn
      | cons a b => rfl
    have d1 : (its.toArray.isEmpty || k == 1) = false := by
      rw [hi, Bool.false_or]
      exact beq_eq_false_iff_ne.mpr (by omega)
    have d2 : (decide (k ≤ 0) || its.toArray.isEmpty) = true := by
      rw [decide_eq_true h4] <;> rfl
    refine wpAny_binaryOp_repeat_ref (T := "tuple") (U := "int") (by decide) ⟨_, ho, rfl⟩ (fun s' => typeIs_int s' k t) noFill_tuple_mul F.fills_int_mul F.slot_int_rmul repeat_tuple F.slot_int_index.lookup
      (call_meets F.slot_int_rmul (typeIs_int s k t) F.entry_int_rmul (F.args_int_rmul_2 _ _) (int_rmul_tuple k t l its.toArray n dd sl)
        ⟨ho, rfl, ⟨_, ho, rfl⟩, call_meets F.slot_tuple_mul ⟨_, ho, rfl⟩ F.entry_tuple_mul (F.args_tuple_mul_2 _ _) (irx_mul0 l its.toArray n dd sl k t d0 d1 d2) ⟨ho, ?_⟩⟩)
    refine ⟨.ref s.heap.objs.size, _, I.laid (t' := s.toks) (o := .tup []) (fun b ob q => Heap.get?_push_of_some _ q) (Nat.le_refl _) ?_, rfl, q _ (I.hok.fresh (Nat.le_refl _))⟩
    exact ⟨Nat.zero_le _, _, .nil, IsTup.new _ _⟩
end L2
namespace Ir
open PySem L2 PyProof.Rows

theorem lim_eq : LIM = sizeLine := by rw [sizeLine_eq] <;> rfl
/-- what is wanted of a value that a rule gives -/
def PostV (G : Gx) (B : Addr → Prop) (H : Hp) (r : R D) (Q : VK) : Prop := match r with
  | .ok d => ∀ v H', Same G H H' → rep G B H' d v → Q v H'
  | _ => False
theorem PostV.at_ {G : Gx} {B : Addr → Prop} {H : Hp} {d : D} {Q : VK} (p : PostV G B H (.ok d) Q) {v : V} (h : rep G B H d v) : Q v H := p v H (Same.refl H) h
theorem iff_ok {α : Type} {b : Bool} {r : R α} {a : α} (h : R.iff b r = .ok a) : b = true ∧ r = .ok a := by
  cases b with
  | true => exact ⟨rfl, h⟩
  | false => cases h
theorem PostV.iff {G : Gx} {B : Addr → Prop} {H : Hp} {b : Bool} {r : R D} {Q : VK} (p : PostV G B H (.iff b r) Q) : b = true ∧ PostV G B H r Q := by
  cases b with
  | true => exact ⟨rfl, p⟩
  | false => exact p.elim
theorem Same.upd_new {G : Gx} {H : Hp} {p : Addr} {o : HO} (n : H p = none) : Same G H (upd H p o) := Same.of2 fun b u e => by
  rw [upd_ne (ne_of_none e n)]
  exact e
/-- a new list -/
theorem PostV.newL {G : Gx} {B : Addr → Prop} {H : Hp} {l : List D} {vs : List V} {Q : VK} (p : PostV G B H (.ok (.lst l)) Q) (dm : Dom B H) (r : reps G B H l vs) : ∀ a, H a = none → Q (.ref a) (upd H a (.lst vs)) := fun a n =>
  p _ _ (Same.upd_new n) ⟨a, vs, rfl, .inl upd_same, dm.new n, reps_same (Same.upd_new n) r⟩
theorem PostV.newT {G : Gx} {B : Addr → Prop} {H : Hp} {l : List D} {vs : List V} {Q : VK} (p : PostV G B H (.ok (.tup l)) Q) (dm : Dom B H) (r : reps G B H l vs) : ∀ a, H a = none → Q (.ref a) (upd H a (.tup vs)) := fun a n =>
  p _ _ (Same.upd_new n) ⟨a, vs, rfl, ⟨upd_same, dm.new n⟩, reps_same (Same.upd_new n) r⟩

section
variable {X : Cx} {pins : List (Addr × Obj)} {σ : L2.St} {H : Hp} {s : Shared}
theorem rdL {l : Addr} {xs : List V} (I : Inv X pins σ H s) (h : Rd H l (.lst xs)) : xs.length ≤ sizeLine ∧ ∃ (its : List Value) (n : Nat), Vals xs its ∧ xs.length = its.length ∧ s.heap.get? l = some { cls := .type "list", data := .seq its.toArray n } := by
  obtain ⟨z, its, n, r, e⟩ := h.ok I.hok
  exact ⟨z, its, n, r, r.length, e⟩
/-- list + list, list * int, also of what is only read -/
theorem cat_lists {l b : Addr} {xs zs : List V} {Q : VK} (I : Inv X pins σ H s) (h1 : Rd H l (.lst xs)) (h2 : Rd H b (.lst zs)) (hz : xs.length + zs.length ≤ sizeLine) (q : ∀ p, H p = none → Q (.ref p) (upd H p (.lst (xs ++ zs)))) :
    wpAny (model X.prog X.w) X.A (binaryOp .Add (.ref l) (.ref b)) (EP X pins σ Q) X.xe s := by
  obtain ⟨z, its, n, r, hl, e⟩ := rdL I h1
  obtain ⟨z2, its2, n2, r2, hl2, e2⟩ := rdL I h2
  refine PySem.P.add_list e e2 ?_ (by rw [List.size_toArray, List.size_toArray]; omega)
  have ea : its.toArray ++ its2.toArray = (its ++ its2).toArray := by simp
  rw [ea]
  exact ⟨.ref _, _, I.lnew (t' := s.toks) (r.append r2) (by rw [List.length_append]; omega), rfl, q _ I.fresh⟩
theorem rep_list {l : Addr} {k : Int} {t : Tok} {xs : List V} {Q : VK} (I : Inv X pins σ H s) (hH : Rd H l (.lst xs)) (h1 : -(2 ^ 63) ≤ k) (h2 : k < 2 ^ 63) (hz : xs.length * k.toNat ≤ sizeLine) (q : ∀ p, H p = none → Q (.ref p) (upd H p (.lst (List.replicate k.toNat xs).flatten))) :
    wpAny (model X.prog X.w) X.A (binaryOp .Mult (.ref l) (.int k t)) (EP X pins σ Q) X.xe s := by
  obtain ⟨z, its, n, r, hl, e⟩ := rdL I hH
  have hlen : its.toArray.size * k.toNat ≤ sizeLine := by rw [List.size_toArray, ← hl]; exact hz
  have hcap : ¬ its.toArray.size * k.toNat > (2 ^ 63 - 1) / 8 := by
    have : (sizeLine : Nat) ≤ (2 ^ 63 - 1) / 8 := by decide
    omega
  have hfit : ¬ (!Builtin.List.listFitsIndex k) = true := by
    rw [fitsIndex_both h1 h2]
    exact Bool.false_ne_true
  have hlong : ¬ Builtin.List.listTooLong (its.toArray.size * k.toNat) = true := by
    rw [notLongL hlen]
    exact Bool.false_ne_true
  have hnew : List.foldl (fun x1 x2 => x1 ++ x2) #[] (List.replicate (if its.toArray.isEmpty = true then 0 else k.toNat) its.toArray) = (List.replicate k.toNat its).flatten.toArray := by
    have f0 : ∀ m : Nat, List.foldl (fun x1 x2 => x1 ++ x2) #[] (List.replicate m its.toArray) = (List.replicate m its).flatten.toArray := fun m => by
      have := foldl_rep its m []
      rw [List.nil_append] at this
      exact this
    rw [f0]
    cases its with
    | nil => simp
    | cons a r' => rw [if_neg (by simp)]
  refine wpAny_binaryOp_repeat_ref (T := "list") (U := "int") (by decide) ⟨_, e, rfl⟩ (fun s' => typeIs_int s' k t) noFill_list_mul F.fills_int_mul F.slot_int_rmul repeat_list F.slot_int_index.lookup
    (call_meets F.slot_int_rmul (typeIs_int s k t) F.entry_int_rmul (F.args_int_rmul_2 _ _) (int___rmul___int_list k t l its.toArray n)
      ⟨e, rfl, ⟨_, e, rfl⟩, call_meets F.slot_list_mul ⟨_, e, rfl⟩ F.entry_list_mul (F.args_list_mul_2 _ _) (AutoListH.list___mul___list_int_3 l its.toArray n k t hfit hcap hlong) ⟨e, ?_⟩⟩)
  rw [hnew]
  exact ⟨.ref _, _, I.lnew (t' := s.toks) (r.rep k.toNat) (by rw [PyProof.Rows.lm_len_rep_flat, Nat.mul_comm]; exact hz), rfl, q _ I.fresh⟩
end

/-- what stands ahead of an operator's rule -/
structure Gxx (G : Gx) (X : Cx) : Prop where
  prog : X.prog = G.P
  w : X.w = G.w
  K : X.K = G.K
  mg : X.mg = G.mg
  base : X.base = G.base
section
variable {G : Gx} {X : Cx}
def rBin (G : Gx) (o : Operator) : R2 := fun x y H Q => ∃ B dx dy, Dom B H ∧ repT G B H dx x ∧ repT G B H dy y ∧ PostV G B H (binD o dx dy) Q
theorem sq_of {B : Addr → Prop} {H : Hp} {a : Addr} {vs : List V} (g : Gxx G X) (h : TupAt G B H a vs) : SqT X.K H a vs := by
  rw [g.K]
  exact h.sq
theorem smallB_of {i : Int} (h : smallB i = true) : -(2 ^ 64) < i ∧ i < 2 ^ 64 := of_decide_eq_true h
theorem op_bin (g : Gxx G X) (o : Operator) : OpR X (binaryOp o) (rBin G o) := by
  intro pins s σ H x y v u Q I rx ry h
  obtain ⟨B, dx, dy, dm, hx, hy, p⟩ := h
  cases o with
  | Add =>
    have p : PostV G B H (addD dx dy) Q := p
    cases dx with
    | int i =>
      cases dy with
      | int j =>
        have ex : x = .int i := hx
        have ey : y = .int j := hy
        exact op_add pins s σ H x y v u Q I rx ry ⟨i, j, ex, ey, p.at_ rfl⟩
      | _ => exact p.elim
    | tup a =>
      cases dy with
      | tup b =>
        obtain ⟨c, p⟩ := PostV.iff p
        have c := of_decide_eq_true c
        rw [lim_eq] at c
        obtain ⟨l, xs, rfl, t1, r1⟩ := hx
        obtain ⟨m, ys, rfl, t2, r2⟩ := hy
        refine op_catA pins s σ H _ _ v u Q I rx ry ⟨l, m, xs, ys, rfl, rfl, sq_of g t1, sq_of g t2, by rw [reps_len r1, reps_len r2]; exact c, fun e => ?_, fun e e' => ?_, fun e e' => ?_⟩
        · subst e
          have ea : a = [] := List.eq_nil_of_length_eq_zero (reps_len r1).symm
          subst ea
          exact p.at_ ⟨m, ys, rfl, t2, r2⟩
        · subst e'
          have eb : b = [] := List.eq_nil_of_length_eq_zero (reps_len r2).symm
          subst eb
          rw [List.append_nil] at p
          exact p.at_ ⟨l, xs, rfl, t1, r1⟩
        · exact p.newT dm (reps_app r1 r2)
      | _ => exact p.elim
    | lst a =>
      cases dy with
      | lst b =>
        obtain ⟨c, p⟩ := PostV.iff p
        have c := of_decide_eq_true c
        rw [lim_eq] at c
        obtain ⟨l, xs, rfl, t1, r1⟩ := hx
        obtain ⟨m, ys, rfl, t2, r2⟩ := hy
        cases rx
        cases ry
        exact cat_lists I t1 t2 (by rw [reps_len r1, reps_len r2]; exact c) (p.newL dm (reps_app r1 r2))
      | _ => exact p.elim
    | str a =>
      cases dy with
      | str b =>
        obtain ⟨c, p⟩ := PostV.iff p
        have c := of_decide_eq_true c
        rw [lim_eq] at c
        exact op_add_str pins s σ H _ _ v u Q I rx ry ⟨a, b, hx, hy, c, p.at_ rfl⟩
      | _ => exact p.elim
    | _ => exact p.elim
  | Sub =>
    cases dx with
    | int i =>
      cases dy with
      | int j =>
        exact op_sub pins s σ H x y v u Q I rx ry ⟨i, j, hx, hy, PostV.at_ p rfl⟩
      | _ => exact p.elim
    | _ => exact p.elim
  | Mult =>
    have p : PostV G B H (mulD dx dy) Q := p
    cases dx with
    | int i =>
      cases dy with
      | int j =>
        obtain ⟨c, p⟩ := PostV.iff p
        rw [Bool.or_eq_true] at c
        exact op_mul pins s σ H x y v u Q I rx ry ⟨i, j, hx, hy, c.imp smallB_of smallB_of, p.at_ rfl⟩
      | _ => exact p.elim
    | lst a =>
      cases dy with
      | int k =>
        obtain ⟨c, p⟩ := PostV.iff p
        obtain ⟨c1, c2, c3⟩ := of_decide_eq_true c
        rw [lim_eq] at c3
        obtain ⟨l, xs, rfl, t1, r1⟩ := hx
        have ey : y = .int k := hy
        subst ey
        obtain ⟨t, rfl⟩ := ry
        cases rx
        exact rep_list I t1 (by omega) (by omega) (by rw [reps_len r1]; exact c3) (p.newL dm (reps_flat r1 _))
      | _ => exact p.elim
    | tup a =>
      cases dy with
      | int k =>
        obtain ⟨c, p⟩ := PostV.iff p
        obtain ⟨c1, c2, c3⟩ := of_decide_eq_true c
        obtain ⟨l, xs, rfl, t1, r1⟩ := hx
        have hl := reps_len r1
        by_cases z : xs = []
        · refine op_repU pins s σ H _ y v u Q I rx ry ⟨l, k, xs, rfl, hy, sq_of g t1, by omega, c2, .inl ⟨.inl z, ?_⟩⟩
          subst z
          obtain rfl : a = [] := List.eq_nil_of_length_eq_zero hl.symm
          have e : (List.replicate k.toNat ([] : List D)).flatten = [] := by simp
          rw [e] at p
          exact p.at_ ⟨l, [], rfl, t1, r1⟩
        by_cases z2 : k = 1
        · refine op_repU pins s σ H _ y v u Q I rx ry ⟨l, k, xs, rfl, hy, sq_of g t1, by omega, c2, .inl ⟨.inr z2, ?_⟩⟩
          subst z2
          have e : (List.replicate (1 : Int).toNat a).flatten = a := by simp
          rw [e] at p
          exact p.at_ ⟨l, xs, rfl, t1, r1⟩
        by_cases z3 : k ≤ 0
        · refine op_repU pins s σ H _ y v u Q I rx ry ⟨l, k, xs, rfl, hy, sq_of g t1, by omega, c2, .inr ⟨z, z3, ?_⟩⟩
          obtain rfl : k = 0 := by omega
          have e : (List.replicate (0 : Int).toNat a).flatten = [] := by simp
          rw [e] at p
          exact p.newT dm rfl
        exact op_repT pins s σ H _ y v u Q I rx ry ⟨l, k, xs, rfl, hy, sq_of g t1, z, by omega, c2, by omega, p.newT dm (reps_flat r1 _)⟩
      | _ => exact p.elim
    | _ => exact p.elim
  | FloorDiv =>
    cases dx with
    | int i =>
      cases dy with
      | int j =>
        obtain ⟨c, p⟩ := PostV.iff p
        obtain ⟨c1, c2⟩ := of_decide_eq_true c
        exact op_fdivW pins s σ H x y v u Q I rx ry ⟨i, j, hx, hy, wide_div (b := 250) c1 (by omega) (by decide) (by decide), p.at_ rfl⟩
      | _ => exact p.elim
    | _ => exact p.elim
  | Mod =>
    cases dx with
    | int i =>
      cases dy with
      | int j =>
        obtain ⟨c, p⟩ := PostV.iff p
        exact op_mod pins s σ H x y v u Q I rx ry ⟨i, j, hx, hy, of_decide_eq_true c, p.at_ rfl⟩
      | _ => exact p.elim
    | _ => exact p.elim
  | Pow =>
    cases dx with
    | int i =>
      cases dy with
      | int j =>
        obtain ⟨c, p⟩ := PostV.iff p
        have c := of_decide_eq_true c
        exact op_pow pins s σ H x y v u Q I rx ry ⟨i, j, hx, hy, c, p.at_ rfl⟩
      | _ => exact p.elim
    | _ => exact p.elim
  | LShift =>
    cases dx with
    | int i =>
      cases dy with
      | int j =>
        obtain ⟨c, p⟩ := PostV.iff p
        have c := of_decide_eq_true c
        exact op_shl pins s σ H x y v u Q I rx ry ⟨i, j, hx, hy, c, p.at_ rfl⟩
      | _ => exact p.elim
    | _ => exact p.elim
  | RShift =>
    cases dx with
    | int i =>
      cases dy with
      | int j =>
        obtain ⟨c, p⟩ := PostV.iff p
        exact op_shr pins s σ H x y v u Q I rx ry ⟨i, j, hx, hy, of_decide_eq_true c, p.at_ rfl⟩
      | _ => exact p.elim
    | _ => exact p.elim
  | BitAnd =>
    cases dx with
    | int i =>
      cases dy with
      | int j => exact op_and pins s σ H x y v u Q I rx ry ⟨i, j, hx, hy, PostV.at_ p rfl⟩
      | _ => exact p.elim
    | _ => exact p.elim
  | BitOr =>
    cases dx with
    | int i =>
      cases dy with
      | int j => exact op_or pins s σ H x y v u Q I rx ry ⟨i, j, hx, hy, PostV.at_ p rfl⟩
      | _ => exact p.elim
    | _ => exact p.elim
  | _ => exact p.elim

/-! ### comparisons -/
theorem repT_non {B : Addr → Prop} {H : Hp} {d : D} {x : V} (h : repT G B H d x) : isNon d = decide (x = .non) := by
  cases d with
  | non =>
    have e : x = .non := h
    subst e
    rfl
  | bl b =>
    have e : x = .bl b := h
    subst e
    rfl
  | int i =>
    have e : x = .int i := h
    subst e
    rfl
  | str z =>
    have e : x = .str z := h
    subst e
    rfl
  | tup l =>
    obtain ⟨a, vs, rfl, _⟩ := h
    rfl
  | lst l =>
    obtain ⟨a, vs, rfl, _⟩ := h
    rfl
  | dct t ks l =>
    obtain ⟨a, vs, rfl, _⟩ := h
    rfl
  | ins c =>
    obtain ⟨a, C, dx, rfl, _⟩ := h
    rfl
  | adr a =>
    cases h
    rfl
  | exc c =>
    obtain ⟨a, C, rfl, _⟩ := h
    rfl
def rCmp (G : Gx) (o : CmpOp) : R2 := fun x y H Q => ∃ B dx dy b, repT G B H dx x ∧ repT G B H dy y ∧ cmpD o dx dy = .ok b ∧ Q (.bl b) H
theorem eqD_data {x y : D} {b : Bool} (h : eqD x y = .ok b) : (x.flat = true ∧ y.flat = true ∧ min x.dep y.dep ≤ 64 ∧ b = eqB x y) ∨ (∃ i j, x = .int i ∧ y = .int j ∧ b = decide (i = j)) ∨ (∃ i j, x = .str i ∧ y = .str j ∧ b = decide (i = j)) := by
  unfold eqD at h
  split at h
  · cases h
    exact .inr (.inl ⟨_, _, rfl, rfl, rfl⟩)
  · cases h
    exact .inr (.inr ⟨_, _, rfl, rfl, rfl⟩)
  · obtain ⟨c, e⟩ := iff_ok h
    cases e
    rw [Bool.and_eq_true, Bool.and_eq_true] at c
    exact .inl ⟨c.1.1, c.1.2, of_decide_eq_true c.2, rfl⟩
theorem bind_ok_inv {α β : Type} {r : R α} {f : α → R β} {b : β} (h : r.bind f = .ok b) : ∃ a, r = .ok a ∧ f a = .ok b := by
  cases r with
  | stuck => cases h
  | exc c fs => cases h
  | ok a => exact ⟨a, rfl, h⟩
theorem inD_seq {l : List D} {x : D} {b : Bool} (h : R.iff (x.flat && flatL l && decide (x.dep ≤ 64)) (.ok (l.any fun z => eqB z x)) = .ok b) : x.flat = true ∧ flatL l = true ∧ x.dep ≤ 64 ∧ b = (pyL l).any fun z => PyData.eqv z x.py := by
  obtain ⟨c, e⟩ := iff_ok h
  cases e
  rw [Bool.and_eq_true, Bool.and_eq_true] at c
  refine ⟨c.1.1, c.1.2, of_decide_eq_true c.2, ?_⟩
  have q : ∀ l : List D, (l.any fun z => eqB z x) = (pyL l).any fun z => PyData.eqv z x.py := fun l => by
    induction l with
    | nil => rfl
    | cons a r ih =>
      show (eqB a x || r.any fun z => eqB z x) = (PyData.eqv a.py x.py || (pyL r).any fun z => PyData.eqv z x.py)
      rw [ih]
      rfl
  exact q l
/-- keys here and there -/
theorem keyD_py {a b : Key} : PyData.eqv (keyD a).py (keyD b).py = decide (a = b) := by
  cases a with
  | inl i =>
    cases b with
    | inl j =>
      show PyData.eqv (.int i) (.int j) = _
      rw [PyData.eqv, key_ll]
    | inr y =>
      show PyData.eqv (.int i) (.str y) = _
      rw [PyData.eqv, key_lr]
  | inr x =>
    cases b with
    | inl j =>
      show PyData.eqv (.str x) (.int j) = _
      rw [PyData.eqv, key_rl]
    | inr y =>
      show PyData.eqv (.str x) (.str y) = _
      rw [PyData.eqv, key_rr]
      by_cases e : x = y
      · subst e
        simp
      · rw [decide_eq_false e]
        exact beq_eq_false_iff_ne.mpr e
theorem keysD_py : ∀ {a b : List Key}, PyData.eqvAll (pyL (a.map keyD)) (pyL (b.map keyD)) = decide (a = b)
  | [], [] => by
    show PyData.eqvAll [] [] = _
    rw [PyData.eqvAll]
    rfl
  | [], y :: b => by
    show PyData.eqvAll [] ((keyD y).py :: pyL (b.map keyD)) = _
    rw [PyData.eqvAll]
    rfl
  | x :: a, [] => by
    show PyData.eqvAll ((keyD x).py :: pyL (a.map keyD)) [] = _
    rw [PyData.eqvAll]
    rfl
  | x :: a, y :: b => by
    show PyData.eqvAll ((keyD x).py :: pyL (a.map keyD)) ((keyD y).py :: pyL (b.map keyD)) = _
    rw [PyData.eqvAll, keyD_py, keysD_py]
    by_cases e : x = y
    · by_cases e' : a = b
      · subst e e'
        simp
      · simp [e']
    · simp [e]
theorem eqB_k {a b : Key} : eqB (keyD a) (keyD b) = decide (a = b) := keyD_py
theorem eqB_t {a b : List Key} : eqB (.tup (a.map keyD)) (.tup (b.map keyD)) = decide (a = b) := by
  show PyData.eqv (.tuple (pyL (a.map keyD))) (.tuple (pyL (b.map keyD))) = _
  rw [PyData.eqv, keysD_py]
theorem eqB_kt {a : Key} {l : List D} : eqB (keyD a) (.tup l) = false := by
  cases a with
  | inl i =>
    show PyData.eqv (.int i) (.tuple (pyL l)) = _
    rw [PyData.eqv]
  | inr x =>
    show PyData.eqv (.str x) (.tuple (pyL l)) = _
    rw [PyData.eqv]
theorem eqB_tk {a : Key} {l : List D} : eqB (.tup l) (keyD a) = false := by
  cases a with
  | inl i =>
    show PyData.eqv (.tuple (pyL l)) (.int i) = _
    rw [PyData.eqv]
  | inr x =>
    show PyData.eqv (.tuple (pyL l)) (.str x) = _
    rw [PyData.eqv]
theorem keyA_of : ∀ {d : D}, keyA d = true → ∃ k, d = keyD k
  | .int i, _ => ⟨.inl i, rfl⟩
  | .str x, _ => ⟨.inr x, rfl⟩
  | .non, h => by cases h
  | .bl _, h => by cases h
  | .tup _, h => by cases h
  | .lst _, h => by cases h
  | .dct _ _ _, h => by cases h
  | .ins _, h => by cases h
  | .adr _, h => by cases h
  | .exc _, h => by cases h
theorem keysA_of : ∀ {l : List D}, l.all keyA = true → ∃ k : List Key, l = k.map keyD
  | [], _ => ⟨[], rfl⟩
  | d :: l, h => by
    rw [List.all_cons, Bool.and_eq_true] at h
    obtain ⟨k, rfl⟩ := keyA_of h.1
    obtain ⟨ks, rfl⟩ := keysA_of h.2
    exact ⟨k :: ks, rfl⟩
theorem keyOk_0 {d : D} (h : keyOk 0 d = true) : ∃ k, d = keyD k := by
  cases d with
  | int i => exact ⟨.inl i, rfl⟩
  | str x => exact ⟨.inr x, rfl⟩
  | _ => cases h
theorem keyOk_2 {d : D} (h : keyOk 2 d = true) : False := by
  cases d <;> cases h
theorem keyOk_1 {d : D} (h : keyOk 1 d = true) : ∃ k : List Key, d = .tup (k.map keyD) := by
  cases d with
  | tup l =>
    obtain ⟨k, rfl⟩ := keysA_of (l := l) h
    exact ⟨k, rfl⟩
  | _ => cases h
theorem rep_key {B : Addr → Prop} {H : Hp} {k : Key} {v : V} (h : rep G B H (keyD k) v) : v = kV k := by
  cases k <;> exact h
theorem reps_keys {B : Addr → Prop} {H : Hp} : ∀ {k : List Key} {vs : List V}, reps G B H (k.map keyD) vs → vs = k.map kV
  | [], vs, h => h
  | k :: ks, vs, h => by
    obtain ⟨v, r, rfl, h1, h2⟩ := h
    rw [rep_key h1, reps_keys h2]
    rfl
theorem repT_key {B : Addr → Prop} {H : Hp} {k : Key} {v : V} (h : repT G B H (keyD k) v) : v = kV k := by
  cases k <;> exact h
theorem repT_keyT {B : Addr → Prop} {H : Hp} {k : List Key} {v : V} (h : repT G B H (.tup (k.map keyD)) v) : ∃ b, v = .ref b ∧ H b = some (.tup (k.map kV)) := by
  obtain ⟨a, vs, rfl, t, r⟩ := h
  rw [reps_keys r] at t
  exact ⟨a, rfl, t.1⟩
theorem lookD_k {k : Key} : ∀ {kvs : List (Key × V)} {l : List D} {B : Addr → Prop} {H : Hp}, reps G B H l (kvs.map (·.2)) → (∀ d, lookD (keyD k) (kvs.map fun p => keyD p.1) l = some d → ∃ v, valV kvs k = some v ∧ rep G B H d v) ∧ (lookD (keyD k) (kvs.map fun p => keyD p.1) l = none → valV kvs k = none)
  | [], l, B, H, r => ⟨fun d h => (by cases h), fun _ => rfl⟩
  | p :: kvs, [], B, H, r => by
    have e : (p :: kvs).map (·.2) = ([] : List V) := r
    cases e
  | p :: kvs, x :: l, B, H, r => by
    obtain ⟨v, r', e, h1, h2⟩ := r
    injection e with e1 e2
    have e1 : p.2 = v := e1
    have u : lookD (keyD k) ((p :: kvs).map fun p => keyD p.1) (x :: l) = if eqB (keyD p.1) (keyD k) = true then some x else lookD (keyD k) (kvs.map fun p => keyD p.1) l := rfl
    by_cases e3 : p.1 = k
    · rw [u, eqB_k, decide_eq_true e3, if_pos rfl, valV_pos e3]
      exact ⟨fun d h => ⟨p.2, rfl, by rw [e1, ← Option.some.inj h]; exact h1⟩, fun h => (by cases h)⟩
    · rw [u, eqB_k, decide_eq_false e3, if_neg Bool.false_ne_true, valV_neg e3]
      exact lookD_k (by rw [e2]; exact h2)
theorem lookD_t {k : List Key} : ∀ {kvs : List (List Key × V)} {l : List D} {B : Addr → Prop} {H : Hp}, reps G B H l (kvs.map (·.2)) → (∀ d, lookD (.tup (k.map keyD)) (kvs.map fun p => D.tup (p.1.map keyD)) l = some d → ∃ v, valV kvs k = some v ∧ rep G B H d v) ∧ (lookD (.tup (k.map keyD)) (kvs.map fun p => D.tup (p.1.map keyD)) l = none → valV kvs k = none)
  | [], l, B, H, r => ⟨fun d h => (by cases h), fun _ => rfl⟩
  | p :: kvs, [], B, H, r => by
    have e : (p :: kvs).map (·.2) = ([] : List V) := r
    cases e
  | p :: kvs, x :: l, B, H, r => by
    obtain ⟨v, r', e, h1, h2⟩ := r
    injection e with e1 e2
    have e1 : p.2 = v := e1
    have u : lookD (.tup (k.map keyD)) ((p :: kvs).map fun p => D.tup (p.1.map keyD)) (x :: l) = if eqB (.tup (p.1.map keyD)) (.tup (k.map keyD)) = true then some x else lookD (.tup (k.map keyD)) (kvs.map fun p => D.tup (p.1.map keyD)) l := rfl
    by_cases e3 : p.1 = k
    · rw [u, eqB_t, decide_eq_true e3, if_pos rfl, valV_pos e3]
      exact ⟨fun d h => ⟨p.2, rfl, by rw [e1, ← Option.some.inj h]; exact h1⟩, fun h => (by cases h)⟩
    · rw [u, eqB_t, decide_eq_false e3, if_neg Bool.false_ne_true, valV_neg e3]
      exact lookD_t (by rw [e2]; exact h2)
theorem hasK_k {k : Key} : ∀ {kvs : List (Key × V)}, hasK (keyD k) (kvs.map fun p => keyD p.1) = (valV kvs k).isSome
  | [] => rfl
  | p :: kvs => by
    show (eqB (keyD p.1) (keyD k) || hasK (keyD k) (kvs.map fun p => keyD p.1)) = _
    rw [eqB_k, hasK_k]
    by_cases e3 : p.1 = k
    · rw [decide_eq_true e3, valV_pos e3]
      rfl
    · rw [decide_eq_false e3, valV_neg e3]
      rfl
theorem hasK_t {k : List Key} : ∀ {kvs : List (List Key × V)}, hasK (.tup (k.map keyD)) (kvs.map fun p => D.tup (p.1.map keyD)) = (valV kvs k).isSome
  | [] => rfl
  | p :: kvs => by
    show (eqB (.tup (p.1.map keyD)) (.tup (k.map keyD)) || hasK (.tup (k.map keyD)) (kvs.map fun p => D.tup (p.1.map keyD))) = _
    rw [eqB_t, hasK_t]
    by_cases e3 : p.1 = k
    · rw [decide_eq_true e3, valV_pos e3]
      rfl
    · rw [decide_eq_false e3, valV_neg e3]
      rfl

theorem cmp_is {B : Addr → Prop} {H : Hp} {dx dy : D} {x y : V} {b : Bool} (hx : repT G B H dx x) (hy : repT G B H dy y) (h : isD dx dy = .ok b) : (y = .non ∧ b = decide (x = .non)) ∨ ∃ p q, x = .bl p ∧ y = .bl q ∧ b = decide (p = q) := by
  unfold isD at h
  split at h
  · have e : y = .non := hy
    injection h with h
    exact .inl ⟨e, by rw [← h]; exact repT_non hx⟩
  · injection h with h
    exact .inr ⟨_, _, hx, hy, h.symm⟩
  · cases h
theorem op_cmp (g : Gxx G X) (hu : X.A.units + 200 < cLine) (o : CmpOp) : OpR X (compareOp o) (rCmp G o) := by
  intro pins s σ H x y v u Q I rx ry h
  obtain ⟨B, dx, dy, b, hx, hy, hc, q⟩ := h
  have dp : ∀ {d : D} {x : V}, d.flat = true → repT G B H d x → Dp X.K H x d.py := fun f r => by
    rw [g.K]
    exact repT_dp f r
  have fin : EP X pins σ Q (.bool b) s := ⟨.bl b, H, I, rfl, q⟩
  cases o with
  | Eq =>
    have hc : eqD dx dy = .ok b := hc
    rcases eqD_data hc with ⟨f1, f2, hd, rfl⟩ | ⟨i, j, rfl, rfl, rfl⟩ | ⟨i, j, rfl, rfl, rfl⟩
    · obtain ⟨as, r1⟩ := Dp.reads I _ x v (dp f1 hx) rx
      obtain ⟨bs, r2⟩ := Dp.reads I _ y u (dp f2 hy) ry
      exact SeqAt.compareEq_reads r1 r2 (lay_py _ f1) (lay_py _ f2) (by rw [dep_py _ f1, dep_py _ f2]; omega) fin
    · have ex : x = .int i := hx
      have ey : y = .int j := hy
      subst ex ey
      exact op_eq pins s σ H _ _ v u Q I rx ry ⟨rfl, by rw [dec_int]; rw [show (i == j) = decide (i = j) from rfl] <;> exact q⟩
    · have ex : x = .str i := hx
      have ey : y = .str j := hy
      subst ex ey
      exact op_eq pins s σ H _ _ v u Q I rx ry ⟨rfl, by
        have e : decide (V.str i = V.str j) = decide (i = j) := by
          by_cases e : i = j
          · subst e
            simp
          · rw [decide_eq_false e, decide_eq_false fun z => e (V.str.inj z)]
        rw [e]
        exact q⟩
  | NotEq =>
    obtain ⟨b', hc2, e⟩ := bind_ok_inv (show (eqD dx dy).bind _ = .ok b from hc)
    injection e with e
    subst e
    clear hc
    rcases eqD_data hc2 with ⟨f1, f2, hd, rfl⟩ | ⟨i, j, rfl, rfl, rfl⟩ | ⟨i, j, rfl, rfl, rfl⟩
    · obtain ⟨as, r1⟩ := Dp.reads I _ x v (dp f1 hx) rx
      obtain ⟨bs, r2⟩ := Dp.reads I _ y u (dp f2 hy) ry
      exact SeqAt.compareNe_reads r1 r2 (lay_py _ f1) (lay_py _ f2) (by rw [dep_py _ f1, dep_py _ f2]; omega) fin
    · have ex : x = .int i := hx
      have ey : y = .int j := hy
      subst ex ey
      exact op_ne pins s σ H _ _ v u Q I rx ry ⟨rfl, by rw [dec_int]; exact q⟩
    · have ex : x = .str i := hx
      have ey : y = .str j := hy
      subst ex ey
      exact op_ne pins s σ H _ _ v u Q I rx ry ⟨rfl, by
        have e : decide (V.str i = V.str j) = decide (i = j) := by
          by_cases e : i = j
          · subst e
            simp
          · rw [decide_eq_false e, decide_eq_false fun z => e (V.str.inj z)]
        rw [e]
        exact q⟩
  | Lt =>
    have hc : ltD dx dy = .ok b := hc
    cases dx with
    | int i =>
      cases dy with
      | int j =>
        cases hc
        exact op_lt pins s σ H _ _ v u Q I rx ry ⟨_, _, hx, hy, q⟩
      | _ => cases hc
    | tup a =>
      cases dy with
      | tup c =>
        obtain ⟨k, e⟩ := iff_ok hc
        injection e with e
        subst e
        rw [Bool.and_eq_true, Bool.and_eq_true, Bool.and_eq_true] at k
        obtain ⟨⟨⟨f1, f2⟩, al⟩, hd⟩ := k
        have hd := of_decide_eq_true hd
        obtain ⟨as, r1⟩ := Dp.reads I _ x v (dp (d := .tup a) f1 hx) rx
        obtain ⟨bs, r2⟩ := Dp.reads I _ y u (dp (d := .tup c) f2 hy) ry
        exact PySem.W.rcLt_alike _ _ X.A s _ _ _ _ r1 r2 al (fun z => nomatch z) (by rw [dep_py (.tup a) f1, dep_py (.tup c) f2]; omega) _ _ _ _ fin
      | _ => cases hc
    | _ => cases hc
  | LtE =>
    have hc : leD dx dy = .ok b := hc
    unfold leD at hc
    split at hc
    · cases hc
      exact op_le pins s σ H _ _ v u Q I rx ry ⟨_, _, hx, hy, q⟩
    · rename_i a c _
      obtain ⟨k, e⟩ := iff_ok hc
      injection e with e
      subst e
      rw [Bool.and_eq_true, Bool.and_eq_true, Bool.and_eq_true] at k
      obtain ⟨⟨⟨f1, f2⟩, al⟩, hd⟩ := k
      have hd := of_decide_eq_true hd
      obtain ⟨as, r1⟩ := Dp.reads I _ x v (dp (d := .tup a) f1 hx) rx
      obtain ⟨bs, r2⟩ := Dp.reads I _ y u (dp (d := .tup c) f2 hy) ry
      exact PySem.W.le_data r1 r2 al (fun z => nomatch z) (by rw [dep_py (.tup a) f1, dep_py (.tup c) f2]; omega) fin
    · cases hc
  | Gt =>
    cases dx with
    | int i =>
      cases dy with
      | int j =>
        cases hc
        exact op_gt pins s σ H _ _ v u Q I rx ry ⟨_, _, hx, hy, q⟩
      | _ => cases hc
    | _ => cases hc
  | GtE =>
    cases dx with
    | int i =>
      cases dy with
      | int j =>
        cases hc
        exact op_ge pins s σ H _ _ v u Q I rx ry ⟨_, _, hx, hy, q⟩
      | _ => cases hc
    | _ => cases hc
  | Is =>
    rcases cmp_is hx hy hc with ⟨e, rfl⟩ | ⟨i, j, e1, e2, rfl⟩
    · exact op_isN pins s σ H x y v u Q I rx ry ⟨e, q⟩
    · exact op_is_bl pins s σ H x y v u Q I rx ry ⟨i, j, e1, e2, q⟩
  | IsNot =>
    obtain ⟨b', hc2, e⟩ := bind_ok_inv (show (isD dx dy).bind _ = .ok b from hc)
    injection e with e
    subst e
    clear hc
    rcases cmp_is hx hy hc2 with ⟨e, rfl⟩ | ⟨i, j, e1, e2, rfl⟩
    · exact op_notN pins s σ H x y v u Q I rx ry ⟨e, q⟩
    · exact op_isnot_bl pins s σ H x y v u Q I rx ry ⟨i, j, e1, e2, q⟩
  | In =>
    have hc : inD dx dy = .ok b := hc
    cases dy with
    | tup l =>
      obtain ⟨f1, f2, hd, rfl⟩ := inD_seq hc
      obtain ⟨as, r1⟩ := Dp.reads I _ x v (dp f1 hx) rx
      obtain ⟨bs, r2⟩ := Dp.reads I _ y u (dp (d := .tup l) f2 hy) ry
      exact SeqAt.in_tuple_reads r2 r1 (layL_py _ f2) (lay_py _ f1) (by rw [dep_py _ f1]; omega) fin
    | lst l =>
      obtain ⟨f1, f2, hd, rfl⟩ := inD_seq hc
      obtain ⟨as, r1⟩ := Dp.reads I _ x v (dp f1 hx) rx
      obtain ⟨bs, r2⟩ := Dp.reads I _ y u (dp (d := .lst l) f2 hy) ry
      exact SeqAt.in_list_reads r2 r1 (layL_py _ f2) (lay_py _ f1) (by rw [dep_py _ f1]; omega) fin
    | dct t ks l =>
      obtain ⟨k, e⟩ := iff_ok hc
      cases e
      obtain ⟨a, vs, rfl, dd, r⟩ := hy
      cases ry
      rcases dd with ⟨kvs, rfl, e1, rfl, rfl⟩ | ⟨kvs, rfl, e1, rfl, rfl⟩ | ⟨rfl, _⟩
      · obtain ⟨kk, rfl⟩ := keyOk_0 k
        have ex := repT_key hx
        subst ex
        rw [hasK_k] at q
        exact d_in (by omega) I (.inl ⟨kvs, kk, e1, rfl, rfl⟩) rx fun s' I' => ⟨.bl _, H, I', rfl, q⟩
      · obtain ⟨kk, rfl⟩ := keyOk_1 k
        obtain ⟨b, rfl, eb⟩ := repT_keyT hx
        rw [hasK_t] at q
        exact d_in (by omega) I (.inr ⟨kvs, kk, b, e1, rfl, eb, rfl⟩) rx fun s' I' => ⟨.bl _, H, I', rfl, q⟩
      · exact (keyOk_2 k).elim
    | str t =>
      cases dx with
      | str z =>
        cases hc
        exact op_in_str pins s σ H _ _ v u Q I rx ry ⟨z, t, hx, hy, q⟩
      | _ => cases hc
    | _ => cases hc
  | NotIn =>
    obtain ⟨b', hc2, e⟩ := bind_ok_inv (show (inD dx dy).bind _ = .ok b from hc)
    injection e with e
    subst e
    clear hc
    cases dy with
    | tup l =>
      obtain ⟨f1, f2, hd, rfl⟩ := inD_seq hc2
      obtain ⟨as, r1⟩ := Dp.reads I _ x v (dp f1 hx) rx
      obtain ⟨bs, r2⟩ := Dp.reads I _ y u (dp (d := .tup l) f2 hy) ry
      exact SeqAt.notIn_tuple_reads r2 r1 (layL_py _ f2) (lay_py _ f1) (by rw [dep_py _ f1]; omega) fin
    | lst l =>
      obtain ⟨f1, f2, hd, rfl⟩ := inD_seq hc2
      obtain ⟨as, r1⟩ := Dp.reads I _ x v (dp f1 hx) rx
      obtain ⟨bs, r2⟩ := Dp.reads I _ y u (dp (d := .lst l) f2 hy) ry
      exact SeqAt.notIn_list_reads r2 r1 (layL_py _ f2) (lay_py _ f1) (by rw [dep_py _ f1]; omega) fin
    | dct t ks l =>
      obtain ⟨k, e⟩ := iff_ok hc2
      cases e
      obtain ⟨a, vs, rfl, dd, r⟩ := hy
      cases ry
      rcases dd with ⟨kvs, rfl, e1, rfl, rfl⟩ | ⟨kvs, rfl, e1, rfl, rfl⟩ | ⟨rfl, _⟩
      · obtain ⟨kk, rfl⟩ := keyOk_0 k
        have ex := repT_key hx
        subst ex
        rw [hasK_k] at q
        exact d_notIn (by omega) I (.inl ⟨kvs, kk, e1, rfl, rfl⟩) rx fun s' I' => ⟨.bl _, H, I', rfl, q⟩
      · obtain ⟨kk, rfl⟩ := keyOk_1 k
        obtain ⟨b, rfl, eb⟩ := repT_keyT hx
        rw [hasK_t] at q
        exact d_notIn (by omega) I (.inr ⟨kvs, kk, b, e1, rfl, eb, rfl⟩) rx fun s' I' => ⟨.bl _, H, I', rfl, q⟩
      · exact (keyOk_2 k).elim
    | str t =>
      cases dx with
      | str z =>
        injection hc2 with e
        subst e
        exact op_notin_str pins s σ H _ _ v u Q I rx ry ⟨z, t, hx, hy, q⟩
      | _ => cases hc2
    | _ => cases hc2
end
end Ir

/-! Ir3: subscripts, slices, truth, built-in functions of plain data. -/
namespace Ir
open PySem L2 PyProof.Rows
section
variable {G : Gx} {X : Cx}
theorem atI_map {l : List D} {vs : List V} {B : Addr → Prop} {H : Hp} {i : Int} {d : D} (r : reps G B H l vs) (h : atI l i = some d) : ∃ v, atI vs i = some v ∧ rep G B H d v := by
  unfold atI at h ⊢
  rw [reps_len r]
  cases e : ixN l.length i with
  | none =>
    rw [e] at h
    cases h
  | some j =>
    rw [e] at h
    exact reps_get r h
theorem ofO_ok {α : Type} {o : Option α} {a : α} (h : R.ofO o = .ok a) : o = some a := by
  cases o with
  | none => cases h
  | some b =>
    injection h with h
    rw [h]
theorem PostV.ofO {B : Addr → Prop} {H : Hp} {o : Option D} {Q : VK} (p : PostV G B H (.ofO o) Q) : ∃ d, o = some d ∧ PostV G B H (.ok d) Q := by
  cases o with
  | none => exact p.elim
  | some d => exact ⟨d, rfl, p⟩
def rSub (G : Gx) : R2 := fun x y H Q => ∃ B dx dy, repT G B H dx x ∧ repT G B H dy y ∧ PostV G B H (subsD dx dy) Q
theorem ix_sub (g : Gxx G X) (hu : X.A.units + 200 < cLine) : IxR X (rSub G) := by
  intro value slice pins s σ H x y v u Q I rx ry h hs
  obtain ⟨B, dx, dy, hx, hy, p⟩ := h
  cases dx with
  | lst l =>
    cases dy with
    | int i =>
      obtain ⟨d, e, p⟩ := PostV.ofO (o := atI l i) p
      obtain ⟨a, vs, rfl, t, r⟩ := hx
      obtain ⟨w, e1, rw1⟩ := atI_map r e
      exact ix_list value slice pins s σ H _ y v u Q I rx ry ⟨a, vs, i, w, rfl, hy, Rd.sq t, e1, p.at_ rw1⟩ hs
    | _ => exact p.elim
  | tup l =>
    cases dy with
    | int i =>
      obtain ⟨d, e, p⟩ := PostV.ofO (o := atI l i) p
      obtain ⟨a, vs, rfl, t, r⟩ := hx
      obtain ⟨w, e1, rw1⟩ := atI_map r e
      exact ix_tup value slice pins s σ H _ y v u Q I rx ry ⟨a, vs, i, w, rfl, hy, sq_of g t, e1, p.at_ rw1⟩ hs
    | _ => exact p.elim
  | str z =>
    cases dy with
    | int i =>
      obtain ⟨c, p⟩ := PostV.iff (b := decide (z.length ≤ LIM)) p
      have c := of_decide_eq_true c
      rw [lim_eq] at c
      cases e : atI z.cps.toList i with
      | none =>
        rw [e] at p
        exact p.elim
      | some k =>
        rw [e] at p
        exact ix_str value slice pins s σ H _ y v u Q I rx ry ⟨z, i, k, hx, hy, c, e, PostV.at_ p rfl⟩ hs
    | _ => exact p.elim
  | dct t ks l =>
    obtain ⟨k, p⟩ := PostV.iff (b := keyOk t dy) p
    obtain ⟨d, e, p2⟩ := PostV.ofO (o := lookD dy ks l) p
    clear p
    obtain ⟨a, vs, rfl, dd, r⟩ := hx
    cases rx
    rcases dd with ⟨kvs, rfl, e1, rfl, rfl⟩ | ⟨kvs, rfl, e1, rfl, rfl⟩ | ⟨rfl, _⟩
    · obtain ⟨kk, rfl⟩ := keyOk_0 k
      have ex := repT_key hy
      subst ex
      obtain ⟨w, ew, rw1⟩ := (lookD_k r).1 d e
      have gg : DGet H a (kV kk) (some w) := .inl ⟨kvs, kk, e1, rfl, ew.symm⟩
      exact tail_any (dict_typeIs I gg) PySem.F.slot_dict_getitem.lookup (d_getItem (by omega) I gg ry fun w' s3 I3 rw' => ⟨w, H, I3, rw', p2.at_ rw1⟩) hs
    · obtain ⟨kk, rfl⟩ := keyOk_1 k
      obtain ⟨b, rfl, eb⟩ := repT_keyT hy
      obtain ⟨w, ew, rw1⟩ := (lookD_t r).1 d e
      have gg : DGet H a (.ref b) (some w) := .inr ⟨kvs, kk, b, e1, rfl, eb, ew.symm⟩
      exact tail_any (dict_typeIs I gg) PySem.F.slot_dict_getitem.lookup (d_getItem (by omega) I gg ry fun w' s3 I3 rw' => ⟨w, H, I3, rw', p2.at_ rw1⟩) hs
    · exact (keyOk_2 k).elim
  | _ =>
    cases dy <;> exact p.elim
theorem reps_cut {B : Addr → Prop} {H : Hp} {l : List D} {vs : List V} {lo hi : Option Int} (r : reps G B H l vs) : reps G B H (cut l lo hi) (cutV vs lo hi) := by
  unfold cut cutV
  rw [reps_len r]
  exact reps_take _ (reps_drop _ r)
theorem cut_whole {l : List D} {lo hi : Option Int} (h : HT.sIx l.length 0 lo = 0 ∧ HT.sIx l.length l.length hi = l.length) : cut l lo hi = l := by
  unfold cut
  rw [h.1, h.2, List.drop_zero, Nat.sub_zero, List.take_length]
def rSlc (G : Gx) : V → Option Int → Option Int → Hp → VK → Prop := fun x lo hi H Q => ∃ B dx, Dom B H ∧ repT G B H dx x ∧ PostV G B H (slcD dx lo hi) Q
theorem sl_slc (g : Gxx G X) : SlR X (rSlc G) := by
  intro pins s σ H x v vl vu lo hi sl Q I rx hs pl pu h
  obtain ⟨B, dx, dm, hx, p⟩ := h
  cases dx with
  | lst l =>
    obtain ⟨a, vs, rfl, t, r⟩ := hx
    exact sl_list pins s σ H _ v vl vu lo hi sl Q I rx hs pl pu ⟨a, vs, rfl, Rd.sq t, PostV.newL p dm (reps_cut r)⟩
  | tup l =>
    obtain ⟨a, vs, rfl, t, r⟩ := hx
    refine sl_tupA pins s σ H _ v vl vu lo hi sl Q I rx hs pl pu ⟨a, vs, rfl, sq_of g t, fun e => ?_, fun _ => PostV.newT p dm (reps_cut r)⟩
    rw [reps_len r] at e
    have p : PostV G B H (.ok (.tup (cut l lo hi))) Q := p
    rw [cut_whole e] at p
    exact p.at_ ⟨a, vs, rfl, t, r⟩
  | str z =>
    obtain ⟨c, p⟩ := PostV.iff (b := decide (z.length ≤ LIM)) p
    have c := of_decide_eq_true c
    rw [lim_eq] at c
    exact sl_str pins s σ H x v vl vu lo hi sl Q I rx hs pl pu ⟨z, hx, c, p.at_ rfl⟩
  | _ => exact p.elim
theorem reps_emp {B : Addr → Prop} {H : Hp} {l : List D} {vs : List V} (r : reps G B H l vs) : (!l.isEmpty) = !vs.isEmpty := by
  cases l with
  | nil =>
    have e : vs = [] := r
    subst e
    rfl
  | cons d l =>
    obtain ⟨v, w, rfl, _⟩ := r
    rfl
theorem tru_of (g : Gxx G X) {B : Addr → Prop} {H : Hp} {d : D} {x : V} {k : Bool} (h : repT G B H d x) (e : truD d = .ok k) : TruV X.K x H k := by
  cases d with
  | non =>
    have ex : x = .non := h
    subst ex
    injection e with e
    exact e.symm
  | bl b =>
    have ex : x = .bl b := h
    subst ex
    injection e with e
    exact e.symm
  | int i =>
    have ex : x = .int i := h
    subst ex
    injection e with e
    exact e.symm
  | str z =>
    have ex : x = .str z := h
    subst ex
    obtain ⟨c, e⟩ := iff_ok e
    injection e with e
    have c := of_decide_eq_true c
    rw [lim_eq] at c
    exact ⟨c, e.symm⟩
  | tup l =>
    obtain ⟨a, vs, rfl, t, r⟩ := h
    injection e with e
    exact .inr (.inl ⟨vs, sq_of g t, by rw [← e, reps_emp r]⟩)
  | lst l =>
    obtain ⟨a, vs, rfl, t, r⟩ := h
    injection e with e
    exact .inl ⟨vs, Rd.sq t, by rw [← e, reps_emp r]⟩
  | _ => cases e

/-! ### built-ins -/
def repTs (G : Gx) (B : Addr → Prop) (H : Hp) : List D → List V → Prop
  | [], vs => vs = []
  | d :: l, vs => ∃ v r, vs = v :: r ∧ repT G B H d v ∧ repTs G B H l r
theorem repTs_same {B : Addr → Prop} {H H' : Hp} (s : Same G H H') : ∀ {l : List D} {vs : List V}, repTs G B H l vs → repTs G B H' l vs
  | [], _, h => h
  | _ :: _, _, ⟨v, r, e, h1, h2⟩ => ⟨v, r, e, repT_keep s h1, repTs_same s h2⟩
def BF.val : BF → Value
  | .len => .builtin "len"
  | .sum => .builtin "sum"
  | .sorted => .builtin "sorted"
  | .tuple => .type "tuple"
  | .list => .type "list"
  | .dict => .type "dict"
  | .min => .builtin "min"
  | .max => .builtin "max"
  | .any => .builtin "any"
  | .int => .type "int"
  | .abs => .builtin "abs"
  | .str => .type "str"
  | .range => .type "range"
def rBlt (G : Gx) (f : BF) : List V → Hp → VK → Prop := fun vs H Q => ∃ B ds, Dom B H ∧ repTs G B H ds vs ∧ PostV G B H (bltD f ds) Q
theorem repTs1 {B : Addr → Prop} {H : Hp} {d : D} {vs : List V} (h : repTs G B H [d] vs) : ∃ v, vs = [v] ∧ repT G B H d v := by
  obtain ⟨v, r, rfl, h1, rfl⟩ := h
  exact ⟨v, rfl, h1⟩
theorem repTs2 {B : Addr → Prop} {H : Hp} {d e : D} {vs : List V} (h : repTs G B H [d, e] vs) : ∃ v w, vs = [v, w] ∧ repT G B H d v ∧ repT G B H e w := by
  obtain ⟨v, r, rfl, h1, w, r2, rfl, h2, rfl⟩ := h
  exact ⟨v, w, rfl, h1, h2⟩
theorem each_of {B : Addr → Prop} {H : Hp} : ∀ {l : List D} {vs : List V} {us : List Value}, reps G B H l vs → Vals vs us → PySem.W.EachIs (fun u d => ∃ x, RelV x u ∧ rep G B H d x) us l
  | [], vs, us, r, q => by
    have e : vs = [] := r
    subst e
    cases q
    exact .nil
  | d :: l, vs, us, r, q => by
    obtain ⟨v, w, rfl, h1, h2⟩ := r
    cases q with
    | cons q1 q2 => exact .cons ⟨v, q1, h1⟩ (each_of h2 q2)
theorem of_each {B : Addr → Prop} {H : Hp} : ∀ {l : List D} {us : List Value}, PySem.W.EachIs (fun u d => ∃ x, RelV x u ∧ rep G B H d x) us l → ∃ vs, reps G B H l vs ∧ Vals vs us
  | _, _, .nil => ⟨[], rfl, .nil⟩
  | _, _, .cons ⟨x, r, h⟩ t => by
    obtain ⟨vs, h1, h2⟩ := of_each t
    exact ⟨x :: vs, ⟨x, vs, rfl, h, h1⟩, .cons r h2⟩
theorem flat_mem : ∀ {l : List D} {d : D}, flatL l = true → d ∈ l → d.flat = true
  | [], d, _, h => by cases h
  | a :: l, d, f, h => by
    have f' : (a.flat && flatL l) = true := f
    rw [Bool.and_eq_true] at f'
    rcases List.mem_cons.mp h with rfl | h
    · exact f'.1
    · exact flat_mem f'.2 h
theorem each_mono_mem {α β : Type} {R S : α → β → Prop} : ∀ {as : List α} {bs : List β}, PySem.W.EachIs R as bs → (∀ a b, b ∈ bs → R a b → S a b) → PySem.W.EachIs S as bs
  | _, _, .nil, _ => .nil
  | _, _, .cons h t, f => .cons (f _ _ List.mem_cons_self h) (each_mono_mem t fun a b m => f a b (List.mem_cons_of_mem _ m))
theorem sortOk_of {l : List D} (h : sortOk l = true) : flatL l = true ∧ PySem.W.AllAlike (l.map D.py) ∧ PySem.W.Sortable (l.map D.py) ∧ ∀ d, d ∈ l → d.dep ≤ 64 := by
  unfold sortOk at h
  rw [Bool.and_eq_true, Bool.and_eq_true, Bool.or_eq_true] at h
  obtain ⟨⟨h1, h2⟩, h3⟩ := h
  rw [List.all_eq_true] at h2
  have h2' : ∀ a, a ∈ l → ∀ b, b ∈ l → PySem.W.alike a.py b.py = true ∧ a.dep ≤ 64 := fun a ha b hb => by
    have q := h2 a ha
    rw [List.all_eq_true] at q
    have q := q b hb
    rw [Bool.and_eq_true] at q
    exact ⟨q.1, of_decide_eq_true q.2⟩
  refine ⟨h1, fun d hd d' hd' => ?_, ?_, fun d hd => (h2' d hd d hd).2⟩
  · obtain ⟨a, ha, rfl⟩ := List.mem_map.mp hd
    obtain ⟨b, hb, rfl⟩ := List.mem_map.mp hd'
    exact (h2' a ha b hb).1
  · rcases h3 with h3 | h3
    · refine .inl fun d hd => ?_
      obtain ⟨a, ha, rfl⟩ := List.mem_map.mp hd
      have q := List.all_eq_true.mp h3 a ha
      cases a with
      | tup l =>
        cases l with
        | nil => cases q
        | cons x r => exact ⟨x.py, pyL r, rfl⟩
      | _ => cases q
    · refine .inr fun d hd => ?_
      obtain ⟨a, ha, rfl⟩ := List.mem_map.mp hd
      have q := List.all_eq_true.mp h3 a ha
      cases a with
      | tup l => cases q
      | non => cases q
      | _ => exact ⟨fun z => (by cases z), fun xs z => (by cases z)⟩
/-! ### sorted(tuple) -/
section
variable {prog : Program} {w : World} {A : Around} {E : Value → Shared → Prop} {s : Shared} {β : Type} {R : Value → β → Prop} {vs : List Value} {bs : List β} {enc : β → PyData}
theorem collect_tup {l : Addr} {vs : List Value} {Q : List Value → Shared → Prop} (hl : s.heap.IsTuple l vs.toArray) (hsz : vs.length ≤ sizeLine)
    (h : Q vs { s with heap := (s.heap.push (seqObj "list" #[] 0)).update s.heap.objs.size (Obj.mapSeq (· ++ vs.toArray)) }) :
    wpAny (model prog w) A (collect (.ref l)) Q E s := by
  obtain ⟨o, ho, hc, n, hd⟩ := id hl
  have old : (s.heap.push (seqObj "list" #[] 0)).get? l = some o := Heap.get?_push_of_some _ ho
  have new : (s.heap.push (seqObj "list" #[] 0)).get? s.heap.objs.size = some (seqObj "list" #[] 0) := Heap.get?_push_size _ rfl
  unfold collect
  refine wpAny_bind (wpAny_runValue (codeAny_builtin F.entry_proto_collect ?_))
  show wpAny _ _ (newList [] >>= fun l' => again (.builtin "list.__iadd__" ⟨[l', .ref l], []⟩)) _ _ s
  refine wpAny_bind (wpAny_newList (wpAny_pure ⟨plainId_quiet F.plain_list_iadd _, codeAny_builtin F.entry_list_iadd ?_⟩))
  show wpAny _ _ (Builtin.List.listExtendWith (.ref s.heap.objs.size) (.ref l) (.ref s.heap.objs.size)) _ _ { s with heap := s.heap.push (seqObj "list" #[] 0) }
  unfold Builtin.List.listExtendWith
  refine wpAny_bind (wpAny_typeOf (T := "tuple") ⟨o, old, hc⟩ ?_)
  have t1 : (Value.type "tuple" == Value.type "tuple") = true := by rfl
  rw [if_pos (by rw [t1]; simp)]
  refine wpAny_bind (listItems_at old hd ?_)
  refine wpAny_bind (listItems_at (xs := #[]) (n := 0) new rfl ?_)
  rw [if_neg (by simp)]
  refine wpAny_bind (listUpdate_at (xs := #[]) (n := 0) new rfl ?_ (Nat.zero_le _) (by
    show ((#[] : Array Value) ++ vs.toArray).size ≤ sizeLine + 1
    rw [Array.size_append, List.size_toArray]
    show 0 + vs.length ≤ sizeLine + 1
    omega))
  refine wpAny_pure ?_
  show wpAny (model prog w) A (load s.heap.objs.size >>= fun o => match o.data with
      | .seq xs _ => pure xs.toList
      | _ => unsupported "internal:collect") Q E { s with heap := (s.heap.push (seqObj "list" #[] 0)).update s.heap.objs.size (Obj.mapSeq (· ++ vs.toArray)) }
  refine wpAny_bind (wpAny_load (get?_update_seq new _) ?_)
  show wpAny _ _ (pure ((#[] : Array Value) ++ vs.toArray).toList) Q E _
  rw [show ((#[] : Array Value) ++ vs.toArray).toList = vs by simp]
  exact wpAny_pure h
open PySem.W in
theorem sortedT_data {l : Addr} {Q : Value → Shared → Prop} (hl : s.heap.IsTuple l vs.toArray) (e : EachIs R vs bs) (er : EachIs (fun v b => ∃ as, Reads s.heap v (enc b) as) vs bs) (hal : AllAlike (bs.map enc)) (hk : Sortable (bs.map enc)) (hL : bs.length ≤ sizeLine)
    (hu : ∀ b, b ∈ bs → A.units + 2 + (enc b).depth < cLine) (h : ∀ out, out.length = bs.length → EachIs R out (bs.mergeSort (dataLe false enc)) → Q (.ref (s.heap.objs.size + 1)) { s with heap := sortedAll s.heap vs (List.toArray out) }) :
    wpAny (model prog w) A (call (.builtin "sorted") [.ref l]) Q E s := by
  have er' : EachIs (fun v b => ∃ as, Reads (sortingHeap (copyHeap s.heap vs) (s.heap.objs.size + 1) vs) v (enc b) as) vs bs := er.mono fun _ _ ⟨as, r⟩ => ⟨as, PyProof.Rows.Reads.keeps (fun _ _ => sorting_copy_old) r⟩
  have hz : vs.length ≤ sizeLine := by rw [e.length]; exact hL
  have S := SortsAt.data (prog := prog) (w := w) (A := A.in1.in1) (s := { s with heap := sortingHeap (copyHeap s.heap vs) (s.heap.objs.size + 1) vs }) (each_map (R := fun v d => ∃ as, Reads (sortingHeap (copyHeap s.heap vs) (s.heap.objs.size + 1) vs) v d as) enc er') hal hk (bound_map hu)
  have fin := h _ (by rw [sortVals_length false rfl]; exact e.length) (sortVals_data false e er' hal)
  refine call_function_entry_kw kind_sorted plain_sorted entry_sorted (args_sorted1 _) ?_
  unfold Builtin.«sorted»
  refine wpAny_bind (m := checkCount "sorted" 1 1 _) (wpAny_pure ?_)
  refine wpAny_bind (collect_tup hl hz ?_)
  refine wpAny_bind (wpAny_newList ?_ hz)
  have hsz : ((s.heap.push (seqObj "list" #[] 0)).update s.heap.objs.size (Obj.mapSeq (· ++ vs.toArray))).objs.size = s.heap.objs.size + 1 := by
    rw [Heap.size_update, size_push']
  show wpAny _ _ _ _ _ { s with heap := copyHeap s.heap vs }
  rw [hsz]
  refine wpAny_bind (wpAny_holding (wpAny_call_entry_kw slot_list_sort ⟨_, copyHeap_at s.heap vs, rfl⟩ entry_list_sort ?body (args_list_sort _)))
  case body =>
    show wpAny (model prog w) A.in1.in1 (Builtin.«list.sort» ⟨[.ref (s.heap.objs.size + 1)], []⟩) _ _ _
    exact list_sort_vals (s := { s with heap := copyHeap s.heap vs }) (copyHeap_at s.heap vs) S hz ⟨_, rfl, wpAny_pure ⟨_, rfl, fin⟩⟩
end
section
variable {pins : List (Addr × Obj)} {σ : L2.St} {H : Hp} {s : Shared}
theorem sorted_run {B : Addr → Prop} {a : Addr} {l : List D} {vs : List V} {b : Bool} {kw : List (Str × Value)} {Q : VK} (g : Gxx G X) (hu : X.A.units + 200 < cLine) (I : Inv X pins σ H s) (dm : Dom B H) (t : Rd H a (.lst vs)) (r : reps G B H l vs) (ok : sortOk l = true)
    (hkw : kw = [] ∧ b = false ∨ kw = [(Str.ofString "reverse", .bool b)])
    (p : PostV G B H (.ok (.lst (l.mergeSort (PySem.W.dataLe b D.py)))) Q) : wpAny (model X.prog X.w) X.A (call (.builtin "sorted") [.ref a] kw) (EP X pins σ Q) X.xe s := by
  obtain ⟨hf, hal, hk, hd⟩ := sortOk_of ok
  obtain ⟨hz, its, n, rv, hl, e⟩ := rdL I t
  have hl' : s.heap.IsList a its.toArray := ⟨_, e, rfl, n, rfl⟩
  have el := each_of r rv
  have er : PySem.W.EachIs (fun u d => ∃ as, Reads s.heap u d.py as) its l := each_mono_mem el fun u d hm ⟨x, r1, h1⟩ => Dp.reads I d.py x u (by rw [g.K]; exact rep_dp (flat_mem hf hm) h1) r1
  have hL : l.length ≤ sizeLine := by rw [← reps_len r]; exact hz
  have hb : ∀ d, d ∈ l → X.A.units + 2 + d.py.depth < cLine := fun d hm => by
    have := hd d hm
    rw [dep_py d (flat_mem hf hm)]
    omega
  have fin : ∀ out : List Value, out.length = l.length → PySem.W.EachIs (fun u d => ∃ x, RelV x u ∧ rep G B H d x) out (l.mergeSort (PySem.W.dataLe b D.py)) → EP X pins σ Q (.ref (s.heap.objs.size + 1)) { s with heap := sortedAll s.heap its (List.toArray out) } := fun out ho eo => by
    obtain ⟨ws, w1, w2⟩ := of_each eo
    obtain ⟨ep, he'⟩ := sortedAll_at s.heap its (List.toArray out)
    have hlen : ws.length ≤ sizeLine := by
      rw [w2.length, ho]
      exact hL
    exact ⟨.ref _, upd H (s.heap.objs.size + 1) (.lst ws), I.laid (t' := s.toks) (fun _ _ => sortedAll_old) (Nat.le_succ _) ⟨hlen, _, ep, w2, he'⟩, rfl, p.newL dm w1 _ (I.hok.fresh (Nat.le_succ _))⟩
  rcases hkw with ⟨rfl, rfl⟩ | rfl
  · exact PySem.W.sorted_data hl' el er hal hk hL hb fin
  · exact PySem.W.sorted_rev_data hl' el er hal hk hL hb fin
theorem sortedT_run {B : Addr → Prop} {a : Addr} {l : List D} {vs : List V} {Q : VK} (g : Gxx G X) (hu : X.A.units + 200 < cLine) (I : Inv X pins σ H s) (dm : Dom B H) (t : SqT G.K H a vs) (r : reps G B H l vs) (ok : sortOk l = true)
    (p : PostV G B H (.ok (.lst (l.mergeSort (PySem.W.dataLe false D.py)))) Q) : wpAny (model X.prog X.w) X.A (call (.builtin "sorted") [.ref a]) (EP X pins σ Q) X.xe s := by
  obtain ⟨hf, hal, hk, hd⟩ := sortOk_of ok
  rw [← g.K] at t
  obtain ⟨its, rv, hl', hz⟩ := I.tuple t
  have el := each_of r rv
  have er : PySem.W.EachIs (fun u d => ∃ as, Reads s.heap u d.py as) its l := each_mono_mem el fun u d hm ⟨x, r1, h1⟩ => Dp.reads I d.py x u (by rw [g.K]; exact rep_dp (flat_mem hf hm) h1) r1
  have hL : l.length ≤ sizeLine := by rw [← reps_len r]; exact hz
  have hb : ∀ d, d ∈ l → X.A.units + 2 + d.py.depth < cLine := fun d hm => by
    have := hd d hm
    rw [dep_py d (flat_mem hf hm)]
    omega
  refine sortedT_data hl' el er hal hk hL hb fun out ho eo => ?_
  obtain ⟨ws, w1, w2⟩ := of_each eo
  obtain ⟨ep, he'⟩ := sortedAll_at s.heap its (List.toArray out)
  have hlen : ws.length ≤ sizeLine := by
    rw [w2.length, ho]
    exact hL
  exact ⟨.ref _, upd H (s.heap.objs.size + 1) (.lst ws), I.laid (t' := s.toks) (fun _ _ => sortedAll_old) (Nat.le_succ _) ⟨hlen, _, ep, w2, he'⟩, rfl, p.newL dm w1 _ (I.hok.fresh (Nat.le_succ _))⟩
end
/-- list(d): the keys of a dict whose keys are numbers and texts -/
theorem keys_listed {pins : List (Addr × Obj)} {σ : L2.St} {H : Hp} {s : Shared} {d : Addr} {kvs : List (Key × V)} {Q : VK} (hc : X.calm = true) (I : Inv X pins σ H s) (t : Rd H d (.dK kvs))
    (q : ∀ p, H p = none → Q (.ref p) (upd H p (.lst (kvs.map fun kv => kV kv.1)))) : wpAny (model X.prog X.w) X.A (call (.type "list") [.ref d]) (EP X pins σ Q) X.xe s := by
  obtain ⟨hz, hs, us, rel, hd⟩ := dk_rd I.hok t
  have hlen := rel.length
  obtain ⟨n, hn⟩ := hd.dictAt
  refine PySem.W.kdl_call (PySem.W.kdl_dict (knd := mixKind X.prog X.w) (kvs := us) (ep := n) hs) (I.ok.hd hc) hn (by omega) fun h2 tk arr c kp hat items => ?_
  have hv : Vals (kvs.map fun kv => kV kv.1) arr.toList := by
    refine vals_of_at ?_ fun j x u h1 h3 => ?_
    · have e0 := items.1
      simp only [List.length_map, Array.length_toList]
      omega
    · obtain ⟨k, y, e1, e2⟩ := items.2 j u (by rw [← Array.getElem?_toList]; exact h3)
      have e3 : (kvs.map (·.1))[j]? = some k := by
        rw [rel.keys, List.getElem?_map, e1]
        rfl
      rw [List.getElem?_map] at h1 e3
      cases e4 : kvs[j]? with
      | none =>
        rw [e4] at h1
        cases h1
      | some kv =>
        rw [e4] at h1 e3
        have e5 : kv.1 = k := Option.some.inj e3
        have e6 : kV kv.1 = x := Option.some.inj h1
        rw [← e6, e5]
        exact keyIs_rel e2
  have hob : ObjOk X.prog X.w (upd H s.heap.objs.size (.lst (kvs.map fun kv => kV kv.1))) h2 s.heap.objs.size (.lst (kvs.map fun kv => kV kv.1)) := ⟨by rw [List.length_map]; exact hz, arr.toList, c, hv, by rw [Array.toArray_toList]; exact hat⟩
  exact ⟨.ref s.heap.objs.size, _, I.laid kp (Nat.le_refl _) hob, rfl, q _ (I.hok.fresh (Nat.le_refl _))⟩
theorem rep_kV {B : Addr → Prop} {H : Hp} (k : Key) : rep G B H (keyD k) (kV k) := by
  cases k with
  | inl i => exact (rfl : V.int i = V.int i)
  | inr x => exact (rfl : V.str x = V.str x)
theorem reps_kV {B : Addr → Prop} {H : Hp} : ∀ kvs : List (Key × V), reps G B H (kvs.map fun p => keyD p.1) (kvs.map fun kv => kV kv.1)
  | [] => rfl
  | p :: kvs => ⟨kV p.1, _, rfl, rep_kV p.1, reps_kV kvs⟩
theorem reps_kVs {B : Addr → Prop} {H : Hp} : ∀ ks : List Key, reps G B H (ks.map keyD) (ks.map kV)
  | [] => rfl
  | k :: ks => ⟨kV k, _, rfl, rep_kV k, reps_kVs ks⟩
theorem reps_isKeys {B : Addr → Prop} {H : Hp} (dm : Dom B H) : ∀ {kvs : List (List Key × V)} {bs : List Addr}, IsKeys H kvs bs → reps G B H (kvs.map fun p => D.tup (p.1.map keyD)) (bs.map V.ref) := fun {kvs bs} h => by
  unfold IsKeys at h
  induction h with
  | nil => exact rfl
  | @cons p b kvs bs h t ih => exact ⟨.ref b, _, rfl, ⟨b, _, rfl, ⟨h, dm.tup h⟩, reps_kVs _⟩, ih⟩
theorem cr_blt (g : Gxx G X) (hu : X.A.units + 200 < cLine) (hc : X.calm = true) (f : BF) : CallR X f.val (rBlt G f) := by
  intro pins s σ H vs us Q I r h
  obtain ⟨B, ds, dm, hr, p⟩ := h
  cases f with
  | len =>
    cases ds with
    | nil => exact p.elim
    | cons d ds =>
      cases ds with
      | cons e ds => exact p.elim
      | nil =>
        obtain ⟨v, rfl, hv⟩ := repTs1 hr
        have p : PostV G B H (lenD d) Q := p
        cases d with
        | tup l =>
          obtain ⟨a, ws, rfl, t, q⟩ := hv
          exact call_len pins s σ H _ us Q I r ⟨_, _, rfl, .inr ⟨ws, sq_of g t, rfl⟩, by rw [reps_len q]; exact PostV.at_ p rfl⟩
        | lst l =>
          obtain ⟨a, ws, rfl, t, q⟩ := hv
          exact call_len pins s σ H _ us Q I r ⟨_, _, rfl, .inl ⟨ws, Rd.sq t, rfl⟩, by rw [reps_len q]; exact PostV.at_ p rfl⟩
        | str z =>
          have ev : v = .str z := hv
          subst ev
          obtain ⟨c, p⟩ := PostV.iff (b := decide (z.length ≤ LIM)) p
          have c := of_decide_eq_true c
          rw [lim_eq] at c
          exact call_len pins s σ H _ us Q I r ⟨_, _, rfl, ⟨c, rfl⟩, p.at_ rfl⟩
        | dct t ks l =>
          cases t with
          | zero =>
            obtain ⟨a, ws, rfl, dd, q⟩ := hv
            rcases dd with ⟨kvs, _, e1, rfl, rfl⟩ | ⟨kvs, t0, e1, rfl, rfl⟩ | ⟨t0, _⟩
            · obtain ⟨u, rfl, ru⟩ := vals1 r
              cases ru
              exact d_len I e1 fun t s' I' => ⟨.int kvs.length, H, I', ⟨t, rfl⟩, by
                have p : PostV G B H (.ok (.int ((kvs.map fun p => keyD p.1).length))) Q := p
                rw [List.length_map] at p
                exact p.at_ rfl⟩
            · cases t0
            · cases t0
          | succ t => exact p.elim
        | _ => exact p.elim
  | sum =>
    match ds, p, hr with
    | [.lst l], p, hr =>
      obtain ⟨v, rfl, a, ws, rfl, t, q⟩ := repTs1 hr
      have p : PostV G B H ((R.ofO (intsD l)).bind fun ns => .ok (.int ns.sum)) Q := p
      cases e : intsD l with
      | none =>
        rw [e] at p
        exact p.elim
      | some ns =>
        rw [e] at p
        have ew := reps_ints q e
        subst ew
        exact cr_sum hc pins s σ H _ us Q I r ⟨a, ns, rfl, Rd.sq t, PostV.at_ p rfl⟩
  | sorted =>
    match ds, p, hr with
    | [.lst l], p, hr =>
      obtain ⟨v, rfl, a, ws, rfl, t, q⟩ := repTs1 hr
      obtain ⟨c, p⟩ := PostV.iff (b := sortOk l && decide (l.length ≤ LIM)) p
      rw [Bool.and_eq_true] at c
      obtain ⟨u, rfl, ru⟩ := vals1 r
      cases ru
      exact sorted_run (b := false) (kw := []) g hu I dm t q c.1 (.inl ⟨rfl, rfl⟩) p
    | [.tup l], p, hr =>
      obtain ⟨v, rfl, a, ws, rfl, t, q⟩ := repTs1 hr
      obtain ⟨c, p⟩ := PostV.iff (b := sortOk l && decide (l.length ≤ LIM)) p
      rw [Bool.and_eq_true] at c
      obtain ⟨u, rfl, ru⟩ := vals1 r
      cases ru
      exact sortedT_run g hu I dm t.sq q c.1 p
  | tuple =>
    match ds, p, hr with
    | [.lst l], p, hr =>
      obtain ⟨v, rfl, a, ws, rfl, t, q⟩ := repTs1 hr
      exact call_tuple_of pins s σ H _ us Q I r ⟨a, ws, rfl, .inl ⟨Rd.sq t, PostV.newT p dm q⟩⟩
    | [.tup l], p, hr =>
      obtain ⟨v, rfl, a, ws, rfl, t, q⟩ := repTs1 hr
      exact call_tuple_of pins s σ H _ us Q I r ⟨a, ws, rfl, .inr ⟨sq_of g t, PostV.at_ p ⟨a, ws, rfl, t, q⟩⟩⟩
  | list =>
    match ds, p, hr with
    | [.lst l], p, hr =>
      obtain ⟨v, rfl, a, ws, rfl, t, q⟩ := repTs1 hr
      exact call_list_of pins s σ H _ us Q I r ⟨a, ws, rfl, .inl (Rd.sq t), PostV.newL p dm q⟩
    | [.tup l], p, hr =>
      obtain ⟨v, rfl, a, ws, rfl, t, q⟩ := repTs1 hr
      exact call_list_of pins s σ H _ us Q I r ⟨a, ws, rfl, .inr (sq_of g t), PostV.newL p dm q⟩
    | [.dct t ks l], p, hr =>
      obtain ⟨v, rfl, a, ws, rfl, dd, q⟩ := repTs1 hr
      obtain ⟨n2, p⟩ := PostV.iff (b := decide (t ≠ 2)) (r := .ok (.lst ks)) p
      rcases dd with ⟨kvs, _, e1, rfl, rfl⟩ | ⟨kvs, t0, e1, rfl, rfl⟩ | ⟨rfl, _⟩
      · obtain ⟨u, rfl, ru⟩ := vals1 r
        cases ru
        exact keys_listed hc I e1 (p.newL dm (reps_kV kvs))
      · exact call_list_dT hc pins s σ H _ us Q I r ⟨a, kvs, rfl, e1, fun p' bs n ik => p.newL dm (reps_isKeys dm ik) _ n⟩
      · exact absurd n2 (by decide)
  | min =>
    match ds, p, hr with
    | [.int i, .int j], p, hr =>
      obtain ⟨v, w, rfl, h1, h2⟩ := repTs2 hr
      have h1 : v = .int i := h1
      have h2 : w = .int j := h2
      subst h1 h2
      exact call_min2 hc pins s σ H _ us Q I r ⟨i, j, rfl, PostV.at_ p rfl⟩
  | max =>
    match ds, p, hr with
    | [.int i, .int j], p, hr =>
      obtain ⟨v, w, rfl, h1, h2⟩ := repTs2 hr
      have h1 : v = .int i := h1
      have h2 : w = .int j := h2
      subst h1 h2
      exact call_max2 hc pins s σ H _ us Q I r ⟨i, j, rfl, PostV.at_ p rfl⟩
  | any =>
    match ds, p, hr with
    | [.lst l], p, hr =>
      obtain ⟨v, rfl, a, ws, rfl, t, q⟩ := repTs1 hr
      have p : PostV G B H ((R.ofO (bools l)).bind fun ns => .ok (.bl (ns.any id))) Q := p
      cases e : bools l with
      | none =>
        rw [e] at p
        exact p.elim
      | some ns =>
        rw [e] at p
        have ew := reps_bools q e
        subst ew
        exact cr_any hc pins s σ H _ us Q I r ⟨a, ns, rfl, Rd.sq t, PostV.at_ p rfl⟩
  | int =>
    match ds, p, hr with
    | [.int i], p, hr =>
      obtain ⟨v, rfl, h1⟩ := repTs1 hr
      have h1 : v = .int i := h1
      subst h1
      exact call_int1 pins s σ H _ us Q I r (.inl ⟨i, rfl, PostV.at_ p rfl⟩)
    | [.bl b], p, hr =>
      obtain ⟨v, rfl, h1⟩ := repTs1 hr
      have h1 : v = .bl b := h1
      subst h1
      exact call_int1 pins s σ H _ us Q I r (.inr ⟨b, rfl, PostV.at_ p rfl⟩)
    | [.str z], p, hr =>
      obtain ⟨v, rfl, h1⟩ := repTs1 hr
      have h1 : v = .str z := h1
      subst h1
      obtain ⟨c, p⟩ := PostV.iff (b := decide (z.length ≤ 640)) p
      cases e : PySem.intText? z with
      | none =>
        rw [e] at p
        exact p.elim
      | some n =>
        rw [e] at p
        exact call_int_str pins s σ H _ us Q I r ⟨z, n, rfl, e, of_decide_eq_true c, PostV.at_ p rfl⟩
  | abs =>
    match ds, p, hr with
    | [.int i], p, hr =>
      obtain ⟨v, rfl, h1⟩ := repTs1 hr
      have h1 : v = .int i := h1
      subst h1
      exact call_abs pins s σ H _ us Q I r ⟨i, rfl, PostV.at_ p rfl⟩
  | str =>
    match ds, p, hr with
    | [.int i], p, hr =>
      obtain ⟨v, rfl, h1⟩ := repTs1 hr
      have h1 : v = .int i := h1
      subst h1
      obtain ⟨c, p⟩ := PostV.iff (b := decide (i.natAbs.log2 < 1920)) p
      exact call_str_int pins s σ H _ us Q I r ⟨i, rfl, of_decide_eq_true c, PostV.at_ p rfl⟩
  | dict => cases ds <;> exact p.elim
  | range => cases ds <;> exact p.elim
end
end Ir

/-! Ir4i: what loops walk. -/
namespace Ir
open PySem L2 PyProof.Rows

/-- a list (false) or a tuple (true) that is read -/
def SqS (t : Bool) (K : PySem.W.Frag) (H : Hp) (a : Addr) (xs : List V) : Prop := match t with
  | true => SqT K H a xs
  | false => SqL K H a xs
def IsS (t : Bool) (h : Heap) (a : Addr) (its : Array Value) : Prop := match t with
  | true => h.IsTuple a its
  | false => h.IsList a its
def ItS (t : Bool) (h : Heap) (i a : Addr) (n : Nat) : Prop := match t with
  | true => h.IsTupleIter i a n
  | false => h.IsListIter i a n
section
variable {X : Cx} {pins : List (Addr × Obj)} {σ : L2.St} {H : Hp} {s : Shared} {a : Addr} {xs ys : List V} {t : Bool}
theorem sqS (I : Inv X pins σ H s) (h : SqS t X.K H a xs) : ∃ its : List Value, Vals xs its ∧ IsS t s.heap a its.toArray ∧ xs.length ≤ sizeLine := by
  cases t with
  | true =>
    obtain ⟨its, r, p, z⟩ := I.tuple h
    exact ⟨its, r, p, z⟩
  | false =>
    obtain ⟨its, r, p, z⟩ := I.list h
    exact ⟨its, r, p.isList, z⟩
theorem sqS_inj (I : Inv X pins σ H s) (h : SqS t X.K H a xs) (h' : SqS t X.K H a ys) : xs = ys := by
  cases t with
  | true => exact I.tuple_inj h h'
  | false => exact I.list_inj h h'
theorem IsS.lt {h : Heap} {its : Array Value} (p : IsS t h a its) : a < h.objs.size := by
  cases t with
  | true =>
    obtain ⟨_, e, _⟩ := p
    exact Heap.lt_size e
  | false =>
    obtain ⟨_, e, _⟩ := p
    exact Heap.lt_size e
theorem ItS.obj {h : Heap} {i : Addr} {n : Nat} (p : ItS t h i a n) : ∃ o, h.get? i = some o ∧ ∀ v, o.data ≠ .cell v := by
  cases t with
  | true =>
    obtain ⟨o, e, _, d⟩ := p
    exact ⟨o, e, fun v q => by rw [d] at q; cases q⟩
  | false =>
    obtain ⟨o, e, _, d⟩ := p
    exact ⟨o, e, fun v q => by rw [d] at q; cases q⟩
theorem ItS.stay {h h' : Heap} {i : Addr} {n : Nat} (p : ItS t h i a n) (k : ∀ o, h.get? i = some o → h'.get? i = some o) : ItS t h' i a n := by
  cases t with
  | true => exact Heap.IsTupleIter.at p k
  | false => exact Heap.IsListIter.at p k
theorem drawsS {prog : Program} {w : World} {A : Around} (t : Bool) (hh : A.handled = none) (it l : Addr) (hne : l ≠ it) (its : Array Value) :
    Draws prog w A it [it, l] its.size (fun i v => its[i]? = some v) (fun i h => ItS t h it l i ∧ IsS t h l its) := by
  cases t with
  | true => exact Draws.tuple hh it l hne its
  | false => exact Draws.list hh it l hne its
/-- iter(..) -/
def beginObj (t : Bool) (l : Addr) : Obj := match t with
  | true => { cls := .type "tuple_iterator", data := .fields #[.ref l, .int 0 0] }
  | false => { cls := .type "list_iterator", data := .fields #[.ref l, .int 0 0] }
theorem beginsS (t : Bool) (l : Addr) (its : Array Value) : Begins (.ref l) (beginObj t l) fun h => IsS t h l its := by
  cases t with
  | true => exact begins_tuple l its
  | false => exact begins_list l its
theorem ItS.begun {h : Heap} {i : Addr} (e : h.get? i = some (beginObj t a)) : ItS t h i a 0 := by
  cases t with
  | true => exact ⟨_, e, rfl, rfl⟩
  | false => exact ⟨_, e, rfl, rfl⟩
end

/-! ### zip -/
def ItzS (s t : Bool) (K : PySem.W.Frag) (a b : Addr) : It :=
  ⟨fun i H => ∃ (xs ys : List V) (x y : V), SqS s K H a xs ∧ SqS t K H b ys ∧ xs[i]? = some x ∧ ys[i]? = some y,
    fun i H v H' => ∃ T x y, v = .ref T ∧ H T = none ∧ H' = upd H T (.tup [x, y]) ∧ (∀ xs, SqS s K H a xs → xs[i]? = some x) ∧ ∀ ys, SqS t K H b ys → ys[i]? = some y,
    fun i H => ∃ xs ys : List V, SqS s K H a xs ∧ SqS t K H b ys ∧ min xs.length ys.length = i⟩
structure Zap (z TI TO i1 i2 a b : Addr) : Prop where
  sep : ZipSep2 z TI TO i1 i2 [i1, a] [i2, b]
  ai : a ≠ i1
  bi : b ≠ i2
theorem turn_zipS {P : Program} {w : World} {K : PySem.W.Frag} {elts : List Expr} {kk : Nat} {tpos : Pos} {p q : Bool} {a b z TI TO i1 i2 : Addr} (D : Zap z TI TO i1 i2 a b) :
    Turn P w K (.Tuple elts kk tpos) (ItzS p q K a b) [z, TI, TO, i1, i2] z (fun i h => IsZip h z TI TO .none ∧ IsTupOf2 h TI (.ref i1) (.ref i2) ∧ (∃ x y, IsTupOf2 h TO x y) ∧ ItS p h i1 a i ∧ ItS q h i2 b i) where
  mem := by simp
  obj := fun i h st c hc => by
    obtain ⟨hz, hTI, ⟨x, y, hTO⟩, h1, h2⟩ := st
    rcases (show c = z ∨ c = TI ∨ c = TO ∨ c = i1 ∨ c = i2 by simpa using hc) with e | e | e | e | e
    · rw [e]
      exact ⟨_, hz, fun v q => nomatch q⟩
    · rw [e]
      exact ⟨_, hTI, fun v q => nomatch q⟩
    · rw [e]
      exact ⟨_, hTO, fun v q => nomatch q⟩
    · rw [e]
      exact h1.obj
    · rw [e]
      exact h2.obj
  keep := fun i h h' st k => by
    obtain ⟨hz, hTI, ⟨x, y, hTO⟩, h1, h2⟩ := st
    exact ⟨k z (by simp) _ hz, k TI (by simp) _ hTI, ⟨x, y, k TO (by simp) _ hTO⟩, h1.stay fun o e => k i1 (by simp) o e, h2.stay fun o e => k i2 (by simp) o e⟩
  item := by
    intro X hP hw hK hc i pins s σ H E I hf st hg
    subst hP hw hK
    obtain ⟨xs, ys, x, y, hqx, hqy, hx, hy⟩ := hg
    obtain ⟨its, rv, p1, _⟩ := sqS I hqx
    obtain ⟨its2, rv2, p2, _⟩ := sqS I hqy
    have hh : X.A.in1.handled = none := I.ok.hd hc
    have W := GoesN.zip2 (elts := elts) (x1 := kk) (pos := tpos) D.sep (drawsS (prog := X.prog) (w := X.w) p hh i1 a D.ai its.toArray) (drawsS q hh i2 b D.bi its2.toArray)
    have l1 : i < its.toArray.size := by
      have := (List.getElem?_eq_some_iff.mp hx).1
      have := rv.length
      simp only [List.size_toArray]
      omega
    have l2 : i < its2.toArray.size := by
      have := (List.getElem?_eq_some_iff.mp hy).1
      have := rv2.length
      simp only [List.size_toArray]
      omega
    obtain ⟨hz, hTI, hTO, h1, h2⟩ := st
    refine wpAny_mono (W.goes i s (fun v s2 => ∃ x H', Inv X pins σ H' s2 ∧ RelV x v ∧ (ItzS p q X.K a b).yld i H x H' ∧ (IsZip s2.heap z TI TO .none ∧ IsTupOf2 s2.heap TI (.ref i1) (.ref i2) ∧ (∃ x y, IsTupOf2 s2.heap TO x y) ∧ ItS p s2.heap i1 a (i + 1) ∧ ItS q s2.heap i2 b (i + 1)) ∧ ∀ b ∈ [z, TI, TO, i1, i2], H' b = none) E
      (by omega) ⟨hz, hTI, hTO, ⟨h1, p1⟩, h2, p2⟩ fun v h' tk hY st' hk _ => ?_) (fun r s1 h => ?_) fun _ _ e => e
    · obtain ⟨T, u, u2, rfl, hT, hu, hu2, o, ho, hcl, n, hd⟩ := hY
      obtain ⟨w1, e1, ru⟩ := rv.get hx
      obtain ⟨w2, e2, ru2⟩ := rv2.get hy
      have eu : u = w1 := by
        have e : its[i]? = some u := by simpa using hu
        rw [e1] at e
        exact (Option.some.inj e).symm
      have eu2 : u2 = w2 := by
        have e : its2[i]? = some u2 := by simpa using hu2
        rw [e2] at e
        exact (Option.some.inj e).symm
      subst eu eu2
      have nT : H T = none := I.hok.fresh hT
      have new : ObjOk X.prog X.w (upd H T (.tup [x, y])) h' T (.tup [x, y]) := ⟨by show 2 ≤ sizeLine; decide, [u, u2], .cons ru (.cons ru2 .nil), ⟨o, ho, hcl, n, hd⟩⟩
      have hfr : ∀ c ∈ [z, TI, TO, i1, i2], c < s.heap.objs.size := fun c hcm => by
        rcases (show c = z ∨ c = TI ∨ c = TO ∨ c = i1 ∨ c = i2 by simpa using hcm) with e | e | e | e | e
        · rw [e]
          exact Heap.lt_size hz
        · rw [e]
          exact Heap.lt_size hTI
        · rw [e]
          obtain ⟨_, _, q⟩ := hTO
          exact Heap.lt_size q
        · rw [e]
          obtain ⟨_, q, _⟩ := h1.obj
          exact Heap.lt_size q
        · rw [e]
          obtain ⟨_, q, _⟩ := h2.obj
          exact Heap.lt_size q
      have I1 : Inv X pins σ (upd H T (.tup [x, y])) { s with heap := h', toks := tk } := I.turnedNew (ch := [z, TI, TO, i1, i2]) (fun c ob hb e => hk c ob (fun m => hb (by
        rcases (show c = z ∨ c = TO ∨ c = i1 ∨ c = i2 by simpa using m) with q | q | q | q <;> simp [q])) e) hf hT new
      obtain ⟨z', TI', TO', st1, st2⟩ := st'
      refine ⟨.ref T, _, I1, rfl, ⟨T, x, y, rfl, nT, rfl, fun l hl => by rw [sqS_inj I hl hqx]; exact hx, fun l hl => by rw [sqS_inj I hl hqy]; exact hy⟩, ⟨z', TI', TO', st1.1, st2.1⟩, fun c hcm => ?_⟩
      rw [upd_ne (Nat.ne_of_lt (Nat.lt_of_lt_of_le (hfr c hcm) hT))]
      exact (hf c hcm).1
    · obtain ⟨u, hu, h⟩ := h
      exact ⟨u, hu, h⟩
  done := by
    intro X hP hw hK hc i pins s σ H E I hf st hg
    subst hP hw hK
    obtain ⟨xs, ys, hqx, hqy, hend⟩ := hg
    obtain ⟨its, rv, p1, _⟩ := sqS I hqx
    obtain ⟨its2, rv2, p2, _⟩ := sqS I hqy
    have hh : X.A.in1.handled = none := I.ok.hd hc
    have W := GoesN.zip2 (elts := elts) (x1 := kk) (pos := tpos) D.sep (drawsS (prog := X.prog) (w := X.w) p hh i1 a D.ai its.toArray) (drawsS q hh i2 b D.bi its2.toArray)
    have en : min its.toArray.size its2.toArray.size = i := by
      rw [List.size_toArray, List.size_toArray, ← rv.length, ← rv2.length]
      exact hend
    obtain ⟨hz, hTI, hTO, h1, h2⟩ := st
    refine W.stops s (fun s1 => Inv X pins σ H s1) E (by rw [en]; exact ⟨hz, hTI, hTO, ⟨h1, p1⟩, h2, p2⟩) fun h' tk hk _ => ?_
    exact I.turnedL (t' := tk) (ch := [z, TI, TO, i1, i2]) (fun c ob hb e => hk c ob (fun m => hb (by
        rcases (show c = z ∨ c = TO ∨ c = i1 ∨ c = i2 by simpa using m) with q | q | q | q <;> simp [q])) e) hf
  self := fun A i s Q E st h => wpAny_pyIter_zip st.1 h
theorem zap_new {N a b : Addr} (ha : a < N) (hb : b < N) : Zap (N + 4) (N + 2) (N + 3) N (N + 1) a b :=
  ⟨zip_sep2 (N := N) (fp1 := [a]) (fp2 := [b]) (fun c hc => by
    have e : c = a := by simpa using hc
    rw [e]
    exact ha) (fun c hc => by
    have e : c = b := by simpa using hc
    rw [e]
    exact hb), Nat.ne_of_lt ha, Nat.ne_of_lt (Nat.lt_succ_of_lt hb)⟩
def iZipS (K : PySem.W.Frag) (ta : TA) : TI := fun σ H R => ta σ H fun vs H1 => ∃ p q a b xs ys, vs = [.ref a, .ref b] ∧ SqS p K H1 a xs ∧ SqS q K H1 b ys ∧ R (ItzS p q K a b) H1
theorem fresh_fp {X : Cx} {pins : List (Addr × Obj)} {σ : L2.St} {H : Hp} {s : Shared} (I : Inv X pins σ H s) {l : List Addr} (h : ∀ c ∈ l, s.heap.objs.size ≤ c) : ∀ c ∈ l, FpOk X pins H c := fun c hc => I.fpOk (h c hc) (I.hok.fresh (h c hc))
theorem pi_zipS {X : Cx} {e e2 : Expr} {ta : TA} {p pos tpos : Pos} {elts : List Expr} {kk : Nat} (hg : Gl X "zip") (hm : X.mg "zip" = none) (ha : PA X [e, e2] ta)
    (hs : starEach [e, e2] X.env = (false, eval e X.env) :: starEach [e2] X.env) (hpl : (backTo pos (starEach [e2] X.env)).any (·.1) = false) :
    PI X (.Tuple elts kk tpos) (.Call (.Name "zip" p) [e, e2] [] pos) (iZipS X.K ta) := by
  refine ⟨fun pins s σ H R I h => ?_⟩
  refine Call_ (ld_blt I hg hm PyProof.Rows.boot_zip (PyProof.Rows.callWith_type1 (thn (ha.run pos pins s σ H _ I h) fun us s1 ⟨vs, H1, I1, r1, q1⟩ => ?_) hs hpl))
  obtain ⟨sa, sb, a, b, xs, ys, rfl, hqx, hqy, q⟩ := q1
  obtain ⟨u1, u2, rfl, ra, rb⟩ := vals2 r1
  cases ra
  cases rb
  obtain ⟨its, rv, p1, _⟩ := sqS I1 hqx
  obtain ⟨its2, rv2, p2, _⟩ := sqS I1 hqy
  refine zip_begins2 (beginsS sa a its.toArray) (beginsS sb b its2.toArray) p1 p2 fun h' hz hTI hTO h1 h2 hsz hk => wpAny_pyIter_zip hz ?_
  have I2 : Inv X pins σ H1 { s1 with heap := h' } := I1.kept (t' := s1.toks) hk
  refine ⟨s1.heap.objs.size + 4, [s1.heap.objs.size + 4, s1.heap.objs.size + 2, s1.heap.objs.size + 3, s1.heap.objs.size, s1.heap.objs.size + 1], _, _, H1, rfl, I2, turn_zipS (zap_new p1.lt p2.lt), ⟨hz, hTI, ⟨_, _, hTO⟩, .begun h1, .begun h2⟩, fresh_fp I1 fun c hc => ?_, q⟩
  rcases (show c = s1.heap.objs.size + 4 ∨ c = s1.heap.objs.size + 2 ∨ c = s1.heap.objs.size + 3 ∨ c = s1.heap.objs.size ∨ c = s1.heap.objs.size + 1 by simpa using hc) with e | e | e | e | e <;> rw [e]
  · exact Nat.le_add_right _ _
  · exact Nat.le_add_right _ _
  · exact Nat.le_add_right _ _
  · exact Nat.le_refl _
  · exact Nat.le_add_right _ _

/-! ### enumerate -/
set_option maxHeartbeats 1000000 in
theorem enum_makes {v : Value} {o : Obj} {J : Heap → Prop} (B : Begins v o J) :
    Meets (Builtin.«enumerate.__new__» ⟨[.type "enumerate", v], []⟩) (fun _ R s => J s.heap ∧
      R (.ok (.ret (.ref (s.heap.push o).objs.size))) { s with heap := (s.heap.push o).push { cls := .type "enumerate", data := .fields #[.none, .bool false, .ref s.heap.objs.size, rawInt 0, .none, .none] } }) :=
  .of_wp fun prog w A R s h => by
    obtain ⟨hp, g, d, tk, os⟩ := s
    obtain ⟨h1, h⟩ := h
    have hsub := sub_enumerate
    have bg : ∀ {A' : Around} {E : Value → Shared → Prop} {Q : Value → Shared → Prop}, Q (.ref hp.objs.size) ⟨hp.push o, g, d, tk, os⟩ → wpAny (model prog w) A' (pyIter v) Q E ⟨hp, g, d, tk, os⟩ :=
      fun q => B.iter prog w _ _ ⟨hp, g, d, tk, os⟩ _ h1 q
    wp_walk using bg
    refine wpAny_stack_any fun st => wpAny_pure ?_
    split
    · rename_i c _ _ _ _ _
      cases (c == Value.type "enumerate") <;> wp_walk using bg <;> exact ⟨_, rfl, h⟩
    · wp_walk using bg
      exact ⟨_, rfl, h⟩
theorem enum_call {prog : Program} {w : World} {A : Around} {E : Value → Shared → Prop} {s : Shared} {v : Value} {o : Obj} {J : Heap → Prop} {Q : Value → Shared → Prop} (B : Begins v o J) (h1 : J s.heap)
    (h : ∀ h', IsEnum h' (s.heap.objs.size + 1) s.heap.objs.size 0 .none → h'.get? s.heap.objs.size = some o → (∀ b o, s.heap.get? b = some o → h'.get? b = some o) → Q (.ref (s.heap.objs.size + 1)) { s with heap := h' }) :
    wpAny (model prog w) A (call (.type "enumerate") [v]) Q E s := by
  refine callType_new F.called_enumerate (by decide) (F.typeCall_enumerate_1 _) (F.newCall_enumerate_1 _) (fun obj => F.args_object_init_2 obj _) F.entry_enumerate_new (enum_makes B) ⟨h1, ?_⟩
  have hz : (s.heap.push o).objs.size = s.heap.objs.size + 1 := Heap.size_push ..
  show _ ∧ _
  rw [hz]
  have he : IsEnum ((s.heap.push o).push { cls := .type "enumerate", data := .fields #[.none, .bool false, .ref s.heap.objs.size, rawInt 0, .none, .none] }) (s.heap.objs.size + 1) s.heap.objs.size 0 .none := by
    have q := Heap.get?_push_size (s.heap.push o) (o := { cls := .type "enumerate", data := .fields #[.none, .bool false, .ref s.heap.objs.size, rawInt 0, .none, .none] }) rfl
    rw [hz] at q
    exact q
  exact ⟨⟨_, he, rfl⟩, h _ he (Heap.get?_push_of_some _ (Heap.get?_push_size _ B.free)) fun b o x => Heap.get?_push_of_some _ (Heap.get?_push_of_some _ x)⟩
def IteS (t : Bool) (K : PySem.W.Frag) (a : Addr) : It :=
  ⟨fun i H => ∃ (xs : List V) (x : V), SqS t K H a xs ∧ xs[i]? = some x, fun i H v H' => ∃ T x, v = .ref T ∧ H T = none ∧ H' = upd H T (.tup [.int (i : Nat), x]) ∧ ∀ xs, SqS t K H a xs → xs[i]? = some x, fun i H => ∃ xs : List V, SqS t K H a xs ∧ xs.length = i⟩
theorem turn_enumS {P : Program} {w : World} {K : PySem.W.Frag} {elts : List Expr} {kk : Nat} {tpos : Pos} {t : Bool} {a e it : Addr} (hei : e ≠ it) (hea : e ≠ a) (hai : a ≠ it) :
    Turn P w K (.Tuple elts kk tpos) (IteS t K a) [e, it] e (fun i h => (∃ old, IsEnum h e it ((i : Nat) : Int) old) ∧ ItS t h it a i) where
  mem := by simp
  obj := fun i h st c hc => by
    obtain ⟨⟨old, he⟩, h1⟩ := st
    rcases (show c = e ∨ c = it by simpa using hc) with q | q
    · rw [q]
      exact ⟨_, he, fun v q => nomatch q⟩
    · rw [q]
      exact h1.obj
  keep := fun i h h' st k => by
    obtain ⟨⟨old, he⟩, h1⟩ := st
    exact ⟨⟨old, k e (by simp) _ he⟩, h1.stay fun o q => k it (by simp) o q⟩
  item := by
    intro X hP hw hK hc i pins s σ H E I hf st hg
    subst hP hw hK
    obtain ⟨xs, x, hqx, hx⟩ := hg
    obtain ⟨its, rv, p1, _⟩ := sqS I hqx
    have hh : X.A.in1.handled = none := I.ok.hd hc
    have W := GoesN.enumFrom (elts := elts) (x1 := kk) (pos := tpos) 0 (drawsS (prog := X.prog) (w := X.w) t hh it a hai its.toArray) e hei (by simp [hei, hea]) (by simp)
    have l1 : i < its.toArray.size := by
      have := (List.getElem?_eq_some_iff.mp hx).1
      have := rv.length
      simp only [List.size_toArray]
      omega
    obtain ⟨⟨old, he⟩, h1⟩ := st
    have z : ∀ n : Nat, (0 : Int) + (n : Int) = (n : Int) := fun n => Int.zero_add _
    refine wpAny_mono (W.goes i s (fun v s2 => ∃ x H', Inv X pins σ H' s2 ∧ RelV x v ∧ (IteS t X.K a).yld i H x H' ∧ ((∃ old, IsEnum s2.heap e it ((i + 1 : Nat) : Int) old) ∧ ItS t s2.heap it a (i + 1)) ∧ ∀ b ∈ [e, it], H' b = none) E
      l1 ⟨⟨old, by rw [z]; exact he⟩, h1, p1⟩ fun v h' tk hY st' hk _ => ?_) (fun r s1 h => ?_) fun _ _ e => e
    · obtain ⟨T, tt, u, rfl, hT, hu, o, ho, hcl, n, hd⟩ := hY
      obtain ⟨w1, e1, ru⟩ := rv.get hx
      have eu : u = w1 := by
        have e : its[i]? = some u := by simpa using hu
        rw [e1] at e
        exact (Option.some.inj e).symm
      subst eu
      have nT : H T = none := I.hok.fresh hT
      have new : ObjOk X.prog X.w (upd H T (.tup [.int (i : Nat), x])) h' T (.tup [.int (i : Nat), x]) := ⟨by show 2 ≤ sizeLine; decide, [.int (0 + (i : Int)) tt, u], .cons ⟨tt, by rw [z]⟩ (.cons ru .nil), ⟨o, ho, hcl, n, hd⟩⟩
      have hfr : ∀ c ∈ [e, it], c < s.heap.objs.size := fun c hcm => by
        rcases (show c = e ∨ c = it by simpa using hcm) with q | q
        · rw [q]
          exact Heap.lt_size he
        · rw [q]
          obtain ⟨_, q, _⟩ := h1.obj
          exact Heap.lt_size q
      have I1 : Inv X pins σ (upd H T (.tup [.int (i : Nat), x])) { s with heap := h', toks := tk } := I.turnedNew (ch := [e, it]) (fun c ob hb q => hk c ob hb q) hf hT new
      obtain ⟨⟨old', e'⟩, st1⟩ := st'
      refine ⟨.ref T, _, I1, rfl, ⟨T, x, rfl, nT, rfl, fun l hl => by rw [sqS_inj I hl hqx]; exact hx⟩, ⟨⟨old', by rw [z] at e'; exact e'⟩, st1.1⟩, fun c hcm => ?_⟩
      rw [upd_ne (Nat.ne_of_lt (Nat.lt_of_lt_of_le (hfr c hcm) hT))]
      exact (hf c hcm).1
    · obtain ⟨u, hu, h⟩ := h
      exact ⟨u, hu, h⟩
  done := by
    intro X hP hw hK hc i pins s σ H E I hf st hg
    subst hP hw hK
    obtain ⟨xs, hqx, hend⟩ := hg
    obtain ⟨its, rv, p1, _⟩ := sqS I hqx
    have hh : X.A.in1.handled = none := I.ok.hd hc
    have W := GoesN.enumFrom (elts := elts) (x1 := kk) (pos := tpos) 0 (drawsS (prog := X.prog) (w := X.w) t hh it a hai its.toArray) e hei (by simp [hei, hea]) (by simp)
    have en : its.toArray.size = i := by
      rw [List.size_toArray, ← rv.length]
      exact hend
    obtain ⟨⟨old, he⟩, h1⟩ := st
    refine W.stops s (fun s1 => Inv X pins σ H s1) E (by rw [en]; exact ⟨⟨old, by rw [Int.zero_add]; exact he⟩, h1, p1⟩) fun h' tk hk _ => ?_
    exact I.turnedL (t' := tk) (ch := [e, it]) (fun c ob hb q => hk c ob hb q) hf
  self := fun A i s Q E st h => by
    obtain ⟨⟨old, he⟩, _⟩ := st
    exact wpAny_pyIter_enum he h
def iEnumS (K : PySem.W.Frag) (ta : TA) : TI := fun σ H R => ta σ H fun vs H1 => ∃ t a xs, vs = [.ref a] ∧ SqS t K H1 a xs ∧ R (IteS t K a) H1
theorem pi_enumS {X : Cx} {e : Expr} {ta : TA} {p pos tpos : Pos} {elts : List Expr} {kk : Nat} (hg : Gl X "enumerate") (hm : X.mg "enumerate" = none) (ha : PA X [e] ta) (hs : starEach [e] X.env = [(false, eval e X.env)]) :
    PI X (.Tuple elts kk tpos) (.Call (.Name "enumerate" p) [e] [] pos) (iEnumS X.K ta) := by
  refine ⟨fun pins s σ H R I h => ?_⟩
  refine Call_ (ld_blt I hg hm boot_enumerate (PyProof.Rows.callWith_type1 (thn (ha.run pos pins s σ H _ I h) fun us s1 ⟨vs, H1, I1, r1, q1⟩ => ?_) hs rfl))
  obtain ⟨t, a, xs, rfl, hqx, q⟩ := q1
  obtain ⟨u1, rfl, ra⟩ := vals1 r1
  cases ra
  obtain ⟨its, rv, p1, _⟩ := sqS I1 hqx
  have la := p1.lt
  refine enum_call (beginsS t a its.toArray) p1 fun h' he h1 hk => wpAny_pyIter_enum he ?_
  have I2 : Inv X pins σ H1 { s1 with heap := h' } := I1.kept (t' := s1.toks) hk
  refine ⟨s1.heap.objs.size + 1, [s1.heap.objs.size + 1, s1.heap.objs.size], _, _, H1, rfl, I2, turn_enumS (Nat.succ_ne_self _) (Nat.ne_of_gt (Nat.lt_succ_of_lt la)) (Nat.ne_of_lt la), ⟨⟨.none, he⟩, .begun h1⟩, fresh_fp I1 fun c hc => ?_, q⟩
  rcases (show c = s1.heap.objs.size + 1 ∨ c = s1.heap.objs.size by simpa using hc) with e | e <;> rw [e]
  · exact Nat.le_add_right _ _
  · exact Nat.le_refl _

/-! ### a walk by what it yields -/
def Walks (G : Gx) (B : Addr → Prop) (H0 : Hp) (J : It) (ds : List D) : Prop := ∀ (B2 : Addr → Prop) H2, Same G H0 H2 → Dom B2 H2 → (∀ a o, H0 a = some o → B2 a → B a) →
  (∀ i, i < ds.length → J.go i H2 ∧ ∀ x H3, J.yld i H2 x H3 → Same G H2 H3 ∧ ∃ d, ds[i]? = some d ∧ rep G B2 H3 d x) ∧ J.stop ds.length H2
section
variable {G : Gx} {B : Addr → Prop} {H0 : Hp}
/-- what is read: a list, a tuple, its items -/
def SrcAt (G : Gx) (B : Addr → Prop) (H : Hp) (t : Bool) (a : Addr) (l : List D) : Prop := ∃ vs, (match t with
  | true => Rd H a (.tup vs)
  | false => Rd H a (.lst vs)) ∧ reps G B H l vs
theorem SrcAt.sq {t : Bool} {a : Addr} {l : List D} {H2 : Hp} (h : SrcAt G B H0 t a l) (s : Same G H0 H2) : ∃ vs, SqS t G.K H2 a vs ∧ reps G B H0 l vs := by
  obtain ⟨vs, h1, h2⟩ := h
  refine ⟨vs, ?_, h2⟩
  cases t with
  | true => exact .inl (Rd.keep (B := fun _ => False) (Keep.of s) h1 fun z => z)
  | false => exact .inl (Rd.keep (B := fun _ => False) (Keep.of s) h1 fun z => z)
theorem walks_rng {lo : Int} {n : Nat} : Walks G B H0 (Itr lo n) (rngL lo n) := fun B2 H2 s dm b => by
  refine ⟨fun i hi => ?_, by unfold rngL; rw [List.length_map, List.length_range]; exact Nat.le_refl _⟩
  have hi' : i < n := by
    unfold rngL at hi
    rw [List.length_map, List.length_range] at hi
    exact hi
  refine ⟨hi', fun x H3 y => ?_⟩
  obtain ⟨rfl, rfl⟩ := y
  refine ⟨Same.refl _, .int (lo + (i : Nat)), ?_, rfl⟩
  unfold rngL
  rw [List.getElem?_map, List.getElem?_range hi']
  rfl
theorem walks_list {a : Addr} {l : List D} (h : SrcAt G B H0 false a l) : Walks G B H0 (Itl G.K a) l := fun B2 H2 s dm b => by
  obtain ⟨vs, q, r⟩ := h.sq s
  have r2 : reps G B2 H2 l vs := reps_keep (Keep.of s) b r
  refine ⟨fun i hi => ?_, ⟨vs, q, Nat.le_of_eq (reps_len r)⟩⟩
  obtain ⟨x, e1, _⟩ := reps_get r2 (List.getElem?_eq_getElem hi)
  refine ⟨⟨vs, x, q, e1⟩, fun y H3 z => ?_⟩
  obtain ⟨rfl, f⟩ := z
  obtain ⟨d, e2, e3⟩ := reps_getV r2 (f vs q)
  exact ⟨Same.refl _, d, e2, e3⟩
theorem walks_tup {a : Addr} {l : List D} (h : SrcAt G B H0 true a l) : Walks G B H0 (Itt G.K a) l := fun B2 H2 s dm b => by
  obtain ⟨vs, q, r⟩ := h.sq s
  have r2 : reps G B2 H2 l vs := reps_keep (Keep.of s) b r
  refine ⟨fun i hi => ?_, ⟨vs, q, Nat.le_of_eq (reps_len r)⟩⟩
  obtain ⟨x, e1, _⟩ := reps_get r2 (List.getElem?_eq_getElem hi)
  refine ⟨⟨vs, x, q, e1⟩, fun y H3 z => ?_⟩
  obtain ⟨rfl, f⟩ := z
  obtain ⟨d, e2, e3⟩ := reps_getV r2 (f vs q)
  exact ⟨Same.refl _, d, e2, e3⟩
theorem zipL_len : ∀ (l m : List D), (zipL l m).length = min l.length m.length
  | [], m => by simp [zipL]
  | _ :: _, [] => by simp [zipL]
  | a :: l, b :: m => by
    show (zipL l m).length + 1 = min (l.length + 1) (m.length + 1)
    rw [zipL_len l m]
    omega
theorem zipL_get : ∀ (l m : List D) (i : Nat) (a b : D), l[i]? = some a → m[i]? = some b → (zipL l m)[i]? = some (.tup [a, b])
  | [], _, i, _, _, h, _ => by simp at h
  | _ :: _, [], i, _, _, _, h => by simp at h
  | x :: l, y :: m, 0, a, b, h, h' => by
    simp at h h'
    subst h h'
    rfl
  | x :: l, y :: m, i + 1, a, b, h, h' => zipL_get l m i a b (by simpa using h) (by simpa using h')
theorem rep_pair {B2 : Addr → Prop} {H2 : Hp} {T : Addr} {d e : D} {x y : V} (n : H2 T = none) (dm : Dom B2 H2) (h1 : rep G B2 H2 d x) (h2 : rep G B2 H2 e y) : rep G B2 (upd H2 T (.tup [x, y])) (.tup [d, e]) (.ref T) :=
  ⟨T, _, rfl, ⟨upd_same, dm.new n⟩, x, _, rfl, rep_same (Same.upd_new n) h1, y, _, rfl, rep_same (Same.upd_new n) h2, rfl⟩
theorem walks_zip {p q : Bool} {a b : Addr} {l m : List D} (h : SrcAt G B H0 p a l) (h' : SrcAt G B H0 q b m) : Walks G B H0 (ItzS p q G.K a b) (zipL l m) := fun B2 H2 s dm bb => by
  obtain ⟨vs, q1, r1⟩ := h.sq s
  obtain ⟨ws, q2, r2⟩ := h'.sq s
  have r1' : reps G B2 H2 l vs := reps_keep (Keep.of s) bb r1
  have r2' : reps G B2 H2 m ws := reps_keep (Keep.of s) bb r2
  refine ⟨fun i hi => ?_, ⟨vs, ws, q1, q2, by rw [zipL_len, reps_len r1, reps_len r2]⟩⟩
  rw [zipL_len] at hi
  obtain ⟨x, e1, _⟩ := reps_get r1' (List.getElem?_eq_getElem (show i < l.length by omega))
  obtain ⟨y, e2, _⟩ := reps_get r2' (List.getElem?_eq_getElem (show i < m.length by omega))
  refine ⟨⟨vs, ws, x, y, q1, q2, e1, e2⟩, fun v H3 z => ?_⟩
  obtain ⟨T, x', y', rfl, nT, rfl, f1, f2⟩ := z
  obtain ⟨d, e3, e4⟩ := reps_getV r1' (f1 vs q1)
  obtain ⟨e, e5, e6⟩ := reps_getV r2' (f2 ws q2)
  exact ⟨Same.upd_new nT, _, zipL_get l m i d e e3 e5, rep_pair nT dm e4 e6⟩
theorem enumL_len : ∀ (l : List D) (k : Int), (enumL k l).length = l.length
  | [], _ => rfl
  | a :: l, k => by
    show (enumL (k + 1) l).length + 1 = l.length + 1
    rw [enumL_len l]
theorem enumL_get : ∀ (l : List D) (k : Int) (i : Nat) (a : D), l[i]? = some a → (enumL k l)[i]? = some (.tup [.int (k + (i : Nat)), a])
  | [], _, i, _, h => by simp at h
  | x :: l, k, 0, a, h => by
    simp at h
    subst h
    show some (D.tup [.int k, x]) = some (D.tup [.int (k + 0), x])
    rw [Int.add_zero]
  | x :: l, k, i + 1, a, h => by
    have q := enumL_get l (k + 1) i a (by simpa using h)
    show (enumL (k + 1) l)[i]? = _
    rw [q]
    have e : k + 1 + (i : Int) = k + ((i + 1 : Nat) : Int) := by omega
    rw [e]
theorem walks_enum {t : Bool} {a : Addr} {l : List D} (h : SrcAt G B H0 t a l) : Walks G B H0 (IteS t G.K a) (enumL 0 l) := fun B2 H2 s dm bb => by
  obtain ⟨vs, q1, r1⟩ := h.sq s
  have r1' : reps G B2 H2 l vs := reps_keep (Keep.of s) bb r1
  refine ⟨fun i hi => ?_, ⟨vs, q1, by rw [enumL_len, reps_len r1]⟩⟩
  rw [enumL_len] at hi
  obtain ⟨x, e1, _⟩ := reps_get r1' (List.getElem?_eq_getElem hi)
  refine ⟨⟨vs, x, q1, e1⟩, fun v H3 z => ?_⟩
  obtain ⟨T, x', rfl, nT, rfl, f1⟩ := z
  obtain ⟨d, e3, e4⟩ := reps_getV r1' (f1 vs q1)
  refine ⟨Same.upd_new nT, _, enumL_get l 0 i d e3, ?_⟩
  rw [Int.zero_add]
  exact rep_pair nT dm rfl e4
theorem rev_get {α : Type} {l : List α} {i : Nat} (h : i < l.length) : l.reverse[i]? = l[l.length - 1 - i]? := by
  rw [List.getElem?_reverse h]
theorem walks_revL {a : Addr} {l : List D} {n : Nat} (hn : n = l.length) (h : SrcAt G B H0 false a l) : Walks G B H0 (Itv G.K a n) l.reverse := fun B2 H2 s dm bb => by
  subst hn
  obtain ⟨vs, q1, r1⟩ := h.sq s
  have r1' : reps G B2 H2 l vs := reps_keep (Keep.of s) bb r1
  refine ⟨fun i hi => ?_, by rw [List.length_reverse]; exact Nat.le_refl _⟩
  rw [List.length_reverse] at hi
  obtain ⟨x, e1, _⟩ := reps_get r1' (List.getElem?_eq_getElem (show l.length - 1 - i < l.length by omega))
  refine ⟨⟨hi, vs, x, q1, e1⟩, fun y H3 z => ?_⟩
  obtain ⟨rfl, f⟩ := z
  obtain ⟨d, e2, e3⟩ := reps_getV r1' (f vs q1)
  exact ⟨Same.refl _, d, by rw [rev_get hi]; exact e2, e3⟩
theorem walks_revT {a : Addr} {l : List D} {n : Nat} (hn : n = l.length) (h : SrcAt G B H0 true a l) : Walks G B H0 (RT.ItvT G.K a n) l.reverse := fun B2 H2 s dm bb => by
  subst hn
  obtain ⟨vs, q1, r1⟩ := h.sq s
  have r1' : reps G B2 H2 l vs := reps_keep (Keep.of s) bb r1
  refine ⟨fun i hi => ?_, by rw [List.length_reverse]; exact Nat.le_refl _⟩
  rw [List.length_reverse] at hi
  obtain ⟨x, e1, _⟩ := reps_get r1' (List.getElem?_eq_getElem (show l.length - 1 - i < l.length by omega))
  refine ⟨⟨hi, vs, x, q1, e1⟩, fun y H3 z => ?_⟩
  obtain ⟨rfl, f⟩ := z
  obtain ⟨d, e2, e3⟩ := reps_getV r1' (f vs q1)
  exact ⟨Same.refl _, d, by rw [rev_get hi]; exact e2, e3⟩
theorem walks_str {z : Str} : Walks G B H0 (Its z) (z.cps.toList.map fun c => D.str ⟨#[c]⟩) := fun B2 H2 s dm bb => by
  refine ⟨fun i hi => ?_, by rw [List.length_map, Array.length_toList]; exact Nat.le_refl _⟩
  rw [List.length_map, Array.length_toList] at hi
  refine ⟨hi, fun y H3 w => ?_⟩
  obtain ⟨rfl, c, e1, rfl⟩ := w
  refine ⟨Same.refl _, .str ⟨#[c]⟩, ?_, rfl⟩
  rw [List.getElem?_map, Array.getElem?_toList, e1]
  rfl
end
/-- a list, a tuple, a text, walked -/
def iSeq (K : PySem.W.Frag) (te : TE) : TI := fun σ H R => te σ H fun x H1 => (∃ a, x = .ref a ∧ (∃ xs, SqL K H1 a xs) ∧ R (Itl K a) H1) ∨ (∃ a, x = .ref a ∧ (∃ xs, SqT K H1 a xs) ∧ R (Itt K a) H1) ∨ ∃ z, x = .str z ∧ R (Its z) H1
theorem pi_seq {X : Cx} {tg e : Expr} {te : TE} (he : PE X e te) : PI X tg e (iSeq X.K te) := by
  refine ⟨fun pins s σ H R I h => ?_⟩
  refine thn (he.run pins s σ H _ I h) fun v s1 ⟨x, H1, I1, r1, q⟩ => ?_
  rcases q with ⟨a, rfl, ⟨xs, hq⟩, q⟩ | ⟨a, rfl, ⟨xs, hq⟩, q⟩ | ⟨z, rfl, q⟩
  · cases r1
    obtain ⟨its, rv, p, hz⟩ := I1.list hq
    exact wpAny_pyIter_list p.isList (pi_one (tk := s1.toks) I1 _ (turn_list a _) ⟨_, Heap.get?_push_size _ rfl, rfl, rfl⟩ q)
  · cases r1
    obtain ⟨its, rv, p, hz⟩ := I1.tuple hq
    exact wpAny_pyIter_tuple (show s1.heap.IsTuple a its.toArray from p) (pi_one (tk := s1.toks) I1 _ (turn_tuple a _) ⟨_, Heap.get?_push_size _ rfl, rfl, rfl⟩ q)
  · obtain ⟨t, rfl⟩ := r1
    cases ha : z.cps.all (· < 128)
    · exact wpAny_pyIter_wide ha (pi_one (tk := s1.toks) I1 _ (turn_str _ z t "str_iterator" (.inr rfl)) ⟨_, Heap.get?_push_size _ rfl, rfl, rfl⟩ q)
    · exact wpAny_pyIter_ascii ha (pi_one (tk := s1.toks) I1 _ (turn_str _ z t "str_ascii_iterator" (.inl rfl)) ⟨_, Heap.get?_push_size _ rfl, rfl, rfl⟩ q)
end Ir

/-! Ir4: expressions: the text is the plain form (isE), and then the machine does what the plain form says. -/
namespace Ir
open PySem L2 PyProof.Rows

/-! ### the text is the plain form -/
def okNm (x : Str) : Bool := !(x == ("__debug__" : Str)) && !(x == ("__classdict__" : Str))
def visB (sc : Scope) (x : Str) : Bool := match sc.names.lookup x with
  | some .local => true
  | some .cell => true
  | some .free => true
  | _ => false
def locB (sc : Scope) (x : Str) : Bool := match sc.names.lookup x with
  | some .local => true
  | some .cell => true
  | _ => false
def glB (sc : Scope) (x : Str) : Bool := match sc.names.lookup x with
  | some .globalImplicit => true
  | _ => false
def noSt : Expr → Bool
  | .Starred _ _ => false
  | _ => true
def noSl : Expr → Bool
  | .Slice _ _ _ _ => false
  | _ => true
def noBl : Expr → Bool
  | .BoolOp _ _ _ => false
  | .UnaryOp .Not _ _ => false
  | .IfExp _ _ _ _ => false
  | .Compare _ _ _ _ => false
  | _ => true
def noSet : Expr → Bool
  | .Set _ _ _ => false
  | _ => true
def BF.nm : BF → Str
  | .len => "len"
  | .sum => "sum"
  | .sorted => "sorted"
  | .tuple => "tuple"
  | .list => "list"
  | .dict => "dict"
  | .min => "min"
  | .max => "max"
  | .any => "any"
  | .int => "int"
  | .abs => "abs"
  | .str => "str"
  | .range => "range"
def TyI.nm : TyI → Str
  | .int => "int"
  | .bool => "bool"
  | .tuple => "tuple"
  | .str => "str"
  | .list => "list"
mutual
def isTg (N : List Str) (sc : Scope) : Tg → Expr → Bool
  | .nm i, e => match e with
    | .Name x _ => decide (N[i]? = some x) && locB sc x
    | _ => false
  | .tup l, e => match e with
    | .Tuple es _ _ => isTgs N sc l es
    | _ => false
def isTgs (N : List Str) (sc : Scope) : Tgs → List Expr → Bool
  | .nil, es => match es with
    | [] => true
    | _ => false
  | .cons t l, es => match es with
    | e :: es => isTg N sc t e && noSt e && isTgs N sc l es
    | _ => false
end
/-- the names of a target, with their slots -/
def ownOf (N : List Str) (l : List Nat) : List (Str × Nat) := l.filterMap fun i => (N[i]?).map fun x => (x, i)
/-- the names that a law's text is read with: its defs', its constants' -/
structure Nms where
  fn : List (Nat × Str)
  ar : List (Nat × Nat)
  fk : List (Nat × List Str × Nat)
  cst : List (Nat × Str)
  /-- methods, with how many arguments, the receiver too -/
  mt : List (Str × Nat)
  /-- defs that write to their last argument, with how many others -/
  io : List (Nat × Nat)
  /-- the scope of the def that makes lambdas; that sorts by keys -/
  lam : Option Scope
  key : Option Scope
  /-- no exception is being handled -/
  calm : Bool := true
/-- what a method's receiver may look like -/
def obB : Expr → Bool
  | .Call (.Name id _) [] [] _ => id != ("super" : Str)
  | _ => true
/-- the parameter of a lambda that has but one -/
def lam1 : Arguments → Option Str
  | ⟨[], [⟨p, none, _⟩], none, [], [], none, []⟩ => some p
  | _ => none
/-- the lambda's names: its parameter, captured ones, the module's -/
def lamB (sc s2 : Scope) (p : Str) : Bool :=
  decide (s2.kind = .function) && !s2.isCoroutine && !s2.isGenerator && decide (s2 ≠ sc) && decide (s2.names.lookup p = some .local) &&
  s2.names.all fun y => (!decide (y.2 = .local) || decide (y.1 = p)) && !decide (y.2 = .cell) && (!decide (y.2 = .free) || decide (sc.names.lookup y.1 = some .cell) || decide (sc.names.lookup y.1 = some .free))
/-- the part of a pure form -/
def xpArg1 (sc : Scope) : XP → Expr → Option Expr
  | .sortRev, .Call (.Name x _) [y] [⟨some k, .Constant (.bool true) _ _, _⟩] _ => if decide (("sorted" : Str) = x) && glB sc x && decide (("reverse" : Str) = k) && noSt y then some y else none
  | .tupRng1, .Call (.Name x _) [.Call (.Name z _) [y] [] _] [] _ => if decide (("tuple" : Str) = x) && glB sc x && decide (("range" : Str) = z) && glB sc z && noSt y then some y else none
  | .lstRng1, .Call (.Name x _) [.Call (.Name z _) [y] [] _] [] _ => if decide (("list" : Str) = x) && glB sc x && decide (("range" : Str) = z) && glB sc z && noSt y then some y else none
  | .sortSet, .Call (.Name x _) [.Call (.Name z _) [y] [] _] [] _ => if decide (("sorted" : Str) = x) && glB sc x && decide (("set" : Str) = z) && glB sc z && noSt y then some y else none
  | .lstRev, .Call (.Name x _) [.Call (.Name z _) [y] [] _] [] _ => if decide (("list" : Str) = x) && glB sc x && decide (("reversed" : Str) = z) && glB sc z && noSt y then some y else none
  | .tupX, .Call (.Name x _) [y] [] _ => if decide (("tuple" : Str) = x) && glB sc x && noSt y then some y else none
  | .dictT, .Call (.Name x _) [y] [] _ => if decide (("dict" : Str) = x) && glB sc x && noSt y then some y else none
  | _, _ => none
/-- .. of further ones -/
def xpArgS (sc : Scope) : XP → Expr → Option Expr
  | .step2, .Subscript y (.Slice none none (some (.Constant (.int j) _ _)) _) _ => if decide (j = 2) then some y else none
  | .joinS s, .Call (.Attribute (.Constant (.str z) _ _) m ap) [y] [] cp => if decide (s = z) && decide (("join" : Str) = m) && (ap.endLine == cp.line) && noSt y then some y else none
  | .splitS s, .Call (.Attribute y m ap) [.Constant (.str z) _ _] [] cp => if decide (s = z) && decide (("split" : Str) = m) && (ap.endLine == cp.line) && obB y then some y else none
  | .partS s, .Call (.Attribute y m ap) [.Constant (.str z) _ _] [] cp => if decide (s = z) && decide (("partition" : Str) = m) && (ap.endLine == cp.line) && obB y then some y else none
  | .startsS s, .Call (.Attribute y m ap) [.Constant (.str z) _ _] [] cp => if decide (s = z) && decide (("startswith" : Str) = m) && (ap.endLine == cp.line) && obB y then some y else none
  | .fstrI s, .JoinedStr [.FormattedValue y j none _, .Constant (.str z) _ _] _ => if decide (s = z) && decide (j = -1) then some y else none
  | .lenSet, .Call (.Name x _) [.Call (.Name z _) [y] [] _] [] _ => if decide (("len" : Str) = x) && glB sc x && decide (("set" : Str) = z) && glB sc z && noSt y then some y else none
  | .tupD, .Call (.Name x _) [y] [] _ => if decide (("tuple" : Str) = x) && glB sc x && noSt y then some y else none
  | _, _ => none
def xpArg2 (sc : Scope) : XP → Expr → Option (Expr × Expr)
  | .tupRng2, .Call (.Name x _) [.Call (.Name z _) [y, w] [] _] [] _ => if decide (("tuple" : Str) = x) && glB sc x && decide (("range" : Str) = z) && glB sc z && noSt y && noSt w then some (y, w) else none
  | .maxD, .Call (.Name x _) [y] [⟨some k, w, _⟩] _ => if decide (("max" : Str) = x) && glB sc x && decide (("default" : Str) = k) && noSt y then some (y, w) else none
  | .minD, .Call (.Name x _) [y] [⟨some k, w, _⟩] _ => if decide (("min" : Str) = x) && glB sc x && decide (("default" : Str) = k) && noSt y then some (y, w) else none
  | .index, .Call (.Attribute y m ap) [w] [] cp => if decide (("index" : Str) = m) && (ap.endLine == cp.line) && obB y && noSt w then some (y, w) else none
  | _, _ => none
/-- classes by their names -/
def nmsB (sc : Scope) : List Str → List Expr → Bool
  | [], es => match es with
    | [] => true
    | _ => false
  | n :: ns, es => match es with
    | .Name x _ :: es => decide (n = x) && glB sc x && okNm x && nmsB sc ns es
    | _ => false
def clsB (sc : Scope) (cs : List Str) : Expr → Bool
  | .Name n _ => decide (cs = [n]) && glB sc n && okNm n
  | .Tuple es _ _ => decide (cs.length ≤ 1000) && nmsB sc cs es
  | _ => false
/-- raises nothing -/
def quietE : E → Bool
  | .var _ => true
  | .int _ => true
  | .sub a b => quietE a && quietE b
  | _ => false
section
variable (M : Nms)
mutual
def isE (N : List Str) : E → Scope → Expr → Bool
  | .var i, sc, e => match e with
    | .Name x _ => decide (N[i]? = some x) && visB sc x && okNm x
    | _ => false
  | .int i, _, e => match e with
    | .Constant (.int j) _ _ => decide (i = j)
    | _ => false
  | .bl b, _, e => match e with
    | .Constant (.bool j) _ _ => decide (b = j)
    | _ => false
  | .non, _, e => match e with
    | .Constant .none _ _ => true
    | _ => false
  | .str s, _, e => match e with
    | .Constant (.str j) _ _ => decide (s = j)
    | _ => false
  | .glb y, sc, e => match e with
    | .Name x _ => decide (M.cst.lookup y = some x) && glB sc x && okNm x
    | _ => false
  | .bin o a b, sc, e => match e with
    | .BinOp x p y _ => decide (o = p) && isE N a sc x && isE N b sc y
    | _ => false
  | .revT a, sc, e => match e with
    | .Subscript x (.Slice none none (some (.UnaryOp .USub (.Constant (.int j) _ _) _)) _) _ => decide (j = 1) && isE N a sc x
    | _ => false
  | .tupRev a, sc, e => match e with
    | .Call (.Name x _) [.Call (.Name y _) [z] [] _] [] _ => decide (("tuple" : Str) = x) && glB sc x && decide (("reversed" : Str) = y) && glB sc y && noSt z && isE N a sc z && M.calm
    | _ => false
  | .neg a, sc, e => match e with
    | .UnaryOp .USub x _ => isE N a sc x
    | _ => false
  | .not a, sc, e => match e with
    | .UnaryOp .Not x _ => isE N a sc x
    | _ => false
  | .cmp o a b, sc, e => match e with
    | .Compare x [p] [y] _ => decide (o = p) && noSet y && isE N a sc x && isE N b sc y
    | _ => false
  | .chain o p a b c, sc, e => match e with
    | .Compare x [q, r] [y, z] _ => decide (o = q) && decide (p = r) && noSet y && noSet z && isE N a sc x && isE N b sc y && isE N c sc z
    | _ => false
  | .and a b, sc, e => match e with
    | .BoolOp .And [x, y] _ => isE N a sc x && isE N b sc y
    | .BoolOp .And (x :: y :: z :: r) p => isE N a sc x && isE N b sc (.BoolOp .And (y :: z :: r) p)
    | _ => false
  | .or a b, sc, e => match e with
    | .BoolOp .Or [x, y] _ => isE N a sc x && isE N b sc y
    | .BoolOp .Or (x :: y :: z :: r) p => isE N a sc x && isE N b sc (.BoolOp .Or (y :: z :: r) p)
    | _ => false
  | .tup l, sc, e => match e with
    | .Tuple es _ _ => isL N l sc es
    | _ => false
  | .lst l, sc, e => match e with
    | .List es _ => isL N l sc es
    | _ => false
  | .dct0 t, _, e => match e with
    | .Dict [] [] _ => decide (t = 0 ∨ t = 1)
    | _ => false
  | .sub a i, sc, e => match e with
    | .Subscript x y _ => noSl y && isE N a sc x && isE N i sc y
    | _ => false
  | .slc a lo hi, sc, e => match e with
    | .Subscript x (.Slice (some y) (some z) none _) _ => isE N a sc x && isE N lo sc y && isE N hi sc z
    | _ => false
  | .slcL a lo, sc, e => match e with
    | .Subscript x (.Slice (some y) none none _) _ => isE N a sc x && isE N lo sc y
    | _ => false
  | .slcH a hi, sc, e => match e with
    | .Subscript x (.Slice none (some z) none _) _ => isE N a sc x && isE N hi sc z
    | _ => false
  | .slcN a, sc, e => match e with
    | .Subscript x (.Slice none none none _) _ => isE N a sc x
    | _ => false
  | .call f l, sc, e => match e with
    | .Call (.Name x _) (y :: es) [] _ => decide (M.fn.lookup f = some x) && glB sc x && okNm x && decide ((f, (y :: es).length) ∈ M.ar) && isL N l sc (y :: es) && M.calm
    | _ => false
  | .callK f l ks m, sc, e => match e with
    | .Call (.Name x _) (y :: es) (kw :: kws) _ => decide (M.fn.lookup f = some x) && glB sc x && okNm x && decide ((f, ks, (y :: es).length) ∈ M.fk) && isL N l sc (y :: es) && isKw N m ks sc (kw :: kws) && M.calm
    | _ => false
  | .blt f l, sc, e => match e with
    | .Call (.Name x _) (y :: es) [] _ => decide (f.nm = x) && glB sc x && isL N l sc (y :: es) && M.calm
    | _ => false
  | .isi a t, sc, e => match e with
    | .Call (.Name x _) [y, .Name z _] [] _ => decide (("isinstance" : Str) = x) && glB sc x && decide (t.nm = z) && glB sc z && noSt y && isE N a sc y
    | _ => false
  | .comp x tg it, sc, e => match e with
    | .ListComp elt [⟨t, i, [], 0⟩] s2 _ => decide (M.lam ≠ some (relS s2 sc) ∧ M.key ≠ some (relS s2 sc)) && noSet i && blkC N sc s2 (ownOf N tg.slots) && decide ((ownOf N tg.slots).map (·.2) = tg.slots) && decide tg.slots.Nodup && isIt N it sc t i && isTg N s2 tg t && isTg N (relS s2 sc) tg t && isE N x (relS s2 sc) elt && M.calm
    | _ => false
  | .compIf x tg it c, sc, e => match e with
    | .ListComp elt [⟨t, i, [d], 0⟩] s2 _ => decide (M.lam ≠ some (relS s2 sc) ∧ M.key ≠ some (relS s2 sc)) && noSet i && blkC N sc s2 (ownOf N tg.slots) && decide ((ownOf N tg.slots).map (·.2) = tg.slots) && decide tg.slots.Nodup && isIt N it sc t i && isTg N s2 tg t && isTg N (relS s2 sc) tg t && isE N x (relS s2 sc) elt && isE N c (relS s2 sc) d && M.calm
    | _ => false
  | .xp1 x a, sc, e => match xpArg1 sc x e with
    | some y => isE N a sc y && M.calm
    | none => match xpArgS sc x e with
      | some y => isE N a sc y && M.calm
      | none => false
  | .xp2 x a b, sc, e => match xpArg2 sc x e with
    | some (y, z) => isE N a sc y && isE N b sc z && (decide (x ≠ .index) || quietE b) && M.calm
    | none => false
  | .mk c, sc, e => match e with
    | .Call (.Name x _) [] [] _ => decide (c = x) && glB sc x && okNm x
    | _ => false
  | .meth m a l, sc, e => match e with
    | .Call (.Attribute o m' ap) (y :: es) [] pos => decide (m = m') && obB o && (ap.endLine == pos.line) && decide ((y :: es).length < 29) && decide ((m, (y :: es).length + 1) ∈ M.mt) && isE N a sc o && isL N l sc (y :: es) && M.calm
    | _ => false
  | .isiC a cs, sc, e => match e with
    | .Call (.Name x _) [y, z] [] _ => decide (("isinstance" : Str) = x) && glB sc x && noSt y && clsB sc cs z && quietE a && isE N a sc y
    | _ => false
  | .sortF f a, sc, e => match e with
    | .Call (.Name x _) [y] [⟨some k, .Name g _, _⟩] _ => decide (("sorted" : Str) = x) && glB sc x && decide (("key" : Str) = k) && decide (M.fn.lookup f = some g) && glB sc g && okNm g && decide ((f, 1) ∈ M.ar) && decide (M.key = some sc) && noSt y && isE N a sc y
    | _ => false
  | .sortL i b a, sc, e => match e with
    | .Call (.Name x _) [y] [⟨some k, .Lambda ps bd s2 _, _⟩] _ => decide (("sorted" : Str) = x) && glB sc x && decide (("key" : Str) = k) && decide (M.lam = some sc) && decide (M.key = some sc) && (match lam1 ps with
      | some p => decide (N[i]? = some p) && lamB sc s2 p && okNm p
      | none => false) && noSt y && isE N a sc y && isE N b s2 bd
    | _ => false
  | .ext _ _, _, _ => false
def isL (N : List Str) : Es → Scope → List Expr → Bool
  | .nil, _, es => match es with
    | [] => true
    | _ => false
  | .cons a l, sc, es => match es with
    | e :: es => noSt e && isE N a sc e && isL N l sc es
    | _ => false
/-- keywords -/
def isKw (N : List Str) : Es → List Str → Scope → List Keyword → Bool
  | .nil, ks, _, kws => match ks, kws with
    | [], [] => true
    | _, _ => false
  | .cons a l, ks, sc, kws => match ks, kws with
    | k :: ks, ⟨some x, e, _⟩ :: kws => decide (k = x) && isE N a sc e && isKw N l ks sc kws
    | _, _ => false
/-- what is walked; t: the target -/
def isIt (N : List Str) : Wk → Scope → Expr → Expr → Bool
  | .rng1 a, sc, _, e => match e with
    | .Call (.Name x _) [y] [] _ => decide (("range" : Str) = x) && glB sc x && noSt y && isE N a sc y
    | _ => false
  | .rng2 a b, sc, _, e => match e with
    | .Call (.Name x _) [y, z] [] _ => decide (("range" : Str) = x) && glB sc x && noSt y && noSt z && isE N a sc y && isE N b sc z
    | _ => false
  | .seq a, sc, _, e => isE N a sc e
  | .zip a b, sc, t, e => match e with
    | .Call (.Name x _) [y, z] [] _ => (match t with
      | .Tuple _ _ _ => true
      | _ => false) && decide (("zip" : Str) = x) && glB sc x && noSt y && noSt z && isE N a sc y && isE N b sc z
    | _ => false
  | .enum a, sc, t, e => match e with
    | .Call (.Name x _) [y] [] _ => (match t with
      | .Tuple _ _ _ => true
      | _ => false) && decide (("enumerate" : Str) = x) && glB sc x && noSt y && isE N a sc y
    | _ => false
  | .rev a, sc, _, e => match e with
    | .Call (.Name x _) [y] [] _ => decide (("reversed" : Str) = x) && glB sc x && noSt y && isE N a sc y
    | _ => false
end
end

/-! ### what is wanted -/
/-- an exception of the program's own -/
def XR (G : Gx) (H : Hp) (c : Str) (fs : List (Str × D)) (cls : Value) (d : Option Addr) : Prop :=
  ∃ C, G.mg c = some (.ref C) ∧ cls = .ref C ∧ ((fs = [] ∧ d = none) ∨ ∃ dx fv, d = some dx ∧ H dx = some (.xd fv) ∧ fs ≠ [] ∧ fv.map (·.1) = fs.map (·.1) ∧ reps G (fun _ => False) H (fs.map (·.2)) (fv.map (·.2)))
/-- of a result of any kind -/
def PostR {α β : Type} (G : Gx) (rp : Hp → α → β → Prop) (H : Hp) (r : R α) (Q : β → Hp → Prop) (E : XK) : Prop := match r with
  | .stuck => False
  | .exc c fs => ∀ cls d H', Same G H H' → XR G H' c fs cls d → E cls d H'
  | .ok d => ∀ v H', Same G H H' → rp H' d v → Q v H'
abbrev PostG (G : Gx) (rp : Hp → D → V → Prop) (H : Hp) (r : R D) (Q : VK) (E : XK) : Prop := PostR G rp H r Q E
theorem PostR.mono {α β : Type} {G : Gx} {rp : Hp → α → β → Prop} {H H' : Hp} {r : R α} {Q : β → Hp → Prop} {E : XK} (s : Same G H H') (p : PostR G rp H r Q E) : PostR G rp H' r Q E := by
  cases r with
  | stuck => exact p
  | exc c fs => exact fun cls d H1 s1 x => p cls d H1 (s.trans s1) x
  | ok d => exact fun v H1 s1 x => p v H1 (s.trans s1) x
/-- one step ahead, the rest behind it -/
theorem PostR.bnd {α β γ δ : Type} {G : Gx} {rp : Hp → α → β → Prop} {rp' : Hp → γ → δ → Prop} {H : Hp} {r : R γ} {f : γ → R α} {Q : β → Hp → Prop} {Q' : δ → Hp → Prop} {E : XK} (p : PostR G rp H (r.bind f) Q E)
    (k : ∀ d v H1, Same G H H1 → rp' H1 d v → PostR G rp H1 (f d) Q E → Q' v H1) : PostR G rp' H r Q' E := by
  cases r with
  | stuck => exact p
  | exc c fs => exact p
  | ok d => exact fun v H1 s x => k d v H1 s x (PostR.mono s (show PostR G rp H (f d) Q E from p))
theorem PostR.imp {α β : Type} {G : Gx} {rp rp' : Hp → α → β → Prop} {H : Hp} {r : R α} {Q : β → Hp → Prop} {E : XK} (p : PostR G rp H r Q E) (k : ∀ d v H1, Same G H H1 → rp' H1 d v → rp H1 d v) : PostR G rp' H r Q E := by
  cases r with
  | stuck => exact p
  | exc c fs => exact p
  | ok d => exact fun v H1 s x => p v H1 s (k d v H1 s x)
/-- no exception -/
def Nx {α : Type} (r : R α) : Prop := ∀ c fs, r ≠ .exc c fs
theorem nx_ok {α : Type} {a : α} : Nx (R.ok a) := fun c fs h => by cases h
theorem nx_stuck {α : Type} : Nx (R.stuck : R α) := fun c fs h => by cases h
theorem nx_iff {α : Type} {b : Bool} {r : R α} (h : Nx r) : Nx (R.iff b r) := by
  cases b with
  | true => exact h
  | false => exact nx_stuck
theorem nx_ofO {α : Type} {o : Option α} : Nx (R.ofO o) := by
  cases o with
  | none => exact nx_stuck
  | some a => exact nx_ok
theorem nx_bind {α β : Type} {r : R α} {f : α → R β} (h : Nx r) (k : ∀ a, Nx (f a)) : Nx (r.bind f) := by
  cases r with
  | stuck => exact nx_stuck
  | exc c fs => exact (h c fs rfl).elim
  | ok a => exact k a
theorem nx_eq (x y : D) : Nx (eqD x y) := by
  unfold eqD
  split <;> first | exact nx_ok | exact nx_iff nx_ok
theorem nx_is (x y : D) : Nx (isD x y) := by
  unfold isD
  split <;> first | exact nx_ok | exact nx_stuck
theorem nx_lt (x y : D) : Nx (ltD x y) := by
  unfold ltD
  split <;> first | exact nx_ok | exact nx_stuck | exact nx_iff nx_ok
theorem nx_le (x y : D) : Nx (leD x y) := by
  unfold leD
  split <;> first | exact nx_ok | exact nx_stuck | exact nx_iff nx_ok
theorem nx_in (x y : D) : Nx (inD x y) := by
  unfold inD
  split
  · exact nx_iff nx_ok
  · exact nx_iff nx_ok
  · exact nx_iff nx_ok
  · split <;> first | exact nx_ok | exact nx_stuck
  · exact nx_stuck
theorem nx_cmp (o : CmpOp) (x y : D) : Nx (cmpD o x y) := by
  cases o with
  | Eq => exact nx_eq x y
  | NotEq => exact nx_bind (nx_eq x y) fun _ => nx_ok
  | Lt => exact nx_lt x y
  | LtE => exact nx_le x y
  | Gt =>
    unfold cmpD
    dsimp only
    split <;> first | exact nx_ok | exact nx_stuck
  | GtE =>
    unfold cmpD
    dsimp only
    split <;> first | exact nx_ok | exact nx_stuck
  | Is => exact nx_is x y
  | IsNot => exact nx_bind (nx_is x y) fun _ => nx_ok
  | In => exact nx_in x y
  | NotIn => exact nx_bind (nx_in x y) fun _ => nx_ok
theorem nx_bin (o : Operator) (x y : D) : Nx (binD o x y) := by
  unfold binD
  split
  all_goals first
    | exact nx_stuck
    | (unfold addD; split <;> first | exact nx_ok | exact nx_stuck | exact nx_iff nx_ok)
    | (unfold subD; split <;> first | exact nx_ok | exact nx_stuck | exact nx_iff nx_ok)
    | (unfold mulD; split <;> first | exact nx_ok | exact nx_stuck | exact nx_iff nx_ok)
    | (unfold fdivD; split <;> first | exact nx_ok | exact nx_stuck | exact nx_iff nx_ok)
    | (unfold modD; split <;> first | exact nx_ok | exact nx_stuck | exact nx_iff nx_ok)
    | (unfold powD; split <;> first | exact nx_ok | exact nx_stuck | exact nx_iff nx_ok)
    | (unfold shlD; split <;> first | exact nx_ok | exact nx_stuck | exact nx_iff nx_ok)
    | (unfold shrD; split <;> first | exact nx_ok | exact nx_stuck | exact nx_iff nx_ok)
    | (unfold andD; split <;> first | exact nx_ok | exact nx_stuck | exact nx_iff nx_ok)
    | (unfold orD; split <;> first | exact nx_ok | exact nx_stuck | exact nx_iff nx_ok)
theorem nx_tru (x : D) : Nx (truD x) := by
  unfold truD
  split <;> first | exact nx_ok | exact nx_stuck | exact nx_iff nx_ok
theorem nx_isi (x : D) (t : TyI) : Nx (isiD x t) := by
  unfold isiD
  split <;> first | exact nx_ok | exact nx_stuck | exact nx_iff nx_ok
theorem nx_sub (x y : D) : Nx (subsD x y) := by
  unfold subsD
  split <;> first | exact nx_ofO | exact nx_stuck | exact nx_iff nx_ofO | exact nx_iff (nx_bind nx_ofO fun _ => nx_ok)
theorem nx_slc (x : D) (l h : Option Int) : Nx (slcD x l h) := by
  unfold slcD
  split <;> first | exact nx_ok | exact nx_stuck | exact nx_iff nx_ok
theorem nx_int (x : D) : Nx (intO x) := by
  unfold intO
  split <;> first | exact nx_ok | exact nx_stuck
theorem nx_blt (f : BF) (ds : List D) : Nx (bltD f ds) := by
  unfold bltD
  split
  all_goals first
    | exact nx_ok
    | exact nx_stuck
    | exact nx_iff nx_ok
    | exact nx_bind nx_ofO fun _ => nx_ok
    | exact nx_iff (nx_bind nx_ofO fun _ => nx_ok)
    | (unfold lenD; split <;> first | exact nx_ok | exact nx_stuck | exact nx_iff nx_ok)
/-- where no exception comes -/
theorem PostR.V {G : Gx} {B : Addr → Prop} {H : Hp} {r : R D} {Q : VK} {E : XK} (n : Nx r) (p : PostG G (fun H => rep G B H) H r Q E) : PostV G B H r Q := by
  cases r with
  | stuck => exact p
  | exc c fs => exact (n c fs rfl).elim
  | ok d => exact p
/-- one step that raises nothing and needs no run -/
theorem PostR.pure {α β γ : Type} {G : Gx} {rp : Hp → α → β → Prop} {H : Hp} {r : R γ} {f : γ → R α} {Q : β → Hp → Prop} {E : XK} (n : Nx r) (p : PostR G rp H (r.bind f) Q E) : ∃ a, r = .ok a ∧ PostR G rp H (f a) Q E := by
  cases r with
  | stuck => exact p.elim
  | exc c fs => exact (n c fs rfl).elim
  | ok a => exact ⟨a, rfl, p⟩
/-- a new list, a new dict -/
def PostN (G : Gx) (B : Addr → Prop) (H : Hp) (r : R D) (Q : VK) (E : XK) : Prop := match r with
  | .stuck => False
  | .exc c fs => ∀ cls d H', Same G H H' → XR G H' c fs cls d → E cls d H'
  | .ok d => ∀ p H', H p = none → Same G H H' → ownR G (fun a => a = p ∨ B a) H' p d → Q (.ref p) H'
theorem PostN.mono {G : Gx} {B : Addr → Prop} {H H' : Hp} {r : R D} {Q : VK} {E : XK} (s : Same G H H') (p : PostN G B H r Q E) : PostN G B H' r Q E := by
  cases r with
  | stuck => exact p
  | exc c fs => exact fun cls d H1 s1 x => p cls d H1 (s.trans s1) x
  | ok d => exact fun v H1 n s1 x => p v H1 (s.free n) (s.trans s1) x
theorem PostN.bnd {γ δ : Type} {G : Gx} {B : Addr → Prop} {rp' : Hp → γ → δ → Prop} {H : Hp} {r : R γ} {f : γ → R D} {Q : VK} {Q' : δ → Hp → Prop} {E : XK} (p : PostN G B H (r.bind f) Q E)
    (k : ∀ d v H1, Same G H H1 → rp' H1 d v → PostN G B H1 (f d) Q E → Q' v H1) : PostR G rp' H r Q' E := by
  cases r with
  | stuck => exact p
  | exc c fs => exact p
  | ok d => exact fun v H1 s x => k d v H1 s x (PostN.mono s (show PostN G B H (f d) Q E from p))
theorem PostN.iff {G : Gx} {B : Addr → Prop} {H : Hp} {b : Bool} {r : R D} {Q : VK} {E : XK} (p : PostN G B H (.iff b r) Q E) : b = true ∧ PostN G B H r Q E := by
  cases b with
  | true => exact ⟨rfl, p⟩
  | false => exact p.elim
theorem PostR.iff {α β : Type} {G : Gx} {rp : Hp → α → β → Prop} {H : Hp} {b : Bool} {r : R α} {Q : β → Hp → Prop} {E : XK} (p : PostR G rp H (.iff b r) Q E) : b = true ∧ PostR G rp H r Q E := by
  cases b with
  | true => exact ⟨rfl, p⟩
  | false => exact p.elim
theorem ownR.rep {G : Gx} {B : Addr → Prop} {H : Hp} {p : Addr} {d : D} (np : ¬ B p) (h : ownR G (fun a => a = p ∨ B a) H p d) : rep G B H d (.ref p) := by
  cases d with
  | lst l =>
    obtain ⟨vs, e, r⟩ := h
    exact ⟨p, vs, rfl, .inl e, np, reps_anti (fun a => .inr) r⟩
  | dct t ks l =>
    obtain ⟨vs, e, r⟩ := h
    exact ⟨p, vs, rfl, e.at_, np, reps_anti (fun a => .inr) r⟩
  | _ => exact h.elim
/-- from what is wanted of any value -/
theorem PostR.N {G : Gx} {B : Addr → Prop} {H : Hp} {r : R D} {Q : VK} {E : XK} (dm : Dom B H) (p : PostG G (fun H => Ir.rep G B H) H r Q E) : PostN G B H r Q E := by
  cases r with
  | stuck => exact p
  | exc c fs => exact p
  | ok d => exact fun q H1 n s x => p _ H1 s (ownR.rep (dm.new n) x)

/-- the surroundings of a piece of code; W: what is wanted of an exception -/
structure Cxk (G : Gx) (M : Nms) (N : List Str) (sc : Scope) (lvl : Nat) (W : WX) (X : Cx) : Prop where
  gx : Gxx G X
  nd : N.Nodup
  hN : X.N = N
  sc : X.env.scope = sc
  calm : M.calm = true → X.calm = true
  room : M.calm = true → Room lvl X.A
  un : X.A.units + 200 < cLine
  tk : Takes X W
  rk : M.key = some X.env.scope → Room (lvl + 1) X.A
  lam : M.lam = some X.env.scope → ∃ c P, X.env.code = .ref c ∧ LamX.TabB X.base X.mg c P ∧ (P, X.env.qual ++ "<lambda>") ∈ G.tb ∧ ∀ p ∈ G.tb, p.1 = P → p.2 = X.env.qual ++ "<lambda>"
/-- the names of built-ins that the law's text leaves alone -/
def bltNames : List Str := ["len", "sum", "sorted", "tuple", "list", "dict", "min", "max", "any", "int", "abs", "str", "range", "bool", "isinstance", "zip", "enumerate", "reversed", "set"]
/-- what the law's text knows: its defs, its constants -/
def FnFact (G : Gx) (lvl : Nat) (x : Str) (n : Nat) (F : List D → R D) : Prop := ∃ (a : Addr) (k : Nat) (fd : FuncData) (ps : List Str) (sp : Sp) (ds : List Value) (dvs : List V),
  k ≤ lvl ∧ FnOk G.P G.w G.K G.mg G.base (L2.CX G.P G.w) k a fd ps sp ∧ G.mg x = some (.ref a) ∧ PySem.W.keepIn G.K (.ref a) = true ∧ Binds G.K fd ps ds ∧ Vals dvs ds ∧
  ∀ B args H vs Q E, args.length = n → Dom B H → Tbs G H → reps G B H args vs → PostG G (fun H => rep G B H) H (F args) Q E → sp (vs ++ dvs) H Q E
/-- what is wanted behind a def that wrote to the object at a -/
def PostIo (G : Gx) (B : Addr → Prop) (a : Addr) (H : Hp) (r : R D) (Q : VK) (E : XK) : Prop := match r with
  | .stuck => False
  | .exc c fs => ∀ cls d H', Same G (del H a) H' → XR G H' c fs cls d → E cls d H'
  | .ok d => ∀ H', Same G (del H a) H' → ownR G (fun b => b = a ∨ B b) H' a d → Q .non H'
/-- a def that writes to its last argument -/
def FnFactIo (G : Gx) (lvl : Nat) (x : Str) (n : Nat) (F : List D → D → R D) : Prop := ∃ (ad : Addr) (k : Nat) (fd : FuncData) (ps : List Str) (sp : Sp),
  k ≤ lvl ∧ FnOk G.P G.w G.K G.mg G.base (L2.CX G.P G.w) k ad fd ps sp ∧ G.mg x = some (.ref ad) ∧ PySem.W.keepIn G.K (.ref ad) = true ∧ Binds G.K fd ps [] ∧
  ∀ B a args d H vs Q E, args.length = n → Dom B H → Tbs G H → ¬ B a → reps G (fun b => b = a ∨ B b) H args vs → ownR G (fun b => b = a ∨ B b) H a d → PostIo G B a H (F args d) Q E → sp (vs ++ [.ref a]) H Q E
/-- a method of a class, called with n arguments, the receiver too -/
def MethFact (G : Gx) (lvl : Nat) (c m : Str) (n : Nat) (F : List D → R D) : Prop := ∃ (C f : Addr) (k : Nat) (fd : FuncData) (ps : List Str) (sp : Sp) (ds : List Value) (dvs : List V),
  k ≤ lvl ∧ G.mg c = some (.ref C) ∧ Cls G.K C ∧ Meth G.K C m f ∧ FnOk G.P G.w G.K G.mg G.base (L2.CX G.P G.w) k f fd ps sp ∧ Binds G.K fd ps ds ∧ Vals dvs ds ∧
  ∀ B args H vs Q E, args.length = n → Dom B H → Tbs G H → reps G B H args vs → PostG G (fun H => rep G B H) H (F args) Q E → sp (vs ++ dvs) H Q E
/-- a class without fields that may be made -/
def MkFact (G : Gx) (c : Str) : Prop := ∃ C : Addr, G.mg c = some (.ref C) ∧ PySem.W.makesIn G.K C = true ∧ PySem.W.findIn G.K (.ref C) "__init__" = some (some (.builtin "object.__init__")) ∧ PySem.W.keepIn G.K (.ref C) = true
def FnFactK (G : Gx) (lvl : Nat) (x : Str) (ks : List Str) (n : Nat) (F : List D → List D → R D) : Prop := ∃ (a : Addr) (k : Nat) (fd : FuncData) (ps : List Str) (sp : Sp) (g : List Value → List Value → List Value) (gV : List V → List V → List V),
  k ≤ lvl ∧ FnOk G.P G.w G.K G.mg G.base (L2.CX G.P G.w) k a fd ps sp ∧ G.mg x = some (.ref a) ∧ PySem.W.keepIn G.K (.ref a) = true ∧ KBn G.K fd ps n ks g gV ∧
  ∀ B args args2 H vs zs Q E, args.length = n → args2.length = ks.length → Dom B H → Tbs G H → reps G B H args vs → reps G B H args2 zs → PostG G (fun H => rep G B H) H (F args args2) Q E → sp (gV vs zs) H Q E
/-- a constant that stands alone: a number, a text, a truth, None -/
def cstV : D → Option V
  | .int i => some (.int i)
  | .str s => some (.str s)
  | .bl b => some (.bl b)
  | .non => some .non
  | _ => none
/-- a class by its name -/
def ClsN (G : Gx) (n : Str) (v : V) (u : Value) : Prop := (∃ U, G.mg n = some (.ref U) ∧ v = .ref U ∧ u = .ref U) ∨ (n = "ValueError" ∧ G.mg n = none ∧ v = .ty "ValueError" ∧ u = .type "ValueError")
def ClsNs (G : Gx) : List Str → List V → List Value → Prop
  | [], vs, us => vs = [] ∧ us = []
  | n :: ns, vs, us => ∃ v u vs' us', vs = v :: vs' ∧ us = u :: us' ∧ ClsN G n v u ∧ ClsNs G ns vs' us'
/-- what isinstance asks of the class of an own instance -/
structure InsOk (K : PySem.W.Frag) (C : Addr) : Prop where
  cl : Cls K C
  ha : PySem.W.findIn K (.ref C) "__class__" = some (some (.builtin "object.__class__"))
  hn : PySem.W.specialIn K (.builtin "object.__class__") "__get__" = some (some (.builtin "getset_descriptor.__get__"))
  htk : PySem.W.takesIn K (.builtin "object.__class__") = some true
  hm : PySem.W.mroIn K C (.type "object") = some true
/-- an instance of c is one of these -/
def SubFact (G : Gx) (c : Str) (cs : List Str) (b : Bool) : Prop := ∃ C vs us, G.mg c = some (.ref C) ∧ ClsNs G cs vs us ∧ InsOk G.K C ∧ PySem.W.kitAny G.K (.ref C) us = some b
/-- c('..') may be raised -/
def RaiseFact (G : Gx) (c : Str) : Prop := ∃ (C : Addr) (B newId initId : String) (bmB : List Value), G.mg c = some (.ref C) ∧ ExcBaseFacts B newId initId bmB ∧ PySem.W.excIn G.K C bmB newId = true ∧ PySem.W.keepIn G.K (.ref C) = true ∧ PySem.W.subIn G.K (.ref C) (.type "BaseException") = some true ∧ PySem.W.typeIn G.K (.ref C) = some (.type "type")
/-- a caught c is one of these -/
def SubEFact (G : Gx) (c : Str) (cs : List Str) (b : Bool) : Prop := ∃ C vs us, G.mg c = some (.ref C) ∧ ClsNs G cs vs us ∧ ExcC G.K C ∧ PySem.W.kitAny G.K (.ref C) us = some b
/-- the clause x takes c -/
def ExmFact (G : Gx) (c x : Str) (b : Bool) : Prop := ∃ C U, G.mg c = some (.ref C) ∧ G.mg x = some (.ref U) ∧ PySem.W.exmOne G.K (.ref C) (.ref U) = some b
structure XFacts (G : Gx) (rs : Str → Bool) (subE : Str → List Str → R Bool) (exm : Str → Str → R Bool) : Prop where
  fr : ∀ c, rs c = true → RaiseFact G c
  fs : ∀ c cs b, subE c cs = .ok b → SubEFact G c cs b
  fsx : ∀ c cs e l, subE c cs ≠ .exc e l
  fe : ∀ c x b, exm c x = .ok b → ExmFact G c x b
structure Facts (G : Gx) (M : Nms) (T : Tbl) (lvl : Nat) : Prop where
  blt : ∀ x, x ∈ bltNames → G.mg x = none
  fn : ∀ f x n, M.fn.lookup f = some x → (f, n) ∈ M.ar → FnFact G lvl x n (T.fn f)
  fnK : ∀ f x ks n, M.fn.lookup f = some x → (f, ks, n) ∈ M.fk → FnFactK G lvl x ks n (T.fnK f ks)
  cst : ∀ i x d, M.cst.lookup i = some x → T.cst i = .ok d → ∃ v u, G.mg x = some u ∧ RelV v u ∧ cstV d = some v
  cstx : ∀ i c fs, T.cst i ≠ .exc c fs
  mkc : ∀ c, T.mkc c = true → MkFact G c
  mt : ∀ c m n, T.hm c m = true → (m, n) ∈ M.mt → MethFact G lvl c m n (T.mt c m)
  io : ∀ f x n, M.fn.lookup f = some x → (f, n) ∈ M.io → FnFactIo G lvl x n (T.io f)
  sub : ∀ c cs b, T.sub c cs = .ok b → SubFact G c cs b
  subx : ∀ c cs e fs, T.sub c cs ≠ .exc e fs
  xf : XFacts G T.rs T.subE T.exm
section
variable {G : Gx} {M : Nms} {T : Tbl} {N : List Str} {sc : Scope} {lvl : Nat} {W : WX} {X : Cx}
theorem Cxk.hu (c : Cxk G M N sc lvl W X) : X.A.units + 200 < cLine := c.un

structure SE (G : Gx) (T : Tbl) (X : Cx) (W : WX) (e : Expr) (ir : E) (te : TE) : Prop where
  pe : PE X e te
  im : ∀ B H0 ρ σ H Q, RelS G B H0 ρ σ H → PostG G (fun H => rep G (Blk B ρ σ) H) H (ev T ir ρ) Q (WE W σ) → te σ H Q
  pk : ∀ B H0 ρ σ H Q, RelS G B H0 ρ σ H → PostG G (fun H => repT G (Blk B ρ σ) H) H (evP T ir ρ) Q (WE W σ) → te σ H Q
  rt : ∀ B H0 ρ σ H Q, RelS G B H0 ρ σ H → PostG G (fun H => rep G B H) H (evP T ir ρ) Q (WE W σ) → te σ H Q
  fr : fresh ir = true → ∀ B H0 ρ σ H Q, RelS G B H0 ρ σ H → PostN G (Blk B ρ σ) H (evP T ir ρ) Q (WE W σ) → te σ H Q
theorem ev_nv {ir : E} {ρ : Sl} (nv : isVar ir = false) : ev T ir ρ = evP T ir ρ := by
  cases ir <;> first | rfl | cases nv
/-- where the form is no name and makes nothing that one might write to -/
theorem SE.of {e : Expr} {ir : E} {te : TE} (nv : isVar ir = false) (nf : fresh ir = false) (h : PE X e te)
    (k : ∀ B H0 ρ σ H Q, RelS G B H0 ρ σ H → PostG G (fun H => rep G (Blk B ρ σ) H) H (evP T ir ρ) Q (WE W σ) → te σ H Q) : SE G T X W e ir te :=
  ⟨h, fun B H0 ρ σ H Q r p => k B H0 ρ σ H Q r (ev_nv (T := T) (ρ := ρ) nv ▸ p), fun B H0 ρ σ H Q r p => k B H0 ρ σ H Q r (p.imp fun _ _ _ _ => rep_T),
    fun B H0 ρ σ H Q r p => k B H0 ρ σ H Q r (p.imp fun _ _ _ _ => rep_anti fun _ => .inl), fun z => by rw [nf] at z; cases z⟩
/-- where it makes a new one -/
theorem SE.ofN {e : Expr} {ir : E} {te : TE} (nv : isVar ir = false) (h : PE X e te)
    (k : ∀ B H0 ρ σ H Q, RelS G B H0 ρ σ H → PostN G (Blk B ρ σ) H (evP T ir ρ) Q (WE W σ) → te σ H Q) : SE G T X W e ir te :=
  ⟨h, fun B H0 ρ σ H Q r p => k B H0 ρ σ H Q r (PostR.N r.bdom (ev_nv (T := T) (ρ := ρ) nv ▸ p)), fun B H0 ρ σ H Q r p => k B H0 ρ σ H Q r (PostR.N r.bdom (p.imp fun _ _ _ _ => rep_T)),
    fun B H0 ρ σ H Q r p => k B H0 ρ σ H Q r (PostR.N r.bdom (p.imp fun _ _ _ _ => rep_anti fun _ => .inl)), fun _ => k⟩
theorem vis_of {x : Str} (h : visB sc x = true) (e : X.env.scope = sc) : Vis X.env.scope x := by
  unfold visB at h
  rw [e]
  split at h
  · exact .inl (by assumption)
  · exact .inr (.inl (by assumption))
  · exact .inr (.inr (by assumption))
  · cases h
theorem gl_of {x : Str} (h : glB sc x = true) (e : X.env.scope = sc) : Gl X x := by
  unfold glB at h
  show X.env.scope.names.lookup x = some .globalImplicit
  rw [e]
  split at h
  · assumption
  · cases h
theorem okNm_of {x : Str} (h : okNm x = true) : (x == ("__debug__" : Str)) = false ∧ (x == ("__classdict__" : Str)) = false := by
  unfold okNm at h
  rw [Bool.and_eq_true, Bool.not_eq_true', Bool.not_eq_true'] at h
  exact h
theorem ownR.low {B : Addr → Prop} {ρ : Sl} {σ : L2.St} {H : Hp} {a : Addr} {d : D} (nb : ¬ B a) (q : ownR G (Blk B ρ σ) H a d) : Ir.rep G B H d (.ref a) := by
  cases d with
  | lst l =>
    obtain ⟨vs, e, r⟩ := q
    exact ⟨a, vs, rfl, .inl e, nb, reps_anti (fun _ => .inl) r⟩
  | dct t ks l =>
    obtain ⟨vs, e, r⟩ := q
    exact ⟨a, vs, rfl, e.at_, nb, reps_anti (fun _ => .inl) r⟩
  | _ => exact q.elim
theorem RelS.imOwn {B : Addr → Prop} {H0 H : Hp} {ρ : Sl} {σ : L2.St} (r : RelS G B H0 ρ σ H) {i : Nat} {d : D} (e : Ir.getP ρ i = .ok d) : ∃ v, σ[i]? = some (some v) ∧ rep G B H d v := by
  unfold Ir.getP at e
  split at e
  · rename_i d' h
    cases e
    obtain ⟨v, e1, q⟩ := r.im i d h
    exact ⟨v, e1, rep_anti (fun _ => .inl) q⟩
  · rename_i d' h
    cases e
    obtain ⟨a, _, e1, ⟨_, nb⟩, q⟩ := r.own i _ d h rfl
    exact ⟨_, e1, ownR.low nb q⟩
  · rename_i b d' h
    cases e
    obtain ⟨a, _, e1, ⟨_, nb⟩, q⟩ := r.own i _ d h rfl
    exact ⟨_, e1, ownR.low nb q⟩
  · cases e
theorem se_var (c : Cxk G M N sc lvl W X) {i : Nat} {e : Expr} (h : isE M N (.var i) sc e = true) : ∃ te, SE G T X W e (.var i) te := by
  unfold isE at h
  split at h
  · rename_i x pos
    simp only [Bool.and_eq_true, decide_eq_true_eq] at h
    obtain ⟨⟨h1, h2⟩, h3⟩ := h
    obtain ⟨h4, h5⟩ := okNm_of h3
    refine ⟨tVar i, pe_var (by rw [c.hN]; exact h1) (vis_of h2 c.sc) h4 h5, fun B H0 ρ σ H Q r p => ?_, fun B H0 ρ σ H Q r p => ?_, fun B H0 ρ σ H Q r p => ?_, fun z => by cases z⟩
    · have p : PostG G (fun H => rep G (Blk B ρ σ) H) H (getI ρ i) Q (WE W σ) := p
      cases q : getI ρ i with
      | stuck =>
        rw [q] at p
        exact p.elim
      | exc c fs => exact (getI_noexc q).elim
      | ok d =>
        rw [q] at p
        obtain ⟨v, e1, e2⟩ := r.getI q
        exact ⟨v, e1, p v H (Same.refl H) e2⟩
    · have p : PostG G (fun H => repT G (Blk B ρ σ) H) H (getP ρ i) Q (WE W σ) := p
      cases q : getP ρ i with
      | stuck =>
        rw [q] at p
        exact p.elim
      | exc c fs => exact (getP_noexc q).elim
      | ok d =>
        rw [q] at p
        obtain ⟨v, e1, e2⟩ := r.getP q
        exact ⟨v, e1, p v H (Same.refl H) e2⟩
    · have p : PostG G (fun H => rep G B H) H (getP ρ i) Q (WE W σ) := p
      cases q : getP ρ i with
      | stuck =>
        rw [q] at p
        exact p.elim
      | exc c fs => exact (getP_noexc q).elim
      | ok d =>
        rw [q] at p
        obtain ⟨v, e1, e2⟩ := r.imOwn q
        exact ⟨v, e1, p v H (Same.refl H) e2⟩
  · cases h
theorem PostR.at_ {α β : Type} {rp : Hp → α → β → Prop} {H : Hp} {d : α} {Q : β → Hp → Prop} {E : XK} (p : PostR G rp H (.ok d) Q E) {v : β} (h : rp H d v) : Q v H := p v H (Same.refl H) h
theorem se_con {e : Expr} {ir : E} {d : D} {v : V} (h : PE X e (tC v)) (nv : isVar ir = false) (nf : fresh ir = false) (hd : ∀ ρ, evP T ir ρ = .ok d) (hr : ∀ B H, rep G B H d v) : SE G T X W e ir (tC v) :=
  SE.of nv nf h fun B H0 ρ σ H Q r p => by
    rw [hd] at p
    exact PostR.at_ p (hr _ H)
end
end Ir

/-! Ir5: expressions: the machine does what the plain form says. -/
namespace Ir
open PySem L2 PyProof.Rows
section
variable {G : Gx} {M : Nms} {T : Tbl} {N : List Str} {sc : Scope} {lvl : Nat} {W : WX} {X : Cx}
variable {x y z : Expr} {a b d : E} {ta tb td : TE} {pos : Pos}
theorem se_bin (c : Cxk G M N sc lvl W X) {o : Operator} (ha : SE G T X W x a ta) (hb : SE G T X W y b tb) (nf : fresh (.bin o a b) = false) : SE G T X W (.BinOp x o y pos) (.bin o a b) (tOp (rBin G o) ta tb) :=
  SE.of rfl nf (pe_op (op_bin c.gx o) ha.pe hb.pe) fun B H0 ρ σ H Q r p => ha.pk B H0 ρ σ H _ r (PostR.bnd p fun dx vx H1 s1 h1 p1 => hb.pk B H0 ρ σ H1 _ (r.mono s1) (PostR.bnd p1 fun dy vy H2 s2 h2 p2 =>
    ⟨Blk B ρ σ, dx, dy, ((r.mono s1).mono s2).bdom, repT_keep s2 h1, h2, PostR.V (nx_bin _ _ _) p2⟩))
/-- [..] * n -/
def rMulN (G : Gx) : R2 := fun x y H Q => ∃ B E dx dy, Dom B H ∧ repT G B H (.lst dx) x ∧ repT G B H dy y ∧ PostN G B H (mulD (.lst dx) dy) Q E
theorem op_mulN : OpR X (binaryOp .Mult) (rMulN G) := by
  intro pins s σ H x y v u Q I rx ry h
  obtain ⟨B, E, dx, dy, dm, hx, hy, p⟩ := h
  cases dy with
  | int k =>
    obtain ⟨c, p⟩ := PostN.iff p
    obtain ⟨c1, c2, c3⟩ := of_decide_eq_true c
    rw [lim_eq] at c3
    obtain ⟨l, xs, rfl, t1, r1⟩ := hx
    have ey : y = .int k := hy
    subst ey
    obtain ⟨t, rfl⟩ := ry
    cases rx
    refine rep_list I t1 (by omega) (by omega) (by rw [reps_len r1]; exact c3) fun q n => p q _ n (Same.upd_new n) ⟨_, upd_same, reps_keep (Keep.of (Same.upd_new (G := G) n)) (fun a o e z => ?_) (reps_flat r1 _)⟩
    rcases z with rfl | z
    · rw [n] at e
      cases e
    · exact z
  | _ => exact p.elim
theorem evP_lst_ok {l : Es} {ρ : Sl} {d : D} (h : evP T (.lst l) ρ = .ok d) : ∃ ds, d = .lst ds := by
  have h : ((evL T l ρ).bind fun ds => .iff (decide (ds.length ≤ LIM)) (.ok (.lst ds))) = .ok d := h
  obtain ⟨ds, _, h⟩ := bind_ok_inv h
  obtain ⟨_, h⟩ := iff_ok h
  exact ⟨ds, (R.ok.inj h).symm⟩
theorem se_mulN (c : Cxk G M N sc lvl W X) {l : Es} (ha : SE G T X W x (.lst l) ta) (hb : SE G T X W y b tb) : SE G T X W (.BinOp x .Mult y pos) (.bin .Mult (.lst l) b) (tOp (rMulN G) ta tb) :=
  SE.ofN rfl (pe_op op_mulN ha.pe hb.pe) fun B H0 ρ σ H Q r p => ha.pk B H0 ρ σ H _ r (by
    have p : PostN G (Blk B ρ σ) H ((evP T (.lst l) ρ).bind fun x => (evP T b ρ).bind fun y => mulD x y) Q (WE W σ) := p
    cases e : evP T (.lst l) ρ with
    | stuck =>
      rw [e] at p
      exact p
    | exc cc fs =>
      rw [e] at p
      exact p
    | ok dx =>
      rw [e] at p
      obtain ⟨ds, rfl⟩ := evP_lst_ok e
      intro vx H1 s1 h1
      have p1 : PostN G (Blk B ρ σ) H1 ((evP T b ρ).bind fun y => mulD (.lst ds) y) Q (WE W σ) := PostN.mono s1 p
      exact hb.pk B H0 ρ σ H1 _ (r.mono s1) (PostN.bnd p1 fun dy vy H2 s2 h2 p2 => ⟨Blk B ρ σ, WE W σ, ds, dy, ((r.mono s1).mono s2).bdom, repT_keep s2 h1, h2, p2⟩))
theorem se_neg (c : Cxk G M N sc lvl W X) (ha : SE G T X W x a ta) : SE G T X W (.UnaryOp .USub x pos) (.neg a) (tUn (rU fun i => .int (-i)) ta) :=
  SE.of rfl rfl (pe_un un_neg ha.pe) fun B H0 ρ σ H Q r p => ha.pk B H0 ρ σ H _ r (PostR.bnd p fun dx vx H1 s1 h1 p1 => by
    cases dx with
    | int i => exact ⟨i, h1, PostR.at_ p1 rfl⟩
    | _ => exact p1.elim)
/-! ### tests -/
structure STt (G : Gx) (T : Tbl) (X : Cx) (W : WX) (e : Expr) (ir : E) (tt : TT) : Prop where
  pt : PT X e tt
  tr : ∀ B H0 ρ σ H (Q : Bool → Hp → Prop), RelS G B H0 ρ σ H → PostR G (fun _ d (v : Bool) => d = v) H (evT T ir ρ) Q (WE W σ) → tt σ H Q
theorem noBl_is {e : Expr} (h : noBl e = true) (env : Env) (whole : Sem Value) : isTrue e env whole = (do let v ← whole; standAt e.pos; holding [v] (truthy v)) := by
  cases e with
  | UnaryOp o _ _ => cases o <;> first | rfl | cases h
  | BoolOp _ _ _ => cases h
  | IfExp _ _ _ _ => cases h
  | Compare _ _ _ _ => cases h
  | _ => rfl
theorem st_val (c : Cxk G M N sc lvl W X) (nb : noBl x = true) (ha : SE G T X W x a ta) : STt G T X W x a (fun σ H Q => ta σ H fun x H' => ∃ k, TruV X.K x H' k ∧ Q k H') :=
  ⟨pt_truth ha.pe (noBl_is nb X.env), fun B H0 ρ σ H Q r p => ha.pk B H0 ρ σ H _ r (PostR.bnd p fun dx vx H1 s1 h1 p1 => by
    cases e : truD dx with
    | stuck =>
      rw [e] at p1
      exact p1.elim
    | exc cc fs => exact (nx_tru dx cc fs e).elim
    | ok k =>
      rw [e] at p1
      exact ⟨k, tru_of c.gx h1 e, PostR.at_ p1 rfl⟩)⟩
theorem se_not (c : Cxk G M N sc lvl W X) (ha : SE G T X W x a ta) : SE G T X W (.UnaryOp .Not x pos) (.not a) (fun σ H Q => ta σ H fun x H' => ∃ k, TruV X.K x H' k ∧ Q (.bl (!k)) H') :=
  SE.of rfl rfl ⟨fun pins s σ H Q I h => UnaryOp_ (thn (ha.pe.run pins s σ H _ I h) fun v s1 ⟨y, H1, I1, r1, k, e, q⟩ =>
    not_of (thn (tru_ok pins s1 σ H1 y v (fun k H' => Q (.bl (!k)) H') I1 r1 ⟨k, e, q⟩) fun cc s2 ⟨H2, I2, q2⟩ => ⟨.bl (!cc), H2, I2, rfl, q2⟩))⟩ fun B H0 ρ σ H Q r p => ha.pk B H0 ρ σ H _ r (PostR.bnd p fun dx vx H1 s1 h1 p1 => by
    obtain ⟨k, e, p2⟩ := PostR.pure (nx_tru dx) p1
    exact ⟨k, tru_of c.gx h1 e, PostR.at_ p2 rfl⟩)
theorem st_not {tt : TT} (ht : STt G T X W x a tt) : STt G T X W (.UnaryOp .Not x pos) (.not a) (tNot tt) :=
  ⟨pt_not ht.pt, fun B H0 ρ σ H Q r p => ht.tr B H0 ρ σ H _ r (by
    have p : PostR G (fun _ d (v : Bool) => d = v) H (((evP T a ρ).bind fun x => (truD x).bind fun b => .ok (.bl (!b))).bind truD) Q (WE W σ) := p
    show PostR G _ H ((evP T a ρ).bind truD) _ _
    cases e : evP T a ρ with
    | stuck =>
      rw [e] at p
      exact p
    | exc cc fs =>
      rw [e] at p
      exact p
    | ok dx =>
      rw [e] at p
      show PostR G _ H (truD dx) _ _
      have p : PostR G (fun _ d (v : Bool) => d = v) H (((truD dx).bind fun b => .ok (.bl (!b))).bind truD) Q (WE W σ) := p
      cases e2 : truD dx with
      | stuck =>
        rw [e2] at p
        exact p
      | exc cc fs => exact (nx_tru dx cc fs e2).elim
      | ok k =>
        rw [e2] at p
        intro v H1 s1 h1
        subst h1
        exact p (!k) H1 s1 rfl)⟩
theorem nomark_of {o : CmpOp} {e : Expr} (h : noSet e = true) : behindInMarks o e = false := by
  cases e <;> first | rfl | cases h
theorem cmp_v (c : Cxk G M N sc lvl W X) {o : CmpOp} (ha : SE G T X W x a ta) (hb : SE G T X W y b tb) (B H0 ρ σ H) {β : Type} (rp : Hp → D → β → Prop) (f : Bool → R D) (Q : β → Hp → Prop) (Q' : VK) (r : RelS G B H0 ρ σ H)
    (p : PostR G rp H ((evP T a ρ).bind fun x => (evP T b ρ).bind fun y => (cmpD o x y).bind f) Q (WE W σ))
    (k : ∀ v H1, Same G H H1 → PostR G rp H1 (f v) Q (WE W σ) → Q' (.bl v) H1) : tOp (rCmp G o) ta tb σ H Q' :=
  ha.pk B H0 ρ σ H _ r (PostR.bnd p fun dx vx H1 s1 h1 p1 => hb.pk B H0 ρ σ H1 _ (r.mono s1) (PostR.bnd p1 fun dy vy H2 s2 h2 p2 => by
    obtain ⟨v, e, p3⟩ := PostR.pure (nx_cmp o dx dy) p2
    exact ⟨Blk B ρ σ, dx, dy, v, repT_keep s2 h1, h2, e, k v H2 (s1.trans s2) p3⟩))
theorem se_cmp (c : Cxk G M N sc lvl W X) {o : CmpOp} (ns : noSet y = true) (ha : SE G T X W x a ta) (hb : SE G T X W y b tb) : SE G T X W (.Compare x [o] [y] pos) (.cmp o a b) (tOp (rCmp G o) ta tb) :=
  SE.of rfl rfl (pe_cmpR (op_cmp c.gx c.hu o) ha.pe hb.pe (nomark_of ns)) fun B H0 ρ σ H Q r p => cmp_v c ha hb B H0 ρ σ H _ _ Q Q r p fun v H1 s1 p1 => PostR.at_ p1 rfl
/-- a test by its value -/
theorem SE.bl {e : Expr} {ir : E} {te : TE} (h : SE G T X W e ir te) (hb : ∀ ρ u, evP T ir ρ = .ok u → ∃ k, u = .bl k) (B H0 ρ σ H) (Q : Bool → Hp → Prop) (r : RelS G B H0 ρ σ H)
    (p : PostR G (fun _ d (v : Bool) => d = v) H (evT T ir ρ) Q (WE W σ)) : tTest te σ H Q := h.pk B H0 ρ σ H _ r (by
  unfold evT at p
  cases q : evP T ir ρ with
  | stuck =>
    rw [q] at p
    exact p
  | exc c fs =>
    rw [q] at p
    exact p
  | ok u =>
    rw [q] at p
    obtain ⟨k, rfl⟩ := hb ρ u q
    exact fun v H1 s1 h1 => ⟨k, h1, p k H1 s1 rfl⟩)
theorem cmp_bl {o : CmpOp} (ρ : Sl) (u : D) (h : evP T (.cmp o a b) ρ = .ok u) : ∃ k, u = .bl k := by
  have h : ((evP T a ρ).bind fun x => (evP T b ρ).bind fun y => (cmpD o x y).bind fun r => .ok (.bl r)) = .ok u := h
  obtain ⟨_, _, h⟩ := bind_ok_inv h
  obtain ⟨_, _, h⟩ := bind_ok_inv h
  obtain ⟨k, _, h⟩ := bind_ok_inv h
  exact ⟨k, (R.ok.inj h).symm⟩
theorem st_cmp (c : Cxk G M N sc lvl W X) {o : CmpOp} (ns : noSet y = true) (ha : SE G T X W x a ta) (hb : SE G T X W y b tb) : STt G T X W (.Compare x [o] [y] pos) (.cmp o a b) (tTest (tOp (rCmp G o) ta tb)) :=
  ⟨pt_cmpR (op_cmp c.gx c.hu o) ha.pe hb.pe (nomark_of ns), (se_cmp (pos := pos) c ns ha hb).bl cmp_bl⟩
theorem se_chain (c : Cxk G M N sc lvl W X) {o q : CmpOp} (ns : noSet z = true) (ha : SE G T X W x a ta) (hb : SE G T X W y b tb) (hd : SE G T X W z d td) : SE G T X W (.Compare x [o, q] [y, z] pos) (.chain o q a b d) (tChain (rCmp G o) (rCmp G q) ta tb td) :=
  SE.of rfl rfl (pe_chain (op_cmp c.gx c.hu o) (op_cmp c.gx c.hu q) ha.pe hb.pe hd.pe (nomark_of ns)) fun B H0 ρ σ H Q r p => ha.pk B H0 ρ σ H _ r (PostR.bnd p fun dx vx H1 s1 h1 p1 => hb.pk B H0 ρ σ H1 _ (r.mono s1) (PostR.bnd p1 fun dy vy H2 s2 h2 p2 => by
    obtain ⟨v, e, p3⟩ := PostR.pure (nx_cmp o dx dy) p2
    refine ⟨Blk B ρ σ, dx, dy, v, repT_keep s2 h1, h2, e, v, rfl, ?_⟩
    cases v with
    | false => exact PostR.at_ p3 rfl
    | true => exact hd.pk B H0 ρ σ H2 _ ((r.mono s1).mono s2) (PostR.bnd p3 fun dz vz H3 s3 h3 p4 => by
        obtain ⟨v, e, p5⟩ := PostR.pure (nx_cmp q dy dz) p4
        exact ⟨Blk B ρ σ, dy, dz, v, repT_keep s3 h2, h3, e, PostR.at_ p5 rfl⟩)))
theorem chain_bl {o q : CmpOp} (ρ : Sl) (e : D) (h : evP T (.chain o q a b d) ρ = .ok e) : ∃ k, e = .bl k := by
  have h : ((evP T a ρ).bind fun x => (evP T b ρ).bind fun y => (cmpD o x y).bind fun r => match r with
    | true => (evP T d ρ).bind fun z => (cmpD q y z).bind fun r => .ok (.bl r)
    | false => .ok (.bl false)) = .ok e := h
  obtain ⟨_, _, h⟩ := bind_ok_inv h
  obtain ⟨_, _, h⟩ := bind_ok_inv h
  obtain ⟨k, _, h⟩ := bind_ok_inv h
  cases k with
  | false => exact ⟨false, (R.ok.inj h).symm⟩
  | true =>
    obtain ⟨_, _, h⟩ := bind_ok_inv h
    obtain ⟨k, _, h⟩ := bind_ok_inv h
    exact ⟨k, (R.ok.inj h).symm⟩
theorem st_chain (c : Cxk G M N sc lvl W X) {o q : CmpOp} (ns : noSet z = true) (ha : SE G T X W x a ta) (hb : SE G T X W y b tb) (hd : SE G T X W z d td) : STt G T X W (.Compare x [o, q] [y, z] pos) (.chain o q a b d) (tTest (tChain (rCmp G o) (rCmp G q) ta tb td)) :=
  ⟨pt_chain (op_cmp c.gx c.hu o) (op_cmp c.gx c.hu q) ha.pe hb.pe hd.pe (nomark_of ns), (se_chain (pos := pos) c ns ha hb hd).bl chain_bl⟩
/-! ### and, or -/
variable {rest : List Expr}
theorem se_and (c : Cxk G M N sc lvl W X) (ha : SE G T X W x a ta) (pb : PE X (.BoolOp .And (y :: rest) pos) tb) (hb : ∀ B H0 ρ σ H Q, RelS G B H0 ρ σ H → PostG G (fun H => rep G (Blk B ρ σ) H) H (ev T b ρ) Q (WE W σ) → tb σ H Q) :
    SE G T X W (.BoolOp .And (x :: y :: rest) pos) (.and a b) (tAndV ta tb) :=
  SE.of rfl rfl (pe_and ha.pe pb) fun B H0 ρ σ H Q r p => ha.pk B H0 ρ σ H _ r (PostR.bnd p fun dx vx H1 s1 h1 p1 => by
    cases dx with
    | bl k =>
      refine ⟨k, h1, ?_⟩
      cases k with
      | true => exact hb B H0 ρ σ H1 Q (r.mono s1) p1
      | false => exact PostR.at_ p1 rfl
    | _ => exact p1.elim)
theorem se_or (c : Cxk G M N sc lvl W X) (ha : SE G T X W x a ta) (pb : PE X (.BoolOp .Or (y :: rest) pos) tb) (hb : ∀ B H0 ρ σ H Q, RelS G B H0 ρ σ H → PostG G (fun H => rep G (Blk B ρ σ) H) H (ev T b ρ) Q (WE W σ) → tb σ H Q) :
    SE G T X W (.BoolOp .Or (x :: y :: rest) pos) (.or a b) (tOrV ta tb) :=
  SE.of rfl rfl (pe_or ha.pe pb) fun B H0 ρ σ H Q r p => ha.pk B H0 ρ σ H _ r (PostR.bnd p fun dx vx H1 s1 h1 p1 => by
    cases dx with
    | bl k =>
      refine ⟨k, h1, ?_⟩
      cases k with
      | true => exact PostR.at_ p1 rfl
      | false => exact hb B H0 ρ σ H1 Q (r.mono s1) p1
    | _ => exact p1.elim)
theorem evT_ev {ir : E} {ρ : Sl} {H : Hp} {Q : Bool → Hp → Prop} {E : XK} (p : PostR G (fun _ d (v : Bool) => d = v) H ((ev T ir ρ).bind truD) Q E) : PostR G (fun _ d (v : Bool) => d = v) H (evT T ir ρ) Q E := by
  cases nv : isVar ir with
  | false =>
    rw [ev_nv nv] at p
    exact p
  | true =>
    cases ir with
    | var i =>
      have p : PostR G (fun _ d (v : Bool) => d = v) H ((getI ρ i).bind truD) Q E := p
      show PostR G (fun _ d (v : Bool) => d = v) H ((getP ρ i).bind truD) Q E
      unfold getI at p
      unfold getP
      split at p
      · rename_i d' h
        rw [h]
        exact p
      · exact p.elim
    | _ => cases nv
theorem st_and (c : Cxk G M N sc lvl W X) {tA tB : TT} (ha : STt G T X W x a tA) (pb : PW X (.BoolOp .And (y :: rest) pos) tB) (hb : ∀ B H0 ρ σ H (Q : Bool → Hp → Prop), RelS G B H0 ρ σ H → PostR G (fun _ d (v : Bool) => d = v) H (evT T b ρ) Q (WE W σ) → tB σ H Q) :
    STt G T X W (.BoolOp .And (x :: y :: rest) pos) (.and a b) (tAnd tA tB) :=
  ⟨(pw_and ha.pt pb).pt, fun B H0 ρ σ H Q r p => ha.tr B H0 ρ σ H _ r (by
    have p : PostR G (fun _ d (v : Bool) => d = v) H (((evP T a ρ).bind fun x => match x with
      | .bl true => ev T b ρ
      | .bl false => .ok (.bl false)
      | _ => .stuck).bind truD) Q (WE W σ) := p
    unfold evT
    cases q : evP T a ρ with
    | stuck =>
      rw [q] at p
      exact p
    | exc c fs =>
      rw [q] at p
      exact p
    | ok u =>
      rw [q] at p
      cases u with
      | bl k =>
        intro v H1 s1 h1
        subst h1
        cases k with
        | true => exact hb B H0 ρ σ H1 Q (r.mono s1) (PostR.mono s1 (evT_ev p))
        | false => exact p false H1 s1 rfl
      | _ => exact p.elim)⟩
theorem st_or (c : Cxk G M N sc lvl W X) {tA tB : TT} (ha : STt G T X W x a tA) (pb : PW X (.BoolOp .Or (y :: rest) pos) tB) (hb : ∀ B H0 ρ σ H (Q : Bool → Hp → Prop), RelS G B H0 ρ σ H → PostR G (fun _ d (v : Bool) => d = v) H (evT T b ρ) Q (WE W σ) → tB σ H Q) :
    STt G T X W (.BoolOp .Or (x :: y :: rest) pos) (.or a b) (tOr tA tB) :=
  ⟨(pw_or ha.pt pb).pt, fun B H0 ρ σ H Q r p => ha.tr B H0 ρ σ H _ r (by
    have p : PostR G (fun _ d (v : Bool) => d = v) H (((evP T a ρ).bind fun x => match x with
      | .bl true => .ok (.bl true)
      | .bl false => ev T b ρ
      | _ => .stuck).bind truD) Q (WE W σ) := p
    unfold evT
    cases q : evP T a ρ with
    | stuck =>
      rw [q] at p
      exact p
    | exc c fs =>
      rw [q] at p
      exact p
    | ok u =>
      rw [q] at p
      cases u with
      | bl k =>
        intro v H1 s1 h1
        subst h1
        cases k with
        | true => exact p true H1 s1 rfl
        | false => exact hb B H0 ρ σ H1 Q (r.mono s1) (PostR.mono s1 (evT_ev p))
      | _ => exact p.elim)⟩

/-! ### rows of expressions -/
structure SL (G : Gx) (T : Tbl) (X : Cx) (W : WX) (es : List Expr) (l : Es) (ta : TA) : Prop where
  pa : PA X es ta
  im : ∀ B H0 ρ σ H Q, RelS G B H0 ρ σ H → PostR G (fun H => reps G (Blk B ρ σ) H) H (evL T l ρ) Q (WE W σ) → ta σ H Q
  pk : ∀ B H0 ρ σ H Q, RelS G B H0 ρ σ H → PostR G (fun H => repTs G (Blk B ρ σ) H) H (evLP T l ρ) Q (WE W σ) → ta σ H Q
  stars : ∀ e es', es = e :: es' → starEach (e :: es') X.env = (false, eval e X.env) :: starEach es' X.env
  plain : ∀ pos, (backTo pos (starEach es X.env)).any (·.1) = false
theorem noSt_is {e : Expr} (h : noSt e = true) (es : List Expr) (env : Env) : starEach (e :: es) env = (false, eval e env) :: starEach es env := by
  cases e <;> first | rfl | cases h
theorem sl_nil : SL G T X W [] .nil tNil :=
  ⟨pa_nil, fun B H0 ρ σ H Q r p => PostR.at_ p rfl, fun B H0 ρ σ H Q r p => PostR.at_ p rfl, (fun _ _ h => by cases h), fun _ => rfl⟩
theorem backTo_any {pos : Pos} {l : List (Bool × Sem Value)} : (backTo pos l).any (·.1) = l.any (·.1) := by
  unfold backTo
  rw [List.any_map]
  rfl
theorem sl_cons {es : List Expr} {l : Es} {tl : TA} (ns : noSt x = true) (ha : SE G T X W x a ta) (hl : SL G T X W es l tl) : SL G T X W (x :: es) (.cons a l) (tCons ta tl) :=
  ⟨pa_cons ha.pe hl.pa (noSt_is ns es X.env), fun B H0 ρ σ H Q r p => ha.im B H0 ρ σ H _ r (PostR.bnd p fun dx vx H1 s1 h1 p1 => hl.im B H0 ρ σ H1 _ (r.mono s1) (PostR.bnd p1 fun ds vs H2 s2 h2 p2 =>
      PostR.at_ p2 ⟨vx, vs, rfl, rep_same s2 h1, h2⟩)),
    fun B H0 ρ σ H Q r p => ha.pk B H0 ρ σ H _ r (PostR.bnd p fun dx vx H1 s1 h1 p1 => hl.pk B H0 ρ σ H1 _ (r.mono s1) (PostR.bnd p1 fun ds vs H2 s2 h2 p2 =>
      PostR.at_ p2 ⟨vx, vs, rfl, repT_keep s2 h1, h2⟩)),
    fun e es' h => by
      cases h
      exact noSt_is ns es X.env,
    fun pos => by
      have h := hl.plain pos
      rw [backTo_any] at h ⊢
      rw [noSt_is ns es X.env, List.any_cons, h]
      rfl⟩
theorem se_tup {es : List Expr} {l : Es} {tl : TA} {k : Nat} (hl : SL G T X W es l tl) : SE G T X W (.Tuple es k pos) (.tup l) (tTup tl) :=
  SE.of rfl rfl (pe_tup hl.pa) fun B H0 ρ σ H Q r p => hl.im B H0 ρ σ H _ r (PostR.bnd p fun ds vs H1 s1 h1 p1 => by
    obtain ⟨c, p2⟩ := PostR.iff p1
    have c := of_decide_eq_true c
    rw [lim_eq] at c
    exact ⟨by rw [reps_len h1]; exact c, PostV.newT p2 (r.mono s1).bdom h1⟩)
theorem own_new {B : Addr → Prop} {H : Hp} {p : Addr} {l : List D} {vs : List V} (n : H p = none) (r : reps G B H l vs) : ownR G (fun a => a = p ∨ B a) (upd H p (.lst vs)) p (.lst l) :=
  ⟨vs, upd_same, reps_keep (Keep.of (Same.upd_new (G := G) n)) (fun a o e z => by
    rcases z with rfl | z
    · rw [n] at e
      cases e
    · exact z) r⟩
theorem se_lst {es : List Expr} {l : Es} {tl : TA} (hl : SL G T X W es l tl) : SE G T X W (.List es pos) (.lst l) (tLst tl) :=
  SE.ofN rfl (pe_lst hl.pa) fun B H0 ρ σ H Q r p => hl.im B H0 ρ σ H _ r (PostN.bnd p fun ds vs H1 s1 h1 p1 => by
    obtain ⟨c, p2⟩ := PostN.iff p1
    have c := of_decide_eq_true c
    rw [lim_eq] at c
    exact ⟨by rw [reps_len h1]; exact c, fun q n => p2 q _ n (Same.upd_new n) (own_new n h1)⟩)
theorem se_dct0 : SE G T X W (.Dict [] [] pos) (.dct0 0) tDNewK :=
  SE.ofN rfl pe_dnewK fun B H0 ρ σ H Q r p q n => p q _ n (Same.upd_new n) ⟨[], .inl ⟨[], rfl, upd_same, rfl, rfl⟩, rfl⟩
theorem se_dct1 : SE G T X W (.Dict [] [] pos) (.dct0 1) tDNewT :=
  SE.ofN rfl pe_dnewT fun B H0 ρ σ H Q r p q n => p q _ n (Same.upd_new n) ⟨[], .inr ⟨[], rfl, upd_same, rfl, rfl⟩, rfl⟩

/-! ### items, slices -/
theorem plainIx_of {e : Expr} (h : noSl e = true) : PlainIx e := by
  intro o i
  cases e <;> first | rfl | cases h
theorem se_sub (c : Cxk G M N sc lvl W X) (ns : noSl y = true) (ha : SE G T X W x a ta) (hb : SE G T X W y b tb) : SE G T X W (.Subscript x y pos) (.sub a b) (tOp (rSub G) ta tb) :=
  SE.of rfl rfl (pe_ix (ix_sub c.gx c.hu) ha.pe hb.pe (plainIx_of ns)) fun B H0 ρ σ H Q r p => ha.pk B H0 ρ σ H _ r (PostR.bnd p fun dx vx H1 s1 h1 p1 => hb.pk B H0 ρ σ H1 _ (r.mono s1) (PostR.bnd p1 fun dy vy H2 s2 h2 p2 =>
    ⟨Blk B ρ σ, dx, dy, repT_keep s2 h1, h2, PostR.V (nx_sub _ _) p2⟩))
theorem int_of {B : Addr → Prop} {H : Hp} {d : D} {v : V} {o : Option Int} (h : repT G B H d v) (e : intO d = .ok o) : ∃ i, v = .int i ∧ o = some i := by
  cases d with
  | int i =>
    cases e
    exact ⟨i, h, rfl⟩
  | _ => cases e
variable {p2 : Pos}
theorem se_slc (c : Cxk G M N sc lvl W X) (ha : SE G T X W x a ta) (hb : SE G T X W y b tb) (hd : SE G T X W z d td) : SE G T X W (.Subscript x (.Slice (some y) (some z) none p2) pos) (.slc a b d) (tSl (rSlc G) ta (tPart tb) (tPart td)) :=
  SE.of rfl rfl (pe_slice (sl_slc c.gx) ha.pe (po_some hb.pe) (po_some hd.pe)) fun B H0 ρ σ H Q r p => ha.pk B H0 ρ σ H _ r (PostR.bnd p fun dx vx H1 s1 h1 p1 => hb.pk B H0 ρ σ H1 _ (r.mono s1) (PostR.bnd p1 fun dy vy H2 s2 h2 p2 => by
    obtain ⟨lo, e1, p2⟩ := PostR.pure (nx_int dy) p2
    obtain ⟨i, rfl, rfl⟩ := int_of h2 e1
    refine ⟨i, rfl, ?_⟩
    refine hd.pk B H0 ρ σ H2 _ ((r.mono s1).mono s2) (PostR.bnd p2 fun dz vz H3 s3 h3 p3 => ?_)
    obtain ⟨hi, e2, p3⟩ := PostR.pure (nx_int dz) p3
    obtain ⟨j, rfl, rfl⟩ := int_of h3 e2
    exact ⟨j, rfl, Blk B ρ σ, dx, (((r.mono s1).mono s2).mono s3).bdom, repT_keep (s2.trans s3) h1, PostR.V (nx_slc _ _ _) p3⟩))
theorem se_slcL (c : Cxk G M N sc lvl W X) (ha : SE G T X W x a ta) (hb : SE G T X W y b tb) : SE G T X W (.Subscript x (.Slice (some y) none none p2) pos) (.slcL a b) (tSl (rSlc G) ta (tPart tb) tNoPart) :=
  SE.of rfl rfl (pe_slice (sl_slc c.gx) ha.pe (po_some hb.pe) po_none) fun B H0 ρ σ H Q r p => ha.pk B H0 ρ σ H _ r (PostR.bnd p fun dx vx H1 s1 h1 p1 => hb.pk B H0 ρ σ H1 _ (r.mono s1) (PostR.bnd p1 fun dy vy H2 s2 h2 p3 => by
      obtain ⟨lo, e1, p3⟩ := PostR.pure (nx_int dy) p3
      obtain ⟨i, rfl, rfl⟩ := int_of h2 e1
      exact ⟨i, rfl, Blk B ρ σ, dx, ((r.mono s1).mono s2).bdom, repT_keep s2 h1, PostR.V (nx_slc _ _ _) p3⟩))
theorem se_slcH (c : Cxk G M N sc lvl W X) (ha : SE G T X W x a ta) (hb : SE G T X W y b tb) : SE G T X W (.Subscript x (.Slice none (some y) none p2) pos) (.slcH a b) (tSl (rSlc G) ta tNoPart (tPart tb)) :=
  SE.of rfl rfl (pe_slice (sl_slc c.gx) ha.pe po_none (po_some hb.pe)) fun B H0 ρ σ H Q r p => ha.pk B H0 ρ σ H _ r (PostR.bnd p fun dx vx H1 s1 h1 p1 => hb.pk B H0 ρ σ H1 _ (r.mono s1) (PostR.bnd p1 fun dy vy H2 s2 h2 p3 => by
      obtain ⟨lo, e1, p3⟩ := PostR.pure (nx_int dy) p3
      obtain ⟨i, rfl, rfl⟩ := int_of h2 e1
      exact ⟨i, rfl, Blk B ρ σ, dx, ((r.mono s1).mono s2).bdom, repT_keep s2 h1, PostR.V (nx_slc _ _ _) p3⟩))
theorem se_slcN (c : Cxk G M N sc lvl W X) (ha : SE G T X W x a ta) : SE G T X W (.Subscript x (.Slice none none none p2) pos) (.slcN a) (tSl (rSlc G) ta tNoPart tNoPart) :=
  SE.of rfl rfl (pe_slice (sl_slc c.gx) ha.pe po_none po_none) fun B H0 ρ σ H Q r p => ha.pk B H0 ρ σ H _ r (PostR.bnd p fun dx vx H1 s1 h1 p3 =>
      ⟨Blk B ρ σ, dx, (r.mono s1).bdom, h1, PostR.V (nx_slc _ _ _) p3⟩)
end
end Ir

namespace Ir
open PySem PySem.Spec L2 PyProof.Rows HT
section
variable {prog : Program} {w : World} {A : Around} {E : Value → Shared → Prop} {s : Shared}
theorem irx_places (n : Nat) : (Builtin.Slice.sliceAdjust none none (-1) (n : Int)) = ((n : Int) - 1, -1) := by
  unfold Builtin.Slice.sliceAdjust
  have h1 : ((-1 : Int) < 0) := by omega
  simp only [h1, if_true]
theorem irx_many (n : Nat) : Builtin.Slice.slicePlaces ((n : Int) - 1) (-1) (-1) = n := by
  unfold Builtin.Slice.slicePlaces
  have h1 : ¬ ((-1 : Int) > 0) := by omega
  simp only [h1, if_false, Int.neg_neg, Int.ediv_one]
  split <;> omega
theorem irx_fm {α β : Type} {g : α → Option β} {g' : α → β} : ∀ {l : List α}, (∀ k ∈ l, g k = some (g' k)) → l.filterMap g = l.map g'
  | [], _ => rfl
  | a :: l, h => by
    rw [List.filterMap_cons, h a List.mem_cons_self, List.map_cons, irx_fm fun k hk => h k (List.mem_cons_of_mem _ hk)]
theorem irx_pickR (xs : Array Value) : ((List.range xs.size).filterMap fun (k : Nat) => xs[((xs.size : Int) - 1 + (k : Int) * -1).toNat]?).toArray = xs.toList.reverse.toArray := by
  have e : (List.range xs.size).filterMap (fun (k : Nat) => xs[((xs.size : Int) - 1 + (k : Int) * -1).toNat]?) = xs.toList.reverse := by
    apply List.ext_getElem?
    intro j
    have f : ∀ k ∈ List.range xs.size, xs[((xs.size : Int) - 1 + (k : Int) * -1).toNat]? = some (xs.toList.reverse.getD k .none) := fun k hk => by
      have hk := List.mem_range.mp hk
      have e1 : ((xs.size : Int) - 1 + (k : Int) * -1).toNat = xs.size - 1 - k := by omega
      rw [e1, List.getD_eq_getElem?_getD, List.getElem?_reverse (by simpa using hk)]
      simp
      rw [Array.getElem?_eq_getElem (by omega)]
      rfl
    rw [irx_fm f]
    by_cases h : j < xs.size
    · rw [List.getElem?_map, List.getElem?_range h]
      simp [h]
    · rw [List.getElem?_eq_none (by simpa using h), List.getElem?_eq_none (by simpa using h)]
  rw [e]
theorem irx_appliedR {sl : Addr} {vl vu vs : Value} {n : Nat} {Q : Int × Int × Nat → Shared → Prop} (hs : s.heap.IsSliceOf sl vl vu vs) (pl : IsPart vl none) (pu : IsPart vu none) (ps : IsPart vs (some (-1)))
    (h : Q ((n : Int) - 1, -1, n) s) : wpAny (model prog w) A (Builtin.Slice.sliceApplied (.ref sl) (pure (n : Int))) Q E s := by
  obtain ⟨os, hos, hcs, hds⟩ := id hs
  unfold Builtin.Slice.sliceApplied Builtin.Slice.sliceFields
  refine wpAny_bind (wpAny_bind (wpAny_field hos hds (x := vl) rfl (wpAny_bind (wpAny_field hos hds (x := vu) rfl (wpAny_bind (wpAny_field hos hds (x := vs) rfl (wpAny_pure ?_)))))))
  refine wpAny_bind (slicePart_ ps ?_)
  show wpAny _ _ (if ((-1 : Int) == 0) = true then _ else _) _ _ s
  rw [if_neg (by decide)]
  refine wpAny_bind (slicePart_ pl (wpAny_bind (slicePart_ pu (wpAny_bind (wpAny_pure ?_)))))
  show wpAny _ _ (match Builtin.Slice.sliceAdjust none none (-1) (n : Int) with | (lo, hi) => pure (lo, (-1 : Int), Builtin.Slice.slicePlaces lo hi (-1))) _ _ s
  rw [irx_places n]
  show wpAny _ _ (pure ((n : Int) - 1, (-1 : Int), Builtin.Slice.slicePlaces ((n : Int) - 1) (-1) (-1))) _ _ s
  rw [irx_many]
  exact wpAny_pure h
theorem irx_getR {t sl : Addr} {items : Array Value} {vl vu vs : Value} {Q : Value → Shared → Prop} (ht : IsTup s.heap t items) (hs : s.heap.IsSliceOf sl vl vu vs) (pl : IsPart vl none) (pu : IsPart vu none) (ps : IsPart vs (some (-1)))
    (h : Q (.ref s.heap.objs.size) { s with heap := s.heap.push { cls := .type "tuple", data := .seq items.toList.reverse.toArray } })
    (hsz : items.size ≤ sizeLine) : wpAny (model prog w) A (getItem (.ref t) (.ref sl)) Q E s := by
  have htake : sizeOk (.seq items.toList.reverse.toArray) := by
    show items.toList.reverse.toArray.size ≤ sizeLine
    rw [List.size_toArray, List.length_reverse, Array.length_toList]
    exact hsz
  obtain ⟨os, hos, hcs, hds⟩ := id hs
  have hTs : s.TypeIs (.ref sl) "slice" := ⟨os, hos, hcs⟩
  unfold getItem
  try with_reducible refine wpAny_holding ?_
  first | refine wpAny_bind (wpAny_pure ?_) | skip
  refine wpAny_bind (wpAny_sequenceKey ht.typeIs (by decide) ?_)
  refine wpAny_bind (wpAny_callSpecial?_slot (name := Str.ofString "__getitem__") ht.typeIs PyProof.Rows.slot_tuple_getitem
    (wpAny_call_entry PyProof.Rows.slot_tuple_getitem ht.typeIs entry_tuple_getitem ?_ (args_tuple_getitem _ _)))
  show wpAny _ _ (Builtin.Tuple.tupleItemsOf (.ref t) >>= _) _ _ s
  refine wpAny_bind (tupleItemsOf_ ht ?_)
  refine wpAny_bind (wpAny_typeOf hTs ?_)
  rw [if_pos (by decide)]
  refine wpAny_bind (irx_appliedR hs pl pu ps ?_)
  have hno : ¬ ((((items.size : Int) - 1 == 0 && (-1 : Int) == 1 && items.size == items.size)) = true) := by
    simp
  show wpAny _ _ (if ((items.size : Int) - 1 == 0 && (-1 : Int) == 1 && items.size == items.size) = true then _ else _) _ _ s
  rw [if_neg hno, irx_pickR]
  first
    | exact wpAny_bind (m := Builtin.Tuple.tupleExact _) (wpAny_newObj_type (wpAny_pure ⟨_, rfl, wpAny_pure h⟩) htake)
    | exact wpAny_bind (m := Builtin.Tuple.tupleExact _) (wpAny_newObj_type (wpAny_bind (wpAny_pure (wpAny_pure ⟨_, rfl, wpAny_pure h⟩))) htake)
    | exact wpAny_bind (wpAny_bind (m := Builtin.Tuple.tupleExact _) (wpAny_newObj_type (wpAny_pure (wpAny_pure ⟨_, rfl, wpAny_pure h⟩)) htake))
    | exact wpAny_bind (wpAny_bind (m := Builtin.Tuple.tupleExact _) (wpAny_newObj_type (wpAny_pure ⟨_, rfl, wpAny_pure h⟩) htake))
end
section
variable {X : Cx}
def tRevT (K : PySem.W.Frag) (te : TE) : TE := fun σ H Q => te σ H fun x H1 => ∃ a xs, x = .ref a ∧ SqT K H1 a xs ∧ ∀ p, H1 p = none → Q (.ref p) (upd H1 p (.tup xs.reverse))
theorem pe_revT {e : Expr} {te : TE} {k : Nat} {p1 p2 p3 pos : Pos} (he : PE X e te) : PE X (.Subscript e (.Slice none none (some (.UnaryOp .USub (.Constant (.int 1) k p1) p2)) p3) pos) (tRevT X.K te) := by
  refine ⟨fun pins s σ H Q I h => ?_⟩
  refine Subscript_ (thn (he.run pins s σ H _ I h) fun v s1 ⟨x, H1, I1, r1, q1⟩ => ?_)
  obtain ⟨a, xs, ex, hx, q⟩ := q1
  subst ex
  cases r1
  have hst : PO X (some (.UnaryOp .USub (.Constant (.int 1) k p1) p2)) (tPart (tUn (rU fun i => .int (-i)) (tC (.int 1)))) := po_some (pe_un un_neg pe_int)
  refine wpAny_Slice (thn (po_none.run pins s1 σ H1 (fun o H2 => o = none ∧ H2 = H1) I1 ⟨rfl, rfl⟩) fun vl s2 ⟨l, H2, I2, pl, el, e2⟩ => ?_)
  subst el e2
  refine thn (po_none.run pins s2 σ H2 (fun o H3 => o = none ∧ H3 = H2) I2 ⟨rfl, rfl⟩) fun vu s3 ⟨u, H3, I3, pu, eu, e3⟩ => ?_
  subst eu e3
  refine thn (hst.run pins s3 σ H3 (fun o H4 => o = some (-1) ∧ H4 = H3) I3 ⟨1, rfl, -1, rfl, rfl, rfl⟩) fun vs s4 ⟨o, H4, I4, ps, eo, e4⟩ => ?_
  subst eo e4
  have I5 : Inv X pins σ H4 { s4 with heap := s4.heap.push { cls := .type "slice", data := .fields #[vl, vu, vs] } } := I4.kept (t' := s4.toks) fun b ob q => Heap.get?_push_of_some _ q
  obtain ⟨its, r, ht, hz⟩ := I5.tuple hx
  have hlen := r.length
  show wpAny (model X.prog X.w) X.A (subscriptTail e (.Slice none none (some (.UnaryOp .USub (.Constant (.int 1) k p1) p2)) p3) (.ref a) (.ref s4.heap.objs.size)) (EP X pins σ Q) X.xe { s4 with heap := s4.heap.push { cls := .type "slice", data := .fields #[vl, vu, vs] } }
  refine tail_any (ops := [.ref a, .ref s4.heap.objs.size]) ht.typeIs (PyProof.Rows.slot_tuple_getitem.lookup) ?_ (by with_unfolding_all rfl)
  refine irx_getR ht (Heap.IsSliceOf.new _ vl vu vs) pl pu ps ?_ (by rw [List.size_toArray, ← hlen]; exact hz)
  refine ⟨.ref _, _, I5.laid (t' := s4.toks) (o := .tup xs.reverse) (fun b ob q => Heap.get?_push_of_some _ q) (Nat.le_refl _) ?_, rfl, q _ (I5.hok.fresh (Nat.le_refl _))⟩
  exact ⟨by rw [List.length_reverse]; exact hz, _, r.reverse, IsTup.new _ _⟩
end
end Ir

/-! Ir5s: t[::2], t a tuple. -/
namespace Ir
open PySem PySem.Spec L2 PyProof.Rows HT
theorem evens_get {α : Type} : ∀ (l : List α) (j : Nat), (evens l)[j]? = l[2 * j]?
  | [], j => rfl
  | [a], j => by
    cases j with
    | zero => rfl
    | succ j =>
      show ([a] : List α)[j + 1]? = ([a] : List α)[2 * (j + 1)]?
      rw [List.getElem?_eq_none (by simp), List.getElem?_eq_none (by simp; omega)]
  | a :: b :: l, j => by
    cases j with
    | zero => rfl
    | succ j =>
      show (a :: evens l)[j + 1]? = _
      rw [List.getElem?_cons_succ, evens_get l j, show 2 * (j + 1) = (2 * j) + 1 + 1 by omega, List.getElem?_cons_succ, List.getElem?_cons_succ]
theorem evens_len {α : Type} : ∀ (l : List α), (evens l).length = (l.length + 1) / 2
  | [] => by
    show 0 = (0 + 1) / 2
    decide
  | [a] => by
    show 1 = (0 + 1 + 1) / 2
    decide
  | a :: b :: l => by
    show (evens l).length + 1 = (l.length + 1 + 1 + 1) / 2
    rw [evens_len l]
    omega
theorem evens_map {α β : Type} (f : α → β) : ∀ (l : List α), evens (l.map f) = (evens l).map f
  | [] => rfl
  | [a] => rfl
  | a :: b :: l => by
    show f a :: evens (l.map f) = f a :: (evens l).map f
    rw [evens_map f l]
theorem evens_sub {α : Type} {a : α} : ∀ {l : List α}, a ∈ evens l → a ∈ l
  | [], h => h
  | [b], h => h
  | b :: c :: l, h => by
    have h : a ∈ b :: evens l := h
    rcases List.mem_cons.mp h with h | h
    · rw [h]
      exact List.mem_cons_self
    · exact List.mem_cons_of_mem _ (List.mem_cons_of_mem _ (evens_sub h))
section
variable {prog : Program} {w : World} {A : Around} {E : Value → Shared → Prop} {s : Shared}
theorem irx_places2 (n : Nat) : (Builtin.Slice.sliceAdjust none none 2 (n : Int)) = (0, (n : Int)) := by
  unfold Builtin.Slice.sliceAdjust
  have h1 : ¬ ((2 : Int) < 0) := by omega
  simp only [h1, if_false]
theorem irx_many2 (n : Nat) : Builtin.Slice.slicePlaces 0 (n : Int) 2 = (n + 1) / 2 := by
  unfold Builtin.Slice.slicePlaces
  have h1 : ((2 : Int) > 0) := by omega
  simp only [h1, if_true]
  split <;> omega
theorem irx_pick2 (xs : Array Value) : ((List.range ((xs.size + 1) / 2)).filterMap fun (k : Nat) => xs[((0 : Int) + (k : Int) * 2).toNat]?).toArray = (evens xs.toList).toArray := by
  have e : (List.range ((xs.size + 1) / 2)).filterMap (fun (k : Nat) => xs[((0 : Int) + (k : Int) * 2).toNat]?) = evens xs.toList := by
    apply List.ext_getElem?
    intro j
    have f : ∀ k ∈ List.range ((xs.size + 1) / 2), xs[((0 : Int) + (k : Int) * 2).toNat]? = some ((evens xs.toList).getD k .none) := fun k hk => by
      have hk := List.mem_range.mp hk
      have e1 : ((0 : Int) + (k : Int) * 2).toNat = 2 * k := by omega
      rw [e1, List.getD_eq_getElem?_getD, evens_get, Array.getElem?_toList, Array.getElem?_eq_getElem (by omega)]
      rfl
    rw [irx_fm f]
    by_cases h : j < (xs.size + 1) / 2
    · rw [List.getElem?_map, List.getElem?_range h]
      have h2 : j < (evens xs.toList).length := by
        rw [evens_len, Array.length_toList]
        exact h
      rw [List.getElem?_eq_getElem h2, Option.map_some, List.getD_eq_getElem?_getD, List.getElem?_eq_getElem h2]
      rfl
    · rw [List.getElem?_eq_none (by simpa using h), List.getElem?_eq_none (by rw [evens_len, Array.length_toList]; omega)]
  rw [e]
theorem irx_applied2 {sl : Addr} {vl vu vs : Value} {n : Nat} {Q : Int × Int × Nat → Shared → Prop} (hs : s.heap.IsSliceOf sl vl vu vs) (pl : IsPart vl none) (pu : IsPart vu none) (ps : IsPart vs (some 2))
    (h : Q (0, 2, (n + 1) / 2) s) : wpAny (model prog w) A (Builtin.Slice.sliceApplied (.ref sl) (pure (n : Int))) Q E s := by
  obtain ⟨os, hos, hcs, hds⟩ := id hs
  unfold Builtin.Slice.sliceApplied Builtin.Slice.sliceFields
  refine wpAny_bind (wpAny_bind (wpAny_field hos hds (x := vl) rfl (wpAny_bind (wpAny_field hos hds (x := vu) rfl (wpAny_bind (wpAny_field hos hds (x := vs) rfl (wpAny_pure ?_)))))))
  refine wpAny_bind (slicePart_ ps ?_)
  show wpAny _ _ (if ((2 : Int) == 0) = true then _ else _) _ _ s
  rw [if_neg (by decide)]
  refine wpAny_bind (slicePart_ pl (wpAny_bind (slicePart_ pu (wpAny_bind (wpAny_pure ?_)))))
  show wpAny _ _ (match Builtin.Slice.sliceAdjust none none 2 (n : Int) with | (lo, hi) => pure (lo, (2 : Int), Builtin.Slice.slicePlaces lo hi 2)) _ _ s
  rw [irx_places2 n]
  show wpAny _ _ (pure ((0 : Int), (2 : Int), Builtin.Slice.slicePlaces 0 (n : Int) 2)) _ _ s
  rw [irx_many2]
  exact wpAny_pure h
theorem irx_get2 {t sl : Addr} {items : Array Value} {vl vu vs : Value} {Q : Value → Shared → Prop} (ht : IsTup s.heap t items) (hs : s.heap.IsSliceOf sl vl vu vs) (pl : IsPart vl none) (pu : IsPart vu none) (ps : IsPart vs (some 2))
    (h : Q (.ref s.heap.objs.size) { s with heap := s.heap.push { cls := .type "tuple", data := .seq (evens items.toList).toArray } })
    (hsz : items.size ≤ sizeLine) : wpAny (model prog w) A (getItem (.ref t) (.ref sl)) Q E s := by
  have htake : sizeOk (.seq (evens items.toList).toArray) := by
    show (evens items.toList).toArray.size ≤ sizeLine
    rw [List.size_toArray, evens_len, Array.length_toList]
    omega
  obtain ⟨os, hos, hcs, hds⟩ := id hs
  have hTs : s.TypeIs (.ref sl) "slice" := ⟨os, hos, hcs⟩
  unfold getItem
  try with_reducible refine wpAny_holding ?_
  first | refine wpAny_bind (wpAny_pure ?_) | skip
  refine wpAny_bind (wpAny_sequenceKey ht.typeIs (by decide) ?_)
  refine wpAny_bind (wpAny_callSpecial?_slot (name := Str.ofString "__getitem__") ht.typeIs PyProof.Rows.slot_tuple_getitem
    (wpAny_call_entry PyProof.Rows.slot_tuple_getitem ht.typeIs entry_tuple_getitem ?_ (args_tuple_getitem _ _)))
  show wpAny _ _ (Builtin.Tuple.tupleItemsOf (.ref t) >>= _) _ _ s
  refine wpAny_bind (tupleItemsOf_ ht ?_)
  refine wpAny_bind (wpAny_typeOf hTs ?_)
  rw [if_pos (by decide)]
  refine wpAny_bind (irx_applied2 hs pl pu ps ?_)
  have hno : ¬ (((0 : Int) == 0 && (2 : Int) == 1 && (items.size + 1) / 2 == items.size) = true) := by
    simp
  show wpAny _ _ (if ((0 : Int) == 0 && (2 : Int) == 1 && (items.size + 1) / 2 == items.size) = true then _ else _) _ _ s
  rw [if_neg hno, irx_pick2]
  first
    | exact wpAny_bind (m := Builtin.Tuple.tupleExact _) (wpAny_newObj_type (wpAny_pure ⟨_, rfl, wpAny_pure h⟩) htake)
    | exact wpAny_bind (m := Builtin.Tuple.tupleExact _) (wpAny_newObj_type (wpAny_bind (wpAny_pure (wpAny_pure ⟨_, rfl, wpAny_pure h⟩))) htake)
    | exact wpAny_bind (wpAny_bind (m := Builtin.Tuple.tupleExact _) (wpAny_newObj_type (wpAny_pure (wpAny_pure ⟨_, rfl, wpAny_pure h⟩)) htake))
    | exact wpAny_bind (wpAny_bind (m := Builtin.Tuple.tupleExact _) (wpAny_newObj_type (wpAny_pure ⟨_, rfl, wpAny_pure h⟩) htake))
end
theorem vals_evens : ∀ {xs : List V} {us : List Value}, Vals xs us → Vals (evens xs) (evens us)
  | [], _, .nil => .nil
  | [a], _, .cons r .nil => .cons r .nil
  | a :: b :: xs, _, .cons r (.cons r2 t) => .cons r (vals_evens t)
section
variable {X : Cx}
def tEvT (K : PySem.W.Frag) (te : TE) : TE := fun σ H Q => te σ H fun x H1 => ∃ a xs, x = .ref a ∧ SqT K H1 a xs ∧ ∀ p, H1 p = none → Q (.ref p) (upd H1 p (.tup (evens xs)))
theorem pe_evT {e : Expr} {te : TE} {k : Nat} {p1 p3 pos : Pos} (he : PE X e te) : PE X (.Subscript e (.Slice none none (some (.Constant (.int 2) k p1)) p3) pos) (tEvT X.K te) := by
  refine ⟨fun pins s σ H Q I h => ?_⟩
  refine Subscript_ (thn (he.run pins s σ H _ I h) fun v s1 ⟨x, H1, I1, r1, q1⟩ => ?_)
  obtain ⟨a, xs, ex, hx, q⟩ := q1
  subst ex
  cases r1
  have hst : PO X (some (.Constant (.int 2) k p1)) (tPart (tC (.int 2))) := po_some pe_int
  refine wpAny_Slice (thn (po_none.run pins s1 σ H1 (fun o H2 => o = none ∧ H2 = H1) I1 ⟨rfl, rfl⟩) fun vl s2 ⟨l, H2, I2, pl, el, e2⟩ => ?_)
  subst el e2
  refine thn (po_none.run pins s2 σ H2 (fun o H3 => o = none ∧ H3 = H2) I2 ⟨rfl, rfl⟩) fun vu s3 ⟨u, H3, I3, pu, eu, e3⟩ => ?_
  subst eu e3
  refine thn (hst.run pins s3 σ H3 (fun o H4 => o = some 2 ∧ H4 = H3) I3 ⟨2, rfl, rfl, rfl⟩) fun vs s4 ⟨o, H4, I4, ps, eo, e4⟩ => ?_
  subst eo e4
  have I5 : Inv X pins σ H4 { s4 with heap := s4.heap.push { cls := .type "slice", data := .fields #[vl, vu, vs] } } := I4.kept (t' := s4.toks) fun b ob q => Heap.get?_push_of_some _ q
  obtain ⟨its, r, ht, hz⟩ := I5.tuple hx
  have hlen := r.length
  show wpAny (model X.prog X.w) X.A (subscriptTail e (.Slice none none (some (.Constant (.int 2) k p1)) p3) (.ref a) (.ref s4.heap.objs.size)) (EP X pins σ Q) X.xe { s4 with heap := s4.heap.push { cls := .type "slice", data := .fields #[vl, vu, vs] } }
  refine tail_any (ops := [.ref a, .ref s4.heap.objs.size]) ht.typeIs (PyProof.Rows.slot_tuple_getitem.lookup) ?_ (by with_unfolding_all rfl)
  refine irx_get2 ht (Heap.IsSliceOf.new _ vl vu vs) pl pu ps ?_ (by rw [List.size_toArray, ← hlen]; exact hz)
  refine ⟨.ref _, _, I5.laid (t' := s4.toks) (o := .tup (evens xs)) (fun b ob q => Heap.get?_push_of_some _ q) (Nat.le_refl _) ?_, rfl, q _ (I5.hok.fresh (Nat.le_refl _))⟩
  exact ⟨by rw [evens_len]; omega, _, vals_evens r, IsTup.new _ _⟩
end
end Ir

/-! Ir6: calls, walks, comprehensions. -/
namespace Ir
open PySem L2 PyProof.Rows
section
variable {G : Gx} {M : Nms} {T : Tbl} {N : List Str} {sc : Scope} {lvl : Nat} {W : WX} {X : Cx}
variable {x y z : Expr} {a b d : E} {ta tb td : TE} {pos p0 : Pos} {nm : Str} {es : List Expr} {l : Es} {tl : TA}
theorem reps_length {B : Addr → Prop} {H : Hp} {ds : List D} {vs : List V} (h : reps G B H ds vs) : vs.length = ds.length := reps_len h
theorem evL_length : ∀ {l : Es} {ρ : Sl} {ds : List D} {es : List Expr}, isL M N l sc es = true → evL T l ρ = .ok ds → ds.length = es.length
  | .nil, ρ, ds, es, h, e => by
    have e : R.ok [] = R.ok ds := e
    cases es with
    | nil =>
      cases e
      rfl
    | cons x es => cases h
  | .cons a l, ρ, ds, es, h, e => by
    cases es with
    | nil => cases h
    | cons x es =>
      have h : (noSt x && isE M N a sc x && isL M N l sc es) = true := h
      rw [Bool.and_eq_true] at h
      have e : ((imO a ρ (evP T a ρ)).bind fun x => (evL T l ρ).bind fun xs => .ok (x :: xs)) = .ok ds := e
      obtain ⟨v, _, e⟩ := bind_ok_inv e
      obtain ⟨vs, e2, e⟩ := bind_ok_inv e
      cases e
      rw [List.length_cons, List.length_cons, evL_length h.2 e2]
theorem se_call (c : Cxk G M N sc lvl W X) (F : Facts G M T lvl) (hcm : M.calm = true) {f : Nat} (h1 : M.fn.lookup f = some nm) (h0 : (f, (y :: es).length) ∈ M.ar) (hg : glB sc nm = true) (hn : okNm nm = true) (hi : isL M N l sc (y :: es) = true) (hl : SL G T X W (y :: es) l tl) : ∃ te, SE G T X W (.Call (.Name nm p0) (y :: es) [] pos) (.call f l) te := by
  obtain ⟨ad, k, fd, ps, sp, ds, dvs, hk, ok, hm, kp, bi, dv, pr⟩ := F.fn f nm (y :: es).length h1 h0
  have ok' : FnOk X.prog X.w X.K X.mg X.base (L2.CX X.prog X.w) k ad fd ps sp := by
    rw [c.gx.prog, c.gx.w, c.gx.K, c.gx.mg, c.gx.base]
    exact ok
  refine ⟨_, SE.of rfl rfl (pe_callSD (p := p0) (E := WE W) ok' ((c.room hcm).mono hk) (gl_of hg c.sc) (by rw [c.gx.mg]; exact hm) (by rw [c.gx.K]; exact kp) (by rw [c.gx.K]; exact bi) dv (fun σ => passAt c.tk σ) hl.pa (okNm_of hn).1 (hl.stars y es rfl) (by
      have h := hl.plain pos
      rw [backTo_any] at h ⊢
      rw [hl.stars y es rfl, List.any_cons] at h
      exact h)) ?_⟩
  intro B H0 ρ σ H Q r p
  have p : PostG G (fun H => rep G (Blk B ρ σ) H) H ((evL T l ρ).bind fun ds => T.fn f ds) Q (WE W σ) := p
  refine hl.im B H0 ρ σ H _ r ?_
  cases e : evL T l ρ with
  | stuck =>
    rw [e] at p
    exact p
  | exc c fs =>
    rw [e] at p
    exact p
  | ok args =>
    rw [e] at p
    intro vs H1 s1 h2
    exact pr _ args H1 vs Q (WE W σ) (evL_length hi e) (r.mono s1).bdom (r.mono s1).tab h2 (PostR.mono s1 p)
/-! ### keywords -/
structure SK (G : Gx) (T : Tbl) (X : Cx) (W : WX) (kws : List Keyword) (ks : List Str) (l : Es) (ta : TA) : Prop where
  pk : PK X kws ta
  im : ∀ B H0 ρ σ H Q, RelS G B H0 ρ σ H → PostR G (fun H => reps G (Blk B ρ σ) H) H (evL T l ρ) Q (WE W σ) → ta σ H Q
  all : ∀ pos, (backToKw pos (keywordEach kws X.env)).all (·.1.isSome) = true
  nm : ∀ pos, (backToKw pos (keywordEach kws X.env)).filterMap (·.1) = ks
  non : ∀ pos, (backToKw pos (keywordEach kws X.env)).any (·.1.isNone) = false
  len : ∀ ρ ds, evL T l ρ = .ok ds → ds.length = ks.length
theorem sk_nil : SK G T X W [] [] .nil tNil :=
  ⟨pk_nil, fun B H0 ρ σ H Q r p => PostR.at_ p rfl, fun _ => rfl, fun _ => rfl, fun _ => rfl, fun ρ ds e => by cases e; rfl⟩
theorem sk_cons {kws : List Keyword} {k : Str} {ks : List Str} {kp : Pos} {l : Es} {tl : TA} (ha : SE G T X W x a ta) (hl : SK G T X W kws ks l tl) : SK G T X W (⟨some k, x, kp⟩ :: kws) (k :: ks) (.cons a l) (tCons ta tl) :=
  ⟨pk_cons ha.pe hl.pk, fun B H0 ρ σ H Q r p => ha.im B H0 ρ σ H _ r (PostR.bnd p fun dx vx H1 s1 h1 p1 => hl.im B H0 ρ σ H1 _ (r.mono s1) (PostR.bnd p1 fun ds vs H2 s2 h2 p2 =>
      PostR.at_ p2 ⟨vx, vs, rfl, rep_same s2 h1, h2⟩)),
    fun pos => by
      have h := hl.all pos
      show (true && (backToKw pos (keywordEach kws X.env)).all (·.1.isSome)) = true
      rw [h]
      rfl,
    fun pos => by
      have h := hl.nm pos
      show k :: (backToKw pos (keywordEach kws X.env)).filterMap (·.1) = _
      rw [h],
    fun pos => by
      have h := hl.non pos
      show (false || (backToKw pos (keywordEach kws X.env)).any (·.1.isNone)) = false
      rw [h]
      rfl,
    fun ρ ds e => by
      have e : ((imO a ρ (evP T a ρ)).bind fun x => (evL T l ρ).bind fun xs => .ok (x :: xs)) = .ok ds := e
      obtain ⟨v, _, e⟩ := bind_ok_inv e
      obtain ⟨vs, e2, e⟩ := bind_ok_inv e
      cases e
      rw [List.length_cons, List.length_cons, hl.len ρ vs e2]⟩
def tCallNS (n m : Nat) (sp : Sp) (gV : List V → List V → List V) (E : L2.St → XK) (t tk : TA) : TE := fun σ H Q => t σ H fun vs H1 => tk σ H1 fun zs H2 => vs.length = n ∧ zs.length = m ∧ sp (gV vs zs) H2 Q (E σ)
theorem pe_callNS {CX : CXT} {k n : Nat} {f : Addr} {fd : FuncData} {ps ks : List Str} {sp : Sp} {E : L2.St → XK} {p pos : Pos} {e : Expr} {kws : List Keyword} {t tk : TA} {g : List Value → List Value → List Value} {gV : List V → List V → List V}
    (F : FnOk X.prog X.w X.K X.mg X.base CX k f fd ps sp) (hr : Room k X.A) (hg : Gl X nm) (hm : X.mg nm = some (.ref f)) (hk : PySem.W.keepIn X.K (.ref f) = true) (hb : KBn X.K fd ps n ks g gV) (hx : ∀ σ, PassesAt CX X σ (E σ))
    (ha : PA X (e :: es) t) (hkw : PK X kws tk) (hall : (backToKw pos (keywordEach kws X.env)).all (·.1.isSome) = true) (hks : (backToKw pos (keywordEach kws X.env)).filterMap (·.1) = ks)
    (hdb : (nm == ("__debug__" : Str)) = false) (he : starEach (e :: es) X.env = (false, eval e X.env) :: starEach es X.env)
    (hpl : ((backTo pos (starEach (e :: es) X.env)).any (·.1) || (backToKw pos (keywordEach kws X.env)).any (·.1.isNone)) = false) :
    PE X (.Call (.Name nm p) (e :: es) kws pos) (tCallNS n ks.length sp gV E t tk) := by
  refine ⟨fun pins s σ H Q I h => ?_⟩
  refine wpAny_Call_Name_kw (ld_glob I hg hm ?_ hdb)
  refine PySem.W.callWith_KW (h₀ := X.base) I.ok.mod.kin hk hall (thn (ha.run pos pins s σ H _ I h) fun us s1 ⟨vs, H1, I1, r, q⟩ => ?_) hpl he
  refine thn (hkw.run pos pins s1 σ H1 _ I1 q) fun ws s2 ⟨zs, H2, I2, rz, l1, l2, q2⟩ => ⟨I2.kIn, ?_⟩
  rw [hks]
  have r2 := hb.rel r rz
  refine wpAny_call (codeAny_mono (F.run X.A X.stack s2 H2 ⟨us, ks.zip ws⟩ (g us ws) (gV vs zs) Q (E σ) hr I2.env0 (hb.to s2 us ws I2.kIn (r.length.symm.trans l1) (rz.length.symm.trans l2)) r2 q2) fun r s' hq => ?_)
  cases r with
  | error e => exact hx σ pins H2 s2 e s' I2 hq
  | ok fl =>
    cases fl with
    | ret u => exact I2.after hq
    | next => exact False.elim hq
    | brk => exact False.elim hq
    | cont => exact False.elim hq
theorem se_callK (c : Cxk G M N sc lvl W X) (F : Facts G M T lvl) (hcm : M.calm = true) {f : Nat} {kws : List Keyword} {ks : List Str} {m : Es} {tm : TA} (h1 : M.fn.lookup f = some nm) (h0 : (f, ks, (y :: es).length) ∈ M.fk) (hg : glB sc nm = true) (hn : okNm nm = true) (hi : isL M N l sc (y :: es) = true) (hl : SL G T X W (y :: es) l tl) (hk : SK G T X W kws ks m tm) :
    ∃ te, SE G T X W (.Call (.Name nm p0) (y :: es) kws pos) (.callK f l ks m) te := by
  obtain ⟨ad, k, fd, ps, sp, g, gV, hk', ok, hm, kp, bi, pr⟩ := F.fnK f nm ks (y :: es).length h1 h0
  have ok' : FnOk X.prog X.w X.K X.mg X.base (L2.CX X.prog X.w) k ad fd ps sp := by
    rw [c.gx.prog, c.gx.w, c.gx.K, c.gx.mg, c.gx.base]
    exact ok
  refine ⟨_, SE.of rfl rfl (pe_callNS (p := p0) (E := WE W) ok' ((c.room hcm).mono hk') (gl_of hg c.sc) (by rw [c.gx.mg]; exact hm) (by rw [c.gx.K]; exact kp) (by rw [c.gx.K]; exact bi) (fun σ => passAt c.tk σ) hl.pa hk.pk (hk.all pos) (hk.nm pos) (okNm_of hn).1 (hl.stars y es rfl) (by
      rw [hl.plain pos, hk.non pos]
      rfl)) ?_⟩
  intro B H0 ρ σ H Q r p
  have p : PostG G (fun H => rep G (Blk B ρ σ) H) H ((evL T l ρ).bind fun ds => (evL T m ρ).bind fun es => T.fnK f ks ds es) Q (WE W σ) := p
  refine hl.im B H0 ρ σ H _ r ?_
  cases e : evL T l ρ with
  | stuck =>
    rw [e] at p
    exact p
  | exc c fs =>
    rw [e] at p
    exact p
  | ok args =>
    rw [e] at p
    intro vs H1 s1 h2
    have p : PostG G (fun H => rep G (Blk B ρ σ) H) H ((evL T m ρ).bind fun es => T.fnK f ks args es) Q (WE W σ) := p
    refine hk.im B H0 ρ σ H1 _ (r.mono s1) ?_
    cases e' : evL T m ρ with
    | stuck =>
      rw [e'] at p
      exact p
    | exc c fs =>
      rw [e'] at p
      exact fun cls d H' s x => p cls d H' (s1.trans s) x
    | ok args2 =>
      rw [e'] at p
      intro zs H2 s2 h3
      have e1 : vs.length = (y :: es).length := by rw [reps_len h2, evL_length hi e]
      have e2 : zs.length = ks.length := by rw [reps_len h3, hk.len ρ _ e']
      exact ⟨e1, e2, pr _ args args2 H2 vs zs Q (WE W σ) (evL_length hi e) (hk.len ρ _ e') ((r.mono s1).mono s2).bdom ((r.mono s1).mono s2).tab (reps_same s2 h2) h3 (PostR.mono (s1.trans s2) p)⟩
theorem BF.boot (f : BF) : bootBuiltins f.nm = some f.val := by
  cases f <;> decide +kernel
theorem BF.mem (f : BF) : f.nm ∈ bltNames := by
  cases f <;> decide +kernel
theorem BF.okn (f : BF) : f.nm ≠ "__name__" ∧ (f.nm == ("__debug__" : Str)) = false := by
  cases f <;> decide +kernel
theorem pe_blt {r : List V → Hp → VK → Prop} (c : Cxk G M N sc lvl W X) (F : Facts G M T lvl) {f : BF} (hr : CallR X f.val r) (hg : glB sc f.nm = true) (hl : SL G T X W (y :: es) l tl) : PE X (.Call (.Name f.nm p0) (y :: es) [] pos) (tCB r tl) := by
  have hg := gl_of hg c.sc
  have hm : X.mg f.nm = none := by rw [c.gx.mg]; exact F.blt _ f.mem
  have hv := f.boot
  obtain ⟨o1, o2⟩ := f.okn
  have hpl : (backTo pos (starEach es X.env)).any (·.1) = false := by
    have h := hl.plain pos
    rw [backTo_any] at h ⊢
    rw [hl.stars y es rfl, List.any_cons] at h
    exact h
  have hst := hl.stars y es rfl
  have a1 : ∀ {id : String}, f.val = .builtin id → PE X (.Call (.Name f.nm p0) (y :: es) [] pos) (tCB r tl) := fun e => by
    rw [e] at hv hr
    exact pe_callB hr hg hm hv hl.pa o1 o2 hst hpl
  have a2 : ∀ {id : String}, f.val = .type id → PE X (.Call (.Name f.nm p0) (y :: es) [] pos) (tCB r tl) := fun e => by
    rw [e] at hv hr
    exact pe_callTy hr hg hm hv hl.pa o1 o2 hst hpl
  cases f <;> first | exact a1 rfl | exact a2 rfl
theorem se_revT (c : Cxk G M N sc lvl W X) {x : Expr} {ta : TE} {k : Nat} {p1 p2 p3 pos : Pos} (ha : SE G T X W x a ta) :
    SE G T X W (.Subscript x (.Slice none none (some (.UnaryOp .USub (.Constant (.int 1) k p1) p2)) p3) pos) (.revT a) (tRevT X.K ta) := by
  refine SE.of rfl rfl (pe_revT ha.pe) fun B H0 ρ σ H Q r p => ha.pk B H0 ρ σ H _ r (PostR.bnd p fun dx vx H1 s1 h1 p1 => ?_)
  cases dx with
  | tup l =>
    obtain ⟨b, xs, rfl, t, hr⟩ := h1
    exact ⟨b, xs, rfl, sq_of c.gx t, PostV.newT p1 (r.mono s1).bdom (reps_rev hr)⟩
  | _ => exact p1.elim
theorem se_tupRev (c : Cxk G M N sc lvl W X) (F : Facts G M T lvl) (hcm : M.calm = true) {x : Expr} {ta : TE} {p1 p2 q1 q2 : Pos} (hg : glB sc "tuple" = true) (hg2 : glB sc "reversed" = true) (ns : noSt x = true) (ha : SE G T X W x a ta) :
    SE G T X W (.Call (.Name "tuple" p1) [.Call (.Name "reversed" p2) [x] [] q2] [] q1) (.tupRev a) (RT.tTupRev X.K ta) := by
  have hm : ∀ n, n ∈ bltNames → X.mg n = none := fun n h => by rw [c.gx.mg]; exact F.blt n h
  refine SE.of rfl rfl (RT.pe_tupRev (c.calm hcm) (gl_of hg c.sc) (hm _ (by decide)) (gl_of hg2 c.sc) (hm _ (by decide)) ha.pe (noSt_is ns _ _)) fun B H0 ρ σ H Q r p => ha.pk B H0 ρ σ H _ r (PostR.bnd p fun dx vx H1 s1 h1 p1 => ?_)
  cases dx with
  | lst l =>
    obtain ⟨b, xs, rfl, t, hr⟩ := h1
    exact ⟨b, xs, rfl, Rd.sq t, PostV.newT p1 (r.mono s1).bdom (reps_rev hr)⟩
  | _ => exact p1.elim
theorem se_blt (c : Cxk G M N sc lvl W X) (F : Facts G M T lvl) (hcm : M.calm = true) {f : BF} (nf : fresh (.blt f l) = false) (hg : glB sc f.nm = true) (hl : SL G T X W (y :: es) l tl) : SE G T X W (.Call (.Name f.nm p0) (y :: es) [] pos) (.blt f l) (tCB (rBlt G f) tl) :=
  SE.of rfl nf (pe_blt c F (cr_blt c.gx c.hu (c.calm hcm) f) hg hl) fun B H0 ρ σ H Q r p => hl.pk B H0 ρ σ H _ r (PostR.bnd p fun ds vs H1 s1 h1 p1 => ⟨Blk B ρ σ, ds, (r.mono s1).bdom, h1, PostR.V (nx_blt f ds) p1⟩)
/-- list(x): a new one -/
def rListN (G : Gx) : List V → Hp → VK → Prop := fun vs H Q => ∃ B E dx, Dom B H ∧ repTs G B H [dx] vs ∧ PostN G B H (bltD .list [dx]) Q E
theorem keys_own {B : Addr → Prop} {H : Hp} {kvs : List (Key × V)} {p : Addr} (n : H p = none) : ownR G (fun a => a = p ∨ B a) (upd H p (.lst (kvs.map fun kv => kV kv.1))) p (.lst (kvs.map fun p => keyD p.1)) := own_new n (reps_kV kvs)
theorem cr_listN (g : Gxx G X) (hc : X.calm = true) : CallR X (.type "list") (rListN G) := by
  intro pins s σ H vs us Q I r h
  obtain ⟨B, E, dx, dm, hr, p⟩ := h
  obtain ⟨v, rfl, hv⟩ := repTs1 hr
  cases dx with
  | lst l =>
    obtain ⟨a, ws, rfl, t, q⟩ := hv
    exact call_list_of pins s σ H _ us Q I r ⟨a, ws, rfl, .inl (Rd.sq t), fun q' n => p q' _ n (Same.upd_new n) (own_new n q)⟩
  | tup l =>
    obtain ⟨a, ws, rfl, t, q⟩ := hv
    exact call_list_of pins s σ H _ us Q I r ⟨a, ws, rfl, .inr (sq_of g t), fun q' n => p q' _ n (Same.upd_new n) (own_new n q)⟩
  | dct t ks l =>
    obtain ⟨a, ws, rfl, dd, q⟩ := hv
    by_cases n2 : t = 2
    · subst n2
      exact p.elim
    have e2 : bltD .list [.dct t ks l] = .ok (.lst ks) := by
      show R.iff (decide (t ≠ 2)) _ = _
      rw [decide_eq_true n2]
      rfl
    rw [e2] at p
    rcases dd with ⟨kvs, _, e1, rfl, rfl⟩ | ⟨kvs, t0, e1, rfl, rfl⟩ | ⟨t0, _⟩
    · obtain ⟨u, rfl, ru⟩ := vals1 r
      cases ru
      exact keys_listed hc I e1 fun q' n => p q' _ n (Same.upd_new n) (keys_own n)
    · exact call_list_dT hc pins s σ H _ us Q I r ⟨a, kvs, rfl, e1, fun p' bs n ik => p _ _ n (Same.upd_new n) (own_new n (reps_isKeys dm ik))⟩
    · exact absurd t0 n2
  | _ => exact p.elim
theorem se_listN (c : Cxk G M N sc lvl W X) (F : Facts G M T lvl) (hcm : M.calm = true) (hg : glB sc "list" = true) (hl : SL G T X W [y] (.cons a .nil) tl) : SE G T X W (.Call (.Name "list" p0) [y] [] pos) (.blt .list (.cons a .nil)) (tCB (rListN G) tl) :=
  SE.ofN rfl (pe_blt (f := .list) c F (cr_listN c.gx (c.calm hcm)) hg hl) fun B H0 ρ σ H Q r p => hl.pk B H0 ρ σ H _ r (by
    have p : PostN G (Blk B ρ σ) H ((evLP T (.cons a .nil) ρ).bind fun ds => bltD .list ds) Q (WE W σ) := p
    cases e : evLP T (.cons a .nil) ρ with
    | stuck =>
      rw [e] at p
      exact p
    | exc c fs =>
      rw [e] at p
      exact p
    | ok ds =>
      rw [e] at p
      intro vs H1 s1 h1
      have e : ((evP T a ρ).bind fun x => (R.ok []).bind fun xs => .ok (x :: xs)) = .ok ds := e
      obtain ⟨dx, _, e⟩ := bind_ok_inv e
      cases e
      exact ⟨Blk B ρ σ, WE W σ, dx, (r.mono s1).bdom, h1, PostN.mono s1 p⟩)
/-! ### isinstance -/
def TyI.tn : TyI → String
  | .int => "int"
  | .bool => "bool"
  | .tuple => "tuple"
  | .str => "str"
  | .list => "list"
theorem TyI.boot (t : TyI) : bootBuiltins t.nm = some (.type t.tn) := by
  cases t <;> decide +kernel
theorem TyI.mem (t : TyI) : t.nm ∈ bltNames := by
  cases t <;> decide +kernel
theorem TyI.okn (f : TyI) : f.nm ≠ "__name__" ∧ (f.nm == ("__debug__" : Str)) = false := by
  cases f <;> decide +kernel
theorem isi_of (g : Gxx G X) {B : Addr → Prop} {H : Hp} {dx : D} {v : V} {t : TyI} {k : Bool} (h : repT G B H dx v) (e : isiD dx t = .ok k) : ∃ ty, TyX X.K H v ty ∧ PySem.W.kitOne X.K ty (.type t.tn) = some k := by
  cases dx with
  | non =>
    have ev : v = .non := h
    subst ev
    refine ⟨_, .base .non, ?_⟩
    cases t <;> cases e <;> exact kit_ty (by decide +kernel)
  | bl b =>
    have ev : v = .bl b := h
    subst ev
    refine ⟨_, .base (.bl b), ?_⟩
    cases t <;> cases e <;> exact kit_ty (by decide +kernel)
  | int i =>
    have ev : v = .int i := h
    subst ev
    refine ⟨_, .base (.int i), ?_⟩
    cases t <;> cases e <;> exact kit_ty (by decide +kernel)
  | str i =>
    have ev : v = .str i := h
    subst ev
    refine ⟨_, .base (.str i), ?_⟩
    cases t <;> cases e <;> exact kit_ty (by decide +kernel)
  | tup l =>
    obtain ⟨a, vs, rfl, q, _⟩ := h
    refine ⟨_, .base (.tup q.1), ?_⟩
    cases t <;> cases e <;> exact kit_ty (by decide +kernel)
  | lst l =>
    obtain ⟨a, vs, rfl, q, _⟩ := h
    have q' : TyX X.K H (.ref a) (.type "list") := by
      rcases q with q | ⟨o, q⟩
      · exact .base (.lst q)
      · exact .base (.frz q)
    refine ⟨_, q', ?_⟩
    cases t <;> cases e <;> exact kit_ty (by decide +kernel)
  | dct n ks l =>
    cases n with
    | succ n => cases e
    | zero =>
      obtain ⟨a, vs, rfl, q, _⟩ := h
      have q' : TyX X.K H (.ref a) (.type "dict") := by
        rcases q with ⟨kvs, _, q, _⟩ | ⟨kvs, z, _⟩ | ⟨z, _⟩
        · rcases q with q | ⟨o, q⟩
          · exact .base (.dK q)
          · exact .fDict q
        · cases z
        · cases z
      refine ⟨_, q', ?_⟩
      cases t <;> cases e <;> exact kit_ty (by decide +kernel)
  | _ => cases e
theorem se_isi (c : Cxk G M N sc lvl W X) (F : Facts G M T lvl) {t : TyI} {p1 : Pos} (hg : glB sc "isinstance" = true) (hg2 : glB sc t.nm = true) (ns : noSt y = true) (ha : SE G T X W y a ta) :
    ∃ te, SE G T X W (.Call (.Name "isinstance" p0) [y, .Name t.nm p1] [] pos) (.isi a t) te := by
  have hm : ∀ n, n ∈ bltNames → X.mg n = none := fun n h => by rw [c.gx.mg]; exact F.blt n h
  have pt : PE X (.Name t.nm p1) (tC (.ty t.tn)) := pe_bltn (gl_of hg2 c.sc) (hm _ t.mem) t.boot rfl t.okn.1 t.okn.2
  refine ⟨_, SE.of rfl rfl (pe_callB call_isi (gl_of hg c.sc) (hm _ (by decide +kernel)) PyProof.Rows.boot_isinstance (pa_cons ha.pe (pa_cons pt pa_nil) (noSt_is ns _ _)) (by decide) (by decide) (noSt_is ns _ _) rfl) fun B H0 ρ σ H Q r p => ha.pk B H0 ρ σ H _ r (PostR.bnd p fun dx vx H1 s1 h1 p1 => ?_)⟩
  obtain ⟨k, e, p2⟩ := PostR.pure (nx_isi dx t) p1
  obtain ⟨ty, t1, t2⟩ := isi_of c.gx h1 e
  exact ⟨vx, .ty t.tn, ty, .type t.tn, k, rfl, .ty _, t1, t2, PostR.at_ p2 rfl⟩
/-- a constant of the module -/
theorem se_glb (c : Cxk G M N sc lvl W X) (F : Facts G M T lvl) {i : Nat} (h1 : M.cst.lookup i = some nm) (hg : glB sc nm = true) (hn : okNm nm = true) : ∃ te, SE G T X W (.Name nm pos) (.glb i) te := by
  cases e : T.cst i with
  | stuck =>
    refine ⟨fun _ _ _ => False, SE.of rfl rfl ⟨fun _ _ _ _ _ _ h => h.elim⟩ fun B H0 ρ σ H Q r p => ?_⟩
    have p : PostG G (fun H => rep G (Blk B ρ σ) H) H (T.cst i) Q (WE W σ) := p
    rw [e] at p
    exact p
  | exc cc fs => exact (F.cstx i cc fs e).elim
  | ok d =>
    obtain ⟨v, u, hm, rv, cd⟩ := F.cst i nm d h1 e
    refine ⟨tC v, se_con (d := d) (pe_glob (gl_of hg c.sc) (by rw [c.gx.mg]; exact hm) rv (okNm_of hn).1) rfl rfl (fun ρ => e) fun B H => ?_⟩
    cases d <;> first | (cases cd; done) | (cases cd; exact (rfl : _ = _))
end
end Ir

/-! Ir7: walks, comprehensions. -/
namespace Ir
open PySem L2 PyProof.Rows
section
variable {G : Gx} {M : Nms} {T : Tbl} {N : List Str} {sc : Scope} {lvl : Nat} {W : WX} {X : Cx}
variable {x y z tg : Expr} {a b d : E} {ta tb td : TE} {pos p0 : Pos}
structure SI (G : Gx) (T : Tbl) (X : Cx) (W : WX) (tg e : Expr) (it : Wk) (wi : TI) : Prop where
  pi : PI X tg e wi
  pk : ∀ B H0 ρ σ H R, RelS G B H0 ρ σ H → PostR G (fun H' ds J => Walks G (Blk B ρ σ) H' J ds) H (evIP T it ρ) R (WE W σ) → wi σ H R
  im : ∀ B H0 ρ σ H R, RelS G B H0 ρ σ H → PostR G (fun H' ds J => ∀ Hm, Keep (Blk B ρ σ) H' Hm → Walks G (Blk B ρ σ) Hm J ds) H (evI T it ρ) R (WE W σ) → wi σ H R
theorem src_T {B : Addr → Prop} {H : Hp} {dx : D} {v : V} {l : List D} (h : repT G B H dx v) (e : seqOf2 dx = .ok l) : ∃ a t, v = .ref a ∧ SrcAt G B H t a l := by
  cases dx with
  | tup m =>
    cases e
    obtain ⟨a, vs, rfl, q, r⟩ := h
    exact ⟨a, true, rfl, vs, .inl q.1, r⟩
  | lst m =>
    cases e
    obtain ⟨a, vs, rfl, q, r⟩ := h
    exact ⟨a, false, rfl, vs, q, r⟩
  | _ => cases e
theorem src_K {B : Addr → Prop} {H Hm : Hp} {dx : D} {a : Addr} {l : List D} (k : Keep B H Hm) (h : rep G B H dx (.ref a)) (e : seqOf2 dx = .ok l) {t : Bool} (q : SrcAt G B H t a l) : SrcAt G B Hm t a l := by
  obtain ⟨vs, q1, q2⟩ := q
  refine ⟨vs, ?_, reps_keep k (fun _ _ _ z => z) q2⟩
  have nb : ¬ B a := by
    cases dx with
    | tup m =>
      obtain ⟨a', vs, e', q, r⟩ := h
      cases e'
      exact q.2
    | lst m =>
      obtain ⟨a', vs, e', q, nb, r⟩ := h
      cases e'
      exact nb
    | _ => cases e
  cases t with
  | true => exact Rd.keep k q1 nb
  | false => exact Rd.keep k q1 nb
theorem nx_seq2 (d : D) : Nx (seqOf2 d) := by
  cases d <;> first | exact nx_ok | exact nx_stuck
theorem nx_seq (d : D) : Nx (seqOf d) := by
  cases d <;> first | exact nx_ok | exact nx_stuck | exact nx_iff nx_ok
/-- a tuple without fields for sure -/
theorem src_X {B : Addr → Prop} {H : Hp} {t : Nat} {ks m : List D} {v : V} (h : repT G B H (.dct t ks m) v) (t2 : t = 2) : ∃ a, v = .ref a ∧ SrcAt G B H true a m := by
  obtain ⟨a, vs, rfl, q, r⟩ := h
  rcases q with ⟨kvs, z, _⟩ | ⟨kvs, z, _⟩ | ⟨_, _, o, od, q⟩
  · omega
  · omega
  · exact ⟨a, rfl, vs, .inr ⟨o, q⟩, r⟩
theorem src_sq {B : Addr → Prop} {H : Hp} {a : Addr} {l : List D} {t : Bool} (q : SrcAt G B H t a l) : ∃ xs, SqS t G.K H a xs := by
  obtain ⟨vs, h, _⟩ := q.sq (Same.refl H)
  exact ⟨vs, h⟩
/-- what a plain walk gives -/
theorem seq_R {B : Addr → Prop} {H1 : Hp} {a : Addr} {l : List D} {t : Bool} {R : It → Hp → Prop} (q : SrcAt G B H1 t a l) (k : ∀ J, (∀ B2 H2, SrcAt G B2 H2 t a l → Walks G B2 H2 J l) → R J H1) :
    (∃ a', V.ref a = .ref a' ∧ (∃ xs, SqL G.K H1 a' xs) ∧ R (Itl G.K a') H1) ∨ (∃ a', V.ref a = .ref a' ∧ (∃ xs, SqT G.K H1 a' xs) ∧ R (Itt G.K a') H1) ∨ ∃ z, V.ref a = .str z ∧ R (Its z) H1 := by
  cases t with
  | true => exact .inr (.inl ⟨a, rfl, src_sq q, k _ fun B2 H2 q => walks_tup q⟩)
  | false => exact .inl ⟨a, rfl, src_sq q, k _ fun B2 H2 q => walks_list q⟩
theorem si_seq (c : Cxk G M N sc lvl W X) (ha : SE G T X W x a ta) : SI G T X W tg x (.seq a) (iSeq X.K ta) := by
  have hK : X.K = G.K := c.gx.K
  refine ⟨pi_seq ha.pe, fun B H0 ρ σ H R r p => ?_, fun B H0 ρ σ H R r p => ?_⟩
  · rw [hK]
    refine ha.pk B H0 ρ σ H _ r (PostR.bnd p fun dx vx H1 s1 h1 p1 => ?_)
    obtain ⟨l, e, p2⟩ := PostR.pure (rp := fun H' ds J => Walks G (Blk B ρ σ) H' J ds) (f := Ir.R.ok) (nx_seq dx) (by cases e : seqOf dx <;> rw [e] at p1 <;> exact p1)
    cases dx with
    | tup m =>
      obtain ⟨ad, t, rfl, q⟩ := src_T h1 (l := m) rfl
      cases e
      exact seq_R q fun J hJ => PostR.at_ p2 (hJ _ _ q)
    | lst m =>
      obtain ⟨ad, t, rfl, q⟩ := src_T h1 (l := m) rfl
      cases e
      exact seq_R q fun J hJ => PostR.at_ p2 (hJ _ _ q)
    | str w =>
      cases e
      exact .inr (.inr ⟨w, h1, PostR.at_ p2 walks_str⟩)
    | dct t ks m =>
      obtain ⟨t2, e⟩ := iff_ok (b := decide (t = 2)) e
      cases e
      obtain ⟨ad, rfl, q⟩ := src_X h1 (of_decide_eq_true t2)
      exact seq_R q fun J hJ => PostR.at_ p2 (hJ _ _ q)
    | _ => cases e
  · rw [hK]
    have p : PostR G (fun H' ds J => ∀ Hm, Keep (Blk B ρ σ) H' Hm → Walks G (Blk B ρ σ) Hm J ds) H ((ev T a ρ).bind fun x => seqOf x) R (WE W σ) := p
    refine ha.im B H0 ρ σ H _ r (PostR.bnd p fun dx vx H1 s1 h1 p1 => ?_)
    obtain ⟨l, e, p2⟩ := PostR.pure (rp := fun H' ds J => ∀ Hm, Keep (Blk B ρ σ) H' Hm → Walks G (Blk B ρ σ) Hm J ds) (f := Ir.R.ok) (nx_seq dx) (by cases e : seqOf dx <;> rw [e] at p1 <;> exact p1)
    cases dx with
    | tup m =>
      obtain ⟨ad, t, rfl, q⟩ := src_T (rep_T h1) (l := m) rfl
      cases e
      exact seq_R q fun J hJ => PostR.at_ p2 fun Hm km => hJ _ _ (src_K km h1 rfl q)
    | lst m =>
      obtain ⟨ad, t, rfl, q⟩ := src_T (rep_T h1) (l := m) rfl
      cases e
      exact seq_R q fun J hJ => PostR.at_ p2 fun Hm km => hJ _ _ (src_K km h1 rfl q)
    | str w =>
      cases e
      exact .inr (.inr ⟨w, h1, PostR.at_ p2 fun Hm km => walks_str⟩)
    | dct t ks m =>
      obtain ⟨t2, e⟩ := iff_ok (b := decide (t = 2)) e
      cases e
      obtain ⟨ad, rfl, q⟩ := src_X (rep_T h1) (of_decide_eq_true t2)
      have nb : ¬ Blk B ρ σ ad := by
        obtain ⟨a', vs, e', _, nb, _⟩ := h1
        cases e'
        exact nb
      exact seq_R q fun J hJ => PostR.at_ p2 fun Hm km => hJ _ _ (by
        obtain ⟨vs, q1, q2⟩ := q
        exact ⟨vs, Rd.keep km q1 nb, reps_keep km (fun _ _ _ z => z) q2⟩)
    | _ => cases e
theorem Facts.zipm (c : Cxk G M N sc lvl W X) (F : Facts G M T lvl) {n : Str} (h : n ∈ bltNames) : X.mg n = none := by
  rw [c.gx.mg]
  exact F.blt n h
theorem si_enum (c : Cxk G M N sc lvl W X) (F : Facts G M T lvl) {elts : List Expr} {kk : Nat} {tpos : Pos} (hg : glB sc "enumerate" = true) (ns : noSt x = true) (ha : SE G T X W x a ta) :
    SI G T X W (.Tuple elts kk tpos) (.Call (.Name "enumerate" p0) [x] [] pos) (.enum a) (iEnumS X.K (tCons ta tNil)) := by
  have hK : X.K = G.K := c.gx.K
  refine ⟨pi_enumS (gl_of hg c.sc) (F.zipm c (by decide +kernel)) (pa_cons ha.pe pa_nil (noSt_is ns _ _)) (noSt_is ns _ _), fun B H0 ρ σ H R r p => ?_, fun B H0 ρ σ H R r p => ?_⟩
  · rw [hK]
    refine ha.pk B H0 ρ σ H _ r (PostR.bnd p fun dx vx H1 s1 h1 p1 => ?_)
    obtain ⟨l, e, p2⟩ := PostR.pure (nx_seq2 dx) p1
    obtain ⟨ad, t, rfl, q⟩ := src_T h1 e
    obtain ⟨xs, q'⟩ := src_sq q
    exact ⟨t, ad, xs, rfl, q', PostR.at_ p2 (walks_enum q)⟩
  · rw [hK]
    have p : PostR G (fun H' ds J => ∀ Hm, Keep (Blk B ρ σ) H' Hm → Walks G (Blk B ρ σ) Hm J ds) H ((ev T a ρ).bind fun x => (seqOf2 x).bind fun l => .ok (enumL 0 l)) R (WE W σ) := p
    refine ha.im B H0 ρ σ H _ r (PostR.bnd p fun dx vx H1 s1 h1 p1 => ?_)
    obtain ⟨l, e, p2⟩ := PostR.pure (nx_seq2 dx) p1
    obtain ⟨ad, t, rfl, q⟩ := src_T (rep_T h1) e
    obtain ⟨xs, q'⟩ := src_sq q
    exact ⟨t, ad, xs, rfl, q', PostR.at_ p2 fun Hm km => walks_enum (src_K km h1 e q)⟩
theorem si_zip (c : Cxk G M N sc lvl W X) (F : Facts G M T lvl) {elts : List Expr} {kk : Nat} {tpos : Pos} (hg : glB sc "zip" = true) (ns : noSt x = true) (ns2 : noSt y = true) (ha : SE G T X W x a ta) (hb : SE G T X W y b tb) :
    SI G T X W (.Tuple elts kk tpos) (.Call (.Name "zip" p0) [x, y] [] pos) (.zip a b) (iZipS X.K (tCons ta (tCons tb tNil))) := by
  have hK : X.K = G.K := c.gx.K
  refine ⟨pi_zipS (gl_of hg c.sc) (F.zipm c (by decide +kernel)) (pa_cons ha.pe (pa_cons hb.pe pa_nil (noSt_is ns2 _ _)) (noSt_is ns _ _)) (noSt_is ns _ _) (by rw [backTo_any, noSt_is ns2 []]; rfl), fun B H0 ρ σ H R r p => ?_, fun B H0 ρ σ H R r p => ?_⟩
  · rw [hK]
    refine ha.pk B H0 ρ σ H _ r (PostR.bnd p fun dx vx H1 s1 h1 p1 => hb.pk B H0 ρ σ H1 _ (r.mono s1) (PostR.bnd p1 fun dy vy H2 s2 h2 p2 => ?_))
    obtain ⟨l, e, p2⟩ := PostR.pure (nx_seq2 dx) p2
    obtain ⟨m, e2, p2⟩ := PostR.pure (nx_seq2 dy) p2
    obtain ⟨ad, t, rfl, q⟩ := src_T (repT_keep s2 h1) e
    obtain ⟨ad2, t2, rfl, q2⟩ := src_T h2 e2
    obtain ⟨xs, q'⟩ := src_sq q
    obtain ⟨ys, q2'⟩ := src_sq q2
    exact ⟨t, t2, ad, ad2, xs, ys, rfl, q', q2', PostR.at_ p2 (walks_zip q q2)⟩
  · rw [hK]
    have p : PostR G (fun H' ds J => ∀ Hm, Keep (Blk B ρ σ) H' Hm → Walks G (Blk B ρ σ) Hm J ds) H ((ev T a ρ).bind fun x => (ev T b ρ).bind fun y => (seqOf2 x).bind fun l => (seqOf2 y).bind fun m => .ok (zipL l m)) R (WE W σ) := p
    refine ha.im B H0 ρ σ H _ r (PostR.bnd p fun dx vx H1 s1 h1 p1 => hb.im B H0 ρ σ H1 _ (r.mono s1) (PostR.bnd p1 fun dy vy H2 s2 h2 p2 => ?_))
    obtain ⟨l, e, p2⟩ := PostR.pure (nx_seq2 dx) p2
    obtain ⟨m, e2, p2⟩ := PostR.pure (nx_seq2 dy) p2
    have h1 := rep_same s2 h1
    obtain ⟨ad, t, rfl, q⟩ := src_T (rep_T h1) e
    obtain ⟨ad2, t2, rfl, q2⟩ := src_T (rep_T h2) e2
    obtain ⟨xs, q'⟩ := src_sq q
    obtain ⟨ys, q2'⟩ := src_sq q2
    exact ⟨t, t2, ad, ad2, xs, ys, rfl, q', q2', PostR.at_ p2 fun Hm km => walks_zip (src_K km h1 e q) (src_K km h2 e2 q2)⟩
theorem rev_R {B : Addr → Prop} {H1 : Hp} {a : Addr} {l : List D} {t : Bool} {R : It → Hp → Prop} (q : SrcAt G B H1 t a l) (k : ∀ J, (∀ B2 H2, SrcAt G B2 H2 t a l → Walks G B2 H2 J l.reverse) → R J H1) :
    ∃ (a' : Addr) (xs : List V), V.ref a = .ref a' ∧ ((SqL G.K H1 a' xs ∧ R (Itv G.K a' xs.length) H1) ∨ (SqT G.K H1 a' xs ∧ R (RT.ItvT G.K a' xs.length) H1)) := by
  obtain ⟨xs, q1, q2⟩ := q.sq (Same.refl _)
  refine ⟨a, xs, rfl, ?_⟩
  have hl := reps_len q2
  cases t with
  | true => exact .inr ⟨q1, k _ fun B2 H2 q => walks_revT hl q⟩
  | false => exact .inl ⟨q1, k _ fun B2 H2 q => walks_revL hl q⟩
theorem si_rev (c : Cxk G M N sc lvl W X) (F : Facts G M T lvl) (hg : glB sc "reversed" = true) (ns : noSt x = true) (ha : SE G T X W x a ta) :
    SI G T X W tg (.Call (.Name "reversed" p0) [x] [] pos) (.rev a) (RT.iRevA X.K ta) := by
  have hK : X.K = G.K := c.gx.K
  refine ⟨RT.pi_revA (gl_of hg c.sc) (F.zipm c (by decide +kernel)) ha.pe (noSt_is ns _ _), fun B H0 ρ σ H R r p => ?_, fun B H0 ρ σ H R r p => ?_⟩
  · rw [hK]
    refine ha.pk B H0 ρ σ H _ r (PostR.bnd p fun dx vx H1 s1 h1 p1 => ?_)
    obtain ⟨l, e, p2⟩ := PostR.pure (nx_seq2 dx) p1
    obtain ⟨ad, t, rfl, q⟩ := src_T h1 e
    exact rev_R q fun J hJ => PostR.at_ p2 (hJ _ _ q)
  · rw [hK]
    have p : PostR G (fun H' ds J => ∀ Hm, Keep (Blk B ρ σ) H' Hm → Walks G (Blk B ρ σ) Hm J ds) H ((ev T a ρ).bind fun x => (seqOf2 x).bind fun l => .ok l.reverse) R (WE W σ) := p
    refine ha.im B H0 ρ σ H _ r (PostR.bnd p fun dx vx H1 s1 h1 p1 => ?_)
    obtain ⟨l, e, p2⟩ := PostR.pure (nx_seq2 dx) p1
    obtain ⟨ad, t, rfl, q⟩ := src_T (rep_T h1) e
    exact rev_R q fun J hJ => PostR.at_ p2 fun Hm km => hJ _ _ (src_K km h1 e q)
theorem rng_of {i : Int} (h : rngOk i = true) : -(2 ^ 62) ≤ i ∧ i < 2 ^ 62 := of_decide_eq_true h
theorem si_rng1 (c : Cxk G M N sc lvl W X) (F : Facts G M T lvl) (hg : glB sc "range" = true) (ns : noSt x = true) (ha : SE G T X W x a ta) :
    SI G T X W tg (.Call (.Name "range" p0) [x] [] pos) (.rng1 a) (iRng1 (tCons ta tNil)) := by
  refine ⟨pi_range1 (gl_of hg c.sc) (F.zipm c (by decide +kernel)) (pa_cons ha.pe pa_nil (noSt_is ns _ _)) (noSt_is ns _ _), fun B H0 ρ σ H R r p => ?_, fun B H0 ρ σ H R r p => ?_⟩
  · refine ha.pk B H0 ρ σ H _ r (PostR.bnd p fun dx vx H1 s1 h1 p1 => ?_)
    cases dx with
    | int n =>
      obtain ⟨ok, p2⟩ := PostR.iff p1
      obtain ⟨c1, c2⟩ := rng_of ok
      obtain rfl : vx = .int n := h1
      exact ⟨n, rfl, c1, c2, PostR.at_ p2 walks_rng⟩
    | _ => exact p1.elim
  · have p : PostR G (fun H' ds J => ∀ Hm, Keep (Blk B ρ σ) H' Hm → Walks G (Blk B ρ σ) Hm J ds) H (evIP T (.rng1 a) ρ) R (WE W σ) := p
    refine ha.pk B H0 ρ σ H _ r (PostR.bnd p fun dx vx H1 s1 h1 p1 => ?_)
    cases dx with
    | int n =>
      obtain ⟨ok, p2⟩ := PostR.iff p1
      obtain ⟨c1, c2⟩ := rng_of ok
      obtain rfl : vx = .int n := h1
      exact ⟨n, rfl, c1, c2, PostR.at_ p2 fun Hm km => walks_rng⟩
    | _ => exact p1.elim
theorem si_rng2 (c : Cxk G M N sc lvl W X) (F : Facts G M T lvl) (hg : glB sc "range" = true) (ns : noSt x = true) (ns2 : noSt y = true) (ha : SE G T X W x a ta) (hb : SE G T X W y b tb) :
    SI G T X W tg (.Call (.Name "range" p0) [x, y] [] pos) (.rng2 a b) (iRng2 (tCons ta (tCons tb tNil))) := by
  refine ⟨pi_range2 (gl_of hg c.sc) (F.zipm c (by decide +kernel)) (pa_cons ha.pe (pa_cons hb.pe pa_nil (noSt_is ns2 _ _)) (noSt_is ns _ _)) (by rw [noSt_is ns, noSt_is ns2]; rfl) (noSt_is ns2 _ _), fun B H0 ρ σ H R r p => ?_, fun B H0 ρ σ H R r p => ?_⟩
  · refine ha.pk B H0 ρ σ H _ r (PostR.bnd p fun dx vx H1 s1 h1 p1 => hb.pk B H0 ρ σ H1 _ (r.mono s1) (PostR.bnd p1 fun dy vy H2 s2 h2 p2 => ?_))
    cases dx with
    | int n =>
      cases dy with
      | int m =>
        obtain ⟨ok, p2⟩ := PostR.iff p2
        rw [Bool.and_eq_true] at ok
        obtain ⟨c1, c2⟩ := rng_of ok.1
        obtain ⟨c3, c4⟩ := rng_of ok.2
        obtain rfl : vx = .int n := h1
        obtain rfl : vy = .int m := h2
        exact ⟨n, m, rfl, ⟨c1, c2, c3, c4⟩, PostR.at_ p2 walks_rng⟩
      | _ => exact p2.elim
    | _ => exact p2.elim
  · have p : PostR G (fun H' ds J => ∀ Hm, Keep (Blk B ρ σ) H' Hm → Walks G (Blk B ρ σ) Hm J ds) H (evIP T (.rng2 a b) ρ) R (WE W σ) := p
    refine ha.pk B H0 ρ σ H _ r (PostR.bnd p fun dx vx H1 s1 h1 p1 => hb.pk B H0 ρ σ H1 _ (r.mono s1) (PostR.bnd p1 fun dy vy H2 s2 h2 p2 => ?_))
    cases dx with
    | int n =>
      cases dy with
      | int m =>
        obtain ⟨ok, p2⟩ := PostR.iff p2
        rw [Bool.and_eq_true] at ok
        obtain ⟨c1, c2⟩ := rng_of ok.1
        obtain ⟨c3, c4⟩ := rng_of ok.2
        obtain rfl : vx = .int n := h1
        obtain rfl : vy = .int m := h2
        exact ⟨n, m, rfl, ⟨c1, c2, c3, c4⟩, PostR.at_ p2 fun Hm km => walks_rng⟩
      | _ => exact p2.elim
    | _ => exact p2.elim
end
end Ir

/-! Ir8: targets, comprehensions. -/
namespace Ir
open PySem L2 PyProof.Rows
section
variable {G : Gx} {M : Nms} {T : Tbl} {N : List Str} {sc : Scope} {lvl : Nat} {W : WX} {X : Cx}
theorem pe_weak {e : Expr} {te te' : TE} (h : PE X e te) (k : ∀ σ H Q, te' σ H Q → te σ H Q) : PE X e te' := ⟨fun pins s σ H Q I q => h.run pins s σ H Q I (k σ H Q q)⟩
theorem pt_weak {e : Expr} {te te' : TT} (h : PT X e te) (k : ∀ σ H Q, te' σ H Q → te σ H Q) : PT X e te' := ⟨fun pins s σ H Q I q => h.run pins s σ H Q I (k σ H Q q)⟩
/-! ### targets -/
/-- what is wanted behind a target's being given d -/
def TgQ (G : Gx) (B : Addr → Prop) (H0 : Hp) (ρ : Sl) (σ : L2.St) (H : Hp) (l : List Nat) (r : R Sl) (Q : L2.St → Hp → Prop) : Prop := ∃ ρ', r = .ok ρ' ∧ ∀ σ', RelS G B H0 ρ' σ' H → (∀ vs, (∀ i ∈ l, i ∈ vs) → wipe σ' vs = wipe σ vs) →
  (∀ a, Blk B ρ' σ' a → Blk B ρ σ a) → (∀ i, i ∉ l → ρ'[i]? = ρ[i]? ∧ σ'[i]? = σ[i]?) → Q σ' H
def gSem (G : Gx) (t : Tg) : TG := fun v σ H Q => ∃ B H0 ρ d, RelS G B H0 ρ σ H ∧ rep G (Blk B ρ σ) H d v ∧ TgQ G B H0 ρ σ H t.slots (asgTg t d ρ) Q
def gsSem (G : Gx) (t : Tgs) : TGs := fun vs σ H Q => ∃ B H0 ρ ds, RelS G B H0 ρ σ H ∧ reps G (Blk B ρ σ) H ds vs ∧ TgQ G B H0 ρ σ H t.slots (asgTgs t ds ρ) Q
theorem pg_weak {e : Expr} {te te' : TG} (h : PG X e te) (k : ∀ v σ H Q, te' v σ H Q → te v σ H Q) : PG X e te' := ⟨fun pins s σ H v u Q I r q => h.run pins s σ H v u Q I r (k v σ H Q q)⟩
theorem pg_or {e : Expr} {t1 t2 : TG} (h1 : PG X e t1) (h2 : PG X e t2) : PG X e (fun v σ H Q => t1 v σ H Q ∨ t2 v σ H Q) := ⟨fun pins s σ H v u Q I r q => q.elim (h1.run pins s σ H v u Q I r) (h2.run pins s σ H v u Q I r)⟩
theorem pgs_weak {e : List Expr} {te te' : TGs} (h : PGs X e te) (k : ∀ v σ H Q, te' v σ H Q → te v σ H Q) : PGs X e te' := ⟨fun pins s σ H v u Q I r q => h.run pins s σ H v u Q I r (k v σ H Q q)⟩
theorem wipe_set {σ : L2.St} {i : Nat} {v : Option V} : ∀ {vs : List Nat}, i ∈ vs → wipe (σ.set i v) vs = wipe σ vs
  | [], h => by cases h
  | w :: vs, h => by
    show (wipe (σ.set i v) vs).set w none = (wipe σ vs).set w none
    by_cases hv : i ∈ vs
    · rw [wipe_set hv]
    · have e : i = w := by
        rcases List.mem_cons.mp h with h | h
        · exact h
        · exact (hv h).elim
      subst e
      have q : ∀ vs : List Nat, i ∉ vs → wipe (σ.set i v) vs = (wipe σ vs).set i v := fun vs => by
        induction vs with
        | nil => intro _; rfl
        | cons u vs ih =>
          intro hn
          have n1 : i ≠ u := fun e => hn (by rw [e]; exact List.mem_cons_self)
          show (wipe (σ.set i v) vs).set u none = ((wipe σ vs).set u none).set i v
          rw [ih fun z => hn (List.mem_cons_of_mem _ z), List.set_comm _ _ n1]
      rw [q vs hv, List.set_set]
theorem locB_of {x : Str} {s : Scope} (h : locB s x = true) : s.names.lookup x = some .local ∨ s.names.lookup x = some .cell := by
  unfold locB at h
  split at h
  · exact .inl (by assumption)
  · exact .inr (by assumption)
  · cases h
theorem starOf {es : List Expr} : ∀ {l : Tgs} {s : Scope}, isTgs N s l es = true → ∀ env, (assignEach es env).findIdx? (·.1) = none ∧ (assignEach es env).map (·.2) = es.map (fun e => assign e env) ∧ (assignEach es env).length = es.length := by
  induction es with
  | nil =>
    intro l s h env
    exact ⟨rfl, rfl, rfl⟩
  | cons e es ih =>
    intro l s h env
    cases l with
    | nil => cases h
    | cons t l =>
      have h : (isTg N s t e && noSt e && isTgs N s l es) = true := h
      rw [Bool.and_eq_true, Bool.and_eq_true] at h
      obtain ⟨i1, i2, i3⟩ := ih h.2 env
      have q : assignEach (e :: es) env = (false, assign e env) :: assignEach es env := by
        have h2 := h.1.2
        cases e <;> first | rfl | cases h2
      rw [q]
      refine ⟨?_, by rw [List.map_cons, i2]; rfl, by rw [List.length_cons, i3]; rfl⟩
      rw [List.findIdx?_cons]
      simp [i1]
mutual
theorem sound_tg (c : Cxk G M N sc lvl W X) (hcm : M.calm = true) {s' : Scope} (hf : ∀ x, locB s' x = true → X.fn x = true ∨ X.env.scope.names.lookup x = some .local) : ∀ (t : Tg) {e : Expr}, isTg N sc t e = true → isTg N s' t e = true → PG X e (gSem G t)
  | .nm i, e, h, h' => by
    cases e with
    | Name x pos =>
      have h : (decide (N[i]? = some x) && locB sc x) = true := h
      have h' : (decide (N[i]? = some x) && locB s' x) = true := h'
      rw [Bool.and_eq_true] at h h'
      have h1 := of_decide_eq_true h.1
      have hl : Loc X.env.scope x := by
        rw [c.sc]
        exact locB_of h.2
      refine pg_weak (pg_name (i := i) (by rw [c.hN]; exact c.nd) (by rw [c.hN]; exact h1) hl (hf x h'.2)) fun v σ H Q q => ?_
      obtain ⟨B, H0, ρ, d, r, hd, ρ', e1, k⟩ := q
      obtain ⟨c1, e1⟩ := iff_ok (b := decide (i < ρ.length)) e1
      have c1 := of_decide_eq_true c1
      cases e1
      have hs : i < σ.length := by rw [← r.len]; exact c1
      refine k _ (r.putI c1 hd) (fun vs hv => wipe_set (hv i (by simp [Tg.slots]))) (fun a z => ?_) fun j hj => ?_
      · rcases z with z | ⟨j, x, e, e1, w, e2⟩
        · exact .inl z
        · rcases set_get e1 with ⟨_, q⟩ | ⟨ne, q⟩
          · exact (no_im q w).elim
          · rw [List.getElem?_set_ne ne] at e2
            exact .inr ⟨j, x, e, q, w, e2⟩
      · have ne : i ≠ j := fun e => hj (by simp [Tg.slots, e])
        exact ⟨by unfold putI; rw [List.getElem?_set_ne ne], by rw [List.getElem?_set_ne ne]⟩
    | _ => cases h
  | .tup l, e, h, h' => by
    cases e with
    | Tuple es k pos =>
      have h : isTgs N sc l es = true := h
      have h' : isTgs N s' l es = true := h'
      obtain ⟨q1, q2, q3⟩ := starOf h X.env
      refine pg_weak (pg_or (pg_tup (c.calm hcm) (sound_tgs c hcm hf l h h') q3 q1) (pg_lst (c.calm hcm) (sound_tgs c hcm hf l h h') q3 q1)) fun v σ H Q q => ?_
      obtain ⟨B, H0, ρ, d, r, hd, ρ', e1, k⟩ := q
      have ln : ∀ (l : Tgs) (es : List Expr) (ds : List D) (ρ ρ' : Sl), isTgs N sc l es = true → asgTgs l ds ρ = .ok ρ' → ds.length = es.length := fun l => by
          intro es
          induction es generalizing l with
          | nil =>
            intro ds ρ ρ' h e
            cases l with
            | nil =>
              cases ds with
              | nil => rfl
              | cons d ds => cases e
            | cons t l => cases h
          | cons e es ih =>
            intro ds ρ ρ' h e
            cases l with
            | nil => cases h
            | cons t l =>
              have h : (isTg N sc t _ && noSt _ && isTgs N sc l es) = true := h
              rw [Bool.and_eq_true] at h
              cases ds with
              | nil => cases e
              | cons d ds =>
                obtain ⟨ρ1, _, e2⟩ := bind_ok_inv (show ((asgTg t d ρ).bind fun ρ' => asgTgs l ds ρ') = .ok ρ' from e)
                rw [List.length_cons, List.length_cons, ih l ds ρ1 ρ' h.2 e2]
      cases d with
      | tup ds =>
        obtain ⟨a, vs, rfl, t, rs⟩ := hd
        have e1 : asgTgs l ds ρ = .ok ρ' := e1
        exact .inl ⟨a, vs, rfl, sq_of c.gx t, (reps_len rs).trans (ln l es ds ρ ρ' h e1), B, H0, ρ, ds, r, rs, ρ', e1, k⟩
      | lst ds =>
        obtain ⟨a, vs, rfl, t, nb, rs⟩ := hd
        have e1 : asgTgs l ds ρ = .ok ρ' := e1
        exact .inr ⟨a, vs, rfl, .inl t, (reps_len rs).trans (ln l es ds ρ ρ' h e1), B, H0, ρ, ds, r, rs, ρ', e1, k⟩
      | _ => cases e1
    | _ => cases h
theorem sound_tgs (c : Cxk G M N sc lvl W X) (hcm : M.calm = true) {s' : Scope} (hf : ∀ x, locB s' x = true → X.fn x = true ∨ X.env.scope.names.lookup x = some .local) : ∀ (l : Tgs) {es : List Expr}, isTgs N sc l es = true → isTgs N s' l es = true → PGs X es (gsSem G l)
  | .nil, es, h, h' => by
    cases es with
    | nil =>
      refine pgs_weak pgs_nil fun vs σ H Q q => ?_
      obtain ⟨B, H0, ρ, ds, r, hd, ρ', e1, k⟩ := q
      cases ds with
      | nil =>
        cases e1
        exact ⟨hd, k σ r (fun _ _ => rfl) (fun _ z => z) fun _ _ => ⟨rfl, rfl⟩⟩
      | cons d ds => cases e1
    | cons e es => cases h
  | .cons t l, es, h, h' => by
    cases es with
    | nil => cases h
    | cons e es =>
      have st := h
      have h : (isTg N sc t e && noSt e && isTgs N sc l es) = true := h
      have h' : (isTg N s' t e && noSt e && isTgs N s' l es) = true := h'
      rw [Bool.and_eq_true, Bool.and_eq_true] at h h'
      have q : assignEach (e :: es) X.env = (false, assign e X.env) :: assignEach es X.env := by
        have h2 := h.1.2
        cases e <;> first | rfl | cases h2
      refine pgs_weak (pgs_cons (sound_tg c hcm hf t h.1.1 h'.1.1) (sound_tgs c hcm hf l h.2 h'.2) (by rw [q]; rfl)) fun vs σ H Q q => ?_
      obtain ⟨B, H0, ρ, ds, r, hd, ρ', e1, k⟩ := q
      cases ds with
      | nil => cases e1
      | cons d ds =>
        obtain ⟨v, w, rfl, h1, h2⟩ := hd
        obtain ⟨ρ1, e2, e3⟩ := bind_ok_inv (show ((asgTg t d ρ).bind fun ρ' => asgTgs l ds ρ') = .ok ρ' from e1)
        refine ⟨v, w, rfl, B, H0, ρ, d, r, h1, ρ1, e2, fun σ1 r1 w1 b1 o1 => ⟨B, H0, ρ1, ds, r1, reps_anti b1 h2, ρ', e3, fun σ2 r2 w2 b2 o2 => k σ2 r2 (fun vs hv => ?_) (fun a z => b1 a (b2 a z)) fun i hi => ?_⟩⟩
        · rw [w2 vs fun i hi => hv i (by simp [Tgs.slots, hi]), w1 vs fun i hi => hv i (by simp [Tgs.slots, hi])]
        · have n1 : i ∉ t.slots := fun z => hi (by simp [Tgs.slots, z])
          have n2 : i ∉ l.slots := fun z => hi (by simp [Tgs.slots, z])
          exact ⟨(o2 i n2).1.trans (o1 i n1).1, (o2 i n2).2.trans (o1 i n1).2⟩
end
end
end Ir

/-! Ir9: comprehensions. -/
namespace Ir
open PySem L2 PyProof.Rows
section
variable {G : Gx} {B : Addr → Prop} {H0 H1 H' H : Hp} {ρ : Sl} {σ : L2.St} {D0 : Addr}
/-- a slot forgotten -/
theorem RelS.del (r : RelS G B H0 ρ σ H) (i : Nat) : RelS G B H0 (ρ.set i none) (σ.set i none) H := by
  have hb : ∀ a, Blk B (ρ.set i none) (σ.set i none) a → Blk B ρ σ a := fun a z => by
    rcases z with z | ⟨j, x, e, e1, w, e2⟩
    · exact .inl z
    · rcases set_get e1 with ⟨_, q⟩ | ⟨ne, q⟩
      · cases q
      · rw [List.getElem?_set_ne ne] at e2
        exact .inr ⟨j, x, e, q, w, e2⟩
  refine ⟨by rw [List.length_set, List.length_set, r.len], r.same, r.tab, r.dom, fun j e h1 => ?_, fun j x e h1 w => ?_, fun j k x y e e' a h1 w h2 w' h3 h4 => ?_⟩
  · rcases set_get h1 with ⟨_, q⟩ | ⟨ne, q⟩
    · cases q
    · obtain ⟨u, e1, q1⟩ := r.im j e q
      exact ⟨u, by rw [List.getElem?_set_ne ne]; exact e1, rep_anti hb q1⟩
  · rcases set_get h1 with ⟨_, q⟩ | ⟨ne, q⟩
    · cases q
    · obtain ⟨a, t, e1, n, q1⟩ := r.own j x e q w
      exact ⟨a, t, by rw [List.getElem?_set_ne ne]; exact e1, n, q1.keep rfl (fun _ _ h _ _ => h) fun a _ _ => hb a⟩
  · rcases set_get h1 with ⟨_, q⟩ | ⟨ne, q⟩
    · cases q
    · rcases set_get h2 with ⟨_, q'⟩ | ⟨ne', q'⟩
      · cases q'
      · rw [List.getElem?_set_ne ne] at h3
        rw [List.getElem?_set_ne ne'] at h4
        exact r.inj j k x y e e' a q w q' w' h3 h4
theorem RelS.wiped (r : RelS G B H0 ρ σ H) : ∀ vs : List Nat, RelS G B H0 (wipeS ρ vs) (wipe σ vs) H
  | [] => r
  | v :: vs => (r.wiped vs).del v
/-- one more blocked, a new one -/
theorem RelS.addB (r : RelS G B H0 ρ σ H1) (s : Same G H1 H') (n : H1 D0 = none) (m : MutL (H' D0)) : RelS G (fun a => a = D0 ∨ B a) H0 ρ σ H' := by
  have hb : ∀ a o, H1 a = some o → Blk (fun a => a = D0 ∨ B a) ρ σ a → Blk B ρ σ a := fun a o e z => by
    rcases z with (z | z) | z
    · rw [z, n] at e
      cases e
    · exact .inl z
    · exact .inr z
  refine ⟨r.len, r.same.trans s, r.tab.same s, fun a z => ?_, fun j e h1 => ?_, fun j x e h1 w => ?_, r.inj⟩
  · rcases z with rfl | z
    · exact m
    · exact Dom.same r.dom s a z
  · obtain ⟨u, e1, q1⟩ := r.im j e h1
    exact ⟨u, e1, rep_keep (Keep.of s) hb q1⟩
  · obtain ⟨a, t, e1, ⟨n0, nb⟩, q1⟩ := r.own j x e h1 w
    obtain ⟨o, eo⟩ := q1.there
    refine ⟨a, t, e1, ⟨n0, fun z => ?_⟩, q1.keep (q1.at_same s) (Keep.of s) hb⟩
    rcases z with rfl | z
    · rw [n] at eo
      cases eo
    · exact nb z
/-! ### what is made, item by item -/
theorem nox_ok {α : Type} {r : R α} {a : α} (h : r.nox = .ok a) : r = .ok a := by
  cases r with
  | stuck => cases h
  | exc c fs => cases h
  | ok b => exact h
theorem nx_compL {α : Type} {f : α → R (List D)} : ∀ l : List α, Nx (compL f l)
  | [] => nx_ok
  | a :: l => by
    show Nx ((f a).nox.bind fun x => (compL f l).bind fun r => .ok (x ++ r))
    refine nx_bind ?_ fun x => nx_bind (nx_compL l) fun _ => nx_ok
    cases f a with
    | stuck => exact nx_stuck
    | exc c fs => exact nx_stuck
    | ok b => exact nx_ok
theorem compL_at {α : Type} {f : α → R (List D)} : ∀ {l : List α} {xs : List D} {i : Nat} {d : α}, compL f l = .ok xs → l[i]? = some d → ∃ ys, f d = .ok ys
  | [], _, _, _, _, h => by simp at h
  | a :: l, xs, i, d, e, h => by
    have e : ((f a).nox.bind fun x => (compL f l).bind fun r => .ok (x ++ r)) = .ok xs := e
    obtain ⟨x, e1, e⟩ := bind_ok_inv e
    obtain ⟨r, e2, e⟩ := bind_ok_inv e
    cases i with
    | zero =>
      simp at h
      subst h
      exact ⟨x, nox_ok e1⟩
    | succ i => exact compL_at e2 (by simpa using h)
theorem compL_snoc {α : Type} {f : α → R (List D)} {d : α} {ys : List D} (hd : f d = .ok ys) : ∀ {l : List α} {xs : List D}, compL f l = .ok xs → compL f (l ++ [d]) = .ok (xs ++ ys)
  | [], xs, e => by
    have e : R.ok [] = R.ok xs := e
    cases e
    show ((f d).nox.bind fun x => (compL f []).bind fun r => .ok (x ++ r)) = _
    rw [hd]
    show R.ok (ys ++ []) = R.ok ([] ++ ys)
    rw [List.append_nil, List.nil_append]
  | a :: l, xs, e => by
    have e : ((f a).nox.bind fun x => (compL f l).bind fun r => .ok (x ++ r)) = .ok xs := e
    obtain ⟨x, e1, e⟩ := bind_ok_inv e
    obtain ⟨r, e2, e⟩ := bind_ok_inv e
    cases e
    show ((f a).nox.bind fun x => (compL f (l ++ [d])).bind fun r => .ok (x ++ r)) = _
    rw [e1, compL_snoc hd e2]
    show R.ok (x ++ (r ++ ys)) = R.ok (x ++ r ++ ys)
    rw [List.append_assoc]
theorem compL_len {α : Type} {f : α → R (List D)} (hf : ∀ d ys, f d = .ok ys → ys.length ≤ 1) : ∀ {l : List α} {xs : List D}, compL f l = .ok xs → xs.length ≤ l.length
  | [], xs, e => by
    have e : R.ok [] = R.ok xs := e
    cases e
    exact Nat.le_refl _
  | a :: l, xs, e => by
    have e : ((f a).nox.bind fun x => (compL f l).bind fun r => .ok (x ++ r)) = .ok xs := e
    obtain ⟨x, e1, e⟩ := bind_ok_inv e
    obtain ⟨r, e2, e⟩ := bind_ok_inv e
    cases e
    have h1 := hf a x (nox_ok e1)
    have h2 := compL_len hf e2
    rw [List.length_append, List.length_cons]
    omega
theorem noOwn_at : ∀ {l : List Nat} {i : Nat} {s : SV} {d : D}, noOwn ρ l = true → i ∈ l → s.wr = some d → ρ[i]? ≠ some (some s)
  | [], _, _, _, _, h, _ => by cases h
  | j :: l, i, s, d, e, h, w => by
    have e : ((match ρ[j]? with
      | some (some (.own _)) => false
      | some (some (.io _ _)) => false
      | _ => true) && noOwn ρ l) = true := e
    rw [Bool.and_eq_true] at e
    rcases List.mem_cons.mp h with rfl | h
    · intro z
      rw [z] at e
      cases s with
      | im d => cases w
      | own d => exact absurd e.1 (by simp)
      | io a d => exact absurd e.1 (by simp)
    · exact noOwn_at e.2 h w
/-- the new list goes on being made -/
theorem Same.newW {D : Addr} {o : HO} (s : Same G H1 H) (n : H1 D = none) (m : MutL (H D)) : Same G H1 (upd H D o) := by
  refine ⟨fun a u e nt => ?_, fun a ps e => ?_, fun P q t => tab_keep (fun b u e nm => ?_) (s.tab P q t)⟩
  · rw [upd_ne (ne_of_none e n)]
    exact s.ext a u e nt
  · rw [upd_ne (ne_of_none e n)]
    exact s.tbl a ps e
  · rw [upd_ne fun z => nm (by rw [← e, z]; exact m)]
    exact e
theorem wipeS_len : ∀ vs : List Nat, (wipeS ρ vs).length = ρ.length
  | [] => rfl
  | v :: vs => by
    show ((wipeS ρ vs).set v none).length = _
    rw [List.length_set, wipeS_len vs]
theorem wipeS_get : ∀ {vs : List Nat} {i : Nat}, i ∉ vs → (wipeS ρ vs)[i]? = ρ[i]?
  | [], _, _ => rfl
  | v :: vs, i, h => by
    show ((wipeS ρ vs).set v none)[i]? = _
    rw [List.getElem?_set_ne fun e => h (by rw [e]; exact List.mem_cons_self)]
    exact wipeS_get fun z => h (List.mem_cons_of_mem _ z)
theorem wipe_get : ∀ {vs : List Nat} {i : Nat}, i ∉ vs → (wipe σ vs)[i]? = σ[i]?
  | [], _, _ => rfl
  | v :: vs, i, h => by
    show ((wipe σ vs).set v none)[i]? = _
    rw [List.getElem?_set_ne fun e => h (by rw [e]; exact List.mem_cons_self)]
    exact wipe_get fun z => h (List.mem_cons_of_mem _ z)
theorem take_succ' {α : Type} {l : List α} {i : Nat} {d : α} (h : l[i]? = some d) : l.take (i + 1) = l.take i ++ [d] := by
  rw [List.take_succ, h]
  rfl
/-- the block's turns; stp: what a turn does behind the target -/
theorem lc_walk {J : It} {ds xs : List D} {tg : Tg} {body : Sl → R (List D)} {tt : TT} {te : TE} {Q : VK} {E : XK} (r : RelS G B H0 ρ σ H1) (wk : Walks G (Blk B ρ σ) H1 J ds) (no : noOwn ρ tg.slots = true) (hl : ds.length ≤ LIM)
    (hc : compL (fun d => (asgTg tg d (wipeS ρ tg.slots)).bind body) ds = .ok xs) (h1 : ∀ ρ' ys, body ρ' = .ok ys → ys.length ≤ 1)
    (stp : ∀ B' ρ' σ2 H2 ys (K : Option V → Hp → Prop), RelS G B' H0 ρ' σ2 H2 → body ρ' = .ok ys → (∀ o H4, Same G H2 H4 → reps G (Blk B' ρ' σ2) H4 ys o.toList → K o H4) → tt σ2 H2 fun b H3 => if b = true then te σ2 H3 fun y H4 => K (some y) H4 else K none H3)
    (q : ∀ p H', H1 p = none → Same G H1 H' → ownR G (fun a => a = p ∨ Blk B ρ σ a) H' p (.lst xs) → Q (.ref p) H') :
    ∀ D, H1 D = none → ∃ W : Nat → Nat → Hp → Prop, (∃ m, W 0 m (upd H1 D (.lst []))) ∧ ∀ i m H, W i m H →
      (J.stop i H ∧ Q (.ref D) H) ∨ (J.go i H ∧ ∃ Nx : Hp → Prop, (∀ H', Nx H' → ∃ m', m' < m ∧ W (i + 1) m' H') ∧ ∀ x H', J.yld i H x H' → gSem G tg x (wipe σ tg.slots) H' fun σ2 H2 => wipe σ2 tg.slots = wipe σ tg.slots ∧ tt σ2 H2 fun b H3 =>
        if b = true then te σ2 H3 fun y H4 => ∃ acc, H4 D = some (.lst acc) ∧ acc.length < sizeLine ∧ Nx (upd H4 D (.lst (acc ++ [y]))) else Nx H3) := by
  intro D nD
  refine ⟨fun i m H => m = ds.length - i ∧ i ≤ ds.length ∧ Same G H1 H ∧ ∃ done vs, compL (fun d => (asgTg tg d (wipeS ρ tg.slots)).bind body) (ds.take i) = .ok done ∧ H D = some (.lst vs) ∧ reps G (fun a => a = D ∨ Blk B ρ σ a) H done vs,
    ⟨_, rfl, Nat.zero_le _, Same.upd_new nD, [], [], rfl, upd_same, rfl⟩, ?_⟩
  rintro i m H ⟨rfl, hi, s1, done, vs, hd, hD, hr⟩
  have dm : Dom (fun a => a = D ∨ Blk B ρ σ a) H := fun a z => by
    rcases z with rfl | z
    · rw [hD]
      trivial
    · exact Dom.same r.bdom s1 a z
  obtain ⟨w1, w2⟩ := wk _ H s1 dm fun a o e z => by
    rcases z with rfl | z
    · rw [nD] at e
      cases e
    · exact z
  by_cases hlt : i < ds.length
  · obtain ⟨go, yl⟩ := w1 i hlt
    obtain ⟨d, hdi⟩ : ∃ d, ds[i]? = some d := ⟨_, List.getElem?_eq_getElem hlt⟩
    obtain ⟨ys, hys⟩ := compL_at hc hdi
    have hsn := compL_snoc (f := fun d => (asgTg tg d (wipeS ρ tg.slots)).bind body) (d := d) hys hd
    rw [← take_succ' hdi] at hsn
    have hz : vs.length < sizeLine := by
      have z1 := compL_len (fun d ys (h : ((asgTg tg d (wipeS ρ tg.slots)).bind body) = .ok ys) => by
        obtain ⟨ρ', _, e⟩ := bind_ok_inv h
        exact h1 ρ' ys e) hd
      rw [List.length_take] at z1
      rw [reps_len hr, ← lim_eq]
      omega
    refine .inr ⟨go, fun H' => Same G H1 H' ∧ ∃ vs', H' D = some (.lst vs') ∧ reps G (fun a => a = D ∨ Blk B ρ σ a) H' (done ++ ys) vs', fun H' nx => ⟨ds.length - (i + 1), by omega, rfl, hlt, nx.1, _, nx.2.choose, hsn, nx.2.choose_spec⟩, fun x H' y => ?_⟩
    obtain ⟨s2, d', e', hx⟩ := yl x H' y
    rw [hdi] at e'
    cases e'
    have hD' := s2.lst hD
    have rB : RelS G (fun a => a = D ∨ B a) H0 ρ σ H' := r.addB (s1.trans s2) nD (by rw [hD']; trivial)
    have rw' := rB.wiped tg.slots
    have bq : ∀ a, Blk (fun a => a = D ∨ B a) (wipeS ρ tg.slots) (wipe σ tg.slots) a ↔ (a = D ∨ Blk B ρ σ a) := fun a => by
      constructor
      · rintro ((z | z) | ⟨j, x, e, e1, w, e2⟩)
        · exact .inl z
        · exact .inr (.inl z)
        · by_cases hj : j ∈ tg.slots
          · have z : ∀ vs : List Nat, j ∈ vs → (wipeS ρ vs)[j]? ≠ some (some x) := fun vs => by
              induction vs with
              | nil => intro h; cases h
              | cons v vs ih =>
                intro h z
                have z : ((wipeS ρ vs).set v none)[j]? = some (some x) := z
                rcases set_get z with ⟨_, q⟩ | ⟨ne, q⟩
                · cases q
                · rcases List.mem_cons.mp h with h | h
                  · exact ne h.symm
                  · exact ih h q
            exact (z _ hj e1).elim
          · rw [wipeS_get hj] at e1
            rw [wipe_get hj] at e2
            exact .inr (.inr ⟨j, x, e, e1, w, e2⟩)
      · rintro (z | z | ⟨j, x, e, e1, w, e2⟩)
        · exact .inl (.inl z)
        · exact .inl (.inr z)
        · have hj : j ∉ tg.slots := fun z => noOwn_at no z w e1
          exact .inr ⟨j, x, e, by rw [wipeS_get hj]; exact e1, w, by rw [wipe_get hj]; exact e2⟩
    obtain ⟨ρ', ea, eb⟩ := bind_ok_inv hys
    refine ⟨_, H0, _, d, rw', rep_anti (fun a z => (bq a).mp z) hx, ρ', ea, fun σ2 r2 wq b1 b2 => ⟨(wq tg.slots fun _ h => h).trans ?_, ?_⟩⟩
    · have z : ∀ vs : List Nat, wipe (wipe σ vs) vs = wipe σ vs := fun vs => by
        have z2 : ∀ (us ws : List Nat), (∀ i, i ∈ us → i ∈ ws) → wipe (wipe σ us) ws = wipe σ ws := fun us => by
          induction us with
          | nil => intro ws _; rfl
          | cons u us ih =>
            intro ws h
            show wipe ((wipe σ us).set u none) ws = _
            rw [wipe_set (h u List.mem_cons_self)]
            exact ih ws fun i hi => h i (List.mem_cons_of_mem _ hi)
        exact z2 vs vs fun _ h => h
      exact z _
    · have bq2 : ∀ a, (a = D ∨ Blk B ρ σ a) → Blk (fun a => a = D ∨ B a) ρ' σ2 a := fun a z => by
        rcases (bq a).mpr z with z | ⟨j, x, e, e1, w, e2⟩
        · exact .inl z
        · have hj : j ∉ tg.slots := fun z => by
            have z' : ∀ vs : List Nat, j ∈ vs → (wipeS ρ vs)[j]? ≠ some (some x) := fun vs => by
              induction vs with
              | nil => intro h; cases h
              | cons v vs ih =>
                intro h z
                have z : ((wipeS ρ vs).set v none)[j]? = some (some x) := z
                rcases set_get z with ⟨_, q⟩ | ⟨ne, q⟩
                · cases q
                · rcases List.mem_cons.mp h with h | h
                  · exact ne h.symm
                  · exact ih h q
            exact z' _ z e1
          obtain ⟨q1, q2⟩ := b2 j hj
          exact .inr ⟨j, x, e, by rw [q1]; exact e1, w, by rw [q2]; exact e2⟩
      refine stp _ ρ' σ2 H' ys (fun o H4 => match o with
        | some y => ∃ acc, H4 D = some (.lst acc) ∧ acc.length < sizeLine ∧ (Same G H1 (upd H4 D (.lst (acc ++ [y]))) ∧ ∃ vs', (upd H4 D (.lst (acc ++ [y]))) D = some (.lst vs') ∧ reps G (fun a => a = D ∨ Blk B ρ σ a) (upd H4 D (.lst (acc ++ [y]))) (done ++ ys) vs')
        | none => Same G H1 H4 ∧ ∃ vs', H4 D = some (.lst vs') ∧ reps G (fun a => a = D ∨ Blk B ρ σ a) H4 (done ++ ys) vs') r2 eb fun o H4 s4 hy => ?_
      have hD4 := s4.lst hD'
      have r4 := reps_same (s2.trans s4) hr
      have hy' : reps G (fun a => a = D ∨ Blk B ρ σ a) H4 ys o.toList := reps_anti bq2 hy
      cases o with
      | none => exact ⟨(s1.trans s2).trans s4, vs, hD4, by
          have z := reps_app r4 hy'
          rw [show (none : Option V).toList = [] from rfl, List.append_nil] at z
          exact z⟩
      | some y =>
        have kp : Keep (fun a => a = D ∨ Blk B ρ σ a) H4 (upd H4 D (.lst (vs ++ [y]))) := fun a o e nb _ => by
          rw [upd_ne fun z => nb (.inl z)]
          exact e
        exact ⟨vs, hD4, hz, ((s1.trans s2).trans s4).newW nD (by rw [hD4]; trivial), vs ++ [y], upd_same, reps_keep kp (fun _ _ _ z => z) (reps_app r4 hy')⟩
  · have e : i = ds.length := by omega
    subst e
    refine .inl ⟨w2, ?_⟩
    rw [List.take_length] at hd
    rw [hc] at hd
    cases hd
    exact q D H nD s1 ⟨vs, hD, hr⟩
end
end Ir

/-! Ir9b: C() of a class without fields; its methods. -/
namespace Ir
open PySem L2 PyProof.Rows
section
variable {G : Gx} {M : Nms} {T : Tbl} {N : List Str} {sc : Scope} {lvl : Nat} {W : WX} {X : Cx}
variable {o y : Expr} {es : List Expr} {a : E} {l : Es} {ta : TE} {tl : TA} {m cn : Str} {ap pos p0 : Pos}
def tMk0 (C : Addr) : TE := fun σ H Q => ∀ x dx, H x = none → H dx = none → dx ≠ x → Q (.ref x) (upd (upd H dx (.own x)) x (.ins C dx []))
theorem pe_mk0 {C : Addr} (h1 : PySem.W.makesIn X.K C = true) (h2 : PySem.W.findIn X.K (.ref C) "__init__" = some (some (.builtin "object.__init__"))) (h3 : PySem.W.keepIn X.K (.ref C) = true) (hg : Gl X cn) (hm : X.mg cn = some (.ref C)) (hdb : (cn == ("__debug__" : Str)) = false) :
    PE X (.Call (.Name cn p0) [] [] pos) (tMk0 C) := by
  refine ⟨fun pins s σ H Q I h => ?_⟩
  refine wpAny_Call_Name_kw (ld_glob I hg hm ?_ hdb)
  refine PySem.W.callWith_K0 I.kIn h3 ?_
  have I2 := Inv.made (C := C) I
  have q := h (s.heap.objs.size + 1) s.heap.objs.size (I.hok.fresh (Nat.le_succ _)) (I.hok.fresh (Nat.le_refl _)) (Nat.ne_of_lt (Nat.lt_succ_self _))
  refine wpAny_call (make_map0 I.kIn h1 h2 (fun self => PySem.W.Looks.of_pure (PySem.W.oi_bind self)) ?_)
  have Y := PySem.W.makes_of (M := model X.prog X.w) I.kIn h1
  have at1 : ((s.heap.push PySem.W.emptyDict).push (PySem.W.instObj C s.heap.objs.size)).get? (s.heap.objs.size + 1) = some (PySem.W.instObj C s.heap.objs.size) := by
    have z := Heap.get?_push_size (s.heap.push PySem.W.emptyDict) (o := PySem.W.instObj C s.heap.objs.size) rfl
    rwa [Heap.size_push] at z
  have t1 : PySem.W.Looks (model X.prog X.w) ((s.heap.push PySem.W.emptyDict).push (PySem.W.instObj C s.heap.objs.size)) (typeOf (.ref (s.heap.objs.size + 1))) (.ref C) := (PySem.W.Looks.ld at1).andThen .now
  have t2 : PySem.W.Looks (model X.prog X.w) ((s.heap.push PySem.W.emptyDict).push (PySem.W.instObj C s.heap.objs.size)) (isInstance (.ref (s.heap.objs.size + 1)) (.type "object")) true := t1.andThen (Y.top.keeps fun b o e => Heap.get?_push_of_some _ (Heap.get?_push_of_some _ e))
  refine codeAny_call_builtin PySem.W.oi_plain PySem.W.entry_oi (@PySem.W.check_slot (model X.prog X.w) _ _ _ "object.__init__" "object" "__init__" (.ref (s.heap.objs.size + 1)) [] [] _ PySem.W.oi_kind PySem.W.oi_split t2 (PySem.W.oi_args (.ref (s.heap.objs.size + 1))) ?_)
  rw [PySem.W.oi_run]
  exact wpAny_pure (And.intro rfl ⟨.ref (s.heap.objs.size + 1), _, I2, rfl, q⟩)
theorem se_mk (c : Cxk G M N sc lvl W X) (F : Facts G M T lvl) (hg : glB sc cn = true) (hn : okNm cn = true) : ∃ te, SE G T X W (.Call (.Name cn p0) [] [] pos) (.mk cn) te := by
  cases e : T.mkc cn with
  | false =>
    refine ⟨fun _ _ _ => False, SE.of rfl rfl ⟨fun _ _ _ _ _ _ h => h.elim⟩ fun B H0 ρ σ H Q r p => ?_⟩
    have p : PostG G (fun H => rep G (Blk B ρ σ) H) H (.iff (T.mkc cn) (.ok (.ins cn))) Q (WE W σ) := p
    rw [e] at p
    exact p
  | true =>
    obtain ⟨C, hm, h1, h2, h3⟩ := F.mkc cn e
    refine ⟨tMk0 C, SE.of rfl rfl (pe_mk0 (by rw [c.gx.K]; exact h1) (by rw [c.gx.K]; exact h2) (by rw [c.gx.K]; exact h3) (gl_of hg c.sc) (by rw [c.gx.mg]; exact hm) (okNm_of hn).1) fun B H0 ρ σ H Q r p => ?_⟩
    have p : PostG G (fun H => rep G (Blk B ρ σ) H) H (.iff (T.mkc cn) (.ok (.ins cn))) Q (WE W σ) := p
    rw [e] at p
    intro x dx nx nd ne
    have s1 : Same G H (upd (upd H dx (.own x)) x (.ins C dx [])) := (Same.upd_new nd).trans (Same.upd_new (by rw [upd_ne (Ne.symm ne)]; exact nx))
    exact p _ _ s1 ⟨x, C, dx, rfl, hm, upd_same, fun z => r.bdom.new nx z⟩
/-! ### methods -/
theorem abase {o : Expr} {attr : Str} {env : Env} {whole : Sem Value} (h : obB o = true) : attributeBase o attr env whole = whole := by
  cases o with
  | Call f as ks p =>
    cases f with
    | Name id q =>
      cases as with
      | cons a as => rfl
      | nil =>
        cases ks with
        | cons k ks => rfl
        | nil => exact abase_call h
    | _ => rfl
  | _ => rfl
def tMethA (X : Cx) (G : Gx) (lvl : Nat) (m : Str) (W : WX) (ta : TE) (t : TA) : TE := fun σ H Q => ta σ H fun x H1 => ∃ (C f : Addr) (k : Nat) (fd : FuncData) (ps : List Str) (sp : Sp) (ds : List Value) (dvs : List V),
  k ≤ lvl ∧ Cls G.K C ∧ Meth G.K C m f ∧ FnOk G.P G.w G.K G.mg G.base (L2.CX G.P G.w) k f fd ps sp ∧ Binds G.K fd ps ds ∧ Vals dvs ds ∧
  ∃ a dx fs, x = .ref a ∧ H1 a = some (.ins C dx fs) ∧ fs.lookup m = none ∧ t σ H1 fun vs H2 => sp (x :: (vs ++ dvs)) H2 Q (WE W σ)
/-- the callee runs, what is raised wished for at the slots -/
theorem run_fnS {CX : CXT} {k : Nat} {f : Addr} {fd : FuncData} {ps : List Str} {sp : Sp} {ds : List Value} {dvs : List V} {E : XK} {pins : List (Addr × Obj)} {σ : L2.St} {H : Hp} {s : Shared} {Q : VK} {us : List Value} {vs : List V} (F : FnOk X.prog X.w X.K X.mg X.base CX k f fd ps sp) (hr : Room k X.A) (hb : Binds X.K fd ps ds) (hd : Vals dvs ds)
    (hx : PassesAt CX X σ E) (I : Inv X pins σ H s) (r : Vals vs us) (h : sp (vs ++ dvs) H Q E) : wpAny (model X.prog X.w) X.A (call (.ref f) us) (EP X pins σ Q) X.xe s := by
  have r2 : Vals (vs ++ dvs) (us ++ ds) := r.append hd
  have hl : (us ++ ds).length = ps.length := by rw [← r2.length]; exact F.len _ _ _ _ h
  refine wpAny_call (codeAny_mono (F.run X.A X.stack s H ⟨us, []⟩ (us ++ ds) (vs ++ dvs) Q E hr I.env0 (hb s us I.kIn hl) r2 h) fun r s' hq => ?_)
  cases r with
  | error e => exact hx pins H s e s' I hq
  | ok fl =>
    cases fl with
    | ret u => exact I.after hq
    | next => exact False.elim hq
    | brk => exact False.elim hq
    | cont => exact False.elim hq
theorem pe_methA (c : Cxk G M N sc lvl W X) (hcm : M.calm = true) (ho : obB o = true) (ln : (ap.endLine == pos.line) = true) (few : (y :: es).length < 29) (ha : SE G T X W o a ta) (hl : SL G T X W (y :: es) l tl) :
    PE X (.Call (.Attribute o m ap) (y :: es) [] pos) (tMethA X G lvl m W ta tl) := by
  have few' : methodCallForm ((y :: es).length + ([] : List Keyword).length) (backTo pos (starEach (y :: es) X.env)) (backToKw pos (keywordEach [] X.env)) = true := by
    have h1 := hl.plain pos
    have h2 : (backTo pos (starEach (y :: es) X.env)).all (fun x => !x.1) = true := by
      rw [List.any_eq_false] at h1
      rw [List.all_eq_true]
      intro x hx
      have z := h1 x hx
      cases q : x.1 with
      | false => rfl
      | true => exact (z q).elim
    have h3 : backToKw pos (keywordEach [] X.env) = [] := rfl
    unfold methodCallForm
    rw [h2, h3]
    show (true && true && decide ((y :: es).length + 0 + 0 < 30)) = true
    rw [decide_eq_true (by omega)]
    rfl
  have ht := mcall_of (o := o) (m := m) (apos := ap) (pos := pos) (args := y :: es) (kws := []) (env := X.env) (abase ho) fun ov => mcall_line (o := o) (m := m) (apos := ap) (pos := pos) (env := X.env) (ov := ov) few' ln
  have hpl : (backTo pos (starEach es X.env)).any (·.1) = false := by
    have h := hl.plain pos
    rw [backTo_any] at h ⊢
    rw [hl.stars y es rfl, List.any_cons] at h
    exact h
  refine ⟨fun pins s σ H Q I h => ?_⟩
  refine PySem.W.methodCall_KW (pl := plainOf o X.env) (thn (ha.pe.run pins s σ H _ I h) fun u s1 ⟨x, H1, I1, rx, q⟩ => ?_) ht
  obtain ⟨C, f, k, fd, ps, sp, ds, dvs, hk, hc, hm, ok, hb, hd, b, dx, fs, ex, ea, hf, q⟩ := q
  subst ex
  obtain rfl : u = Value.ref b := rx
  rw [← c.gx.K] at hc hm hb
  rw [← c.gx.prog, ← c.gx.w, ← c.gx.K, ← c.gx.mg, ← c.gx.base] at ok
  refine getmeth_ok I1 ea hc hm hf ?_
  refine PySem.W.callWith_K (first := [.ref b]) (h₀ := X.base) I.ok.mod.kin hm.kp (thn (hl.pa.run pos pins s1 σ H1 _ I1 q) fun us s2 ⟨vs, H2, I2, r, q2⟩ => ⟨I2.kIn, ?_⟩) (hl.stars y es rfl) hpl
  exact run_fnS (us := .ref b :: us) (vs := .ref b :: vs) ok ((c.room hcm).mono hk) hb hd (passAt c.tk σ) I2 (.cons rfl r) q2
theorem nx_ins (d : D) : Nx (insO d) := by
  unfold insO
  split <;> first | exact nx_ok | exact nx_stuck
theorem se_meth (c : Cxk G M N sc lvl W X) (F : Facts G M T lvl) (hcm : M.calm = true) (ho : obB o = true) (ln : (ap.endLine == pos.line) = true) (few : (y :: es).length < 29) (hm : (m, (y :: es).length + 1) ∈ M.mt) (hi : isL M N l sc (y :: es) = true) (ha : SE G T X W o a ta) (hl : SL G T X W (y :: es) l tl) :
    SE G T X W (.Call (.Attribute o m ap) (y :: es) [] pos) (.meth m a l) (tMethA X G lvl m W ta tl) := by
  refine SE.of rfl rfl (pe_methA c hcm ho ln few ha hl) fun B H0 ρ σ H Q r p => ?_
  have p : PostG G (fun H => rep G (Blk B ρ σ) H) H ((ev T a ρ).bind fun x => (insO x).bind fun c => .iff (T.hm c m) ((evL T l ρ).bind fun ds => T.mt c m (x :: ds))) Q (WE W σ) := p
  refine ha.im B H0 ρ σ H _ r (PostR.bnd p fun dx vx H1 s1 h1 p1 => ?_)
  obtain ⟨cn, e1, p2⟩ := PostR.pure (nx_ins dx) p1
  cases dx with
  | ins cn' =>
    obtain rfl : cn' = cn := R.ok.inj e1
    obtain ⟨ok, p3⟩ := PostR.iff p2
    obtain ⟨C, f, k, fd, ps, sp, ds, dvs, hk, hg, hc, hme, fo, hb, hd, pr⟩ := F.mt cn' m _ ok hm
    obtain ⟨b, C', dx, rfl, hg', hH, nb⟩ := h1
    rw [hg] at hg'
    cases hg'
    refine ⟨C, f, k, fd, ps, sp, ds, dvs, hk, hc, hme, fo, hb, hd, b, dx, [], rfl, hH, rfl, ?_⟩
    have r1 := r.mono s1
    refine hl.im B H0 ρ σ H1 _ r1 ?_
    cases e : evL T l ρ with
    | stuck =>
      rw [e] at p3
      exact p3
    | exc c fs =>
      rw [e] at p3
      exact p3
    | ok args =>
      rw [e] at p3
      intro vs H2 s2 h2
      have r2 := r1.mono s2
      refine pr _ (.ins cn' :: args) H2 (.ref b :: vs) Q (WE W σ) (by rw [List.length_cons, evL_length hi e]) r2.bdom r2.tab ⟨.ref b, vs, rfl, ?_, h2⟩ (PostR.mono s2 p3)
      exact rep_same s2 (d := .ins cn') ⟨b, C, dx, rfl, hg, hH, nb⟩
  | _ => cases e1
end
end Ir

/-! Ir9h: isinstance by own classes. -/
namespace Ir
open PySem L2 PyProof.Rows
section
variable {G : Gx} {M : Nms} {T : Tbl} {N : List Str} {sc : Scope} {lvl : Nat} {W : WX} {X : Cx}
variable {y z : Expr} {es : List Expr} {a : E} {ta : TE} {n : Str} {pos p0 : Pos}
theorem ClsN.det {v w : V} {u u2 : Value} (h : ClsN G n v u) (h2 : ClsN G n w u2) : v = w ∧ u = u2 := by
  rcases h with ⟨U, e1, rfl, rfl⟩ | ⟨rfl, e1, rfl, rfl⟩
  · rcases h2 with ⟨U2, e2, rfl, rfl⟩ | ⟨_, e2, _⟩
    · rw [e1] at e2
      cases e2
      exact ⟨rfl, rfl⟩
    · rw [e1] at e2
      cases e2
  · rcases h2 with ⟨U2, e2, _⟩ | ⟨_, _, rfl, rfl⟩
    · rw [e1] at e2
      cases e2
    · exact ⟨rfl, rfl⟩
theorem ClsNs.det : ∀ {ns : List Str} {vs ws : List V} {us us2 : List Value}, ClsNs G ns vs us → ClsNs G ns ws us2 → vs = ws ∧ us = us2
  | [], _, _, _, _, h, h2 => by
    obtain ⟨rfl, rfl⟩ := h
    obtain ⟨rfl, rfl⟩ := h2
    exact ⟨rfl, rfl⟩
  | n :: ns, _, _, _, _, h, h2 => by
    obtain ⟨v, u, vs, us, rfl, rfl, h, hr⟩ := h
    obtain ⟨v2, u2, vs2, us2, rfl, rfl, h2, hr2⟩ := h2
    obtain ⟨rfl, rfl⟩ := h.det h2
    obtain ⟨rfl, rfl⟩ := ClsNs.det hr hr2
    exact ⟨rfl, rfl⟩
theorem ClsN.clsV {v : V} {u : Value} (h : ClsN G n v u) : ClsV v u := by
  rcases h with ⟨U, e1, rfl, rfl⟩ | ⟨rfl, e1, rfl, rfl⟩
  · exact .own U
  · exact .ty _
theorem ClsNs.clsV : ∀ {ns : List Str} {vs : List V} {us : List Value}, ClsNs G ns vs us → Paired ClsV vs us
  | [], _, _, h => by
    obtain ⟨rfl, rfl⟩ := h
    exact .nil
  | n :: ns, _, _, h => by
    obtain ⟨v, u, vs, us, rfl, rfl, h, hr⟩ := h
    exact .cons h.clsV hr.clsV
theorem pe_cls (c : Cxk G M N sc lvl W X) {v : V} {u : Value} (hg : glB sc n = true) (hn : okNm n = true) (h : ClsN G n v u) : PE X (.Name n p0) (tC v) := by
  rcases h with ⟨U, e1, rfl, rfl⟩ | ⟨rfl, e1, rfl, rfl⟩
  · exact pe_glob (gl_of hg c.sc) (by rw [c.gx.mg]; exact e1) rfl (okNm_of hn).1
  · exact pe_bltn (gl_of hg c.sc) (by rw [c.gx.mg]; exact e1) boot_ValueError rfl (by decide) (by decide)
theorem pa_nms (c : Cxk G M N sc lvl W X) : ∀ {ns : List Str} {es : List Expr} {vs : List V} {us : List Value}, nmsB sc ns es = true → ClsNs G ns vs us → ∃ t : TA, PA X es t ∧ ∀ σ H (Q : List V → Hp → Prop), Q vs H → t σ H Q
  | [], es, vs, us, h, k => by
    cases es with
    | nil =>
      obtain ⟨rfl, rfl⟩ := k
      exact ⟨_, pa_nil, fun σ H Q q => q⟩
    | cons _ _ => cases h
  | n :: ns, es, vs, us, h, k => by
    cases es with
    | nil => cases h
    | cons e es =>
      cases e with
      | Name x p =>
        have h : (decide (n = x) && glB sc x && okNm x && nmsB sc ns es) = true := h
        rw [Bool.and_eq_true, Bool.and_eq_true, Bool.and_eq_true] at h
        obtain ⟨⟨⟨h1, h2⟩, h3⟩, h4⟩ := h
        cases of_decide_eq_true h1
        obtain ⟨v, u, vs, us, rfl, rfl, k, kr⟩ := k
        obtain ⟨t, ht, q⟩ := pa_nms c h4 kr
        exact ⟨_, pa_cons (pe_cls c h2 h3 k) ht (noSt_is (e := .Name n p) rfl es X.env), fun σ H Q z => q σ H _ z⟩
      | _ => cases h
theorem nx_quiet : ∀ {a : E}, quietE a = true → ∀ ρ, Nx (evP T a ρ)
  | .var i, _, ρ => fun _ _ => getP_noexc
  | .int i, _, ρ => nx_ok
  | .sub a b, h, ρ => by
    have h : (quietE a && quietE b) = true := h
    rw [Bool.and_eq_true] at h
    exact nx_bind (nx_quiet h.1 ρ) fun x => nx_bind (nx_quiet h.2 ρ) fun y => nx_sub x y
theorem clsB_len {cs : List Str} {es : List Expr} {k : Nat} {p : Pos} (h : clsB sc cs (.Tuple es k p) = true) : cs.length ≤ 1000 := by
  have h : (decide (cs.length ≤ 1000) && nmsB sc cs es) = true := h
  rw [Bool.and_eq_true] at h
  exact of_decide_eq_true h.1
theorem clsB_nms {cs : List Str} {es : List Expr} {k : Nat} {p : Pos} (h : clsB sc cs (.Tuple es k p) = true) : nmsB sc cs es = true := by
  have h : (decide (cs.length ≤ 1000) && nmsB sc cs es) = true := h
  rw [Bool.and_eq_true] at h
  exact h.2
theorem len_nms : ∀ {ns : List Str} {es : List Expr} {vs : List V} {us : List Value}, nmsB sc ns es = true → ns.length ≤ 1000 → ClsNs G ns vs us → vs.length ≤ sizeLine
  | ns, _, vs, us, _, h, k => by
    have e : ∀ {ns : List Str} {vs : List V} {us : List Value}, ClsNs G ns vs us → vs.length = ns.length := by
      intro ns
      induction ns with
      | nil =>
        intro vs us k
        obtain ⟨rfl, rfl⟩ := k
        rfl
      | cons n ns ih =>
        intro vs us k
        obtain ⟨v, u, vs, us, rfl, rfl, k, kr⟩ := k
        rw [List.length_cons, List.length_cons, ih kr]
    rw [e k, sizeLine_eq]
    omega
theorem kitAny_one {K : PySem.W.Frag} {t u : Value} {b : Bool} (h : PySem.W.kitAny K t [u] = some b) : PySem.W.kitOne K t u = some b := by
  unfold PySem.W.kitAny at h
  cases e : PySem.W.kitOne K t u with
  | none =>
    rw [e] at h
    cases h
  | some k =>
    rw [e] at h
    cases k with
    | true => exact h
    | false => exact h
theorem nx_isiC (Fa : Facts G M T lvl) (x : D) (cs : List Str) : Nx (isiCD T x cs) := by
  cases x with
  | ins c => exact fun e fs => Fa.subx c cs e fs
  | exc c => exact fun e fs => Fa.xf.fsx c cs e fs
  | _ => exact nx_stuck
/-- a kept exception, as isinstance asks it -/
def ExcX (G : Gx) (X : Cx) (H : Hp) (v : V) (cs : List Str) (b : Bool) : Prop := ∃ a D vs us, v = .ref a ∧ ExcC X.K D ∧ H a = some (excO a (.ref D) none) ∧ ClsNs G cs vs us ∧ PySem.W.kitAny X.K (.ref D) us = some b
theorem tyx_of (Fa : Facts G M T lvl) (g : Gxx G X) {B : Addr → Prop} {H : Hp} {d : D} {v : V} {cs : List Str} {b : Bool} (h : repT G B H d v) (e : isiCD T d cs = .ok b) : (∃ t vs us, TyX X.K H v t ∧ ClsNs G cs vs us ∧ PySem.W.kitAny X.K t us = some b) ∨ ExcX G X H v cs b := by
  cases d with
  | ins c =>
    obtain ⟨C, vs, us, hm, hc, ok, hk⟩ := Fa.sub c cs b e
    obtain ⟨a, C', dx, rfl, hm', hH, nb⟩ := h
    rw [hm] at hm'
    cases hm'
    rw [g.K]
    exact .inl ⟨.ref C, vs, us, .base (.ins hH ok.cl ok.ha ok.hn ok.htk ok.hm), hc, hk⟩
  | exc c =>
    obtain ⟨C, vs, us, hm, hc, ok, hk⟩ := Fa.xf.fs c cs b e
    obtain ⟨a, C', rfl, hm', hH, nb⟩ := h
    rw [hm] at hm'
    cases hm'
    refine .inr ⟨a, C, vs, us, rfl, ?_, hH, hc, ?_⟩
    · rw [g.K]
      exact ok
    · rw [g.K]
      exact hk
  | _ => cases e
theorem call_or {f : Value} {r1 r2 : List V → Hp → VK → Prop} (h1 : CallR X f r1) (h2 : CallR X f r2) : CallR X f (fun xs H Q => r1 xs H Q ∨ r2 xs H Q) := fun pins s σ H xs us Q I r h => h.elim (fun h => h1 pins s σ H xs us Q I r h) fun h => h2 pins s σ H xs us Q I r h
/-- the names that are asked of, where any answer is told -/
theorem sub_names (Fa : Facts G M T lvl) {d : D} {cs : List Str} {b : Bool} (e : isiCD T d cs = .ok b) : ∃ vs us, ClsNs G cs vs us := by
  cases d with
  | ins c =>
    obtain ⟨C, vs, us, hm, hc, ok, hk⟩ := Fa.sub c cs b e
    exact ⟨vs, us, hc⟩
  | exc c =>
    obtain ⟨C, vs, us, hm, hc, ok, hk⟩ := Fa.xf.fs c cs b e
    exact ⟨vs, us, hc⟩
  | _ => cases e
theorem se_isiC (c : Cxk G M N sc lvl W X) (F : Facts G M T lvl) {cs : List Str} (hg : glB sc "isinstance" = true) (ns : noSt y = true) (hz : clsB sc cs z = true) (qa : quietE a = true) (ha : SE G T X W y a ta) :
    ∃ te, SE G T X W (.Call (.Name "isinstance" p0) [y, z] [] pos) (.isiC a cs) te := by
  have hm : ∀ n, n ∈ bltNames → X.mg n = none := fun n h => by rw [c.gx.mg]; exact F.blt n h
  by_cases h : ∃ d b, isiCD T d cs = .ok b
  · obtain ⟨d0, b0, h0⟩ := h
    obtain ⟨vs, us, nm⟩ := sub_names F h0
    cases z with
    | Name n p =>
      have hz : (decide (cs = [n]) && glB sc n && okNm n) = true := hz
      rw [Bool.and_eq_true, Bool.and_eq_true] at hz
      obtain ⟨⟨z1, z2⟩, z3⟩ := hz
      cases of_decide_eq_true z1
      obtain ⟨v, u, vs, us, rfl, rfl, k, kr⟩ := nm
      obtain ⟨rfl, rfl⟩ := kr
      refine ⟨_, SE.of rfl rfl (pe_callB (call_or call_isi call_isX) (gl_of hg c.sc) (hm _ (by decide +kernel)) PyProof.Rows.boot_isinstance (pa_cons ha.pe (pa_cons (pe_cls c z2 z3 k) pa_nil) (noSt_is ns _ _)) (by decide) (by decide) (noSt_is ns _ _) rfl) fun B H0 ρ σ H Q r p => ha.pk B H0 ρ σ H _ r (PostR.bnd p fun dx vx H1 s1 h1 p1 => ?_)⟩
      obtain ⟨b, e, p2⟩ := PostR.pure (nx_isiC F dx [n]) p1
      rcases tyx_of F c.gx h1 e with ⟨t, vs, us, ty, nm2, hk⟩ | ⟨ax, Dx, vs, us, ev, ok, hx, nm2, hk⟩
      · obtain ⟨v2, u2, vs, us, rfl, rfl, k2, kr⟩ := nm2
        obtain ⟨rfl, rfl⟩ := kr
        obtain ⟨rfl, rfl⟩ := k.det k2
        exact .inl ⟨vx, v, t, u, b, rfl, k.clsV, ty, kitAny_one hk, PostR.at_ p2 rfl⟩
      · subst ev
        obtain ⟨v2, u2, vs, us, rfl, rfl, k2, kr⟩ := nm2
        obtain ⟨rfl, rfl⟩ := kr
        obtain ⟨rfl, rfl⟩ := k.det k2
        exact .inr ⟨ax, Dx, v, u, b, rfl, k.clsV, ok, hx, kitAny_one hk, PostR.at_ p2 rfl⟩
    | Tuple es k p =>
      obtain ⟨tn, pn, qn⟩ := pa_nms c (es := es) (clsB_nms hz) nm
      refine ⟨_, SE.of rfl rfl (pe_callB (call_or call_isiT call_isXT) (gl_of hg c.sc) (hm _ (by decide +kernel)) PyProof.Rows.boot_isinstance (pa_cons ha.pe (pa_cons (pe_tup (pos := p) pn) pa_nil) (noSt_is ns _ _)) (by decide) (by decide) (noSt_is ns _ _) rfl) fun B H0 ρ σ H Q r p => ha.pk B H0 ρ σ H _ r (PostR.bnd p fun dx vx H1 s1 h1 p1 => ?_)⟩
      obtain ⟨b, e, p2⟩ := PostR.pure (nx_isiC F dx cs) p1
      refine qn σ H1 _ ⟨?_, fun tp np => ?_⟩
      · exact len_nms (clsB_nms hz) (clsB_len hz) nm
      · have s2 : Same G H1 (upd H1 tp (.tup vs)) := Same.upd_new np
        rcases tyx_of F c.gx (repT_keep s2 h1) e with ⟨t, vs2, us2, ty, nm2, hk⟩ | ⟨ax, Dx, vs2, us2, ev, ok, hx, nm2, hk⟩
        · obtain ⟨rfl, rfl⟩ := nm.det nm2
          exact .inl ⟨vx, tp, vs, t, us, b, rfl, upd_same, nm.clsV, ty, hk, PostR.at_ (PostR.mono s2 p2) rfl⟩
        · subst ev
          obtain ⟨rfl, rfl⟩ := nm.det nm2
          exact .inr ⟨ax, Dx, tp, vs, us, b, rfl, upd_same, nm.clsV, ok, hx, hk, PostR.at_ (PostR.mono s2 p2) rfl⟩
    | _ => cases hz
  · refine ⟨fun _ _ _ => False, SE.of rfl rfl ⟨fun _ _ _ _ _ _ h => h.elim⟩ fun B H0 ρ σ H Q r p => ?_⟩
    have p : PostG G (fun H => rep G (Blk B ρ σ) H) H ((evP T a ρ).bind fun x => (isiCD T x cs).bind fun b => .ok (.bl b)) Q (WE W σ) := p
    cases q : evP T a ρ with
    | stuck =>
      rw [q] at p
      exact p.elim
    | exc cc fs => exact nx_quiet qa ρ cc fs q
    | ok x =>
      rw [q] at p
      obtain ⟨b, e, _⟩ := PostR.pure (nx_isiC F x cs) p
      exact h ⟨x, b, e⟩
end
end Ir

/-! Ir9c: sorted(l, key=f): the machine's side over the layer's invariant. -/
namespace Ir
open PySem L2 PyProof.Rows
section
variable {X : Cx} {pins : List (Addr × Obj)} {σ : L2.St} {H H' : Hp} {s : Shared} {h' : Heap} {a b : Addr}
/-- an address of one's own, not the frame's, no pin's -/
structure NewA (X : Cx) (pins : List (Addr × Obj)) (a : Addr) : Prop where
  sz : X.s_0.heap.objs.size ≤ a
  loc : a ≠ X.env.locals
  fs : a ∉ X.fs
  cel : ∀ x c, X.env.cells.lookup x = some c → c ≠ a
  pin : ∀ p ∈ X.pn ++ pins, p.1 ≠ a
theorem inv_new (I : Inv X pins σ H s) (h : s.heap.objs.size ≤ a) : NewA X pins a := by
  refine ⟨Nat.le_trans I.sz h, Nat.ne_of_gt (Nat.lt_of_lt_of_le I.lt h), I.nofs h, fun x c e z => ?_, fun p hp z => ?_⟩
  · obtain ⟨v, o, ho, _⟩ := I.cell x c e
    exact Nat.lt_irrefl _ (Nat.lt_of_lt_of_le (Heap.lt_size ho) (z ▸ h))
  · have z2 := Heap.lt_size (I.pin p hp).1
    exact Nat.lt_irrefl _ (Nat.lt_of_lt_of_le z2 (z ▸ h))
theorem inv_turned1 {t' : Nat} (I : Inv X pins σ H s) (n : NewA X pins a) (hn : H a = none) (k : ∀ c o, c ≠ a → s.heap.get? c = some o → h'.get? c = some o) : Inv X pins σ H { s with heap := h', toks := t' } :=
  I.turned k hn n.loc (.inr n.sz) n.cel n.pin
theorem inv_turned2 {t' : Nat} (I : Inv X pins σ H s) (n : NewA X pins a) (m : NewA X pins b) (hn : H a = none) (hm : H b = none) (k : ∀ c o, c ≠ a → c ≠ b → s.heap.get? c = some o → h'.get? c = some o)
    : Inv X pins σ H { s with heap := h', toks := t' } := by
  have na : ∀ c u, H c = some u → c ≠ a := fun c u e z => by rw [z, hn] at e; cases e
  have nb : ∀ c u, H c = some u → c ≠ b := fun c u e z => by rw [z, hm] at e; cases e
  refine I.step (g' := s.gens) (d' := s.drawn) (ch := [a, b]) (fun c hc => ?_) (fun c o _ _ hc e _ => k c o (fun z => hc (by simp [z])) (fun z => hc (by simp [z])) e) (fun c o _ _ hc e _ => ⟨o.slots, k c o (fun z => hc (by simp [z])) (fun z => hc (by simp [z])) e⟩) (fun _ _ _ _ n => n)
    (fun c o hc e => ⟨o, k c o (fun z => hc (by simp [z])) (fun z => hc (by simp [z])) e⟩) (fun _ _ e => e) (fun _ _ _ e => e) (fun c ps e => ⟨#[], by rw [e]; simp⟩) (fun q hq => ?_) (fun c u e => ?_) I.bare
  · rcases List.mem_cons.mp hc with e | hc
    · rw [e]
      exact ⟨.inr n.sz, n.loc, n.cel, n.pin⟩
    · rw [List.mem_singleton.mp hc]
      exact ⟨.inr m.sz, m.loc, m.cel, m.pin⟩
  · obtain ⟨o, es, ep, ho, r⟩ := hq
    exact ⟨o, es, ep, k _ o (Ne.symm n.loc) (Ne.symm m.loc) ho, r⟩
  · refine (I.hok c u e).stay (fun d v hd q => k d v ?_ ?_ q) (fun _ q => q) fun _ _ q => q
    · rcases hd with z | z
      · rw [z]; exact na c u e
      · exact na d _ z
    · rcases hd with z | z
      · rw [z]; exact nb c u e
      · exact nb d _ z
/-- what was not known is known from now on -/
theorem inv_track {o : HO} (I : Inv X pins σ H s) (n : NewA X pins a) (hn : H a = none) (ok : ObjOk X.prog X.w (upd H a o) s.heap a o) : Inv X pins σ (upd H a o) s := by
  have ne : ∀ c u, H c = some u → c ≠ a := fun c u e z => by rw [z, hn] at e; cases e
  have ne0 : ∀ c u, X.s_0.heap.get? c = some u → c ≠ a := fun c u e z => Nat.lt_irrefl _ (Nat.lt_of_lt_of_le (Heap.lt_size e) (z ▸ n.sz))
  refine ⟨I.ok, I.os, I.bare, ⟨I.base.keep, I.base.slot, fun c u e h hx => by rw [upd_ne (ne0 c u e)]; exact I.base.free c u e h hx, I.base.there, fun c xs e => ?_, fun c u xs e => ?_, fun c ps e => ?_⟩, I.loc, I.cell, by rw [upd_ne (Ne.symm n.loc)]; exact I.free, fun x c e => by rw [upd_ne (n.cel x c e)]; exact I.freeC x c e, fun p hp => ?_, fun c u e => ?_, I.len⟩
  · have z := I.base.tups c xs e
    rw [upd_ne (ne c _ z)]
    exact z
  · have z := I.base.frzs c u xs e
    rw [upd_ne (ne c _ z)]
    exact z
  · obtain ⟨m, z⟩ := I.base.tbls c ps e
    exact ⟨m, by rw [upd_ne (ne c _ z)]; exact z⟩
  · obtain ⟨h1, h2, h3, h4, h5⟩ := I.pin p hp
    exact ⟨h1, by rw [upd_ne (n.pin p hp)]; exact h2, h3, h4, h5⟩
  · by_cases hc : c = a
    · subst hc
      rw [upd_same] at e
      cases e
      exact ok
    · rw [upd_ne hc] at e
      exact (I.hok c u e).stay (fun d v _ q => q) (fun d q => by rw [upd_ne (ne d _ q)]; exact q) fun d xs q => by rw [upd_ne (ne d _ q)]; exact q
/-- a key's call: it raises nothing, its key bears data -/
def KeyR (G : Gx) (X : Cx) (B : Addr → Prop) (σ : L2.St) (H0 : Hp) (need : List (Addr × Obj)) (fv : Value) (kf : D → R D) : Prop := ∀ (pins : List (Addr × Obj)) (s : Shared) (H : Hp) (d k : D) (x : V) (u : Value), (∀ p ∈ need, p ∈ pins) → Inv X pins σ H s → Same G H0 H → RelV x u → rep G B H d x → (kf d).nox = .ok k →
  wpAny (model X.prog X.w) X.A.in1.in1 (call fv [u]) (EP X pins σ fun v H' => Same G H H' ∧ rep G B H' k v) (fun _ _ => False) s
theorem mapR_len {α β : Type} {f : α → R β} : ∀ {l : List α} {r : List β}, mapR f l = .ok r → r.length = l.length
  | [], r, e => by
    have e : R.ok [] = R.ok r := e
    cases e
    rfl
  | a :: l, r, e => by
    have e : ((f a).nox.bind fun x => (mapR f l).bind fun r => .ok (x :: r)) = .ok r := e
    obtain ⟨x, e1, e⟩ := bind_ok_inv e
    obtain ⟨m, e2, e⟩ := bind_ok_inv e
    cases e
    rw [List.length_cons, List.length_cons, mapR_len e2]
theorem mapR_get {α β : Type} {f : α → R β} : ∀ {l : List α} {r : List β} {i : Nat} {a : α}, mapR f l = .ok r → l[i]? = some a → ∃ b, r[i]? = some b ∧ (f a).nox = .ok b
  | [], r, i, a, _, h => by simp at h
  | c :: l, r, i, a, e, h => by
    have e : ((f c).nox.bind fun x => (mapR f l).bind fun r => .ok (x :: r)) = .ok r := e
    obtain ⟨x, e1, e⟩ := bind_ok_inv e
    obtain ⟨m, e2, e⟩ := bind_ok_inv e
    cases e
    cases i with
    | zero =>
      simp at h
      subst h
      exact ⟨x, rfl, e1⟩
    | succ i =>
      obtain ⟨b, h1, h2⟩ := mapR_get e2 (i := i) (a := a) (by simpa using h)
      exact ⟨b, by simpa using h1, h2⟩
theorem nx_mapR {α β : Type} {f : α → R β} : ∀ l : List α, Nx (mapR f l)
  | [] => nx_ok
  | a :: l => by
    show Nx ((f a).nox.bind fun x => (mapR f l).bind fun r => .ok (x :: r))
    refine nx_bind ?_ fun x => nx_bind (nx_mapR l) fun _ => nx_ok
    cases f a with
    | stuck => exact nx_stuck
    | exc c fs => exact nx_stuck
    | ok b => exact nx_ok
theorem each_pair {α β γ δ : Type} {R : α → β → Prop} {S : γ → δ → Prop} : ∀ {as : List α} {bs : List β} {cs : List γ} {ds : List δ}, PySem.W.EachIs R as bs → PySem.W.EachIs S cs ds → cs.length = as.length → PySem.W.EachIs (fun a (p : δ × β) => R a p.2) as (ds.zip bs)
  | _, _, [], [], .nil, .nil, _ => .nil
  | _, _, _, _, .nil, .cons _ _, h => by cases h
  | _, _, _, _, .cons _ _, .nil, h => by cases h
  | _, _, _, _, .cons h t, .cons g u, e => .cons h (each_pair t u (by simpa using e))
theorem each_len {α β : Type} {R : α → β → Prop} : ∀ {as : List α} {bs : List β}, PySem.W.EachIs R as bs → as.length = bs.length
  | _, _, .nil => rfl
  | _, _, .cons _ t => congrArg (· + 1) (each_len t)
theorem each_map_r {α β γ : Type} {R : α → γ → Prop} {f : β → γ} : ∀ {as : List α} {bs : List β}, PySem.W.EachIs (fun a b => R a (f b)) as bs → PySem.W.EachIs R as (bs.map f)
  | _, _, .nil => .nil
  | _, _, .cons h t => .cons h (each_map_r t)
theorem zip_fst {α β : Type} : ∀ {as : List α} {bs : List β}, as.length = bs.length → (as.zip bs).map (·.1) = as
  | [], [], _ => rfl
  | a :: as, b :: bs, h => congrArg (a :: ·) (zip_fst (by simpa using h))
theorem zip_snd {α β : Type} : ∀ {as : List α} {bs : List β}, as.length = bs.length → (as.zip bs).map (·.2) = bs
  | [], [], _ => rfl
  | a :: as, b :: bs, h => congrArg (b :: ·) (zip_snd (by simpa using h))
theorem reps_snoc {G : Gx} {B : Addr → Prop} {l : List D} {vs : List V} {d : D} {v : V} (h : reps G B H l vs) (hd : rep G B H d v) : reps G B H (l ++ [d]) (vs ++ [v]) := reps_app h ⟨v, [], rfl, hd, rfl⟩
/-- sorted(l, key=f) of a list l -/
theorem sortKey_run {G : Gx} {B : Addr → Prop} {H0 : Hp} {need : List (Addr × Obj)} {l q : Addr} {ds ks : List D} {vs : List V} {kf : D → R D} {Q : VK} (g : Gxx G X) (hu : X.A.units + 200 < cLine) (I : Inv X (need ++ pins) σ H s) (s0 : Same G H0 H) (dm : Dom B H) (t : Rd H l (.lst vs)) (r : reps G B H ds vs)
    (KF : KeyR G X B σ H0 need (.ref q) kf) (hm : mapR kf ds = .ok ks) (ok : sortOk ks = true)
    (p : PostV G B H (.ok (.lst (sortByK ks ds))) Q) : wpAny (model X.prog X.w) X.A (call (.builtin "sorted") [.ref l] [(Str.ofString "key", .ref q)]) (EP X pins σ Q) X.xe s := by
  obtain ⟨hf, hal, hk, hd⟩ := sortOk_of ok
  obtain ⟨hz, its, n, rv, hl, e⟩ := rdL I t
  have hl' : s.heap.IsList l its.toArray := ⟨_, e, rfl, n, rfl⟩
  have lz : its.length ≤ sizeLine := by rw [← hl]; exact hz
  have lk : ks.length = ds.length := mapR_len hm
  have lv : vs.length = ds.length := reps_len r
  refine PySem.W.sorted_of_sort hl' lz (ksk_s1 _ _) (fun _ => ksk_l1 _ _) fun E' => ?_
  rw [ksk_t1]
  have I1 : Inv X (need ++ pins) σ H { s with heap := PySem.W.copyHeap s.heap its } := I.kept (t' := s.toks) fun _ _ => PySem.W.copyHeap_old
  have ho := PySem.W.copyHeap_at s.heap its
  have na : NewA X (need ++ pins) (s.heap.objs.size + 1) := inv_new I (Nat.le_succ _)
  have ha : H (s.heap.objs.size + 1) = none := I.hok.fresh (Nat.le_succ _)
  generalize ea : s.heap.objs.size + 1 = a at ho na ha ⊢
  generalize eh : PySem.W.copyHeap s.heap its = g0 at I1 ho ⊢
  have e1 := get?_update_seq ho fun _ => (#[] : Array Value)
  obtain ⟨ep, ho1⟩ : ∃ ep, (g0.update a (Obj.mapSeq fun _ => (#[] : Array Value))).get? a = some (seqObj "list" #[] ep) := ⟨_, e1⟩
  unfold ksk_tree
  refine wpAny_bind (listItems_at ho rfl ?_)
  refine wpAny_bind (listUpdate_at ho rfl ?_ (by rw [List.size_toArray]; exact lz) (Nat.zero_le _))
  refine wpAny_bind (seqEpoch_at ho1 rfl ?_)
  refine wpAny_bind (wpAny_newTuple ?_ (by show its.length ≤ _; exact lz))
  refine wpAny_bind (wpAny_newList ?_ (Nat.zero_le _))
  refine wpAny_holding ?_
  have sb := Heap.SameBut.update g0 a (Obj.mapSeq fun _ => (#[] : Array Value))
  have I2 : Inv X (need ++ pins) σ H { s with heap := g0.update a (Obj.mapSeq fun _ => (#[] : Array Value)) } := inv_turned1 (s := { s with heap := g0 }) (t' := s.toks) I1 na ha fun c o hc ec => (sb.2 c hc).trans ec
  generalize eg : g0.update a (Obj.mapSeq fun _ => (#[] : Array Value)) = g1 at I2 ho1 ⊢
  have I3 : Inv X (need ++ pins) σ H { s with heap := (g1.push (seqObj "tuple" its.toArray 0)).push (seqObj "list" #[] 0) } := I2.kept (t' := s.toks) fun b u q => Heap.get?_push_of_some _ (Heap.get?_push_of_some _ q)
  have hS : ((g1.push (seqObj "tuple" its.toArray 0)).push (seqObj "list" #[] 0)).get? (g1.push (seqObj "tuple" its.toArray 0)).objs.size = some (seqObj "list" #[] 0) := Heap.get?_push_size _ rfl
  have nS : NewA X (need ++ pins) (g1.push (seqObj "tuple" its.toArray 0)).objs.size := by
    have I2' : Inv X (need ++ pins) σ H { s with heap := g1.push (seqObj "tuple" its.toArray 0) } := I2.kept (t' := s.toks) fun b u q => Heap.get?_push_of_some _ q
    exact inv_new I2' (Nat.le_refl _)
  have hSn : H (g1.push (seqObj "tuple" its.toArray 0)).objs.size = none := by
    have I2' : Inv X (need ++ pins) σ H { s with heap := g1.push (seqObj "tuple" its.toArray 0) } := I2.kept (t' := s.toks) fun b u q => Heap.get?_push_of_some _ q
    exact I2'.hok.fresh (Nat.le_refl _)
  have hA3 : ((g1.push (seqObj "tuple" its.toArray 0)).push (seqObj "list" #[] 0)).get? a = some (seqObj "list" #[] ep) := Heap.get?_push_of_some _ (Heap.get?_push_of_some _ ho1)
  have hSa : (g1.push (seqObj "tuple" its.toArray 0)).objs.size ≠ a := by
    have z := Heap.lt_size ho1
    rw [Heap.size_push]
    exact Nat.ne_of_gt (Nat.lt_succ_of_lt z)
  show wpAny (model X.prog X.w) X.A.in1.in1 (ksk_rest a (.ref q) false its.toArray ep (.ref (g1.push (seqObj "tuple" its.toArray 0)).objs.size)) _ _ { s with heap := (g1.push (seqObj "tuple" its.toArray 0)).push (seqObj "list" #[] 0) }
  generalize ekS : (g1.push (seqObj "tuple" its.toArray 0)).objs.size = kS at hS nS hSn hSa ⊢
  generalize eg3 : (g1.push (seqObj "tuple" its.toArray 0)).push (seqObj "list" #[] 0) = g3 at I3 hS hA3 ⊢
  -- the keys, one by one
  unfold ksk_rest
  refine wpAny_bind (wpAny_rule ?_)
  first
    | rw [List.forIn_toArray]
    | (rw [← Array.forIn_toList]; simp only [List.toList_toArray])
    | rw [← Array.forIn_toList]
  refine wpAny_bind (ksk_fold (fun i s' => ∃ (Hi : Hp) (kA : List Value) (kv : List V) (ek : Nat), Inv X ((a, seqObj "list" #[] ep) :: (kS, seqObj "list" kA.toArray ek) :: (need ++ pins)) σ Hi s' ∧ Same G H Hi ∧ Vals kv kA ∧ reps G B Hi (ks.take i) kv) its 0 { s with heap := g3 }
    ⟨H, [], [], 0, ?start, Same.refl H, .nil, by rw [List.take_zero]; rfl⟩ ?step ?done)
  case start =>
    refine I3.pins_of fun p hp => ?_
    rcases List.mem_cons.mp hp with rfl | hp
    · exact ⟨hA3, ha, na.loc, na.fs, fun v z => by cases z⟩
    · rcases List.mem_cons.mp hp with rfl | hp
      · exact ⟨hS, hSn, nS.loc, nS.fs, fun v z => by cases z⟩
      · exact I3.pin p (List.mem_append_right _ hp)
  case step =>
    rintro j u s' hx ⟨Hi, kA, kv, ek, J, sH, rk, hr⟩
    simp only [Nat.zero_add] at hr ⊢
    have hj : j < its.length := (List.getElem?_eq_some_iff.mp hx).1
    obtain ⟨x, ex⟩ : ∃ x, vs[j]? = some x := ⟨_, List.getElem?_eq_getElem (by omega)⟩
    obtain ⟨u', eu, ru⟩ := rv.get ex
    rw [hx] at eu
    cases eu
    obtain ⟨d, ed, hrd⟩ := reps_getV r ex
    obtain ⟨k, ekk, hkf⟩ := mapR_get hm ed
    refine wpAny_bind (wpAny_attempt (wpAny_mono (KF _ s' Hi d k x u (fun p hp => List.mem_cons_of_mem _ (List.mem_cons_of_mem _ (List.mem_append_left _ hp))) J (s0.trans sH) ru (rep_same sH hrd) hkf) (fun v s'' he => ?_) fun _ _ hF => hF.elim))
    obtain ⟨y, Hj, J2, ry, s2, hy⟩ := he
    try dsimp only
    have pS := J2.pin (kS, seqObj "list" kA.toArray ek) (List.mem_append_right _ (.tail _ (.head _)))
    have pA := J2.pin (a, seqObj "list" #[] ep) (List.mem_append_right _ (.head _))
    have lkA : kA.length = j := by
      rw [← rk.length, reps_len hr, List.length_take]
      omega
    have sb2 := Heap.SameBut.update s''.heap kS (Obj.mapSeq (·.push v))
    obtain ⟨c2, hc2⟩ : ∃ c2, (s''.heap.update kS (Obj.mapSeq (·.push v))).get? kS = some (seqObj "list" (kA.toArray.push v) c2) := ⟨_, get?_update_seq pS.1 (·.push v)⟩
    refine wpAny_bind (listUpdate_at pS.1 rfl ?_ (by rw [List.size_toArray]; omega) (Nat.le_trans (Nat.le_of_eq (Array.size_push ..)) (by rw [List.size_toArray]; omega)))
    have J3 : Inv X (need ++ pins) σ Hj s'' := J2.pins_of fun p hp => J2.pin p (List.mem_append_right _ (List.mem_cons_of_mem _ (List.mem_cons_of_mem _ hp)))
    have J4 : Inv X (need ++ pins) σ Hj { s'' with heap := s''.heap.update kS (Obj.mapSeq (·.push v)) } := inv_turned1 (t' := s''.toks) J3 nS pS.2.1 fun c o hc ec => (sb2.2 c hc).trans ec
    have eq : kA.toArray.push v = (kA ++ [v]).toArray := by simp
    have ek : ks.take (j + 1) = ks.take j ++ [k] := by rw [List.take_add_one, ekk]; simp
    refine wpAny_pure ⟨rfl, Hj, kA ++ [v], kv ++ [y], c2, ?_, sH.trans s2, rk.append (.cons ry .nil), ?_⟩
    · refine J4.pins_of fun p hp => ?_
      rcases List.mem_cons.mp hp with rfl | hp
      · exact ⟨(sb2.2 a hSa.symm).trans pA.1, pA.2⟩
      · rcases List.mem_cons.mp hp with rfl | hp
        · exact ⟨by rw [← eq]; exact hc2, pS.2.1, pS.2.2.1, pS.2.2.2.1, fun v z => by cases z⟩
        · exact J4.pin p (List.mem_append_right _ hp)
    · rw [ek]
      exact reps_snoc (reps_same s2 hr) hy
  case done =>
    rintro s' ⟨Hi, kA, kv, ek, J, sH, rk, hr⟩
    have et : ks.take (0 + its.length) = ks := List.take_of_length_le (by omega)
    rw [et] at hr
    have pS := J.pin (kS, seqObj "list" kA.toArray ek) (List.mem_append_right _ (.tail _ (.head _)))
    have pA := J.pin (a, seqObj "list" #[] ep) (List.mem_append_right _ (.head _))
    have J3 : Inv X pins σ Hi s' := J.pins_of fun p hp => J.pin p (List.mem_append_right _ (List.mem_cons_of_mem _ (List.mem_cons_of_mem _ (List.mem_append_right _ hp))))
    have lkA : kA.length = its.length := by
      rw [← rk.length, reps_len hr]
      omega
    have sub : ∀ {c : Addr}, NewA X (need ++ pins) c → NewA X pins c := fun m => ⟨m.sz, m.loc, m.fs, m.cel, fun p hp => m.pin p ((List.mem_append.mp hp).elim (List.mem_append_left _) fun z => List.mem_append_right _ (List.mem_append_right _ z))⟩
    have ekeys : PySem.W.EachIs (fun v d => ∃ as, Reads s'.heap v d as) kA (ks.map D.py) := each_map_r (each_mono_mem (each_of hr rk) fun u d hm ⟨x, r1, h1⟩ => Dp.reads J d.py x u (by rw [g.K]; exact rep_dp (flat_mem hf hm) h1) r1)
    have hb : ∀ d, d ∈ ks.map D.py → X.A.in1.in1.units + d.depth < cLine := fun d hm => by
      obtain ⟨k, hk', rfl⟩ := List.mem_map.mp hm
      have := hd k hk'
      rw [dep_py k (flat_mem hf hk')]
      show X.A.units + 1 + 1 + k.dep < cLine
      omega
    have kp : PySem.W.KeepsBut a (PySem.W.hideAll s'.heap [kS]) s'.heap := fun c o hc e => PySem.W.of_hideAll _ e
    have hh : (PySem.W.hideAll s'.heap [kS]).get? kS = none := PySem.W.hideAll_none _ (.head _)
    refine wpAny_bind (listItems_at pS.1 rfl ?_)
    refine PySem.W.keyH_end (κ := PySem.W.dataKind s'.heap (ks.map D.py)) (h₁ := PySem.W.hideAll s'.heap [kS]) kp hh pS.1 pA.1 hSa (by rw [List.toList_toArray]; exact PySem.W.SortsAt.data (s := s') ekeys hal hk hb) (by rw [List.size_toArray]; exact lkA) lz fun h3 tk3 c k3 n3 => ⟨rfl, ?_⟩
    have out0 : PySem.W.EachIs (fun u (p : D × D) => ∃ x, RelV x u ∧ rep G B Hi p.2 x) its (ks.zip ds) := each_pair (each_of (reps_same sH r) rv) (each_of hr rk) lkA
    have ko : PySem.W.KeyedOut false ((ks.zip ds).map keyPy) its (PySem.W.sortVals (PySem.W.dataKind s'.heap (ks.map D.py)) false kA its) := by
      have em : (ks.zip ds).map keyPy = ks.map D.py := by
        show (ks.zip ds).map (fun p => p.1.py) = _
        have z := congrArg (List.map D.py) (zip_fst (as := ks) (bs := ds) lk)
        rw [List.map_map] at z
        exact z
      rw [em]
      exact ⟨s'.heap, kA, hal, rfl, ekeys⟩
    have oe := PySem.W.keyedOut_each keyPy ko out0
    rw [List.toList_toArray] at n3
    generalize PySem.W.sortVals (PySem.W.dataKind s'.heap (ks.map D.py)) false kA its = out at oe n3
    have oe2 : PySem.W.EachIs (fun u d => ∃ x, RelV x u ∧ rep G B Hi d x) out (sortByK ks ds) := each_map_r oe
    obtain ⟨ws, w1, w2⟩ := of_each oe2
    have hlen : ws.length ≤ sizeLine := by
      rw [reps_len w1]
      unfold sortByK
      rw [List.length_map, (List.mergeSort_perm _ _).length_eq, List.length_zip, lk, Nat.min_self, ← lv]
      exact hz
    have k4 : ∀ c o, c ≠ a → c ≠ kS → s'.heap.get? c = some o → h3.get? c = some o := fun c o h1 h2 e => k3 c o h1 (PySem.W.hideAll_get _ e (by simpa using h2))
    have J4 : Inv X pins σ Hi { s' with heap := h3, toks := tk3 } := inv_turned2 (t' := tk3) J3 (sub na) (sub nS) pA.2.1 pS.2.1 k4
    have J5 : Inv X pins σ (upd Hi a (.lst ws)) { s' with heap := h3, toks := tk3 } := inv_track J4 (sub na) pA.2.1 ⟨hlen, out, c, w2, n3⟩
    exact ⟨.ref a, _, J5, rfl, p (.ref a) _ (sH.trans (Same.upd_new pA.2.1)) ⟨a, ws, rfl, .inl upd_same, (dm.same sH).new pA.2.1, reps_same (Same.upd_new pA.2.1) w1⟩⟩
end
end Ir

/-! Ir9d: sorted(l, key=f), f a def or a lambda. -/
namespace Ir
open PySem L2 PyProof.Rows
section
variable {G : Gx} {M : Nms} {T : Tbl} {N : List Str} {sc : Scope} {lvl : Nat} {W : WX} {X : Cx}
variable {y : Expr} {a b : E} {ta : TE} {pos p0 gp kp lp : Pos} {gn : Str}
theorem nx_lst (d : D) : Nx (lstO d) := by
  unfold lstO
  split <;> first | exact nx_ok | exact nx_stuck
theorem room_in2 {l k : Nat} {A : Around} (r : Room (l + 1) A) (h : k ≤ l) : Room k A.in1.in1 :=
  ⟨r.hd, by have := r.dp; show A.depth + 3 * k + 5 < _; omega, by have := r.un; show A.units + 1 + 1 + 16 * k + 200 < _; omega⟩
theorem room_in2d {l k : Nat} {A : Around} (r : Room (l + 1) A) (h : k ≤ l) (env : Env) : Room k (A.in1.in1.deeper env) :=
  ⟨r.hd, by have := r.dp; show A.depth + 1 + 3 * k + 5 < _; omega, by have := r.un; show A.units + 1 + 1 + 3 + 16 * k + 200 < _; omega⟩
theorem PostV.mono {B : Addr → Prop} {H H' : Hp} {r : R D} {Q : VK} (s : Same G H H') (p : PostV G B H r Q) : PostV G B H' r Q := by
  cases r with
  | ok d => exact fun v H1 s1 x => p v H1 (s.trans s1) x
  | stuck => exact p
  | exc c fs => exact p
/-- the list, its keys -/
def SortS (G : Gx) (B : Addr → Prop) (H : Hp) (x : V) (kf : D → R D) (Q : VK) : Prop := ∃ (l : Addr) (ds ks : List D) (vs : List V), x = .ref l ∧ Dom B H ∧ Rd H l (.lst vs) ∧ reps G B H ds vs ∧ mapR kf ds = .ok ks ∧ sortOk ks = true ∧ PostV G B H (.ok (.lst (sortByK ks ds))) Q
theorem kwk : ∀ {k : Expr} {env : Env} {pos kp : Pos}, (backToKw pos (keywordEach [⟨some ("key" : Str), k, kp⟩] env)).filterMap (·.1) = [Str.ofString "key"] := rfl
/-- sorted(y, key=k): the list, then the key, then the sort -/
theorem sort_call (c : Cxk G M N sc lvl W X) (F : Facts G M T lvl) (hg : glB sc "sorted" = true) (ns : noSt y = true) (ha : PE X y ta) {kx : Expr} {pins : List (Addr × Obj)} {s : Shared} {σ : L2.St} {H : Hp} {Q : Value → Shared → Prop} {P : V → Hp → Prop} (I : L2.Inv X pins σ H s) (h : ta σ H P)
    (k : ∀ x H1, P x H1 → ∀ s1, L2.Inv X pins σ H1 s1 → ∀ u, RelV x u → wpAny (model X.prog X.w) X.A (eval kx X.env) (fun kv s2 => wpAny (model X.prog X.w) X.A (call (.builtin "sorted") [u] [(Str.ofString "key", kv)]) Q X.xe s2) X.xe s1) :
    wpAny (model X.prog X.w) X.A (eval (.Call (.Name "sorted" p0) [y] [⟨some "key", kx, kp⟩] pos) X.env) Q X.xe s := by
  have hm : X.mg "sorted" = none := by rw [c.gx.mg]; exact F.blt _ (by decide)
  refine wpAny_Call_Name_kw (ld_blt I (gl_of hg c.sc) hm PyProof.Rows.boot_sorted ?_ (by decide) (by decide))
  have st := noSt_is ns [] X.env
  refine PyProof.Rows.callWith_kw (thn ((pa_cons ha pa_nil st).run pos pins s σ H (fun xs H1 => match xs with
    | [x] => P x H1
    | _ => False) I h) fun us s1 ⟨xs, H1, I1, r1, q⟩ => ?_) (by rw [st]; rfl) (by rw [st]; rfl)
  match xs, q, r1 with
  | [x], q, r1 =>
    obtain ⟨u, rfl, ru⟩ := vals1 r1
    refine PyProof.Rows.kws_cons (wpAny_mono (k x H1 q s1 I1 u ru) (fun kv s2 h2 => ?_) fun _ _ z => z)
    exact PyProof.Rows.kws_nil h2
/-- a def as a key -/
theorem keyR_fn (c : Cxk G M N sc lvl W X) (hk : M.key = some sc) {f : Nat} {B : Addr → Prop} {σ : L2.St} {H0 : Hp} (dm : Dom B H0) (tb : Tbs G H0) {ad : Addr} {k : Nat} {fd : FuncData} {ps : List Str} {sp : Sp} {ds : List Value} {dvs : List V}
    (hk' : k ≤ lvl) (ok : FnOk G.P G.w G.K G.mg G.base (L2.CX G.P G.w) k ad fd ps sp) (bi : Binds G.K fd ps ds) (vs : Vals dvs ds) {F : List D → R D}
    (pr : ∀ B args H vs Q E, args.length = 1 → Dom B H → Tbs G H → reps G B H args vs → PostG G (fun H => rep G B H) H (F args) Q E → sp (vs ++ dvs) H Q E) : KeyR G X B σ H0 [] (.ref ad) fun d => F [d] := by
  intro pins s H d k2 x u _ I s0 ru hd hkk
  have e := nox_ok hkk
  have q := pr B [d] H [x] (fun v H' => Same G H H' ∧ rep G B H' k2 v) (fun _ _ _ => False) rfl (dm.same s0) (tb.same s0) ⟨x, [], rfl, hd, rfl⟩ (by
    have e : F [d] = .ok k2 := e
    rw [e]
    exact fun v H' s h => ⟨s, h⟩)
  rw [← c.gx.prog, ← c.gx.w, ← c.gx.K, ← c.gx.mg, ← c.gx.base] at ok
  rw [← c.gx.K] at bi
  have r2 : Vals ([x] ++ dvs) ([u] ++ ds) := Vals.append (.cons ru .nil) vs
  have hl : ([u] ++ ds).length = ps.length := by rw [← r2.length]; exact ok.len _ _ _ _ q
  have room : Room k X.A.in1.in1 := room_in2 (c.rk (by rw [c.sc]; exact hk)) hk'
  refine wpAny_call (codeAny_mono (ok.run X.A.in1.in1 X.stack s H ⟨[u], []⟩ ([u] ++ ds) ([x] ++ dvs) _ _ room I.env0.in1.in1 (bi s [u] I.kIn hl) r2 q) fun r s' hq => ?_)
  cases r with
  | error e =>
    obtain ⟨_, _, _, _, _, _, _, _, _, _, _, _, z⟩ := hq
    exact z
  | ok fl =>
    cases fl with
    | ret u => exact I.after hq
    | next => exact False.elim hq
    | brk => exact False.elim hq
    | cont => exact False.elim hq
theorem sortF_of {f : Nat} {B : Addr → Prop} {H : Hp} {dx : D} {v : V} {Q : VK} {E : XK} (dm : Dom B H) (h : repT G B H dx v) (p : PostG G (fun H => rep G B H) H ((lstO dx).bind fun l => (mapR (fun d => T.fn f [d]) l).bind fun ks => sortK ks l) Q E) : SortS G B H v (fun d => T.fn f [d]) Q := by
  obtain ⟨l, e1, p1⟩ := PostR.pure (nx_lst dx) p
  obtain ⟨ks, e2, p2⟩ := PostR.pure (nx_mapR l) p1
  obtain ⟨cc, p3⟩ := PostR.iff p2
  cases dx with
  | lst m =>
    cases e1
    obtain ⟨a, vs, rfl, t, r⟩ := h
    exact ⟨a, l, ks, vs, rfl, dm, t, r, e2, cc, p3⟩
  | _ => cases e1
theorem se_sortF (c : Cxk G M N sc lvl W X) (F : Facts G M T lvl) {f : Nat} (hg : glB sc "sorted" = true) (h1 : M.fn.lookup f = some gn) (hg2 : glB sc gn = true) (hn : okNm gn = true) (h0 : (f, 1) ∈ M.ar) (hk : M.key = some sc) (ns : noSt y = true) (ha : SE G T X W y a ta) :
    ∃ te, SE G T X W (.Call (.Name "sorted" p0) [y] [⟨some "key", .Name gn gp, kp⟩] pos) (.sortF f a) te := by
  obtain ⟨ad, k, fd, ps, sp, ds, dvs, hk', ok, hm, kpp, bi, vs, pr⟩ := F.fn f gn 1 h1 h0
  refine ⟨fun σ H Q => ta σ H fun x H1 => ∃ B, Tbs G H1 ∧ SortS G B H1 x (fun d => T.fn f [d]) Q, SE.of rfl rfl ⟨fun pins s σ H Q I h => ?_⟩ fun B H0 ρ σ H Q r p => ?_⟩
  · have key : ∀ x H1, (∃ B, Tbs G H1 ∧ SortS G B H1 x (fun d => T.fn f [d]) Q) → ∀ s1, L2.Inv X pins σ H1 s1 → ∀ u, RelV x u → wpAny (model X.prog X.w) X.A (eval (.Name gn gp) X.env) (fun kv s2 => wpAny (model X.prog X.w) X.A (call (.builtin "sorted") [u] [(Str.ofString "key", kv)]) (EP X pins σ Q) X.xe s2) X.xe s1 := by
      intro x H1 hx s1 I1 u ru
      obtain ⟨B, tb, l, dl, ks, vl, rfl, dm, t, r, em, so, p⟩ := hx
      cases ru
      have pn : PE X (.Name gn gp) (tC (.ref ad)) := pe_glob (gl_of hg2 c.sc) (by rw [c.gx.mg]; exact hm) rfl (okNm_of hn).1
      refine thn (pn.run pins s1 σ H1 (fun v H2 => v = .ref ad ∧ H2 = H1) I1 ⟨rfl, rfl⟩) fun kv s2 ⟨v, H2, I2, rv, ev, eH⟩ => ?_
      subst ev eH
      cases rv
      exact sortKey_run (need := []) c.gx c.hu I2 (Same.refl _) dm t r (keyR_fn c hk (f := f) dm tb hk' ok bi vs pr) em so p
    exact sort_call c F hg ns ha.pe I h key
  · have p : PostG G (fun H => rep G (Blk B ρ σ) H) H ((evP T a ρ).bind fun x => (lstO x).bind fun l => (mapR (fun d => T.fn f [d]) l).bind fun ks => sortK ks l) Q (WE W σ) := p
    exact ha.pk B H0 ρ σ H _ r (PostR.bnd p fun dx vx H1 s1 h1 p1 => ⟨_, (r.mono s1).tab, sortF_of (r.mono s1).bdom h1 p1⟩)
end
end Ir

/-! Ir9e: a lambda of one parameter as a key. -/
namespace Ir
open PySem L2 PyProof.Rows LamX
section
variable {X : Cx} {pins : List (Addr × Obj)} {σ : L2.St} {H : Hp} {s : Shared}
/-- what the making of a lambda leaves of the heap -/
def LamH (H H1 : Hp) (P c' : Addr) (q : Str) : Prop := H1 = H ∨ ∃ ps more, H P = some (.tbl ps) ∧ H c' = none ∧ H1 = upd (upd H P (.tbl (ps ++ more))) c' (CodeO c' q)
theorem lam_make3 {c P : Addr} {params : Arguments} {body : Expr} {scope : Scope} {pos : Pos} {E : Value → Shared → Prop} {Q : Value → Shared → Prop} (I : L2.Inv X pins σ H s) (TB : TabB X.base X.mg c P) (hcode : X.env.code = .ref c)
    (hT : TabS H P (X.env.qual ++ "<lambda>")) (hdef : defaultsOf params X.env = ([], [])) (hfree : ∀ y ∈ scope.names, y.2 = .free → ∃ c, X.env.cells.lookup y.1 = some c)
    (h : ∀ (f c' : Addr) (pm ctv : Value) (H1 : Hp) (s' : Shared), L2.Inv X pins σ H1 s' → LamH H H1 P c' (X.env.qual ++ "<lambda>") → TabS H1 P (X.env.qual ++ "<lambda>") →
      s'.heap.get? f = some (PySem.W.kla_obj "<lambda>" (X.env.qual ++ "<lambda>") params body scope (cloFrom X.env.cells scope.names []) pm c' ctv) → NewA X pins f → H1 f = none → H1 c' = some (CodeO c' (X.env.qual ++ "<lambda>")) → Q (.ref f) s') :
    wpAny (model X.prog X.w) X.A (eval (.Lambda params body scope pos) X.env) Q E s := by
  obtain ⟨ps, hP, ht, ha⟩ := hT
  refine PySem.W.kla_eval hdef ?_
  have bP : s.heap.BuiltinsAt X.mg P := TB.bm.keeps I.bk
  have hP' : s.heap.get? P = some { cls := .none, data := .fields ps } := I.hok P _ hP
  cases hc : codeAmong pos ps.toList with
  | none =>
    refine PySem.W.kla_makeFunction (mg := X.mg) (c := c) (P := P) (ps := ps) (closure_ok hfree) I.ok.glob (I.mod.glob.keeps I.bk) hcode (TB.code.keeps I.bk) hP' ht hc TB.gP bP fun c' ctv h' tk hx hge hlt hrec htb => ?_
    obtain ⟨c2, oc, vs, t, e2, hoc, hd, hv⟩ := hrec
    cases e2
    have hsz : s.heap.objs.size ≤ h'.objs.size := Nat.le_trans hge (Nat.le_of_lt hlt)
    have nC : H c' = none := I.hok.fresh hge
    have I1 := inv_table (t' := tk) (more := #[rawInt pos.line, rawInt pos.col, .ref c']) (h' := h'.push (PySem.W.kla_obj "<lambda>" (X.env.qual ++ "<lambda>") params body scope (cloFrom X.env.cells scope.names []) ((X.mg "__name__").getD .none) c' ctv)) I hP
      (fun b o hb e => Heap.get?_push_of_some _ (hx b o hb e)) (Heap.get?_push_of_some _ htb) hge ⟨oc, vs, t, Heap.get?_push_of_some _ hoc, hd, hv⟩
    have n1 : h'.objs.size ≠ c' := Nat.ne_of_gt hlt
    have n2 : h'.objs.size ≠ P := Nat.ne_of_gt (Nat.lt_of_lt_of_le (Heap.lt_size hP') hsz)
    have eL : (ps ++ #[rawInt pos.line, rawInt pos.col, .ref c']).toList = ps.toList ++ [rawInt pos.line, rawInt pos.col, .ref c'] := by simp
    refine h h'.objs.size c' ((X.mg "__name__").getD .none) ctv _ _ I1 (.inr ⟨ps, _, hP, nC, rfl⟩) ?_ (Heap.get?_push_size _ rfl) (inv_new I hsz) ?_ upd_same
    · refine ⟨_, by rw [upd_ne (ne_of_none hP nC), upd_same], by rw [eL]; exact PySem.TriplesOk_snoc _ _ _ _ ht, fun p' cv hcv => ?_⟩
      rw [eL] at hcv
      rcases among_app _ ht hcv with z | z
      · obtain ⟨c0, e1, e2⟩ := ha p' cv z
        refine ⟨c0, e1, ?_⟩
        rw [upd_ne (ne_of_none e2 nC), upd_ne fun z => codeO_ne ps (Option.some.inj (e2.symm.trans (by rw [z]; exact hP)))]
        exact e2
      · exact ⟨c', z, upd_same⟩
    · rw [upd_ne n1, upd_ne n2]
      exact I.hok.fresh hsz
  | some cv =>
    obtain ⟨c', e, hco⟩ := ha pos cv hc
    subst e
    refine PySem.W.kla_makeFunctionHit (mg := X.mg) (c := c) (P := P) (ps := ps) (closure_ok hfree) I.ok.glob (I.mod.glob.keeps I.bk) hcode (TB.code.keeps I.bk) hP' ht hc bP fun ctv h' tk hx hsz => ?_
    have I1 : L2.Inv X pins σ H { s with heap := h'.push (PySem.W.kla_obj "<lambda>" (X.env.qual ++ "<lambda>") params body scope (cloFrom X.env.cells scope.names []) ((X.mg "__name__").getD .none) c' ctv), toks := tk } := I.kept fun b o e => Heap.get?_push_of_some _ (hx b o e)
    exact h h'.objs.size c' ((X.mg "__name__").getD .none) ctv H _ I1 (.inl rfl) ⟨ps, hP, ht, ha⟩ (Heap.get?_push_size _ rfl) (inv_new I hsz) (I.hok.fresh hsz) hco
theorem LamH.same {G : Gx} {H1 : Hp} {P c' : Addr} {q : Str} (h : LamH H H1 P c' q) (hu : ∀ p ∈ G.tb, p.1 = P → p.2 = q) (t : TabS H1 P q) : Same G H H1 := by
  rcases h with rfl | ⟨ps, more, hP, nC, rfl⟩
  · exact Same.refl _
  · have at_ : ∀ b o, H b = some o → b ≠ P → upd (upd H P (.tbl (ps ++ more))) c' (CodeO c' q) b = some o := fun b o e n => by
      rw [upd_ne (ne_of_none e nC), upd_ne n]
      exact e
    refine ⟨fun b o e n => at_ b o e fun z => n ps (Option.some.inj (e.symm.trans (by rw [z]; exact hP))), fun b ps' e => ?_, fun p hp tp => ?_⟩
    · by_cases hb : b = P
      · subst hb
        exact ⟨ps ++ more, by rw [upd_ne (ne_of_none hP nC), upd_same]⟩
      · exact ⟨ps', at_ b _ e hb⟩
    · by_cases hb : p.1 = P
      · rw [hu p hp hb, hb]
        exact t
      · obtain ⟨ps', a1, a2, a3⟩ := tp
        refine ⟨ps', at_ _ _ a1 hb, a2, fun p' cv hcv => ?_⟩
        obtain ⟨c0, e1, e2⟩ := a3 p' cv hcv
        exact ⟨c0, e1, at_ _ _ e2 fun z => codeO_ne ps (Option.some.inj (e2.symm.trans (by rw [z]; exact hP)))⟩
/-! ### the lambda's frame -/
structure Lam1 (sc s2 : Scope) (p : Str) : Prop where
  kind : s2.kind = .function
  co : s2.isCoroutine = false
  gen : s2.isGenerator = false
  ne : s2 ≠ sc
  par : s2.names.lookup p = some .local
  own : ∀ y ∈ s2.names, y.2 = .local → y.1 = p
  cel : ∀ y ∈ s2.names, y.2 ≠ .cell
  free : ∀ y ∈ s2.names, y.2 = .free → sc.names.lookup y.1 = some .cell ∨ sc.names.lookup y.1 = some .free
theorem lam1_by {sc s2 : Scope} {p : Str} (h : lamB sc s2 p = true) : Lam1 sc s2 p := by
  unfold lamB at h
  simp only [Bool.and_eq_true, Bool.or_eq_true, Bool.not_eq_true', decide_eq_true_eq, decide_eq_false_iff_not, List.all_eq_true] at h
  obtain ⟨⟨⟨⟨⟨h1, h2⟩, h3⟩, h4⟩, h5⟩, h6⟩ := h
  refine ⟨h1, h2, h3, h4, h5, fun y hy e => ?_, fun y hy => (h6 y hy).1.2, fun y hy e => ?_⟩
  · rcases (h6 y hy).1.1 with z | z
    · exact absurd e z
    · exact z
  · rcases (h6 y hy).2 with (z | z) | z
    · exact absurd e z
    · exact .inl z
    · exact .inr z
theorem Lam1.has {s2 : Scope} {p : Str} (L : Lam1 X.env.scope s2 p) (ok : X.Ok) : ∀ y ∈ s2.names, y.2 = .free → ∃ c, X.env.cells.lookup y.1 = some c := fun y hy e => by
  rcases L.free y hy e with k | k
  · exact ok.has _ (.inl k)
  · exact ok.has _ (.inr k)
theorem lam1_start {A : Around} {outer : List Env} {E : XK} {s2 : Scope} {f c' : Addr} {h₁ : Heap} {tk : Nat} {p : Str} {x : V} {u : Value} {i : Nat} (I : L2.Inv X pins σ H s) (L : Lam1 X.env.scope s2 p) (e0 : Env0 X.prog X.w X.K X.mg X.base A outer s H) (hd : A.handled = none)
    (hns : h₁.Ns s.heap.objs.size fun y => ([(p, u)] : List (Str × Value)).reverse.lookup y) (kp : ∀ b o, s.heap.get? b = some o → h₁.get? b = some o) (nd : X.N.Nodup) (hN : X.N[i]? = some p) (ru : RelV x u) :
    L2.Inv (lamCx X A outer s H E s2 f c') [] (σ.set i (some x)) H { s with heap := h₁, toks := tk } := by
  have hfree := L.has I.ok
  have cm : ∀ {y c}, (cloFrom X.env.cells s2.names []).lookup y = some c → X.env.cells.lookup y = some c := fun {y c} e => by
    rcases cloFrom_mem (PySem.mem_of_lookup e) with hm | ⟨h1, h2⟩
    · cases hm
    · obtain ⟨c1, hc⟩ := hfree _ h1 rfl
      have hc : X.env.cells.lookup y = some c1 := hc
      have e2 : c = c1 := by
        rw [h2, hc] <;> rfl
      rw [e2]
      exact hc
  have look : ∀ {y}, s2.names.lookup y = some .free → ∃ c, (cloFrom X.env.cells s2.names []).lookup y = some c := fun {y} hl => by
    have hy : (y, NameKind.free) ∈ s2.names := PySem.mem_of_lookup hl
    exact mem_lookup (cloFrom_has (cells := X.env.cells) (acc := []) hy)
  have cellK : ∀ {c : Addr} {v : Option Value}, s.heap.IsCell c v → h₁.IsCell c v := fun {c v} ⟨o, ho, hd⟩ => ⟨_, kp _ _ ho, hd⟩
  have noA : ∀ b : Addr, b ∉ (lamCx X A outer s H E s2 f c').ex := fun b z => absurd (show b ∈ ([] : List Addr) from z) (by simp)
  have hi : i < σ.length := by
    rw [I.len]
    exact (List.getElem?_eq_some_iff.mp hN).1
  refine ⟨⟨e0.mod, L.kind, rfl, rfl, Nat.le_refl _, fun y z c e1 e2 => I.ok.inj y z c (cm e1) (cm e2), fun y hy => ?_, fun y c z _ => ?_, fun _ => hd, Around.frames_deeper e0.frames, .inr ⟨rfl, rfl⟩, fun b z => absurd z (noA b), e0.bs, e0.bsz, fun b _ _ => noA b,
      fun b z => absurd z (noA b), e0.funs, e0.frf⟩,
    rfl, e0.bare, Un.kept kp, ⟨_, hns, fun j y v e1 e2 e3 => ?_⟩, fun y c e => ?_, e0.hok.fresh (Nat.le_refl _), fun y c e => ?_, fun q hq => absurd (show q ∈ ([] : List (Addr × Obj)) ++ [] from hq) (by simp), e0.hok.kept kp, by rw [List.length_set]; exact I.len⟩
  · have hy : s2.names.lookup y = some .cell ∨ s2.names.lookup y = some .free := hy
    rcases hy with hy | hy
    · exact absurd rfl (L.cel _ (PySem.mem_of_lookup hy))
    · exact look hy
  · have z : false = true := z
    cases z
  · have e3 : Vis s2 y := e3
    have e1 : X.N[j]? = some y := e1
    by_cases hj : i = j
    · subst hj
      rw [hN] at e1
      cases e1
      rw [List.getElem?_set_self hi] at e2
      cases e2
      refine ⟨u, ru, .inl ⟨L.par, ?_⟩⟩
      simp
    · rw [List.getElem?_set_ne hj] at e2
      have hyp : y ≠ p := fun z => hj (nodup_ix nd (z ▸ hN) e1 |>.trans rfl)
      rcases e3 with k | k | k
      · exact absurd (L.own _ (PySem.mem_of_lookup k) rfl) hyp
      · exact absurd rfl (L.cel _ (PySem.mem_of_lookup k))
      · obtain ⟨m, hn, hl⟩ := I.loc
        have hvis : Vis X.env.scope y := (L.free _ (PySem.mem_of_lookup k) rfl).elim (fun k => .inr (.inl k)) (fun k => .inr (.inr k))
        obtain ⟨w', r, q⟩ := hl j y v e1 e2 hvis
        obtain ⟨c2, h2⟩ := look k
        refine ⟨w', r, .inr ⟨.inr k, c2, h2, ?_⟩⟩
        have c1 := cm h2
        rcases q with ⟨k', _⟩ | ⟨_, c3, e', z⟩
        · have k' : X.env.scope.names.lookup y = some .local := k'
          rcases L.free _ (PySem.mem_of_lookup k) rfl with k2 | k2 <;> rw [show X.env.scope.names.lookup y = _ from k2] at k' <;> cases k'
        · rw [c1] at e'
          cases e'
          exact cellK z
  · obtain ⟨w', z⟩ := I.cell y c (cm e)
    exact ⟨w', cellK z⟩
  · exact I.freeC y c (cm e)
theorem bind_lam1 {q : Str} {ps : Arguments} {p : Str} {body : Expr} {scope : Scope} {cl : List (Str × Addr)} {pm cv ctv u : Value} (h : lam1 ps = some p) : bindArgs (PySem.W.kla_fn "<lambda>" q ps body scope cl pm cv ctv) ⟨[u], []⟩ = pure [(p, u)] := by
  unfold lam1 at h
  split at h
  · cases h
    unfold bindArgs
    simp [PySem.W.kla_fn, seqItems?]
    rfl
  · cases h
theorem def_lam1 {ps : Arguments} {p : Str} (h : lam1 ps = some p) (env : Env) : defaultsOf ps env = ([], []) := by
  unfold lam1 at h
  split at h
  · rfl
  · cases h
end
section
variable {G : Gx} {M : Nms} {T : Tbl} {N : List Str} {sc : Scope} {lvl : Nat} {W : WX} {X : Cx}
variable {y bd : Expr} {a b : E} {ta : TE} {pos p0 kp lp : Pos} {s2 : Scope} {p : Str} {ps : Arguments} {i : Nat}
theorem Cxk.lamc (c : Cxk G M N sc lvl W X) (L : Lam1 sc s2 p) (hk : M.key = some sc) (hl : M.lam = some sc) {A : Around} {outer : List Env} {s : Shared} {H : Hp} {f c' : Addr} (hr : Room lvl (A.deeper (lamEnv X s2 s.heap.objs.size f c'))) :
    Cxk G M N s2 lvl (fun _ _ _ _ => False) (lamCx X A outer s H (fun _ _ _ => False) s2 f c') :=
  ⟨⟨c.gx.prog, c.gx.w, c.gx.K, c.gx.mg, c.gx.base⟩, c.nd, c.hN, rfl, fun _ => rfl, fun _ => hr, by have := hr.un; show (A.deeper (lamEnv X s2 s.heap.objs.size f c')).units + 200 < cLine; omega, LamX.takes0, fun z => (L.ne (Option.some.inj (hk.symm.trans z)).symm).elim, fun z => (L.ne (Option.some.inj (hl.symm.trans z)).symm).elim⟩
theorem blk_putI {B : Addr → Prop} {ρ : Sl} {σ : L2.St} {d : D} {v : V} (no : noOwn ρ [i] = true) : ∀ a, Blk B ρ σ a → Blk B (putI ρ i d) (σ.set i (some v)) a := fun a z => by
  rcases z with z | ⟨j, x, e, e1, w, e2⟩
  · exact .inl z
  · have ne : i ≠ j := fun z => noOwn_at no (List.mem_singleton.mpr z.symm) w e1
    refine .inr ⟨j, x, e, ?_, w, ?_⟩
    · unfold putI
      rw [List.getElem?_set_ne ne]
      exact e1
    · rw [List.getElem?_set_ne ne]
      exact e2
/-- a lambda as a key -/
theorem keyR_lam (c : Cxk G M N sc lvl W X) (L : Lam1 sc s2 p) (hk : M.key = some sc) (hlm : M.lam = some sc) (hp : lam1 ps = some p) (hN : N[i]? = some p) {B : Addr → Prop} {ρ : Sl} {σ : L2.St} {H0 H1 : Hp} {f c' : Addr} {pm ctv : Value} (r : RelS G B H0 ρ σ H1)
    (hi : i < ρ.length) (no : noOwn ρ [i] = true) (hc : H1 c' = some (CodeO c' (X.env.qual ++ "<lambda>")))
    (hb : ∀ (A : Around) (outer : List Env) (s : Shared) (H : Hp), Room lvl (A.deeper (lamEnv X s2 s.heap.objs.size f c')) → ∃ te, SE G T (lamCx X A outer s H (fun _ _ _ => False) s2 f c') (fun _ _ _ _ => False) bd b te) :
    KeyR G X (Blk B ρ σ) σ H1 [(f, PySem.W.kla_obj "<lambda>" (X.env.qual ++ "<lambda>") ps bd s2 (cloFrom X.env.cells s2.names []) pm c' ctv)] (.ref f) fun d => imO b (putI ρ i d) (evP T b (putI ρ i d)) := by
  intro pins s H d k x u hn I s0 ru hd hkk
  have e := nox_ok hkk
  have of1 := (I.pin _ (List.mem_append_right _ (hn _ (.head _)))).1
  have hc2 := s0.ext c' _ hc codeO_ne
  obtain ⟨⟨oc, vs, t, hoc, hdc, hvc⟩, _, _⟩ := I.hok c' _ hc2
  have room := c.rk (by rw [c.sc]; exact hk)
  have rd : Room lvl (X.A.in1.in1.deeper (lamEnv X s2 s.heap.objs.size f c')) := room_in2d room (Nat.le_refl _) _
  have r2 : RelS G B H0 (putI ρ i d) (σ.set i (some x)) H := (r.mono s0).putI hi hd
  obtain ⟨te, he⟩ := hb X.A.in1.in1 X.stack s H rd
  have rn : codeAny (model X.prog X.w) X.A.in1.in1 (.call (.ref f) ⟨[u], []⟩) (CR (L2.CX X.prog X.w) X.stack X.prog X.w H s (fun v H' => Same G H H' ∧ rep G (Blk B ρ σ) H' k v) (fun _ _ _ => False)) s := by
    refine PySem.W.kla_callFunE (room_in2 room (Nat.le_refl _)).depth of1 rfl L.co L.gen rfl ⟨c', oc, vs, t, rfl, hoc, hdc, hvc⟩ ?_
    rw [bind_lam1 hp]
    refine wpAny_pure (wpAny_newFunctionEnv (fun y hy => L.cel y hy) (fun y hy => ?_) (fun h₁ hns hsb => ⟨I.nolimit.fresh _ hsb, ?_⟩) L.kind)
    · rw [List.mem_singleton.mp hy]
      exact L.par
    · show codeAny _ _ (.expr bd (lamEnv X s2 s.heap.objs.size f c')) _ _
      have kp : ∀ b o, s.heap.get? b = some o → h₁.get? b = some o := fun b o e => hsb.extBut b o (Nat.ne_of_lt (Heap.lt_size e)) (Heap.get?_push_of_some _ e)
      have J : L2.Inv (lamCx X X.A.in1.in1 X.stack s H (fun _ _ _ => False) s2 f c') [] (σ.set i (some x)) H { s with heap := h₁, toks := s.toks + ([(p, u)] : List (Str × Value)).length } :=
        lam1_start I (by rw [c.sc]; exact L) I.env0.in1.in1 room.hd hns kp (by rw [c.hN]; exact c.nd) (by rw [c.hN]; exact hN) ru
      refine PySem.W.kla_codeExpr (wpAny_mono (he.pe.run [] _ _ H (fun v H' => Same G H H' ∧ rep G (Blk B ρ σ) H' k v) J (he.im B H0 _ _ H _ r2 ?_)) (fun v s' hq => ?_) fun e s' hq => hq)
      · have e : ev T b (putI ρ i d) = .ok k := e
        rw [e]
        exact fun v H' s1 h => ⟨s1, rep_anti (blk_putI no) h⟩
      · obtain ⟨w', H', J', rv, q⟩ := hq
        exact ⟨w', H', J'.os, J'.bare, J'.base, J'.hok, rv, q⟩
  refine wpAny_call (codeAny_mono rn fun r s' hq => ?_)
  cases r with
  | error e =>
    obtain ⟨_, _, _, _, _, _, _, _, _, _, _, _, z⟩ := hq
    exact z
  | ok fl =>
    cases fl with
    | ret u => exact I.after hq
    | next => exact False.elim hq
    | brk => exact False.elim hq
    | cont => exact False.elim hq
theorem se_sortL (c : Cxk G M N sc lvl W X) (F : Facts G M T lvl) (hg : glB sc "sorted" = true) (hlm : M.lam = some sc) (hk : M.key = some sc) (hp : lam1 ps = some p) (hN : N[i]? = some p) (hL : lamB sc s2 p = true) (ns : noSt y = true) (ha : SE G T X W y a ta)
    (hb : ∀ (A : Around) (outer : List Env) (s : Shared) (H : Hp) (f c' : Addr), Room lvl (A.deeper (lamEnv X s2 s.heap.objs.size f c')) → ∃ te, SE G T (lamCx X A outer s H (fun _ _ _ => False) s2 f c') (fun _ _ _ _ => False) bd b te) :
    ∃ te, SE G T X W (.Call (.Name "sorted" p0) [y] [⟨some "key", .Lambda ps bd s2 lp, kp⟩] pos) (.sortL i b a) te := by
  have L := lam1_by hL
  refine ⟨fun σ H Q => ta σ H fun x H1 => ∃ B H0 ρ, RelS G B H0 ρ σ H1 ∧ i < ρ.length ∧ noOwn ρ [i] = true ∧ SortS G (Blk B ρ σ) H1 x (fun d => imO b (putI ρ i d) (evP T b (putI ρ i d))) Q, SE.of rfl rfl ⟨fun pins s σ H Q I h => ?_⟩ fun B H0 ρ σ H Q r p => ?_⟩
  · refine sort_call c F hg ns ha.pe I h ?_
    intro x H1 hx s1 I1 u ru
    obtain ⟨B, H0, ρ, r, hi, no, l, dl, ks, vl, rfl, dm, t, rr, em, so, pp⟩ := hx
    cases ru
    obtain ⟨cc, P, hcode, TB, hmem, hu⟩ := c.lam (by rw [c.sc]; exact hlm)
    refine lam_make3 I1 TB hcode (r.tab _ hmem) (def_lam1 hp _) (Lam1.has (p := p) (by rw [c.sc]; exact L) I1.ok) fun f c' pm ctv H2 s2' I2 hH tS hf nf hfn hco => ?_
    have sm : Same G H1 H2 := hH.same hu tS
    have I3 : L2.Inv X ([(f, PySem.W.kla_obj "<lambda>" (X.env.qual ++ "<lambda>") ps bd s2 (cloFrom X.env.cells s2.names []) pm c' ctv)] ++ pins) σ H2 s2' := I2.pins_of fun q hq => by
      rcases List.mem_append.mp hq with hq | hq
      · rw [List.mem_singleton.mp hq]
        exact ⟨hf, hfn, nf.loc, nf.fs, fun v z => by cases z⟩
      · exact I2.pin q (List.mem_append_right _ hq)
    refine sortKey_run c.gx c.hu I3 (Same.refl _) (dm.same sm) ?_ (reps_same sm rr) (keyR_lam c L hk hlm hp hN (r.mono sm) hi no hco fun A outer s H hr => hb A outer s H f c' hr) em so (pp.mono sm)
    exact Rd.keep (B := fun _ => False) (Keep.of sm) t fun z => z
  · have p : PostG G (fun H => rep G (Blk B ρ σ) H) H ((evP T a ρ).bind fun x => (lstO x).bind fun l => .iff (decide (i < ρ.length) && noOwn ρ [i]) ((mapR (fun d => imO b (putI ρ i d) (evP T b (putI ρ i d))) l).bind fun ks => sortK ks l)) Q (WE W σ) := p
    refine ha.pk B H0 ρ σ H _ r (PostR.bnd p fun dx vx H1 s1 h1 p1 => ?_)
    obtain ⟨l, e1, p2⟩ := PostR.pure (nx_lst dx) p1
    obtain ⟨c1, p3⟩ := PostR.iff p2
    rw [Bool.and_eq_true] at c1
    obtain ⟨ks, e2, p4⟩ := PostR.pure (nx_mapR l) p3
    obtain ⟨cc, p5⟩ := PostR.iff p4
    cases dx with
    | lst m =>
      cases e1
      obtain ⟨ad, vs, rfl, t, rr⟩ := h1
      exact ⟨B, H0, ρ, r.mono s1, of_decide_eq_true c1.1, c1.2, ad, l, ks, vs, rfl, (r.mono s1).bdom, t, rr, e2, cc, p5⟩
    | _ => cases e1
end
end Ir

/-! Ir9g: sorted(set(list)), max and min with a default, list(reversed(list)), dict(pairs) by tuple keys. -/
namespace L2
open PySem PySem.Spec PyProof.Rows
section
variable {P : Program} {w : World} {A : Around} {E : Value → Shared → Prop} {s : Shared}
set_option maxHeartbeats 3200000 in
/-- set(l) of a list of whole numbers -/
theorem call_set_listI {l : Addr} {items : Array Value} (ns : List Int) {Q : Value → Shared → Prop} (hh : A.handled = none) (hl : s.heap.IsList l items) (hit : IntsAre items.toList ns) (hb : ns.length + 1 < scanBound)
    (h : ∀ (h' : Heap) (tk c : Nat), SetR w h' s.heap.objs.size (fun j => decide (j ∈ ns)) c → c ≤ ns.length → (∀ b o, s.heap.get? b = some o → h'.get? b = some o) → Q (.ref s.heap.objs.size) { s with heap := h', toks := tk }) :
    wpAny (model P w) A (call (.type "set") [.ref l]) Q E s := by
  have hisz : items.size = ns.length := by
    have q := IntsAre.length hit
    rw [Array.length_toList] at q
    exact q
  obtain ⟨c, tl, hmro⟩ := F.called_set.mro
  have hmade := F.called_set.made
  have hsub := F.called_set.sub
  refine wpAny_call (codeAny_of_tree ?_)
  show wpAny _ _ (callAny (.type "set") _) _ _ _
  refine wpAny_pure ⟨Code.quiet_builtin _ (by decide +kernel), codeAny_builtin F.entry_type_call ?_⟩
  rw [Around.under_plain (weight_type_call_type "set" [.ref l] []) rfl]
  have h1 := F.called_set.notType
  have h2 := F.called_set.canCreate
  have hct := F.typeCall_set_1 (.ref l)
  repeat (any_goals (first | assumption | wp_step))
  refine codeAny_mono (code_set_led1 (.ref l) (E := E) (Q₁ := fun obj s₁ => obj = .ref s.heap.objs.size ∧ s₁ = { s with heap := s.heap.push { cls := .type "set", dict := none, data := .set #[] 0 (.fresh 0 0 (!w.params.followText "set-order")) } }) ⟨rfl, rfl⟩) fun r s₁ hr => ?_
  cases r with
  | error e => exact hr
  | ok fl =>
    cases fl with
    | ret obj =>
      obtain ⟨rfl, rfl⟩ := hr
      have hS : (s.heap.push { cls := .type "set", dict := none, data := .set #[] 0 (.fresh 0 0 (!w.params.followText "set-order")) }).get? s.heap.objs.size = some { cls := .type "set", dict := none, data := .set #[] 0 (.fresh 0 0 (!w.params.followText "set-order")) } := Heap.get?_push_size _ rfl
      have hT : Shared.TypeIs { s with heap := s.heap.push { cls := .type "set", dict := none, data := .set #[] 0 (.fresh 0 0 (!w.params.followText "set-order")) } } (.ref s.heap.objs.size) "set" := ⟨_, hS, rfl⟩
      have hli := F.called_set.init.lookup
      have hbi := F.called_set.init.bind (.ref s.heap.objs.size)
      repeat (any_goals (first | assumption | wp_step))
      refine codeAny_mono (codeAny_call_builtin (R := wants (fun r s₂ => r = .none ∧ ∃ h' tk c, s₂ = { s with heap := h', toks := tk } ∧ SetR w h' s.heap.objs.size (fun j => decide (j ∈ ns)) c ∧ c ≤ ns.length ∧
          (∀ b o, s.heap.get? b = some o → h'.get? b = some o)) E) F.called_set.init.plain F.entry_set_init (check_set_init_1 hT ?_)) fun r₂ s₂ hr₂ => ?_
      · obtain ⟨ol, hol, hcl, nl, hdl⟩ := hl
        obtain ⟨ocls, odict, odata, oslots⟩ := ol
        simp only at hcl hdl
        subst hcl; subst hdl
        have hol' : (s.heap.push { cls := .type "set", dict := none, data := .set #[] 0 (.fresh 0 0 (!w.params.followText "set-order")) }).get? l = some { cls := .type "list", dict := odict, data := .seq items nl, slots := oslots } := Heap.get?_push_of_some _ hol
        have hsls := F.sub_list_set
        have hslf := F.sub_list_frozenset
        have hne : (Value.type "list" == Value.type "dict") = false := by decide
        have hl1 : (s.heap.push { cls := .type "set", dict := none, data := .set #[] 0 (.fresh 0 0 (!w.params.followText "set-order")) }).IsList l items := ⟨_, hol', rfl, nl, rfl⟩
        unfold Builtin.«set.__init__» noKeywords Builtin.Frozenset.updateFrom
        generalize hPI : pyIter = PI
        wp_walk
        subst hPI
        refine wpAny_pyIter_list hl1 ?_
        refine wpAny_bind (wpAny_runValue ?_)
        have hlS : l < s.heap.objs.size := Heap.lt_size hol
        have hh3 : A.in1.in1.in1.handled = none := by simp [hh]
        have hneI : l ≠ (s.heap.push { cls := .type "set", dict := none, data := .set #[] 0 (.fresh 0 0 (!w.params.followText "set-order")) }).objs.size := by
          rw [Heap.size_push]; exact Nat.ne_of_lt (Nat.lt_succ_of_lt hlS)
        have hSf : s.heap.objs.size ∉ [(s.heap.push { cls := .type "set", dict := none, data := .set #[] 0 (.fresh 0 0 (!w.params.followText "set-order")) }).objs.size, l] := by
          rw [Heap.size_push]; simp only [List.mem_cons, List.mem_singleton, List.not_mem_nil, or_false, not_or]
          exact ⟨Nat.ne_of_lt (Nat.lt_succ_self _), Nat.ne_of_gt hlS⟩
        have hval : ∀ (i : Nat) (v : Value), items[i]? = some v → ∃ k t, ns[i]? = some k ∧ v = .int k t := fun i v hv => by
          have hi : i < ns.length := by rw [← hisz]; exact (Array.getElem?_eq_some_iff.mp hv).1
          obtain ⟨t, e⟩ := PyProof.Rows.IntsAre.int_at hit i v (by rw [Array.getElem?_toList]; exact hv)
          refine ⟨ns[i], t, List.getElem?_eq_getElem hi, ?_⟩
          rw [e, List.getD_eq_getElem?_getD, List.getElem?_eq_getElem hi] <;> rfl
        refine set_update_ints ((Walks.list hh3 _ l hneI items).toS) s.heap.objs.size
          hSf ns hisz hb hval (items.size - 0) 0 _ (by omega) (Nat.zero_le _)
          ⟨⟨_, Heap.get?_push_size _ rfl, rfl, rfl⟩, (hl1.push _)⟩ ?hS0 ?hR
        case hS0 =>
          exact ⟨0, Nat.le_refl 0, setR_new_at (Heap.get?_push_of_some _ hS)⟩
        case hR =>
          intro s' c' hm hc' hS'
          obtain ⟨h', g2, d', tk', os'⟩ := s'
          have eg : g2 = s.gens := hm.gens
          have ed : d' = s.drawn := hm.drawn
          have eo : os' = s.os := hm.os
          subst eg; subst ed; subst eo
          show wpAny _ _ _ _ _ _
          refine wpAny_pure ?_
          show wpAny _ _ (ret Value.none) _ _ _
          rw [hisz] at hc'
          refine wpAny_pure ⟨rfl, h', tk', c', rfl, hS', hc', fun b o e => ?_⟩
          have hb0 : b < s.heap.objs.size := Heap.lt_size e
          have hb1 : b ≠ s.heap.objs.size := Nat.ne_of_lt hb0
          have hb2 : b ≠ (s.heap.push { cls := .type "set", dict := none, data := .set #[] 0 (.fresh 0 0 (!w.params.followText "set-order")) }).objs.size := by
            rw [Heap.size_push]; exact Nat.ne_of_lt (Nat.lt_succ_of_lt hb0)
          exact hm.heap b o (by simp only [List.mem_cons, List.mem_singleton, List.not_mem_nil, or_false, not_or]; exact ⟨hb1, hb2⟩) (Heap.get?_push_of_some _ (Heap.get?_push_of_some _ e))
      · cases r₂ with
        | error e => exact hr₂
        | ok fl₂ =>
          cases fl₂ with
          | ret r =>
            obtain ⟨rfl, h', tk, c', rfl, hS', hc', hk'⟩ := hr₂
            repeat (any_goals (first | assumption | wp_step))
            exact h _ _ _ hS' hc' hk'
          | _ => exact hr₂.elim
    | _ => exact hr.elim
end
end L2
namespace RT
open PySem PySem.Spec PyProof.Rows L2
section
variable {prog : Program} {w : World} {A : Around} {E : Value → Shared → Prop} {s : Shared}
/-- list(reversed(l)) -/
theorem call_list_rev {it l : Addr} {items : Array Value} {Q : Value → Shared → Prop} (hh : A.handled = none) (hit : s.heap.IsRevIter it l ((items.size : Int) - 1)) (hl : s.heap.IsList l items) (hne : l ≠ it) (hn : items.size ≤ sizeLine)
    (hQ : ∀ (h' : Heap) (tk : Nat) (acc : Array Value) (c : Nat), (∀ b o, b ≠ it → s.heap.get? b = some o → h'.get? b = some o) → h'.get? s.heap.objs.size = some { cls := .type "list", dict := none, data := .seq acc c, slots := #[] } →
      ItemsOf (fun i v => items[items.size - 1 - i]? = some v) acc items.size → Q (.ref s.heap.objs.size) { s with heap := h', toks := tk }) :
    wpAny (model prog w) A (call (.type "list") [.ref it]) Q E s := by
  obtain ⟨oi, hoi, _⟩ := id hit
  obtain ⟨ol, hol, _⟩ := id hl
  have hSi : s.heap.objs.size ≠ it := Nat.ne_of_gt (Heap.lt_size hoi)
  have hSl : s.heap.objs.size ≠ l := Nat.ne_of_gt (Heap.lt_size hol)
  have hSf : s.heap.objs.size ∉ [it, l] := by simp only [List.mem_cons, List.not_mem_nil, or_false, not_or]; exact ⟨hSi, hSl⟩
  refine callType_codes (Q₁ := fun obj s₁ => obj = .ref s.heap.objs.size ∧ s₁ = { s with heap := s.heap.push { cls := .type "list", data := .seq #[] } }) PySem.F.called_list (PySem.F.typeCall_list_1 _) PySem.F.entry_list_init
    (code_list_new _ ⟨rfl, rfl⟩) fun obj s₁ h₁ => ?_
  obtain ⟨rfl, rfl⟩ := h₁
  have hS : (s.heap.push { cls := .type "list", data := .seq #[] }).get? s.heap.objs.size = some { cls := .type "list", data := .seq #[] } := Heap.get?_push_size _ rfl
  refine ⟨⟨_, hS, rfl⟩, PySem.F.args_list_init_2 _ _, ?_⟩
  show wpAny _ _ (do let old ← Builtin.List.listItems (.ref s.heap.objs.size); Builtin.List.listUpdate (.ref s.heap.objs.size) (fun _ => #[]); letGo old.toList.reverse; Builtin.List.listExtendWith (.ref s.heap.objs.size) (.ref it) .none) _ _ _
  refine wpAny_bind ?_
  unfold Builtin.List.listItems
  refine wpAny_bind (wpAny_seqItems hS rfl (wpAny_pure ?_))
  show wpAny _ _ (updateSeq s.heap.objs.size (fun _ => #[]) >>= fun _ => letGo (#[] : Array Value).toList.reverse >>= fun _ => Builtin.List.listExtendWith (.ref s.heap.objs.size) (.ref it) .none) _ _ _
  refine wpAny_bind (wpAny_updateSeq hS rfl ?_)
  have hS₂ := Heap.get?_update_self (Obj.mapSeq (fun _ => (#[] : Array Value))) hS rfl
  have oth : ∀ b o, s.heap.get? b = some o → ((s.heap.push { cls := .type "list", data := .seq #[] }).update s.heap.objs.size (Obj.mapSeq (fun _ => (#[] : Array Value)))).get? b = some o :=
    fun b o e => (Heap.get?_update_other _ _ (Ne.symm (Nat.ne_of_lt (Heap.lt_size e)))).trans (Heap.get?_push_of_some _ e)
  refine wpAny_bind (wpAny_letGo ?_)
  have W := (Walks.listRev (prog := prog) (w := w) (A := A.in1.in1) hh it l hne items).toS
  generalize hH : (s.heap.push { cls := .type "list", data := .seq #[] }).update s.heap.objs.size (Obj.mapSeq (fun _ => (#[] : Array Value))) = H2 at hS₂ oth ⊢
  have hit1 : H2.IsRevIter it l ((items.size : Int) - 1) := hit.at fun o e => oth _ _ e
  have hl1 : H2.IsList l items := hl.at fun o e => oth _ _ e
  have hT : ({ s with heap := H2 } : Shared).TypeIs (.ref it) "list_reverseiterator" := Heap.IsRevIter.typeIs (s := { s with heap := H2 }) hit1
  have h1 : Builtin.List.listSameRef (.ref s.heap.objs.size) (.ref it) = false := by simp [Builtin.List.listSameRef, hSi]
  unfold Builtin.List.listExtendWith
  refine wpAny_bind (wpAny_typeOf hT ?_)
  rw [if_neg (by rw [h1]; decide)]
  refine wpAny_bind (wpAny_pyIter_revIter (s := { s with heap := H2 }) hit1 ?_)
  refine wpAny_bind (wpAny_holding ?_)
  unfold Builtin.List.listLengthHint
  refine wpAny_bind (wpAny_specialOf hT nolen_lri ?_)
  show wpAny _ _ (specialOf (Value.ref it) (Str.ofString "__length_hint__") >>= _) _ _ _
  refine wpAny_bind (wpAny_specialOf hT hint_lri ?_)
  generalize hid : ("list_reverseiterator.__length_hint__" : String) = id0
  wp_delta
  rw [show splitId id0 = some ("list_reverseiterator", "__length_hint__") from by subst hid; decide +kernel]
  subst hid
  refine wpAny_bind (wpAny_isInstance (b := true) hT (by rw [isSubtype_type]; kernel_rfl) ?_)
  refine wpAny_pure ?_
  rw [if_neg (by decide)]
  have e0 : ((items.size : Nat) : Int) - 1 - ((0 : Nat) : Int) = (items.size : Int) - 1 := by omega
  refine wpAny_pure ⟨plainId_quiet F.plain_extend_loop _, codeAny_extend_loopS W hn _ hSf _ items.size 0 _ _ _ rfl (Nat.zero_le _) ⟨Nat.zero_le _, by rw [e0]; exact hit1, hl1⟩ hS₂ (ItemsOf.nil _) fun s' acc' c' hm hS' hacc => ?_⟩
  rw [Moved.eq_with hm]
  refine ⟨rfl, hQ s'.heap s'.toks acc' c' (fun b o hb e => hm.heap b o (fun hmem => ?_) (oth b o e)) hS' hacc⟩
  rcases List.mem_cons.mp hmem with e' | hmem
  · exact absurd (Heap.lt_size e) (by rw [e']; exact Nat.lt_irrefl _)
  · exact hb (List.mem_singleton.mp hmem)
end
end RT
namespace Ir
open PySem L2 PyProof.Rows
section
variable {G : Gx} {X : Cx} {e e2 : Expr} {te te2 : TE}
/-! ### sorted(set(l)) -/
def tSortSet (te : TE) : TE := fun σ H Q => te σ H fun v H1 => ∃ (l : Addr) (ns : List Int), v = .ref l ∧ Rd H1 l (.lst (ns.map V.int)) ∧ ns.length < 64 ∧
  ∀ (out : List Int) (p : Addr), out.Pairwise (· < ·) → (∀ k : Int, k ∈ out ↔ k ∈ ns) → H1 p = none → Q (.ref p) (upd H1 p (.lst (out.map V.int)))
theorem pe_sortSet {p p2 pos pos2 : Pos} (hc : X.calm = true) (hg : Gl X "sorted") (hm : X.mg "sorted" = none) (hg2 : Gl X "set") (hm2 : X.mg "set" = none) (he : PE X e te)
    (hs : starEach [e] X.env = (false, eval e X.env) :: starEach [] X.env := by rfl)
    (hs2 : starEach [.Call (.Name "set" p2) [e] [] pos2] X.env = (false, eval (.Call (.Name "set" p2) [e] [] pos2) X.env) :: starEach [] X.env := by rfl) :
    PE X (.Call (.Name "sorted" p) [.Call (.Name "set" p2) [e] [] pos2] [] pos) (tSortSet te) := by
  refine ⟨fun pins s σ H Q I h => ?_⟩
  refine Call_ (ld_blt I hg hm boot_sorted (PyProof.Rows.callWith_builtin1 (args_cons (Call_ (ld_blt I hg2 hm2 PyProof.Rows.boot_set (PyProof.Rows.callWith_type1 (args_cons (thn (he.run pins s σ H _ I h) fun u s1 ⟨v, H1, I1, r1, q1⟩ => args_nil ?_) hs) hs rfl))) hs2) hs2 rfl))
  obtain ⟨a, ns, ev, t, h64, q⟩ := q1
  subst ev
  obtain rfl : u = Value.ref a := r1
  obtain ⟨hz, its, n, rv, hl, e⟩ := rdL I1 t
  have hi := ints_of_vals rv
  refine call_set_listI ns (I1.ok.hd hc) ⟨_, e, rfl, n, rfl⟩ (by simpa using hi) (by show _ < 4096; omega) fun h' tk c R hc' hk => args_nil ?_
  have I2 : Inv X pins σ H1 { s1 with heap := h', toks := tk } := I1.kept hk
  have R2 : SetR X.w ({ s1 with heap := h', toks := tk } : Shared).heap s1.heap.objs.size (fun j => decide (j ∈ ns)) c := R
  generalize ({ s1 with heap := h', toks := tk } : Shared) = s2 at I2 R2 ⊢
  refine sorted_set R2 (I2.ok.hd hc) (by omega) fun s' p out c2 ms k g o hp hg' hi2 hs' hm' hl' => ?_
  have hlen : (ms.map V.int).length ≤ sizeLine := by rw [List.length_map, hl', sizeLine_eq]; omega
  have hn : H1 p = none := I2.hok.fresh hp
  have J : Inv X pins σ (upd H1 p (.lst (ms.map V.int))) { s2 with heap := s'.heap, gens := s'.gens, drawn := s'.drawn, toks := s'.toks } :=
    I2.call (ch := []) (Un.laid k hp hn) (I2.hok.laid k hp ⟨hlen, out.toList, c2, vals_of_ints hi2, hg'⟩) (by rw [g]; exact I2.bare) (fun _ z => nomatch z)
  have e' : s' = { s2 with heap := s'.heap, gens := s'.gens, drawn := s'.drawn, toks := s'.toks } := by
    cases s'
    cases s2
    cases o
    rfl
  rw [e']
  exact ⟨.ref p, _, J, rfl, q ms p hs' (fun k => by rw [hm' k]; exact decide_eq_true_iff) hn⟩
/-! ### list(reversed(l)) -/
def tLstRev (te : TE) : TE := fun σ H Q => te σ H fun v H1 => ∃ l xs, v = .ref l ∧ Rd H1 l (.lst xs) ∧ ∀ p, H1 p = none → Q (.ref p) (upd H1 p (.lst xs.reverse))
theorem pe_lstRev {p p2 pos pos2 : Pos} (hc : X.calm = true) (hg : Gl X "list") (hm : X.mg "list" = none) (hg2 : Gl X "reversed") (hm2 : X.mg "reversed" = none) (he : PE X e te)
    (hs : starEach [e] X.env = (false, eval e X.env) :: starEach [] X.env := by rfl)
    (hs2 : starEach [.Call (.Name "reversed" p2) [e] [] pos2] X.env = (false, eval (.Call (.Name "reversed" p2) [e] [] pos2) X.env) :: starEach [] X.env := by rfl) :
    PE X (.Call (.Name "list" p) [.Call (.Name "reversed" p2) [e] [] pos2] [] pos) (tLstRev te) := by
  refine ⟨fun pins s σ H Q I h => ?_⟩
  refine Call_ (ld_blt I hg hm PyProof.Rows.boot_list (PyProof.Rows.callWith_type1 (args_cons (Call_ (ld_blt I hg2 hm2 PyProof.Rows.boot_reversed (PyProof.Rows.callWith_type1 (args_cons (thn (he.run pins s σ H _ I h) fun u s1 ⟨v, H1, I1, r1, q1⟩ => args_nil ?_) hs) hs rfl))) hs2) hs2 rfl))
  obtain ⟨a, xs, ev, hq, q⟩ := q1
  subst ev
  obtain rfl : u = Value.ref a := r1
  obtain ⟨its, rv, p', hz⟩ := I1.list (.inl hq)
  refine call_reversed_list p'.isList (args_nil ?_)
  have k0 : ∀ b o, s1.heap.get? b = some o → (s1.heap.push (revObj a ((its.toArray.size : Int) - 1))).get? b = some o := fun b o e => Heap.get?_push_of_some _ e
  have hl := p'.isList
  obtain ⟨ol, hol, _⟩ := id hl
  have hne : a ≠ s1.heap.objs.size := Nat.ne_of_lt (Heap.lt_size hol)
  have hn : its.toArray.size ≤ sizeLine := by rw [List.size_toArray, ← rv.length]; exact hz
  refine RT.call_list_rev (s := { s1 with heap := s1.heap.push (revObj a ((its.toArray.size : Int) - 1)) }) (I1.ok.hd hc) ⟨_, Heap.get?_push_size _ rfl, rfl, rfl⟩ (hl.push _) hne hn fun h' tk acc c hk hS hi => ?_
  have kk : ∀ b o, s1.heap.get? b = some o → h'.get? b = some o := fun b o e => hk b o (Nat.ne_of_lt (Heap.lt_size e)) (k0 b o e)
  have le : s1.heap.objs.size ≤ (s1.heap.push (revObj a ((its.toArray.size : Int) - 1))).objs.size := by
    rw [Heap.size_push]
    exact Nat.le_succ _
  exact ⟨.ref _, upd H1 _ (.lst xs.reverse), I1.laid (t' := tk) kk le (show ObjOk X.prog X.w _ _ _ (.lst xs.reverse) from ⟨by rw [List.length_reverse]; exact hz, acc.toList, c, RT.vals_rev rv hi, by rw [Array.toArray_toList]; exact hS⟩), rfl, q _ (I1.hok.fresh le)⟩
/-! ### max, min with a default -/
def tMaxD (b : Bool) (te te2 : TE) : TE := fun σ H Q => te σ H fun v H1 => te2 σ H1 fun u H2 => ∃ (l : Addr) (ns : List Int), v = .ref l ∧ Rd H2 l (.lst (ns.map V.int)) ∧ (match ns with
  | [] => Q u H2
  | n :: r => Q (.int (foldD b n r)) H2)
theorem readsAll_ints {h : Heap} : ∀ {us : List Value} {ns : List Int}, IntsAre us ns → ReadsAll h us (ns.map PyData.int) []
  | _, _, .nil => .nil
  | _, _, .cons n t r => ReadsAll.cons (as := []) (bs := []) (Reads.int n t) (readsAll_ints r)
theorem alike_ints (ns : List Int) : PySem.W.AlikeAll (ns.map PyData.int) := by
  refine ⟨fun x hx y hy => ?_, fun x hx => ?_⟩
  · obtain ⟨i, _, rfl⟩ := List.mem_map.mp hx
    obtain ⟨j, _, rfl⟩ := List.mem_map.mp hy
    rfl
  · obtain ⟨i, _, rfl⟩ := List.mem_map.mp hx
    exact fun z => nomatch z
theorem depth_ints : ∀ ns : List Int, PyData.depthAll (ns.map PyData.int) = 0
  | [] => by simp [PyData.depthAll]
  | n :: r => by
    have := depth_ints r
    simp [PyData.depthAll, PyData.depth, this]
theorem pe_maxD {p pos kp : Pos} (hu : X.A.units + 200 < cLine) (hc : X.calm = true) (hg : Gl X "max") (hm : X.mg "max" = none) (he : PE X e te) (he2 : PE X e2 te2) (st : starEach [e] X.env = (false, eval e X.env) :: starEach [] X.env) :
    PE X (.Call (.Name "max" p) [e] [⟨some "default", e2, kp⟩] pos) (tMaxD true te te2) := by
  refine ⟨fun pins s σ H Q I h => ?_⟩
  refine wpAny_Call_Name_kw (ld_blt I hg hm PyProof.Rows.boot_max ?_ (by decide) (by decide))
  refine PyProof.Rows.callWith_kw (thn ((pa_cons he pa_nil st).run _ pins s σ H (fun xs H1 => match xs with
      | [v] => te2 σ H1 fun u H2 => ∃ (l : Addr) (ns : List Int), v = .ref l ∧ Rd H2 l (.lst (ns.map V.int)) ∧ (match ns with
        | [] => Q u H2
        | n :: r => Q (.int (foldD true n r)) H2)
      | _ => False) I h) fun us s1 ⟨xs, H1, I1, r1, q⟩ => ?_) (by rw [st]; rfl) (by rw [st]; rfl)
  match xs, q, r1 with
  | [v], q, r1 =>
    obtain ⟨u, rfl, ru⟩ := vals1 r1
    refine PyProof.Rows.kws_cons (thn (he2.run pins s1 σ H1 _ I1 q) fun kv s2 ⟨w, H2, I2, rw_, l, ns, ev, t, q2⟩ => ?_)
    refine PyProof.Rows.kws_nil ?_
    subst ev
    obtain rfl : u = Value.ref l := ru
    obtain ⟨hz, its, n, rv, hl, e⟩ := rdL I2 t
    have hi := ints_of_vals rv
    refine PySem.W.max_list_default (I2.ok.hd hc) ⟨_, e, rfl, n, rfl⟩ (readsAll_ints (by simpa using hi)) (alike_ints ns) (by rw [depth_ints]; omega) (fun e0 h' tk hk => ?_) fun y ys i v h' tk bs e0 ei rd hk => ?_
    · have : ns = [] := List.map_eq_nil_iff.mp e0
      subst this
      exact ⟨w, H2, I2.kept hk, rw_, q2⟩
    · cases ns with
      | nil => cases e0
      | cons a r =>
        rw [List.map_cons] at e0
        injection e0 with e1 e2
        subst e1 e2
        rw [PySem.W.maxD_ints] at rd
        cases rd
        exact ⟨.int _, H2, I2.kept hk, ⟨_, rfl⟩, q2⟩
theorem pe_minD {p pos kp : Pos} (hu : X.A.units + 200 < cLine) (hc : X.calm = true) (hg : Gl X "min") (hm : X.mg "min" = none) (he : PE X e te) (he2 : PE X e2 te2) (st : starEach [e] X.env = (false, eval e X.env) :: starEach [] X.env) :
    PE X (.Call (.Name "min" p) [e] [⟨some "default", e2, kp⟩] pos) (tMaxD false te te2) := by
  refine ⟨fun pins s σ H Q I h => ?_⟩
  refine wpAny_Call_Name_kw (ld_blt I hg hm PyProof.Rows.boot_min ?_ (by decide) (by decide))
  refine PyProof.Rows.callWith_kw (thn ((pa_cons he pa_nil st).run _ pins s σ H (fun xs H1 => match xs with
      | [v] => te2 σ H1 fun u H2 => ∃ (l : Addr) (ns : List Int), v = .ref l ∧ Rd H2 l (.lst (ns.map V.int)) ∧ (match ns with
        | [] => Q u H2
        | n :: r => Q (.int (foldD false n r)) H2)
      | _ => False) I h) fun us s1 ⟨xs, H1, I1, r1, q⟩ => ?_) (by rw [st]; rfl) (by rw [st]; rfl)
  match xs, q, r1 with
  | [v], q, r1 =>
    obtain ⟨u, rfl, ru⟩ := vals1 r1
    refine PyProof.Rows.kws_cons (thn (he2.run pins s1 σ H1 _ I1 q) fun kv s2 ⟨w, H2, I2, rw_, l, ns, ev, t, q2⟩ => ?_)
    refine PyProof.Rows.kws_nil ?_
    subst ev
    obtain rfl : u = Value.ref l := ru
    obtain ⟨hz, its, n, rv, hl, e⟩ := rdL I2 t
    have hi := ints_of_vals rv
    refine PySem.W.min_list_default (I2.ok.hd hc) ⟨_, e, rfl, n, rfl⟩ (readsAll_ints (by simpa using hi)) (alike_ints ns) (by rw [depth_ints]; omega) (fun e0 h' tk hk => ?_) fun y ys i v h' tk bs e0 ei rd hk => ?_
    · have : ns = [] := List.map_eq_nil_iff.mp e0
      subst this
      exact ⟨w, H2, I2.kept hk, rw_, q2⟩
    · cases ns with
      | nil => cases e0
      | cons a r =>
        rw [List.map_cons] at e0
        injection e0 with e1 e2
        subst e1 e2
        rw [PySem.W.minD_ints] at rd
        cases rd
        exact ⟨.int _, H2, I2.kept hk, ⟨_, rfl⟩, q2⟩
/-! ### dict(pairs) -/
theorem storedAll_new {xs : List (List Key × Addr × Value)} : ∀ {ps : List (List Key × Addr × Value)}, ((xs ++ ps).map (·.1)).Nodup → storedAllH xs ps = xs ++ ps
  | [], _ => by simp [storedAllH]
  | p :: ps, h => by
    have hn : atKey xs p.1 = none := by
      have : (xs.find? fun x => decide (x.1 = p.1)) = none := by
        rw [List.find?_eq_none]
        intro x hx z
        have e : x.1 = p.1 := of_decide_eq_true z
        rw [List.map_append, List.nodup_append] at h
        exact h.2.2 x.1 (List.mem_map_of_mem hx) p.1 (List.mem_map_of_mem List.mem_cons_self) e
      simp [atKey, this]
    have e : storedAllH xs (p :: ps) = storedAllH (storedH xs p.1 p.2.1 p.2.2) ps := rfl
    rw [e, storedH_new hn]
    have h2 : ((xs ++ [p]) ++ ps) = xs ++ p :: ps := by simp
    have := storedAll_new (xs := xs ++ [p]) (ps := ps) (by rw [h2]; exact h)
    rw [h2] at this
    exact this
theorem rep_keyT {B : Addr → Prop} {H : Hp} {k : List Key} {v : V} (h : rep G B H (.tup (k.map keyD)) v) : ∃ b, v = .ref b ∧ H b = some (.tup (k.map kV)) := by
  obtain ⟨a, vs, rfl, t, r⟩ := h
  rw [reps_keys r] at t
  exact ⟨a, rfl, t.1⟩
theorem pairs_at {P : Program} {w : World} {B : Addr → Prop} {H : Hp} {h : Heap} (ok : HOk P w H h) : ∀ {ds ks vs : List D} {xs : List V} {its : List Value}, pairsOf ds = some (ks, vs) → ks.all (keyOk 1) = true → reps G B H ds xs → Vals xs its →
    ∃ qs : List (Addr × (List Key × Addr × Value) × V), its = qs.map (fun q => Value.ref q.1) ∧ ks = qs.map (fun q => D.tup (q.2.1.1.map keyD)) ∧ reps G B H vs (qs.map (·.2.2)) ∧
      ∀ q ∈ qs, h.IsTuple q.1 #[.ref q.2.1.2.1, q.2.1.2.2] ∧ H q.2.1.2.1 = some (.tup (q.2.1.1.map kV)) ∧ RelV q.2.2 q.2.1.2.2
  | [], ks, vs, xs, its, hp, hk, r, rv => by
    cases hp
    cases (show xs = [] from r)
    cases rv
    exact ⟨[], rfl, rfl, rfl, fun q hq => nomatch hq⟩
  | d :: ds, ks, vs, xs, its, hp, hk, r, rv => by
    unfold pairsOf at hp
    split at hp
    · cases ‹_ :: _ = []›
    · rename_i k v l e
      injection e with e1 e2
      subst e1 e2
      obtain ⟨p, hp1, hp2⟩ := Option.map_eq_some_iff.mp hp
      cases hp2
      rw [List.all_cons, Bool.and_eq_true] at hk
      obtain ⟨x, xs', rfl, hx, hr⟩ := r
      cases rv with
      | cons r1 rv =>
        obtain ⟨kk, rfl⟩ := keyOk_1 hk.1
        obtain ⟨qs, q1, q2, q3, q4⟩ := pairs_at ok hp1 hk.2 hr rv
        obtain ⟨a, us, rfl, t, ru⟩ := hx
        obtain ⟨vk, r', rfl, h1, h2⟩ := ru
        obtain ⟨vv, r'', rfl, h3, h4⟩ := h2
        cases (show r'' = [] from h4)
        obtain ⟨b, rfl, eb⟩ := rep_keyT h1
        obtain ⟨_, its', rv', o, g1, g2, n, g3⟩ := (show ObjOk P w H h a (.tup [.ref b, vv]) from ok a _ t.1)
        cases rv' with
        | cons ra rv' =>
          cases rv' with
          | @cons _ u2 _ _ rb rv' =>
            cases rv'
            cases r1
            cases ra
            refine ⟨(a, (kk, b, u2), vv) :: qs, by rw [q1]; rfl, by rw [q2]; rfl, ⟨vv, _, rfl, h3, q3⟩, fun q hq => ?_⟩
            rcases List.mem_cons.mp hq with rfl | hq
            · exact ⟨⟨o, g1, g2, n, g3⟩, eb, rb⟩
            · exact q4 q hq
    · cases hp
theorem nodupK_keys : ∀ {l : List (List Key)}, nodupK (l.map fun k => D.tup (k.map keyD)) = true → l.Nodup
  | [], _ => .nil
  | k :: l, h => by
    have h : (!hasK (D.tup (k.map keyD)) (l.map fun k => D.tup (k.map keyD)) && nodupK (l.map fun k => D.tup (k.map keyD))) = true := h
    rw [Bool.and_eq_true, Bool.not_eq_true'] at h
    refine List.nodup_cons.mpr ⟨fun hk => ?_, nodupK_keys h.2⟩
    have : ∀ {m : List (List Key)}, k ∈ m → hasK (D.tup (k.map keyD)) (m.map fun k => D.tup (k.map keyD)) = true := by
      intro m
      induction m with
      | nil => exact fun z => nomatch z
      | cons a m ih =>
        intro hm
        show (eqB (.tup (a.map keyD)) (.tup (k.map keyD)) || hasK (D.tup (k.map keyD)) (m.map fun k => D.tup (k.map keyD))) = true
        rw [eqB_t, Bool.or_eq_true]
        rcases List.mem_cons.mp hm with e | e
        · exact .inl (decide_eq_true e.symm)
        · exact .inr (ih e)
    rw [this hk] at h
    exact absurd h.1 (by decide)
/-! ### tuple(l), known to have no fields -/
def tTupX (te : TE) : TE := fun σ H Q => te σ H fun v H1 => ∃ (l : Addr) (xs : List V), v = .ref l ∧ Rd H1 l (.lst xs) ∧ ∀ (p : Addr) (o : Obj), H1 p = none → o.dict = none → Q (.ref p) (upd H1 p (.frz o (.tup xs)))
theorem pe_tupX {p pos : Pos} (hg : Gl X "tuple") (hm : X.mg "tuple" = none) (he : PE X e te)
    (hs : starEach [e] X.env = (false, eval e X.env) :: starEach [] X.env := by rfl) : PE X (.Call (.Name "tuple" p) [e] [] pos) (tTupX te) := by
  refine ⟨fun pins s σ H Q I h => ?_⟩
  refine Call_ (ld_blt I hg hm PyProof.Rows.boot_tuple (PyProof.Rows.callWith_type1 (args_cons (thn (he.run pins s σ H _ I h) fun u s1 ⟨v, H1, I1, r1, q1⟩ => args_nil ?_) hs) hs rfl))
  obtain ⟨l, xs, ev, t, q⟩ := q1
  subst ev
  obtain rfl : u = Value.ref l := r1
  obtain ⟨hz, its, n, rv, hl, e⟩ := rdL I1 t
  refine call_tuple_list ⟨_, e, rfl, n, rfl⟩ (fun h' hk => ?_) (by rw [List.size_toArray]; omega)
  have I2 : Inv X pins σ H1 { s1 with heap := h' } := I1.kept (t' := s1.toks) hk
  have f := I2.hok.fresh (Nat.le_refl _)
  exact ⟨.ref _, _, I2.laid (t' := s1.toks) (fun b o e => Heap.get?_push_of_some _ e) (Nat.le_refl _) (show ObjOk X.prog X.w _ _ _ (.frz _ (.tup xs)) from ⟨Heap.get?_push_size _ rfl, hz, its, rv, IsTup.new _ _⟩), rfl, q _ _ f rfl⟩
def tDictT (G : Gx) (te : TE) : TE := fun σ H Q => te σ H fun v H1 => ∃ (B : Addr → Prop) (l : Addr) (xs : List V) (ds ks vs : List D), v = .ref l ∧ (Rd H1 l (.lst xs) ∨ ∃ o : Obj, o.dict = none ∧ H1 l = some (.frz o (.tup xs))) ∧ reps G B H1 ds xs ∧ pairsOf ds = some (ks, vs) ∧
  ks.all (keyOk 1) = true ∧ nodupK ks = true ∧ Dom B H1 ∧ PostV G B H1 (.ok (.dct 1 ks vs)) Q
theorem dictT_fin {pins : List (Addr × Obj)} {σ : L2.St} {H : Hp} {s : Shared} {Q : VK} {B : Addr → Prop} {ks vs : List D} {qs : List (Addr × (List Key × Addr × Value) × V)} (I : Inv X pins σ H s) (hn : qs.length ≤ sizeLine) (nd : nodupK ks = true)
    (q2 : ks = qs.map (fun q => D.tup (q.2.1.1.map keyD))) (q3 : reps G B H vs (qs.map (·.2.2))) (q4 : ∀ q ∈ qs, s.heap.IsTuple q.1 #[.ref q.2.1.2.1, q.2.1.2.2] ∧ H q.2.1.2.1 = some (.tup (q.2.1.1.map kV)) ∧ RelV q.2.2 q.2.1.2.2) (dm : Dom B H)
    (p : PostV G B H (.ok (.dct 1 ks vs)) Q) {h' : Heap} {tk : Nat} (hd : h'.DictOfH (tupleKind (mixKind X.prog X.w)) s.heap.objs.size (storedAllH [] (qs.map (·.2.1)))) (hk : ∀ b o, s.heap.get? b = some o → h'.get? b = some o) :
    EP X pins σ Q (.ref s.heap.objs.size) { s with heap := h', toks := tk } := by
  have nk : (qs.map fun q => q.2.1.1).Nodup := nodupK_keys (by
    rw [List.map_map]
    rw [q2] at nd
    exact nd)
  rw [storedAll_new (by rw [List.nil_append, List.map_map]; exact nk), List.nil_append] at hd
  obtain ⟨o, es, ep, h1, h2, h3, h4, h5, h6⟩ := hd
  have hn0 : H s.heap.objs.size = none := I.hok.fresh (Nat.le_refl _)
  have pd : ∀ l : List (Addr × (List Key × Addr × Value) × V), (∀ q ∈ l, q ∈ qs) → Paired (fun (p : List Key × V) (q : List Key × Addr × Value) => p.1 = q.1 ∧ (upd H s.heap.objs.size (.dT (qs.map fun q => (q.2.1.1, q.2.2)))) q.2.1 = some (.tup (p.1.map kV)) ∧ RelV p.2 q.2.2) (l.map fun q => (q.2.1.1, q.2.2)) (l.map (·.2.1)) := by
    intro l
    induction l with
    | nil => exact fun _ => .nil
    | cons q l ih =>
      intro hl
      obtain ⟨z1, z2, z3⟩ := q4 q (hl q List.mem_cons_self)
      refine .cons ⟨rfl, ?_, z3⟩ (ih fun q hq => hl q (List.mem_cons_of_mem _ hq))
      rw [upd_ne (ne_of_none z2 hn0)]
      exact z2
  have hs : (s.heap.objs.size == sysModules) = false := beq_eq_false_iff_ne.mpr (Nat.ne_of_gt I.big)
  have J : Inv X pins σ (upd H s.heap.objs.size (.dT (qs.map fun q => (q.2.1.1, q.2.2)))) { s with heap := h', toks := tk } :=
    I.laid (t' := tk) hk (Nat.le_refl _) (show ObjOk X.prog X.w _ _ _ (.dT _) from ⟨by rw [List.length_map]; exact hn, hs, _, pd qs (fun q hq => hq), o, es, ep, h1, h2, h3, h4, h6⟩)
  refine ⟨.ref _, _, J, rfl, p _ _ (Same.upd_new hn0) ⟨_, (qs.map fun q => (q.2.1.1, q.2.2)).map (·.2), rfl, .inr (.inl ⟨_, rfl, .inl upd_same, ?_, rfl⟩), dm.new hn0, ?_⟩⟩
  · rw [q2, List.map_map]
    rfl
  · rw [List.map_map]
    exact reps_same (Same.upd_new hn0) q3
theorem pe_dictT {p pos : Pos} (hu : X.A.units + 200 < cLine) (hc : X.calm = true) (hg : Gl X "dict") (hm : X.mg "dict" = none) (he : PE X e te)
    (hs : starEach [e] X.env = (false, eval e X.env) :: starEach [] X.env := by rfl) : PE X (.Call (.Name "dict" p) [e] [] pos) (tDictT G te) := by
  refine ⟨fun pins s σ H Q I h => ?_⟩
  refine Call_ (ld_blt I hg hm PyProof.Rows.boot_dict (PyProof.Rows.callWith_type1 (args_cons (thn (he.run pins s σ H _ I h) fun u s1 ⟨v, H1, I1, r1, q1⟩ => args_nil ?_) hs) hs rfl))
  obtain ⟨B, l, xs, ds, ks, vs, ev, t, r, hp, hk, nd, dm, q⟩ := q1
  subst ev
  obtain rfl : u = Value.ref l := r1
  have room : (tupleKind (mixKind X.prog X.w)).room X.A.in1.in1 := tupleKind_room_in1 (show X.A.in1.units + 1 < cLine from by
    have : X.A.in1.units ≤ X.A.units + 2 := by show X.A.units + 1 ≤ _; omega
    omega)
  have main : ∀ (its : List Value) (qs : List (Addr × (List Key × Addr × Value) × V)) (T : String) (OK : Heap → Prop) (fp : List Addr),
      PairArg X.prog X.w T l fp [] (qs.map fun q => (Value.ref q.2.1.2.1, q.2.1.2.2)).length (PairRel (qs.map fun q => (Value.ref q.2.1.2.1, q.2.1.2.2))) OK → OK s1.heap → qs.length ≤ sizeLine →
      ks = qs.map (fun q => D.tup (q.2.1.1.map keyD)) → reps G B H1 vs (qs.map (·.2.2)) →
      (∀ q ∈ qs, s1.heap.IsTuple q.1 #[.ref q.2.1.2.1, q.2.1.2.2] ∧ H1 q.2.1.2.1 = some (.tup (q.2.1.1.map kV)) ∧ RelV q.2.2 q.2.1.2.2) →
      wpAny (model X.prog X.w) X.A (call (.type "dict") [.ref l]) (EP X pins σ Q) X.xe s1 := by
    intro its qs T OK fp PA ok hn q2 q3 q4
    refine call_dict_pairsH (knd := tupleKind (mixKind X.prog X.w)) (ps := qs.map (·.2.1)) PA (I1.ok.hd hc) room ok ⟨by rw [List.length_map, List.length_map], fun i key v hv => ?_⟩ (fun h' hk' x hx => ?_) (by rw [List.length_map]; exact hn) fun h' tk hd hk' => dictT_fin I1 hn nd q2 q3 q4 dm q hd fun b o e => hk' b o (fun z => nomatch z) e
    · have hv : (qs.map fun q => (Value.ref q.2.1.2.1, q.2.1.2.2))[i]? = some (key, v) := hv
      rw [List.getElem?_map] at hv
      obtain ⟨q0, e0, e1⟩ := Option.map_eq_some_iff.mp hv
      cases e1
      exact ⟨q0.2.1.1, q0.2.1.2.1, by rw [List.getElem?_map, e0]; rfl, rfl⟩
    · obtain ⟨q0, hq0, rfl⟩ := List.mem_map.mp hx
      exact key_of (I1.hok.kept fun b o e => hk' b o (Nat.ne_of_lt (Heap.lt_size e)) (fun z => nomatch z) e) (q4 q0 hq0).2.1
  have items : ∀ (its : List Value) (qs : List (Addr × (List Key × Addr × Value) × V)), its = qs.map (fun q => Value.ref q.1) → (∀ q ∈ qs, s1.heap.IsTuple q.1 #[.ref q.2.1.2.1, q.2.1.2.2] ∧ H1 q.2.1.2.1 = some (.tup (q.2.1.1.map kV)) ∧ RelV q.2.2 q.2.1.2.2) →
      PairItems s1.heap its.toArray (fun j => ((qs[j]?).map (·.1)).getD 0) (qs.map fun q => (Value.ref q.2.1.2.1, q.2.1.2.2)) := by
    intro its qs e4 q4
    refine ⟨by rw [List.size_toArray, e4, List.length_map, List.length_map], fun j k v hj => ?_⟩
    rw [List.getElem?_map] at hj
    obtain ⟨q0, e0, e1⟩ := Option.map_eq_some_iff.mp hj
    cases e1
    refine ⟨?_, .inl ?_⟩
    · show its.toArray[j]? = some (Value.ref (((qs[j]?).map (·.1)).getD 0))
      rw [List.getElem?_toArray, e4, List.getElem?_map, e0]
      rfl
    · show s1.heap.IsTuple (((qs[j]?).map (·.1)).getD 0) _
      rw [e0]
      exact (q4 q0 (List.mem_of_getElem? e0)).1
  rcases t with t | ⟨o, od, t⟩
  · obtain ⟨hz, its, n, rv, hl, e⟩ := rdL I1 t
    obtain ⟨qs, q1, q2, q3, q4⟩ := pairs_at I1.hok hp hk r rv
    have hlen : qs.length ≤ sizeLine := by
      have := congrArg List.length q1
      rw [List.length_map] at this
      omega
    exact main its qs "list" _ _ (PairArg.list l its.toArray (fun j => ((qs[j]?).map (·.1)).getD 0) _) ⟨⟨_, n, e, rfl, rfl, rfl⟩, items its qs q1 q4⟩ hlen q2 q3 q4
  · obtain ⟨e, hz, its, rv, o', e2, g2, n, g3⟩ := (show ObjOk X.prog X.w H1 s1.heap l (.frz o (.tup xs)) from I1.hok l _ t)
    rw [e] at e2
    cases e2
    obtain ⟨qs, q1, q2, q3, q4⟩ := pairs_at I1.hok hp hk r rv
    have hlen : qs.length ≤ sizeLine := by
      have := congrArg List.length q1
      rw [List.length_map] at this
      have := rv.length
      omega
    exact main its qs "tuple" _ _ (PairArg.tuple l its.toArray (fun j => ((qs[j]?).map (·.1)).getD 0) _) ⟨⟨_, n, e, g2, od, g3⟩, items its qs q1 q4⟩ hlen q2 q3 q4
end
end Ir

/-! Ir9f: pure forms of more than one word. -/
namespace Ir
open PySem L2 PyProof.Rows
section
variable {G : Gx} {M : Nms} {T : Tbl} {N : List Str} {sc : Scope} {lvl : Nat} {W : WX} {X : Cx}
variable {e y z : Expr} {a b : E} {ta tb : TE}
theorem nx_xp (x : XP) (ds : List D) : Nx (xpD x ds) := by
  unfold xpD
  split
  all_goals first
    | exact nx_stuck
    | exact nx_ok
    | exact nx_iff nx_ok
    | exact nx_bind nx_ofO fun _ => nx_ok
    | exact nx_bind nx_ofO fun _ => nx_iff nx_ok
    | exact nx_iff (nx_bind nx_ofO fun _ => nx_iff nx_ok)
    | exact nx_bind nx_ofO fun ns => by cases ns <;> exact nx_ok
/-- the new list, the new tuple of a range -/
theorem rgV_reps {B : Addr → Prop} {H : Hp} (i j : Int) : reps G B H (rngL i (j - i).toNat) (rgV i j) := by
  unfold rngL rgV
  exact reps_map (f := fun k : Nat => D.int (i + k)) (g := fun k : Nat => V.int (i + k)) (fun k => (rfl : V.int _ = V.int _)) _
theorem rg_ok {i j : Int} (h1 : rngOk i = true) (h2 : rngOk j = true) (h3 : j - i ≤ 1000000) : RgOk i j := by
  have a := of_decide_eq_true h1
  have b := of_decide_eq_true h2
  exact ⟨a.1, a.2, b.1, b.2, by omega⟩
theorem insI_mem {a k : Int} : ∀ {l : List Int}, k ∈ insI a l ↔ k = a ∨ k ∈ l
  | [] => by simp [insI]
  | b :: l => by
    unfold insI
    split
    · simp
    · split
      · rename_i e
        subst e
        simp
      · rw [List.mem_cons, insI_mem, List.mem_cons]
        exact ⟨fun h => h.elim (fun h => .inr (.inl h)) fun h => h.elim .inl fun h => .inr (.inr h), fun h => h.elim (fun h => .inr (.inl h)) fun h => h.elim .inl fun h => .inr (.inr h)⟩
theorem insI_lt {a : Int} : ∀ {l : List Int}, l.Pairwise (· < ·) → (insI a l).Pairwise (· < ·)
  | [], _ => by simp [insI]
  | b :: l, h => by
    have h' := List.pairwise_cons.mp h
    unfold insI
    split
    · rename_i q
      refine List.pairwise_cons.mpr ⟨fun c hc => ?_, h⟩
      rcases List.mem_cons.mp hc with rfl | hc
      · exact q
      · have := h'.1 c hc
        omega
    · split
      · exact h
      · refine List.pairwise_cons.mpr ⟨fun c hc => ?_, insI_lt h'.2⟩
        rcases insI_mem.mp hc with rfl | hc
        · omega
        · exact h'.1 c hc
theorem sortI_mem {k : Int} : ∀ {l : List Int}, k ∈ sortI l ↔ k ∈ l
  | [] => Iff.rfl
  | a :: l => by
    show k ∈ insI a (sortI l) ↔ _
    rw [insI_mem, sortI_mem, List.mem_cons]
theorem sortI_lt : ∀ l : List Int, (sortI l).Pairwise (· < ·)
  | [] => .nil
  | a :: l => insI_lt (sortI_lt l)
theorem lt_unique : ∀ {l m : List Int}, l.Pairwise (· < ·) → m.Pairwise (· < ·) → (∀ s, s ∈ l ↔ s ∈ m) → l = m
  | [], [], _, _, _ => rfl
  | [], b :: m, _, _, h => nomatch (h b).mpr List.mem_cons_self
  | a :: l, [], _, _, h => nomatch (h a).mp List.mem_cons_self
  | a :: l, b :: m, hl, hm, h => by
    have hl' := List.pairwise_cons.mp hl
    have hm' := List.pairwise_cons.mp hm
    have e : a = b := by
      rcases List.mem_cons.mp ((h a).mp List.mem_cons_self) with e | e
      · exact e
      · rcases List.mem_cons.mp ((h b).mpr List.mem_cons_self) with e' | e'
        · exact e'.symm
        · have := hm'.1 a e
          have := hl'.1 b e'
          omega
    subst e
    refine congrArg (a :: ·) (lt_unique hl'.2 hm'.2 fun s => ⟨fun hs => ?_, fun hs => ?_⟩)
    · rcases List.mem_cons.mp ((h s).mp (List.mem_cons_of_mem _ hs)) with e | e
      · have := hl'.1 s hs
        omega
      · exact e
    · rcases List.mem_cons.mp ((h s).mpr (List.mem_cons_of_mem _ hs)) with e | e
      · have := hm'.1 s hs
        omega
      · exact e
theorem rd_same {H H' : Hp} {a : Addr} {u : HO} (s : Same G H H') (nt : ∀ ps, u ≠ .tbl ps) (t : Rd H a u) : Rd H' a u :=
  t.elim (fun e => .inl (s.ext a _ e nt)) fun ⟨o, e⟩ => .inr ⟨o, s.ext a _ e fun ps z => (nomatch z)⟩
theorem hmB (c : Cxk G M N sc lvl W X) (F : Facts G M T lvl) : ∀ n, n ∈ bltNames → X.mg n = none := fun n h => by rw [c.gx.mg]; exact F.blt n h
theorem se_xp1 (c : Cxk G M N sc lvl W X) (F : Facts G M T lvl) (hcm : M.calm = true) (x : XP) (h : xpArg1 sc x e = some y) (ha : SE G T X W y a ta) : noBl e = true ∧ ∃ te, SE G T X W e (.xp1 x a) te := by
  unfold xpArg1 at h
  split at h
  · rename_i xx p0 yy k n1 p1 p2 p3
    split at h
    · rename_i hc
      cases h
      simp only [Bool.and_eq_true, decide_eq_true_eq] at hc
      obtain ⟨⟨⟨rfl, hg⟩, rfl⟩, ns⟩ := hc
      refine ⟨rfl, fun σ H Q => ta σ H fun v H1 => ∃ (B : Addr → Prop) (l : Addr) (ds : List D) (vs : List V), v = .ref l ∧ Dom B H1 ∧ Rd H1 l (.lst vs) ∧ reps G B H1 ds vs ∧ sortOk ds = true ∧ PostV G B H1 (.ok (.lst (revSortL ds))) Q, SE.of rfl rfl ⟨fun pins s σ H Q I h => ?_⟩ fun B H0 ρ σ H Q r p => ?_⟩
      · have st := noSt_is ns [] X.env
        refine wpAny_Call_Name_kw (ld_blt I (gl_of hg c.sc) (hmB c F _ (by decide)) PyProof.Rows.boot_sorted ?_ (by decide) (by decide))
        refine PyProof.Rows.callWith_kw (thn ((pa_cons ha.pe pa_nil st).run _ pins s σ H (fun xs H1 => match xs with
            | [v] => ∃ (B : Addr → Prop) (l : Addr) (ds : List D) (vs : List V), v = .ref l ∧ Dom B H1 ∧ Rd H1 l (.lst vs) ∧ reps G B H1 ds vs ∧ sortOk ds = true ∧ PostV G B H1 (.ok (.lst (revSortL ds))) Q
            | _ => False) I h) fun us s1 ⟨xs, H1, I1, r1, q⟩ => ?_) (by rw [st]; rfl) (by rw [st]; rfl)
        match xs, q, r1 with
        | [v], q, r1 =>
          obtain ⟨u, rfl, ru⟩ := vals1 r1
          obtain ⟨B, l, ds, vs, rfl, dm, t, rr, so, p⟩ := q
          cases ru
          refine PyProof.Rows.kws_cons (thn (pe_bl.run pins s1 σ H1 (fun w H2 => w = .bl true ∧ H2 = H1) I1 ⟨rfl, rfl⟩) fun kv s2 ⟨w, H2, I2, rw_, ew, eH⟩ => ?_)
          subst ew eH
          cases rw_
          refine PyProof.Rows.kws_nil ?_
          exact sorted_run (b := true) c.gx c.hu I2 dm t rr so (.inr rfl) p
      · refine ha.pk B H0 ρ σ H _ r (PostR.bnd p fun dx vx H1 s1 h1 p1 => ?_)
        cases dx with
        | lst l =>
          obtain ⟨cc, p2⟩ := PostR.iff (b := sortOk l && decide (l.length ≤ LIM)) p1
          rw [Bool.and_eq_true] at cc
          obtain ⟨ad, vs, rfl, t, rr⟩ := h1
          exact ⟨Blk B ρ σ, ad, l, vs, rfl, (r.mono s1).bdom, t, rr, cc.1, p2⟩
        | _ => exact p1.elim
    · cases h
  · rename_i xx p0 zz p1 yy p2 p3
    split at h
    · rename_i hc
      cases h
      simp only [Bool.and_eq_true, decide_eq_true_eq] at hc
      obtain ⟨⟨⟨⟨rfl, hg⟩, rfl⟩, hg2⟩, ns⟩ := hc
      refine ⟨rfl, _, SE.of rfl rfl (pe_tupRg (c.calm hcm) (gl_of hg c.sc) (hmB c F _ (by decide)) (prg_1 (gl_of hg2 c.sc) (hmB c F _ (by decide)) ha.pe (noSt_is ns [] _))) fun B H0 ρ σ H Q r p => ?_⟩
      refine ha.pk B H0 ρ σ H _ r (PostR.bnd p fun dx vx H1 s1 h1 p1 => ?_)
      cases dx with
      | int n =>
        obtain ⟨cc, p2⟩ := PostR.iff (b := rngOk n && decide (n ≤ 1000000)) p1
        rw [Bool.and_eq_true] at cc
        have e2 : (n - 0).toNat = n.toNat := by rw [Int.sub_zero]
        refine ⟨n, h1, rg_ok (by decide) cc.1 (by have := of_decide_eq_true cc.2; omega), fun q n0 => p2 _ _ (Same.upd_new n0) ⟨q, rgV 0 n, rfl, ⟨upd_same, (r.mono s1).bdom.new n0⟩, ?_⟩⟩
        have z := rgV_reps (G := G) (B := Blk B ρ σ) (H := upd H1 q (.tup (rgV 0 n))) 0 n
        rw [e2] at z
        exact z
      | _ => exact p1.elim
    · cases h
  · rename_i xx p0 zz p1 yy p2 p3
    split at h
    · rename_i hc
      cases h
      simp only [Bool.and_eq_true, decide_eq_true_eq] at hc
      obtain ⟨⟨⟨⟨rfl, hg⟩, rfl⟩, hg2⟩, ns⟩ := hc
      refine ⟨rfl, _, SE.of rfl rfl (pe_listRg (c.calm hcm) (gl_of hg c.sc) (hmB c F _ (by decide)) (prg_1 (gl_of hg2 c.sc) (hmB c F _ (by decide)) ha.pe (noSt_is ns [] _))) fun B H0 ρ σ H Q r p => ?_⟩
      refine ha.pk B H0 ρ σ H _ r (PostR.bnd p fun dx vx H1 s1 h1 p1 => ?_)
      cases dx with
      | int n =>
        obtain ⟨cc, p2⟩ := PostR.iff (b := rngOk n && decide (n ≤ 1000000)) p1
        rw [Bool.and_eq_true] at cc
        have e2 : (n - 0).toNat = n.toNat := by rw [Int.sub_zero]
        refine ⟨n, h1, rg_ok (by decide) cc.1 (by have := of_decide_eq_true cc.2; omega), fun q n0 => p2 _ _ (Same.upd_new n0) ⟨q, rgV 0 n, rfl, .inl upd_same, (r.mono s1).bdom.new n0, ?_⟩⟩
        have z := rgV_reps (G := G) (B := Blk B ρ σ) (H := upd H1 q (.lst (rgV 0 n))) 0 n
        rw [e2] at z
        exact z
      | _ => exact p1.elim
    · cases h
  · rename_i xx p0 zz p1 yy p2 p3
    split at h
    · rename_i hc
      cases h
      simp only [Bool.and_eq_true, decide_eq_true_eq] at hc
      obtain ⟨⟨⟨⟨rfl, hg⟩, rfl⟩, hg2⟩, ns⟩ := hc
      refine ⟨rfl, _, SE.of rfl rfl (pe_sortSet (c.calm hcm) (gl_of hg c.sc) (hmB c F _ (by decide)) (gl_of hg2 c.sc) (hmB c F _ (by decide)) ha.pe (noSt_is ns [] _)) fun B H0 ρ σ H Q r p => ?_⟩
      refine ha.pk B H0 ρ σ H _ r (PostR.bnd p fun dx vx H1 s1 h1 p1 => ?_)
      cases dx with
      | lst l =>
        obtain ⟨ms, em, p2⟩ := PostR.pure nx_ofO p1
        obtain ⟨cc, p3⟩ := PostR.iff (b := decide (l.length < 64)) p2
        have em : intsD l = some ms := by
          cases q : intsD l with
          | none => rw [q] at em; cases em
          | some z => rw [q] at em; cases em; rfl
        obtain ⟨ad, vs, rfl, t, rr⟩ := h1
        have ev := reps_ints rr em
        subst ev
        have hl : ms.length < 64 := by
          have := reps_len rr
          rw [List.length_map] at this
          have := of_decide_eq_true cc
          omega
        refine ⟨ad, ms, rfl, t, hl, fun out q so mem q0 => p3 _ _ (Same.upd_new q0) ⟨q, _, rfl, .inl upd_same, (r.mono s1).bdom.new q0, ?_⟩⟩
        rw [lt_unique so (sortI_lt ms) fun k => by rw [mem, sortI_mem]]
        exact reps_map (f := D.int) (g := V.int) (fun k => (rfl : V.int _ = V.int _)) _
      | _ => exact p1.elim
    · cases h
  · rename_i xx p0 zz p1 yy p2 p3
    split at h
    · rename_i hc
      cases h
      simp only [Bool.and_eq_true, decide_eq_true_eq] at hc
      obtain ⟨⟨⟨⟨rfl, hg⟩, rfl⟩, hg2⟩, ns⟩ := hc
      refine ⟨rfl, _, SE.of rfl rfl (pe_lstRev (c.calm hcm) (gl_of hg c.sc) (hmB c F _ (by decide)) (gl_of hg2 c.sc) (hmB c F _ (by decide)) ha.pe (noSt_is ns [] _)) fun B H0 ρ σ H Q r p => ?_⟩
      refine ha.pk B H0 ρ σ H _ r (PostR.bnd p fun dx vx H1 s1 h1 p1 => ?_)
      cases dx with
      | lst l =>
        obtain ⟨ad, vs, rfl, t, rr⟩ := h1
        exact ⟨ad, vs, rfl, t, fun q q0 => p1 _ _ (Same.upd_new q0) ⟨q, _, rfl, .inl upd_same, (r.mono s1).bdom.new q0, reps_same (Same.upd_new q0) (reps_rev rr)⟩⟩
      | _ => exact p1.elim
    · cases h
  · rename_i xx p0 yy p1
    split at h
    · rename_i hc
      cases h
      simp only [Bool.and_eq_true, decide_eq_true_eq] at hc
      obtain ⟨⟨rfl, hg⟩, ns⟩ := hc
      refine ⟨rfl, _, SE.of rfl rfl (pe_tupX (gl_of hg c.sc) (hmB c F _ (by decide)) ha.pe (noSt_is ns [] _)) fun B H0 ρ σ H Q r p => ?_⟩
      refine ha.pk B H0 ρ σ H _ r (PostR.bnd p fun dx vx H1 s1 h1 p1 => ?_)
      cases dx with
      | lst l =>
        obtain ⟨ad, vs, rfl, t, rr⟩ := h1
        exact ⟨ad, vs, rfl, t, fun q o q0 od => p1 _ _ (Same.upd_new q0) ⟨q, vs, rfl, .inr (.inr ⟨rfl, rfl, o, od, upd_same⟩), (r.mono s1).bdom.new q0, reps_same (Same.upd_new q0) rr⟩⟩
      | _ => exact p1.elim
    · cases h
  · rename_i xx p0 yy p1
    split at h
    · rename_i hc
      cases h
      simp only [Bool.and_eq_true, decide_eq_true_eq] at hc
      obtain ⟨⟨rfl, hg⟩, ns⟩ := hc
      refine ⟨rfl, _, SE.of rfl rfl (pe_dictT (G := G) c.hu (c.calm hcm) (gl_of hg c.sc) (hmB c F _ (by decide)) ha.pe (noSt_is ns [] _)) fun B H0 ρ σ H Q r p => ?_⟩
      refine ha.pk B H0 ρ σ H _ r (PostR.bnd p fun dx vx H1 s1 h1 p1 => ?_)
      cases dx with
      | lst l =>
        obtain ⟨pr, em, p2⟩ := PostR.pure nx_ofO p1
        obtain ⟨cc, p3⟩ := PostR.iff (b := pr.1.all (keyOk 1) && nodupK pr.1 && decide (l.length ≤ LIM)) p2
        have em : pairsOf l = some (pr.1, pr.2) := by
          cases q : pairsOf l with
          | none => rw [q] at em; cases em
          | some z => rw [q] at em; cases em; rfl
        rw [Bool.and_eq_true, Bool.and_eq_true] at cc
        obtain ⟨ad, vs, rfl, t, rr⟩ := h1
        exact ⟨Blk B ρ σ, ad, vs, l, pr.1, pr.2, rfl, .inl t, rr, em, cc.1.1, cc.1.2, (r.mono s1).bdom, p3⟩
      | dct tt ks0 l =>
        obtain ⟨t2, p1⟩ := PostR.iff (b := decide (tt = 2)) p1
        obtain ⟨pr, em, p2⟩ := PostR.pure nx_ofO p1
        obtain ⟨cc, p3⟩ := PostR.iff (b := pr.1.all (keyOk 1) && nodupK pr.1 && decide (l.length ≤ LIM)) p2
        have em : pairsOf l = some (pr.1, pr.2) := by
          cases q : pairsOf l with
          | none => rw [q] at em; cases em
          | some z => rw [q] at em; cases em; rfl
        rw [Bool.and_eq_true, Bool.and_eq_true] at cc
        obtain ⟨ad, vs, rfl, t, rr⟩ := h1
        have t2 := of_decide_eq_true t2
        rcases t with ⟨kvs, z, _⟩ | ⟨kvs, z, _⟩ | ⟨_, _, o, od, t⟩
        · omega
        · omega
        · exact ⟨Blk B ρ σ, ad, vs, l, pr.1, pr.2, rfl, .inr ⟨o, od, t⟩, rr, em, cc.1.1, cc.1.2, (r.mono s1).bdom, p3⟩
      | _ => exact p1.elim
    · cases h
  · cases h
theorem se_xp2 (c : Cxk G M N sc lvl W X) (F : Facts G M T lvl) (hcm : M.calm = true) (x : XP) (h : xpArg2 sc x e = some (y, z)) (ha : SE G T X W y a ta) (hb : SE G T X W z b tb) (hq : x = .index → quietE b = true) : noBl e = true ∧ ∃ te, SE G T X W e (.xp2 x a b) te := by
  unfold xpArg2 at h
  split at h
  · split at h
    · rename_i hc
      cases h
      simp only [Bool.and_eq_true, decide_eq_true_eq] at hc
      obtain ⟨⟨⟨⟨⟨rfl, hg⟩, rfl⟩, hg2⟩, n1⟩, n2⟩ := hc
      refine ⟨rfl, _, SE.of rfl rfl (pe_tupRg (c.calm hcm) (gl_of hg c.sc) (hmB c F _ (by decide)) (prg_2 (gl_of hg2 c.sc) (hmB c F _ (by decide)) ha.pe hb.pe (noSt_is n1 _ _) (noSt_is n2 _ _) (by rw [noSt_is n2]; rfl))) fun B H0 ρ σ H Q r p => ?_⟩
      refine ha.pk B H0 ρ σ H _ r (PostR.bnd p fun dx vx H1 s1 h1 p1 => hb.pk B H0 ρ σ H1 _ (r.mono s1) (PostR.bnd p1 fun dy vy H2 s2 h2 p2 => ?_))
      cases dx with
      | int i =>
        cases dy with
        | int j =>
          obtain ⟨cc, p3⟩ := PostR.iff (b := rngOk i && rngOk j && decide (j - i ≤ 1000000)) p2
          rw [Bool.and_eq_true, Bool.and_eq_true] at cc
          refine ⟨i, j, h1, h2, rg_ok cc.1.1 cc.1.2 (of_decide_eq_true cc.2), fun q n0 => p3 _ _ (Same.upd_new n0) ⟨q, rgV i j, rfl, ⟨upd_same, ((r.mono s1).mono s2).bdom.new n0⟩, rgV_reps i j⟩⟩
        | _ => exact p2.elim
      | _ => first | exact p2.elim | (cases dy <;> exact p2.elim)
    · cases h
  · rename_i xx p0 yy k ww kp p1
    split at h
    · rename_i hc
      cases h
      simp only [Bool.and_eq_true, decide_eq_true_eq] at hc
      obtain ⟨⟨⟨rfl, hg⟩, rfl⟩, n1⟩ := hc
      refine ⟨rfl, _, SE.of rfl rfl (pe_maxD c.hu (c.calm hcm) (gl_of hg c.sc) (hmB c F _ (by decide)) ha.pe hb.pe (noSt_is n1 [] _)) fun B H0 ρ σ H Q r p => ?_⟩
      refine ha.pk B H0 ρ σ H _ r (PostR.bnd p fun dx vx H1 s1 h1 p1 => hb.pk B H0 ρ σ H1 _ (r.mono s1) (PostR.bnd p1 fun dy vy H2 s2 h2 p2 => ?_))
      cases dx with
      | lst l =>
        cases dy with
        | int d =>
          obtain ⟨ms, em, p3⟩ := PostR.pure nx_ofO p2
          have em : intsD l = some ms := by
            cases q : intsD l with
            | none => rw [q] at em; cases em
            | some z => rw [q] at em; cases em; rfl
          obtain ⟨ad, vs, rfl, t, rr⟩ := h1
          have ev := reps_ints rr em
          subst ev
          refine ⟨ad, ms, rfl, rd_same s2 (fun ps z => nomatch z) t, ?_⟩
          cases ms with
          | nil =>
            have e2 : vy = .int d := h2
            rw [e2]
            exact PostR.at_ p3 (rfl : V.int _ = V.int _)
          | cons n ms => exact PostR.at_ p3 (rfl : V.int _ = V.int _)
        | _ => exact p2.elim
      | _ => first | exact p2.elim | (cases dy <;> exact p2.elim)
    · cases h
  · rename_i xx p0 yy k ww kp p1
    split at h
    · rename_i hc
      cases h
      simp only [Bool.and_eq_true, decide_eq_true_eq] at hc
      obtain ⟨⟨⟨rfl, hg⟩, rfl⟩, n1⟩ := hc
      refine ⟨rfl, _, SE.of rfl rfl (pe_minD c.hu (c.calm hcm) (gl_of hg c.sc) (hmB c F _ (by decide)) ha.pe hb.pe (noSt_is n1 [] _)) fun B H0 ρ σ H Q r p => ?_⟩
      refine ha.pk B H0 ρ σ H _ r (PostR.bnd p fun dx vx H1 s1 h1 p1 => hb.pk B H0 ρ σ H1 _ (r.mono s1) (PostR.bnd p1 fun dy vy H2 s2 h2 p2 => ?_))
      cases dx with
      | lst l =>
        cases dy with
        | int d =>
          obtain ⟨ms, em, p3⟩ := PostR.pure nx_ofO p2
          have em : intsD l = some ms := by
            cases q : intsD l with
            | none => rw [q] at em; cases em
            | some z => rw [q] at em; cases em; rfl
          obtain ⟨ad, vs, rfl, t, rr⟩ := h1
          have ev := reps_ints rr em
          subst ev
          refine ⟨ad, ms, rfl, rd_same s2 (fun ps z => nomatch z) t, ?_⟩
          cases ms with
          | nil =>
            have e2 : vy = .int d := h2
            rw [e2]
            exact PostR.at_ p3 (rfl : V.int _ = V.int _)
          | cons n ms => exact PostR.at_ p3 (rfl : V.int _ = V.int _)
        | _ => exact p2.elim
      | _ => first | exact p2.elim | (cases dy <;> exact p2.elim)
    · cases h
  · rename_i yy m ap ww cp
    split at h
    · rename_i hc
      cases h
      simp only [Bool.and_eq_true, decide_eq_true_eq] at hc
      obtain ⟨⟨⟨rfl, ln⟩, ob⟩, n1⟩ := hc
      refine ⟨rfl, _, SE.of rfl rfl (pe_m1 PySem.F.slot_str_index PySem.F.type_str_index mt_sindex ha.pe hb.pe (noSt_is n1 [] _) (abase ob) ln) fun B H0 ρ σ H Q r p => ?_⟩
      refine ha.pk B H0 ρ σ H _ r (PostR.bnd p fun dx vx H1 s1 h1 p1 => ?_)
      cases dx with
      | str v =>
        have h1 : vx = .str v := h1
        subst h1
        refine ⟨⟨v, rfl⟩, hb.pk B H0 ρ σ H1 _ (r.mono s1) (PostR.bnd p1 fun dy vy H2 s2 h2 p2 => ?_)⟩
        cases dy with
        | str u =>
          have h2 : vy = .str u := h2
          subst h2
          obtain ⟨i, em, p3⟩ := PostR.pure nx_ofO p2
          cases q : Builtin.Str.occurrences v u 0 v.length 1 with
          | nil =>
            rw [q] at em
            cases em
          | cons j rest =>
            rw [q] at em
            have em := R.ok.inj em
            subst em
            exact ⟨v, u, j, rest, rfl, rfl, q, PostR.at_ p3 (rfl : V.int _ = V.int _)⟩
        | _ => exact p2.elim
      | _ =>
        obtain ⟨dy, _, p2⟩ := PostR.pure (nx_quiet (hq rfl) ρ) p1
        cases dy <;> exact p2.elim
    · cases h
  · cases h
end
end Ir

/-! Ir9t: texts: the size of a set of texts, tuple(dict), join, split, partition, startswith, index, f-strings. -/
namespace Ir
open PySem PySem.Spec PySem.Calls PyProof.Rows L2 RT SS
theorem firstsS_snoc : ∀ (l : List Str) (a : Str), firstsS (l ++ [a]) = if a ∈ l then firstsS l else firstsS l ++ [a]
  | [], a => by
    rw [if_neg (fun h => nomatch h)]
    rfl
  | b :: l, a => by
    show b :: (firstsS (l ++ [a])).filter (fun c => decide (c ≠ b)) = if a ∈ b :: l then b :: (firstsS l).filter (fun c => decide (c ≠ b)) else b :: (firstsS l).filter (fun c => decide (c ≠ b)) ++ [a]
    rw [firstsS_snoc l a]
    by_cases h1 : a ∈ l
    · rw [if_pos h1, if_pos (List.mem_cons_of_mem _ h1)]
    · rw [if_neg h1, List.filter_append]
      by_cases h2 : a = b
      · rw [if_pos (by rw [h2]; exact List.mem_cons_self), List.filter_cons_of_neg (by simp [h2]), List.filter_nil, List.append_nil]
      · rw [if_neg (fun z => (List.mem_cons.mp z).elim h2 h1), List.filter_cons_of_pos (by simp [h2]), List.filter_nil]
        rfl
theorem firstsS_len : ∀ l : List Str, (firstsS l).length ≤ l.length
  | [] => Nat.le_refl _
  | a :: l => by
    have ih := firstsS_len l
    have z := List.length_filter_le (fun b => decide (b ≠ a)) (firstsS l)
    show (firstsS l |>.filter fun b => decide (b ≠ a)).length + 1 ≤ l.length + 1
    omega
section
variable {prog : Program} {w : World} {A : Around} {R : Result → Shared → Prop} {I : Addr} {fp wr : List Addr} {G : Array GenState → Array GenState → Prop} {n : Nat} {P : Nat → Value → Prop} {St : Nat → Shared → Prop}
theorem loopStrN (W : WalksS prog w A.in1 I fp wr G n P St) (S : Addr) (hSf : S ∉ fp) (xs : List Str) (hsz : xs.length = n) (hb : n + 1 < scanBound)
    (hval : ∀ i v, P i v → ∃ t, v = .str (xs.getD i Str.empty) t) :
    ∀ (k i : Nat) (s : Shared), n - i = k → i ≤ n → St i s →
      s.heap.SetOf (PySem.strKind prog w) S (fun k' => (xs.take i).any (· == k')) (firstsS (xs.take i)).length →
      (∀ s', Moved (S :: wr) G s s' → s'.heap.SetOf (PySem.strKind prog w) S (fun k' => (xs.take n).any (· == k')) (firstsS (xs.take n)).length → R (.ok (.ret .none)) s') →
      codeAny (model prog w) A (.builtin "set.update.loop" ⟨[.ref S, .ref I], []⟩) R s := by
  have hSw : S ∉ wr := fun h => hSf (W.sub _ h)
  have hsub : ∀ b ∈ wr, b ∈ S :: wr := fun b hb => List.mem_cons_of_mem _ hb
  intro k
  induction k with
  | zero =>
    intro i s hk hi hst hS hR
    have hin : i = n := by omega
    subst hin
    refine codeAny_builtin PyProof.Rows.F.entry_set_update_loop ?_
    rw [Around.under_plainId PyProof.Rows.F.plain_set_update_loop _]
    show wpAny _ A.in1 (pyNext (.ref I) >>= _) _ _ s
    refine wpAny_bind (W.done s _ _ hst fun s' hm => ?_)
    show wpAny _ A.in1 (ret Value.none) _ _ s'
    exact wpAny_pure (hR s' (hm.mono hsub) (by
      obtain ⟨o, es, ep, t, ho, rest⟩ := hS
      exact ⟨o, es, ep, t, hm.heap S _ hSw ho, rest⟩))
  | succ k ih =>
    intro i s hk hi hst hS hR
    have hlt : i < n := by omega
    refine codeAny_builtin PyProof.Rows.F.entry_set_update_loop ?_
    rw [Around.under_plainId PyProof.Rows.F.plain_set_update_loop _]
    show wpAny _ A.in1 (pyNext (.ref I) >>= _) _ _ s
    refine wpAny_bind (W.item i s _ _ hlt hst fun v s' hP hst' hm => ?_)
    obtain ⟨t, rfl⟩ := hval i v hP
    have hS' : s'.heap.SetOf (PySem.strKind prog w) S (fun k' => (xs.take i).any (· == k')) (firstsS (xs.take i)).length := by
      obtain ⟨o, es, ep, tb, ho, rest⟩ := hS
      exact ⟨o, es, ep, tb, hm.heap S _ hSw ho, rest⟩
    show wpAny _ A.in1 (holding [Value.str (xs.getD i Str.empty) t] (setAdd S (.str (xs.getD i Str.empty) t)) >>= _) _ _ s'
    refine wpAny_bind (wpAny_holding ?_)
    unfold setAdd
    refine wpAny_holding ?_
    refine wpAny_bind ((PySem.strKind prog w).pyHash (k := xs.getD i Str.empty) (strKind_is _ _ _ _) ?_)
    have lf := firstsS_len (xs.take i)
    have lt := List.length_take_le i xs
    refine wpAny_setAddHashed_of (knd := PySem.strKind prog w) (s := { s' with toks := s'.toks + 1 }) (strKind_is _ _ _ _) rfl hS' (by omega) fun h' hsb hS2 => ?_
    have hSi : h'.SetOf (PySem.strKind prog w) S (fun k' => (xs.take (i + 1)).any (· == k')) (firstsS (xs.take (i + 1))).length := by
      have et : xs.take (i + 1) = xs.take i ++ [xs.getD i Str.empty] := by
        rw [List.take_add_one, List.getD_eq_getElem?_getD, List.getElem?_eq_getElem (by omega)]
        rfl
      rw [et]
      refine SetOf_congr hS2 (fun k' => ?_) ?_
      · rw [List.any_append, List.any_cons, List.any_nil, Bool.or_false]
        congr 1
        by_cases e : k' = xs.getD i Str.empty
        · rw [decide_eq_true e, e, beq_self_eq_true]
        · rw [decide_eq_false e]
          exact (beq_eq_false_iff_ne.mpr fun z => e z.symm).symm
      · rw [firstsS_snoc]
        by_cases m : xs.getD i Str.empty ∈ xs.take i
        · have z : (xs.take i).any (· == xs.getD i Str.empty) = true := List.any_eq_true.mpr ⟨_, m, beq_self_eq_true _⟩
          rw [z, if_pos rfl, if_pos m]
        · have z : (xs.take i).any (· == xs.getD i Str.empty) = false := by
            rw [Bool.eq_false_iff]
            intro z
            obtain ⟨y, hy, e⟩ := List.any_eq_true.mp z
            rw [beq_iff_eq] at e
            exact m (e ▸ hy)
          rw [z, if_neg Bool.false_ne_true, if_neg m, List.length_append]
          rfl
    refine wpAny_pure ⟨plainId_quiet PyProof.Rows.F.plain_set_update_loop _, ih (i + 1) _ (by omega) hlt (W.frame _ s' _ _ hst' (Nat.le_succ _) fun b hb o e => ?_) hSi fun s'' hm'' hS'' => ?_⟩
    · rw [hsb.2 b (fun h : b = S => hSf (by rw [← h]; exact hb))]; exact e
    · refine hR s'' (Moved.trans W.gtrans ((hm.mono hsub).then_heap (Nat.le_succ _) fun b o hb e => ?_) hm'') hS''
      rw [hsb.2 b (fun h : b = S => hb (by rw [h]; exact List.mem_cons_self))]; exact e
end
section
variable {prog : Program} {w : World} {A : Around} {E : Value → Shared → Prop} {s : Shared}
set_option maxHeartbeats 3200000 in
theorem call_set_listN {l : Addr} {items : Array Value} {xs : List Str} {Q : Value → Shared → Prop}
    (hh : A.handled = none) (hl : s.heap.IsList l items) (hi : PyProof.Rows.StrsAre items.toList xs) (hn1 : xs.length + 1 < scanBound)
    (h : ∀ (h' : Heap) (tk : Nat), h'.SetOf (PySem.strKind prog w) s.heap.objs.size (fun k' => (xs.take items.size).any (· == k')) (firstsS (xs.take items.size)).length →
      (∀ b o, b < s.heap.objs.size → s.heap.get? b = some o → h'.get? b = some o) → Q (.ref s.heap.objs.size) { s with heap := h', toks := tk }) :
    wpAny (model prog w) A (call (.type "set") [.ref l]) Q E s := by
  obtain ⟨c, tl, hmro⟩ := PySem.F.called_set.mro
  have hmade := PySem.F.called_set.made
  have hsub := PySem.F.called_set.sub
  refine wpAny_call (codeAny_of_tree ?_)
  show wpAny _ _ (callAny (.type "set") _) _ _ _
  refine wpAny_pure ⟨Code.quiet_builtin _ (by decide +kernel), codeAny_builtin PySem.F.entry_type_call ?_⟩
  rw [Around.under_plain (weight_type_call_type "set" [.ref l] []) rfl]
  have h1 := PySem.F.called_set.notType
  have h2 := PySem.F.called_set.canCreate
  have hct := PySem.F.typeCall_set_1 (.ref l)
  repeat (any_goals (first | assumption | wp_step))
  refine codeAny_mono (code_set_new_1 (.ref l) (E := E) (Q₁ := fun obj s₁ => ∃ led : Bool, obj = .ref s.heap.objs.size ∧ s₁ = { s with heap := s.heap.push { cls := .type "set", dict := none, data := .set #[] 0 (.fresh 0 0 led) } }) fun led => ⟨led, rfl, rfl⟩) fun r s₁ hr => ?_
  cases r with
  | error e => exact hr
  | ok fl =>
    cases fl with
    | ret obj =>
      obtain ⟨led, rfl, rfl⟩ := hr
      have hS : (s.heap.push { cls := .type "set", dict := none, data := .set #[] 0 (.fresh 0 0 led) }).get? s.heap.objs.size = some { cls := .type "set", dict := none, data := .set #[] 0 (.fresh 0 0 led) } := Heap.get?_push_size _ rfl
      have hT : Shared.TypeIs { s with heap := s.heap.push { cls := .type "set", dict := none, data := .set #[] 0 (.fresh 0 0 led) } } (.ref s.heap.objs.size) "set" := ⟨_, hS, rfl⟩
      have hli := PySem.F.called_set.init.lookup
      have hbi := PySem.F.called_set.init.bind (.ref s.heap.objs.size)
      repeat (any_goals (first | assumption | wp_step))
      refine codeAny_mono (codeAny_call_builtin (R := wants (fun r s₂ => r = .none ∧ ∃ h' tk, s₂ = { s with heap := h', toks := tk } ∧
          h'.SetOf (PySem.strKind prog w) s.heap.objs.size (fun k' => (xs.take items.size).any (· == k')) (firstsS (xs.take items.size)).length ∧
          (∀ b o, b < s.heap.objs.size → s.heap.get? b = some o → h'.get? b = some o)) E) PySem.F.called_set.init.plain PySem.F.entry_set_init (check_set_init_1 hT ?_)) fun r₂ s₂ hr₂ => ?_
      · obtain ⟨ol, hol, hcl, nl, hdl⟩ := hl
        obtain ⟨ocls, odict, odata, oslots⟩ := ol
        simp only at hcl hdl
        subst hcl; subst hdl
        have hol' : (s.heap.push { cls := .type "set", dict := none, data := .set #[] 0 (.fresh 0 0 led) }).get? l = some { cls := .type "list", dict := odict, data := .seq items nl, slots := oslots } := Heap.get?_push_of_some _ hol
        have hsls := PySem.F.sub_list_set
        have hslf := PySem.F.sub_list_frozenset
        have hne : (Value.type "list" == Value.type "dict") = false := by decide
        have hl1 : (s.heap.push { cls := .type "set", dict := none, data := .set #[] 0 (.fresh 0 0 led) }).IsList l items := ⟨_, hol', rfl, nl, rfl⟩
        unfold Builtin.«set.__init__» noKeywords Builtin.Frozenset.updateFrom
        generalize hPI : pyIter = PI
        wp_walk
        subst hPI
        refine wpAny_pyIter_list hl1 ?_
        refine wpAny_bind (wpAny_runValue ?_)
        have hlS : l < s.heap.objs.size := Heap.lt_size hol
        have hh3 : A.in1.in1.in1.handled = none := by simp [hh]
        have hneI : l ≠ (s.heap.push { cls := .type "set", dict := none, data := .set #[] 0 (.fresh 0 0 led) }).objs.size := by
          rw [Heap.size_push]; exact Nat.ne_of_lt (Nat.lt_succ_of_lt hlS)
        have hSf : s.heap.objs.size ∉ [(s.heap.push { cls := .type "set", dict := none, data := .set #[] 0 (.fresh 0 0 led) }).objs.size, l] := by
          rw [Heap.size_push]; simp only [List.mem_cons, List.mem_singleton, List.not_mem_nil, or_false, not_or]
          exact ⟨Nat.ne_of_lt (Nat.lt_succ_self _), Nat.ne_of_gt hlS⟩
        have hsz : xs.length = items.size := by rw [← StrsAre.len_eq hi, Array.length_toList]
        have hval : ∀ (i : Nat) (v : Value), items[i]? = some v → ∃ t, v = .str (xs.getD i Str.empty) t := fun i v hv => strs_at hi i v (by rw [Array.getElem?_toList]; exact hv)
        refine loopStrN ((Walks.list hh3 _ l hneI items).toS) s.heap.objs.size
          hSf xs hsz (by rw [← hsz]; exact hn1) hval (items.size - 0) 0 _ (by omega) (Nat.zero_le _)
          ⟨⟨_, Heap.get?_push_size _ rfl, rfl, rfl⟩, (hl1.push _)⟩ ?hS0 ?hR
        case hS0 =>
          have hget : ((s.heap.push { cls := .type "set", dict := none, data := .set #[] 0 (.fresh 0 0 led) }).push { cls := .type "list_iterator", data := .fields #[.ref l, .int 0 0] }).get? s.heap.objs.size
              = some { cls := .type "set", dict := none, data := .set #[] 0 (.fresh 0 0 led) } := Heap.get?_push_of_some _ hS
          exact PyProof.Rows.SetOf_congr ((PyProof.Rows.setObjOf_fresh (knd := PySem.strKind prog w) led).setOf hget (by unfold scanBound; omega)) (fun _ => rfl) rfl
        case hR =>
          intro s' hm hS'
          obtain ⟨h', g', d', tk', os'⟩ := s'
          have eg : g' = s.gens := hm.gens
          have ed : d' = s.drawn := hm.drawn
          have eo : os' = s.os := hm.os
          subst eg; subst ed; subst eo
          show wpAny _ _ _ _ _ _
          refine wpAny_pure ?_
          show wpAny _ _ (ret Value.none) _ _ _
          refine wpAny_pure ⟨rfl, h', tk', rfl, hS', fun b o hb e => ?_⟩
          have hb1 : b ≠ s.heap.objs.size := Nat.ne_of_lt hb
          have hb2 : b ≠ (s.heap.push { cls := .type "set", dict := none, data := .set #[] 0 (.fresh 0 0 led) }).objs.size := by
            rw [Heap.size_push]; exact Nat.ne_of_lt (Nat.lt_succ_of_lt hb)
          exact hm.heap b o (by simp only [List.mem_cons, List.mem_singleton, List.not_mem_nil, or_false, not_or]; exact ⟨hb1, hb2⟩) (Heap.get?_push_of_some _ (Heap.get?_push_of_some _ e))
      · cases r₂ with
        | error e => exact hr₂
        | ok fl₂ =>
          cases fl₂ with
          | ret r =>
            obtain ⟨rfl, h', tk, rfl, hS', hk'⟩ := hr₂
            repeat (any_goals (first | assumption | wp_step))
            exact h _ _ hS' hk'
          | _ => exact hr₂.elim
    | _ => exact hr.elim
/-! ### tuple(d) -/
theorem code_tuple_new_kdl {T : String} {r d : Addr} {n : Nat} {P : Nat → Value → Prop} {OK : Heap → Prop} {Q₁ : Value → Shared → Prop} (K : PySem.W.KdlSrc prog w T r d n P OK) (hh : A.handled = none) (hok : OK s.heap) (hn : n ≤ sizeLine) (nt : (Value.type T == Value.type "tuple") = false)
    (h : ∀ (h' : Heap) (tk : Nat) (acc : Array Value), (∀ b o, s.heap.get? b = some o → h'.get? b = some o) → ItemsOf P acc n →
      Q₁ (.ref h'.objs.size) { s with heap := h'.push { cls := .type "tuple", data := .seq acc }, toks := tk }) :
    codeAny (model prog w) A (.call (.builtin "tuple.__new__") ⟨[.type "tuple", .ref r], []⟩) (wants Q₁ E) s := by
  refine codeAny_of_tree ?_
  show wpAny _ A.in1 (do checkBuiltinCall "tuple.__new__" ⟨[.type "tuple", .ref r], []⟩; again (.builtin "tuple.__new__" ⟨[.type "tuple", .ref r], []⟩)) _ _ s
  refine wpAny_bind (wpAny_of_eq (F.newCall_tuple_1 _) (wpAny_pure ⟨plainId_quiet F.plain_tuple_new _, codeAny_builtin F.entry_tuple_new ?_⟩))
  rw [Around.under_plainId F.plain_tuple_new _]
  have hsub := sub_tuple_self
  have hinit := init_tuple_lookup
  have hmh := madeHere_tuple
  have hTI : s.TypeIs (.ref r) T := K.type s hok
  have hh1 : A.in1.handled = none := hh
  wp_walk using wpAny_typeOf hTI, PySem.W.kdu_collect K (A := A.in1) hh1 hok hn
  intro h' tk acc hk hacc
  show wpAny _ _ (Builtin.Tuple.tupleExact acc.toList.toArray >>= fun v => ret v) _ _ _
  unfold Builtin.Tuple.tupleExact
  refine wpAny_bind (wpAny_newObj_type ?_ (by show acc.toList.toArray.size ≤ sizeLine; simp only [Array.toArray_toList]; rw [hacc.1]; exact hn))
  refine wpAny_pure ?_
  have e : acc.toList.toArray = acc := by simp
  rw [e]
  exact h h' tk acc hk hacc
theorem call_tuple_kdl {T : String} {r d : Addr} {n : Nat} {P : Nat → Value → Prop} {OK : Heap → Prop} {Q : Value → Shared → Prop} (K : PySem.W.KdlSrc prog w T r d n P OK) (hh : A.handled = none) (hok : OK s.heap) (hn : n ≤ sizeLine) (nt : (Value.type T == Value.type "tuple") = false)
    (hQ : ∀ (h' : Heap) (tk : Nat) (acc : Array Value), (∀ b o, s.heap.get? b = some o → h'.get? b = some o) → ItemsOf P acc n →
      Q (.ref h'.objs.size) { s with heap := h'.push { cls := .type "tuple", data := .seq acc }, toks := tk }) :
    wpAny (model prog w) A (call (.type "tuple") [.ref r]) Q E s := by
  refine callType_codes (Q₁ := fun obj s₁ => s₁.TypeIs obj "tuple" ∧ Q obj s₁) F.called_tuple (F.typeCall_tuple_1 _) F.entry_object_init
    (code_tuple_new_kdl (A := A.in1) K hh hok hn nt fun h' tk acc hk hacc => ⟨⟨_, Heap.get?_push_size _ rfl, rfl⟩, hQ h' tk acc hk hacc⟩) fun obj s₁ h₁ => ?_
  exact ⟨h₁.1, F.args_object_init_2 obj _, object_init_meets F.called_tuple.init.lookup F.called_tuple.made (by decide) prog w A.in1 _ s₁ ⟨h₁.1, rfl, h₁.2⟩⟩
end
section
variable {X : Cx}
/-- tuple(d): the keys of a dict whose keys are numbers and texts -/
theorem keys_tupled {pins : List (Addr × Obj)} {σ : L2.St} {H : Hp} {s : Shared} {d : Addr} {kvs : List (Key × V)} {Q : VK} (hc : X.calm = true) (I : Inv X pins σ H s) (t : Rd H d (.dK kvs))
    (q : ∀ p, H p = none → Q (.ref p) (upd H p (.tup (kvs.map fun kv => kV kv.1)))) : wpAny (model X.prog X.w) X.A (call (.type "tuple") [.ref d]) (EP X pins σ Q) X.xe s := by
  obtain ⟨hz, hs, us, rel, hd⟩ := dk_rd I.hok t
  have hlen := rel.length
  obtain ⟨n, hn⟩ := hd.dictAt
  refine call_tuple_kdl (PySem.W.kdl_dict (knd := mixKind X.prog X.w) (kvs := us) (ep := n) hs) (I.ok.hd hc) hn (by omega) (by decide) fun h2 tk arr kp items => ?_
  have hv : Vals (kvs.map fun kv => kV kv.1) arr.toList := by
    refine vals_of_at ?_ fun j x u h1 h3 => ?_
    · have e0 := items.1
      simp only [List.length_map, Array.length_toList]
      omega
    · obtain ⟨k, y, e1, e2⟩ := items.2 j u (by rw [← Array.getElem?_toList]; exact h3)
      have e3 : (kvs.map (·.1))[j]? = some k := by
        rw [rel.keys, List.getElem?_map, e1]
        rfl
      rw [List.getElem?_map] at h1 e3
      cases e4 : kvs[j]? with
      | none =>
        rw [e4] at h1
        cases h1
      | some kv =>
        rw [e4] at h1 e3
        have e5 : kv.1 = k := Option.some.inj e3
        have e6 : kV kv.1 = x := Option.some.inj h1
        rw [← e6, e5]
        exact keyIs_rel e2
  have hnew : s.heap.get? h2.objs.size = none := by
    cases e : s.heap.get? h2.objs.size with
    | none => rfl
    | some o =>
      have z := Heap.lt_size (kp _ _ e)
      exact absurd z (Nat.lt_irrefl _)
  have hob : ObjOk X.prog X.w (upd H h2.objs.size (.tup (kvs.map fun kv => kV kv.1))) (h2.push { cls := .type "tuple", data := .seq arr }) h2.objs.size (.tup (kvs.map fun kv => kV kv.1)) :=
    ⟨by rw [List.length_map]; exact hz, arr.toList, hv, by rw [Array.toArray_toList]; exact ⟨_, Heap.get?_push_size _ rfl, rfl, _, rfl⟩⟩
  have hn0 := I.hok.gone hnew
  exact ⟨.ref h2.objs.size, _, Inv.laidN I (t' := tk) (fun b o e => Heap.get?_push_of_some _ (kp b o e)) hnew hn0 hob, rfl, q _ hn0⟩
def tTupD (te : TE) : TE := fun σ H Q => te σ H fun v H1 => ∃ (a : Addr) (kvs : List (Key × V)), v = .ref a ∧ Rd H1 a (.dK kvs) ∧ ∀ p, H1 p = none → Q (.ref p) (upd H1 p (.tup (kvs.map fun kv => kV kv.1)))
theorem pe_tupD {e : Expr} {te : TE} {p pos : Pos} (hc : X.calm = true) (hg : Gl X "tuple") (hm : X.mg "tuple" = none) (he : PE X e te)
    (hs : starEach [e] X.env = (false, eval e X.env) :: starEach [] X.env := by rfl) : PE X (.Call (.Name "tuple" p) [e] [] pos) (tTupD te) := by
  refine ⟨fun pins s σ H Q I h => ?_⟩
  refine Call_ (ld_blt I hg hm PyProof.Rows.boot_tuple (PyProof.Rows.callWith_type1 (PyProof.Rows.args_cons (thn (he.run pins s σ H _ I h) fun u s1 ⟨v, H1, I1, r1, q1⟩ => PyProof.Rows.args_nil ?_) hs) hs rfl))
  obtain ⟨a, kvs, ev, hq, q⟩ := q1
  subst ev
  obtain rfl : u = Value.ref a := r1
  exact keys_tupled hc I1 hq q
def tLenSetW (K : PySem.W.Frag) (ta : TE) : TE := fun σ H Q => ta σ H fun x H1 => ∃ l, ∃ xs : List Str, x = .ref l ∧ SqL K H1 l (xs.map V.str) ∧ xs.length < 4000 ∧ Q (.int (firstsS xs).length) H1
theorem pe_lenSetW {a : Expr} {ta : TE} {p p2 q pos : Pos} (hc : X.calm = true) (hg : Gl X "len") (hm : X.mg "len" = none) (hg2 : Gl X "set") (hm2 : X.mg "set" = none) (ha : PE X a ta)
    (na : starEach [a] X.env = (false, eval a X.env) :: starEach [] X.env := by rfl) : PE X (.Call (.Name "len" p) [.Call (.Name "set" p2) [a] [] q] [] pos) (tLenSetW X.K ta) := by
  refine ⟨fun pins s σ H Q I h => ?_⟩
  refine Call_ (ld_blt I hg hm boot_len ?_)
  refine PyProof.Rows.callWith_builtin1 (PyProof.Rows.args_cons ?_ rfl) rfl rfl
  refine Call_ (ld_blt I hg2 hm2 boot_set ?_)
  refine PyProof.Rows.callWith_type1 (PyProof.Rows.args_cons (thn (ha.run pins s σ H _ I h) fun v s1 ⟨x, H1, I1, r1, q1⟩ => PyProof.Rows.args_nil ?_) na) na rfl
  obtain ⟨l, xs, rfl, hq, h1, q1⟩ := q1
  cases r1
  obtain ⟨its, r, pl, hz⟩ := I1.list hq
  refine call_set_listN (I1.ok.hd hc) pl.isList (by simpa using strsAre_of r) (by unfold scanBound; omega) fun h' tk hS hk => ?_
  refine PyProof.Rows.args_nil ?_
  have hl : its.toArray.size = xs.length := by rw [List.size_toArray, ← r.length, List.length_map]
  rw [hl, List.take_length] at hS
  have lf := firstsS_len xs
  obtain ⟨o, es, ep, t, ho, hex, hd, _, _, _, hf, hn⟩ := hS
  have I2 : Inv X pins σ H1 { s1 with heap := h', toks := tk } := I1.kept fun b o e => hk b o (Heap.lt_size e) e
  exact call_len_set ho hex hd hf (by rw [hn]; omega) ⟨.int (firstsS xs).length, H1, I2.tok _, ⟨_, by rw [hn]⟩, q1⟩
end
end Ir

/-! Ir9s: further pure forms. -/
namespace Ir
open PySem L2 PyProof.Rows
section
variable {G : Gx} {M : Nms} {T : Tbl} {N : List Str} {sc : Scope} {lvl : Nat} {W : WX} {X : Cx}
variable {e y z : Expr} {a b : E} {ta tb : TE}
theorem reps_evens {B : Addr → Prop} {H : Hp} : ∀ {l : List D} {vs : List V}, reps G B H l vs → reps G B H (evens l) (evens vs)
  | [], vs, h => by
    have e : vs = [] := h
    subst e
    exact rfl
  | [d], vs, h => by
    obtain ⟨v, r, rfl, h1, h2⟩ := h
    have e : r = [] := h2
    subst e
    exact ⟨v, [], rfl, h1, rfl⟩
  | d :: d2 :: l, vs, h => by
    obtain ⟨v, r, rfl, h1, h2⟩ := h
    obtain ⟨v2, r2, rfl, h3, h4⟩ := h2
    exact ⟨v, evens r2, rfl, h1, reps_evens h4⟩
theorem reps_strsD {B : Addr → Prop} {H : Hp} : ∀ {l : List D} {vs : List V} {ys : List Str}, reps G B H l vs → strsD l = some ys → vs = ys.map V.str
  | [], vs, ys, h, e => by
    have e' : vs = [] := h
    have e2 : ys = [] := (Option.some.inj e).symm
    subst e' e2
    rfl
  | d :: l, vs, ys, h, e => by
    obtain ⟨v, r, rfl, h1, h2⟩ := h
    cases d with
    | str i =>
      have e3 : ((strsD l).map fun r => i :: r) = some ys := e
      cases q : strsD l with
      | none =>
        rw [q] at e3
        cases e3
      | some ms =>
        rw [q] at e3
        have e4 : i :: ms = ys := Option.some.inj e3
        have h1 : v = .str i := h1
        rw [← e4, h1, reps_strsD h2 q]
        rfl
    | _ => cases e
theorem ofO_get {α : Type} {o : Option α} {x : α} (h : R.ofO o = .ok x) : o = some x := by
  cases o with
  | none => cases h
  | some b => rw [R.ok.inj h]
theorem ne0_len {s : Str} (h : s.length ≠ 0) : (s.length == 0) = false := by
  rw [beq_eq_false_iff_ne]
  exact h
/-- what is new is a list of texts -/
theorem new_strs {B : Addr → Prop} {H : Hp} {Q : VK} {E : XK} {ys : List Str} (dm : Dom B H) (p : PostG G (fun H => rep G B H) H (.ok (.lst (ys.map .str))) Q E) : rNewStrs ys H Q := fun q n0 =>
  p _ _ (Same.upd_new n0) ⟨q, _, rfl, .inl upd_same, dm.new n0, reps_map (f := D.str) (g := V.str) (fun k => (rfl : V.str _ = V.str _)) ys⟩
theorem se_xpS (c : Cxk G M N sc lvl W X) (F : Facts G M T lvl) (hcm : M.calm = true) (x : XP) (h : xpArgS sc x e = some y) (ha : SE G T X W y a ta) : noBl e = true ∧ ∃ te, SE G T X W e (.xp1 x a) te := by
  unfold xpArgS at h
  split at h
  · split at h
    · rename_i hc
      cases h
      cases of_decide_eq_true hc
      refine ⟨rfl, _, SE.of rfl rfl (pe_evT ha.pe) fun B H0 ρ σ H Q r p => ha.pk B H0 ρ σ H _ r (PostR.bnd p fun dx vx H1 s1 h1 p1 => ?_)⟩
      cases dx with
      | tup l =>
        obtain ⟨b, xs, rfl, t, hr⟩ := h1
        exact ⟨b, xs, rfl, sq_of c.gx t, PostV.newT p1 (r.mono s1).bdom (reps_evens hr)⟩
      | _ => exact p1.elim
    · cases h
  · rename_i s z k1 k2 m ap yy cp
    split at h
    · rename_i hc
      cases h
      simp only [Bool.and_eq_true, decide_eq_true_eq] at hc
      obtain ⟨⟨⟨rfl, rfl⟩, ln⟩, ns⟩ := hc
      refine ⟨rfl, _, SE.of rfl rfl (pe_join pe_str ha.pe (noSt_is ns [] _) rfl ln) fun B H0 ρ σ H Q r p => ⟨⟨s, rfl⟩, ha.pk B H0 ρ σ H _ r (PostR.bnd p fun dx vx H1 s1 h1 p1 => ?_)⟩⟩
      cases dx with
      | lst l =>
        obtain ⟨ys, em, p2⟩ := PostR.pure nx_ofO p1
        obtain ⟨cc, p3⟩ := PostR.iff p2
        obtain ⟨b, vs, rfl, t, hr⟩ := h1
        have ev := reps_strsD hr (ofO_get em)
        subst ev
        exact ⟨s, b, ys, rfl, rfl, .inl (Rd.sq t), of_decide_eq_true cc, PostR.at_ p3 (rfl : V.str _ = V.str _)⟩
      | _ => exact p1.elim
    · cases h
  · rename_i s yy m ap z k1 k2 cp
    split at h
    · rename_i hc
      cases h
      simp only [Bool.and_eq_true, decide_eq_true_eq] at hc
      obtain ⟨⟨⟨rfl, rfl⟩, ln⟩, ob⟩ := hc
      refine ⟨rfl, _, SE.of rfl rfl (pe_split ha.pe pe_str rfl (abase ob) ln) fun B H0 ρ σ H Q r p => ha.pk B H0 ρ σ H _ r (PostR.bnd p fun dx vx H1 s1 h1 p1 => ?_)⟩
      cases dx with
      | str v =>
        obtain ⟨cc, p2⟩ := PostR.iff p1
        have cc := of_decide_eq_true cc
        rw [lim_eq] at cc
        have h1 : vx = .str v := h1
        subst h1
        exact ⟨⟨v, rfl⟩, v, s, rfl, rfl, ne0_len cc.1, cc.2, new_strs (r.mono s1).bdom p2⟩
      | _ => exact p1.elim
    · cases h
  · rename_i s yy m ap z k1 k2 cp
    split at h
    · rename_i hc
      cases h
      simp only [Bool.and_eq_true, decide_eq_true_eq] at hc
      obtain ⟨⟨⟨rfl, rfl⟩, ln⟩, ob⟩ := hc
      refine ⟨rfl, _, SE.of rfl rfl (pe_partition ha.pe pe_str rfl (abase ob) ln) fun B H0 ρ σ H Q r p => ha.pk B H0 ρ σ H _ r (PostR.bnd p fun dx vx H1 s1 h1 p1 => ?_)⟩
      cases dx with
      | str v =>
        obtain ⟨cc, p2⟩ := PostR.iff p1
        have cc := of_decide_eq_true cc
        rw [lim_eq] at cc
        have h1 : vx = .str v := h1
        subst h1
        exact ⟨⟨v, rfl⟩, v, s, rfl, rfl, ne0_len cc.1, cc.2, fun q n0 => p2 _ _ (Same.upd_new n0) ⟨q, _, rfl, ⟨upd_same, (r.mono s1).bdom.new n0⟩, ⟨_, _, rfl, rfl, _, _, rfl, rfl, _, _, rfl, rfl, rfl⟩⟩⟩
      | _ => exact p1.elim
    · cases h
  · rename_i s yy m ap z k1 k2 cp
    split at h
    · rename_i hc
      cases h
      simp only [Bool.and_eq_true, decide_eq_true_eq] at hc
      obtain ⟨⟨⟨rfl, rfl⟩, ln⟩, ob⟩ := hc
      refine ⟨rfl, _, SE.of rfl rfl (pe_m1 PySem.F.slot_str_startswith PySem.F.type_str_startswith mt_startswith ha.pe pe_str rfl (abase ob) ln) fun B H0 ρ σ H Q r p => ha.pk B H0 ρ σ H _ r (PostR.bnd p fun dx vx H1 s1 h1 p1 => ?_)⟩
      cases dx with
      | str v =>
        have h1 : vx = .str v := h1
        subst h1
        exact ⟨⟨v, rfl⟩, v, s, rfl, rfl, PostR.at_ p1 (rfl : V.bl _ = V.bl _)⟩
      | _ => exact p1.elim
    · cases h
  · rename_i s yy j p1 z k1 k2 p2
    split at h
    · rename_i hc
      cases h
      simp only [Bool.and_eq_true, decide_eq_true_eq] at hc
      obtain ⟨rfl, rfl⟩ := hc
      refine ⟨rfl, _, SE.of rfl rfl (pe_joined (.cons (pe_fmt ha.pe) (.cons pe_str .nil))) fun B H0 ρ σ H Q r p => ha.pk B H0 ρ σ H _ r (PostR.bnd p fun dx vx H1 s1 h1 p1 => ?_)⟩
      cases dx with
      | int i =>
        obtain ⟨cc, p2⟩ := PostR.iff p1
        rw [Bool.and_eq_true, Bool.and_eq_true] at cc
        obtain ⟨⟨c1, c2⟩, c3⟩ := cc
        have c2 := of_decide_eq_true c2
        have c3 := of_decide_eq_true c3
        rw [lim_eq] at c2 c3
        have h1 : vx = .int i := h1
        subst h1
        exact .inr ⟨i, rfl, of_decide_eq_true c1, toString i, rfl, c2, s, rfl, c3, PostR.at_ p2 (rfl : V.str _ = V.str _)⟩
      | _ => exact p1.elim
    · cases h
  · rename_i xx p0 zz p1 yy p2 p3
    split at h
    · rename_i hc
      cases h
      simp only [Bool.and_eq_true, decide_eq_true_eq] at hc
      obtain ⟨⟨⟨⟨rfl, hg⟩, rfl⟩, hg2⟩, ns⟩ := hc
      refine ⟨rfl, _, SE.of rfl rfl (pe_lenSetW (c.calm hcm) (gl_of hg c.sc) (hmB c F _ (by decide)) (gl_of hg2 c.sc) (hmB c F _ (by decide)) ha.pe (noSt_is ns [] _)) fun B H0 ρ σ H Q r p => ha.pk B H0 ρ σ H _ r (PostR.bnd p fun dx vx H1 s1 h1 p1 => ?_)⟩
      cases dx with
      | lst l =>
        obtain ⟨ys, em, p2⟩ := PostR.pure nx_ofO p1
        obtain ⟨cc, p3⟩ := PostR.iff p2
        have cc := of_decide_eq_true cc
        obtain ⟨b, vs, rfl, t, hr⟩ := h1
        have hl := reps_len hr
        have ev := reps_strsD hr (ofO_get em)
        subst ev
        rw [List.length_map] at hl
        exact ⟨b, ys, rfl, Rd.sq t, by omega, PostR.at_ p3 (rfl : V.int _ = V.int _)⟩
      | _ => exact p1.elim
    · cases h
  · rename_i xx p0 yy p1
    split at h
    · rename_i hc
      cases h
      simp only [Bool.and_eq_true, decide_eq_true_eq] at hc
      obtain ⟨⟨rfl, hg⟩, ns⟩ := hc
      refine ⟨rfl, _, SE.of rfl rfl (pe_tupD (c.calm hcm) (gl_of hg c.sc) (hmB c F _ (by decide)) ha.pe (noSt_is ns [] _)) fun B H0 ρ σ H Q r p => ha.pk B H0 ρ σ H _ r (PostR.bnd p fun dx vx H1 s1 h1 p1 => ?_)⟩
      cases dx with
      | dct t ks l =>
        obtain ⟨cc, p2⟩ := PostR.iff p1
        cases of_decide_eq_true cc
        obtain ⟨b, vs, rfl, q, hr⟩ := h1
        rcases q with ⟨kvs, _, e1, rfl, rfl⟩ | ⟨kvs, t0, _⟩ | ⟨t0, _⟩
        · exact ⟨b, kvs, rfl, e1, fun q n0 => p2 _ _ (Same.upd_new n0) ⟨q, _, rfl, ⟨upd_same, (r.mono s1).bdom.new n0⟩, reps_kV kvs⟩⟩
        · cases t0
        · cases t0
      | _ => exact p1.elim
    · cases h
  · cases h
end
end Ir

/-! Ir10: every expression. -/
namespace Ir
open PySem L2 PyProof.Rows
section
variable {G : Gx} {M : Nms} {T : Tbl} {N : List Str} {sc : Scope} {lvl : Nat} {W : WX} {X : Cx}
abbrev W0 : WX := fun _ _ _ _ => False
theorem relS_get {x : Str} {k : NameKind} (hk : k ≠ .free) {s2 : Scope} (h : s2.names.lookup x = some k) : (relS s2 sc).names.lookup x = some k := by
  show (s2.names.map _).lookup x = some k
  generalize s2.names = l at h
  induction l with
  | nil => cases h
  | cons p l ih =>
    obtain ⟨n, k'⟩ := p
    rw [List.map_cons]
    rw [List.lookup_cons] at h
    by_cases hx : (x == n) = true
    · rw [hx] at h
      have e : k' = k := Option.some.inj h
      subst e
      have hf : (k' == NameKind.free) = false := by
        cases k' <;> first | rfl | exact (hk rfl).elim
      simp [hf, hx, List.lookup_cons]
    · have hx : (x == n) = false := by simpa using hx
      rw [hx] at h
      have h' := ih h
      split
      rename_i n' k2 he
      cases he
      split <;> (rw [List.lookup_cons, hx]; exact h')
theorem Cxk.blk (c : Cxk G M N sc lvl W X) (s : Shared) (H : Hp) {s2 : Scope} (C : Addr) (cl : List (Str × Addr)) (fp : List Addr) (nl : M.lam ≠ some (relS s2 sc) ∧ M.key ≠ some (relS s2 sc)) : Cxk G M N (relS s2 sc) lvl W0 (X.blk s H s2 (compEnvC s2 cl C X.env) fp) :=
  have e : (X.blk s H s2 (compEnvC s2 cl C X.env) fp).env.scope = relS s2 sc := by rw [← c.sc]; rfl
  ⟨⟨c.gx.prog, c.gx.w, c.gx.K, c.gx.mg, c.gx.base⟩, c.nd, c.hN, e, c.calm, c.room, c.un, takes0, fun z => (nl.2 (z.trans (by rw [e]))).elim, fun z => (nl.1 (z.trans (by rw [e]))).elim⟩
theorem blk_hf (c : Cxk G M N sc lvl W X) (s : Shared) (H : Hp) (s2 : Scope) (C : Addr) (cl : List (Str × Addr)) (fp : List Addr) (x : Str) (h : locB s2 x = true) :
    (X.blk s H s2 (compEnvC s2 cl C X.env) fp).fn x = true ∨ (X.blk s H s2 (compEnvC s2 cl C X.env) fp).env.scope.names.lookup x = some .local := by
  rcases locB_of h with h | h
  · exact .inr (relS_get (sc := X.env.scope) (by decide) h)
  · refine .inl ?_
    show (s2.names.lookup x == some .cell) = true
    rw [h]
    rfl
theorem noSet_fold {i : Expr} (h : noSet i = true) (env : Env) (x : Value) : foldedSetIterable i env x = pure x := by
  cases i <;> first | rfl | cases h
def tIm (G : Gx) (T : Tbl) (ir : E) : TE := fun σ H Q => ∃ B H0 ρ, RelS G B H0 ρ σ H ∧ PostG G (fun H => rep G (Blk B ρ σ) H) H (ev T ir ρ) Q (fun _ _ _ => False)
def tTr (G : Gx) (T : Tbl) (ir : E) : TT := fun σ H Q => ∃ B H0 ρ, RelS G B H0 ρ σ H ∧ PostR G (fun _ d (v : Bool) => d = v) H (evT T ir ρ) Q (fun _ _ _ => False)
theorem SE.tIm {e : Expr} {ir : E} {te : TE} (h : SE G T X W0 e ir te) : PE X e (Ir.tIm G T ir) := pe_weak h.pe fun σ H Q ⟨B, H0, ρ, r, p⟩ => h.im B H0 ρ σ H Q r p
theorem STt.tTr {e : Expr} {ir : E} {te : TT} (h : STt G T X W0 e ir te) : PT X e (Ir.tTr G T ir) := pt_weak h.pt fun σ H Q ⟨B, H0, ρ, r, p⟩ => h.tr B H0 ρ σ H Q r p
theorem PostN.pure {γ : Type} {B : Addr → Prop} {H : Hp} {r : R γ} {f : γ → R D} {Q : VK} {E : XK} (n : Nx r) (p : PostN G B H (r.bind f) Q E) : ∃ a, r = .ok a ∧ PostN G B H (f a) Q E := by
  cases r with
  | stuck => exact p.elim
  | exc c fs => exact (n c fs rfl).elim
  | ok a => exact ⟨a, rfl, p⟩
theorem se_lc {elt t i : Expr} {s2 : Scope} {pos : Pos} {a : E} {tg : Tg} {it : Wk} {wi : TI} {ifs : List Expr} {tt : TT} {ir : E} {body : Sl → R (List D)} (c : Cxk G M N sc lvl W X) (hcm : M.calm = true) (nl : M.lam ≠ some (relS s2 sc) ∧ M.key ≠ some (relS s2 sc)) (hi : SI G T X W t i it wi) (ns : noSet i = true) (hb : blkC N sc s2 (ownOf N tg.slots) = true)
    (ho : (ownOf N tg.slots).map (·.2) = tg.slots) (h1 : isTg N s2 tg t = true) (h2 : isTg N (relS s2 sc) tg t = true)
    (he : ∀ s H C cl fp, ∃ te, SE G T (X.blk s H s2 (compEnvC s2 cl C X.env) fp) W0 elt a te) (ht : ∀ s H C cl fp, PTs (X.blk s H s2 (compEnvC s2 cl C X.env) fp) ifs tt) (nv : isVar ir = false)
    (hir : ∀ ρ, evP T ir ρ = (evIP T it ρ).bind fun ds => .iff (decide (ds.length ≤ LIM) && noOwn ρ tg.slots) ((compL (fun d => (asgTg tg d (wipeS ρ tg.slots)).bind body) ds).bind fun xs => .ok (.lst xs)))
    (hl : ∀ ρ' ys, body ρ' = .ok ys → ys.length ≤ 1)
    (stp : ∀ H0 B' ρ' σ2 H2 ys (K : Option V → Hp → Prop), RelS G B' H0 ρ' σ2 H2 → body ρ' = .ok ys → (∀ o H4, Same G H2 H4 → reps G (Blk B' ρ' σ2) H4 ys o.toList → K o H4) → tt σ2 H2 fun b H3 => if b = true then tIm G T a σ2 H3 fun y H4 => K (some y) H4 else K none H3) :
    SE G T X W (.ListComp elt [⟨t, i, ifs, 0⟩] s2 pos) ir (tLc wi (gSem G tg) tt (tIm G T a) tg.slots) ∧
    ∀ (py spos : Pos) (y : Str) (j : Nat), N[j]? = some y → sc.names.lookup y = some .local → swapsWith (.ListComp elt [⟨t, i, ifs, 0⟩] s2 pos) (some (.Name y py)) spos.line X.env = pure true →
      PS X (.Assign [.Name y py] (.ListComp elt [⟨t, i, ifs, 0⟩] s2 pos) spos) (tAsg (tLc wi (gSem G tg) tt (tIm G T a) tg.slots) (gName j)) := by
  have bo : BlkOk X.N X.env.scope s2 (ownOf N tg.slots) := by
    rw [c.hN, c.sc]
    exact blkOk_by hb
  have nd : X.N.Nodup := by rw [c.hN]; exact c.nd
  have pg : ∀ s H C cl fp, PG (X.blk s H s2 (compEnvC s2 cl C X.env) fp) t (gSem G tg) := fun s H C cl fp => sound_tg (c.blk s H C cl fp nl) hcm (s' := s2) (blk_hf c s H s2 C cl fp) tg h2 h1
  have pe : ∀ s H C cl fp, PE (X.blk s H s2 (compEnvC s2 cl C X.env) fp) elt (tIm G T a) := fun s H C cl fp => (he s H C cl fp).choose_spec.tIm
  refine ⟨?_, fun py spos y j hj hy sw => ?_⟩
  · refine SE.ofN nv (by
      have z := pe_lc (pos := pos) (c.calm hcm) nd hi.pi bo pg ht pe (noSet_fold ns X.env)
      rw [ho] at z
      exact z) fun B H0 ρ σ H Q r p => ?_
    rw [hir] at p
    refine hi.pk B H0 ρ σ H _ r (PostN.bnd p fun ds J H1 s1 wk p1 => ?_)
    obtain ⟨cc, p2⟩ := PostN.iff p1
    rw [Bool.and_eq_true] at cc
    obtain ⟨xs, e, p3⟩ := PostN.pure (nx_compL ds) p2
    exact lc_walk (E := WE W σ) (r.mono s1) wk cc.2 (of_decide_eq_true cc.1) e hl (stp H0) p3
  · have z := ps_setLc (i := j) (py := py) (spos := spos) (pos := pos) (c.calm hcm) nd (by rw [c.hN]; exact hj) (by rw [c.sc]; exact hy) sw hi.pi bo pg ht pe (noSet_fold ns X.env)
    rw [ho] at z
    exact z
theorem ofN_te {ir : E} {e : Expr} {te : TE} (h : SE G T X W e ir te) (hf : fresh ir = true) : True := trivial
/-- both: as a value, as a test -/
abbrev SB (G : Gx) (T : Tbl) (X : Cx) (W : WX) (e : Expr) (ir : E) : Prop := (∃ te, SE G T X W e ir te) ∧ ∃ tt, STt G T X W e ir tt
theorem SB.of (c : Cxk G M N sc lvl W X) {e : Expr} {ir : E} (nb : noBl e = true) (h : ∃ te, SE G T X W e ir te) : SB G T X W e ir := ⟨h, h.elim fun te h => ⟨_, st_val c nb h⟩⟩
theorem bang {a b : Bool} (h : (a && b) = true) : a = true ∧ b = true := by
  rw [Bool.and_eq_true] at h
  exact h
theorem comp_stp {a : E} (H0 : Hp) (B' : Addr → Prop) (ρ' : Sl) (σ2 : L2.St) (H2 : Hp) (ys : List D) (K : Option V → Hp → Prop) (r : RelS G B' H0 ρ' σ2 H2) (hb : ((imO a ρ' (evP T a ρ')).bind fun x => .ok [x]) = .ok ys)
    (k : ∀ o H4, Same G H2 H4 → reps G (Blk B' ρ' σ2) H4 ys o.toList → K o H4) : tYes σ2 H2 fun b H3 => if b = true then tIm G T a σ2 H3 fun y H4 => K (some y) H4 else K none H3 := by
  show tIm G T a σ2 H2 fun y H4 => K (some y) H4
  obtain ⟨x, e1, e2⟩ := bind_ok_inv hb
  cases e2
  refine ⟨B', H0, ρ', r, ?_⟩
  have e1 : ev T a ρ' = .ok x := e1
  rw [e1]
  exact fun v H4 s h => k (some v) H4 s ⟨v, [], rfl, h, rfl⟩
def ifBody (T : Tbl) (a c : E) (ρ' : Sl) : R (List D) := (evP T c ρ').bind fun t => (truD t).bind fun t => match t with
  | true => (imO a ρ' (evP T a ρ')).bind fun x => .ok [x]
  | false => .ok []
theorem compIf_stp {a d : E} (H0 : Hp) (B' : Addr → Prop) (ρ' : Sl) (σ2 : L2.St) (H2 : Hp) (ys : List D) (K : Option V → Hp → Prop) (r : RelS G B' H0 ρ' σ2 H2) (hb : ifBody T a d ρ' = .ok ys)
    (k : ∀ o H4, Same G H2 H4 → reps G (Blk B' ρ' σ2) H4 ys o.toList → K o H4) : tTr G T d σ2 H2 fun b H3 => if b = true then tIm G T a σ2 H3 fun y H4 => K (some y) H4 else K none H3 := by
  obtain ⟨t, e1, e2⟩ := bind_ok_inv hb
  obtain ⟨q, e3, e4⟩ := bind_ok_inv e2
  have e : evT T d ρ' = .ok q := by
    show (evP T d ρ').bind truD = _
    rw [e1]
    exact e3
  refine ⟨B', H0, ρ', r, ?_⟩
  rw [e]
  intro v H3 s3 h
  subst h
  cases q with
  | true =>
    show tIm G T a σ2 H3 fun y H4 => K (some y) H4
    obtain ⟨x, e5, e6⟩ := bind_ok_inv e4
    cases e6
    refine ⟨B', H0, ρ', r.mono s3, ?_⟩
    have e5 : ev T a ρ' = .ok x := e5
    rw [e5]
    exact fun v H4 s h => k (some v) H4 (s3.trans s) ⟨v, [], rfl, h, rfl⟩
  | false =>
    cases e4
    exact k none H3 s3 rfl
theorem body_len1 {a : E} (ρ' : Sl) (ys : List D) (h : ((imO a ρ' (evP T a ρ')).bind fun x => R.ok [x]) = .ok ys) : ys.length ≤ 1 := by
  obtain ⟨x, _, e⟩ := bind_ok_inv h
  cases e
  exact Nat.le_refl _
theorem body_len2 {a d : E} (ρ' : Sl) (ys : List D) (h : ifBody T a d ρ' = .ok ys) : ys.length ≤ 1 := by
  obtain ⟨x, _, e⟩ := bind_ok_inv h
  obtain ⟨q, _, e⟩ := bind_ok_inv e
  cases q with
  | true => exact body_len1 ρ' ys e
  | false =>
    cases e
    exact Nat.zero_le _
mutual
theorem sound_E (F : Facts G M T lvl) : ∀ (ir : E) {sc : Scope} {W : WX} {X : Cx} {e : Expr}, Cxk G M N sc lvl W X → isE M N ir sc e = true → SB G T X W e ir
  | .var i, sc, W, X, e, c, h => by
    have z := se_var (T := T) c h
    refine SB.of c ?_ z
    cases e <;> first | rfl | cases h
  | .int i, sc, W, X, e, c, h => by
    unfold isE at h
    split at h
    · cases of_decide_eq_true h
      exact SB.of c rfl ⟨_, se_con (d := .int i) pe_int rfl rfl (fun _ => rfl) fun _ _ => rfl⟩
    · cases h
  | .bl i, sc, W, X, e, c, h => by
    unfold isE at h
    split at h
    · cases of_decide_eq_true h
      exact SB.of c rfl ⟨_, se_con (d := .bl i) pe_bl rfl rfl (fun _ => rfl) fun _ _ => rfl⟩
    · cases h
  | .non, sc, W, X, e, c, h => by
    unfold isE at h
    split at h
    · exact SB.of c rfl ⟨_, se_con (d := .non) pe_non rfl rfl (fun _ => rfl) fun _ _ => rfl⟩
    · cases h
  | .str i, sc, W, X, e, c, h => by
    unfold isE at h
    split at h
    · cases of_decide_eq_true h
      exact SB.of c rfl ⟨_, se_con (d := .str i) pe_str rfl rfl (fun _ => rfl) fun _ _ => rfl⟩
    · cases h
  | .glb i, sc, W, X, e, c, h => by
    unfold isE at h
    split at h
    · obtain ⟨h, h3⟩ := bang h
      obtain ⟨h1, h2⟩ := bang h
      exact SB.of c rfl (se_glb c F (of_decide_eq_true h1) h2 h3)
    · cases h
  | .bin o a b, sc, W, X, e, c, h => by
    unfold isE at h
    split at h
    · rename_i x p y pos
      obtain ⟨h, h3⟩ := bang h
      obtain ⟨h1, h2⟩ := bang h
      cases of_decide_eq_true h1
      obtain ⟨⟨ta, ha⟩, _⟩ := sound_E F a c h2
      obtain ⟨⟨tb, hb⟩, _⟩ := sound_E F b c h3
      refine SB.of c rfl ?_
      cases nf : fresh (.bin o a b) with
      | false => exact ⟨_, se_bin c ha hb nf⟩
      | true =>
        cases o <;> first | (cases a <;> cases nf; done) | skip
        cases a <;> first | (cases nf; done) | skip
        exact ⟨_, se_mulN c ha hb⟩
    · cases h
  | .revT a, sc, W, X, e, c, h => by
    unfold isE at h
    split at h
    · obtain ⟨h1, h2⟩ := bang h
      cases of_decide_eq_true h1
      obtain ⟨⟨ta, ha⟩, _⟩ := sound_E F a c h2
      exact SB.of c rfl ⟨_, se_revT c ha⟩
    · cases h
  | .tupRev a, sc, W, X, e, c, h => by
    unfold isE at h
    split at h
    · obtain ⟨h, hcm⟩ := bang h
      obtain ⟨h, h6⟩ := bang h
      obtain ⟨h, h5⟩ := bang h
      obtain ⟨h, h4⟩ := bang h
      obtain ⟨h, h3⟩ := bang h
      obtain ⟨h1, h2⟩ := bang h
      cases of_decide_eq_true h1
      cases of_decide_eq_true h3
      obtain ⟨⟨ta, ha⟩, _⟩ := sound_E F a c h6
      exact SB.of c rfl ⟨_, se_tupRev c F hcm h2 h4 h5 ha⟩
    · cases h
  | .neg a, sc, W, X, e, c, h => by
    unfold isE at h
    split at h
    · obtain ⟨⟨ta, ha⟩, _⟩ := sound_E F a c h
      exact SB.of c rfl ⟨_, se_neg c ha⟩
    · cases h
  | .not a, sc, W, X, e, c, h => by
    unfold isE at h
    split at h
    · obtain ⟨⟨ta, ha⟩, tt, ht⟩ := sound_E F a c h
      exact ⟨⟨_, se_not c ha⟩, _, st_not ht⟩
    · cases h
  | .cmp o a b, sc, W, X, e, c, h => by
    unfold isE at h
    split at h
    · obtain ⟨h, h4⟩ := bang h
      obtain ⟨h, h3⟩ := bang h
      obtain ⟨h1, h2⟩ := bang h
      cases of_decide_eq_true h1
      obtain ⟨⟨ta, ha⟩, _⟩ := sound_E F a c h3
      obtain ⟨⟨tb, hb⟩, _⟩ := sound_E F b c h4
      exact ⟨⟨_, se_cmp c h2 ha hb⟩, _, st_cmp c h2 ha hb⟩
    · cases h
  | .chain o p a b d, sc, W, X, e, c, h => by
    unfold isE at h
    split at h
    · obtain ⟨h, h7⟩ := bang h
      obtain ⟨h, h6⟩ := bang h
      obtain ⟨h, h5⟩ := bang h
      obtain ⟨h, h4⟩ := bang h
      obtain ⟨h, h3⟩ := bang h
      obtain ⟨h1, h2⟩ := bang h
      cases of_decide_eq_true h1
      cases of_decide_eq_true h2
      obtain ⟨⟨ta, ha⟩, _⟩ := sound_E F a c h5
      obtain ⟨⟨tb, hb⟩, _⟩ := sound_E F b c h6
      obtain ⟨⟨td, hd⟩, _⟩ := sound_E F d c h7
      exact ⟨⟨_, se_chain c h4 ha hb hd⟩, _, st_chain c h4 ha hb hd⟩
    · cases h
  | .and a b, sc, W, X, e, c, h => by
    unfold isE at h
    split at h
    · obtain ⟨h1, h2⟩ := bang h
      obtain ⟨⟨ta, ha⟩, tA, hA⟩ := sound_E F a c h1
      obtain ⟨⟨tb, hb⟩, tB, hB⟩ := sound_E F b c h2
      exact ⟨⟨_, se_and c ha (pe_one hb.pe) hb.im⟩, _, st_and c hA (pw_and1 hB.pt) hB.tr⟩
    · obtain ⟨h1, h2⟩ := bang h
      obtain ⟨⟨ta, ha⟩, tA, hA⟩ := sound_E F a c h1
      obtain ⟨⟨tb, hb⟩, tB, hB⟩ := sound_E F b c h2
      exact ⟨⟨_, se_and c ha hb.pe hb.im⟩, _, st_and c hA ⟨fun _ => hB.pt.run⟩ hB.tr⟩
    · cases h
  | .or a b, sc, W, X, e, c, h => by
    unfold isE at h
    split at h
    · obtain ⟨h1, h2⟩ := bang h
      obtain ⟨⟨ta, ha⟩, tA, hA⟩ := sound_E F a c h1
      obtain ⟨⟨tb, hb⟩, tB, hB⟩ := sound_E F b c h2
      exact ⟨⟨_, se_or c ha (pe_one hb.pe) hb.im⟩, _, st_or c hA (pw_or1 hB.pt) hB.tr⟩
    · obtain ⟨h1, h2⟩ := bang h
      obtain ⟨⟨ta, ha⟩, tA, hA⟩ := sound_E F a c h1
      obtain ⟨⟨tb, hb⟩, tB, hB⟩ := sound_E F b c h2
      exact ⟨⟨_, se_or c ha hb.pe hb.im⟩, _, st_or c hA ⟨fun _ => hB.pt.run⟩ hB.tr⟩
    · cases h
  | .tup l, sc, W, X, e, c, h => by
    unfold isE at h
    split at h
    · obtain ⟨tl, hl⟩ := sound_L F l c h
      exact SB.of c rfl ⟨_, se_tup hl⟩
    · cases h
  | .lst l, sc, W, X, e, c, h => by
    unfold isE at h
    split at h
    · obtain ⟨tl, hl⟩ := sound_L F l c h
      exact SB.of c rfl ⟨_, se_lst hl⟩
    · cases h
  | .dct0 t, sc, W, X, e, c, h => by
    unfold isE at h
    split at h
    · rcases of_decide_eq_true h with rfl | rfl
      · exact SB.of c rfl ⟨_, se_dct0⟩
      · exact SB.of c rfl ⟨_, se_dct1⟩
    · cases h
  | .sub a i, sc, W, X, e, c, h => by
    unfold isE at h
    split at h
    · obtain ⟨h, h3⟩ := bang h
      obtain ⟨h1, h2⟩ := bang h
      obtain ⟨⟨ta, ha⟩, _⟩ := sound_E F a c h2
      obtain ⟨⟨tb, hb⟩, _⟩ := sound_E F i c h3
      exact SB.of c rfl ⟨_, se_sub c h1 ha hb⟩
    · cases h
  | .slc a lo hi, sc, W, X, e, c, h => by
    unfold isE at h
    split at h
    · obtain ⟨h, h3⟩ := bang h
      obtain ⟨h1, h2⟩ := bang h
      obtain ⟨⟨ta, ha⟩, _⟩ := sound_E F a c h1
      obtain ⟨⟨tb, hb⟩, _⟩ := sound_E F lo c h2
      obtain ⟨⟨td, hd⟩, _⟩ := sound_E F hi c h3
      exact SB.of c rfl ⟨_, se_slc c ha hb hd⟩
    · cases h
  | .slcL a lo, sc, W, X, e, c, h => by
    unfold isE at h
    split at h
    · obtain ⟨h1, h2⟩ := bang h
      obtain ⟨⟨ta, ha⟩, _⟩ := sound_E F a c h1
      obtain ⟨⟨tb, hb⟩, _⟩ := sound_E F lo c h2
      exact SB.of c rfl ⟨_, se_slcL c ha hb⟩
    · cases h
  | .slcH a hi, sc, W, X, e, c, h => by
    unfold isE at h
    split at h
    · obtain ⟨h1, h2⟩ := bang h
      obtain ⟨⟨ta, ha⟩, _⟩ := sound_E F a c h1
      obtain ⟨⟨tb, hb⟩, _⟩ := sound_E F hi c h2
      exact SB.of c rfl ⟨_, se_slcH c ha hb⟩
    · cases h
  | .slcN a, sc, W, X, e, c, h => by
    unfold isE at h
    split at h
    · obtain ⟨⟨ta, ha⟩, _⟩ := sound_E F a c h
      exact SB.of c rfl ⟨_, se_slcN c ha⟩
    · cases h
  | .call f l, sc, W, X, e, c, h => by
    unfold isE at h
    split at h
    · obtain ⟨h, hcm⟩ := bang h
      obtain ⟨h, h5⟩ := bang h
      obtain ⟨h, h4⟩ := bang h
      obtain ⟨h, h3⟩ := bang h
      obtain ⟨h1, h2⟩ := bang h
      obtain ⟨tl, hl⟩ := sound_L F l c h5
      exact SB.of c rfl (se_call c F hcm (of_decide_eq_true h1) (of_decide_eq_true h4) h2 h3 h5 hl)
    · cases h
  | .callK f l ks m, sc, W, X, e, c, h => by
    unfold isE at h
    split at h
    · obtain ⟨h, hcm⟩ := bang h
      obtain ⟨h, h6⟩ := bang h
      obtain ⟨h, h5⟩ := bang h
      obtain ⟨h, h4⟩ := bang h
      obtain ⟨h, h3⟩ := bang h
      obtain ⟨h1, h2⟩ := bang h
      obtain ⟨tl, hl⟩ := sound_L F l c h5
      obtain ⟨tm, hm⟩ := sound_K F m c h6
      exact SB.of c rfl (se_callK c F hcm (of_decide_eq_true h1) (of_decide_eq_true h4) h2 h3 h5 hl hm)
    · cases h
  | .blt f l, sc, W, X, e, c, h => by
    unfold isE at h
    split at h
    · obtain ⟨h, hcm⟩ := bang h
      obtain ⟨h, h4⟩ := bang h
      obtain ⟨h1, h2⟩ := bang h
      cases of_decide_eq_true h1
      obtain ⟨tl, hl⟩ := sound_L F l c h4
      refine SB.of c rfl ?_
      cases nf : fresh (.blt f l) with
      | false => exact ⟨_, se_blt c F hcm nf h2 hl⟩
      | true =>
        cases f <;> first | (cases nf; done) | skip
        cases l with
        | nil => cases nf
        | cons a l =>
          cases l with
          | cons b l => cases nf
          | nil =>
            rename_i y es _ _ _
            cases es with
            | nil => exact ⟨_, se_listN c F hcm h2 hl⟩
            | cons z es =>
              have h4 : (noSt y && isE M N a sc y && false) = true := h4
              rw [Bool.and_false] at h4
              cases h4
    · cases h
  | .isi a t, sc, W, X, e, c, h => by
    unfold isE at h
    split at h
    · obtain ⟨h, h6⟩ := bang h
      obtain ⟨h, h5⟩ := bang h
      obtain ⟨h, h4⟩ := bang h
      obtain ⟨h, h3⟩ := bang h
      obtain ⟨h1, h2⟩ := bang h
      cases of_decide_eq_true h1
      cases of_decide_eq_true h3
      obtain ⟨⟨ta, ha⟩, _⟩ := sound_E F a c h6
      exact SB.of c rfl (se_isi c F h2 h4 h5 ha)
    · cases h
  | .comp a tg it, sc, W, X, e, c, h => by
    unfold isE at h
    split at h
    · rename_i elt t i s2 pos
      obtain ⟨h, hcm⟩ := bang h
      obtain ⟨h, h8⟩ := bang h
      obtain ⟨h, h7⟩ := bang h
      obtain ⟨h, h6⟩ := bang h
      obtain ⟨h, h5⟩ := bang h
      obtain ⟨h, h4⟩ := bang h
      obtain ⟨h, h3⟩ := bang h
      obtain ⟨h, h2⟩ := bang h
      obtain ⟨h0, h1⟩ := bang h
      have h0 := of_decide_eq_true h0
      obtain ⟨wi, hi⟩ := sound_I F it (tg := t) c h5
      exact SB.of c rfl ⟨_, (se_lc (ir := .comp a tg it) (pos := pos) c hcm h0 hi h1 h2 (of_decide_eq_true h3) h6 h7 (fun s H C cl fp => (sound_E F a (c.blk s H C cl fp h0) h8).1) (fun _ _ _ _ _ => pts_nil) rfl (fun _ => rfl) body_len1 comp_stp).1⟩
    · cases h
  | .compIf a tg it d, sc, W, X, e, c, h => by
    unfold isE at h
    split at h
    · rename_i elt t i dd s2 pos
      obtain ⟨h, hcm⟩ := bang h
      obtain ⟨h, h9⟩ := bang h
      obtain ⟨h, h8⟩ := bang h
      obtain ⟨h, h7⟩ := bang h
      obtain ⟨h, h6⟩ := bang h
      obtain ⟨h, h5⟩ := bang h
      obtain ⟨h, h4⟩ := bang h
      obtain ⟨h, h3⟩ := bang h
      obtain ⟨h, h2⟩ := bang h
      obtain ⟨h0, h1⟩ := bang h
      have h0 := of_decide_eq_true h0
      obtain ⟨wi, hi⟩ := sound_I F it (tg := t) c h5
      exact SB.of c rfl ⟨_, (se_lc (ir := .compIf a tg it d) (pos := pos) (body := ifBody T a d) c hcm h0 hi h1 h2 (of_decide_eq_true h3) h6 h7 (fun s H C cl fp => (sound_E F a (c.blk s H C cl fp h0) h8).1) (fun s H C cl fp => pts_one (sound_E F d (c.blk s H C cl fp h0) h9).2.choose_spec.tTr) rfl (fun _ => rfl) body_len2 compIf_stp).1⟩
    · cases h
  | .xp1 x a, sc, W, X, e, c, h => by
    unfold isE at h
    split at h
    · rename_i y hy
      obtain ⟨h, hcm⟩ := bang h
      obtain ⟨⟨ta, ha⟩, _⟩ := sound_E F a c h
      obtain ⟨nb, hh⟩ := se_xp1 c F hcm x hy ha
      exact SB.of c nb hh
    · split at h
      · rename_i y hy
        obtain ⟨h, hcm⟩ := bang h
        obtain ⟨⟨ta, ha⟩, _⟩ := sound_E F a c h
        obtain ⟨nb, hh⟩ := se_xpS c F hcm x hy ha
        exact SB.of c nb hh
      · cases h
  | .xp2 x a b, sc, W, X, e, c, h => by
    unfold isE at h
    split at h
    · rename_i y z hy
      obtain ⟨h, hcm⟩ := bang h
      obtain ⟨h, h3⟩ := bang h
      obtain ⟨h1, h2⟩ := bang h
      obtain ⟨⟨ta, ha⟩, _⟩ := sound_E F a c h1
      obtain ⟨⟨tb, hb⟩, _⟩ := sound_E F b c h2
      obtain ⟨nb, hh⟩ := se_xp2 c F hcm x hy ha hb fun e => by
        rw [Bool.or_eq_true] at h3
        rcases h3 with h3 | h3
        · exact absurd e (of_decide_eq_true h3)
        · exact h3
      exact SB.of c nb hh
    · cases h
  | .mk cn, sc, W, X, e, c, h => by
    unfold isE at h
    split at h
    · obtain ⟨h, h3⟩ := bang h
      obtain ⟨h1, h2⟩ := bang h
      cases of_decide_eq_true h1
      exact SB.of c rfl (se_mk c F h2 h3)
    · cases h
  | .meth m a l, sc, W, X, e, c, h => by
    unfold isE at h
    split at h
    · obtain ⟨h, hcm⟩ := bang h
      obtain ⟨h, h7⟩ := bang h
      obtain ⟨h, h6⟩ := bang h
      obtain ⟨h, h5⟩ := bang h
      obtain ⟨h, h4⟩ := bang h
      obtain ⟨h, h3⟩ := bang h
      obtain ⟨h1, h2⟩ := bang h
      cases of_decide_eq_true h1
      obtain ⟨⟨ta, ha⟩, _⟩ := sound_E F a c h6
      obtain ⟨tl, hl⟩ := sound_L F l c h7
      exact SB.of c rfl ⟨_, se_meth c F hcm h2 h3 (of_decide_eq_true h4) (of_decide_eq_true h5) h7 ha hl⟩
    · cases h
  | .isiC a cs, sc, W, X, e, c, h => by
    unfold isE at h
    split at h
    · obtain ⟨h, h6⟩ := bang h
      obtain ⟨h, h5⟩ := bang h
      obtain ⟨h, h4⟩ := bang h
      obtain ⟨h, h3⟩ := bang h
      obtain ⟨h1, h2⟩ := bang h
      cases of_decide_eq_true h1
      obtain ⟨⟨ta, ha⟩, _⟩ := sound_E F a c h6
      exact SB.of c rfl (se_isiC c F h2 h3 h4 h5 ha)
    · cases h
  | .sortF f a, sc, W, X, e, c, h => by
    unfold isE at h
    split at h
    · obtain ⟨h, h10⟩ := bang h
      obtain ⟨h, h9⟩ := bang h
      obtain ⟨h, h8⟩ := bang h
      obtain ⟨h, h7⟩ := bang h
      obtain ⟨h, h6⟩ := bang h
      obtain ⟨h, h5⟩ := bang h
      obtain ⟨h, h4⟩ := bang h
      obtain ⟨h, h3⟩ := bang h
      obtain ⟨h1, h2⟩ := bang h
      cases of_decide_eq_true h1
      cases of_decide_eq_true h3
      obtain ⟨⟨ta, ha⟩, _⟩ := sound_E F a c h10
      exact SB.of c rfl (se_sortF c F h2 (of_decide_eq_true h4) h5 h6 (of_decide_eq_true h7) (of_decide_eq_true h8) h9 ha)
    · cases h
  | .sortL i b a, sc, W, X, e, c, h => by
    unfold isE at h
    split at h
    · obtain ⟨h, h9⟩ := bang h
      obtain ⟨h, h8⟩ := bang h
      obtain ⟨h, h7⟩ := bang h
      obtain ⟨h, h6⟩ := bang h
      obtain ⟨h, h5⟩ := bang h
      obtain ⟨h, h4⟩ := bang h
      obtain ⟨h, h3⟩ := bang h
      obtain ⟨h1, h2⟩ := bang h
      cases of_decide_eq_true h1
      cases of_decide_eq_true h3
      split at h6
      · rename_i p hp
        obtain ⟨h6, n3⟩ := bang h6
        obtain ⟨n1, n2⟩ := bang h6
        obtain ⟨⟨ta, ha⟩, _⟩ := sound_E F a c h8
        have hlm := of_decide_eq_true h4
        have hk := of_decide_eq_true h5
        have L := lam1_by n2
        exact SB.of c rfl (se_sortL c F h2 hlm hk hp (of_decide_eq_true n1) n2 h7 ha fun A outer s H f c' hr => (sound_E F b (c.lamc L hk hlm hr) h9).1)
      · cases h6
    · cases h
  | .ext n l, sc, W, X, e, c, h => by cases h
theorem sound_L (F : Facts G M T lvl) : ∀ (l : Es) {sc : Scope} {W : WX} {X : Cx} {es : List Expr}, Cxk G M N sc lvl W X → isL M N l sc es = true → ∃ tl, SL G T X W es l tl
  | .nil, sc, W, X, es, c, h => by
    unfold isL at h
    split at h
    · exact ⟨_, sl_nil⟩
    · cases h
  | .cons a l, sc, W, X, es, c, h => by
    unfold isL at h
    split at h
    · obtain ⟨h, h3⟩ := bang h
      obtain ⟨h1, h2⟩ := bang h
      obtain ⟨⟨ta, ha⟩, _⟩ := sound_E F a c h2
      obtain ⟨tl, hl⟩ := sound_L F l c h3
      exact ⟨_, sl_cons h1 ha hl⟩
    · cases h
theorem sound_K (F : Facts G M T lvl) : ∀ (l : Es) {ks : List Str} {sc : Scope} {W : WX} {X : Cx} {kws : List Keyword}, Cxk G M N sc lvl W X → isKw M N l ks sc kws = true → ∃ tl, SK G T X W kws ks l tl
  | .nil, ks, sc, W, X, kws, c, h => by
    unfold isKw at h
    split at h
    · exact ⟨_, sk_nil⟩
    · cases h
  | .cons a l, ks, sc, W, X, kws, c, h => by
    unfold isKw at h
    split at h
    · obtain ⟨h, h3⟩ := bang h
      obtain ⟨h1, h2⟩ := bang h
      cases of_decide_eq_true h1
      obtain ⟨⟨ta, ha⟩, _⟩ := sound_E F a c h2
      obtain ⟨tl, hl⟩ := sound_K F l c h3
      exact ⟨_, sk_cons ha hl⟩
    · cases h
theorem sound_I (F : Facts G M T lvl) : ∀ (it : Wk) {sc : Scope} {W : WX} {X : Cx} {tg e : Expr}, Cxk G M N sc lvl W X → isIt M N it sc tg e = true → ∃ wi, SI G T X W tg e it wi
  | .rng1 a, sc, W, X, tg, e, c, h => by
    unfold isIt at h
    split at h
    · obtain ⟨h, h4⟩ := bang h
      obtain ⟨h, h3⟩ := bang h
      obtain ⟨h1, h2⟩ := bang h
      cases of_decide_eq_true h1
      obtain ⟨⟨ta, ha⟩, _⟩ := sound_E F a c h4
      exact ⟨_, si_rng1 c F h2 h3 ha⟩
    · cases h
  | .rng2 a b, sc, W, X, tg, e, c, h => by
    unfold isIt at h
    split at h
    · obtain ⟨h, h6⟩ := bang h
      obtain ⟨h, h5⟩ := bang h
      obtain ⟨h, h4⟩ := bang h
      obtain ⟨h, h3⟩ := bang h
      obtain ⟨h1, h2⟩ := bang h
      cases of_decide_eq_true h1
      obtain ⟨⟨ta, ha⟩, _⟩ := sound_E F a c h5
      obtain ⟨⟨tb, hb⟩, _⟩ := sound_E F b c h6
      exact ⟨_, si_rng2 c F h2 h3 h4 ha hb⟩
    · cases h
  | .seq a, sc, W, X, tg, e, c, h => by
    unfold isIt at h
    obtain ⟨⟨ta, ha⟩, _⟩ := sound_E F a c h
    exact ⟨_, si_seq c ha⟩
  | .zip a b, sc, W, X, tg, e, c, h => by
    unfold isIt at h
    split at h
    · obtain ⟨h, h7⟩ := bang h
      obtain ⟨h, h6⟩ := bang h
      obtain ⟨h, h5⟩ := bang h
      obtain ⟨h, h4⟩ := bang h
      obtain ⟨h, h3⟩ := bang h
      obtain ⟨h1, h2⟩ := bang h
      cases of_decide_eq_true h2
      obtain ⟨⟨ta, ha⟩, _⟩ := sound_E F a c h6
      obtain ⟨⟨tb, hb⟩, _⟩ := sound_E F b c h7
      cases tg <;> first | (cases h1; done) | skip
      exact ⟨_, si_zip c F h3 h4 h5 ha hb⟩
    · cases h
  | .enum a, sc, W, X, tg, e, c, h => by
    unfold isIt at h
    split at h
    · obtain ⟨h, h5⟩ := bang h
      obtain ⟨h, h4⟩ := bang h
      obtain ⟨h, h3⟩ := bang h
      obtain ⟨h1, h2⟩ := bang h
      cases of_decide_eq_true h2
      obtain ⟨⟨ta, ha⟩, _⟩ := sound_E F a c h5
      cases tg <;> first | (cases h1; done) | skip
      exact ⟨_, si_enum c F h3 h4 ha⟩
    · cases h
  | .rev a, sc, W, X, tg, e, c, h => by
    unfold isIt at h
    split at h
    · obtain ⟨h, h4⟩ := bang h
      obtain ⟨h, h3⟩ := bang h
      obtain ⟨h1, h2⟩ := bang h
      cases of_decide_eq_true h1
      obtain ⟨⟨ta, ha⟩, _⟩ := sound_E F a c h4
      exact ⟨_, si_rev c F h2 h3 ha⟩
    · cases h
end
end
end Ir

/-! Ir11: statements: what is wanted behind them, the slots' relation under stores. -/
namespace Ir
open PySem L2 PyProof.Rows
section
variable {G : Gx} {B : Addr → Prop} {H0 H1 H' H : Hp} {ρ ρ' : Sl} {σ σ' : L2.St}
/-- what is wanted behind a statement -/
def PostF (G : Gx) (B : Addr → Prop) (H0 : Hp) (r : R Fl) (D : Ends) (W : WX) : Prop := match r with
  | .stuck => False
  | .exc c fs => ∀ cls d σ' H', Same G H0 H' → XR G H' c fs cls d → W cls d σ' H'
  | .ok (.nx ρ') => ∀ σ' H', RelS G B H0 ρ' σ' H' → D.nx σ' H'
  | .ok (.bk ρ') => ∀ σ' H', RelS G B H0 ρ' σ' H' → D.bk σ' H'
  | .ok (.ct ρ') => ∀ σ' H', RelS G B H0 ρ' σ' H' → D.ct σ' H'
  | .ok (.rt d) => ∀ v H', Same G H0 H' → rep G B H' d v → D.rt v H'
/-- an expression ahead, the rest behind it -/
theorem PostF.bnd {γ δ : Type} {rp : Hp → γ → δ → Prop} {r : R γ} {f : γ → R Fl} {D : Ends} {W : WX} {Q : δ → Hp → Prop} (rl : RelS G B H0 ρ σ H) (p : PostF G B H0 (r.bind f) D W)
    (k : ∀ d v H1, Same G H H1 → rp H1 d v → PostF G B H0 (f d) D W → Q v H1) : PostR G rp H r Q (WE W σ) := by
  cases r with
  | stuck => exact p
  | exc c fs => exact fun cls d H1 s x => p cls d σ H1 (rl.same.trans s) x
  | ok d => exact fun v H1 s x => k d v H1 s x p
theorem PostF.pure {γ : Type} {r : R γ} {f : γ → R Fl} {D : Ends} {W : WX} (n : Nx r) (p : PostF G B H0 (r.bind f) D W) : ∃ a, r = .ok a ∧ PostF G B H0 (f a) D W := by
  cases r with
  | stuck => exact p.elim
  | exc c fs => exact (n c fs rfl).elim
  | ok a => exact ⟨a, rfl, p⟩
theorem PostF.iff {b : Bool} {r : R Fl} {D : Ends} {W : WX} (p : PostF G B H0 (.iff b r) D W) : b = true ∧ PostF G B H0 r D W := by
  cases b with
  | true => exact ⟨rfl, p⟩
  | false => exact p.elim
theorem PostF.bndN {f : D → R Fl} {r : R D} {D' : Ends} {W : WX} {Q : VK} (rl : RelS G B H0 ρ σ H) (p : PostF G B H0 (r.bind f) D' W)
    (k : ∀ d q H1, H q = none → Same G H H1 → ownR G (fun a => a = q ∨ Blk B ρ σ a) H1 q d → PostF G B H0 (f d) D' W → Q (.ref q) H1) : PostN G (Blk B ρ σ) H r Q (WE W σ) := by
  cases r with
  | stuck => exact p
  | exc c fs => exact fun cls d H1 s x => p cls d σ H1 (rl.same.trans s) x
  | ok d => exact fun v H1 n s x => k d v H1 n s x p
/-- another ground -/
theorem PostF.re {H2 : Hp} {r : R Fl} {D : Ends} {W : WX} (s : Same G H0 H2) (k : ∀ ρ' σ' H', RelS G B H2 ρ' σ' H' → RelS G B H0 ρ' σ' H') (p : PostF G B H0 r D W) : PostF G B H2 r D W := by
  cases r with
  | stuck => exact p
  | exc c fs => exact fun cls d σ' H' z x => p cls d σ' H' (s.trans z) x
  | ok f =>
    cases f with
    | nx ρ' => exact fun σ' H' z => p σ' H' (k _ _ _ z)
    | bk ρ' => exact fun σ' H' z => p σ' H' (k _ _ _ z)
    | ct ρ' => exact fun σ' H' z => p σ' H' (k _ _ _ z)
    | rt d => exact fun v H' z x => p v H' (s.trans z) x
/-- fewer slots are known -/
theorem RelS.fewer (r : RelS G B H0 ρ σ H) (hl : ρ'.length = ρ.length) (h : ∀ i : Nat, ρ'[i]? = ρ[i]? ∨ ρ'[i]? = some none) : RelS G B H0 ρ' σ H := by
  have hs : ∀ (i : Nat) (x : SV), ρ'[i]? = some (some x) → ρ[i]? = some (some x) := fun i x e => by
    rcases h i with q | q
    · rw [← q]
      exact e
    · rw [q] at e
      cases e
  have hb : ∀ a, Blk B ρ' σ a → Blk B ρ σ a := fun a z => by
    rcases z with z | ⟨j, x, e, e1, w, e2⟩
    · exact .inl z
    · exact .inr ⟨j, x, e, hs _ _ e1, w, e2⟩
  refine ⟨hl.trans r.len, r.same, r.tab, r.dom, fun j e h1 => ?_, fun j x e h1 w => ?_, fun j k x y e e' a h1 w h2 w' h3 h4 => r.inj j k x y e e' a (hs _ _ h1) w (hs _ _ h2) w' h3 h4⟩
  · obtain ⟨u, e1, q1⟩ := r.im j e (hs _ _ h1)
    exact ⟨u, e1, rep_anti hb q1⟩
  · obtain ⟨a, t, e1, n, q1⟩ := r.own j x e (hs _ _ h1) w
    exact ⟨a, t, e1, n, q1.keep rfl (fun _ _ h _ _ => h) fun a _ _ => hb a⟩
theorem mask_len : ∀ (l m : Sl), (mask l m).length = m.length
  | [], m => List.length_map ..
  | a :: l, [] => rfl
  | a :: l, b :: m => congrArg Nat.succ (mask_len l m)
theorem mask_get : ∀ (l m : Sl) (i : Nat), (mask l m)[i]? = m[i]? ∨ (mask l m)[i]? = some none
  | [], m, i => by
    show (m.map fun _ => none)[i]? = m[i]? ∨ (m.map fun _ => none)[i]? = some none
    rw [List.getElem?_map]
    cases m[i]? with
    | none => exact .inl rfl
    | some x => exact .inr rfl
  | a :: l, [], i => .inl rfl
  | a :: l, b :: m, 0 => by
    cases a with
    | none => exact .inr rfl
    | some x => exact .inl rfl
  | a :: l, b :: m, i + 1 => mask_get l m i
theorem RelS.mask (r : RelS G B H0 ρ' σ H) : RelS G B H0 (Ir.mask ρ ρ') σ H := r.fewer (mask_len _ _) fun i => mask_get _ _ i
theorem Same.toDel {a : Addr} (s : Same G H0 H) (n : H0 a = none) (m : MutL (H a)) : Same G H0 (Ir.del H a) := by
  have ne : ∀ b o, H0 b = some o → b ≠ a := fun b o e z => by rw [z, n] at e; cases e
  exact ⟨fun b o e nt => by rw [del_ne (ne b o e)]; exact s.ext b o e nt, fun b ps e => by rw [del_ne (ne b _ e)]; exact s.tbl b ps e, fun p hp t => del_tab m (s.tab p hp t)⟩
theorem wrS_wr {x : SV} {d d' : D} (w : x.wr = some d) : (wrS d' (some x)).wr = some d' ∧ ∀ a, x.at_ a → (wrS d' (some x)).at_ a := by
  cases x with
  | im e => cases w
  | own e => exact ⟨rfl, fun _ _ => trivial⟩
  | io b e => exact ⟨rfl, fun _ h => h⟩
theorem putW_of {i : Nat} {x : SV} {d : D} (e : ρ[i]? = some (some x)) : putW ρ i d = ρ.set i (some (wrS d (some x))) := by
  unfold putW
  rw [e]
/-- a list, a dict of one's own is written -/
theorem RelS.writeS (r : RelS G B H0 ρ σ H) {i : Nat} {x : SV} {d d' : D} {a : Addr} (e1 : ρ[i]? = some (some x)) (w : x.wr = some d) (e2 : σ[i]? = some (some (.ref a))) (hk : Same G (Ir.del H a) H') (h : ownR G (Blk B ρ σ) H' a d') : RelS G B H0 (putW ρ i d') σ H' := by
  have hi : i < ρ.length := (List.getElem?_eq_some_iff.mp e1).1
  obtain ⟨a', ta, e3, ⟨n0, nb⟩, q0⟩ := r.own i x d e1 w
  rw [e2] at e3
  cases e3
  obtain ⟨w1, w2⟩ := wrS_wr (d' := d') w
  rw [putW_of e1]
  have bl : Blk B ρ σ a := .inr ⟨i, x, d, e1, w, e2⟩
  have kp : Keep (Blk B ρ σ) H H' := fun b o e n nt => hk.ext b o (by rw [del_ne fun z => n (by rw [z]; exact bl)]; exact e) nt
  have hb : ∀ b, Blk B (ρ.set i (some (wrS d' (some x)))) σ b → Blk B ρ σ b := fun b z => by
    rcases z with z | ⟨j, y, e, q1, w', q2⟩
    · exact .inl z
    · rcases set_get q1 with ⟨rfl, _⟩ | ⟨ne, q⟩
      · exact .inr ⟨i, x, d, e1, w, q2⟩
      · exact .inr ⟨j, y, e, q, w', q2⟩
  refine ⟨by rw [List.length_set, r.len], (r.same.toDel n0 q0.mut).trans hk, fun p hp => hk.tab p hp (del_tab q0.mut (r.tab p hp)), fun b z => ?_, fun j e h1 => ?_, fun j y e h1 w' => ?_, fun j k y z e e' b h1 w' h2 w2' h3 h4 => ?_⟩
  · refine MutL.same hk ?_
    rw [del_ne fun q => nb (by rw [← q]; exact z)]
    exact r.dom b z
  · rcases set_get h1 with ⟨_, q⟩ | ⟨ne, q⟩
    · exact (no_im q.symm w1).elim
    · obtain ⟨u, q1, q2⟩ := r.im j e q
      exact ⟨u, q1, rep_keep kp (fun b _ _ => hb b) q2⟩
  · rcases set_get h1 with ⟨rfl, q⟩ | ⟨ne, q⟩
    · cases q
      rw [w1] at w'
      cases w'
      exact ⟨a, w2 a ta, e2, ⟨n0, nb⟩, h.keep rfl (fun _ _ h _ _ => h) fun b _ _ => hb b⟩
    · obtain ⟨b, t, q1, n, q2⟩ := r.own j y e q w'
      have nab : b ≠ a := fun z => ne (r.inj i j x y d e a e1 w q w' e2 (z ▸ q1))
      have hbb : H' b = H b := by
        obtain ⟨o, eo⟩ := q2.there
        have m := q2.mut
        rw [eo] at m
        rw [eo]
        exact hk.ext b o (by rw [del_ne nab]; exact eo) m.nt
      exact ⟨b, t, q1, n, q2.keep hbb kp fun b _ _ => hb b⟩
  · have q1 : ∃ y1 d1, ρ[j]? = some (some y1) ∧ y1.wr = some d1 := by
      rcases set_get h1 with ⟨rfl, _⟩ | ⟨_, q⟩
      · exact ⟨x, d, e1, w⟩
      · exact ⟨_, _, q, w'⟩
    have q2 : ∃ y1 d1, ρ[k]? = some (some y1) ∧ y1.wr = some d1 := by
      rcases set_get h2 with ⟨rfl, _⟩ | ⟨_, q⟩
      · exact ⟨x, d, e1, w⟩
      · exact ⟨_, _, q, w2'⟩
    obtain ⟨y1, d1, q1, v1⟩ := q1
    obtain ⟨y2, d2, q2, v2⟩ := q2
    exact r.inj j k y1 y2 d1 d2 b q1 v1 q2 v2 h3 h4
theorem RelS.write (r : RelS G B H0 ρ σ H) {i : Nat} {x : SV} {d d' : D} {a : Addr} (e1 : ρ[i]? = some (some x)) (w : x.wr = some d) (e2 : σ[i]? = some (some (.ref a))) (hk : ∀ b, b ≠ a → H' b = H b) (h : ownR G (Blk B ρ σ) H' a d') : RelS G B H0 (putW ρ i d') σ H' :=
  r.writeS e1 w e2 (Same.delW hk) h
/-- no longer to be written -/
theorem RelS.frz (r : RelS G B H0 ρ σ H) {i : Nat} {d : D} (e1 : ρ[i]? = some (some (.own d))) : RelS G B H0 (Ir.putI ρ i d) σ H := by
  have hi : i < ρ.length := (List.getElem?_eq_some_iff.mp e1).1
  obtain ⟨a, _, e2, ⟨n0, nb⟩, q0⟩ := r.own i _ d e1 rfl
  have hb : ∀ b, Blk B (Ir.putI ρ i d) σ b → Blk B ρ σ b ∧ b ≠ a := fun b z => by
    rcases z with z | ⟨j, x, e, q1, w, q2⟩
    · exact ⟨.inl z, fun q => nb (q ▸ z)⟩
    · rcases set_get q1 with ⟨_, q⟩ | ⟨ne, q⟩
      · exact (no_im q w).elim
      · exact ⟨.inr ⟨j, x, e, q, w, q2⟩, fun z => ne (r.inj i j _ x d e a e1 rfl q w e2 (z ▸ q2))⟩
  refine ⟨by unfold Ir.putI; rw [List.length_set, r.len], r.same, r.tab, r.dom, fun j e h1 => ?_, fun j x e h1 w => ?_, fun j k x y e e' b h1 w h2 w' h3 h4 => ?_⟩
  · rcases set_get h1 with ⟨rfl, q⟩ | ⟨ne, q⟩
    · cases q
      refine ⟨.ref a, e2, ?_⟩
      cases d with
      | lst l =>
        obtain ⟨vs, z, w⟩ := q0
        exact ⟨a, vs, rfl, .inl z, fun z => (hb a z).2 rfl, reps_anti (fun b z => (hb b z).1) w⟩
      | dct t ks l =>
        obtain ⟨vs, z, w⟩ := q0
        exact ⟨a, vs, rfl, z.at_, fun z => (hb a z).2 rfl, reps_anti (fun b z => (hb b z).1) w⟩
      | _ => exact q0.elim
    · obtain ⟨u, q1, q2⟩ := r.im j e q
      exact ⟨u, q1, rep_anti (fun b z => (hb b z).1) q2⟩
  · rcases set_get h1 with ⟨_, q⟩ | ⟨ne, q⟩
    · exact (no_im q w).elim
    · obtain ⟨b, t, q1, n, q2⟩ := r.own j x e q w
      exact ⟨b, t, q1, n, q2.keep rfl (fun _ _ h _ _ => h) fun b _ _ z => (hb b z).1⟩
  · rcases set_get h1 with ⟨_, q⟩ | ⟨ne, q⟩
    · exact (no_im q w).elim
    · rcases set_get h2 with ⟨_, q'⟩ | ⟨ne', q'⟩
      · exact (no_im q' w').elim
      · exact r.inj j k x y e e' b q w q' w' h3 h4
/-! ### the ground of a loop: what no one may write -/
open Classical in
noncomputable def gnd (B : Addr → Prop) (ρ : Sl) (σ : L2.St) (H0 H1 : Hp) : Hp := fun a => if Blk B ρ σ a then H0 a else H1 a
theorem gnd_in {a : Addr} (h : Blk B ρ σ a) : gnd B ρ σ H0 H1 a = H0 a := by
  unfold gnd
  rw [if_pos h]
theorem gnd_out {a : Addr} (h : ¬ Blk B ρ σ a) : gnd B ρ σ H0 H1 a = H1 a := by
  unfold gnd
  rw [if_neg h]
/-- a table isn't blocked -/
theorem blk_ntbl (r : RelS G B H0 ρ σ H1) {a : Addr} {ps : Array Value} (h : Blk B ρ σ a) (e : H0 a = some (.tbl ps)) : False := by
  obtain ⟨ps', e'⟩ := r.same.tbl a ps e
  have m := r.bdom a h
  rw [e'] at m
  exact m
theorem gnd_s (r : RelS G B H0 ρ σ H1) : Same G H0 (gnd B ρ σ H0 H1) := by
  refine ⟨fun a o e nt => ?_, fun a ps e => ?_, fun p hp t => tab_keep (fun b o e nm => ?_) (r.same.tab p hp t)⟩
  · by_cases h : Blk B ρ σ a
    · rw [gnd_in h]
      exact e
    · rw [gnd_out h]
      exact r.same.ext a o e nt
  · by_cases h : Blk B ρ σ a
    · exact (blk_ntbl r h e).elim
    · rw [gnd_out h]
      exact r.same.tbl a ps e
  · rw [gnd_out fun h => nm (by have m := r.bdom b h; rw [e] at m; exact m)]
    exact e
theorem gnd_t (r : RelS G B H0 ρ σ H1) : Same G (gnd B ρ σ H0 H1) H1 := by
  have ent : ∀ a o, gnd B ρ σ H0 H1 a = some o → (∀ ps, o ≠ .tbl ps) → H1 a = some o := fun a o e nt => by
    by_cases h : Blk B ρ σ a
    · rw [gnd_in h] at e
      exact r.same.ext a o e nt
    · rw [gnd_out h] at e
      exact e
  refine ⟨ent, fun a ps e => ?_, fun p hp t => ?_⟩
  · by_cases h : Blk B ρ σ a
    · rw [gnd_in h] at e
      exact (blk_ntbl r h e).elim
    · rw [gnd_out h] at e
      exact ⟨ps, e⟩
  · refine tab_keep (fun b o e nm => ?_) t
    by_cases h : Blk B ρ σ b
    · rw [gnd_in h] at e
      rcases HO.cs o with ⟨ps, rfl⟩ | nt
      · exact (blk_ntbl r h e).elim
      · exact r.same.ext b o e nt
    · rw [gnd_out h] at e
      exact e
theorem gnd_none (r : RelS G B H0 ρ σ H1) {a : Addr} (h : gnd B ρ σ H0 H1 a = none) : H0 a = none := (gnd_s r).free h
theorem RelS.up (r : RelS G B H0 ρ σ H1) : RelS G B (gnd B ρ σ H0 H1) ρ σ H1 :=
  ⟨r.len, gnd_t r, r.tab, r.dom, r.im, fun j x e h1 w => by
    obtain ⟨a, t, e1, ⟨n, nb⟩, q⟩ := r.own j x e h1 w
    refine ⟨a, t, e1, ⟨?_, nb⟩, q⟩
    rw [gnd_in (.inr ⟨j, x, e, h1, w, e1⟩)]
    exact n, r.inj⟩
theorem RelS.down (r : RelS G B H0 ρ σ H1) (r' : RelS G B (gnd B ρ σ H0 H1) ρ' σ' H') : RelS G B H0 ρ' σ' H' :=
  ⟨r'.len, (gnd_s r).trans r'.same, r'.tab, r'.dom, r'.im, fun j x e h1 w => by
    obtain ⟨a, t, e1, ⟨n, nb⟩, q⟩ := r'.own j x e h1 w
    exact ⟨a, t, e1, ⟨gnd_none r n, nb⟩, q⟩, r'.inj⟩
/-- the walk goes on over the ground -/
theorem walks_on {J : It} {ds : List D} (r : RelS G B H0 ρ σ H1) (wk : ∀ Hm, Keep (Blk B ρ σ) H1 Hm → Walks G (Blk B ρ σ) Hm J ds) (r' : RelS G B (gnd B ρ σ H0 H1) ρ' σ' H') :
    (∀ i, i < ds.length → J.go i H' ∧ ∀ x H3, J.yld i H' x H3 → Same G H' H3 ∧ ∃ d, ds[i]? = some d ∧ rep G (Blk B ρ' σ') H3 d x) ∧ J.stop ds.length H' := by
  classical
  refine wk (fun a => if Blk B ρ σ a then H' a else H1 a) (fun a o e n _ => by simp only [if_neg n]; exact e) (Blk B ρ' σ') H' ⟨fun a o e nt => ?_, fun a ps e => ?_, fun p hp _ => r'.tab p hp⟩ r'.bdom fun a o e z => ?_
  · by_cases h : Blk B ρ σ a
    · simp only [if_pos h] at e
      exact e
    · simp only [if_neg h] at e
      exact r'.same.ext a o (by rw [gnd_out h]; exact e) nt
  · by_cases h : Blk B ρ σ a
    · simp only [if_pos h] at e
      exact ⟨ps, e⟩
    · simp only [if_neg h] at e
      exact r'.same.tbl a ps (by rw [gnd_out h]; exact e)
  · by_cases h : Blk B ρ σ a
    · exact h
    · simp only [if_neg h] at e
      rcases z with z | ⟨j, x, e', q1, w, q2⟩
      · exact .inl z
      · obtain ⟨b, _, q3, ⟨n, _⟩, _⟩ := r'.own j x e' q1 w
        rw [q2] at q3
        cases q3
        rw [gnd_out h, e] at n
        cases n
end
end Ir

/-! Ir12: statements: one form after another. -/
namespace Ir
open PySem L2 PyProof.Rows
/-- where a def's body runs -/
structure Cxs (G : Gx) (M : Nms) (N : List Str) (scp : Scope) (lvl : Nat) (W : WX) (X : Cx) : Prop where
  toCxk : Cxk G M N scp lvl W X
  po : PassesOwn (model X.prog X.w) X.A X.env X.xe
  fnt : ∀ x, X.fn x = true
  stk : X.stack = X.env :: X.outer
  frm : X.env.frame = some X.env.locals
  exn : X.ex = []
  kd : scp.kind = .function
section
variable {G : Gx} {M : Nms} {T : Tbl} {N : List Str} {sc : Scope} {lvl : Nat} {W : WX} {X : Cx}
structure SS (G : Gx) (T : Tbl) (X : Cx) (W : WX) (st : Stmt) (ir : S) (t : TS) : Prop where
  ps : PS X st t
  k : ∀ B H0 ρ σ H D, RelS G B H0 ρ σ H → PostF G B H0 (exS T ir ρ) D W → t D σ H
structure SSs (G : Gx) (T : Tbl) (X : Cx) (W : WX) (st : List Stmt) (ir : Ss) (t : TS) : Prop where
  ps : PSs X st t
  k : ∀ B H0 ρ σ H D, RelS G B H0 ρ σ H → PostF G B H0 (exSs T ir ρ) D W → t D σ H
def noCmp : Expr → Bool
  | .ListComp _ _ _ _ => false
  | .SetComp _ _ _ _ => false
  | .DictComp _ _ _ _ _ => false
  | _ => true
def swapB (sc : Scope) (x : Str) (py : Pos) (v : Expr) : Bool := match v with
  | .ListComp _ _ s pos => decide (sc.names.lookup x = some .local) && (py.line == pos.line) && !(s.names.any fun p => p.1 == x && (p.2 == .local || p.2 == .cell))
  | _ => false
def cellB (sc : Scope) (x : Str) (v : Expr) : Bool := match v with
  | .ListComp _ _ _ _ => decide (sc.names.lookup x = some .cell)
  | _ => false
def okV (sc : Scope) (x : Str) (py : Pos) (v : Expr) : Bool := noCmp v || swapB sc x py v || cellB sc x v
theorem cell_sw {sc : Scope} {x : Str} {v : Expr} {env : Env} (h : cellB sc x v = true) (e : env.scope = sc) (py : Pos) (l : Nat) : swapsWith v (some (.Name x py)) l env = pure false := by
  cases v with
  | ListComp elt gs s p =>
    have hy : env.scope.names.lookup x = some .cell := by
      rw [e]
      exact of_decide_eq_true h
    have ky : env.kindOf x = some .cell := hy
    unfold swapsWith
    simp only [ky, Expr.pos]
    have z : (some NameKind.cell == some NameKind.local) = false := rfl
    rw [z, Bool.and_false, Bool.false_and, Bool.false_and]
  | _ => cases h
theorem noCmp_sw {v : Expr} (h : noCmp v = true) (t : Option Expr) (l : Nat) (env : Env) : swapsWith v t l env = pure false := by
  cases v <;> first | rfl | cases h
theorem loc_of {x : Str} (h : locB sc x = true) (e : X.env.scope = sc) : Loc X.env.scope x := by
  rw [e]
  exact locB_of h
variable {e v : Expr} {a b : E} {ta : TE} {pos py : Pos} {x : Str} {i : Nat}
theorem ps_weak {st : Stmt} {t t' : TS} (h : PS X st t) (k : ∀ D σ H, t' D σ H → t D σ H) : PS X st t' := ⟨fun pins s σ H D I q => h.run pins s σ H D I (k D σ H q)⟩
/-! ### name = value -/
theorem ss_expr (c : Cxs G M N sc lvl W X) (nc : noCmp e = true) (ha : SE G T X W e a ta) : SS G T X W (.Expr e pos) (.expr a) (tDrop ta) :=
  ⟨ps_expr ha.pe (noCmp_sw nc _ _ _), fun B H0 ρ σ H D r p => ha.pk B H0 ρ σ H _ r (PostF.bnd r p fun d v H1 s1 h1 p1 => p1 σ H1 (r.mono s1))⟩
theorem asg_k (ha : SE G T X W e a ta) : ∀ B H0 ρ σ H D, RelS G B H0 ρ σ H → PostF G B H0 (exS T (.asg i a) ρ) D W → tAsg ta (gName i) D σ H := fun B H0 ρ σ H D r p =>
  ha.im B H0 ρ σ H _ r (PostF.bnd r p fun d v H1 s1 h1 p1 => by
    obtain ⟨c, p2⟩ := PostF.iff p1
    exact p2 _ H1 ((r.mono s1).putI (of_decide_eq_true c) h1))
theorem asgO_k (ha : SE G T X W e a ta) : ∀ B H0 ρ σ H D, RelS G B H0 ρ σ H → PostF G B H0 (exS T (.asgO i a) ρ) D W → tAsg ta (gName i) D σ H := fun B H0 ρ σ H D r p => by
  have p : PostF G B H0 (.iff (fresh a && decide (i < ρ.length)) ((evP T a ρ).bind fun d => .ok (.nx (putO ρ i d)))) D W := p
  obtain ⟨c, p⟩ := PostF.iff p
  rw [Bool.and_eq_true] at c
  exact ha.fr c.1 B H0 ρ σ H _ r (PostF.bndN r p fun d q H1 n s1 h1 p1 => p1 _ H1 (r.putN (of_decide_eq_true c.2) s1 n h1))
theorem ps_name0 (c : Cxs G M N sc lvl W X) (hi : N[i]? = some x) (hl : locB sc x = true) (nc : ∀ py l, swapsWith e (some (.Name x py)) l X.env = pure false) (ha : PE X e ta) : PS X (.Assign [.Name x py] e pos) (tAsg ta (gName i)) :=
  ps_set (by rw [c.toCxk.hN]; exact c.toCxk.nd) (by rw [c.toCxk.hN]; exact hi) (loc_of hl c.toCxk.sc) ha (nc _ _) (.inl (c.fnt x))
theorem ps_name (c : Cxs G M N sc lvl W X) (hi : N[i]? = some x) (hl : locB sc x = true) (nc : noCmp e = true) (ha : PE X e ta) : PS X (.Assign [.Name x py] e pos) (tAsg ta (gName i)) :=
  ps_name0 c hi hl (fun _ _ => noCmp_sw nc _ _ _) ha
theorem swap_is (c : Cxs G M N sc lvl W X) {elt : Expr} {gs : List Comprehension} {s2 : Scope} {p2 : Pos} {l : Nat} (h : swapB sc x py (.ListComp elt gs s2 p2) = true) : swapsWith (.ListComp elt gs s2 p2) (some (.Name x py)) l X.env = pure true ∧ sc.names.lookup x = some .local := by
  have h : (decide (sc.names.lookup x = some .local) && (py.line == p2.line) && !(s2.names.any fun p => p.1 == x && (p.2 == .local || p.2 == .cell))) = true := h
  obtain ⟨h, h3⟩ := bang h
  obtain ⟨h1, h2⟩ := bang h
  have h1 := of_decide_eq_true h1
  refine ⟨sw_true (by rw [c.toCxk.sc]; exact c.kd) (by rw [c.toCxk.sc]; exact h1) h2 ?_, h1⟩
  rw [Bool.not_eq_true'] at h3
  exact h3
/-- a comprehension, also where it is stored at once -/
theorem sound_C (F : Facts G M T lvl) : ∀ (ir : E) {sc : Scope} {W : WX} {X : Cx} {e : Expr}, Cxk G M N sc lvl W X → isE M N ir sc e = true → noCmp e = false →
    ∃ te, SE G T X W e ir te ∧ ∀ (py spos : Pos) (y : Str) (j : Nat), N[j]? = some y → sc.names.lookup y = some .local → swapsWith e (some (.Name y py)) spos.line X.env = pure true → PS X (.Assign [.Name y py] e spos) (tAsg te (gName j))
  | .comp a tg it, sc, W, X, e, c, h, nc => by
    unfold isE at h
    split at h
    · rename_i elt t i s2 pos
      obtain ⟨h, hcm⟩ := bang h
      obtain ⟨h, h8⟩ := bang h
      obtain ⟨h, h7⟩ := bang h
      obtain ⟨h, h6⟩ := bang h
      obtain ⟨h, h5⟩ := bang h
      obtain ⟨h, h4⟩ := bang h
      obtain ⟨h, h3⟩ := bang h
      obtain ⟨h, h2⟩ := bang h
      obtain ⟨h0, h1⟩ := bang h
      have h0 := of_decide_eq_true h0
      obtain ⟨wi, hi⟩ := sound_I F it (tg := t) c h5
      exact ⟨_, se_lc (ir := .comp a tg it) (pos := pos) c hcm h0 hi h1 h2 (of_decide_eq_true h3) h6 h7 (fun s H C cl fp => (sound_E F a (c.blk s H C cl fp h0) h8).1) (fun _ _ _ _ _ => pts_nil) rfl (fun _ => rfl) body_len1 comp_stp⟩
    · cases h
  | .compIf a tg it d, sc, W, X, e, c, h, nc => by
    unfold isE at h
    split at h
    · rename_i elt t i dd s2 pos
      obtain ⟨h, hcm⟩ := bang h
      obtain ⟨h, h9⟩ := bang h
      obtain ⟨h, h8⟩ := bang h
      obtain ⟨h, h7⟩ := bang h
      obtain ⟨h, h6⟩ := bang h
      obtain ⟨h, h5⟩ := bang h
      obtain ⟨h, h4⟩ := bang h
      obtain ⟨h, h3⟩ := bang h
      obtain ⟨h, h2⟩ := bang h
      obtain ⟨h0, h1⟩ := bang h
      have h0 := of_decide_eq_true h0
      obtain ⟨wi, hi⟩ := sound_I F it (tg := t) c h5
      exact ⟨_, se_lc (ir := .compIf a tg it d) (pos := pos) (body := ifBody T a d) c hcm h0 hi h1 h2 (of_decide_eq_true h3) h6 h7 (fun s H C cl fp => (sound_E F a (c.blk s H C cl fp h0) h8).1) (fun s H C cl fp => pts_one (sound_E F d (c.blk s H C cl fp h0) h9).2.choose_spec.tTr) rfl (fun _ => rfl) body_len2 compIf_stp⟩
    · cases h
  | .var _, _, _, _, e, _, h, nc => by cases e <;> first | (cases nc; done) | cases h
  | .int _, _, _, _, e, _, h, nc => by cases e <;> first | (cases nc; done) | cases h
  | .bl _, _, _, _, e, _, h, nc => by cases e <;> first | (cases nc; done) | cases h
  | .non, _, _, _, e, _, h, nc => by cases e <;> first | (cases nc; done) | cases h
  | .str _, _, _, _, e, _, h, nc => by cases e <;> first | (cases nc; done) | cases h
  | .glb _, _, _, _, e, _, h, nc => by cases e <;> first | (cases nc; done) | cases h
  | .bin _ _ _, _, _, _, e, _, h, nc => by cases e <;> first | (cases nc; done) | cases h
  | .revT _, _, _, _, e, _, h, nc => by cases e <;> first | (cases nc; done) | cases h
  | .tupRev _, _, _, _, e, _, h, nc => by cases e <;> first | (cases nc; done) | cases h
  | .neg _, _, _, _, e, _, h, nc => by cases e <;> first | (cases nc; done) | cases h
  | .not _, _, _, _, e, _, h, nc => by cases e <;> first | (cases nc; done) | cases h
  | .cmp _ _ _, _, _, _, e, _, h, nc => by cases e <;> first | (cases nc; done) | cases h
  | .chain _ _ _ _ _, _, _, _, e, _, h, nc => by cases e <;> first | (cases nc; done) | cases h
  | .and _ _, _, _, _, e, _, h, nc => by cases e <;> first | (cases nc; done) | cases h
  | .or _ _, _, _, _, e, _, h, nc => by cases e <;> first | (cases nc; done) | cases h
  | .tup _, _, _, _, e, _, h, nc => by cases e <;> first | (cases nc; done) | cases h
  | .lst _, _, _, _, e, _, h, nc => by cases e <;> first | (cases nc; done) | cases h
  | .dct0 _, _, _, _, e, _, h, nc => by cases e <;> first | (cases nc; done) | cases h
  | .sub _ _, _, _, _, e, _, h, nc => by cases e <;> first | (cases nc; done) | cases h
  | .slc _ _ _, _, _, _, e, _, h, nc => by cases e <;> first | (cases nc; done) | cases h
  | .slcL _ _, _, _, _, e, _, h, nc => by cases e <;> first | (cases nc; done) | cases h
  | .slcH _ _, _, _, _, e, _, h, nc => by cases e <;> first | (cases nc; done) | cases h
  | .slcN _, _, _, _, e, _, h, nc => by cases e <;> first | (cases nc; done) | cases h
  | .call _ _, _, _, _, e, _, h, nc => by cases e <;> first | (cases nc; done) | cases h
  | .callK _ _ _ _, _, _, _, e, _, h, nc => by cases e <;> first | (cases nc; done) | cases h
  | .blt _ _, _, _, _, e, _, h, nc => by cases e <;> first | (cases nc; done) | cases h
  | .xp1 x _, _, _, _, e, _, h, nc => by cases e <;> first | (cases nc; done) | (cases x <;> cases h)
  | .xp2 x _ _, _, _, _, e, _, h, nc => by cases e <;> first | (cases nc; done) | (cases x <;> cases h)
  | .mk _, _, _, _, e, _, h, nc => by cases e <;> first | (cases nc; done) | cases h
  | .meth _ _ _, _, _, _, e, _, h, nc => by cases e <;> first | (cases nc; done) | cases h
  | .isiC _ _, _, _, _, e, _, h, nc => by cases e <;> first | (cases nc; done) | cases h
  | .sortF _ _, _, _, _, e, _, h, nc => by cases e <;> first | (cases nc; done) | cases h
  | .sortL _ _ _, _, _, _, e, _, h, nc => by cases e <;> first | (cases nc; done) | cases h
  | .isi _ _, _, _, _, e, _, h, nc => by cases e <;> first | (cases nc; done) | cases h
  | .ext _ _, _, _, _, _, _, h, _ => by cases h
theorem ss_name (F : Facts G M T lvl) (c : Cxs G M N sc lvl W X) (hi : N[i]? = some x) (hl : locB sc x = true) (hv : okV sc x py v = true) (h : isE M N a sc v = true) :
    (∃ t, SS G T X W (.Assign [.Name x py] v pos) (.asg i a) t) ∧ ∃ t, SS G T X W (.Assign [.Name x py] v pos) (.asgO i a) t := by
  have main : ∃ te, SE G T X W v a te ∧ PS X (.Assign [.Name x py] v pos) (tAsg te (gName i)) := by
    cases nc : noCmp v with
    | true =>
      obtain ⟨⟨te, he⟩, _⟩ := sound_E F a c.toCxk h
      exact ⟨te, he, ps_name c hi hl nc he.pe⟩
    | false =>
      obtain ⟨te, he, k⟩ := sound_C F a c.toCxk h nc
      unfold okV at hv
      rw [nc, Bool.false_or, Bool.or_eq_true] at hv
      refine ⟨te, he, ?_⟩
      refine hv.elim (fun hv => ?_) fun hv => ps_name0 c hi hl (fun py l => cell_sw hv c.toCxk.sc py l) he.pe
      cases v with
      | ListComp elt gs s2 p2 =>
        obtain ⟨s, l⟩ := swap_is (l := pos.line) c hv
        exact k py pos x i hi l s
      | _ => cases hv
  obtain ⟨te, he, ps⟩ := main
  exact ⟨⟨_, ps, asg_k he⟩, _, ps, asgO_k he⟩
/-! ### (..) = value -/
mutual
theorem nx_asgTg : ∀ (t : Tg) (d : D) (ρ : Sl), Nx (asgTg t d ρ)
  | .nm i, d, ρ => nx_iff nx_ok
  | .tup l, d, ρ => by
    cases d with
    | tup ds => exact nx_asgTgs l ds ρ
    | lst ds => exact nx_asgTgs l ds ρ
    | _ => exact nx_stuck
theorem nx_asgTgs : ∀ (l : Tgs) (ds : List D) (ρ : Sl), Nx (asgTgs l ds ρ)
  | .nil, ds, ρ => by
    cases ds with
    | nil => exact nx_ok
    | cons d ds => exact nx_stuck
  | .cons t l, ds, ρ => by
    cases ds with
    | nil => exact nx_stuck
    | cons d ds => exact nx_bind (nx_asgTg t d ρ) fun ρ' => nx_asgTgs l ds ρ'
end
def noTup : Expr → Bool
  | .Tuple _ _ _ => false
  | _ => true
theorem noTup_sw {tg : Expr} (h : noTup v = true) (env : Env) : swappedStores [tg] v env = pure none := by
  cases tg <;> cases v <;> first | rfl | cases h
theorem ss_asgT (F : Facts G M T lvl) (hcm : M.calm = true) (c : Cxs G M N sc lvl W X) {t : Tg} {tg : Expr} (h1 : isTg N sc t tg = true) (ns : noSt tg = true) (nc : noCmp v = true) (nt : noTup v = true) (h : isE M N a sc v = true) : ∃ ts, SS G T X W (.Assign [tg] v pos) (.asgT t a) ts := by
  obtain ⟨⟨te, he⟩, _⟩ := sound_E F a c.toCxk h
  have pg := sound_tg c.toCxk hcm (s' := sc) (fun x _ => .inl (c.fnt x)) t h1 h1
  refine ⟨_, ps_asg he.pe pg (noCmp_sw nc _ _ _) (noTup_sw nt _) ?_, fun B H0 ρ σ H D r p => ?_⟩
  · cases tg <;> first | rfl | cases ns
  · refine he.im B H0 ρ σ H _ r (PostF.bnd r p fun d v H1 s1 hd p1 => ?_)
    cases q : asgTg t d ρ with
    | stuck =>
      rw [q] at p1
      exact p1.elim
    | exc c fs =>
      exact (nx_asgTg t d ρ c fs q).elim
    | ok ρ' =>
      rw [q] at p1
      exact ⟨B, H0, ρ, d, r.mono s1, hd, ρ', q, fun σ' r' _ _ _ => p1 σ' H1 r'⟩
/-! ### a, b = x, y -/
def parB (sc : Scope) (x y : Str) (px py : Pos) (a b : Expr) : Bool := decide (sc.names.lookup x = some .local) && decide (sc.names.lookup y = some .local) && (py.line == px.line) && decide (x ≠ y) && noSt a && noSt b && !([a, b].all (foldedForSure 8)) && !([a, b].all (constantsAlone 8))
def isStar : Expr → Bool
  | .Starred _ _ => true
  | _ => false
theorem par_sw (c : Cxs G M N sc lvl W X) {y : Str} {px pt pt2 : Pos} {kt k2 : Nat} {a b : Expr} (h : parB sc x y px py a b = true) : swappedStores [.Tuple [.Name x px, .Name y py] kt pt] (.Tuple [a, b] k2 pt2) X.env = pure (some [x, y]) := by
  have h : (decide (sc.names.lookup x = some .local) && decide (sc.names.lookup y = some .local) && (py.line == px.line) && decide (x ≠ y) && noSt a && noSt b && !([a, b].all (foldedForSure 8)) && !([a, b].all (constantsAlone 8))) = true := h
  obtain ⟨h, h8⟩ := bang h
  obtain ⟨h, h7⟩ := bang h
  obtain ⟨h, h6⟩ := bang h
  obtain ⟨h, h5⟩ := bang h
  obtain ⟨h, h4⟩ := bang h
  obtain ⟨h, h3⟩ := bang h
  obtain ⟨h1, h2⟩ := bang h
  have h1 := of_decide_eq_true h1
  have h2 := of_decide_eq_true h2
  have h4 := of_decide_eq_true h4
  have kx : X.env.kindOf x = some .local := by
    show X.env.scope.names.lookup x = _
    rw [c.toCxk.sc]
    exact h1
  have ky : X.env.kindOf y = some .local := by
    show X.env.scope.names.lookup y = _
    rw [c.toCxk.sc]
    exact h2
  have bk : X.env.blockKind = .function := by
    unfold Env.blockKind
    rw [c.toCxk.sc, c.kd]
    rfl
  rw [Bool.not_eq_true'] at h7 h8
  have ha : isStar a = false := by cases a <;> first | rfl | cases h5
  have hb : isStar b = false := by cases b <;> first | rfl | cases h6
  have hxy : (y == x) = false := by
    rw [beq_eq_false_iff_ne]
    exact fun e => h4 e.symm
  unfold swappedStores
  simp only [List.length_cons, List.length_nil, bk, List.any_cons, List.any_nil, List.head?_cons, Option.map_some, Option.getD_some, Expr.pos, List.filterMap_cons, List.filterMap_nil, kx, ky, h3, h7, h8]
  simp [h3, List.eraseDups_cons, hxy]
  intro h
  rcases h with h | h
  · cases a <;> first | (cases h; done) | cases h5
  · cases b <;> first | (cases h; done) | cases h6
theorem ss_par (F : Facts G M T lvl) (hcm : M.calm = true) (c : Cxs G M N sc lvl W X) {y : Str} {j : Nat} {px pt pt2 : Pos} {kt k2 : Nat} {u w : Expr} (hi : N[i]? = some x) (hj : N[j]? = some y) (h : parB sc x y px py u w = true) (h1 : isE M N a sc u = true) (h2 : isE M N b sc w = true) :
    ∃ ts, SS G T X W (.Assign [.Tuple [.Name x px, .Name y py] kt pt] (.Tuple [u, w] k2 pt2) pos) (.par i j a b) ts := by
  have hs := par_sw (kt := kt) (pt := pt) (k2 := k2) (pt2 := pt2) c h
  have h : (decide (sc.names.lookup x = some .local) && decide (sc.names.lookup y = some .local) && (py.line == px.line) && decide (x ≠ y) && noSt u && noSt w && !([u, w].all (foldedForSure 8)) && !([u, w].all (constantsAlone 8))) = true := h
  obtain ⟨h, _⟩ := bang h
  obtain ⟨h, _⟩ := bang h
  obtain ⟨h, n2⟩ := bang h
  obtain ⟨h, n1⟩ := bang h
  obtain ⟨h, h5⟩ := bang h
  obtain ⟨h, _⟩ := bang h
  obtain ⟨h3, h4⟩ := bang h
  have hxy := of_decide_eq_true h5
  obtain ⟨⟨te, he⟩, _⟩ := sound_E F a c.toCxk h1
  obtain ⟨⟨tf, hf⟩, _⟩ := sound_E F b c.toCxk h2
  refine ⟨_, ps_par (c.toCxk.calm hcm) (by rw [c.toCxk.hN]; exact c.toCxk.nd) (by rw [c.toCxk.hN]; exact hi) (by rw [c.toCxk.hN]; exact hj) (fun e => hxy (by rw [e, hj] at hi; exact (Option.some.inj hi).symm)) (by rw [c.toCxk.sc]; exact of_decide_eq_true h3) (by rw [c.toCxk.sc]; exact of_decide_eq_true h4)
    (pa_cons he.pe (pa_cons hf.pe pa_nil (noSt_is n2 _ _)) (noSt_is n1 _ _)) hs, fun B H0 ρ σ H D r p => ?_⟩
  refine he.im B H0 ρ σ H _ r (PostF.bnd r p fun d v H1 s1 hd p1 => hf.im B H0 ρ σ H1 _ (r.mono s1) (PostF.bnd (r.mono s1) p1 fun d2 v2 H2 s2 hd2 p2 => ⟨v, v2, rfl, ?_⟩))
  obtain ⟨cc, p3⟩ := PostF.iff p2
  obtain ⟨c1, c2⟩ := of_decide_eq_true cc
  have r2 := ((r.mono s1).mono s2).putI c1 (rep_same s2 hd)
  refine p3 _ H2 (r2.putI (by unfold putI; rw [List.length_set]; exact c2) (rep_anti (fun a z => ?_) hd2))
  rcases z with z | ⟨k, z', e, q1, w, q2⟩
  · exact .inl z
  · rcases set_get q1 with ⟨_, q⟩ | ⟨ne, q⟩
    · exact (no_im q w).elim
    · rw [List.getElem?_set_ne ne] at q2
      exact .inr ⟨k, z', e, q, w, q2⟩
/-! ### name op= value -/
theorem ss_aug (F : Facts G M T lvl) (c : Cxs G M N sc lvl W X) {o : Operator} (ho : o = .Add ∨ o = .Sub) (hi : N[i]? = some x) (hl : locB sc x = true) (h : isE M N a sc v = true) : ∃ ts, SS G T X W (.AugAssign (.Name x py) o v pos) (.aug i o a) ts := by
  obtain ⟨⟨te, he⟩, _⟩ := sound_E F a c.toCxk h
  have ip : ∃ f : Int → Int → Int, PIp X o (ipI f) ∧ ∀ d y z, augD o d y = .ok z → ∃ i j, d = .int i ∧ y = .int j ∧ z = .int (f i j) := by
    rcases ho with rfl | rfl
    · refine ⟨_, ip_add, fun d y z e => ?_⟩
      cases d with
      | int i =>
        cases y with
        | int j => exact ⟨i, j, rfl, rfl, (R.ok.inj e).symm⟩
        | _ => cases e
      | _ => cases e
    · refine ⟨_, ip_sub, fun d y z e => ?_⟩
      cases d with
      | int i =>
        cases y with
        | int j => exact ⟨i, j, rfl, rfl, (R.ok.inj e).symm⟩
        | _ => cases e
      | _ => cases e
  obtain ⟨f, pip, hf⟩ := ip
  refine ⟨_, ps_aug (by rw [c.toCxk.hN]; exact c.toCxk.nd) (by rw [c.toCxk.hN]; exact hi) (loc_of hl c.toCxk.sc) he.pe pip (.inl (c.fnt x)), fun B H0 ρ σ H D r p => ?_⟩
  obtain ⟨d, e1, p⟩ := PostF.pure (fun _ _ => getI_noexc) p
  obtain ⟨u, e2, hd⟩ := r.getI e1
  refine ⟨u, e2, he.pk B H0 ρ σ H _ r (PostF.bnd r p fun dy vy H1 s1 h1 p1 => ?_)⟩
  have nx : Nx (augD o d dy) := by
    unfold augD
    split <;> first | exact nx_ok | exact nx_stuck
  obtain ⟨z, e3, p2⟩ := PostF.pure nx p1
  obtain ⟨m, n, rfl, rfl, rfl⟩ := hf _ _ _ e3
  have hu : u = .int m := hd
  have hy : vy = .int n := h1
  refine ⟨m, n, hu, hy, ?_⟩
  have hlt : i < ρ.length := by
    unfold getI at e1
    cases q : ρ[i]? with
    | none =>
      rw [q] at e1
      cases e1
    | some w => exact (List.getElem?_eq_some_iff.mp q).1
  exact p2 _ H1 ((r.mono s1).putI hlt (d := .int (f m n)) rfl)
/-! ### return -/
theorem ss_ret (F : Facts G M T lvl) (c : Cxs G M N sc lvl W X) (h : isE M N a sc v = true) : ∃ ts, SS G T X W (.Return (some v) pos) (.ret a) ts := by
  obtain ⟨⟨te, he⟩, _⟩ := sound_E F a c.toCxk h
  exact ⟨_, ps_ret he.pe, fun B H0 ρ σ H D r p => he.rt B H0 ρ σ H _ r (PostF.bnd r p fun d v H1 s1 h1 p1 => p1 v H1 (r.same.trans s1) h1)⟩
theorem ss_retN : SS G T X W (.Return none pos) .retN tRetN := ⟨ps_retN, fun B H0 ρ σ H D r p => p .non H r.same rfl⟩
end
end Ir

/-! Ir13: stores into lists and dicts; branches, loops. -/
namespace Ir
open PySem L2 PyProof.Rows
section
variable {G : Gx} {M : Nms} {T : Tbl} {N : List Str} {sc : Scope} {lvl : Nat} {W : WX} {X : Cx}
variable {e v : Expr} {a b : E} {ta : TE} {pos py ap cp : Pos} {x : Str} {i : Nat}
theorem vis_locB {s : Scope} {y : Str} (h : locB s y = true) : visB s y = true := by
  unfold visB
  rcases locB_of h with h | h <;> rw [h]
theorem pe_nm (c : Cxs G M N sc lvl W X) (hi : N[i]? = some x) (hl : locB sc x = true) (hn : okNm x = true) : PE X (.Name x py) (tVar i) :=
  pe_var (by rw [c.toCxk.hN]; exact hi) (vis_of (vis_locB hl) c.toCxk.sc) (okNm_of hn).1 (okNm_of hn).2
theorem own_at {B : Addr → Prop} {H0 H : Hp} {ρ : Sl} {σ : L2.St} {d : D} (r : RelS G B H0 ρ σ H) (e : getW ρ i = .ok d) : ∃ x : SV, (ρ[i]? = some (some x) ∧ x.wr = some d) ∧ ∃ a, σ[i]? = some (some (V.ref a)) ∧ ownR G (Blk B ρ σ) H a d := by
  obtain ⟨x, e1, w⟩ := getW_of e
  obtain ⟨a, _, e2, _, q⟩ := r.own i x d e1 w
  exact ⟨x, ⟨e1, w⟩, a, e2, q⟩
theorem nx_own (ρ : Sl) : Nx (getW ρ i) := fun _ _ => getW_noexc
theorem keep_upd {B : Addr → Prop} {H : Hp} {p : Addr} {o : HO} (h : B p) : Keep B H (upd H p o) := fun a u e n _ => by
  rw [upd_ne fun z => n (by rw [z]; exact h)]
  exact e
theorem few1 (ns : noSt e = true) : ((backTo cp (starEach [e] X.env)).all (fun x => !x.1) && (backToKw cp (keywordEach [] X.env)).all (fun x => x.1.isSome)
      && decide (([e] : List Expr).length + ([] : List Keyword).length + (if ([] : List Keyword).isEmpty then 0 else 1) < 30)) = true := by
  rw [noSt_is ns []]
  rfl
theorem ss_app (F : Facts G M T lvl) (c : Cxs G M N sc lvl W X) (hi : N[i]? = some x) (hl : locB sc x = true) (hn : okNm x = true) (ln : (ap.endLine == cp.line) = true) (ns : noSt e = true) (h : isE M N a sc e = true) :
    ∃ t, SS G T X W (.Expr (.Call (.Attribute (.Name x py) "append" ap) [e] [] cp) pos) (.app i a) t := by
  obtain ⟨⟨te, he⟩, _⟩ := sound_E F a c.toCxk h
  refine ⟨_, ps_expr (pe_bm PySem.F.plainAttrs_list PySem.F.slot_list_append PySem.F.type_list_append mt_append (pe_nm c hi hl hn) (pa_cons he.pe pa_nil (noSt_is ns _ _)) rfl (few1 ns) ln (noSt_is ns _ _) rfl), fun B H0 ρ σ H D r p => ?_⟩
  obtain ⟨d, e1, p⟩ := PostF.pure (nx_own ρ) p
  obtain ⟨sx, ⟨q1, qw⟩, ad, q2, q3⟩ := own_at r e1
  cases d with
  | lst l =>
    obtain ⟨vs, hA, hr⟩ := q3
    refine ⟨.ref ad, q2, .inl ⟨rfl, vs, .inl (.inl hA)⟩, he.im B H0 ρ σ H _ r (PostF.bnd r p fun d v H1 s1 h1 p1 => ?_)⟩
    obtain ⟨cc, p2⟩ := PostF.iff p1
    have cc := of_decide_eq_true cc
    rw [lim_eq] at cc
    have hA1 := s1.lst hA
    refine ⟨ad, vs, v, rfl, rfl, hA1, by rw [reps_len hr]; exact cc, p2 σ _ ((r.mono s1).write q1 qw q2 (fun b nb => upd_ne nb) ⟨vs ++ [v], upd_same, ?_⟩)⟩
    exact reps_keep (keep_upd (.inr ⟨i, _, _, q1, qw, q2⟩)) (fun _ _ _ z => z) (reps_app (reps_same s1 hr) ⟨v, [], rfl, h1, rfl⟩)
  | dct t ks l => exact p.elim
  | _ => exact q3.elim
/-! ### dicts -/
theorem setV_k {κ : Type} [DecidableEq κ] {enc : κ → D} (he : ∀ a b, eqB (enc a) (enc b) = decide (a = b)) {k : κ} {B : Addr → Prop} {H : Hp} {d : D} {v : V} (hd : rep G B H d v) : ∀ {kvs : List (κ × V)} {l : List D}, reps G B H l (kvs.map (·.2)) →
    reps G B H (setV (enc k) d (kvs.map fun p => enc p.1) l) ((kvs.map fun kv => if kv.1 = k then (kv.1, v) else kv).map (·.2))
  | [], l, h => by
    cases l with
    | nil => exact rfl
    | cons x l =>
      obtain ⟨_, _, e, _⟩ := h
      cases e
  | p :: kvs, [], h => by
    have e : (p :: kvs).map (·.2) = ([] : List V) := h
    cases e
  | p :: kvs, x :: l, h => by
    obtain ⟨u, r, e, h1, h2⟩ := h
    injection e with e1 e2
    have ih := setV_k he hd (k := k) (by rw [e2]; exact h2 : reps G B H l (kvs.map (·.2)))
    refine ⟨(if p.1 = k then (p.1, v) else p).2, _, rfl, ?_, ih⟩
    rw [he]
    by_cases z : p.1 = k
    · rw [decide_eq_true z, if_pos z]
      exact hd
    · rw [decide_eq_false z, if_neg z]
      have e1 : p.2 = u := e1
      rw [e1]
      exact h1
theorem hasK_enc {κ : Type} [DecidableEq κ] {enc : κ → D} (he : ∀ a b, eqB (enc a) (enc b) = decide (a = b)) {k : κ} : ∀ {kvs : List (κ × V)}, hasK (enc k) (kvs.map fun p => enc p.1) = kvs.any fun kv => decide (kv.1 = k)
  | [] => rfl
  | p :: kvs => by
    show (eqB (enc p.1) (enc k) || hasK (enc k) (kvs.map fun p => enc p.1)) = _
    rw [he, hasK_enc he, List.any_cons]
theorem putD_k {κ : Type} [DecidableEq κ] {enc : κ → D} (he : ∀ a b, eqB (enc a) (enc b) = decide (a = b)) {k : κ} {B : Addr → Prop} {H : Hp} {d : D} {v : V} (hd : rep G B H d v) {kvs : List (κ × V)} {l : List D} (h : reps G B H l (kvs.map (·.2))) :
    (putD (enc k) d (kvs.map fun p => enc p.1) l).1 = (putK kvs k v).map (fun p => enc p.1) ∧ reps G B H (putD (enc k) d (kvs.map fun p => enc p.1) l).2 ((putK kvs k v).map (·.2)) := by
  unfold putD putK
  rw [hasK_enc he]
  cases z : (kvs.any fun kv => decide (kv.1 = k)) with
  | true =>
    refine ⟨?_, setV_k he hd h⟩
    show kvs.map (fun p => enc p.1) = (kvs.map fun kv => if kv.1 = k then (kv.1, v) else kv).map fun p => enc p.1
    rw [List.map_map]
    refine List.map_congr_left fun p _ => ?_
    show _ = enc (if p.1 = k then (p.1, v) else p).1
    by_cases q : p.1 = k
    · rw [if_pos q]
    · rw [if_neg q]
  | false =>
    refine ⟨?_, ?_⟩
    · show (kvs.map fun p => enc p.1) ++ [enc k] = (kvs ++ [(k, v)]).map fun p => enc p.1
      rw [List.map_append]
      rfl
    · show reps G B H (l ++ [d]) ((kvs ++ [(k, v)]).map (·.2))
      rw [List.map_append]
      exact reps_app h ⟨v, [], rfl, hd, rfl⟩
/-- a key bears data, no matter where it stands -/
theorem dput_ok {B : Addr → Prop} {H : Hp} {ad : Addr} {t : Nat} {ks l : List D} {vs : List V} {k d : D} {kv v : V} (b : B ad) (ow : DctOw H ad t ks vs) (hr : reps G B H l vs) (kk : keyOk t k = true) (hk : repT G B H k kv) (hd : rep G B H d v) (hl : ks.length < LIM) :
    ∃ H', DPut H ad kv v H' ∧ (∀ a, a ≠ ad → H' a = H a) ∧ ownR G B H' ad (.dct t (putD k d ks l).1 (putD k d ks l).2) := by
  rw [lim_eq] at hl
  rcases ow with ⟨kvs, rfl, e, rfl, rfl⟩ | ⟨kvs, rfl, e, rfl, rfl⟩
  · obtain ⟨q, rfl⟩ := keyOk_0 kk
    obtain rfl := repT_key hk
    rw [List.length_map] at hl
    obtain ⟨p1, p2⟩ := putD_k (enc := keyD) (fun a b => eqB_k) hd (k := q) hr
    refine ⟨_, DPut.k e hl, fun a na => upd_ne na, _, .inl ⟨putK kvs q v, rfl, upd_same, p1, rfl⟩, ?_⟩
    exact reps_keep (keep_upd b) (fun _ _ _ z => z) p2
  · obtain ⟨q, rfl⟩ := keyOk_1 kk
    obtain ⟨kb, rfl, eb⟩ := repT_keyT hk
    rw [List.length_map] at hl
    obtain ⟨p1, p2⟩ := putD_k (enc := fun k => D.tup (k.map keyD)) (fun a b => eqB_t) hd (k := q) hr
    refine ⟨_, DPut.t e eb hl, fun a na => upd_ne na, _, .inr ⟨putK kvs q v, rfl, upd_same, p1, rfl⟩, ?_⟩
    exact reps_keep (keep_upd b) (fun _ _ _ z => z) p2
/-- o[k] = v: of a list, of a dict -/
def rPut (G : Gx) : TSet := fun o k v H Q => rSetL o k v H Q ∨ rSetD o k v H Q
theorem set_put (hu : X.A.units + 1 < cLine) : PSet X (rPut G) := by
  intro pins s σ H o i v ov iv u Q I ro ri rv h
  rcases h with h | h
  · exact set_list pins s σ H o i v ov iv u Q I ro ri rv h
  · exact set_dict hu pins s σ H o i v ov iv u Q I ro ri rv h
theorem asg_sub {o k : Expr} {p : Pos} (h : noSl k = true) (env : Env) : ∀ v, assign (.Subscript o k p) env v = (do
      let ov ← holding [v] (eval o env)
      let iv ← holding [v, ov] (eval k env)
      standAt p
      holding [v, ov, iv] (setItem ov iv v)
      release [v, ov, iv] []) := by
  intro v
  cases k <;> first | rfl | cases h
theorem ss_put (F : Facts G M T lvl) (c : Cxs G M N sc lvl W X) {k : Expr} {sp : Pos} (hi : N[i]? = some x) (hl : locB sc x = true) (hn : okNm x = true) (ns : noSl k = true) (nc : noCmp v = true) (nt : noTup v = true) (h1 : isE M N b sc k = true) (h2 : isE M N a sc v = true) :
    ∃ t, SS G T X W (.Assign [.Subscript (.Name x py) k sp] v pos) (.put i b a) t := by
  obtain ⟨⟨te, he⟩, _⟩ := sound_E F a c.toCxk h2
  obtain ⟨⟨tk, hk⟩, _⟩ := sound_E F b c.toCxk h1
  have hu := c.toCxk.hu
  refine ⟨_, ps_asg he.pe (pg_sub (pe_nm c hi hl hn) hk.pe (set_put (G := G) (by omega)) (asg_sub ns _)) (noCmp_sw nc (some (.Subscript (.Name x py) k sp)) pos.line X.env) (noTup_sw nt _) rfl, fun B H0 ρ σ H D r p => ?_⟩
  refine he.im B H0 ρ σ H _ r (PostF.bnd r p fun d v H1 s1 h1 p1 => ?_)
  have r1 := r.mono s1
  obtain ⟨w, e1, p2⟩ := PostF.pure (nx_own ρ) p1
  obtain ⟨sx, ⟨q1, qw⟩, ad, q2, _⟩ := own_at r1 e1
  refine ⟨.ref ad, q2, hk.pk B H0 ρ σ H1 _ r1 (PostF.bnd r1 p2 fun dk vk H2 s2 h2 p3 => ?_)⟩
  have r2 := r1.mono s2
  obtain ⟨_, _, ad', q2', q3⟩ := own_at r2 e1
  rw [q2] at q2'
  cases q2'
  have h1 := rep_same s2 h1
  cases w with
  | lst l =>
    cases dk with
    | int n =>
      obtain ⟨j, e3, p4⟩ := PostF.pure nx_ofO p3
      obtain ⟨vs, hA, hr⟩ := q3
      have hv : vk = .int n := h2
      have ej : ixN l.length n = some j := by
        cases z : ixN l.length n with
        | none =>
          rw [z] at e3
          cases e3
        | some j' =>
          rw [z] at e3
          cases e3
          rfl
      refine .inl ⟨ad, vs, n, j, rfl, hv, hA, by rw [reps_len hr]; exact ej, p4 σ _ (r2.write q1 qw q2 (fun b nb => upd_ne nb) ⟨vs.set j v, upd_same, ?_⟩)⟩
      exact reps_keep (keep_upd (.inr ⟨i, _, _, q1, qw, q2⟩)) (fun _ _ _ z => z) (reps_set h1 j hr)
    | _ => exact p3.elim
  | dct t ks l =>
    obtain ⟨cc, p4⟩ := PostF.iff p3
    rw [Bool.and_eq_true] at cc
    obtain ⟨vs, ow, hr⟩ := q3
    obtain ⟨H', g, g2, g3⟩ := dput_ok (.inr ⟨i, _, _, q1, qw, q2⟩) ow hr cc.1 h2 h1 (of_decide_eq_true cc.2)
    exact .inr ⟨ad, H', rfl, g, p4 σ H' (r2.write q1 qw q2 g2 g3)⟩
  | _ => exact q3.elim
theorem ss_setd (F : Facts G M T lvl) (c : Cxs G M N sc lvl W X) {k : Expr} (hi : N[i]? = some x) (hl : locB sc x = true) (hn : okNm x = true) (ln : (ap.endLine == cp.line) = true) (n1 : noSt k = true) (n2 : noSt v = true) (h1 : isE M N b sc k = true) (h2 : isE M N a sc v = true) :
    ∃ t, SS G T X W (.Expr (.Call (.Attribute (.Name x py) "setdefault" ap) [k, v] [] cp) pos) (.setd i b a) t := by
  obtain ⟨⟨te, he⟩, _⟩ := sound_E F a c.toCxk h2
  obtain ⟨⟨tk, hk⟩, _⟩ := sound_E F b c.toCxk h1
  refine ⟨_, ps_expr (pe_dsetd (pe_nm c hi hl hn) hk.pe he.pe ⟨rfl, by rw [noSt_is n1, noSt_is n2]; rfl, ln, by rw [noSt_is n1, noSt_is n2]; rfl⟩), fun B H0 ρ σ H D r p => ?_⟩
  obtain ⟨w, e1, p2⟩ := PostF.pure (nx_own ρ) p
  obtain ⟨sx, ⟨q1, qw⟩, ad, q2, q3⟩ := own_at r e1
  cases w with
  | dct t ks l =>
    obtain ⟨t0, p2⟩ := PostF.iff p2
    have t0 := of_decide_eq_true t0
    subst t0
    obtain ⟨vs, ow, hr⟩ := q3
    rcases ow with ⟨kvs, _, e, rfl, rfl⟩ | ⟨kvs, z, _⟩
    · refine ⟨.ref ad, q2, ad, rfl, .inl ⟨kvs, .inl e⟩, hk.pk B H0 ρ σ H _ r (PostF.bnd r p2 fun dk vk H1 s1 g1 p3 => he.im B H0 ρ σ H1 _ (r.mono s1) (PostF.bnd (r.mono s1) p3 fun d v H2 s2 g2 p4 => ?_))⟩
      have r2 := (r.mono s1).mono s2
      obtain ⟨cc, p5⟩ := PostF.iff p4
      rw [Bool.and_eq_true] at cc
      obtain ⟨q, rfl⟩ := keyOk_0 cc.1
      obtain rfl := repT_key g1
      have hz := of_decide_eq_true cc.2
      rw [lim_eq, List.length_map] at hz
      refine ⟨kvs, q, s2.dK (s1.dK e), rfl, hz, fun v0 hv => ?_, fun hv => ?_⟩
      · rw [hasK_k, hv] at p5
        have p5 : PostF G B H0 (.ok (.nx (putW ρ i (.dct 0 (kvs.map fun p => keyD p.1) l)))) D W := p5
        obtain ⟨_, _, ad', q4, q5⟩ := own_at r2 e1
        rw [q2] at q4
        cases q4
        exact p5 σ H2 (r2.write q1 qw q2 (fun _ _ => rfl) q5)
      · rw [hasK_k, hv] at p5
        have p5 : PostF G B H0 (.ok (.nx (putW ρ i (.dct 0 (putD (keyD q) d (kvs.map fun p => keyD p.1) l).1 (putD (keyD q) d (kvs.map fun p => keyD p.1) l).2)))) D W := p5
        obtain ⟨g3, g4⟩ := putD_k (enc := keyD) (fun a b => eqB_k) g2 (k := q) (reps_same (s1.trans s2) hr)
        exact p5 σ _ (r2.write q1 qw q2 (fun b nb => upd_ne nb) ⟨_, .inl ⟨putK kvs q v, rfl, upd_same, g3, rfl⟩, reps_keep (keep_upd (.inr ⟨i, _, _, q1, qw, q2⟩)) (fun _ _ _ z => z) g4⟩)
    · cases z
  | _ => exact p2.elim
end
end Ir

/-! Ir14: extend; branches, loops; blocks; a def. -/
namespace PySem.AutoSeq1
open PySem PySem.Calls PyProof.Rows
theorem irx_extT (l : Addr) (items : Array Value) (n : Nat) (b : Addr) (dd : Option Addr) (sl : Array (Option Value)) (items2 : Array Value) (n2 : Nat) (hs0 : ¬(!items.isEmpty && Builtin.List.listTooLong (items.size + items2.size)) = true) (hs1 : items.size ≤ sizeLine) (hs2 : items.size + items2.size ≤ sizeLine + 1) :
    Meets (Builtin.«list.extend» ⟨[.ref l, .ref b], []⟩) (fun _ R s => s.heap.get? l = some { cls := .type "list", dict := none, data := .seq items n, slots := #[] } ∧ s.heap.get? b = some { cls := .type "tuple", dict := dd, data := .seq items2 n2, slots := sl } ∧ R (.ok (.ret Value.none)) { s with heap := s.heap.update l (Obj.mapSeq fun x => x ++ items2), toks := s.toks }) :=
  .of_wp fun prog w A R s h => by
    obtain ⟨hp, g, d, tk, os⟩ := s; obtain ⟨hl, hb, h⟩ := h; have f1 := idx_int; have f2 := sub_tuple_tuple; have f3 := sub_list_list; have f4 := sub_tuple_list; have f5 := sub_list_tuple;
    have hz' : (items ++ items2).size ≤ sizeLine + 1 := by rw [Array.size_append]; exact hs2
    wp_walk using (wpAny_updateSeq hl rfl (hz := hs1) (_hz' := hz')), wpAny_loadPart' hl, wpAny_loadPart' hb; exact ⟨_, rfl, h⟩
end PySem.AutoSeq1
namespace Ir
open PySem L2 PyProof.Rows
section
variable {G : Gx} {M : Nms} {T : Tbl} {N : List Str} {sc : Scope} {lvl : Nat} {W : WX} {X : Cx}
variable {e v : Expr} {a b : E} {ta : TE} {pos py ap cp : Pos} {x : Str} {i : Nat}
/-! ### extend -/
def rExtA (G : Gx) : V → List V → Hp → VK → Prop := fun x vs H Q => ∃ l b xs zs, x = .ref l ∧ vs = [.ref b] ∧ H l = some (.lst xs) ∧ (Rd H b (.lst zs) ∨ SqT G.K H b zs) ∧ xs.length + zs.length ≤ sizeLine ∧ Q .non (upd H l (.lst (xs ++ zs)))
theorem mt_extA (g : Gxx G X) : MtM X "list.extend" (rExtA G) := by
  intro pins s σ H x vs v us Q I rx rv h
  obtain ⟨l, b, xs, zs, rfl, rfl, hH, hB, hz, q⟩ := h
  cases rx
  obtain ⟨u, rfl, ru⟩ := rv.one
  cases ru
  obtain ⟨z, its, n, r, hl, e⟩ := I.lstM hH
  have out : ∀ its2 : List Value, Vals zs its2 → EP X pins σ Q .none { s with heap := s.heap.update l (Obj.mapSeq fun x => x ++ its2.toArray), toks := s.toks } := fun its2 r2 => by
    refine ⟨.non, _, I.lset (its' := its ++ its2) hH e (by simp) (r.append r2) ?_, rfl, q⟩
    rw [List.length_append]
    omega
  have hlong : ∀ its2 : List Value, Vals zs its2 → ¬ (!its.toArray.isEmpty && Builtin.List.listTooLong (its.toArray.size + its2.toArray.size)) = true ∧ its.toArray.size ≤ sizeLine ∧ its.toArray.size + its2.toArray.size ≤ sizeLine + 1 := fun its2 r2 => by
    have h2 := r2.length
    refine ⟨?_, by rw [List.size_toArray]; omega, by rw [List.size_toArray, List.size_toArray]; omega⟩
    rw [notLongL (by rw [List.size_toArray, List.size_toArray]; omega), Bool.and_false]
    exact Bool.false_ne_true
  rcases hB with hB | hB
  · obtain ⟨z2, its2, n2, r2, hl2, e2⟩ := rdL I hB
    obtain ⟨c1, c2, c3⟩ := hlong its2 r2
    exact call_meets F.slot_list_extend ⟨_, e, rfl⟩ F.entry_list_extend (F.args_list_extend_2 _ _) (AutoSeq1.list_extend_list_list_0 l its.toArray n b its2.toArray n2 c1 c2 c3) ⟨e, e2, out its2 r2⟩
  · rw [← g.K] at hB
    obtain ⟨its2, r2, ⟨⟨cls, dd, data, sl⟩, ho, hc, n2, hd⟩, z2⟩ := I.tuple hB
    simp only at hc hd
    subst hc hd
    obtain ⟨c1, c2, c3⟩ := hlong its2 r2
    exact call_meets F.slot_list_extend ⟨_, e, rfl⟩ F.entry_list_extend (F.args_list_extend_2 _ _) (AutoSeq1.irx_extT l its.toArray n b dd sl its2.toArray n2 c1 c2 c3) ⟨e, ho, out its2 r2⟩
theorem ss_extn (F : Facts G M T lvl) (c : Cxs G M N sc lvl W X) (hi : N[i]? = some x) (hl : locB sc x = true) (hn : okNm x = true) (ln : (ap.endLine == cp.line) = true) (ns : noSt e = true) (h : isE M N a sc e = true) :
    ∃ t, SS G T X W (.Expr (.Call (.Attribute (.Name x py) "extend" ap) [e] [] cp) pos) (.extn i a) t := by
  obtain ⟨⟨te, he⟩, _⟩ := sound_E F a c.toCxk h
  refine ⟨_, ps_expr (pe_bm PySem.F.plainAttrs_list PySem.F.slot_list_extend PySem.F.type_list_extend (mt_extA c.toCxk.gx) (pe_nm c hi hl hn) (pa_cons he.pe pa_nil (noSt_is ns _ _)) rfl (few1 ns) ln (noSt_is ns _ _) rfl), fun B H0 ρ σ H D r p => ?_⟩
  obtain ⟨d, e1, p⟩ := PostF.pure (nx_own ρ) p
  obtain ⟨sx, ⟨q1, qw⟩, ad, q2, q3⟩ := own_at r e1
  cases d with
  | lst l =>
    obtain ⟨vs, hA, hr⟩ := q3
    refine ⟨.ref ad, q2, .inl ⟨rfl, vs, .inl (.inl hA)⟩, he.im B H0 ρ σ H _ r (PostF.bnd r p fun d v H1 s1 h1 p1 => ?_)⟩
    obtain ⟨m, em, p1⟩ := PostF.pure (nx_seq2 d) p1
    obtain ⟨cc, p2⟩ := PostF.iff p1
    have cc := of_decide_eq_true cc
    rw [lim_eq] at cc
    have hA1 := s1.lst hA
    have fin : ∀ zs, reps G (Blk B ρ σ) H1 m zs → vs.length + zs.length ≤ sizeLine ∧ D.nx σ (upd H1 ad (.lst (vs ++ zs))) := fun zs hz => by
      refine ⟨by rw [reps_len hr, reps_len hz]; exact cc, p2 σ _ ((r.mono s1).write q1 qw q2 (fun b nb => upd_ne nb) ⟨vs ++ zs, upd_same, ?_⟩)⟩
      exact reps_keep (keep_upd (.inr ⟨i, _, _, q1, qw, q2⟩)) (fun _ _ _ z => z) (reps_app (reps_same s1 hr) hz)
    cases d with
    | lst k =>
      cases em
      obtain ⟨b, zs, rfl, t, nb, hz⟩ := h1
      obtain ⟨f1, f2⟩ := fin zs hz
      exact ⟨ad, b, vs, zs, rfl, rfl, hA1, .inl t, f1, f2⟩
    | tup k =>
      cases em
      obtain ⟨b, zs, rfl, t, hz⟩ := h1
      obtain ⟨f1, f2⟩ := fin zs hz
      exact ⟨ad, b, vs, zs, rfl, rfl, hA1, .inr t.sq, f1, f2⟩
    | _ => cases em
  | dct t ks l => exact p.elim
  | _ => exact q3.elim
end
end Ir

/-! Ir14d: a dict that is walked is locked meanwhile; what is walked. -/
namespace Ir
open PySem L2 PyProof.Rows
/-- what is read stays -/
structure RdS (H H' : Hp) : Prop where
  rd : ∀ a u, MutL (some u) → Rd H a u → Rd H' a u
  tup : ∀ a vs, H a = some (.tup vs) → H' a = some (.tup vs)
  ins : ∀ a C dx fs, H a = some (.ins C dx fs) → H' a = some (.ins C dx fs)
  frt : ∀ a o vs, H a = some (.frz o (.tup vs)) → H' a = some (.frz o (.tup vs))
  ext : ∀ a φ, H a = some (.ext φ) → H' a = some (.ext φ)
mutual
theorem rep_rds {G : Gx} {B : Addr → Prop} {H H' : Hp} (k : RdS H H') : ∀ {d : D} {v : V}, rep G B H d v → rep G B H' d v
  | .non, v, h => h
  | .bl _, v, h => h
  | .int _, v, h => h
  | .str _, v, h => h
  | .tup l, v, h => by
    obtain ⟨a, vs, e, ⟨t, nb⟩, r⟩ := h
    exact ⟨a, vs, e, ⟨k.tup a vs t, nb⟩, reps_rds k r⟩
  | .lst l, v, h => by
    obtain ⟨a, vs, e, t, nb, r⟩ := h
    exact ⟨a, vs, e, k.rd a _ trivial t, nb, reps_rds k r⟩
  | .dct t ks l, v, h => by
    obtain ⟨a, vs, e, q, nb, r⟩ := h
    refine ⟨a, vs, e, ?_, nb, reps_rds k r⟩
    rcases q with ⟨kvs, z, q, e1, e2⟩ | ⟨kvs, z, q, e1, e2⟩ | ⟨z, e1, o, od, q⟩
    · exact .inl ⟨kvs, z, k.rd a _ trivial q, e1, e2⟩
    · exact .inr (.inl ⟨kvs, z, k.rd a _ trivial q, e1, e2⟩)
    · exact .inr (.inr ⟨z, e1, o, od, k.frt a o _ q⟩)
  | .ins c, v, h => by
    obtain ⟨a, C, dx, e, m, q, nb⟩ := h
    exact ⟨a, C, dx, e, m, k.ins _ _ _ _ q, nb⟩
  | .adr _, v, h => h
  | .exc c, v, h => by
    obtain ⟨a, C, e, m, q, nb⟩ := h
    exact ⟨a, C, e, m, k.ext _ _ q, nb⟩
theorem reps_rds {G : Gx} {B : Addr → Prop} {H H' : Hp} (k : RdS H H') : ∀ {l : List D} {vs : List V}, reps G B H l vs → reps G B H' l vs
  | [], vs, h => h
  | d :: l, vs, h => by
    obtain ⟨v, r, e, h1, h2⟩ := h
    exact ⟨v, r, e, rep_rds k h1, reps_rds k h2⟩
end
section
variable {G : Gx} {B : Addr → Prop} {g H H' : Hp} {ρ ρ' : Sl} {σ σ' : L2.St} {d : Addr} {u : HO} {od : Obj}
theorem lock_rds (e : H d = some u) (m : MutL (some u)) : RdS H (upd H d (.frz od u)) := by
  refine ⟨fun a w mw h => ?_, fun a vs h => ?_, fun a C dx fs h => ?_, fun a o vs h => ?_, fun a φ h => ?_⟩
  · by_cases z : a = d
    · subst z
      rcases h with h | ⟨o, h⟩
      · rw [e] at h
        cases h
        exact .inr ⟨od, upd_same⟩
      · rw [e] at h
        cases h
        exact m.elim
    · rcases h with h | ⟨o, h⟩
      · exact .inl (by rw [upd_ne z]; exact h)
      · exact .inr ⟨o, by rw [upd_ne z]; exact h⟩
  · rw [upd_ne fun z => by rw [z, e] at h; cases h; exact m]
    exact h
  · rw [upd_ne fun z => by rw [z, e] at h; cases h; exact m]
    exact h
  · rw [upd_ne fun z => by rw [z, e] at h; cases h; exact m]
    exact h
  · rw [upd_ne fun z => by rw [z, e] at h; cases h; exact m]
    exact h
theorem unlock_rds (e : H d = some (.frz od u)) (m : MutL (some u)) : RdS H (upd H d u) := by
  refine ⟨fun a w mw h => ?_, fun a vs h => ?_, fun a C dx fs h => ?_, fun a o vs h => ?_, fun a φ h => ?_⟩
  · by_cases z : a = d
    · subst z
      rcases h with h | ⟨o, h⟩
      · rw [e] at h
        cases h
        exact mw.elim
      · rw [e] at h
        cases h
        exact .inl upd_same
    · rcases h with h | ⟨o, h⟩
      · exact .inl (by rw [upd_ne z]; exact h)
      · exact .inr ⟨o, by rw [upd_ne z]; exact h⟩
  · rw [upd_ne fun z => by rw [z, e] at h; cases h]
    exact h
  · rw [upd_ne fun z => by rw [z, e] at h; cases h]
    exact h
  · rw [upd_ne fun z => by rw [z, e] at h; cases h; exact m]
    exact h
  · rw [upd_ne fun z => by rw [z, e] at h; cases h]
    exact h
theorem tab_lock {P : Addr} {q : Str} {K : Hp} {x : HO} (nt : ∀ ps, K d ≠ some (.tbl ps)) (nc : ∀ c q, K d ≠ some (LamX.CodeO c q)) (t : LamX.TabS K P q) : LamX.TabS (upd K d x) P q := by
  obtain ⟨ps, h1, h2, h3⟩ := t
  refine ⟨ps, by rw [upd_ne fun z => nt ps (by rw [← z]; exact h1)]; exact h1, h2, fun pos cv hc => ?_⟩
  obtain ⟨c, e1, e2⟩ := h3 pos cv hc
  exact ⟨c, e1, by rw [upd_ne fun z => nc c q (by rw [← z]; exact e2)]; exact e2⟩
theorem mut_nt (m : MutL (some u)) : (∀ ps, u ≠ .tbl ps) ∧ ∀ c q, u ≠ LamX.CodeO c q := by
  refine ⟨m.nt, fun c q z => ?_⟩
  rw [z] at m
  exact m
theorem tab_lk {P : Addr} {q : Str} (e : H d = some u) (m : MutL (some u)) (t : LamX.TabS H P q) : LamX.TabS (upd H d (.frz od u)) P q :=
  tab_lock (fun ps z => (mut_nt m).1 ps (by rw [e] at z; exact Option.some.inj z)) (fun c q z => (mut_nt m).2 c q (by rw [e] at z; exact Option.some.inj z)) t
theorem tab_ul {P : Addr} {q : Str} (e : H d = some (.frz od u)) (t : LamX.TabS H P q) : LamX.TabS (upd H d u) P q :=
  tab_lock (fun ps z => by rw [e] at z; cases z) (fun c q z => by rw [e] at z; cases z) t
theorem Same.lock (s : Same G g H) (e0 : g d = some u) (m : MutL (some u)) : Same G (upd g d (.frz od u)) (upd H d (.frz od u)) := by
  have e : H d = some u := s.ext d u e0 m.nt
  refine ⟨fun a o h nt => ?_, fun a ps h => ?_, fun p hp t => ?_⟩
  · by_cases z : a = d
    · subst z
      rw [upd_same] at h ⊢
      exact h
    · rw [upd_ne z] at h ⊢
      exact s.ext a o h nt
  · by_cases z : a = d
    · subst z
      rw [upd_same] at h
      cases h
    · rw [upd_ne z] at h ⊢
      exact s.tbl a ps h
  · have t2 : LamX.TabS g p.1 p.2 := by
      have q := tab_ul (H := upd g d (.frz od u)) (d := d) (u := u) (od := od) upd_same t
      have e2 : upd (upd g d (.frz od u)) d u = g := by
        funext a
        by_cases z : a = d
        · rw [z, upd_same, e0]
        · rw [upd_ne z, upd_ne z]
      rw [e2] at q
      exact q
    exact tab_lk e m (s.tab p hp t2)
theorem Same.unlock (s : Same G (upd g d (.frz od u)) H') (e0 : g d = some u) (m : MutL (some u)) : H' d = some (.frz od u) ∧ Same G g (upd H' d u) := by
  have e : H' d = some (.frz od u) := s.ext d _ upd_same fun ps z => by cases z
  refine ⟨e, fun a o h nt => ?_, fun a ps h => ?_, fun p hp t => ?_⟩
  · by_cases z : a = d
    · subst z
      rw [upd_same, ← e0]
      exact h
    · rw [upd_ne z]
      exact s.ext a o (by rw [upd_ne z]; exact h) nt
  · by_cases z : a = d
    · subst z
      rw [e0] at h
      cases h
      exact m.elim
    · rw [upd_ne z]
      exact s.tbl a ps (by rw [upd_ne z]; exact h)
  · exact tab_ul e (s.tab p hp (tab_lk e0 m t))
theorem ownR.rds (k : RdS H H') {a : Addr} {x : D} (e : H' a = H a) (h : ownR G B H a x) : ownR G B H' a x := by
  cases x with
  | lst l =>
    obtain ⟨vs, e1, r⟩ := h
    exact ⟨vs, by rw [e]; exact e1, reps_rds k r⟩
  | dct t ks l =>
    obtain ⟨vs, q, r⟩ := h
    refine ⟨vs, ?_, reps_rds k r⟩
    rcases q with ⟨kvs, z, q, e1, e2⟩ | ⟨kvs, z, q, e1, e2⟩
    · exact .inl ⟨kvs, z, by rw [e]; exact q, e1, e2⟩
    · exact .inr ⟨kvs, z, by rw [e]; exact q, e1, e2⟩
  | _ => exact h.elim
theorem RelS.lock (r : RelS G B g ρ σ H) (e0 : g d = some u) (m : MutL (some u)) (nb : ¬ B d) : RelS G B (upd g d (.frz od u)) ρ σ (upd H d (.frz od u)) := by
  have e : H d = some u := r.same.ext d u e0 m.nt
  have k := lock_rds (od := od) e m
  refine ⟨r.len, r.same.lock e0 m, fun p hp => tab_lk e m (r.tab p hp), fun a z => ?_, fun i x h => ?_, fun i s x h w => ?_, r.inj⟩
  · rw [upd_ne fun q => nb (by rw [← q]; exact z)]
    exact r.dom a z
  · obtain ⟨v, e1, h1⟩ := r.im i x h
    exact ⟨v, e1, rep_rds k h1⟩
  · obtain ⟨a, t, e1, ⟨n, nb1⟩, q⟩ := r.own i s x h w
    have ne : a ≠ d := fun z => by rw [z, e0] at n; cases n
    exact ⟨a, t, e1, ⟨by rw [upd_ne ne]; exact n, nb1⟩, q.rds k (upd_ne ne)⟩
theorem RelS.unlock (r : RelS G B (upd g d (.frz od u)) ρ' σ' H') (e0 : g d = some u) (m : MutL (some u)) (nb : ¬ B d) : H' d = some (.frz od u) ∧ RelS G B g ρ' σ' (upd H' d u) := by
  obtain ⟨e, s⟩ := r.same.unlock e0 m
  have k := unlock_rds e m
  refine ⟨e, r.len, s, fun p hp => tab_ul e (r.tab p hp), fun a z => ?_, fun i x h => ?_, fun i s x h w => ?_, r.inj⟩
  · rw [upd_ne fun q => nb (by rw [← q]; exact z)]
    exact r.dom a z
  · obtain ⟨v, e1, h1⟩ := r.im i x h
    exact ⟨v, e1, rep_rds k h1⟩
  · obtain ⟨a, t, e1, ⟨n, nb1⟩, q⟩ := r.own i s x h w
    have ne : a ≠ d := fun z => by rw [z, upd_same] at n; cases n
    exact ⟨a, t, e1, ⟨by rw [upd_ne ne] at n; exact n, nb1⟩, q.rds k (upd_ne ne)⟩
end
/-! ### what is walked: keys, pairs -/
section
variable {G : Gx} {B : Addr → Prop} {H0 : Hp} {d : Addr} {o : Obj}
theorem rep_keyV (k : Key) {B2 : Addr → Prop} {H2 : Hp} : rep G B2 H2 (keyD k) (kV k) := by
  cases k <;> rfl
theorem reps_keyV {B2 : Addr → Prop} {H2 : Hp} (l : List Key) : reps G B2 H2 (l.map keyD) (l.map kV) := reps_map (fun k => rep_keyV k) l
theorem walks_keys {kvs : List (Key × V)} (h : H0 d = some (.frz o (.dK kvs))) : Walks G B H0 (Itk d o kvs) (kvs.map fun p => keyD p.1) := fun B2 H2 s dm b => by
  have e : H2 d = some (.frz o (.dK kvs)) := s.ext d _ h fun ps z => by cases z
  refine ⟨fun i hi => ?_, ⟨e, by rw [List.length_map]; exact Nat.le_refl _⟩⟩
  rw [List.length_map] at hi
  refine ⟨⟨e, hi⟩, fun x H3 y => ?_⟩
  obtain ⟨rfl, k, v, e1, rfl⟩ := y
  refine ⟨Same.refl _, keyD k, ?_, rep_keyV k⟩
  rw [List.getElem?_map, e1]
  rfl
theorem walks_keysT {kvs : List (List Key × V)} (h : H0 d = some (.frz o (.dT kvs))) : Walks G B H0 (Itkt d o kvs) (kvs.map fun p => D.tup (p.1.map keyD)) := fun B2 H2 s dm b => by
  have e : H2 d = some (.frz o (.dT kvs)) := s.ext d _ h fun ps z => by cases z
  refine ⟨fun i hi => ?_, ⟨e, by rw [List.length_map]; exact Nat.le_refl _⟩⟩
  rw [List.length_map] at hi
  refine ⟨⟨e, hi⟩, fun x H3 y => ?_⟩
  obtain ⟨rfl, k, v, q, e1, rfl, e2⟩ := y
  refine ⟨Same.refl _, .tup (k.map keyD), ?_, q, _, rfl, ⟨e2, dm.tup e2⟩, reps_keyV k⟩
  rw [List.getElem?_map, e1]
  rfl
theorem zip_get {α β : Type} : ∀ (l : List α) (m : List β) (i : Nat) (a : α) (b : β), l[i]? = some a → m[i]? = some b → (l.zip m)[i]? = some (a, b)
  | [], _, i, _, _, h, _ => by simp at h
  | _ :: _, [], i, _, _, _, h => by simp at h
  | x :: l, y :: m, 0, a, b, h, h' => by
    simp at h h'
    subst h h'
    rfl
  | x :: l, y :: m, i + 1, a, b, h, h' => zip_get l m i a b (by simpa using h) (by simpa using h')
theorem walks_items {kvs : List (Key × V)} {ds : List D} (h : H0 d = some (.frz o (.dK kvs))) (r : reps G B H0 ds (kvs.map (·.2))) : Walks G B H0 (Iti d o kvs) (zipL (kvs.map fun p => keyD p.1) ds) := fun B2 H2 s dm b => by
  have e : H2 d = some (.frz o (.dK kvs)) := s.ext d _ h fun ps z => by cases z
  have r2 : reps G B2 H2 ds (kvs.map (·.2)) := reps_keep (Keep.of s) b r
  have ln := reps_len r
  rw [List.length_map] at ln
  refine ⟨fun i hi => ?_, ⟨e, by rw [zipL_len, List.length_map]; omega⟩⟩
  rw [zipL_len, List.length_map] at hi
  refine ⟨⟨e, by omega⟩, fun x H3 y => ?_⟩
  obtain ⟨T, k, v, e1, rfl, nT, rfl⟩ := y
  obtain ⟨dv, e3, e4⟩ := reps_getV r2 (i := i) (v := v) (by rw [List.getElem?_map, e1]; rfl)
  exact ⟨Same.upd_new nT, _, zipL_get _ _ i (keyD k) dv (by rw [List.getElem?_map, e1]; rfl) e3, rep_pair nT dm (rep_keyV k) e4⟩
end
/-! ### d.items() where keys are tuples -/
/-- a locked dict of tuple keys, its entries -/
theorem frzT2 {X : Cx} {pins : List (Addr × Obj)} {σ : L2.St} {H : Hp} {s : Shared} {d : Addr} {o : Obj} {kvs : List (List Key × V)} (I : Inv X pins σ H s) (h : H d = some (.frz o (.dT kvs))) :
    (d == sysModules) = false ∧ s.heap.get? d = some o ∧ o.ExactDict ∧ ∃ (es : Array DictEntry) (ep : Nat), o.data = .dict es ep ∧ es.size = kvs.length ∧
      ∀ (i : Nat) (k : List Key) (v : V), kvs[i]? = some (k, v) → ∃ (en : DictEntry) (q : Addr), es[i]? = some en ∧ en.key = .ref q ∧ H q = some (.tup (k.map kV)) ∧ RelV v en.val := by
  obtain ⟨hd, z, hs, xs, pr, o', es, ep, ho, hx, hdt, he, _⟩ := I.hok d _ h
  rw [hd] at ho
  cases ho
  refine ⟨hs, hd, hx, es, ep, hdt, ?_, fun i k v e => ?_⟩
  · have l1 : es.size = xs.length := size_of_entries he
    have l2 : kvs.length = xs.length := Paired.length pr
    omega
  · obtain ⟨b, hb, e1, e2, e3⟩ := paired_get pr e
    have q := entry_at he i
    rw [hb] at q
    exact ⟨_, b.2.1, q, rfl, e2, e3⟩
def ItiT (d : Addr) (o : Obj) (kvs : List (List Key × V)) : It :=
  ⟨fun i H => H d = some (.frz o (.dT kvs)) ∧ i < kvs.length, fun i H x H' => ∃ (T q : Addr) (k : List Key) (v : V), kvs[i]? = some (k, v) ∧ x = .ref T ∧ H T = none ∧ H q = some (.tup (k.map kV)) ∧ H' = upd H T (.tup [.ref q, v]), fun i H => H d = some (.frz o (.dT kvs)) ∧ kvs.length ≤ i⟩
section
variable {P : Program} {w : World} {K : PySem.W.Frag} {d : Addr} {o : Obj} {es : Array DictEntry} {ep : Nat}
theorem turn_itemsT {kvs : List (List Key × V)} {elts : List Expr} {kk : Nat} {tpos : Pos} (it : Addr) (hod : o.data = .dict es ep) :
    Turn P w K (.Tuple elts kk tpos) (ItiT d o kvs) [it] it (fun i h => ∃ ok ov, IsItemIter h it d i kvs.length ep ok ov) where
  mem := by simp
  obj := fun i h st b hb => by
    have e : b = it := by simpa using hb
    subst e
    obtain ⟨ok, ov, e⟩ := st
    exact ⟨_, e, fun v z => nomatch z⟩
  keep := fun i h h' st k => let ⟨ok, ov, e⟩ := st; ⟨ok, ov, k it (by simp) _ e⟩
  item := by
    intro X hP hw hK hc i pins s σ H E I hf st hg
    subst hP hw hK
    obtain ⟨hd, hi⟩ := hg
    obtain ⟨hs, hgd, hx, es', ep', hdt, hsz, ent⟩ := frzT2 I hd
    obtain ⟨rfl, rfl⟩ := dict_ep hod hdt
    obtain ⟨⟨k, v⟩, hkv⟩ : ∃ p, kvs[i]? = some p := ⟨kvs[i], List.getElem?_eq_getElem hi⟩
    obtain ⟨en, q, hen, hkey, hq, rv⟩ := ent i k v hkv
    obtain ⟨ok, ov, he⟩ := st
    rw [← hsz] at he
    have hlt : it < s.heap.objs.size := Heap.lt_size he
    have hi2 : i < es'.size := by omega
    have een : es'[i] = en := by
      rw [Array.getElem?_eq_getElem hi2] at hen
      exact Option.some.inj hen
    refine DT.nextI he ⟨o, hgd, hx, hdt⟩ hi2 fun h' ho hT hz hk => ?_
    rw [een] at hT
    refine ⟨_, rfl, wpAny_letOwnedTupleGo_items (s := { s with heap := h' }) ho fun h'' he' sb => ?_⟩
    have hT2 : h''.get? s.heap.objs.size = some { cls := .type "tuple", data := .seq #[en.key, en.val] } := (sb.2 _ (Nat.ne_of_gt hlt)).trans hT
    have new : ObjOk X.prog X.w (upd H s.heap.objs.size (.tup [.ref q, v])) h'' s.heap.objs.size (.tup [.ref q, v]) :=
      ⟨by show 2 ≤ sizeLine; decide, [en.key, en.val], .cons hkey (.cons rv .nil), ⟨_, hT2, rfl, _, rfl⟩⟩
    have I1 : Inv X pins σ (upd H s.heap.objs.size (.tup [.ref q, v])) { s with heap := h'' } :=
      I.turnedNew (t' := s.toks) (ch := [it]) (fun b ob hb e => (sb.2 b (by simpa using hb)).trans (hk b ob (by simpa using hb) e)) hf (Nat.le_refl _) new
    refine ⟨.ref s.heap.objs.size, _, I1, rfl, ⟨_, q, k, v, hkv, rfl, I.hok.fresh (Nat.le_refl _), hq, rfl⟩, ⟨es'[i].key, es'[i].val, ?_⟩, fun b hb => ?_⟩
    · rw [← hsz]
      exact he'
    · have e : b = it := by simpa using hb
      rw [e, upd_ne (Nat.ne_of_lt hlt)]
      exact (hf it (by simp)).1
  done := by
    intro X hP hw hK hc i pins s σ H E I hf st hg
    subst hP hw hK
    obtain ⟨hd, hi⟩ := hg
    obtain ⟨f0, f1, f2, f3, f4, f5⟩ := hf it (by simp)
    obtain ⟨hs, hgd, hx, es', ep', hdt, hsz, ent⟩ := frzT2 I hd
    obtain ⟨rfl, rfl⟩ := dict_ep hod hdt
    obtain ⟨ok, ov, he⟩ := st
    rw [← hsz] at he
    exact DT.endI (I.ok.hd hc) he ⟨o, hgd, hx, hdt⟩ (by omega) fun h' eb => ⟨rfl, I.turned (t' := s.toks) (fun b ob hb e => eb b ob hb e) f0 f1 f3 f4 f5⟩
  self := fun A i s Q E st h => let ⟨_, _, e⟩ := st; PySem.W.kcp_self e h
end
/-- d.items(), either kind -/
def iItems2 (td : TE) : TI := fun σ H R => td σ H fun x H1 => ∃ d o, x = .ref d ∧ ((∃ kvs, H1 d = some (.frz o (.dK kvs)) ∧ R (Iti d o kvs) H1) ∨ ∃ kvs, H1 d = some (.frz o (.dT kvs)) ∧ R (ItiT d o kvs) H1)
theorem pi_items2 {X : Cx} {e : Expr} {td : TE} {apos cpos tpos : Pos} {elts : List Expr} {kk : Nat} (he : PE X e td) (hbase : attributeBase e "items" X.env (eval e X.env) = eval e X.env) (hline : (apos.endLine == cpos.line) = true) :
    PI X (.Tuple elts kk tpos) (.Call (.Attribute e "items" apos) [] [] cpos) (iItems2 td) := by
  refine ⟨fun pins s σ H R I h => ?_⟩
  refine wpAny_Call_method (T := "dict") (id := "dict.items") hbase rfl hline F.plainAttrs_dict F.slot_dict_items F.type_dict_items (thn (he.run pins s σ H _ I h) fun u s1 ⟨x, H1, I1, rx, d, o, ex, q⟩ => ?_)
  subst ex
  obtain rfl : u = Value.ref d := rx
  rcases q with ⟨kvs, hd, q⟩ | ⟨kvs, hd, q⟩
  · obtain ⟨hs, hgd, hx, es, ep, vs, hdt, hsz, kv, hm⟩ := I1.frzK hd
    have hl : kvs.length = vs.length := Paired.length kv
    refine ⟨hm.dictOf.typeIs, hm.dictOf.mapOf.noDict, ?_⟩
    have I2 : Inv X pins σ H1 { s1 with heap := s1.heap.push { cls := .type "dict_items", data := .fields #[.ref d] } } := I1.kept (t' := s1.toks) fun b ob q => Heap.get?_push_of_some _ q
    have fin : wpAny (model X.prog X.w) X.A (pyIter (.ref s1.heap.objs.size)) (PIE X pins σ (.Tuple elts kk tpos) R) X.xe { s1 with heap := s1.heap.push { cls := .type "dict_items", data := .fields #[.ref d] } } := by
      refine wpAny_pyIter_items (d := d) (knd := mixKind X.prog X.w) ⟨_, Heap.get?_push_size _ rfl, rfl, rfl⟩ (hm.push _) (pi_one (tk := s1.toks) I2 _ (turn_items _ hdt) ⟨.none, .none, ?_⟩ q)
      rw [hl]
      exact Heap.get?_push_size _ rfl
    show wpAny _ _ (callWith cpos (.builtin "dict.items") [.ref d] [] []) _ X.xe s1
    exact method_meetsIn F.slot_dict_items F.entry_dict_items rfl (PySem.evalArgs_none ⟨rfl, hm.dictOf.typeIs, F.args_dict_items_1 _, _, meets_dict_items (mixKind X.prog X.w) d hs, ⟨vs, hm.dictOf⟩, fin⟩)
  · obtain ⟨hs, hgd, hx, es, ep, hdt, hsz, ent⟩ := frzT2 I1 hd
    have raw : DT.Raw s1.heap d es ep := ⟨o, hgd, hx, hdt⟩
    refine ⟨raw.typeIs, fun a e => ?_, ?_⟩
    · cases e
      exact ⟨o, hgd, hx.2.1⟩
    have I2 : Inv X pins σ H1 { s1 with heap := s1.heap.push { cls := .type "dict_items", data := .fields #[.ref d] } } := I1.kept (t' := s1.toks) fun b ob q => Heap.get?_push_of_some _ q
    have fin : wpAny (model X.prog X.w) X.A (pyIter (.ref s1.heap.objs.size)) (PIE X pins σ (.Tuple elts kk tpos) R) X.xe { s1 with heap := s1.heap.push { cls := .type "dict_items", data := .fields #[.ref d] } } := by
      refine DT.iterI (d := d) (es := es) (ep := ep) ⟨_, Heap.get?_push_size _ rfl, rfl, rfl⟩ (raw.push _) (pi_one (tk := s1.toks) I2 _ (turn_itemsT _ hdt) ⟨.none, .none, ?_⟩ q)
      rw [← hsz]
      exact Heap.get?_push_size _ rfl
    show wpAny _ _ (callWith cpos (.builtin "dict.items") [.ref d] [] []) _ X.xe s1
    exact method_meetsIn F.slot_dict_items F.entry_dict_items rfl (PySem.evalArgs_none ⟨rfl, raw.typeIs, F.args_dict_items_1 _, _, DT.meetsItems (es := es) (ep := ep) hs, raw, fin⟩)
section
variable {G : Gx} {B : Addr → Prop} {H0 : Hp} {d : Addr} {o : Obj}
theorem walks_itemsT {kvs : List (List Key × V)} {ds : List D} (h : H0 d = some (.frz o (.dT kvs))) (r : reps G B H0 ds (kvs.map (·.2))) : Walks G B H0 (ItiT d o kvs) (zipL (kvs.map fun p => D.tup (p.1.map keyD)) ds) := fun B2 H2 s dm b => by
  have e : H2 d = some (.frz o (.dT kvs)) := s.ext d _ h fun ps z => by cases z
  have r2 : reps G B2 H2 ds (kvs.map (·.2)) := reps_keep (Keep.of s) b r
  have ln := reps_len r
  rw [List.length_map] at ln
  refine ⟨fun i hi => ?_, ⟨e, by rw [zipL_len, List.length_map]; omega⟩⟩
  rw [zipL_len, List.length_map] at hi
  refine ⟨⟨e, by omega⟩, fun x H3 y => ?_⟩
  obtain ⟨T, q, k, v, e1, rfl, nT, hq, rfl⟩ := y
  obtain ⟨dv, e3, e4⟩ := reps_getV r2 (i := i) (v := v) (by rw [List.getElem?_map, e1]; rfl)
  exact ⟨Same.upd_new nT, _, zipL_get _ _ i (.tup (k.map keyD)) dv (by rw [List.getElem?_map, e1]; rfl) e3, rep_pair nT dm ⟨q, _, rfl, ⟨hq, dm.tup hq⟩, reps_keyV k⟩ e4⟩
end
end Ir

/-! Ir14p: t = xs.pop(), xs.append(ys.pop(e)), xs and ys lists of one's own. -/
namespace Ir
open PySem L2 PyProof.Rows
section
variable {G : Gx} {M : Nms} {T : Tbl} {N : List Str} {sc : Scope} {lvl : Nat} {W : WX} {X : Cx}
variable {e v : Expr} {a b : E} {ta : TE} {pos py ap cp py2 ap2 cp2 : Pos} {x y : Str} {i j : Nat}
theorem ofO_inv {α : Type} {o : Option α} {a : α} (h : R.ofO o = .ok a) : o = some a := by
  cases o with
  | none => cases h
  | some b => rw [R.ok.inj h]
theorem blk_putW {B : Addr → Prop} {ρ : Sl} {σ : L2.St} {x : SV} {d d' : D} (e1 : ρ[i]? = some (some x)) (w : x.wr = some d) {b : Addr} (z : Blk B (putW ρ i d') σ b) : Blk B ρ σ b := by
  rw [putW_of e1] at z
  rcases z with z | ⟨j, y, e, q1, w', q2⟩
  · exact .inl z
  · rcases set_get q1 with ⟨rfl, _⟩ | ⟨ne, q⟩
    · exact .inr ⟨_, x, d, e1, w, q2⟩
    · exact .inr ⟨j, y, e, q, w', q2⟩
theorem putW_ne {ρ : Sl} {d : D} (h : i ≠ j) : (putW ρ i d)[j]? = ρ[j]? := by
  unfold putW
  split
  · rw [List.getElem?_set_ne h]
  · rfl
theorem reps_dropLast {B : Addr → Prop} {H : Hp} {l : List D} {vs : List V} (h : reps G B H l vs) : reps G B H l.dropLast vs.dropLast := by
  rw [List.dropLast_eq_take, List.dropLast_eq_take, reps_len h]
  exact reps_take _ h
theorem reps_erase {B : Addr → Prop} {H : Hp} {l : List D} {vs : List V} (k : Nat) (h : reps G B H l vs) : reps G B H (l.eraseIdx k) (vs.eraseIdx k) := by
  rw [List.eraseIdx_eq_take_drop_succ, List.eraseIdx_eq_take_drop_succ]
  exact reps_app (reps_take _ h) (reps_drop _ h)
theorem nx_int1 (x : D) : Nx (intO1 x) := by
  unfold intO1
  split <;> first | exact nx_ok | exact nx_stuck
theorem ss_popT (F : Facts G M T lvl) (hcm : M.calm = true) (c : Cxs G M N sc lvl W X) {t : Tg} {tg : Expr} (h1 : isTg N sc t tg = true) (ns : noSt tg = true) (hi : N[i]? = some x) (hl : locB sc x = true) (hn : okNm x = true) (ln : (ap.endLine == cp.line) = true) :
    ∃ ts, SS G T X W (.Assign [tg] (.Call (.Attribute (.Name x py) "pop" ap) [] [] cp) pos) (.popT t i) ts := by
  have pg := sound_tg c.toCxk hcm (s' := sc) (fun x _ => .inl (c.fnt x)) t h1 h1
  refine ⟨_, ps_asg (pe_bm0 PySem.F.plainAttrs_list PySem.F.slot_list_pop PySem.F.type_list_pop mt_pop (pe_nm c hi hl hn) rfl ln) pg rfl (noTup_sw (tg := tg) (show noTup (.Call (.Attribute (.Name x py) "pop" ap) [] [] cp) = true from rfl) X.env) ?_, fun B H0 ρ σ H D r p => ?_⟩
  · cases tg <;> first | rfl | cases ns
  · obtain ⟨d, e1, p⟩ := PostF.pure (nx_own ρ) p
    obtain ⟨sx, ⟨q1, qw⟩, ad, q2, q3⟩ := own_at r e1
    cases d with
    | lst l =>
      obtain ⟨vs, hA, hr⟩ := q3
      obtain ⟨d, e2, p⟩ := PostF.pure nx_ofO p
      have e2 := ofO_inv e2
      obtain ⟨v, e3, hv⟩ := reps_get hr e2
      have kp : Keep (Blk B ρ σ) H (upd H ad (.lst vs.dropLast)) := keep_upd (.inr ⟨i, _, _, q1, qw, q2⟩)
      have r2 : RelS G B H0 (putW ρ i (.lst l.dropLast)) σ (upd H ad (.lst vs.dropLast)) := r.write q1 qw q2 (fun b nb => upd_ne nb) ⟨vs.dropLast, upd_same, reps_keep kp (fun _ _ _ z => z) (reps_dropLast hr)⟩
      refine ⟨.ref ad, q2, .inl ⟨rfl, vs, .inl (.inl hA)⟩, ad, vs, v, rfl, rfl, hA, by rw [reps_len hr]; exact e3, ?_⟩
      cases q : asgTg t d (putW ρ i (.lst l.dropLast)) with
      | stuck =>
        rw [q] at p
        exact p.elim
      | exc c fs => exact (nx_asgTg t d _ c fs q).elim
      | ok ρ' =>
        rw [q] at p
        exact ⟨B, H0, _, d, r2, rep_keep kp (fun _ _ _ z => blk_putW q1 qw z) hv, ρ', q, fun σ' r' _ _ _ => p σ' _ r'⟩
    | dct t ks l => exact p.elim
    | _ => exact q3.elim
theorem ss_appPop (F : Facts G M T lvl) (c : Cxs G M N sc lvl W X) (hi : N[i]? = some x) (hl : locB sc x = true) (hn : okNm x = true) (ln : (ap.endLine == cp.line) = true) (hj : N[j]? = some y) (hl2 : locB sc y = true) (hn2 : okNm y = true) (ln2 : (ap2.endLine == cp2.line) = true) (ns : noSt e = true) (h : isE M N a sc e = true) :
    ∃ ts, SS G T X W (.Expr (.Call (.Attribute (.Name x py) "append" ap) [.Call (.Attribute (.Name y py2) "pop" ap2) [e] [] cp2] [] cp) pos) (.appPop i j a) ts := by
  obtain ⟨⟨te, he⟩, _⟩ := sound_E F a c.toCxk h
  have p1 := pe_bm (cpos := cp2) PySem.F.plainAttrs_list PySem.F.slot_list_pop PySem.F.type_list_pop mt_popAt (pe_nm (py := py2) c hj hl2 hn2) (pa_cons he.pe pa_nil (noSt_is ns _ _)) rfl (few1 ns) ln2 (noSt_is ns _ _) rfl
  refine ⟨_, ps_expr (pe_bm PySem.F.plainAttrs_list PySem.F.slot_list_append PySem.F.type_list_append mt_append (pe_nm c hi hl hn) (pa_cons p1 pa_nil rfl) rfl (few1 rfl) ln rfl rfl), fun B H0 ρ σ H D r p => ?_⟩
  obtain ⟨d, e1, p⟩ := PostF.pure (nx_own ρ) p
  obtain ⟨sx, ⟨q1, qw⟩, ad, q2, q3⟩ := own_at r e1
  cases d with
  | lst l =>
    obtain ⟨vs, hA, hr⟩ := q3
    obtain ⟨d2, e2, p⟩ := PostF.pure (nx_own ρ) p
    obtain ⟨sy, ⟨u1, uw⟩, bd, u2, u3⟩ := own_at r e2
    cases d2 with
    | lst m =>
      obtain ⟨ws, hB, hs⟩ := u3
      refine ⟨.ref ad, q2, .inl ⟨rfl, vs, .inl (.inl hA)⟩, .ref bd, u2, .inl ⟨rfl, ws, .inl (.inl hB)⟩, he.pk B H0 ρ σ H _ r (PostF.bnd r p fun dn vn H1 s1 g1 w1 => ?_)⟩
      obtain ⟨n, e3, w2⟩ := PostF.pure (nx_int1 dn) w1
      obtain ⟨k, e4, w3⟩ := PostF.pure nx_ofO w2
      obtain ⟨d, e5, w4⟩ := PostF.pure nx_ofO w3
      obtain ⟨cc, w5⟩ := PostF.iff w4
      rw [Bool.and_eq_true, Bool.and_eq_true] at cc
      obtain ⟨⟨c1, c2⟩, c3⟩ := cc
      have c1 := of_decide_eq_true c1
      have c2 := of_decide_eq_true c2
      have c3 := of_decide_eq_true c3
      have e4 := ofO_inv e4
      have e5 := ofO_inv e5
      have en : dn = .int n := by
        cases dn with
        | int z =>
          have z' : R.ok z = R.ok n := e3
          rw [R.ok.inj z']
        | _ => cases e3
      subst en
      obtain rfl : vn = .int n := g1
      have r1 := r.mono s1
      have hA1 := s1.lst hA
      have hB1 := s1.lst hB
      have hr1 := reps_same s1 hr
      have hs1 := reps_same s1 hs
      have lw := reps_len hs
      obtain ⟨k1, k2, k3, k4⟩ := ixN_seq e4
      obtain ⟨v, e6, hv⟩ := reps_get hs1 e5
      have nab : bd ≠ ad := fun z => c1 (r.inj i j sx sy _ _ ad q1 qw u1 uw q2 (z ▸ u2))
      have lb : (m.length : Int) ≤ 16777216 := by
        have : m.length ≤ 16777216 := c3
        omega
      have bB : Blk B ρ σ bd := .inr ⟨j, _, _, u1, uw, u2⟩
      have kp : Keep (Blk B ρ σ) H1 (upd H1 bd (.lst (ws.eraseIdx k))) := keep_upd bB
      have r2 : RelS G B H0 (putW ρ j (.lst (m.eraseIdx k))) σ (upd H1 bd (.lst (ws.eraseIdx k))) := r1.write u1 uw u2 (fun b nb => upd_ne nb) ⟨ws.eraseIdx k, upd_same, reps_keep kp (fun _ _ _ z => z) (reps_erase k hs1)⟩
      have bs : ∀ b, Blk B (putW ρ j (.lst (m.eraseIdx k))) σ b → Blk B ρ σ b := fun b z => blk_putW u1 uw z
      have q1' : (putW ρ j (.lst (m.eraseIdx k)))[i]? = some (some sx) := by
        rw [putW_ne (Ne.symm c1)]
        exact q1
      refine ⟨bd, ws, n, k, v, rfl, rfl, hB1, by omega, by omega, by rw [lw]; exact k1, e6, ?_⟩
      refine ⟨ad, vs, v, rfl, rfl, (upd_ne (Ne.symm nab)).trans hA1, by rw [reps_len hr, ← lim_eq]; exact c2, w5 σ _ (r2.write q1' qw q2 (fun b nb => upd_ne nb) ⟨vs ++ [v], upd_same, ?_⟩)⟩
      have bA : Blk B (putW ρ j (.lst (m.eraseIdx k))) σ ad := .inr ⟨i, _, _, q1', qw, q2⟩
      refine reps_keep (keep_upd bA) (fun _ _ _ z => z) (reps_app (reps_keep kp (fun a o _ z => bs a z) hr1) ⟨v, [], rfl, rep_keep kp (fun a o _ z => bs a z) hv, rfl⟩)
    | dct t ks l => exact p.elim
    | _ => exact u3.elim
  | dct t ks l => exact p.elim
  | _ => exact q3.elim
end
end Ir

/-! Ir15n: lists of one's own within a list: they stand in slots whose names no one has. -/
namespace Ir
open PySem L2 PyProof.Rows
section
variable {G : Gx} {B : Addr → Prop} {H0 H : Hp} {ρ : Sl} {σ : L2.St}
theorem own_io {j : Nat} {a : Addr} {d : D} (e1 : ρ[j]? = some (some (.own d))) {i : Nat} {s : SV} {x : D} (h : (ρ.set j (some (.io a d)))[i]? = some (some s)) (w : s.wr = some x) : ∃ s', ρ[i]? = some (some s') ∧ s'.wr = some x ∧ (i = j → s = .io a d ∧ x = d) ∧ (i ≠ j → s' = s) := by
  rcases set_get h with ⟨rfl, q⟩ | ⟨ne, q⟩
  · cases q
    cases w
    exact ⟨_, e1, rfl, fun _ => ⟨rfl, rfl⟩, fun z => (z rfl).elim⟩
  · exact ⟨s, q, w, fun z => (ne z.symm).elim, fun _ => rfl⟩
/-- where it stands is told -/
theorem RelS.toIo (r : RelS G B H0 ρ σ H) {j : Nat} {a : Addr} {d : D} (e1 : ρ[j]? = some (some (.own d))) (e2 : σ[j]? = some (some (.ref a))) : RelS G B H0 (ρ.set j (some (.io a d))) σ H := by
  have hb : ∀ b, Blk B (ρ.set j (some (.io a d))) σ b → Blk B ρ σ b := fun b z => by
    rcases z with z | ⟨i, s, x, q1, w, q2⟩
    · exact .inl z
    · obtain ⟨s', q, w', _⟩ := own_io e1 q1 w
      exact .inr ⟨i, s', x, q, w', q2⟩
  refine ⟨by rw [List.length_set, r.len], r.same, r.tab, r.dom, fun i e h1 => ?_, fun i s e h1 w => ?_, fun i k x y e e' b h1 w h2 w' h3 h4 => ?_⟩
  · rcases set_get h1 with ⟨rfl, q⟩ | ⟨ne, q⟩
    · cases q
    · obtain ⟨u, q1, q2⟩ := r.im i e q
      exact ⟨u, q1, rep_anti hb q2⟩
  · obtain ⟨s', q, w', c1, c2⟩ := own_io e1 h1 w
    obtain ⟨b, t, q1, n, q2⟩ := r.own i s' e q w'
    refine ⟨b, ?_, q1, n, q2.keep rfl (fun _ _ h _ _ => h) fun b _ _ z => hb b z⟩
    by_cases c : i = j
    · obtain ⟨rfl, rfl⟩ := c1 c
      subst c
      rw [e2] at q1
      cases q1
      exact rfl
    · rw [← c2 c]
      exact t
  · obtain ⟨s1, q, w1, _⟩ := own_io e1 h1 w
    obtain ⟨s2, q', w2, _⟩ := own_io e1 h2 w'
    exact r.inj i k s1 s2 e e' b q w1 q' w2 h3 h4
def setR : L2.St → List Nat → List Addr → L2.St
  | σ, j :: js, b :: bs => setR (σ.set j (some (.ref b))) js bs
  | σ, _, _ => σ
theorem setIos_len : ∀ {js : List Nat} {bs : List Addr} {ρ : Sl}, (setIos ρ js bs).length = ρ.length
  | [], _, ρ => by cases ‹List Addr› <;> rfl
  | _ :: _, [], ρ => rfl
  | j :: js, b :: bs, ρ => by
    show (setIos (ρ.set j (some (.io b (.lst [])))) js bs).length = _
    rw [setIos_len, List.length_set]
theorem setR_set {i : Nat} {v : Option V} : ∀ {js : List Nat} {bs : List Addr} {σ : L2.St}, i ∉ js → setR (σ.set i v) js bs = (setR σ js bs).set i v
  | [], bs, σ, _ => by cases bs <;> rfl
  | j :: js, [], σ, _ => rfl
  | j :: js, b :: bs, σ, h => by
    show setR ((σ.set i v).set j (some (.ref b))) js bs = (setR (σ.set j (some (.ref b))) js bs).set i v
    rw [List.set_comm _ _ (fun e => h (by rw [e]; exact List.mem_cons_self)), setR_set fun z => h (List.mem_cons_of_mem _ z)]
/-- names that no one has -/
def ghB (N : List Str) (sc : Scope) (j : Nat) : Bool := match N[j]? with
  | some y => !(decide (sc.names.lookup y = some .local) || decide (sc.names.lookup y = some .cell) || decide (sc.names.lookup y = some .free))
  | none => true
theorem ghB_of {N : List Str} {sc : Scope} {j : Nat} {y : Str} (h : ghB N sc j = true) (e : N[j]? = some y) : ¬ Vis sc y := by
  unfold ghB at h
  rw [e] at h
  have h : (!(decide (sc.names.lookup y = some .local) || decide (sc.names.lookup y = some .cell) || decide (sc.names.lookup y = some .free))) = true := h
  rw [Bool.not_eq_true', Bool.or_eq_false_iff, Bool.or_eq_false_iff] at h
  obtain ⟨⟨h1, h2⟩, h3⟩ := h
  rintro (z | z | z)
  · exact of_decide_eq_false h1 z
  · exact of_decide_eq_false h2 z
  · exact of_decide_eq_false h3 z
theorem inv_set {X : Cx} {pins : List (Addr × Obj)} {s : Shared} {j : Nat} {v : Option V} (I : Inv X pins σ H s) (hg : ∀ y, X.N[j]? = some y → ¬ Vis X.env.scope y) : Inv X pins (σ.set j v) H s :=
  { I with
    loc := by
      obtain ⟨m, hm, f⟩ := I.loc
      refine ⟨m, hm, fun i x u hi hv vis => ?_⟩
      rcases set_get hv with ⟨rfl, _⟩ | ⟨_, q⟩
      · exact (hg x hi vis).elim
      · exact f i x u hi q vis
    len := by rw [List.length_set, I.len] }
theorem inv_ghost {X : Cx} {pins : List (Addr × Obj)} {s : Shared} : ∀ {js : List Nat} {bs : List Addr} {σ : L2.St}, Inv X pins σ H s → (∀ j ∈ js, ∀ y, X.N[j]? = some y → ¬ Vis X.env.scope y) → Inv X pins (setR σ js bs) H s
  | [], bs, σ, I, _ => by cases bs <;> exact I
  | j :: js, [], σ, I, _ => I
  | j :: js, b :: bs, σ, I, h => inv_ghost (js := js) (bs := bs) (inv_set I (h j List.mem_cons_self)) fun k hk => h k (List.mem_cons_of_mem _ hk)
def tGhost (js : List Nat) (u : TS) : TS := fun D σ H => ∃ bs : List Addr, u D (setR σ js bs) H
theorem pss_ghost {X : Cx} {rest : List Stmt} {u : TS} {js : List Nat} (h : PSs X rest u) (hg : ∀ j ∈ js, ∀ y, X.N[j]? = some y → ¬ Vis X.env.scope y) : PSs X rest (tGhost js u) :=
  ⟨fun pins s σ H D I ⟨bs, q⟩ => h.run pins s _ H D (inv_ghost I hg) q⟩
/-- empty lists -/
def emp : Expr → Bool
  | .List [] _ => true
  | _ => false
def tEmp : List Expr → TA
  | [] => tNil
  | _ :: l => tCons (tLst tNil) (tEmp l)
theorem pa_emp {X : Cx} : ∀ {ys : List Expr}, ys.all emp = true → PA X ys (tEmp ys)
  | [], _ => pa_nil
  | y :: ys, h => by
    rw [List.all_cons, Bool.and_eq_true] at h
    have h1 := h.1
    unfold emp at h1
    split at h1
    · exact pa_cons (pe_lst pa_nil) (pa_emp h.2) rfl
    · cases h1
theorem run_emp {σ : L2.St} : ∀ {ys : List Expr} {js : List Nat} {ρ : Sl} {σg : L2.St} {H : Hp} {Q : List V → Hp → Prop}, js.length = ys.length → (∀ j ∈ js, j < ρ.length) → RelS G B H0 ρ σg H →
    (∀ bs H', bs.length = ys.length → Same G H H' → RelS G B H0 (setIos ρ js bs) (setR σg js bs) H' → Q (bs.map V.ref) H') → tEmp ys σ H Q
  | [], js, ρ, σg, H, Q, e, _, r, k => by
    have z : js = [] := List.length_eq_zero_iff.mp e
    subst z
    exact k [] H rfl (Same.refl H) r
  | y :: ys, [], ρ, σg, H, Q, e, _, r, k => by cases e
  | y :: ys, j :: js, ρ, σg, H, Q, e, hj, r, k => by
    refine ⟨Nat.zero_le _, fun p n0 => ?_⟩
    have hj0 := hj j List.mem_cons_self
    have s1 : Same G H (upd H p (.lst [])) := Same.upd_new n0
    have r1 := r.putN (d := .lst []) hj0 s1 n0 ⟨[], upd_same, rfl⟩
    have g1 : (putO ρ j (.lst []))[j]? = some (some (.own (.lst []))) := by
      unfold putO
      rw [List.getElem?_set_self hj0]
    have g2 : (σg.set j (some (.ref p)))[j]? = some (some (V.ref p)) := List.getElem?_set_self (by rw [← r.len]; exact hj0)
    have r2 := r1.toIo g1 g2
    have e2 : (putO ρ j (.lst [])).set j (some (.io p (.lst []))) = ρ.set j (some (.io p (.lst []))) := by
      unfold putO
      rw [List.set_set]
    rw [e2] at r2
    exact run_emp (ys := ys) (js := js) (by rw [List.length_cons, List.length_cons] at e; omega) (fun i hi => by rw [List.length_set]; exact hj i (List.mem_cons_of_mem _ hi)) r2 fun bs H' hl s2 r3 => k (p :: bs) H' (by rw [List.length_cons, List.length_cons, hl]) (s1.trans s2) r3
theorem reps_adr {B : Addr → Prop} {H : Hp} : ∀ bs : List Addr, reps G B H (bs.map D.adr) (bs.map V.ref)
  | [] => rfl
  | b :: bs => ⟨.ref b, bs.map V.ref, rfl, rfl, reps_adr bs⟩
end
section
variable {G : Gx} {M : Nms} {T : Tbl} {N : List Str} {sc : Scope} {lvl : Nat} {W : WX} {X : Cx}
theorem sss_nest (c : Cxs G M N sc lvl W X) {x : Str} {py pl pos : Pos} {ys : List Expr} {i : Nat} {js : List Nat} {rest : List Stmt} {b : Ss} {u : TS} (hi : N[i]? = some x) (hl : locB sc x = true) (he : ys.all emp = true) (hn : ys.length = js.length) (hs : ys.length ≤ 1000) (hg : js.all (ghB N sc) = true) (h : SSs G T X W rest b u) :
    ∃ t, SSs G T X W (.Assign [.Name x py] (.List ys pl) pos :: rest) (.cons (.nest i js b) .nil) t := by
  have gh : ∀ j ∈ js, ∀ y, X.N[j]? = some y → ¬ Vis X.env.scope y := fun j hj y e => by
    rw [c.toCxk.sc]
    rw [c.toCxk.hN] at e
    exact ghB_of (List.all_eq_true.mp hg j hj) e
  refine ⟨_, pss_cons (ps_name c hi hl rfl (pe_lst (pa_emp he))) (pss_ghost h.ps gh), fun B H0 ρ σ H D r p => ?_⟩
  have p : PostF G B H0 ((R.iff (decide (i < ρ.length ∧ i ∉ js ∧ js.Nodup) && js.all fun j => decide (j < ρ.length)) (nestR js.length fun bs => exSs T b (nestS ρ i js bs))).bind fun x => match x with
      | .nx ρ' => exSs T .nil ρ'
      | f => .ok f) D W := p
  cases cc : (decide (i < ρ.length ∧ i ∉ js ∧ js.Nodup) && js.all fun j => decide (j < ρ.length)) with
  | false =>
    rw [cc] at p
    exact p.elim
  | true =>
    rw [cc] at p
    rw [Bool.and_eq_true] at cc
    obtain ⟨hi1, hi2, _⟩ := of_decide_eq_true cc.1
    have hj : ∀ j ∈ js, j < ρ.length := fun j hj => of_decide_eq_true (List.all_eq_true.mp cc.2 j hj)
    have p : PostF G B H0 ((nestR js.length fun bs => exSs T b (nestS ρ i js bs)).bind fun x => match x with
      | .nx ρ' => exSs T .nil ρ'
      | f => .ok f) D W := p
    cases e : nestR js.length fun bs => exSs T b (nestS ρ i js bs) with
    | stuck =>
      rw [e] at p
      exact p.elim
    | exc cn fs => exact (nestR_noexc e).elim
    | ok f =>
      rw [e] at p
      obtain ⟨d, rfl, hd⟩ := nestR_ok e
      have p : PostF G B H0 (.ok (.rt d)) D W := p
      show tEmp ys σ H fun xs H1 => xs.length ≤ sizeLine ∧ ∀ q, H1 q = none → tGhost js u D (σ.set i (some (.ref q))) (upd H1 q (.lst xs))
      refine run_emp (js := js) hn.symm hj r fun bs H' hb s1 r1 => ⟨?_, fun q n0 => ⟨bs, ?_⟩⟩
      · rw [List.length_map, hb, sizeLine_eq]
        omega
      · have r2 := r1.mono (Same.upd_new (o := .lst (bs.map V.ref)) n0)
        have hz : i < (setIos ρ js bs).length := by rw [setIos_len]; exact hi1
        have r3 := r2.putI (i := i) (d := .lst (bs.map .adr)) (v := .ref q) hz ⟨q, bs.map V.ref, rfl, .inl upd_same, fun z => r1.bdom.new n0 z, reps_adr bs⟩
        rw [setR_set hi2]
        refine h.k B H0 _ _ _ D r3 ?_
        have z := hd bs (by rw [hb, hn])
        have e3 : putI (setIos ρ js bs) i (.lst (bs.map .adr)) = nestS ρ i js bs := rfl
        rw [e3, z]
        exact p
theorem nx_adr (d : D) : Nx (adrO d) := by cases d <;> first | exact nx_ok | exact nx_stuck
theorem adrO_of {d : D} {a : Addr} (h : adrO d = .ok a) : d = .adr a := by
  cases d with
  | adr b => rw [R.ok.inj (show R.ok b = R.ok a from h)]
  | _ => cases h
theorem nx_adrL : ∀ l : List D, Nx (adrL l)
  | [] => nx_ok
  | d :: l => nx_bind (nx_adr d) fun a => nx_bind (nx_adrL l) fun r => nx_ok
theorem adrL_of : ∀ {l : List D} {bs : List Addr}, adrL l = .ok bs → l = bs.map D.adr
  | [], bs, h => by
    rw [← R.ok.inj (show R.ok [] = R.ok bs from h)]
    rfl
  | d :: l, bs, h => by
    have h : ((adrO d).bind fun a => (adrL l).bind fun r => R.ok (a :: r)) = .ok bs := h
    cases e : adrO d with
    | stuck => rw [e] at h; cases h
    | exc c fs => rw [e] at h; cases h
    | ok a =>
      rw [e] at h
      have h : ((adrL l).bind fun r => R.ok (a :: r)) = .ok bs := h
      cases e2 : adrL l with
      | stuck => rw [e2] at h; cases h
      | exc c fs => rw [e2] at h; cases h
      | ok r =>
        rw [e2] at h
        rw [← R.ok.inj (show R.ok (a :: r) = R.ok bs from h), adrO_of e, adrL_of e2]
        rfl
theorem nx_adrs (d : D) : Nx (adrsO d) := by
  cases d with
  | lst l => exact nx_adrL l
  | _ => exact nx_stuck
theorem adrsO_of {d : D} {bs : List Addr} (h : adrsO d = .ok bs) : d = .lst (bs.map .adr) := by
  cases d with
  | lst l => rw [adrL_of (show adrL l = .ok bs from h)]
  | _ => cases h
theorem nx_io (ρ : Sl) (j : Nat) (a : Addr) : Nx (ioO ρ j a) := by
  unfold ioO
  split
  · exact nx_iff nx_ok
  · exact nx_stuck
theorem ioO_of {ρ : Sl} {j : Nat} {a : Addr} {l : List D} (h : ioO ρ j a = .ok l) : ρ[j]? = some (some (.io a (.lst l))) := by
  unfold ioO at h
  split at h
  · rename_i b m e
    by_cases c : b = a
    · rw [decide_eq_true c] at h
      rw [← R.ok.inj (show R.ok m = R.ok l from h), ← c]
      exact e
    · rw [decide_eq_false c] at h
      cases h
  · cases h
theorem nx_ios (ρ : Sl) : ∀ (js : List Nat) (bs : List Addr), Nx (iosO ρ js bs)
  | [], [] => nx_ok
  | j :: js, b :: bs => nx_bind (nx_io ρ j b) fun l => nx_bind (nx_ios ρ js bs) fun r => nx_ok
  | [], _ :: _ => nx_stuck
  | _ :: _, [] => nx_stuck
inductive F2 (P : Addr → List D → Prop) : List Addr → List (List D) → Prop
  | nil : F2 P [] []
  | cons {b : Addr} {l : List D} {bs : List Addr} {ls : List (List D)} (h : P b l) (t : F2 P bs ls) : F2 P (b :: bs) (l :: ls)
/-- each of them, with its place -/
theorem iosO_of {ρ : Sl} : ∀ {js : List Nat} {bs : List Addr} {ls : List (List D)}, iosO ρ js bs = .ok ls → ∀ (P : Addr → List D → Prop), (∀ j b l, j ∈ js → ρ[j]? = some (some (.io b (.lst l))) → P b l) → F2 P bs ls
  | [], [], ls, h, P, k => by
    rw [← R.ok.inj (show R.ok [] = R.ok ls from h)]
    exact .nil
  | j :: js, b :: bs, ls, h, P, k => by
    have h : ((ioO ρ j b).bind fun l => (iosO ρ js bs).bind fun r => R.ok (l :: r)) = .ok ls := h
    cases e : ioO ρ j b with
    | stuck => rw [e] at h; cases h
    | exc c fs => rw [e] at h; cases h
    | ok l =>
      rw [e] at h
      have h : ((iosO ρ js bs).bind fun r => R.ok (l :: r)) = .ok ls := h
      cases e2 : iosO ρ js bs with
      | stuck => rw [e2] at h; cases h
      | exc c fs => rw [e2] at h; cases h
      | ok r =>
        rw [e2] at h
        rw [← R.ok.inj (show R.ok (l :: r) = R.ok ls from h)]
        exact .cons (k j b l List.mem_cons_self (ioO_of e)) (iosO_of e2 P fun j b l hj => k j b l (List.mem_cons_of_mem _ hj))
  | [], _ :: _, ls, h, P, k => by cases h
  | _ :: _, [], ls, h, P, k => by cases h
theorem ss_appN (F : Facts G M T lvl) (c : Cxs G M N sc lvl W X) {oe e : Expr} {o a : E} {j : Nat} {ap cp pos : Pos} (ob : obB oe = true) (ln : (ap.endLine == cp.line) = true) (ns : noSt e = true) (ho : isE M N o sc oe = true) (h : isE M N a sc e = true) :
    ∃ t, SS G T X W (.Expr (.Call (.Attribute oe "append" ap) [e] [] cp) pos) (.appN o j a) t := by
  obtain ⟨⟨to, ho⟩, _⟩ := sound_E F o c.toCxk ho
  obtain ⟨⟨te, he⟩, _⟩ := sound_E F a c.toCxk h
  refine ⟨_, ps_expr (pe_bm PySem.F.plainAttrs_list PySem.F.slot_list_append PySem.F.type_list_append mt_append ho.pe (pa_cons he.pe pa_nil (noSt_is ns _ _)) (abase ob) (few1 ns) ln (noSt_is ns _ _) rfl), fun B H0 ρ σ H D r p => ?_⟩
  refine ho.pk B H0 ρ σ H _ r (PostF.bnd r p fun dx vx H1 s1 h1 p1 => ?_)
  obtain ⟨ad, e1, p2⟩ := PostF.pure (nx_adr dx) p1
  have e1 := adrO_of e1
  subst e1
  have h1 : vx = .ref ad := h1
  subst h1
  obtain ⟨l, e2, p3⟩ := PostF.pure (nx_io ρ j ad) p2
  have q1 := ioO_of e2
  have r1 := r.mono s1
  obtain ⟨a', rfl, q2, _, q3⟩ := r1.own j _ (.lst l) q1 rfl
  obtain ⟨vs, hA, hr⟩ := q3
  refine ⟨.inl ⟨rfl, vs, .inl (.inl hA)⟩, he.im B H0 ρ σ H1 _ r1 (PostF.bnd r1 p3 fun d v H2 s2 h2 p4 => ?_)⟩
  obtain ⟨cc, p5⟩ := PostF.iff p4
  have cc := of_decide_eq_true cc
  rw [lim_eq] at cc
  have hA1 := s2.lst hA
  refine ⟨ad, vs, v, rfl, rfl, hA1, by rw [reps_len hr]; exact cc, p5 σ _ ((r1.mono s2).write q1 rfl q2 (fun b nb => upd_ne nb) ⟨vs ++ [v], upd_same, ?_⟩)⟩
  exact reps_keep (keep_upd (.inr ⟨j, _, _, q1, rfl, q2⟩)) (fun _ _ _ z => z) (reps_app (reps_same s2 hr) ⟨v, [], rfl, h2, rfl⟩)
theorem wipeN_get {ρ : Sl} {i : Nat} {s : SV} : ∀ {js : List Nat}, (wipeS ρ js)[i]? = some (some s) → i ∉ js ∧ ρ[i]? = some (some s)
  | [], h => ⟨List.not_mem_nil, h⟩
  | j :: js, h => by
    have h : ((wipeS ρ js).set j none)[i]? = some (some s) := h
    rcases set_get h with ⟨_, q⟩ | ⟨ne, q⟩
    · cases q
    · obtain ⟨h1, h2⟩ := wipeN_get q
      exact ⟨fun z => (List.mem_cons.mp z).elim (fun e => ne e.symm) h1, h2⟩
theorem wipeS_few {ρ : Sl} : ∀ (js : List Nat), (wipeS ρ js).length = ρ.length ∧ ∀ i : Nat, (wipeS ρ js)[i]? = ρ[i]? ∨ (wipeS ρ js)[i]? = some none
  | [] => ⟨rfl, fun i => .inl rfl⟩
  | j :: js => by
    obtain ⟨h1, h2⟩ := wipeS_few (ρ := ρ) js
    refine ⟨by show ((wipeS ρ js).set j none).length = _; rw [List.length_set, h1], fun i => ?_⟩
    show ((wipeS ρ js).set j none)[i]? = _ ∨ ((wipeS ρ js).set j none)[i]? = _
    by_cases c : j = i
    · subst c
      by_cases d : j < (wipeS ρ js).length
      · exact .inr (List.getElem?_set_self d)
      · refine .inl ?_
        rw [List.getElem?_eq_none (by rw [List.length_set]; omega), List.getElem?_eq_none (by omega)]
    · rw [List.getElem?_set_ne c]
      exact h2 i
theorem set_same' {α : Type} : ∀ {l : List α} {i : Nat} {x : α}, l[i]? = some x → l.set i x = l
  | [], _, _, h => by cases h
  | a :: l, 0, x, h => by
    rw [← Option.some.inj (show some a = some x from h)]
    rfl
  | a :: l, i + 1, x, h => by
    show a :: l.set i x = _
    rw [set_same' (show l[i]? = some x from h)]
theorem reps_f2 {B : Addr → Prop} {H : Hp} : ∀ {bs : List Addr} {ls : List (List D)}, F2 (fun b l => rep G B H (.lst l) (.ref b)) bs ls → reps G B H (ls.map D.lst) (bs.map V.ref)
  | _, _, .nil => rfl
  | _, _, .cons h t => ⟨_, _, rfl, h, reps_f2 t⟩
theorem reps_adr_of {B : Addr → Prop} {H : Hp} : ∀ {bs : List Addr} {vs : List V}, reps G B H (bs.map D.adr) vs → vs = bs.map V.ref
  | [], vs, h => h
  | b :: bs, vs, h => by
    obtain ⟨v, r, rfl, h1, h2⟩ := h
    have h1 : v = .ref b := h1
    rw [h1, reps_adr_of h2]
    rfl
theorem sss_frzN {sts : List Stmt} {ss : Ss} {tss : TS} {i : Nat} {js : List Nat} (h : SSs G T X W sts ss tss) : SSs G T X W sts (.cons (.frzN i js) ss) tss :=
  ⟨h.ps, fun B H0 ρ σ H D r p => by
    have p : PostF G B H0 (((getI ρ i).bind fun x => (adrsO x).bind fun bs => (iosO ρ js bs).bind fun ls => R.iff (decide (i ∉ js)) (R.ok (Fl.nx (putI (wipeS ρ js) i (.lst (ls.map .lst)))))).bind fun x => match x with
      | .nx ρ' => exSs T ss ρ'
      | f => .ok f) D W := p
    cases e : getI ρ i with
    | stuck =>
      rw [e] at p
      exact p.elim
    | exc c fs =>
      unfold Ir.getI at e
      split at e <;> cases e
    | ok x =>
      rw [e] at p
      have p : PostF G B H0 (((adrsO x).bind fun bs => (iosO ρ js bs).bind fun ls => R.iff (decide (i ∉ js)) (R.ok (Fl.nx (putI (wipeS ρ js) i (.lst (ls.map .lst)))))).bind fun x => match x with
        | .nx ρ' => exSs T ss ρ'
        | f => .ok f) D W := p
      cases e2 : adrsO x with
      | stuck =>
        rw [e2] at p
        exact p.elim
      | exc c fs => exact (nx_adrs x c fs e2).elim
      | ok bs =>
        rw [e2] at p
        have p : PostF G B H0 (((iosO ρ js bs).bind fun ls => R.iff (decide (i ∉ js)) (R.ok (Fl.nx (putI (wipeS ρ js) i (.lst (ls.map .lst)))))).bind fun x => match x with
          | .nx ρ' => exSs T ss ρ'
          | f => .ok f) D W := p
        cases e3 : iosO ρ js bs with
        | stuck =>
          rw [e3] at p
          exact p.elim
        | exc c fs => exact (nx_ios ρ js bs c fs e3).elim
        | ok ls =>
          rw [e3] at p
          by_cases cc : i ∉ js
          · have p : PostF G B H0 ((R.iff (decide (i ∉ js)) (R.ok (Fl.nx (putI (wipeS ρ js) i (.lst (ls.map .lst)))))).bind fun x => match x with
              | .nx ρ' => exSs T ss ρ'
              | f => .ok f) D W := p
            rw [decide_eq_true cc] at p
            have pF : PostF G B H0 (exSs T ss (putI (wipeS ρ js) i (.lst (ls.map .lst)))) D W := p
            have ex := adrsO_of e2
            subst ex
            obtain ⟨v, hv, a, vs, rfl, rd, nb, hr⟩ := r.getI e
            have ev := reps_adr_of hr
            subst ev
            obtain ⟨w1, w2⟩ := wipeS_few (ρ := ρ) js
            have r1 := r.fewer w1 w2
            have bl : ∀ b, Blk B (wipeS ρ js) σ b → Blk B ρ σ b := fun b z => by
              rcases z with z | ⟨k, s, d, q1, q2, q3⟩
              · exact .inl z
              · exact .inr ⟨k, s, d, (wipeN_get q1).2, q2, q3⟩
            have hi : i < (wipeS ρ js).length := by
              have hl := (List.getElem?_eq_some_iff.mp hv).1
              rw [w1, r.len]
              exact hl
            have f2 := iosO_of e3 (fun b l => rep G (Blk B (wipeS ρ js) σ) H (.lst l) (.ref b)) fun j b l hj q1 => by
              obtain ⟨a', rfl, q2, ⟨_, nB⟩, q3⟩ := r.own j _ (.lst l) q1 rfl
              obtain ⟨us, hA, hu⟩ := q3
              refine ⟨b, us, rfl, .inl hA, fun z => ?_, reps_anti bl hu⟩
              rcases z with z | ⟨k, s, d, z1, z2, z3⟩
              · exact nB z
              · obtain ⟨y1, y2⟩ := wipeN_get z1
                have := r.inj k j s _ d (.lst l) b y2 z2 q1 rfl z3 q2
                exact y1 (this ▸ hj)
            have r2 := r1.putI (i := i) (d := .lst (ls.map .lst)) (v := .ref a) hi ⟨a, bs.map V.ref, rfl, rd, fun z => nb (bl a z), reps_f2 f2⟩
            rw [set_same' hv] at r2
            exact h.k B H0 _ σ H D r2 pF
          · have p : PostF G B H0 ((R.iff (decide (i ∉ js)) (R.ok (Fl.nx (putI (wipeS ρ js) i (.lst (ls.map .lst)))))).bind fun x => match x with
              | .nx ρ' => exSs T ss ρ'
              | f => .ok f) D W := p
            rw [decide_eq_false cc] at p
            exact p.elim⟩
end
end Ir

/-! Ir15x: raise; try with one clause whose name is bound. -/
namespace Ir
open PySem L2 PyProof.Rows
section
variable {G : Gx} {M : Nms} {T : Tbl} {N : List Str} {sc : Scope} {lvl : Nat} {W : WX} {X : Cx}
theorem ss_never' {st : Stmt} {s : S} (h : ∀ ρ : Sl, exS T s ρ = .stuck) : SS G T X W st s tNever := ⟨ps_never, fun B H0 ρ σ H D r p => by
  rw [h] at p
  exact p.elim⟩
theorem ss_raise (F : Facts G M T lvl) (hcm : M.calm = true) (c : Cxs G M N sc lvl W X) {cn m : Str} {k : Nat} {p p2 p3 p4 : Pos} (hg : glB sc cn = true) (hn : okNm cn = true) :
    ∃ t, SS G T X W (.Raise (some (.Call (.Name cn p) [.Constant (.str m) k p2] [] p3)) none p4) (.raise cn) t := by
  cases hr : T.rs cn with
  | false =>
    refine ⟨_, ss_never' fun ρ => ?_⟩
    show R.iff (T.rs cn) _ = _
    rw [hr]
    rfl
  | true =>
    obtain ⟨C, B, newId, initId, bmB, h1, h2, h3, h4, h5, h6⟩ := F.xf.fr cn hr
    have g := c.toCxk.gx
    refine ⟨_, ps_raise (c.toCxk.calm hcm) c.toCxk.tk (pmk_own h2 (by rw [g.K]; exact h3) (by rw [g.mg]; exact h1) (by rw [g.K]; exact h4) (raises_own (by rw [g.K]; exact h5) (by rw [g.K]; exact h6)) (gl_of hg c.toCxk.sc) (okNm_of hn).1), fun B' H0 ρ σ H D r q => ?_⟩
    have q : PostF G B' H0 (R.iff (T.rs cn) (.exc cn [])) D W := q
    rw [hr] at q
    exact q (.ref C) none σ H r.same ⟨C, h1, rfl, .inl ⟨rfl, rfl⟩⟩
/-! ### try -/
/-- within a suite: an exception is being handled -/
def Nms.hot (M : Nms) : Nms := { M with calm := false, lam := none, key := none }
theorem Facts.hot (F : Facts G M T lvl) : Facts G M.hot T lvl := ⟨F.blt, F.fn, F.fnK, F.cst, F.cstx, F.mkc, F.mt, F.io, F.sub, F.subx, F.xf⟩
/-- a suite: names set -/
def isQs (M : Nms) (N : List Str) (sc : Scope) : Ss → List Stmt → Bool
  | .nil, [] => true
  | .cons (.asg i a) l, .Assign [.Name x _] v _ :: es => decide (N[i]? = some x) && locB sc x && noCmp v && isE M.hot N a sc v && isQs M N sc l es
  | _, _ => false
abbrev WF : WX := fun _ _ _ _ => False
theorem sound_Q (F : Facts G M T lvl) (c : Cxk G M.hot N sc lvl WF X) (fnt : ∀ x, X.fn x = true) : ∀ (q : Ss) {es : List Stmt}, isQs M N sc q es = true → ∃ ts, SSs G T X WF es q ts
  | .nil, es, h => by
    cases es with
    | nil => exact ⟨_, pss_nil, fun B H0 ρ σ H D r p => p σ H r⟩
    | cons e es => cases h
  | .cons s l, es, h => by
    unfold isQs at h
    split at h
    · rename_i e1 e2
      cases e2
    · rename_i i a l' x px v ps es' e1
      cases e1
      rw [Bool.and_eq_true, Bool.and_eq_true, Bool.and_eq_true, Bool.and_eq_true] at h
      obtain ⟨⟨⟨⟨h1, h2⟩, h3⟩, h4⟩, h5⟩ := h
      obtain ⟨⟨te, he⟩, _⟩ := sound_E F.hot a c h4
      obtain ⟨tl, hl⟩ := sound_Q F c fnt l h5
      have p1 : PS X (.Assign [.Name x px] v ps) (tAsg te (gName i)) := ps_set (by rw [c.hN]; exact c.nd) (by rw [c.hN]; exact of_decide_eq_true h1) (loc_of h2 c.sc) he.pe (noCmp_sw h3 _ _ _) (.inl (fnt x))
      have g1 : SS G T X WF (.Assign [.Name x px] v ps) (.asg i a) (tAsg te (gName i)) := ⟨p1, asg_k he⟩
      exact ⟨_, pss_cons p1 hl.ps, fun B H0 ρ σ H D r p => g1.k B H0 ρ σ H _ r (by
        have p : PostF G B H0 ((exS T (.asg i a) ρ).bind fun x => match x with
          | .nx ρ' => exSs T l ρ'
          | f => .ok f) D WF := p
        cases e : exS T (.asg i a) ρ with
        | stuck =>
          rw [e] at p
          exact p
        | exc cc fs =>
          rw [e] at p
          exact p
        | ok f =>
          rw [e] at p
          cases f with
          | nx ρ' => exact fun σ' H' r' => hl.k B H0 ρ' σ' H' D r' p
          | bk ρ' => exact p
          | ct ρ' => exact p
          | rt d => exact p)⟩
    · cases h
/-- what is wished of a body of one expression -/
def tbE (G : Gx) (r : Sl → R D) (W : WX) : TS := fun D σ H => ∃ B H0 ρ, RelS G B H0 ρ σ H ∧ PostG G (fun H => repT G (Blk B ρ σ) H) H (r ρ) (fun _ H1 => D.nx σ H1) (WE W σ)
def tsQ (G : Gx) (T : Tbl) (q : Ss) : TS := fun D σ H => ∃ B H0 ρ, RelS G B H0 ρ σ H ∧ PostF G B H0 (exSs T q ρ) D WF
theorem Cxk.tr (c : Cxk G M N sc lvl W X) {W' : WX} {pn : List (Addr × Obj)} {xe : Value → Shared → Prop} (tk : Takes (X.tr pn xe) W') : Cxk G M N sc lvl W' (X.tr pn xe) :=
  ⟨⟨c.gx.prog, c.gx.w, c.gx.K, c.gx.mg, c.gx.base⟩, c.nd, c.hN, c.sc, c.calm, c.room, c.un, tk, c.rk, c.lam⟩
theorem Cxk.su (c : Cxk G M N sc lvl W X) (a : Addr) (pn : List (Addr × Obj)) : Cxk G M.hot N sc lvl WF (X.suite a pn) :=
  ⟨⟨c.gx.prog, c.gx.w, c.gx.K, c.gx.mg, c.gx.base⟩, c.nd, c.hN, c.sc, (fun z => nomatch z), (fun z => nomatch z), c.un, (fun _ _ ⟨_, _, _, _, _, _, _, _, _, _, _, _, _, _, _, _, w⟩ => w), (fun z => nomatch z), (fun z => nomatch z)⟩
/-- of any body -/
theorem ss_try (F : Facts G M T lvl) (c : Cxs G M N sc lvl W X) {x n : Str} {i : Nat} {bd rest : List Stmt} {q0 : Stmt} {q : Ss} {r : Sl → R D} {ir : S} {p1 p2 p3 : Pos} (hi : N[i]? = some n) (hl : sc.names.lookup n = some .local) (hg : glB sc x = true) (hn : okNm x = true)
    (hb : ∀ (W' : WX) (pn : List (Addr × Obj)) (xe : Value → Shared → Prop), Takes (X.tr pn xe) W' → PSs (X.tr pn xe) bd (tbE G r W')) (hq : isQs M N sc q (q0 :: rest) = true)
    (hir : ∀ ρ, exS T ir ρ = .iff (decide (i < ρ.length)) ((T.exm x x).nox.bind fun t => .iff t (tryR T.exm x (r ρ) ρ fun c => (exSs T q (putI ρ i (.exc c))).nox.bind (goneF i)))) :
    ∃ t, SS G T X W (.Try bd [.ExceptHandler (some (.Name x p1)) (some n) (q0 :: rest) p2] [] [] p3) ir t := by
  have k := c.toCxk
  by_cases hx : T.exm x x = .ok true
  · obtain ⟨_, U, _, hU, _⟩ := F.xf.fe x x true hx
    refine ⟨_, ps_tryK (c := .ref U) (i := i) c.stk c.frm c.exn (by rw [k.hN]; exact k.nd) (by rw [k.hN]; exact hi) (by
      show X.env.scope.names.lookup n = some .local
      rw [k.sc]
      exact hl) ⟨gl_of hg k.sc, (okNm_of hn).1, .inl (by rw [k.gx.mg]; exact hU)⟩ k.tk (fun W' pn xe tk _ => hb W' pn xe tk) (ts := tsQ G T q) (fun a pn => ?_), fun B H0 ρ σ H D rl p => ?_⟩
    · obtain ⟨ts, hs⟩ := sound_Q F (k.su a pn) c.fnt q hq
      exact ⟨fun pins s σ H D I ⟨B, H0, ρ, rl, p⟩ => hs.ps.run pins s σ H D I (hs.k B H0 ρ σ H D rl p)⟩
    · rw [hir, hx] at p
      obtain ⟨hil, p⟩ := PostF.iff p
      have hil := of_decide_eq_true hil
      have p : PostF G B H0 (tryR T.exm x (r ρ) ρ fun c => (exSs T q (putI ρ i (.exc c))).nox.bind (goneF i)) D W := p
      refine ⟨B, H0, ρ, rl, ?_⟩
      cases e : r ρ with
      | stuck =>
        rw [e] at p
        exact p.elim
      | ok d =>
        rw [e] at p
        exact fun v H1 s1 _ => p σ H1 (rl.mono s1)
      | exc cc fs =>
        rw [e] at p
        cases fs with
        | cons f fs => exact p.elim
        | nil =>
          have p : PostF G B H0 ((T.exm cc x).nox.bind fun b => match b with
            | true => (exSs T q (putI ρ i (.exc cc))).nox.bind (goneF i)
            | false => .exc cc []) D W := p
          cases e2 : T.exm cc x with
          | stuck =>
            rw [e2] at p
            exact p.elim
          | exc c2 f2 =>
            rw [e2] at p
            exact p.elim
          | ok b =>
            rw [e2] at p
            obtain ⟨C, U', hC, hU', hk⟩ := F.xf.fe cc x b e2
            rw [hU] at hU'
            cases hU'
            intro cls d H1 s1 y
            obtain ⟨C', hC', rfl, y⟩ := y
            rw [hC] at hC'
            cases hC'
            have hd : d = none := by
              rcases y with ⟨_, y⟩ | ⟨_, _, _, _, y, _⟩
              · exact y
              · exact absurd rfl y
            subst hd
            refine ⟨b, by rw [k.gx.K]; exact hk, fun hb1 a na => ?_, fun hb0 => ?_⟩
            · subst hb1
              have p : PostF G B H0 ((exSs T q (putI ρ i (.exc cc))).nox.bind (goneF i)) D W := p
              have r1 := rl.mono (s1.trans (Same.upd_new (o := excO a (.ref C) none) na))
              have nb : ¬ Blk B ρ σ a := fun z => (rl.mono s1).bdom.new na z
              have r2 := r1.putI (i := i) (d := .exc cc) (v := .ref a) hil ⟨a, C, rfl, hC, upd_same, nb⟩
              refine ⟨B, H0, _, r2, ?_⟩
              cases e3 : exSs T q (putI ρ i (.exc cc)) with
              | stuck =>
                rw [e3] at p
                exact p.elim
              | exc c3 f3 =>
                rw [e3] at p
                exact p.elim
              | ok f =>
                rw [e3] at p
                cases f with
                | nx ρ' => exact fun σ' H' r' => p _ H' (r'.del i)
                | rt d => exact p
                | bk ρ' => exact p.elim
                | ct ρ' => exact p.elim
            · subst hb0
              have p : PostF G B H0 (.exc cc []) D W := p
              exact p _ _ σ H1 (rl.same.trans s1) ⟨C, hC, rfl, .inl ⟨rfl, rfl⟩⟩
  · refine ⟨_, ss_never' fun ρ => ?_⟩
    rw [hir]
    cases decide (i < ρ.length) with
    | false => rfl
    | true =>
      cases e : T.exm x x with
      | stuck => rfl
      | exc c2 f2 => rfl
      | ok b =>
        cases b with
        | true => exact (hx e).elim
        | false => rfl
/-- try: one expression -/
theorem ss_tryE (F : Facts G M T lvl) (c : Cxs G M N sc lvl W X) {x n : Str} {i : Nat} {be : Expr} {b : E} {rest : List Stmt} {q0 : Stmt} {q : Ss} {p0 p1 p2 p3 : Pos} (hi : N[i]? = some n) (hl : sc.names.lookup n = some .local) (hg : glB sc x = true) (hn : okNm x = true)
    (nc : noCmp be = true) (hb : isE M N b sc be = true) (hq : isQs M N sc q (q0 :: rest) = true) :
    ∃ t, SS G T X W (.Try [.Expr be p0] [.ExceptHandler (some (.Name x p1)) (some n) (q0 :: rest) p2] [] [] p3) (.tryE b x i q) t :=
  ss_try F c (r := fun ρ => evP T b ρ) hi hl hg hn (fun W' pn xe tk => by
    obtain ⟨⟨te, he⟩, _⟩ := sound_E F b (c.toCxk.tr tk) hb
    exact ⟨fun pins s σ H D I ⟨B, H0, ρ, rl, p⟩ => (pss_cons (ps_expr he.pe (noCmp_sw nc _ _ _)) pss_nil).run pins s σ H D I (he.pk B H0 ρ σ H _ rl p)⟩) hq fun ρ => rfl
/-- an if, each branch one expression -/
theorem ss_tryI (F : Facts G M T lvl) (c : Cxs G M N sc lvl W X) {x n : Str} {i : Nat} {ce ae be : Expr} {cc a b : E} {rest : List Stmt} {q0 : Stmt} {q : Ss} {p0 p1 p2 p3 p4 p5 : Pos} (hi : N[i]? = some n) (hl : sc.names.lookup n = some .local) (hg : glB sc x = true) (hn : okNm x = true)
    (nca : noCmp ae = true) (ncb : noCmp be = true) (hc : isE M N cc sc ce = true) (ha : isE M N a sc ae = true) (hb : isE M N b sc be = true) (hq : isQs M N sc q (q0 :: rest) = true) :
    ∃ t, SS G T X W (.Try [.If ce [.Expr ae p4] [.Expr be p5] p0] [.ExceptHandler (some (.Name x p1)) (some n) (q0 :: rest) p2] [] [] p3) (.tryI cc a b x i q) t :=
  ss_try F c (r := fun ρ => (evT T cc ρ).bind fun t => match t with
      | true => evP T a ρ
      | false => evP T b ρ) hi hl hg hn (fun W' pn xe tk => by
    obtain ⟨_, tc, hc'⟩ := sound_E F cc (c.toCxk.tr tk) hc
    obtain ⟨⟨ta, ha'⟩, _⟩ := sound_E F a (c.toCxk.tr tk) ha
    obtain ⟨⟨tb, hb'⟩, _⟩ := sound_E F b (c.toCxk.tr tk) hb
    have pi := ps_if (pos := p0) hc'.pt (pss_cons (ps_expr (pos := p4) ha'.pe (noCmp_sw nca _ _ _)) pss_nil) (pss_cons (ps_expr (pos := p5) hb'.pe (noCmp_sw ncb _ _ _)) pss_nil)
    exact ⟨fun pins s σ H D I ⟨B, H0, ρ, rl, p⟩ => (pss_cons pi pss_nil).run pins s σ H D I (hc'.tr B H0 ρ σ H _ rl (PostR.bnd p fun d v H1 s1 h p1 => by
      subst h
      cases d with
      | true => exact ha'.pk B H0 ρ σ H1 _ (rl.mono s1) p1
      | false => exact hb'.pk B H0 ρ σ H1 _ (rl.mono s1) p1))⟩) hq fun ρ => rfl
end
end Ir

/-! Ir15: branches, loops, blocks; every statement. -/
namespace Ir
open PySem L2 PyProof.Rows
section
variable {G : Gx} {M : Nms} {T : Tbl} {N : List Str} {sc : Scope} {lvl : Nat} {W : WX} {X : Cx}
variable {e v : Expr} {a b : E} {ta : TE} {pos py ap cp : Pos} {x : Str} {i : Nat} {st : Stmt} {sts sts2 : List Stmt} {ss ss2 : Ss} {ts : TS} {tss tss2 : TS}
theorem sss_nil : SSs G T X W [] .nil tNext := ⟨pss_nil, fun B H0 ρ σ H D r p => p σ H r⟩
theorem sss_cons {s : S} (h1 : SS G T X W st s ts) (h2 : SSs G T X W sts ss tss) : SSs G T X W (st :: sts) (.cons s ss) (tSeq ts tss) :=
  ⟨pss_cons h1.ps h2.ps, fun B H0 ρ σ H D r p => h1.k B H0 ρ σ H _ r (by
    have p : PostF G B H0 ((exS T s ρ).bind fun x => match x with
      | .nx ρ' => exSs T ss ρ'
      | f => .ok f) D W := p
    cases e : exS T s ρ with
    | stuck =>
      rw [e] at p
      exact p
    | exc c fs =>
      rw [e] at p
      exact p
    | ok f =>
      rw [e] at p
      cases f with
      | nx ρ' => exact fun σ' H' r' => h2.k B H0 ρ' σ' H' D r' p
      | bk ρ' => exact p
      | ct ρ' => exact p
      | rt d => exact p)⟩
theorem sss_frz {i : Nat} (h : SSs G T X W sts ss tss) : SSs G T X W sts (.cons (.frz i) ss) tss :=
  ⟨h.ps, fun B H0 ρ σ H D r p => by
    have p : PostF G B H0 (((getOwn ρ i).bind fun d => R.ok (Fl.nx (putI ρ i d))).bind fun x => match x with
      | .nx ρ' => exSs T ss ρ'
      | f => .ok f) D W := p
    cases e : getOwn ρ i with
    | stuck =>
      rw [e] at p
      exact p.elim
    | exc c fs => exact (getOwn_noexc e).elim
    | ok d =>
      rw [e] at p
      exact h.k B H0 _ σ H D (r.frz (getOwn_of e)) p⟩
theorem ss_nev : SS G T X W st .nev tNever := ⟨ps_never, fun B H0 ρ σ H D r p => p.elim⟩
theorem ss_ife {c : Expr} {ce : E} {tc : TT} (hc : STt G T X W c ce tc) (h1 : SSs G T X W sts ss tss) (h2 : SSs G T X W sts2 ss2 tss2) : SS G T X W (.If c sts sts2 pos) (.ife ce ss ss2) (tIfS tc tss tss2) :=
  ⟨ps_if hc.pt h1.ps h2.ps, fun B H0 ρ σ H D r p => hc.tr B H0 ρ σ H _ r (PostF.bnd r p fun d v H1 s1 h p1 => by
    subst h
    cases d with
    | true => exact h1.k B H0 ρ σ H1 D (r.mono s1) p1
    | false => exact h2.k B H0 ρ σ H1 D (r.mono s1) p1)⟩
theorem for_core {J : It} {ds : List D} {t : Tg} {B : Addr → Prop} {H0 H1 : Hp} {ρ : Sl} {σ : L2.St} {D : Ends} (hb : SSs G T X W sts ss tss) (r1 : RelS G B H0 ρ σ H1) (wk : ∀ Hm, Keep (Blk B ρ σ) H1 Hm → Walks G (Blk B ρ σ) Hm J ds)
    (p1 : PostF G B H0 (forL (mask ρ) (fun d ρ' => (asgTg t d ρ').bind fun ρ2 => exSs T ss ρ2) ds ρ) D W) :
    ∃ W : Nat → Nat → L2.St → Hp → Prop, (∃ m, W 0 m σ H1) ∧ ∀ i m σ H, W i m σ H →
  (J.stop i H ∧ D.nx σ H) ∨ (J.go i H ∧ ∃ N : L2.St → Hp → Prop, (∀ σ' H', N σ' H' → ∃ m', m' < m ∧ W (i + 1) m' σ' H') ∧ ∀ x H', J.yld i H x H' → gSem G t x σ H' fun σ2 H2 => tss { D with nx := N, ct := N, bk := D.nx } σ2 H2) := by
  have p2 := p1.re (gnd_s r1) fun _ _ _ => r1.down
  have ru := r1.up
  generalize hg : gnd B ρ σ H0 H1 = g0 at p2 ru
  refine ⟨fun i m σ3 H3 => m = ds.length - i ∧ i ≤ ds.length ∧ ∃ ρ3, RelS G B g0 ρ3 σ3 H3 ∧ PostF G B g0 (forL (mask ρ) (fun d ρ' => (asgTg t d ρ').bind fun ρ2 => exSs T ss ρ2) (ds.drop i) ρ3) D W, ⟨_, rfl, Nat.zero_le _, ρ, ru, p2⟩, ?_⟩
  rintro i m σ3 H3 ⟨rfl, hi', ρ3, r3, p3⟩
  obtain ⟨w1, w2⟩ := walks_on r1 wk (hg ▸ r3)
  by_cases hlt : i < ds.length
  · obtain ⟨go, yl⟩ := w1 i hlt
    refine .inr ⟨go, fun σ' H' => ∃ ρ4, RelS G B g0 ρ4 σ' H' ∧ PostF G B g0 (forL (mask ρ) (fun d ρ' => (asgTg t d ρ').bind fun ρ2 => exSs T ss ρ2) (ds.drop (i + 1)) ρ4) D W, fun σ' H' z => ⟨ds.length - (i + 1), by omega, rfl, hlt, z⟩, fun x H' y => ?_⟩
    obtain ⟨s4, d, ed, hd⟩ := yl x H' y
    rw [List.drop_eq_getElem_cons hlt] at p3
    have e0 : ds[i] = d := by
      rw [List.getElem?_eq_getElem hlt] at ed
      exact Option.some.inj ed
    rw [e0] at p3
    have p3 : PostF G B g0 (((asgTg t d ρ3).bind fun ρ2 => exSs T ss ρ2).bind fun x => match x with
      | .nx ρ' => forL (mask ρ) (fun d ρ' => (asgTg t d ρ').bind fun ρ2 => exSs T ss ρ2) (ds.drop (i + 1)) (mask ρ ρ')
      | .ct ρ' => forL (mask ρ) (fun d ρ' => (asgTg t d ρ').bind fun ρ2 => exSs T ss ρ2) (ds.drop (i + 1)) (mask ρ ρ')
      | .bk ρ' => .ok (.nx (mask ρ ρ'))
      | .rt d => .ok (.rt d)) D W := p3
    cases e2 : asgTg t d ρ3 with
    | stuck =>
      rw [e2] at p3
      exact p3.elim
    | exc c fs => exact (nx_asgTg t d ρ3 c fs e2).elim
    | ok ρ2 =>
      rw [e2] at p3
      refine ⟨B, g0, ρ3, d, r3.mono s4, hd, ρ2, e2, fun σ2 r2 _ _ _ => hb.k B g0 ρ2 σ2 H' _ r2 ?_⟩
      have p3 : PostF G B g0 ((exSs T ss ρ2).bind fun x => match x with
        | .nx ρ' => forL (mask ρ) (fun d ρ' => (asgTg t d ρ').bind fun ρ2 => exSs T ss ρ2) (ds.drop (i + 1)) (mask ρ ρ')
        | .ct ρ' => forL (mask ρ) (fun d ρ' => (asgTg t d ρ').bind fun ρ2 => exSs T ss ρ2) (ds.drop (i + 1)) (mask ρ ρ')
        | .bk ρ' => .ok (.nx (mask ρ ρ'))
        | .rt d => .ok (.rt d)) D W := p3
      cases e3 : exSs T ss ρ2 with
      | stuck =>
        rw [e3] at p3
        exact p3
      | exc c fs =>
        rw [e3] at p3
        exact p3
      | ok f =>
        rw [e3] at p3
        cases f with
        | nx ρ' => exact fun σ' H' r' => ⟨_, r'.mask, p3⟩
        | ct ρ' => exact fun σ' H' r' => ⟨_, r'.mask, p3⟩
        | bk ρ' => exact fun σ' H' r' => p3 σ' H' r'.mask
        | rt d => exact p3
  · have e : i = ds.length := by omega
    subst e
    rw [List.drop_length] at p3
    exact .inl ⟨w2, p3 σ3 H3 r3⟩
theorem ss_for (c : Cxs G M N sc lvl W X) (hcm : M.calm = true) {tg iter : Expr} {it : Wk} {t : Tg} {wi : TI} (hi : SI G T X W tg iter it wi) (pg : PG X tg (gSem G t)) (ns : noSet iter = true) (hb : SSs G T X W sts ss tss) : SS G T X W (.For tg iter sts [] pos) (.for_ t it ss) (tFor wi (gSem G t) tss) := by
  refine ⟨ps_for c.po (c.toCxk.calm hcm) hi.pi pg hb.ps (noSet_fold ns X.env), fun B H0 ρ σ H D r p => ?_⟩
  refine hi.im B H0 ρ σ H _ r (PostF.bnd r p fun ds J H1 s1 wk p1 => ?_)
  exact for_core hb (r.mono s1) wk p1
/-! ### for k in d, for k, v in d.items() -/
theorem frz_post {B : Addr → Prop} {H0 H : Hp} {ρ : Sl} {σ : L2.St} {D : Ends} {d : Addr} {u : HO} {od : Obj} {x : R Fl} (r : RelS G B H0 ρ σ H) (e : H d = some u) (m : MutL (some u)) (nb : ¬ Blk B ρ σ d) (p : PostF G B H0 x.nox D W) :
    PostF G B (upd (gnd B ρ σ H0 H) d (.frz od u)) x ⟨fun σ' H' => H' d = some (.frz od u) ∧ D.nx σ' (upd H' d u), fun v H' => H' d = some (.frz od u) ∧ D.rt v (upd H' d u), fun σ' H' => H' d = some (.frz od u) ∧ D.bk σ' (upd H' d u), fun σ' H' => H' d = some (.frz od u) ∧ D.ct σ' (upd H' d u)⟩ W := by
  have e0 : gnd B ρ σ H0 H d = some u := by rw [gnd_out nb, e]
  have nB : ¬ B d := fun z => nb (.inl z)
  cases x with
  | stuck => exact p.elim
  | exc c fs => exact p.elim
  | ok f =>
    cases f with
    | nx ρ' =>
      intro σ' H' z
      obtain ⟨q, z2⟩ := z.unlock e0 m nB
      exact ⟨q, p σ' _ (r.down z2)⟩
    | bk ρ' =>
      intro σ' H' z
      obtain ⟨q, z2⟩ := z.unlock e0 m nB
      exact ⟨q, p σ' _ (r.down z2)⟩
    | ct ρ' =>
      intro σ' H' z
      obtain ⟨q, z2⟩ := z.unlock e0 m nB
      exact ⟨q, p σ' _ (r.down z2)⟩
    | rt v =>
      intro v H' s z
      obtain ⟨q, s2⟩ := s.unlock e0 m
      exact ⟨q, p v _ ((gnd_s r).trans s2) (rep_rds (unlock_rds q m) z)⟩
theorem nox_post {B : Addr → Prop} {H0 : Hp} {D : Ends} {x : R Fl} (p : PostF G B H0 x.nox D W) : PostF G B H0 x D W := by
  cases x with
  | exc c fs => exact p.elim
  | _ => exact p
theorem ps_or {st : Stmt} {t t' : TS} (h : PS X st t) (h' : PS X st t') : PS X st fun D σ H => t D σ H ∨ t' D σ H := ⟨fun pins s σ H D I z => z.elim (fun z => h.run pins s σ H D I z) fun z => h'.run pins s σ H D I z⟩
theorem ss_forD (c : Cxs G M N sc lvl W X) (hcm : M.calm = true) {tg iter : Expr} {m : Bool} {t : Tg} {wi : TI} (hi : PI X tg iter wi) (pg : PG X tg (gSem G t)) (ns : noSet iter = true) (hb : SSs G T X W sts ss tss)
    (hw : ∀ (B : Addr → Prop) (σ : L2.St) (H : Hp) (R : It → Hp → Prop) (a : Addr) (od : Obj) (tt : Nat) (ks vs : List D) (ws : List V), σ[i]? = some (some (.ref a)) → reps G B H vs ws → ¬ B a →
      ((∃ kvs : List (Key × V), H a = some (.frz od (.dK kvs)) ∧ ks = kvs.map (fun p => keyD p.1) ∧ ws = kvs.map (·.2)) ∨ ∃ kvs : List (List Key × V), H a = some (.frz od (.dT kvs)) ∧ ks = kvs.map (fun p => Ir.D.tup (p.1.map keyD)) ∧ ws = kvs.map (·.2)) →
      (∀ J, (∀ Hm, Keep B H Hm → Walks G B Hm J (dctL m ks vs)) → R J H) → wi σ H R) :
    SS G T X W (.For tg iter sts [] pos) (.forD m t i ss) (fun D σ H => tFor wi (gSem G t) tss D σ H ∨ tLock (tFor wi (gSem G t) tss) D σ H) := by
  have pf := ps_for (pos := pos) c.po (c.toCxk.calm hcm) hi pg hb.ps (noSet_fold ns X.env)
  refine ⟨ps_or pf (ps_lock pf), fun B H0 ρ σ H D r p => ?_⟩
  have p : PostF G B H0 ((getI ρ i).bind fun d => match d with
    | .dct k ks vs => .iff (decide (k ≠ 2)) (forL (mask ρ) (fun d ρ' => (asgTg t d ρ').bind fun ρ2 => exSs T ss ρ2) (dctL m ks vs) ρ).nox
    | _ => .stuck) D W := p
  obtain ⟨dx, e1, p⟩ := PostF.pure (fun _ _ => getI_noexc) p
  obtain ⟨v, e2, rp⟩ := r.getI e1
  cases dx with
  | dct tt ks vs =>
    obtain ⟨n2, p⟩ := PostF.iff (b := decide (tt ≠ 2)) p
    obtain ⟨a, ws, rfl, q, nb, rv⟩ := rp
    have go : ∀ od, ((∃ kvs : List (Key × V), H a = some (.frz od (.dK kvs)) ∧ ks = kvs.map (fun p => keyD p.1) ∧ ws = kvs.map (·.2)) ∨ ∃ kvs : List (List Key × V), H a = some (.frz od (.dT kvs)) ∧ ks = kvs.map (fun p => Ir.D.tup (p.1.map keyD)) ∧ ws = kvs.map (·.2)) → tFor wi (gSem G t) tss D σ H := fun od z =>
      hw (Blk B ρ σ) σ H _ a od tt ks vs ws e2 rv nb z fun J wk => for_core hb r wk (nox_post p)
    have lk : ∀ u, H a = some u → MutL (some u) → Mut (some u) → (∀ od, ((∃ kvs : List (Key × V), some (HO.frz od u) = some (.frz od (.dK kvs)) ∧ ks = kvs.map (fun p => keyD p.1) ∧ ws = kvs.map (·.2)) ∨ ∃ kvs : List (List Key × V), some (HO.frz od u) = some (.frz od (.dT kvs)) ∧ ks = kvs.map (fun p => Ir.D.tup (p.1.map keyD)) ∧ ws = kvs.map (·.2))) → tLock (tFor wi (gSem G t) tss) D σ H := fun u e ml mu z => by
      refine ⟨a, u, e, mu, fun od => ?_⟩
      have e0 : gnd B ρ σ H0 H a = some u := by rw [gnd_out nb, e]
      have rl := r.up.lock (od := od) e0 ml fun z => nb (.inl z)
      refine hw (Blk B ρ σ) σ (upd H a (.frz od u)) _ a od tt ks vs ws e2 (reps_rds (lock_rds e ml) rv) nb ?_ fun J wk => for_core hb rl wk (frz_post r e ml nb p)
      rw [upd_same]
      exact z od
    rcases q with ⟨kvs, _, q, e3, e4⟩ | ⟨kvs, _, q, e3, e4⟩ | ⟨rfl, _⟩
    · rcases q with q | ⟨od, q⟩
      · exact .inr (lk _ q trivial trivial fun od => .inl ⟨kvs, rfl, e3, e4⟩)
      · exact .inl (go od (.inl ⟨kvs, q, e3, e4⟩))
    · rcases q with q | ⟨od, q⟩
      · exact .inr (lk _ q trivial trivial fun od => .inr ⟨kvs, rfl, e3, e4⟩)
      · exact .inl (go od (.inr ⟨kvs, q, e3, e4⟩))
    · exact absurd n2 (by decide)
  | _ => exact p.elim
theorem ss_forK (c : Cxs G M N sc lvl W X) (hcm : M.calm = true) {tg : Expr} {t : Tg} {p0 : Pos} (hi : N[i]? = some x) (hl : locB sc x = true) (hn : okNm x = true) (pg : PG X tg (gSem G t)) (hb : SSs G T X W sts ss tss) :
    ∃ ts, SS G T X W (.For tg (.Name x p0) sts [] pos) (.forD false t i ss) ts := by
  refine ⟨_, ss_forD c hcm (pi_keys (pe_nm c hi hl hn)) pg rfl hb fun B σ H R a od tt ks vs ws e2 rv nb z k => ⟨.ref a, e2, a, od, rfl, ?_⟩⟩
  rcases z with ⟨kvs, q, rfl, e4⟩ | ⟨kvs, q, rfl, e4⟩
  · exact .inl ⟨kvs, q, k _ fun Hm kp => walks_keys (kp a _ q nb fun ps z => by cases z)⟩
  · exact .inr ⟨kvs, q, k _ fun Hm kp => walks_keysT (kp a _ q nb fun ps z => by cases z)⟩
theorem ss_forI (c : Cxs G M N sc lvl W X) (hcm : M.calm = true) {elts : List Expr} {kk : Nat} {tp : Pos} {t : Tg} {p0 : Pos} (hi : N[i]? = some x) (hl : locB sc x = true) (hn : okNm x = true) (hline : (ap.endLine == cp.line) = true) (pg : PG X (.Tuple elts kk tp) (gSem G t)) (hb : SSs G T X W sts ss tss) :
    ∃ ts, SS G T X W (.For (.Tuple elts kk tp) (.Call (.Attribute (.Name x p0) "items" ap) [] [] cp) sts [] pos) (.forD true t i ss) ts := by
  refine ⟨_, ss_forD c hcm (pi_items2 (pe_nm c hi hl hn) rfl hline) pg rfl hb fun B σ H R a od tt ks vs ws e2 rv nb z k => ⟨.ref a, e2, a, od, rfl, ?_⟩⟩
  rcases z with ⟨kvs, q, rfl, rfl⟩ | ⟨kvs, q, rfl, rfl⟩
  · exact .inl ⟨kvs, q, k _ fun Hm kp => walks_items (kp a _ q nb fun ps z => by cases z) (reps_keep kp (fun _ _ _ h => h) rv)⟩
  · exact .inr ⟨kvs, q, k _ fun Hm kp => walks_itemsT (kp a _ q nb fun ps z => by cases z) (reps_keep kp (fun _ _ _ h => h) rv)⟩
theorem ss_whl (c : Cxs G M N sc lvl W X) {ct : Expr} {ce : E} {tc : TT} (hc : STt G T X W ct ce tc) (hb : SSs G T X W sts ss tss) : SS G T X W (.While ct sts [] pos) (.whl ce ss) (tWhile tc tss) := by
  refine ⟨ps_while c.po hc.pt hb.ps, fun B H0 ρ σ H D r p => ?_⟩
  refine ⟨fun m σ3 H3 => ∃ ρ3, RelS G B H0 ρ3 σ3 H3 ∧ PostF G B H0 (whlL (mask ρ) (fun ρ' => evT T ce ρ') (fun ρ' => exSs T ss ρ') m ρ3) D W, ⟨T.fuel, ρ, r, p⟩, ?_⟩
  rintro m σ3 H3 ⟨ρ3, r3, p3⟩
  cases m with
  | zero => exact p3.elim
  | succ m =>
    have p3 : PostF G B H0 ((evT T ce ρ3).bind fun b => match b with
      | false => .ok (.nx ρ3)
      | true => (exSs T ss ρ3).bind fun x => match x with
        | .nx ρ' => whlL (mask ρ) (fun ρ' => evT T ce ρ') (fun ρ' => exSs T ss ρ') m (mask ρ ρ')
        | .ct ρ' => whlL (mask ρ) (fun ρ' => evT T ce ρ') (fun ρ' => exSs T ss ρ') m (mask ρ ρ')
        | .bk ρ' => .ok (.nx (mask ρ ρ'))
        | .rt d => .ok (.rt d)) D W := p3
    refine hc.tr B H0 ρ3 σ3 H3 _ r3 (PostF.bnd r3 p3 fun d v H1 s1 h p4 => ?_)
    subst h
    cases d with
    | false => exact p4 σ3 H1 (r3.mono s1)
    | true =>
      show ∃ N : L2.St → Hp → Prop, _
      refine ⟨fun σ' H' => ∃ ρ4, RelS G B H0 ρ4 σ' H' ∧ PostF G B H0 (whlL (mask ρ) (fun ρ' => evT T ce ρ') (fun ρ' => exSs T ss ρ') m ρ4) D W, fun σ' H' z => ⟨m, Nat.lt_succ_self m, z⟩, hb.k B H0 ρ3 σ3 H1 _ (r3.mono s1) ?_⟩
      have p4 : PostF G B H0 ((exSs T ss ρ3).bind fun x => match x with
        | .nx ρ' => whlL (mask ρ) (fun ρ' => evT T ce ρ') (fun ρ' => exSs T ss ρ') m (mask ρ ρ')
        | .ct ρ' => whlL (mask ρ) (fun ρ' => evT T ce ρ') (fun ρ' => exSs T ss ρ') m (mask ρ ρ')
        | .bk ρ' => .ok (.nx (mask ρ ρ'))
        | .rt d => .ok (.rt d)) D W := p4
      cases e3 : exSs T ss ρ3 with
      | stuck =>
        rw [e3] at p4
        exact p4
      | exc c fs =>
        rw [e3] at p4
        exact p4
      | ok f =>
        rw [e3] at p4
        cases f with
        | nx ρ' => exact fun σ' H' r' => ⟨_, r'.mask, p4⟩
        | ct ρ' => exact fun σ' H' r' => ⟨_, r'.mask, p4⟩
        | bk ρ' => exact fun σ' H' r' => p4 σ' H' r'.mask
        | rt d => exact p4
/-! ### a def that writes to its last argument is called -/
section
variable (M : Nms)
def isLio (N : List Str) : Es → Nat → Scope → List Expr → Bool
  | .nil, i, sc, es => match es with
    | [.Name y _] => decide (N[i]? = some y) && locB sc y && okNm y
    | _ => false
  | .cons a l, i, sc, es => match es with
    | e :: es => noSt e && isE M N a sc e && isLio N l i sc es
    | [] => false
end
structure SLio (G : Gx) (T : Tbl) (X : Cx) (W : WX) (es : List Expr) (l : Es) (i : Nat) (t : TA) : Prop where
  pa : PA X es t
  im : ∀ B H0 ρ σ H Q, RelS G B H0 ρ σ H → PostR G (fun H => reps G (Blk B ρ σ) H) H (evL T l ρ) (fun vs H1 => ∃ a, σ[i]? = some (some (V.ref a)) ∧ Q (vs ++ [.ref a]) H1) (WE W σ) → t σ H Q
  stars : ∀ e es', es = e :: es' → starEach (e :: es') X.env = (false, eval e X.env) :: starEach es' X.env
  plain : ∀ pos, (backTo pos (starEach es X.env)).any (·.1) = false
  len : ∀ ρ ds, evL T l ρ = .ok ds → ds.length + 1 = es.length
theorem sound_Lio (F : Facts G M T lvl) (c : Cxs G M N sc lvl W X) : ∀ (l : Es) {es : List Expr}, isLio M N l i sc es = true → ∃ t, SLio G T X W es l i t
  | .nil, es, h => by
    unfold isLio at h
    split at h
    · rename_i y p
      obtain ⟨h, h3⟩ := bang h
      obtain ⟨h1, h2⟩ := bang h
      refine ⟨tCons (tVar i) tNil, pa_cons (pe_nm c (of_decide_eq_true h1) h2 h3) pa_nil, fun B H0 ρ σ H Q r p => ?_, fun e es' z => (by cases z; rfl), fun pos => rfl, fun ρ ds e => (by cases e; rfl)⟩
      obtain ⟨a, e1, q⟩ := PostR.at_ (v := ([] : List V)) p rfl
      exact ⟨.ref a, e1, q⟩
    · cases h
  | .cons a l, es, h => by
    unfold isLio at h
    split at h
    · rename_i e es
      obtain ⟨h, h3⟩ := bang h
      obtain ⟨h1, h2⟩ := bang h
      obtain ⟨⟨ta, ha⟩, _⟩ := sound_E F a c.toCxk h2
      obtain ⟨tl, hl⟩ := sound_Lio F c l h3
      refine ⟨tCons ta tl, pa_cons ha.pe hl.pa (noSt_is h1 es X.env), fun B H0 ρ σ H Q r p => ?_, fun e' es' z => ?_, fun pos => ?_, fun ρ ds e => ?_⟩
      · refine ha.im B H0 ρ σ H _ r (PostR.bnd p fun dx vx H1 s1 g1 p1 => hl.im B H0 ρ σ H1 _ (r.mono s1) (PostR.bnd p1 fun ds vs H2 s2 g2 p2 => ?_))
        obtain ⟨b, e1, q⟩ := PostR.at_ (v := vx :: vs) p2 ⟨vx, vs, rfl, rep_same s2 g1, g2⟩
        exact ⟨b, e1, q⟩
      · cases z
        exact noSt_is h1 es X.env
      · have z := hl.plain pos
        rw [backTo_any] at z ⊢
        rw [noSt_is h1 es X.env, List.any_cons, z]
        rfl
      · have e : ((imO a ρ (evP T a ρ)).bind fun x => (evL T l ρ).bind fun xs => .ok (x :: xs)) = .ok ds := e
        obtain ⟨v, _, e⟩ := bind_ok_inv e
        obtain ⟨vs, e2, e⟩ := bind_ok_inv e
        cases e
        rw [List.length_cons, List.length_cons, hl.len ρ vs e2]
    · cases h
theorem ss_callio (F : Facts G M T lvl) (hcm : M.calm = true) (c : Cxs G M N sc lvl W X) {f : Nat} {e : Expr} {es : List Expr} {l : Es} {t : TA} {p0 : Pos} (h1 : M.fn.lookup f = some x) (h0 : (f, (e :: es).length - 1) ∈ M.io) (hg : glB sc x = true) (hn : okNm x = true) (hl : SLio G T X W (e :: es) l i t) :
    ∃ ts, SS G T X W (.Expr (.Call (.Name x p0) (e :: es) [] cp) pos) (.callio f l i) ts := by
  obtain ⟨ad, k, fd, ps, sp, hk, ok, hm, kp, bi, pr⟩ := F.io f x _ h1 h0
  have cx := c.toCxk
  rw [← cx.gx.prog, ← cx.gx.w, ← cx.gx.K, ← cx.gx.mg, ← cx.gx.base] at ok
  rw [← cx.gx.K] at bi kp
  rw [← cx.gx.mg] at hm
  have hpl : (backTo cp (starEach es X.env)).any (·.1) = false := by
    have h := hl.plain cp
    rw [backTo_any] at h ⊢
    rw [hl.stars e es rfl, List.any_cons] at h
    exact h
  refine ⟨_, ps_expr (pe_callSD (p := p0) (E := WE W) (dvs := []) ok ((cx.room hcm).mono hk) (gl_of hg cx.sc) hm kp bi .nil (fun σ => passAt cx.tk σ) hl.pa (okNm_of hn).1 (hl.stars e es rfl) hpl), fun B H0 ρ σ H D r p => ?_⟩
  have p : PostF G B H0 ((evL T l ρ).bind fun ds => (getW ρ i).bind fun x => (T.io f ds x).bind fun y => .ok (.nx (putW ρ i y))) D W := p
  refine hl.im B H0 ρ σ H _ r ?_
  cases el : evL T l ρ with
  | stuck =>
    rw [el] at p
    exact p.elim
  | exc cc fs =>
    rw [el] at p
    exact fun cls d H1 s x => p cls d σ H1 (r.same.trans s) x
  | ok args =>
    rw [el] at p
    intro vs H1 s1 g1
    have r1 := r.mono s1
    obtain ⟨d, e1, p1⟩ := PostF.pure (nx_own ρ) p
    obtain ⟨sx, ⟨q1, qw⟩, a, q2, q3⟩ := own_at r1 e1
    refine ⟨a, q2, ?_⟩
    rw [List.append_nil]
    have bl : Blk B ρ σ a := .inr ⟨i, sx, d, q1, qw, q2⟩
    have up : ∀ b, (b = a ∨ (Blk B ρ σ b ∧ b ≠ a)) → Blk B ρ σ b := fun b z => by
      rcases z with rfl | z
      · exact bl
      · exact z.1
    have dn : ∀ b, Blk B ρ σ b → (b = a ∨ (Blk B ρ σ b ∧ b ≠ a)) := fun b z => by
      by_cases h : b = a
      · exact .inl h
      · exact .inr ⟨z, h⟩
    have ln : args.length = es.length := by
      have z := hl.len ρ args el
      rw [List.length_cons] at z
      omega
    refine pr (fun b => Blk B ρ σ b ∧ b ≠ a) a args d H1 vs _ _ ln (fun b z => r1.bdom b z.1) r1.tab (fun z => z.2 rfl) (reps_anti up g1) (q3.keep rfl (fun _ _ h _ _ => h) fun b _ _ => up b) ?_
    obtain ⟨a', _, e3, ⟨n0, nb⟩, _⟩ := r1.own i sx d q1 qw
    rw [q2] at e3
    cases e3
    cases ef : T.io f args d with
    | stuck =>
      rw [ef] at p1
      exact p1.elim
    | exc cc fs =>
      rw [ef] at p1
      exact fun cls d2 H2 s2 x2 => p1 cls d2 σ H2 ((r1.same.toDel n0 q3.mut).trans s2) x2
    | ok y =>
      rw [ef] at p1
      exact fun H2 s2 ow => p1 σ H2 (r1.writeS q1 qw q2 s2 (ow.keep rfl (fun _ _ h _ _ => h) fun b _ _ => dn b))
/-! ### the text is the plain form -/
section
variable (M : Nms)
mutual
def isS (N : List Str) : S → Scope → Stmt → Bool
  | .expr a, sc, st => match st with
    | .Expr e _ => noCmp e && isE M N a sc e
    | _ => false
  | .asg i a, sc, st => match st with
    | .Assign [.Name x py] v _ => decide (N[i]? = some x) && locB sc x && okV sc x py v && isE M N a sc v
    | _ => false
  | .asgO i a, sc, st => match st with
    | .Assign [.Name x py] v _ => decide (N[i]? = some x) && locB sc x && okV sc x py v && isE M N a sc v
    | _ => false
  | .asgT t a, sc, st => match st with
    | .Assign [tg] v _ => isTg N sc t tg && noSt tg && noCmp v && noTup v && isE M N a sc v
    | _ => false
  | .par i j a b, sc, st => match st with
    | .Assign [.Tuple [.Name x px, .Name y py] _ _] (.Tuple [u, w] _ _) _ => decide (N[i]? = some x) && decide (N[j]? = some y) && parB sc x y px py u w && isE M N a sc u && isE M N b sc w
    | _ => false
  | .aug i o a, sc, st => match st with
    | .AugAssign (.Name x _) p v _ => decide (o = p) && decide (o = .Add ∨ o = .Sub) && decide (N[i]? = some x) && locB sc x && isE M N a sc v
    | _ => false
  | .app i a, sc, st => match st with
    | .Expr (.Call (.Attribute (.Name x _) m ap) [e] [] cp) _ => decide (m = ("append" : Str)) && decide (N[i]? = some x) && locB sc x && okNm x && (ap.endLine == cp.line) && noSt e && isE M N a sc e
    | _ => false
  | .extn i a, sc, st => match st with
    | .Expr (.Call (.Attribute (.Name x _) m ap) [e] [] cp) _ => decide (m = ("extend" : Str)) && decide (N[i]? = some x) && locB sc x && okNm x && (ap.endLine == cp.line) && noSt e && isE M N a sc e
    | _ => false
  | .put i b a, sc, st => match st with
    | .Assign [.Subscript (.Name x _) k _] v _ => decide (N[i]? = some x) && locB sc x && okNm x && noSl k && noCmp v && noTup v && isE M N b sc k && isE M N a sc v
    | _ => false
  | .setd i b a, sc, st => match st with
    | .Expr (.Call (.Attribute (.Name x _) m ap) [k, v] [] cp) _ => decide (m = ("setdefault" : Str)) && decide (N[i]? = some x) && locB sc x && okNm x && (ap.endLine == cp.line) && noSt k && noSt v && isE M N b sc k && isE M N a sc v
    | _ => false
  | .ret a, sc, st => match st with
    | .Return (some v) _ => isE M N a sc v
    | _ => false
  | .retN, _, st => match st with
    | .Return none _ => true
    | _ => false
  | .ife c a b, sc, st => match st with
    | .If e s1 s2 _ => isE M N c sc e && isSs N a sc s1 && isSs N b sc s2
    | _ => false
  | .for_ t it b, sc, st => match st with
    | .For tg iter body [] _ => isTg N sc t tg && noSet iter && isIt M N it sc tg iter && isSs N b sc body
    | _ => false
  | .whl c b, sc, st => match st with
    | .While e body [] _ => isE M N c sc e && isSs N b sc body
    | _ => false
  | .brk, _, st => match st with
    | .Break _ => true
    | _ => false
  | .cnt, _, st => match st with
    | .Continue _ => true
    | _ => false
  | .pass, _, st => match st with
    | .Pass _ => true
    | _ => false
  | .nev, _, _ => true
  | .frz _, _, _ => false
  | .forD false t i b, sc, st => match st with
    | .For tg (.Name x _) body [] _ => isTg N sc t tg && decide (N[i]? = some x) && locB sc x && okNm x && isSs N b sc body
    | _ => false
  | .forD true t i b, sc, st => match st with
    | .For (.Tuple es kk tp) (.Call (.Attribute (.Name x _) m ap) [] [] cp) body [] _ => isTg N sc t (.Tuple es kk tp) && decide (m = ("items" : Str)) && (ap.endLine == cp.line) && decide (N[i]? = some x) && locB sc x && okNm x && isSs N b sc body
    | _ => false
  | .grp t it j e c i k x, sc, st => match st with
    | .For tg iter [.AugAssign (.Name y _) o v _, .If ce [.Expr (.Call (.Attribute (.Call (.Attribute (.Name z _) m ap) [ke, le] [] cp) m2 ap2) [xe] [] cp2) _] [] _] [] _ => isTg N sc t tg && noSet iter && isIt M N it sc tg iter && decide (o = .Add) && decide (N[j]? = some y) && locB sc y && isE M N e sc v && isE M N c sc ce && decide (m = ("setdefault" : Str)) && decide (m2 = ("append" : Str)) && decide (N[i]? = some z) && locB sc z && okNm z && (ap.endLine == cp.line) && (ap2.endLine == cp2.line) && noSt ke && noSt le && noSt xe && isE M N k sc ke && isE M N (.lst .nil) sc le && isE M N x sc xe
    | _ => false
  | .callio f l i, sc, st => match st with
    | .Expr (.Call (.Name x _) (y :: es) [] _) _ => decide (M.fn.lookup f = some x) && glB sc x && okNm x && decide ((f, (y :: es).length - 1) ∈ M.io) && isLio M N l i sc (y :: es)
    | _ => false
  | .popT t i, sc, st => match st with
    | .Assign [tg] (.Call (.Attribute (.Name x _) m ap) [] [] cp) _ => isTg N sc t tg && noSt tg && decide (m = ("pop" : Str)) && decide (N[i]? = some x) && locB sc x && okNm x && (ap.endLine == cp.line)
    | _ => false
  | .appPop i j a, sc, st => match st with
    | .Expr (.Call (.Attribute (.Name x _) m ap) [.Call (.Attribute (.Name y _) m2 ap2) [e] [] cp2] [] cp) _ => decide (m = ("append" : Str)) && decide (m2 = ("pop" : Str)) && decide (N[i]? = some x) && locB sc x && okNm x && (ap.endLine == cp.line) && decide (N[j]? = some y) && locB sc y && okNm y && (ap2.endLine == cp2.line) && noSt e && isE M N a sc e
    | _ => false
  | .raise cn, sc, st => match st with
    | .Raise (some (.Call (.Name x _) [.Constant (.str _) _ _] [] _)) none _ => decide (cn = x) && glB sc x && okNm x
    | _ => false
  | .tryE b x i q, sc, st => match st with
    | .Try [.Expr be _] [.ExceptHandler (some (.Name y _)) (some n) (q0 :: rest) _] [] [] _ => decide (x = y) && decide (N[i]? = some n) && decide (sc.names.lookup n = some .local) && glB sc x && okNm x && noCmp be && isE M N b sc be && isQs M N sc q (q0 :: rest)
    | _ => false
  | .tryI c a b x i q, sc, st => match st with
    | .Try [.If ce [.Expr ae _] [.Expr be _] _] [.ExceptHandler (some (.Name y _)) (some n) (q0 :: rest) _] [] [] _ => decide (x = y) && decide (N[i]? = some n) && decide (sc.names.lookup n = some .local) && glB sc x && okNm x && noCmp ae && noCmp be && isE M N c sc ce && isE M N a sc ae && isE M N b sc be && isQs M N sc q (q0 :: rest)
    | _ => false
  | .nest _ _ _, _, _ => false
  | .frzN _ _, _, _ => false
  | .appN o j a, sc, st => match st with
    | .Expr (.Call (.Attribute oe m ap) [e] [] cp) _ => decide (m = ("append" : Str)) && obB oe && (ap.endLine == cp.line) && noSt e && isE M N o sc oe && isE M N a sc e
    | _ => false
  | .ext _ _, _, _ => false
def isSs (N : List Str) : Ss → Scope → List Stmt → Bool
  | .nil, _, es => match es with
    | [] => M.calm
    | _ => false
  | .cons s l, sc, es => match s with
    | .frz _ => isSs N l sc es
    | .frzN _ _ => isSs N l sc es
    | .nest i js b => match es, l with
      | .Assign [.Name x _] (.List ys _) _ :: es, .nil => decide (N[i]? = some x) && locB sc x && ys.all emp && decide (ys.length = js.length) && decide (ys.length ≤ 1000) && js.all (ghB N sc) && isSs N b sc es
      | _, _ => false
    | s => match es with
      | st :: es => isS N s sc st && isSs N l sc es
      | [] => false
end
end
end
end Ir

/-! Ir15g: what is grouped in a dict of lists. -/
namespace Ir
open PySem L2 PyProof.Rows
/-- a group: its key, where its list stands, what is in it -/
abbrev Gp := Key × Addr × List D
section
variable {G : Gx} {B : Addr → Prop} {g0 gg gg' H0 H1 H H' : Hp} {ρ ρ' : Sl} {σ σ' : L2.St} {a : Addr} {gs gs' : List Gp}
def GAd (a : Addr) (gs : List Gp) (b : Addr) : Prop := b = a ∨ ∃ g ∈ gs, b = g.2.1
theorem GAd_map {b : Addr} : GAd a gs b ↔ b = a ∨ b ∈ gs.map fun g : Gp => g.2.1 := by
  unfold GAd
  rw [List.mem_map]
  exact ⟨fun z => z.elim .inl fun ⟨g, hg, e⟩ => .inr ⟨g, hg, e.symm⟩, fun z => z.elim .inl fun ⟨g, hg, e⟩ => .inr ⟨g, hg, e.symm⟩⟩
def Bx (B : Addr → Prop) (a : Addr) (gs : List Gp) (b : Addr) : Prop := B b ∨ GAd a gs b
open Classical in
noncomputable def gxG (g0 : Hp) (a : Addr) (gs : List Gp) (H : Hp) : Hp := fun b => if GAd a gs b then H b else g0 b
theorem gxG_in {b : Addr} (h : GAd a gs b) : gxG g0 a gs H b = H b := by
  unfold gxG
  rw [if_pos h]
theorem gxG_out {b : Addr} (h : ¬ GAd a gs b) : gxG g0 a gs H b = g0 b := by
  unfold gxG
  rw [if_neg h]
def kvG (gs : List Gp) : List (Key × V) := gs.map fun g => (g.1, V.ref g.2.1)
/-- the groups stand in the heap -/
structure GrpAt (G : Gx) (B : Addr → Prop) (g0 : Hp) (a : Addr) (gs : List Gp) (ρ : Sl) (σ : L2.St) (H : Hp) : Prop where
  dct : H a = some (.dK (kvG gs))
  lst : ∀ g ∈ gs, (∃ vs, H g.2.1 = some (.lst vs) ∧ reps G (Blk (Bx B a gs) ρ σ) H g.2.2 vs) ∧ g0 g.2.1 = none ∧ ¬ B g.2.1
  nd : (gs.map (·.2.1)).Nodup
theorem GrpAt.ml (h : GrpAt G B g0 a gs ρ σ H) {b : Addr} (z : GAd a gs b) : MutL (H b) := by
  rcases z with rfl | ⟨g, hg, rfl⟩
  · rw [h.dct]
    trivial
  · obtain ⟨⟨vs, e, _⟩, _⟩ := h.lst g hg
    rw [e]
    trivial
/-- the relation over a changed group -/
theorem regroup {Hm : Hp} (r : RelS G (Bx B a gs) gg ρ σ H) (s : Same G H Hm) (hg : ∀ b, ¬ GAd a gs b → gg b = g0 b) (sub : ∀ b, GAd a gs b → GAd a gs' b) (new : ∀ b, GAd a gs' b → GAd a gs b ∨ H b = none) (mm : ∀ b, GAd a gs' b → MutL (Hm b)) (out : ∀ b, ¬ GAd a gs' b → H' b = Hm b) (ml : ∀ b, GAd a gs' b → MutL (H' b)) :
    RelS G (Bx B a gs') (gxG g0 a gs' H') ρ σ H' := by
  have ng : ∀ b, ¬ GAd a gs' b → ¬ GAd a gs b := fun b n z => n (sub b z)
  have kp : Keep (Blk (Bx B a gs) ρ σ) H H' := fun b o e n nt => by
    rw [out b fun z => (new b z).elim (fun z => n (.inl (.inr z))) fun z => by rw [e] at z; cases z]
    exact s.ext b o e nt
  have bl : ∀ b o, H b = some o → Blk (Bx B a gs') ρ σ b → Blk (Bx B a gs) ρ σ b := fun b o e z => by
    rcases z with (z | z) | z
    · exact .inl (.inl z)
    · rcases new b z with z | z
      · exact .inl (.inr z)
      · rw [e] at z
        cases z
    · exact .inr z
  have tabs : Tbs G H' := fun p hp => tab_keep (fun b o e nm => by
    rw [out b fun z => nm (by rw [← e]; exact mm b z)]
    exact e) ((r.tab.same s) p hp)
  have dm := Dom.same r.dom s
  refine ⟨r.len, ⟨fun b o e nt => ?_, fun b ps e => ?_, fun p hp _ => tabs p hp⟩, tabs, fun b z => ?_, fun i d e => ?_, fun i x d e w => ?_, r.inj⟩
  · by_cases z : GAd a gs' b
    · rw [gxG_in z] at e
      exact e
    · rw [gxG_out z, ← hg b (ng b z)] at e
      rw [out b z]
      exact s.ext b o (r.same.ext b o e nt) nt
  · by_cases z : GAd a gs' b
    · rw [gxG_in z] at e
      exact ⟨ps, e⟩
    · rw [gxG_out z, ← hg b (ng b z)] at e
      rw [out b z]
      obtain ⟨ps', e'⟩ := r.same.tbl b ps e
      exact s.tbl b ps' e'
  · by_cases q : GAd a gs' b
    · exact ml b q
    · rw [out b q]
      exact dm b (z.elim .inl fun z => absurd z q)
  · obtain ⟨v, e1, q⟩ := r.im i d e
    exact ⟨v, e1, rep_keep kp bl q⟩
  · obtain ⟨b, t, e1, ⟨n, nb⟩, q⟩ := r.own i x d e w
    have mb := r.bdom b (.inr ⟨i, x, d, e, w, e1⟩)
    obtain ⟨o, eo⟩ := mut_some mb
    rw [eo] at mb
    have nG : ¬ GAd a gs b := fun z => nb (.inr z)
    have nG' : ¬ GAd a gs' b := fun z => (new b z).elim nG fun z => by rw [eo] at z; cases z
    have eb : H' b = H b := ((out b nG').trans (s.ext b o eo mb.nt)).trans eo.symm
    refine ⟨b, t, e1, ⟨?_, fun z => z.elim (fun z => nb (.inl z)) nG'⟩, q.keep eb kp bl⟩
    rw [gxG_out nG', ← hg b nG]
    exact n
/-- a group, where other things go on -/
theorem GrpAt.on (h : GrpAt G B g0 a gs ρ σ H) (s : Same G H H') (b : ∀ x o, H x = some o → Blk (Bx B a gs) ρ' σ' x → Blk (Bx B a gs) ρ σ x) : GrpAt G B g0 a gs ρ' σ' H' := by
  refine ⟨s.dK h.dct, fun g hg => ?_, h.nd⟩
  obtain ⟨⟨vs, e, r⟩, q⟩ := h.lst g hg
  exact ⟨⟨vs, s.lst e, reps_keep (Keep.of s) b r⟩, q⟩
end
section
variable {G : Gx} {M : Nms} {T : Tbl} {N : List Str} {sc : Scope} {lvl : Nat} {W : WX} {X : Cx}
variable {e v : Expr} {ta te tk tx : TE} {pos py ap ap2 cp cp2 : Pos} {i j : Nat}
/-- the first group of that key -/
theorem addG_at {k : Key} {x : D} : ∀ {gs : List Gp}, (valV (kvG gs) k = none ∧ addG (keyD k) x (gs.map fun g => keyD g.1) (gs.map (·.2.2)) = ((gs ++ [(k, 0, [x])]).map (fun g : Gp => keyD g.1), (gs.map (·.2.2)) ++ [[x]])) ∨
    ∃ (p q : List Gp) (b : Addr) (l : List D), gs = p ++ (k, b, l) :: q ∧ valV (kvG gs) k = some (.ref b) ∧ addG (keyD k) x (gs.map fun g => keyD g.1) (gs.map (·.2.2)) = ((p ++ (k, b, l ++ [x]) :: q).map (fun g : Gp => keyD g.1), (p ++ (k, b, l ++ [x]) :: q).map (fun g : Gp => g.2.2))
  | [] => .inl ⟨rfl, rfl⟩
  | g :: gs => by
    have u : addG (keyD k) x ((g :: gs).map fun g => keyD g.1) ((g :: gs).map (·.2.2)) = if eqB (keyD g.1) (keyD k) = true then (keyD g.1 :: gs.map (fun g => keyD g.1), (g.2.2 ++ [x]) :: gs.map (·.2.2)) else (keyD g.1 :: (addG (keyD k) x (gs.map fun g => keyD g.1) (gs.map (·.2.2))).1, g.2.2 :: (addG (keyD k) x (gs.map fun g => keyD g.1) (gs.map (·.2.2))).2) := rfl
    rw [u, eqB_k]
    by_cases z : g.1 = k
    · refine .inr ⟨[], gs, g.2.1, g.2.2, ?_, ?_, ?_⟩
      · rw [← z]
        rfl
      · exact valV_pos (p := (g.1, V.ref g.2.1)) z
      · rw [decide_eq_true z, if_pos rfl, ← z]
        rfl
    · rw [decide_eq_false z, if_neg Bool.false_ne_true]
      have vn : valV (kvG (g :: gs)) k = valV (kvG gs) k := valV_neg (p := (g.1, V.ref g.2.1)) z
      rw [vn]
      rcases addG_at (k := k) (x := x) (gs := gs) with ⟨h1, h2⟩ | ⟨p, q, b, l, h1, h2, h3⟩
      · exact .inl ⟨h1, by rw [h2]; rfl⟩
      · exact .inr ⟨g :: p, q, b, l, by rw [h1]; rfl, h2, by rw [h3]; rfl⟩
def tGrpB (j : Nat) (i : Nat) (K : PySem.W.Frag) (te : TE) (tc : TT) (tk tl tx : TE) : TS :=
  tSeq (tAug j te (ipI fun m n => m + n)) (tSeq (tIfS tc (tSeq (tDrop (tBM K "list" rAppend (tDSetd (tVar i) tk tl) (tCons tx tNil))) tNext) tNext) tNext)
theorem putK_new {k : Key} {z : V} {kvs : List (Key × V)} (h : valV kvs k = none) : putK kvs k z = kvs ++ [(k, z)] := by
  unfold putK
  have e : (kvs.any fun kv => decide (kv.1 = k)) = (valV kvs k).isSome := valV_any _ _
  rw [e, h]
  rfl
/-- one turn's last step: what is put behind its group -/
theorem grp_app {B : Addr → Prop} {g0 gg H : Hp} {ρ : Sl} {σ : L2.St} {a : Addr} {gs : List Gp} {kE xE lE : E} {kd xd : D} {ke xe le : Expr} {N' : L2.St → Hp → Prop} {tl : TE} (hk : SE G T X W ke kE tk) (hx : SE G T X W xe xE tx) (hl : SE G T X W le lE tl) (hle : ∀ ρ, evP T lE ρ = .ok (.lst [])) (lf : fresh lE = true)
    (r : RelS G (Bx B a gs) gg ρ σ H) (hg : ∀ b, ¬ GAd a gs b → gg b = g0 b) (at_ : GrpAt G B g0 a gs ρ σ H) (s0 : Same G g0 H) (nB : ∀ b, B b → MutL (H b)) (e1 : σ[i]? = some (some (.ref a))) (ek : evP T kE ρ = .ok kd) (ex : ev T xE ρ = .ok xd) (ok : keyOk 0 kd = true) (h1 : gs.length < LIM) (h2 : ∀ g ∈ gs, g.2.2.length < LIM)
    (fin : ∀ (gs' : List Gp) (H' : Hp), addG kd xd (gs.map fun g => keyD g.1) (gs.map (·.2.2)) = (gs'.map (fun g => keyD g.1), gs'.map (·.2.2)) → RelS G (Bx B a gs') (gxG g0 a gs' H') ρ σ H' → GrpAt G B g0 a gs' ρ σ H' → N' σ H') :
    tBM X.K "list" rAppend (tDSetd (tVar i) tk tl) (tCons tx tNil) σ H fun _ H' => N' σ H' := by
  obtain ⟨k, rfl⟩ := keyOk_0 ok
  rw [lim_eq] at h1 h2
  refine ⟨.ref a, e1, a, rfl, .inl ⟨_, .inl at_.dct⟩, hk.pk (Bx B a gs) gg ρ σ H _ r ?_⟩
  rw [ek]
  intro vk H2 s2 hvk
  obtain rfl := repT_key hvk
  have r2 := r.mono s2
  refine hl.fr lf (Bx B a gs) gg ρ σ H2 _ r2 ?_
  rw [hle]
  intro q H3 n3 s3 ow
  obtain ⟨vs0, hq, hv0⟩ := ow
  cases (show vs0 = [] from hv0)
  have s23 := s2.trans s3
  have r3 := r.mono s23
  have at3 : GrpAt G B g0 a gs ρ σ H3 := at_.on s23 fun _ _ _ z => z
  have qn : ¬ GAd a gs q := fun z => by
    have m := (at_.on s2 fun _ _ _ z => z : GrpAt G B g0 a gs ρ σ H2).ml z
    rw [n3] at m
    exact m
  have qa : q ≠ a := fun z => qn (.inl z)
  refine ⟨kvG gs, k, at3.dct, rfl, by unfold kvG; rw [List.length_map]; exact h1, fun v0 hv => ?_, fun hv => ?_⟩
  · rcases addG_at (k := k) (x := xd) (gs := gs) with ⟨z, _⟩ | ⟨p, qs, b, l, eg, ev0, ea⟩
    · rw [z] at hv
      cases hv
    · rw [ev0] at hv
      cases hv
      have mg : (k, b, l) ∈ gs := by rw [eg]; simp
      obtain ⟨⟨vs, hb, rb⟩, n0, nb⟩ := at3.lst _ mg
      refine ⟨.inl ⟨rfl, vs, .inl (.inl hb)⟩, hx.im (Bx B a gs) gg ρ σ H3 _ r3 ?_⟩
      rw [ex]
      intro v H4 s4 hv4
      have at4 : GrpAt G B g0 a gs ρ σ H4 := at3.on s4 fun _ _ _ z => z
      have r4 := r3.mono s4
      have hb4 : H4 b = some (.lst vs) := s4.lst hb
      have rb4 := reps_same s4 rb
      have hle : l.length < sizeLine := h2 _ mg
      refine ⟨b, vs, v, rfl, rfl, hb4, by rw [reps_len rb4]; exact hle, ?_⟩
      have e6 : (p ++ (k, b, l ++ [xd]) :: qs).map (fun g : Gp => g.2.1) = (p ++ (k, b, l) :: qs).map fun g : Gp => g.2.1 := by
        rw [List.map_append, List.map_append]
        rfl
      have mem : ∀ x, GAd a gs x ↔ GAd a (p ++ (k, b, l ++ [xd]) :: qs) x := fun x => by
        rw [GAd_map, GAd_map, e6, ← eg]
      have ba : b ≠ a := fun z => by
        rw [z, at4.dct] at hb4
        cases hb4
      have bin : GAd a gs b := .inr ⟨_, mg, rfl⟩
      refine fin (p ++ (k, b, l ++ [xd]) :: qs) _ ea (regroup r4 (Same.refl _) hg (fun x z => (mem x).mp z) (fun x z => .inl ((mem x).mpr z)) (fun x z => at4.ml ((mem x).mpr z)) (fun x z => upd_ne fun w => z ((mem x).mp (by rw [w]; exact bin))) fun x z => ?_) ?_
      · by_cases w : x = b
        · rw [w, upd_same]
          trivial
        · rw [upd_ne w]
          exact at4.ml ((mem x).mpr z)
      · have kp : Keep (Blk (Bx B a gs) ρ σ) H4 (upd H4 b (.lst (vs ++ [v]))) := fun x o e n _ => by
          rw [upd_ne fun z => n (.inl (.inr (by rw [z]; exact bin)))]
          exact e
        have bl : ∀ x o, H4 x = some o → Blk (Bx B a (p ++ (k, b, l ++ [xd]) :: qs)) ρ σ x → Blk (Bx B a gs) ρ σ x := fun x o _ z => by
          rcases z with (z | z) | z
          · exact .inl (.inl z)
          · exact .inl (.inr ((mem x).mpr z))
          · exact .inr z
        have nd : ((p ++ (k, b, l) :: qs).map fun g : Gp => g.2.1).Nodup := by
          rw [← eg]
          exact at4.nd
        refine ⟨?_, fun g hg' => ?_, ?_⟩
        · rw [upd_ne (Ne.symm ba), at4.dct, eg]
          unfold kvG
          rw [List.map_append, List.map_append]
          rfl
        · rcases List.mem_append.mp hg' with hg' | hg'
          · have hm : g ∈ gs := by rw [eg]; exact List.mem_append_left _ hg'
            obtain ⟨⟨ws, e5, r5⟩, q5⟩ := at4.lst g hm
            refine ⟨⟨ws, ?_, reps_keep kp bl r5⟩, q5⟩
            rw [upd_ne fun z => ?_]
            · exact e5
            · rw [List.map_append, List.nodup_append] at nd
              exact nd.2.2 _ (List.mem_map_of_mem hg') b (by simp) z
          · rcases List.mem_cons.mp hg' with rfl | hg'
            · exact ⟨⟨vs ++ [v], upd_same, reps_app (reps_keep kp bl rb4) ⟨v, [], rfl, rep_keep kp bl hv4, rfl⟩⟩, n0, nb⟩
            · have hm : g ∈ gs := by rw [eg]; exact List.mem_append_right _ (List.mem_cons_of_mem _ hg')
              obtain ⟨⟨ws, e5, r5⟩, q5⟩ := at4.lst g hm
              refine ⟨⟨ws, ?_, reps_keep kp bl r5⟩, q5⟩
              rw [upd_ne fun z => ?_]
              · exact e5
              · rw [List.map_append, List.nodup_append, List.map_cons, List.nodup_cons] at nd
                exact nd.2.1.1 (by
                  show b ∈ _
                  rw [← z]
                  exact List.mem_map_of_mem hg')
        · rw [e6]
          exact nd
  · rcases addG_at (k := k) (x := xd) (gs := gs) with ⟨_, ea⟩ | ⟨p, qs, b, l, eg, ev0, _⟩
    · rw [putK_new hv]
      have n3' : g0 q = none := (s0.trans s2).free n3
      have nBq : ¬ B q := fun z => by
        have m := Dom.same (B := B) nB s2 q z
        rw [n3] at m
        exact m
      have mem : ∀ (l : List D) x, GAd a (gs ++ [(k, q, l)]) x ↔ GAd a gs x ∨ x = q := fun l x => by
        unfold GAd
        constructor
        · rintro (z | ⟨g, hg, z⟩)
          · exact .inl (.inl z)
          · rcases List.mem_append.mp hg with hg | hg
            · exact .inl (.inr ⟨g, hg, z⟩)
            · rcases List.mem_singleton.mp hg with rfl
              exact .inr z
        · rintro ((z | ⟨g, hg, z⟩) | z)
          · exact .inl z
          · exact .inr ⟨g, List.mem_append_left _ hg, z⟩
          · exact .inr ⟨_, List.mem_append_right _ (List.mem_singleton.mpr rfl), z⟩
      have hqa : (upd H3 a (.dK (kvG gs ++ [(k, V.ref q)]))) q = some (.lst []) := by
        rw [upd_ne qa]
        exact hq
      have at2 : GrpAt G B g0 a gs ρ σ H2 := at_.on s2 fun _ _ _ z => z
      have Hd : ∀ x, x ≠ a → (upd H3 a (.dK (kvG gs ++ [(k, V.ref q)]))) x = H3 x := fun x z => upd_ne z
      generalize hHd : upd H3 a (.dK (kvG gs ++ [(k, V.ref q)])) = H3d at *
      have Hda : H3d a = some (.dK (kvG gs ++ [(k, V.ref q)])) := by rw [← hHd, upd_same]
      have ga : ∀ g ∈ gs, g.2.1 ≠ a := fun g hg' z => by
        obtain ⟨⟨ws, e5, _⟩, _⟩ := at3.lst g hg'
        rw [z, at3.dct] at e5
        cases e5
      have gq : ∀ g ∈ gs, g.2.1 ≠ q := fun g hg' z => qn (.inr ⟨g, hg', z.symm⟩)
      have mm : ∀ x, GAd a (gs ++ [(k, q, [])]) x → MutL (H3 x) := fun x z => by
        rcases (mem [] x).mp z with z | z
        · exact at3.ml z
        · rw [z, hq]
          trivial
      have md : ∀ x, GAd a (gs ++ [(k, q, [])]) x → MutL (H3d x) := fun x z => by
        by_cases w : x = a
        · rw [w, Hda]
          trivial
        · rw [Hd x w]
          exact mm x z
      have new : ∀ x, GAd a (gs ++ [(k, q, [])]) x → GAd a gs x ∨ H2 x = none := fun x z => by
        rcases (mem [] x).mp z with z | z
        · exact .inl z
        · rw [z]
          exact .inr n3
      -- the relation with the new group, still empty
      have r4 : RelS G (Bx B a (gs ++ [(k, q, [])])) (gxG g0 a (gs ++ [(k, q, [])]) H3d) ρ σ H3d :=
        regroup r2 s3 hg (fun x z => (mem [] x).mpr (.inl z)) new mm (fun x z => Hd x fun w => z ((mem [] x).mpr (.inl (.inl w)))) md
      have at4 : GrpAt G B g0 a (gs ++ [(k, q, [])]) ρ σ H3d := by
        refine ⟨?_, fun g hg' => ?_, ?_⟩
        · rw [Hda]
          unfold kvG
          rw [List.map_append]
          rfl
        · rcases List.mem_append.mp hg' with hg' | hg'
          · obtain ⟨⟨ws, e5, r5⟩, q5⟩ := at2.lst g hg'
            refine ⟨⟨ws, by rw [Hd _ (ga g hg')]; exact s3.lst e5, reps_keep (B := Blk (Bx B a gs) ρ σ) (H := H2) (fun x o e n nt => ?_) (fun x o e z => ?_) r5⟩, q5⟩
            · rw [Hd x fun w => n (.inl (.inr (.inl w)))]
              exact s3.ext x o e nt
            · rcases z with (z | z) | z
              · exact .inl (.inl z)
              · rcases new x z with z | z
                · exact .inl (.inr z)
                · rw [e] at z
                  cases z
              · exact .inr z
          · rcases List.mem_singleton.mp hg' with rfl
            exact ⟨⟨[], by rw [Hd q qa]; exact hq, rfl⟩, n3', nBq⟩
        · rw [List.map_append, List.nodup_append]
          refine ⟨at_.nd, by simp, fun x hx y hy z => ?_⟩
          obtain ⟨g, hg', rfl⟩ := List.mem_map.mp hx
          rcases List.mem_singleton.mp hy with rfl
          exact gq g hg' z
      refine ⟨.inl ⟨rfl, [], .inl (.inl hqa)⟩, hx.im _ _ ρ σ _ _ r4 ?_⟩
      rw [ex]
      intro v H5 s5 hv5
      have at5 : GrpAt G B g0 a (gs ++ [(k, q, [])]) ρ σ H5 := at4.on s5 fun _ _ _ z => z
      have r5 := r4.mono s5
      have hq5 : H5 q = some (.lst []) := s5.lst hqa
      refine ⟨q, [], v, rfl, rfl, hq5, by show 0 < sizeLine; decide, ?_⟩
      have m12 : ∀ x, GAd a (gs ++ [(k, q, [])]) x ↔ GAd a (gs ++ [(k, q, [xd])]) x := fun x => (mem [] x).trans (mem [xd] x).symm
      have qin : GAd a (gs ++ [(k, q, [])]) q := (mem [] q).mpr (.inr rfl)
      refine fin (gs ++ [(k, q, [xd])]) _ (ea.trans ?_) (regroup r5 (Same.refl _) (fun x z => gxG_out z) (fun x z => (m12 x).mp z) (fun x z => .inl ((m12 x).mpr z)) (fun x z => at5.ml ((m12 x).mpr z)) (fun x z => upd_ne fun w => z ((m12 x).mp (by rw [w]; exact qin))) fun x z => ?_) ?_
      · rw [List.map_append, List.map_append, List.map_append]
        rfl
      · by_cases w : x = q
        · rw [w, upd_same]
          trivial
        · rw [upd_ne w]
          exact at5.ml ((m12 x).mpr z)
      · have kp : Keep (Blk (Bx B a (gs ++ [(k, q, [])])) ρ σ) H5 (upd H5 q (.lst ([] ++ [v]))) := fun x o e n _ => by
          rw [upd_ne fun z => n (.inl (.inr (by rw [z]; exact qin)))]
          exact e
        have bl : ∀ x o, H5 x = some o → Blk (Bx B a (gs ++ [(k, q, [xd])])) ρ σ x → Blk (Bx B a (gs ++ [(k, q, [])])) ρ σ x := fun x o _ z => by
          rcases z with (z | z) | z
          · exact .inl (.inl z)
          · exact .inl (.inr ((m12 x).mpr z))
          · exact .inr z
        refine ⟨?_, fun g hg' => ?_, ?_⟩
        · rw [upd_ne (Ne.symm qa), at5.dct]
          unfold kvG
          rw [List.map_append, List.map_append]
          rfl
        · rcases List.mem_append.mp hg' with hg' | hg'
          · obtain ⟨⟨ws, e5, r6⟩, q5⟩ := at5.lst g (List.mem_append_left _ hg')
            exact ⟨⟨ws, by rw [upd_ne (gq g hg')]; exact e5, reps_keep kp bl r6⟩, q5⟩
          · rcases List.mem_singleton.mp hg' with rfl
            exact ⟨⟨[] ++ [v], upd_same, v, [], rfl, rep_keep kp bl hv5, rfl⟩, n3', nBq⟩
        · have e6 : (gs ++ [(k, q, [xd])]).map (fun g : Gp => g.2.1) = (gs ++ [(k, q, [])]).map fun g : Gp => g.2.1 := by
            rw [List.map_append, List.map_append]
            rfl
          rw [e6]
          exact at4.nd
    · rw [ev0] at hv
      cases hv
theorem blk_put2 {B : Addr → Prop} {ρ : Sl} {σ : L2.St} {j : Nat} {d : D} {v : V} {x : Addr} (z : Blk B (putI ρ j d) (σ.set j (some v)) x) : Blk B ρ σ x := by
  rcases z with z | ⟨m, s, e, e1, w, e2⟩
  · exact .inl z
  · unfold putI at e1
    rcases set_get e1 with ⟨_, q⟩ | ⟨ne, q⟩
    · exact (no_im q w).elim
    · rw [List.getElem?_set_ne ne] at e2
      exact .inr ⟨m, s, e, q, w, e2⟩
theorem blk_mask {B : Addr → Prop} {l ρ : Sl} {σ : L2.St} {x : Addr} (z : Blk B (mask l ρ) σ x) : Blk B ρ σ x := by
  rcases z with z | ⟨m, s, e, e1, w, e2⟩
  · exact .inl z
  · rcases mask_get l ρ m with q | q
    · exact .inr ⟨m, s, e, by rw [← q]; exact e1, w, e2⟩
    · rw [q] at e1
      cases e1
theorem same_g0 {B : Addr → Prop} {g0 gg H : Hp} {ρ : Sl} {σ : L2.St} {a : Addr} {gs : List Gp} (r : RelS G (Bx B a gs) gg ρ σ H) (hg : ∀ b, ¬ GAd a gs b → gg b = g0 b) (n : ∀ b, GAd a gs b → g0 b = none) : Same G g0 H := by
  have ng : ∀ b o, g0 b = some o → ¬ GAd a gs b := fun b o e z => by
    rw [n b z] at e
    cases e
  exact ⟨fun b o e nt => r.same.ext b o (by rw [hg b (ng b o e)]; exact e) nt, fun b ps e => r.same.tbl b ps (by rw [hg b (ng b _ e)]; exact e), fun p hp _ => r.tab p hp⟩
theorem GrpAt.no {B : Addr → Prop} {g0 H : Hp} {ρ : Sl} {σ : L2.St} {a : Addr} {gs : List Gp} (h : GrpAt G B g0 a gs ρ σ H) (na : g0 a = none) : ∀ b, GAd a gs b → g0 b = none := fun b z => by
  rcases z with rfl | ⟨g, hg, rfl⟩
  · exact na
  · exact (h.lst g hg).2.1
theorem ungroup {B : Addr → Prop} {H0 g0 gg H : Hp} {ρ3 : Sl} {σ : L2.St} {a : Addr} {gs : List Gp} (s00 : Same G H0 g0) (na : g0 a = none) (nB : ¬ B a) (r : RelS G (Bx B a gs) gg ρ3 σ H) (hg : ∀ b, ¬ GAd a gs b → gg b = g0 b) (at_ : GrpAt G B g0 a gs ρ3 σ H) (e1 : σ[i]? = some (some (.ref a))) (e2 : ρ3[i]? = some none) :
    RelS G B H0 (ρ3.set i (some (.own (.dct 0 (gs.map fun g => keyD g.1) (gs.map fun g => .lst g.2.2))))) σ H := by
  have hi : i < ρ3.length := (List.getElem?_eq_some_iff.mp e2).1
  have s0 : Same G g0 H := same_g0 r hg (at_.no na)
  have bl : ∀ x, Blk B (ρ3.set i (some (.own (.dct 0 (gs.map fun g => keyD g.1) (gs.map fun g => .lst g.2.2))))) σ x → Blk (Bx B a gs) ρ3 σ x := fun x z => by
    rcases z with z | ⟨m, s, e, q1, w, q2⟩
    · exact .inl (.inl z)
    · rcases set_get q1 with ⟨rfl, q⟩ | ⟨ne, q⟩
      · rw [e1] at q2
        cases q2
        exact .inl (.inr (.inl rfl))
      · exact .inr ⟨m, s, e, q, w, q2⟩
  refine ⟨by rw [List.length_set]; exact r.len, s00.trans s0, r.tab, fun x z => r.dom x (.inl z), fun m d e => ?_, fun m x d e w => ?_, fun m n x y d d' b q1 w1 q2 w2 q3 q4 => ?_⟩
  · rcases set_get e with ⟨_, q⟩ | ⟨ne, q⟩
    · cases q
    · obtain ⟨v, e3, h3⟩ := r.im m d q
      exact ⟨v, e3, rep_anti bl h3⟩
  · rcases set_get e with ⟨rfl, q⟩ | ⟨ne, q⟩
    · cases q
      cases w
      refine ⟨a, trivial, e1, ⟨s00.free na, nB⟩, gs.map fun g => V.ref g.2.1, .inl ⟨kvG gs, rfl, at_.dct, ?_, ?_⟩, ?_⟩
      · unfold kvG
        rw [List.map_map]
        rfl
      · unfold kvG
        rw [List.map_map]
        rfl
      · have go : ∀ l : List Gp, (∀ g ∈ l, g ∈ gs) → reps G (Blk B (ρ3.set i (some (.own (.dct 0 (gs.map fun g => keyD g.1) (gs.map fun g => .lst g.2.2))))) σ) H (l.map fun g => D.lst g.2.2) (l.map fun g => V.ref g.2.1) := fun l => by
          induction l with
          | nil => exact fun _ => rfl
          | cons g l ih =>
            intro hl
            have hgm := hl g List.mem_cons_self
            obtain ⟨⟨vs, e5, r5⟩, n5, nb5⟩ := at_.lst g hgm
            refine ⟨V.ref g.2.1, _, rfl, ⟨g.2.1, vs, rfl, .inl e5, fun z => ?_, reps_anti bl r5⟩, ih fun g' h' => hl g' (List.mem_cons_of_mem _ h')⟩
            rcases z with z | ⟨m, s, e, q1, w, q2⟩
            · exact nb5 z
            · rcases set_get q1 with ⟨rfl, q⟩ | ⟨ne, q⟩
              · rw [e1] at q2
                injection q2 with q2
                injection q2 with q2
                injection q2 with q2
                rw [← q2, at_.dct] at e5
                cases e5
              · obtain ⟨b, _, q3, ⟨_, nb⟩, _⟩ := r.own m s e q w
                rw [q2] at q3
                cases q3
                exact nb (.inr (.inr ⟨g, hgm, rfl⟩))
        exact go gs fun g hg' => hg'
    · obtain ⟨b, t, e3, ⟨n3, nb⟩, q3⟩ := r.own m x d q w
      refine ⟨b, t, e3, ⟨s00.free (by rw [← hg b fun z => nb (.inr z)]; exact n3), fun z => nb (.inl z)⟩, q3.keep rfl (fun _ _ h _ _ => h) fun x _ _ => bl x⟩
  · rcases set_get q1 with ⟨rfl, z1⟩ | ⟨n1, z1⟩
    · rcases set_get q2 with ⟨rfl, z2⟩ | ⟨n2, z2⟩
      · rfl
      · rw [e1] at q3
        cases q3
        obtain ⟨b', _, e3, ⟨_, nb⟩, _⟩ := r.own n y d' z2 w2
        rw [q4] at e3
        cases e3
        exact absurd (.inr (.inl rfl)) nb
    · rcases set_get q2 with ⟨rfl, z2⟩ | ⟨n2, z2⟩
      · rw [e1] at q4
        cases q4
        obtain ⟨b', _, e3, ⟨_, nb⟩, _⟩ := r.own m x d z1 w1
        rw [q3] at e3
        cases e3
        exact absurd (.inr (.inl rfl)) nb
      · exact r.inj m n x y d d' b z1 w1 z2 w2 q3 q4
/-- where it begins -/
theorem group0 {B : Addr → Prop} {H0 H1 : Hp} {ρ : Sl} {σ : L2.St} {a : Addr} (r : RelS G B H0 ρ σ H1) (e1 : ρ[i]? = some (some (.own (.dct 0 [] [])))) (e2 : σ[i]? = some (some (.ref a))) (n0 : H0 a = none) (hd : H1 a = some (.dK [])) :
    RelS G (Bx B a []) (gxG (gnd B ρ σ H0 H1) a [] H1) (ρ.set i none) σ H1 ∧ GrpAt G B (gnd B ρ σ H0 H1) a [] (ρ.set i none) σ H1 ∧ gnd B ρ σ H0 H1 a = none := by
  have ba : Blk B ρ σ a := .inr ⟨i, _, _, e1, rfl, e2⟩
  have na : gnd B ρ σ H0 H1 a = none := by rw [gnd_in ba, n0]
  have iff_ : ∀ b, GAd a ([] : List Gp) b ↔ b = a := fun b => ⟨fun z => z.elim id fun ⟨g, hg, _⟩ => (nomatch hg), .inl⟩
  have bl : ∀ x, Blk (Bx B a []) (ρ.set i none) σ x → Blk B ρ σ x := fun x z => by
    rcases z with (z | z) | ⟨m, s, e, q1, w, q2⟩
    · exact .inl z
    · rw [(iff_ x).mp z]
      exact ba
    · rcases set_get q1 with ⟨_, q⟩ | ⟨ne, q⟩
      · cases q
      · exact .inr ⟨m, s, e, q, w, q2⟩
  have gt := gnd_t r
  refine ⟨⟨by rw [List.length_set]; exact r.len, ⟨fun b o e nt => ?_, fun b ps e => ?_, fun p hp _ => r.tab p hp⟩, r.tab, fun x z => ?_, fun m d e => ?_, fun m x d e w => ?_, fun m n x y d d' b q1 w1 q2 w2 q3 q4 => ?_⟩, ⟨hd, (fun g hg => nomatch hg), .nil⟩, na⟩
  · by_cases z : GAd a ([] : List Gp) b
    · rw [gxG_in z] at e
      exact e
    · rw [gxG_out z] at e
      exact gt.ext b o e nt
  · by_cases z : GAd a ([] : List Gp) b
    · rw [gxG_in z] at e
      exact ⟨ps, e⟩
    · rw [gxG_out z] at e
      exact gt.tbl b ps e
  · rcases z with z | z
    · exact r.dom x z
    · rw [(iff_ x).mp z, hd]
      trivial
  · rcases set_get e with ⟨_, q⟩ | ⟨ne, q⟩
    · cases q
    · obtain ⟨v, e3, h3⟩ := r.im m d q
      exact ⟨v, e3, rep_anti bl h3⟩
  · rcases set_get e with ⟨_, q⟩ | ⟨ne, q⟩
    · cases q
    · obtain ⟨b, t, e3, ⟨n3, nb⟩, q3⟩ := r.own m x d q w
      have ab : b ≠ a := fun z => by
        rw [z] at e3
        exact ne (r.inj m i x _ d _ a q w e1 rfl e3 e2).symm
      have ng : ¬ GAd a ([] : List Gp) b := fun z => ab ((iff_ b).mp z)
      refine ⟨b, t, e3, ⟨?_, fun z => z.elim nb ng⟩, q3.keep rfl (fun _ _ h _ _ => h) fun x _ _ => bl x⟩
      rw [gxG_out ng, gnd_in (.inr ⟨m, x, d, q, w, e3⟩)]
      exact n3
  · rcases set_get q1 with ⟨_, z1⟩ | ⟨n1, z1⟩
    · cases z1
    · rcases set_get q2 with ⟨_, z2⟩ | ⟨n2, z2⟩
      · cases z2
      · exact r.inj m n x y d d' b z1 w1 z2 w2 q3 q4
/-- one item ahead: what each turn does to the slots -/
def grpF (T : Tbl) (t : Tg) (j : Nat) (eE : E) (d : D) (ρ' : Sl) : R Sl := (asgTg t d ρ').bind fun ρ2 => (getI ρ2 j).bind fun y => (evP T eE ρ2).bind fun z => (augD .Add y z).bind fun z => .ok (putI ρ2 j z)
theorem grpF_inv {t : Tg} {eE : E} {d : D} {ρ' ρ1 : Sl} (h : grpF T t j eE d ρ' = .ok ρ1) : ∃ ρ2 m n, asgTg t d ρ' = .ok ρ2 ∧ getI ρ2 j = .ok (.int m) ∧ evP T eE ρ2 = .ok (.int n) ∧ ρ1 = putI ρ2 j (.int (m + n)) := by
  obtain ⟨ρ2, e2, h⟩ := bind_ok_inv h
  obtain ⟨y, ey, h⟩ := bind_ok_inv h
  obtain ⟨z, ez, h⟩ := bind_ok_inv h
  obtain ⟨w, ew, h⟩ := bind_ok_inv h
  cases h
  cases y with
  | int m =>
    cases z with
    | int n =>
      cases ew
      exact ⟨ρ2, m, n, e2, ey, ez, rfl⟩
    | _ => cases ew
  | _ => cases ew
theorem grp_core {J : It} {ds : List D} {t : Tg} {B : Addr → Prop} {H0 H1 : Hp} {ρ : Sl} {σ : L2.St} {D : Ends} {eE cE kE xE lE : E} {ce ke xe le : Expr} {tc : TT} {tl : TE} {rr : Sl × List Ir.D × List (List Ir.D)}
    (hv : SE G T X W v eE te) (hc : STt G T X W ce cE tc) (hk : SE G T X W ke kE tk) (hx : SE G T X W xe xE tx) (hl : SE G T X W le lE tl) (hle : ∀ ρ, evP T lE ρ = .ok (.lst [])) (lf : fresh lE = true)
    (r1 : RelS G B H0 ρ σ H1) (own : getOwn ρ i = .ok (.dct 0 [] [])) (ni : i ∉ t.slots) (nj : i ≠ j) (wk : ∀ Hm, Keep (Blk B ρ σ) H1 Hm → Walks G (Blk B ρ σ) Hm J ds)
    (run : grpL (mask (ρ.set i none)) (grpF T t j eE) (fun ρ' => evT T cE ρ') (fun ρ' => evP T kE ρ') (fun ρ' => ev T xE ρ') ds (ρ.set i none) [] [] = .ok rr)
    (fin : ∀ σ' H', RelS G B H0 (rr.1.set i (some (.own (.dct 0 rr.2.1 (rr.2.2.map .lst))))) σ' H' → D.nx σ' H') :
    ∃ W : Nat → Nat → L2.St → Hp → Prop, (∃ m, W 0 m σ H1) ∧ ∀ n m σ H, W n m σ H →
  (J.stop n H ∧ D.nx σ H) ∨ (J.go n H ∧ ∃ N : L2.St → Hp → Prop, (∀ σ' H', N σ' H' → ∃ m', m' < m ∧ W (n + 1) m' σ' H') ∧ ∀ x H', J.yld n H x H' → gSem G t x σ H' fun σ2 H2 => tGrpB j i X.K te tc tk tl tx { D with nx := N, ct := N, bk := D.nx } σ2 H2) := by
  have q1 := getOwn_of own
  obtain ⟨a, _, ea, ⟨n0, nBa⟩, ow⟩ := r1.own i _ _ q1 rfl
  have hd : H1 a = some (.dK []) := by
    obtain ⟨vs, od, rv⟩ := ow
    cases (show vs = [] from rv)
    rcases od with ⟨kvs, _, e, ek, _⟩ | ⟨kvs, z, _⟩
    · have : kvs = [] := List.map_eq_nil_iff.mp ek.symm
      rw [this] at e
      exact e
    · cases z
  have hd0 := group0 r1 q1 ea n0 hd
  have ba : Blk B ρ σ a := .inr ⟨i, _, _, q1, rfl, ea⟩
  have s00 := gnd_s r1
  have gout : ∀ b, ¬ Blk B ρ σ b → gnd B ρ σ H0 H1 b = H1 b := fun b z => gnd_out z
  have gin : ∀ b, Blk B ρ σ b → gnd B ρ σ H0 H1 b = H0 b := fun b z => gnd_in z
  generalize gnd B ρ σ H0 H1 = g0 at hd0 s00 gout gin
  obtain ⟨ri, ati, na⟩ := hd0
  have hi : i < ρ.length := (List.getElem?_eq_some_iff.mp q1).1
  have ri2 : (ρ.set i none)[i]? = some none := by rw [List.getElem?_set_self hi]
  refine ⟨fun n m σ3 H3 => m = ds.length - n ∧ n ≤ ds.length ∧ ∃ ρ3 gs gg, RelS G (Bx B a gs) gg ρ3 σ3 H3 ∧ (∀ b, ¬ GAd a gs b → gg b = g0 b) ∧ GrpAt G B g0 a gs ρ3 σ3 H3 ∧ σ3[i]? = some (some (.ref a)) ∧ ρ3[i]? = some none ∧
    grpL (mask (ρ.set i none)) (grpF T t j eE) (fun ρ' => evT T cE ρ') (fun ρ' => evP T kE ρ') (fun ρ' => ev T xE ρ') (ds.drop n) ρ3 (gs.map fun g => keyD g.1) (gs.map (·.2.2)) = .ok rr,
    ⟨_, rfl, Nat.zero_le _, ρ.set i none, [], _, ri, fun b z => gxG_out z, ati, ea, ri2, run⟩, ?_⟩
  rintro n m σ3 H3 ⟨rfl, hn, ρ3, gs, gg, r3, hg, at3, e3, e4, run3⟩
  have s0 : Same G g0 H3 := same_g0 r3 hg (at3.no na)
  have w0 : (∀ n, n < ds.length → J.go n H3 ∧ ∀ x H5, J.yld n H3 x H5 → Same G H3 H5 ∧ ∃ d, ds[n]? = some d ∧ rep G (Blk (Bx B a gs) ρ3 σ3) H5 d x) ∧ J.stop ds.length H3 := by
    classical
    refine wk (fun b => if Blk B ρ σ b then H3 b else H1 b) (fun b o e nb _ => by simp only [if_neg nb]; exact e) (Blk (Bx B a gs) ρ3 σ3) H3 ⟨fun b o e nt => ?_, fun b ps e => ?_, fun p hp _ => r3.tab p hp⟩ r3.bdom fun b o e z => ?_
    · by_cases h : Blk B ρ σ b
      · simp only [if_pos h] at e
        exact e
      · simp only [if_neg h] at e
        exact s0.ext b o (by rw [gout b h]; exact e) nt
    · by_cases h : Blk B ρ σ b
      · simp only [if_pos h] at e
        exact ⟨ps, e⟩
      · simp only [if_neg h] at e
        exact s0.tbl b ps (by rw [gout b h]; exact e)
    · by_cases h : Blk B ρ σ b
      · exact h
      · simp only [if_neg h] at e
        have eg : g0 b = some o := by rw [gout b h]; exact e
        rcases z with (z | z) | ⟨m, x, d, q1, w, q2⟩
        · exact .inl z
        · rw [at3.no na b z] at eg
          cases eg
        · obtain ⟨b', _, q3, ⟨n3, nb⟩, _⟩ := r3.own m x d q1 w
          rw [q2] at q3
          cases q3
          rw [hg b fun z => nb (.inr z), eg] at n3
          cases n3
  obtain ⟨w1, w2⟩ := w0
  by_cases hlt : n < ds.length
  · obtain ⟨go, yl⟩ := w1 n hlt
    rw [List.drop_eq_getElem_cons hlt] at run3
    refine .inr ⟨go, fun σ' H' => ∃ ρ3 gs gg, RelS G (Bx B a gs) gg ρ3 σ' H' ∧ (∀ b, ¬ GAd a gs b → gg b = g0 b) ∧ GrpAt G B g0 a gs ρ3 σ' H' ∧ σ'[i]? = some (some (.ref a)) ∧ ρ3[i]? = some none ∧
      grpL (mask (ρ.set i none)) (grpF T t j eE) (fun ρ' => evT T cE ρ') (fun ρ' => evP T kE ρ') (fun ρ' => ev T xE ρ') (ds.drop (n + 1)) ρ3 (gs.map fun g => keyD g.1) (gs.map (·.2.2)) = .ok rr, fun σ' H' z => ⟨ds.length - (n + 1), by omega, rfl, hlt, z⟩, fun x H' y => ?_⟩
    obtain ⟨s4, d, ed, hdr⟩ := yl x H' y
    have e0 : ds[n] = d := by
      rw [List.getElem?_eq_getElem hlt] at ed
      exact Option.some.inj ed
    rw [e0] at run3
    obtain ⟨ρ1, ef, run4⟩ := bind_ok_inv run3
    obtain ⟨b0, eb, run5⟩ := bind_ok_inv run4
    obtain ⟨ρ2, mm, nn, e2, ej, ez, rfl⟩ := grpF_inv ef
    refine ⟨Bx B a gs, gg, ρ3, d, r3.mono s4, hdr, ρ2, e2, fun σ2 r2 _ bl oth => ?_⟩
    obtain ⟨o1, o2⟩ := oth i ni
    obtain ⟨u, eu, hu⟩ := r2.getI ej
    have hu : u = .int mm := hu
    subst hu
    refine ⟨.int mm, eu, hv.pk (Bx B a gs) gg ρ2 σ2 H' _ r2 ?_⟩
    rw [ez]
    intro vy H5 s5 hy
    refine ⟨mm, nn, rfl, hy, ?_⟩
    show tc (σ2.set j (some (V.int (mm + nn)))) H5 _
    have hjl : j < ρ2.length := by
      unfold getI at ej
      split at ej
      · rename_i h
        exact (List.getElem?_eq_some_iff.mp h).1
      · cases ej
    have r5 : RelS G (Bx B a gs) gg (putI ρ2 j (.int (mm + nn))) (σ2.set j (some (.int (mm + nn)))) H5 := (r2.mono s5).putI hjl (rfl : V.int _ = V.int _)
    have bl5 : ∀ x, Blk (Bx B a gs) (putI ρ2 j (.int (mm + nn))) (σ2.set j (some (.int (mm + nn)))) x → Blk (Bx B a gs) ρ3 σ3 x := fun x z => bl x (blk_put2 z)
    have ei : (σ2.set j (some (.int (mm + nn))))[i]? = some (some (.ref a)) := by
      rw [List.getElem?_set_ne (Ne.symm nj), o2]
      exact e3
    have ri : (putI ρ2 j (.int (mm + nn)))[i]? = some none := by
      unfold putI
      rw [List.getElem?_set_ne (Ne.symm nj), o1]
      exact e4
    have rm : (mask (ρ.set i none) (putI ρ2 j (.int (mm + nn))))[i]? = some none := (mask_get (ρ.set i none) (putI ρ2 j (.int (mm + nn))) i).elim (fun q => q.trans ri) id
    generalize putI ρ2 j (.int (mm + nn)) = ρ4 at *
    generalize σ2.set j (some (.int (mm + nn))) = σ4 at *
    have eb : evT T cE ρ4 = .ok b0 := eb
    refine hc.tr (Bx B a gs) gg ρ4 σ4 H5 _ r5 ?_
    rw [eb]
    intro vb H6 s6 hb
    subst hb
    have s36 := (s4.trans s5).trans s6
    have r6 := r5.mono s6
    have at6 : GrpAt G B g0 a gs ρ4 σ4 H6 := at3.on s36 fun x o _ z => bl5 x z
    cases b0 with
    | false =>
      rw [if_neg Bool.false_ne_true]
      exact ⟨_, gs, gg, r6.mask, hg, at6.on (Same.refl _) fun x o _ z => blk_mask z, ei, rm, run5⟩
    | true =>
      rw [if_pos rfl]
      obtain ⟨kd, ek, run6⟩ := bind_ok_inv run5
      obtain ⟨xd, ex, run7⟩ := bind_ok_inv run6
      obtain ⟨cc, run8⟩ := iff_ok run7
      rw [Bool.and_eq_true, Bool.and_eq_true, List.all_eq_true] at cc
      have l1 := of_decide_eq_true cc.1.2
      rw [List.length_map] at l1
      refine grp_app (N' := fun σ' H' => ∃ ρ3 gs gg, RelS G (Bx B a gs) gg ρ3 σ' H' ∧ (∀ b, ¬ GAd a gs b → gg b = g0 b) ∧ GrpAt G B g0 a gs ρ3 σ' H' ∧ σ'[i]? = some (some (.ref a)) ∧ ρ3[i]? = some none ∧
        grpL (mask (ρ.set i none)) (grpF T t j eE) (fun ρ' => evT T cE ρ') (fun ρ' => evP T kE ρ') (fun ρ' => ev T xE ρ') (ds.drop (n + 1)) ρ3 (gs.map fun g => keyD g.1) (gs.map (·.2.2)) = .ok rr) hk hx hl hle lf r6 hg at6 (s0.trans s36) (fun b z => r6.dom b (.inl z)) ei ek ex cc.1.1 l1 (fun g hg' => of_decide_eq_true (cc.2 _ (List.mem_map_of_mem hg'))) fun gs' H7 ea' r7 at7 => ?_
      rw [ea'] at run8
      exact ⟨_, gs', _, r7.mask, fun b z => gxG_out z, at7.on (Same.refl _) fun x o _ z => blk_mask z, ei, rm, run8⟩
  · have e : n = ds.length := by omega
    subst e
    rw [List.drop_length] at run3
    have run3 : R.ok (ρ3, gs.map (fun g => keyD g.1), gs.map (·.2.2)) = R.ok rr := run3
    cases run3
    refine .inl ⟨w2, fin σ3 H3 ?_⟩
    have z := ungroup s00 na nBa r3 hg at3 e3 e4
    rw [List.map_map]
    exact z
theorem ss_grp (F : Facts G M T lvl) (hcm : M.calm = true) (c : Cxs G M N sc lvl W X) {tg iter v ce ke le xe : Expr} {it : Wk} {t : Tg} {wi : TI} {eE cE kE xE : E} {te tk tx : TE} {tc : TT} {y z : Str} {p1 p2 p3 p4 p5 : Pos}
    (hi : SI G T X W tg iter it wi) (pg : PG X tg (gSem G t)) (ns : noSet iter = true) (hj : N[j]? = some y) (hyl : locB sc y = true) (hv : SE G T X W v eE te) (hc : STt G T X W ce cE tc) (hz : N[i]? = some z) (hzl : locB sc z = true) (hzn : okNm z = true)
    (ln : (ap.endLine == cp.line) = true) (ln2 : (ap2.endLine == cp2.line) = true) (n1 : noSt ke = true) (n2 : noSt le = true) (n3 : noSt xe = true) (hk : SE G T X W ke kE tk) (hl : isE M N (.lst .nil) sc le = true) (hx : SE G T X W xe xE tx) :
    ∃ ts, SS G T X W (.For tg iter [.AugAssign (.Name y p1) .Add v p2, .If ce [.Expr (.Call (.Attribute (.Call (.Attribute (.Name z p3) "setdefault" ap) [ke, le] [] cp) "append" ap2) [xe] [] cp2) p4] [] p5] [] pos) (.grp t it j eE cE i kE xE) ts := by
  obtain ⟨⟨tl, hl⟩, _⟩ := sound_E F (.lst .nil) c.toCxk hl
  have hle : ∀ ρ, evP T (.lst .nil) ρ = .ok (.lst []) := fun ρ => rfl
  have b1 : PS X (.AugAssign (.Name y p1) .Add v p2) (tAug j te (ipI fun m n => m + n)) := ps_aug (by rw [c.toCxk.hN]; exact c.toCxk.nd) (by rw [c.toCxk.hN]; exact hj) (loc_of hyl c.toCxk.sc) hv.pe ip_add (.inl (c.fnt y))
  have b2 := pe_dsetd (apos := ap) (cpos := cp) (pe_nm (py := p3) c hz hzl hzn) hk.pe hl.pe ⟨rfl, by rw [noSt_is n1, noSt_is n2]; rfl, ln, by rw [noSt_is n1, noSt_is n2]; rfl⟩
  have b3 := pe_bm (apos := ap2) (cpos := cp2) PySem.F.plainAttrs_list PySem.F.slot_list_append PySem.F.type_list_append mt_append b2 (pa_cons hx.pe pa_nil (noSt_is n3 _ _)) rfl (few1 n3) ln2 (noSt_is n3 _ _) rfl
  have b4 := ps_if (pos := p5) hc.pt (pss_cons (ps_expr (pos := p4) b3) pss_nil) pss_nil
  have b5 := pss_cons b1 (pss_cons b4 pss_nil)
  refine ⟨_, ps_for c.po (c.toCxk.calm hcm) hi.pi pg b5 (noSet_fold ns X.env), fun B H0 ρ σ H D r p => ?_⟩
  have p : PostF G B H0 ((evI T it ρ).bind fun ds => (getOwn ρ i).bind fun d => match d with
    | .dct 0 [] [] => .iff (decide (i ∉ t.slots ∧ i ≠ j)) ((grpL (mask (ρ.set i none)) (grpF T t j eE) (fun ρ' => evT T cE ρ') (fun ρ' => evP T kE ρ') (fun ρ' => ev T xE ρ') ds (ρ.set i none) [] []).nox.bind fun r => .ok (.nx (r.1.set i (some (.own (.dct 0 r.2.1 (r.2.2.map .lst)))))))
    | _ => .stuck) D W := p
  refine hi.im B H0 ρ σ H _ r (PostF.bnd r p fun ds J H1 s1 wk p1 => ?_)
  obtain ⟨d, eo, p2⟩ := PostF.pure (fun _ _ => getOwn_noexc) p1
  split at p2
  · obtain ⟨cc, p3⟩ := PostF.iff p2
    have cc := of_decide_eq_true cc
    cases eg : grpL (mask (ρ.set i none)) (grpF T t j eE) (fun ρ' => evT T cE ρ') (fun ρ' => evP T kE ρ') (fun ρ' => ev T xE ρ') ds (ρ.set i none) [] [] with
    | stuck =>
      rw [eg] at p3
      exact p3.elim
    | exc a b =>
      rw [eg] at p3
      exact p3.elim
    | ok rr =>
      rw [eg] at p3
      exact grp_core hv hc hk hx hl hle rfl (r.mono s1) eo cc.1 cc.2 wk eg p3
  · exact p2.elim
end
end Ir

/-! Ir16: every statement; a def keeps its plain promise. -/
namespace Ir
open PySem L2 PyProof.Rows
section
variable {G : Gx} {M : Nms} {T : Tbl} {N : List Str} {sc : Scope} {lvl : Nat} {W : WX} {X : Cx}
mutual
theorem sound_S (F : Facts G M T lvl) (hcm : M.calm = true) (c : Cxs G M N sc lvl W X) : ∀ (s : S) {st : Stmt}, isS M N s sc st = true → ∃ ts, SS G T X W st s ts
  | .expr a, st, h => by
    unfold isS at h
    split at h
    · obtain ⟨h1, h2⟩ := bang h
      obtain ⟨⟨te, he⟩, _⟩ := sound_E F a c.toCxk h2
      exact ⟨_, ss_expr c h1 he⟩
    · cases h
  | .asg i a, st, h => by
    unfold isS at h
    split at h
    · obtain ⟨h, h4⟩ := bang h
      obtain ⟨h, h3⟩ := bang h
      obtain ⟨h1, h2⟩ := bang h
      exact (ss_name F c (of_decide_eq_true h1) h2 h3 h4).1
    · cases h
  | .asgO i a, st, h => by
    unfold isS at h
    split at h
    · obtain ⟨h, h4⟩ := bang h
      obtain ⟨h, h3⟩ := bang h
      obtain ⟨h1, h2⟩ := bang h
      exact (ss_name F c (of_decide_eq_true h1) h2 h3 h4).2
    · cases h
  | .asgT t a, st, h => by
    unfold isS at h
    split at h
    · obtain ⟨h, h5⟩ := bang h
      obtain ⟨h, h4⟩ := bang h
      obtain ⟨h, h3⟩ := bang h
      obtain ⟨h1, h2⟩ := bang h
      exact ss_asgT F hcm c h1 h2 h3 h4 h5
    · cases h
  | .par i j a b, st, h => by
    unfold isS at h
    split at h
    · obtain ⟨h, h5⟩ := bang h
      obtain ⟨h, h4⟩ := bang h
      obtain ⟨h, h3⟩ := bang h
      obtain ⟨h1, h2⟩ := bang h
      exact ss_par F hcm c (of_decide_eq_true h1) (of_decide_eq_true h2) h3 h4 h5
    · cases h
  | .aug i o a, st, h => by
    unfold isS at h
    split at h
    · obtain ⟨h, h5⟩ := bang h
      obtain ⟨h, h4⟩ := bang h
      obtain ⟨h, h3⟩ := bang h
      obtain ⟨h1, h2⟩ := bang h
      cases of_decide_eq_true h1
      exact ss_aug F c (of_decide_eq_true h2) (of_decide_eq_true h3) h4 h5
    · cases h
  | .app i a, st, h => by
    unfold isS at h
    split at h
    · obtain ⟨h, h7⟩ := bang h
      obtain ⟨h, h6⟩ := bang h
      obtain ⟨h, h5⟩ := bang h
      obtain ⟨h, h4⟩ := bang h
      obtain ⟨h, h3⟩ := bang h
      obtain ⟨h1, h2⟩ := bang h
      cases of_decide_eq_true h1
      exact ss_app F c (of_decide_eq_true h2) h3 h4 h5 h6 h7
    · cases h
  | .extn i a, st, h => by
    unfold isS at h
    split at h
    · obtain ⟨h, h7⟩ := bang h
      obtain ⟨h, h6⟩ := bang h
      obtain ⟨h, h5⟩ := bang h
      obtain ⟨h, h4⟩ := bang h
      obtain ⟨h, h3⟩ := bang h
      obtain ⟨h1, h2⟩ := bang h
      cases of_decide_eq_true h1
      exact ss_extn F c (of_decide_eq_true h2) h3 h4 h5 h6 h7
    · cases h
  | .put i b a, st, h => by
    unfold isS at h
    split at h
    · obtain ⟨h, h8⟩ := bang h
      obtain ⟨h, h7⟩ := bang h
      obtain ⟨h, h6⟩ := bang h
      obtain ⟨h, h5⟩ := bang h
      obtain ⟨h, h4⟩ := bang h
      obtain ⟨h, h3⟩ := bang h
      obtain ⟨h1, h2⟩ := bang h
      exact ss_put F c (of_decide_eq_true h1) h2 h3 h4 h5 h6 h7 h8
    · cases h
  | .setd i b a, st, h => by
    unfold isS at h
    split at h
    · obtain ⟨h, h9⟩ := bang h
      obtain ⟨h, h8⟩ := bang h
      obtain ⟨h, h7⟩ := bang h
      obtain ⟨h, h6⟩ := bang h
      obtain ⟨h, h5⟩ := bang h
      obtain ⟨h, h4⟩ := bang h
      obtain ⟨h, h3⟩ := bang h
      obtain ⟨h1, h2⟩ := bang h
      cases of_decide_eq_true h1
      exact ss_setd F c (of_decide_eq_true h2) h3 h4 h5 h6 h7 h8 h9
    · cases h
  | .ret a, st, h => by
    unfold isS at h
    split at h
    · exact ss_ret F c h
    · cases h
  | .retN, st, h => by
    unfold isS at h
    split at h
    · exact ⟨_, ss_retN⟩
    · cases h
  | .ife cc a b, st, h => by
    unfold isS at h
    split at h
    · obtain ⟨h, h3⟩ := bang h
      obtain ⟨h1, h2⟩ := bang h
      obtain ⟨_, tc, hc⟩ := sound_E F cc c.toCxk h1
      obtain ⟨t1, g1⟩ := sound_Ss F hcm c a h2
      obtain ⟨t2, g2⟩ := sound_Ss F hcm c b h3
      exact ⟨_, ss_ife hc g1 g2⟩
    · cases h
  | .for_ t it b, st, h => by
    unfold isS at h
    split at h
    · obtain ⟨h, h4⟩ := bang h
      obtain ⟨h, h3⟩ := bang h
      obtain ⟨h1, h2⟩ := bang h
      obtain ⟨wi, hi⟩ := sound_I F it c.toCxk h3
      obtain ⟨t1, g1⟩ := sound_Ss F hcm c b h4
      exact ⟨_, ss_for c hcm hi (sound_tg c.toCxk hcm (s' := sc) (fun x _ => .inl (c.fnt x)) t h1 h1) h2 g1⟩
    · cases h
  | .forD false t i b, st, h => by
    unfold isS at h
    split at h
    · obtain ⟨h, h5⟩ := bang h
      obtain ⟨h, h4⟩ := bang h
      obtain ⟨h, h3⟩ := bang h
      obtain ⟨h1, h2⟩ := bang h
      obtain ⟨t1, g1⟩ := sound_Ss F hcm c b h5
      exact ss_forK c hcm (of_decide_eq_true h2) h3 h4 (sound_tg c.toCxk hcm (s' := sc) (fun x _ => .inl (c.fnt x)) t h1 h1) g1
    · cases h
  | .forD true t i b, st, h => by
    unfold isS at h
    split at h
    · obtain ⟨h, h7⟩ := bang h
      obtain ⟨h, h6⟩ := bang h
      obtain ⟨h, h5⟩ := bang h
      obtain ⟨h, h4⟩ := bang h
      obtain ⟨h, h3⟩ := bang h
      obtain ⟨h1, h2⟩ := bang h
      obtain ⟨t1, g1⟩ := sound_Ss F hcm c b h7
      cases of_decide_eq_true h2
      exact ss_forI c hcm (of_decide_eq_true h4) h5 h6 h3 (sound_tg c.toCxk hcm (s' := sc) (fun x _ => .inl (c.fnt x)) t h1 h1) g1
    · cases h
  | .whl cc b, st, h => by
    unfold isS at h
    split at h
    · obtain ⟨h1, h2⟩ := bang h
      obtain ⟨_, tc, hc⟩ := sound_E F cc c.toCxk h1
      obtain ⟨t1, g1⟩ := sound_Ss F hcm c b h2
      exact ⟨_, ss_whl c hc g1⟩
    · cases h
  | .brk, st, h => by
    unfold isS at h
    split at h
    · exact ⟨_, ps_break, fun B H0 ρ σ H D r p => p σ H r⟩
    · cases h
  | .cnt, st, h => by
    unfold isS at h
    split at h
    · exact ⟨_, ps_continue, fun B H0 ρ σ H D r p => p σ H r⟩
    · cases h
  | .pass, st, h => by
    unfold isS at h
    split at h
    · exact ⟨_, ps_pass, fun B H0 ρ σ H D r p => p σ H r⟩
    · cases h
  | .nev, st, h => ⟨_, ss_nev⟩
  | .frz _, st, h => by cases h
  | .grp t it j e c' i k x, st, h => by
    unfold isS at h
    split at h
    · obtain ⟨h, h21⟩ := bang h
      obtain ⟨h, h20⟩ := bang h
      obtain ⟨h, h19⟩ := bang h
      obtain ⟨h, h18⟩ := bang h
      obtain ⟨h, h17⟩ := bang h
      obtain ⟨h, h16⟩ := bang h
      obtain ⟨h, h15⟩ := bang h
      obtain ⟨h, h14⟩ := bang h
      obtain ⟨h, h13⟩ := bang h
      obtain ⟨h, h12⟩ := bang h
      obtain ⟨h, h11⟩ := bang h
      obtain ⟨h, h10⟩ := bang h
      obtain ⟨h, h9⟩ := bang h
      obtain ⟨h, h8⟩ := bang h
      obtain ⟨h, h7⟩ := bang h
      obtain ⟨h, h6⟩ := bang h
      obtain ⟨h, h5⟩ := bang h
      obtain ⟨h, h4⟩ := bang h
      obtain ⟨h, h3⟩ := bang h
      obtain ⟨h1, h2⟩ := bang h
      cases of_decide_eq_true h4
      cases of_decide_eq_true h9
      cases of_decide_eq_true h10
      obtain ⟨wi, hi⟩ := sound_I F it c.toCxk h3
      obtain ⟨⟨te, he⟩, _⟩ := sound_E F e c.toCxk h7
      obtain ⟨tc, hc⟩ := (sound_E F c' c.toCxk h8).2
      obtain ⟨⟨tk, hk⟩, _⟩ := sound_E F k c.toCxk h19
      obtain ⟨⟨tx, hx⟩, _⟩ := sound_E F x c.toCxk h21
      exact ss_grp F hcm c hi (sound_tg c.toCxk hcm (s' := sc) (fun x _ => .inl (c.fnt x)) t h1 h1) h2 (of_decide_eq_true h5) h6 he hc (of_decide_eq_true h11) h12 h13 h14 h15 h16 h17 h18 hk h20 hx
    · cases h
  | .callio f l i, st, h => by
    unfold isS at h
    split at h
    · obtain ⟨h, h5⟩ := bang h
      obtain ⟨h, h4⟩ := bang h
      obtain ⟨h, h3⟩ := bang h
      obtain ⟨h1, h2⟩ := bang h
      obtain ⟨t, ht⟩ := sound_Lio (i := i) F c l h5
      exact ss_callio F hcm c (of_decide_eq_true h1) (of_decide_eq_true h4) h2 h3 ht
    · cases h
  | .popT t i, st, h => by
    unfold isS at h
    split at h
    · obtain ⟨h, h7⟩ := bang h
      obtain ⟨h, h6⟩ := bang h
      obtain ⟨h, h5⟩ := bang h
      obtain ⟨h, h4⟩ := bang h
      obtain ⟨h, h3⟩ := bang h
      obtain ⟨h1, h2⟩ := bang h
      cases of_decide_eq_true h3
      exact ss_popT F hcm c h1 h2 (of_decide_eq_true h4) h5 h6 h7
    · cases h
  | .appPop i j a, st, h => by
    unfold isS at h
    split at h
    · obtain ⟨h, h12⟩ := bang h
      obtain ⟨h, h11⟩ := bang h
      obtain ⟨h, h10⟩ := bang h
      obtain ⟨h, h9⟩ := bang h
      obtain ⟨h, h8⟩ := bang h
      obtain ⟨h, h7⟩ := bang h
      obtain ⟨h, h6⟩ := bang h
      obtain ⟨h, h5⟩ := bang h
      obtain ⟨h, h4⟩ := bang h
      obtain ⟨h, h3⟩ := bang h
      obtain ⟨h1, h2⟩ := bang h
      cases of_decide_eq_true h1
      cases of_decide_eq_true h2
      exact ss_appPop F c (of_decide_eq_true h3) h4 h5 h6 (of_decide_eq_true h7) h8 h9 h10 h11 h12
    · cases h
  | .raise cn, st, h => by
    unfold isS at h
    split at h
    · obtain ⟨h, h3⟩ := bang h
      obtain ⟨h1, h2⟩ := bang h
      cases of_decide_eq_true h1
      exact ss_raise F hcm c h2 h3
    · cases h
  | .tryE b x i q, st, h => by
    unfold isS at h
    split at h
    · obtain ⟨h, h8⟩ := bang h
      obtain ⟨h, h7⟩ := bang h
      obtain ⟨h, h6⟩ := bang h
      obtain ⟨h, h5⟩ := bang h
      obtain ⟨h, h4⟩ := bang h
      obtain ⟨h, h3⟩ := bang h
      obtain ⟨h1, h2⟩ := bang h
      cases of_decide_eq_true h1
      exact ss_tryE F c (of_decide_eq_true h2) (of_decide_eq_true h3) h4 h5 h6 h7 h8
    · cases h
  | .tryI cc a b x i q, st, h => by
    unfold isS at h
    split at h
    · obtain ⟨h, h11⟩ := bang h
      obtain ⟨h, h10⟩ := bang h
      obtain ⟨h, h9⟩ := bang h
      obtain ⟨h, h8⟩ := bang h
      obtain ⟨h, h7⟩ := bang h
      obtain ⟨h, h6⟩ := bang h
      obtain ⟨h, h5⟩ := bang h
      obtain ⟨h, h4⟩ := bang h
      obtain ⟨h, h3⟩ := bang h
      obtain ⟨h1, h2⟩ := bang h
      cases of_decide_eq_true h1
      exact ss_tryI F c (of_decide_eq_true h2) (of_decide_eq_true h3) h4 h5 h6 h7 h8 h9 h10 h11
    · cases h
  | .nest _ _ _, st, h => by cases h
  | .frzN _ _, st, h => by cases h
  | .appN o j a, st, h => by
    unfold isS at h
    split at h
    · obtain ⟨h, h6⟩ := bang h
      obtain ⟨h, h5⟩ := bang h
      obtain ⟨h, h4⟩ := bang h
      obtain ⟨h, h3⟩ := bang h
      obtain ⟨h1, h2⟩ := bang h
      cases of_decide_eq_true h1
      exact ss_appN F c h2 h3 h4 h5 h6
    · cases h
  | .ext _ _, st, h => by cases h
theorem sound_Ss (F : Facts G M T lvl) (hcm : M.calm = true) (c : Cxs G M N sc lvl W X) : ∀ (s : Ss) {sts : List Stmt}, isSs M N s sc sts = true → ∃ ts, SSs G T X W sts s ts
  | .nil, sts, h => by
    cases sts with
    | nil => exact ⟨_, sss_nil⟩
    | cons _ _ => cases h
  | .cons (.frz i) l, sts, h => by
    obtain ⟨t, ht⟩ := sound_Ss F hcm c l (sts := sts) (by unfold isSs at h; exact h)
    exact ⟨_, sss_frz ht⟩
  | .cons (.frzN i js) l, sts, h => by
    obtain ⟨t, ht⟩ := sound_Ss F hcm c l (sts := sts) (by unfold isSs at h; exact h)
    exact ⟨_, sss_frzN ht⟩
  | .cons (.nest i js b) l, sts, h => by
    unfold isSs at h
    dsimp only at h
    split at h
    · obtain ⟨h, h7⟩ := bang h
      obtain ⟨h, h6⟩ := bang h
      obtain ⟨h, h5⟩ := bang h
      obtain ⟨h, h4⟩ := bang h
      obtain ⟨h, h3⟩ := bang h
      obtain ⟨h1, h2⟩ := bang h
      obtain ⟨t, ht⟩ := sound_Ss F hcm c b h7
      exact sss_nest c (of_decide_eq_true h1) h2 h3 (of_decide_eq_true h4) (of_decide_eq_true h5) h6 ht
    · cases h
  | .cons (.appN o j a) l, sts, h => by
    cases sts with
    | nil => cases h
    | cons st sts =>
      have h : (isS M N (.appN o j a) sc st && isSs M N l sc sts) = true := h
      obtain ⟨h1, h2⟩ := bang h
      obtain ⟨t1, g1⟩ := sound_S F hcm c (.appN o j a) h1
      obtain ⟨t2, g2⟩ := sound_Ss F hcm c l h2
      exact ⟨_, sss_cons g1 g2⟩
  | .cons (.raise cn) l, sts, h => by
    cases sts with
    | nil => cases h
    | cons st sts =>
      have h : (isS M N (.raise cn) sc st && isSs M N l sc sts) = true := h
      obtain ⟨h1, h2⟩ := bang h
      obtain ⟨t1, g1⟩ := sound_S F hcm c (.raise cn) h1
      obtain ⟨t2, g2⟩ := sound_Ss F hcm c l h2
      exact ⟨_, sss_cons g1 g2⟩
  | .cons (.tryE b x i q) l, sts, h => by
    cases sts with
    | nil => cases h
    | cons st sts =>
      have h : (isS M N (.tryE b x i q) sc st && isSs M N l sc sts) = true := h
      obtain ⟨h1, h2⟩ := bang h
      obtain ⟨t1, g1⟩ := sound_S F hcm c (.tryE b x i q) h1
      obtain ⟨t2, g2⟩ := sound_Ss F hcm c l h2
      exact ⟨_, sss_cons g1 g2⟩
  | .cons (.tryI cc a b x i q) l, sts, h => by
    cases sts with
    | nil => cases h
    | cons st sts =>
      have h : (isS M N (.tryI cc a b x i q) sc st && isSs M N l sc sts) = true := h
      obtain ⟨h1, h2⟩ := bang h
      obtain ⟨t1, g1⟩ := sound_S F hcm c (.tryI cc a b x i q) h1
      obtain ⟨t2, g2⟩ := sound_Ss F hcm c l h2
      exact ⟨_, sss_cons g1 g2⟩
  | .cons (.expr a) l, sts, h => by
    cases sts with
    | nil => cases h
    | cons st sts =>
      have h : (isS M N (.expr a) sc st && isSs M N l sc sts) = true := h
      obtain ⟨h1, h2⟩ := bang h
      obtain ⟨t1, g1⟩ := sound_S F hcm c (.expr a) h1
      obtain ⟨t2, g2⟩ := sound_Ss F hcm c l h2
      exact ⟨_, sss_cons g1 g2⟩
  | .cons (.asg i a) l, sts, h => by
    cases sts with
    | nil => cases h
    | cons st sts =>
      have h : (isS M N (.asg i a) sc st && isSs M N l sc sts) = true := h
      obtain ⟨h1, h2⟩ := bang h
      obtain ⟨t1, g1⟩ := sound_S F hcm c (.asg i a) h1
      obtain ⟨t2, g2⟩ := sound_Ss F hcm c l h2
      exact ⟨_, sss_cons g1 g2⟩
  | .cons (.asgO i a) l, sts, h => by
    cases sts with
    | nil => cases h
    | cons st sts =>
      have h : (isS M N (.asgO i a) sc st && isSs M N l sc sts) = true := h
      obtain ⟨h1, h2⟩ := bang h
      obtain ⟨t1, g1⟩ := sound_S F hcm c (.asgO i a) h1
      obtain ⟨t2, g2⟩ := sound_Ss F hcm c l h2
      exact ⟨_, sss_cons g1 g2⟩
  | .cons (.asgT t a) l, sts, h => by
    cases sts with
    | nil => cases h
    | cons st sts =>
      have h : (isS M N (.asgT t a) sc st && isSs M N l sc sts) = true := h
      obtain ⟨h1, h2⟩ := bang h
      obtain ⟨t1, g1⟩ := sound_S F hcm c (.asgT t a) h1
      obtain ⟨t2, g2⟩ := sound_Ss F hcm c l h2
      exact ⟨_, sss_cons g1 g2⟩
  | .cons (.par i j a b) l, sts, h => by
    cases sts with
    | nil => cases h
    | cons st sts =>
      have h : (isS M N (.par i j a b) sc st && isSs M N l sc sts) = true := h
      obtain ⟨h1, h2⟩ := bang h
      obtain ⟨t1, g1⟩ := sound_S F hcm c (.par i j a b) h1
      obtain ⟨t2, g2⟩ := sound_Ss F hcm c l h2
      exact ⟨_, sss_cons g1 g2⟩
  | .cons (.aug i o a) l, sts, h => by
    cases sts with
    | nil => cases h
    | cons st sts =>
      have h : (isS M N (.aug i o a) sc st && isSs M N l sc sts) = true := h
      obtain ⟨h1, h2⟩ := bang h
      obtain ⟨t1, g1⟩ := sound_S F hcm c (.aug i o a) h1
      obtain ⟨t2, g2⟩ := sound_Ss F hcm c l h2
      exact ⟨_, sss_cons g1 g2⟩
  | .cons (.app i a) l, sts, h => by
    cases sts with
    | nil => cases h
    | cons st sts =>
      have h : (isS M N (.app i a) sc st && isSs M N l sc sts) = true := h
      obtain ⟨h1, h2⟩ := bang h
      obtain ⟨t1, g1⟩ := sound_S F hcm c (.app i a) h1
      obtain ⟨t2, g2⟩ := sound_Ss F hcm c l h2
      exact ⟨_, sss_cons g1 g2⟩
  | .cons (.extn i a) l, sts, h => by
    cases sts with
    | nil => cases h
    | cons st sts =>
      have h : (isS M N (.extn i a) sc st && isSs M N l sc sts) = true := h
      obtain ⟨h1, h2⟩ := bang h
      obtain ⟨t1, g1⟩ := sound_S F hcm c (.extn i a) h1
      obtain ⟨t2, g2⟩ := sound_Ss F hcm c l h2
      exact ⟨_, sss_cons g1 g2⟩
  | .cons (.put i k a) l, sts, h => by
    cases sts with
    | nil => cases h
    | cons st sts =>
      have h : (isS M N (.put i k a) sc st && isSs M N l sc sts) = true := h
      obtain ⟨h1, h2⟩ := bang h
      obtain ⟨t1, g1⟩ := sound_S F hcm c (.put i k a) h1
      obtain ⟨t2, g2⟩ := sound_Ss F hcm c l h2
      exact ⟨_, sss_cons g1 g2⟩
  | .cons (.setd i k a) l, sts, h => by
    cases sts with
    | nil => cases h
    | cons st sts =>
      have h : (isS M N (.setd i k a) sc st && isSs M N l sc sts) = true := h
      obtain ⟨h1, h2⟩ := bang h
      obtain ⟨t1, g1⟩ := sound_S F hcm c (.setd i k a) h1
      obtain ⟨t2, g2⟩ := sound_Ss F hcm c l h2
      exact ⟨_, sss_cons g1 g2⟩
  | .cons (.ret a) l, sts, h => by
    cases sts with
    | nil => cases h
    | cons st sts =>
      have h : (isS M N (.ret a) sc st && isSs M N l sc sts) = true := h
      obtain ⟨h1, h2⟩ := bang h
      obtain ⟨t1, g1⟩ := sound_S F hcm c (.ret a) h1
      obtain ⟨t2, g2⟩ := sound_Ss F hcm c l h2
      exact ⟨_, sss_cons g1 g2⟩
  | .cons .retN l, sts, h => by
    cases sts with
    | nil => cases h
    | cons st sts =>
      have h : (isS M N .retN sc st && isSs M N l sc sts) = true := h
      obtain ⟨h1, h2⟩ := bang h
      obtain ⟨t1, g1⟩ := sound_S F hcm c .retN h1
      obtain ⟨t2, g2⟩ := sound_Ss F hcm c l h2
      exact ⟨_, sss_cons g1 g2⟩
  | .cons (.ife c0 a b) l, sts, h => by
    cases sts with
    | nil => cases h
    | cons st sts =>
      have h : (isS M N (.ife c0 a b) sc st && isSs M N l sc sts) = true := h
      obtain ⟨h1, h2⟩ := bang h
      obtain ⟨t1, g1⟩ := sound_S F hcm c (.ife c0 a b) h1
      obtain ⟨t2, g2⟩ := sound_Ss F hcm c l h2
      exact ⟨_, sss_cons g1 g2⟩
  | .cons (.for_ t it b) l, sts, h => by
    cases sts with
    | nil => cases h
    | cons st sts =>
      have h : (isS M N (.for_ t it b) sc st && isSs M N l sc sts) = true := h
      obtain ⟨h1, h2⟩ := bang h
      obtain ⟨t1, g1⟩ := sound_S F hcm c (.for_ t it b) h1
      obtain ⟨t2, g2⟩ := sound_Ss F hcm c l h2
      exact ⟨_, sss_cons g1 g2⟩
  | .cons (.forD m t i b) l, sts, h => by
    cases sts with
    | nil => cases h
    | cons st sts =>
      have h : (isS M N (.forD m t i b) sc st && isSs M N l sc sts) = true := h
      obtain ⟨h1, h2⟩ := bang h
      obtain ⟨t1, g1⟩ := sound_S F hcm c (.forD m t i b) h1
      obtain ⟨t2, g2⟩ := sound_Ss F hcm c l h2
      exact ⟨_, sss_cons g1 g2⟩
  | .cons (.whl c0 b) l, sts, h => by
    cases sts with
    | nil => cases h
    | cons st sts =>
      have h : (isS M N (.whl c0 b) sc st && isSs M N l sc sts) = true := h
      obtain ⟨h1, h2⟩ := bang h
      obtain ⟨t1, g1⟩ := sound_S F hcm c (.whl c0 b) h1
      obtain ⟨t2, g2⟩ := sound_Ss F hcm c l h2
      exact ⟨_, sss_cons g1 g2⟩
  | .cons .brk l, sts, h => by
    cases sts with
    | nil => cases h
    | cons st sts =>
      have h : (isS M N .brk sc st && isSs M N l sc sts) = true := h
      obtain ⟨h1, h2⟩ := bang h
      obtain ⟨t1, g1⟩ := sound_S F hcm c .brk h1
      obtain ⟨t2, g2⟩ := sound_Ss F hcm c l h2
      exact ⟨_, sss_cons g1 g2⟩
  | .cons .cnt l, sts, h => by
    cases sts with
    | nil => cases h
    | cons st sts =>
      have h : (isS M N .cnt sc st && isSs M N l sc sts) = true := h
      obtain ⟨h1, h2⟩ := bang h
      obtain ⟨t1, g1⟩ := sound_S F hcm c .cnt h1
      obtain ⟨t2, g2⟩ := sound_Ss F hcm c l h2
      exact ⟨_, sss_cons g1 g2⟩
  | .cons .pass l, sts, h => by
    cases sts with
    | nil => cases h
    | cons st sts =>
      have h : (isS M N .pass sc st && isSs M N l sc sts) = true := h
      obtain ⟨h1, h2⟩ := bang h
      obtain ⟨t1, g1⟩ := sound_S F hcm c .pass h1
      obtain ⟨t2, g2⟩ := sound_Ss F hcm c l h2
      exact ⟨_, sss_cons g1 g2⟩
  | .cons .nev l, sts, h => by
    cases sts with
    | nil => cases h
    | cons st sts =>
      have h : (isS M N .nev sc st && isSs M N l sc sts) = true := h
      obtain ⟨h1, h2⟩ := bang h
      obtain ⟨t1, g1⟩ := sound_S F hcm c .nev h1
      obtain ⟨t2, g2⟩ := sound_Ss F hcm c l h2
      exact ⟨_, sss_cons g1 g2⟩
  | .cons (.grp t it j e c' i k x) l, sts, h => by
    cases sts with
    | nil => cases h
    | cons st sts =>
      have h : (isS M N (.grp t it j e c' i k x) sc st && isSs M N l sc sts) = true := h
      obtain ⟨h1, h2⟩ := bang h
      obtain ⟨t1, g1⟩ := sound_S F hcm c (.grp t it j e c' i k x) h1
      obtain ⟨t2, g2⟩ := sound_Ss F hcm c l h2
      exact ⟨_, sss_cons g1 g2⟩
  | .cons (.callio f l0 i) l, sts, h => by
    cases sts with
    | nil => cases h
    | cons st sts =>
      have h : (isS M N (.callio f l0 i) sc st && isSs M N l sc sts) = true := h
      obtain ⟨h1, h2⟩ := bang h
      obtain ⟨t1, g1⟩ := sound_S F hcm c (.callio f l0 i) h1
      obtain ⟨t2, g2⟩ := sound_Ss F hcm c l h2
      exact ⟨_, sss_cons g1 g2⟩
  | .cons (.popT t i) l, sts, h => by
    cases sts with
    | nil => cases h
    | cons st sts =>
      have h : (isS M N (.popT t i) sc st && isSs M N l sc sts) = true := h
      obtain ⟨h1, h2⟩ := bang h
      obtain ⟨t1, g1⟩ := sound_S F hcm c (.popT t i) h1
      obtain ⟨t2, g2⟩ := sound_Ss F hcm c l h2
      exact ⟨_, sss_cons g1 g2⟩
  | .cons (.appPop i j a) l, sts, h => by
    cases sts with
    | nil => cases h
    | cons st sts =>
      have h : (isS M N (.appPop i j a) sc st && isSs M N l sc sts) = true := h
      obtain ⟨h1, h2⟩ := bang h
      obtain ⟨t1, g1⟩ := sound_S F hcm c (.appPop i j a) h1
      obtain ⟨t2, g2⟩ := sound_Ss F hcm c l h2
      exact ⟨_, sss_cons g1 g2⟩
  | .cons (.ext n l0) l, sts, h => by
    cases sts with
    | nil => cases h
    | cons st sts =>
      have h : (isS M N (.ext n l0) sc st && isSs M N l sc sts) = true := h
      obtain ⟨h1, h2⟩ := bang h
      obtain ⟨t1, g1⟩ := sound_S F hcm c (.ext n l0) h1
      obtain ⟨t2, g2⟩ := sound_Ss F hcm c l h2
      exact ⟨_, sss_cons g1 g2⟩
end
theorem isSs_calm {M : Nms} {N : List Str} {sc : Scope} : ∀ (b : Ss) {es : List Stmt}, isSs M N b sc es = true → M.calm = true
  | .nil, es, h => by
    cases es with
    | nil => exact h
    | cons e es => cases h
  | .cons (.frz i) l, es, h => isSs_calm l (es := es) (by unfold isSs at h; exact h)
  | .cons (.frzN i js) l, es, h => isSs_calm l (es := es) (by unfold isSs at h; exact h)
  | .cons (.nest i js b) l, es, h => by
    unfold isSs at h
    dsimp only at h
    split at h
    · exact isSs_calm b (bang h).2
    · cases h
  | .cons (.expr _) l, es, h => by
    cases es with
    | nil => cases h
    | cons e es => exact isSs_calm l (bang (show (isS M N _ sc e && isSs M N l sc es) = true from h)).2
  | .cons (.asg _ _) l, es, h => by
    cases es with
    | nil => cases h
    | cons e es => exact isSs_calm l (bang (show (isS M N _ sc e && isSs M N l sc es) = true from h)).2
  | .cons (.asgO _ _) l, es, h => by
    cases es with
    | nil => cases h
    | cons e es => exact isSs_calm l (bang (show (isS M N _ sc e && isSs M N l sc es) = true from h)).2
  | .cons (.asgT _ _) l, es, h => by
    cases es with
    | nil => cases h
    | cons e es => exact isSs_calm l (bang (show (isS M N _ sc e && isSs M N l sc es) = true from h)).2
  | .cons (.par _ _ _ _) l, es, h => by
    cases es with
    | nil => cases h
    | cons e es => exact isSs_calm l (bang (show (isS M N _ sc e && isSs M N l sc es) = true from h)).2
  | .cons (.aug _ _ _) l, es, h => by
    cases es with
    | nil => cases h
    | cons e es => exact isSs_calm l (bang (show (isS M N _ sc e && isSs M N l sc es) = true from h)).2
  | .cons (.app _ _) l, es, h => by
    cases es with
    | nil => cases h
    | cons e es => exact isSs_calm l (bang (show (isS M N _ sc e && isSs M N l sc es) = true from h)).2
  | .cons (.extn _ _) l, es, h => by
    cases es with
    | nil => cases h
    | cons e es => exact isSs_calm l (bang (show (isS M N _ sc e && isSs M N l sc es) = true from h)).2
  | .cons (.put _ _ _) l, es, h => by
    cases es with
    | nil => cases h
    | cons e es => exact isSs_calm l (bang (show (isS M N _ sc e && isSs M N l sc es) = true from h)).2
  | .cons (.setd _ _ _) l, es, h => by
    cases es with
    | nil => cases h
    | cons e es => exact isSs_calm l (bang (show (isS M N _ sc e && isSs M N l sc es) = true from h)).2
  | .cons (.ret _) l, es, h => by
    cases es with
    | nil => cases h
    | cons e es => exact isSs_calm l (bang (show (isS M N _ sc e && isSs M N l sc es) = true from h)).2
  | .cons (.retN) l, es, h => by
    cases es with
    | nil => cases h
    | cons e es => exact isSs_calm l (bang (show (isS M N _ sc e && isSs M N l sc es) = true from h)).2
  | .cons (.ife _ _ _) l, es, h => by
    cases es with
    | nil => cases h
    | cons e es => exact isSs_calm l (bang (show (isS M N _ sc e && isSs M N l sc es) = true from h)).2
  | .cons (.for_ _ _ _) l, es, h => by
    cases es with
    | nil => cases h
    | cons e es => exact isSs_calm l (bang (show (isS M N _ sc e && isSs M N l sc es) = true from h)).2
  | .cons (.whl _ _) l, es, h => by
    cases es with
    | nil => cases h
    | cons e es => exact isSs_calm l (bang (show (isS M N _ sc e && isSs M N l sc es) = true from h)).2
  | .cons (.brk) l, es, h => by
    cases es with
    | nil => cases h
    | cons e es => exact isSs_calm l (bang (show (isS M N _ sc e && isSs M N l sc es) = true from h)).2
  | .cons (.cnt) l, es, h => by
    cases es with
    | nil => cases h
    | cons e es => exact isSs_calm l (bang (show (isS M N _ sc e && isSs M N l sc es) = true from h)).2
  | .cons (.pass) l, es, h => by
    cases es with
    | nil => cases h
    | cons e es => exact isSs_calm l (bang (show (isS M N _ sc e && isSs M N l sc es) = true from h)).2
  | .cons (.nev) l, es, h => by
    cases es with
    | nil => cases h
    | cons e es => exact isSs_calm l (bang (show (isS M N .nev sc e && isSs M N l sc es) = true from h)).2
  | .cons (.callio _ _ _) l, es, h => by
    cases es with
    | nil => cases h
    | cons e es => exact isSs_calm l (bang (show (isS M N _ sc e && isSs M N l sc es) = true from h)).2
  | .cons (.popT _ _) l, es, h => by
    cases es with
    | nil => cases h
    | cons e es => exact isSs_calm l (bang (show (isS M N _ sc e && isSs M N l sc es) = true from h)).2
  | .cons (.appPop _ _ _) l, es, h => by
    cases es with
    | nil => cases h
    | cons e es => exact isSs_calm l (bang (show (isS M N _ sc e && isSs M N l sc es) = true from h)).2
  | .cons (.forD _ _ _ _) l, es, h => by
    cases es with
    | nil => cases h
    | cons e es => exact isSs_calm l (bang (show (isS M N _ sc e && isSs M N l sc es) = true from h)).2
  | .cons (.grp _ _ _ _ _ _ _ _) l, es, h => by
    cases es with
    | nil => cases h
    | cons e es => exact isSs_calm l (bang (show (isS M N _ sc e && isSs M N l sc es) = true from h)).2
  | .cons (.raise _) l, es, h => by
    cases es with
    | nil => cases h
    | cons e es => exact isSs_calm l (bang (show (isS M N _ sc e && isSs M N l sc es) = true from h)).2
  | .cons (.tryE _ _ _ _) l, es, h => by
    cases es with
    | nil => cases h
    | cons e es => exact isSs_calm l (bang (show (isS M N _ sc e && isSs M N l sc es) = true from h)).2
  | .cons (.tryI _ _ _ _ _ _) l, es, h => by
    cases es with
    | nil => cases h
    | cons e es => exact isSs_calm l (bang (show (isS M N _ sc e && isSs M N l sc es) = true from h)).2
  | .cons (.appN _ _ _) l, es, h => by
    cases es with
    | nil => cases h
    | cons e es => exact isSs_calm l (bang (show (isS M N _ sc e && isSs M N l sc es) = true from h)).2
  | .cons (.ext u1 u2) l, es, h => by
    cases es with
    | nil => cases h
    | cons e es => exact isSs_calm l (bang (show (isS M N (.ext u1 u2) sc e && isSs M N l sc es) = true from h)).2
end
end Ir

/-! Ir17: defs; what the top leaves. -/
namespace Ir
open PySem L2 PyProof.Rows
/-! ### a def's promise -/
def spB (G : Gx) (n : Nat) (F : List D → R D) : Sp := fun vs H Q E => vs.length = n ∧ ∃ B args, Dom B H ∧ Tbs G H ∧ reps G B H args vs ∧ PostG G (fun H => rep G B H) H (F args) Q E
theorem start_at {args : List D} {m : Nat} {i : Nat} {x : SV} (e : (args.map (fun d => some (SV.im d)) ++ List.replicate m none)[i]? = some (some x)) : ∃ d, args[i]? = some d ∧ x = .im d := by
  by_cases c : i < args.length
  · rw [List.getElem?_append_left (by rw [List.length_map]; exact c), List.getElem?_map] at e
    cases q : args[i]? with
    | none =>
      rw [q] at e
      cases e
    | some d =>
      rw [q] at e
      exact ⟨d, rfl, (Option.some.inj (Option.some.inj e)).symm⟩
  · rw [List.getElem?_append_right (by rw [List.length_map]; omega)] at e
    have z := List.mem_of_getElem? e
    rw [List.mem_replicate] at z
    exact absurd z.2 (by simp)
theorem start_rel {G : Gx} {B : Addr → Prop} {H : Hp} {args : List D} {vs : List V} {N : List Str} (dm : Dom B H) (tb : Tbs G H) (h : reps G B H args vs) : RelS G B H (args.map (fun d => some (SV.im d)) ++ List.replicate (N.length - args.length) none) (L2.start N vs) H := by
  have hl := reps_len h
  have nb : ∀ a, Blk B (args.map (fun d => some (SV.im d)) ++ List.replicate (N.length - args.length) none) (L2.start N vs) a → B a := fun a z => by
    rcases z with z | ⟨j, x, e, e1, w, e2⟩
    · exact z
    · obtain ⟨d, _, rfl⟩ := start_at e1
      cases w
  refine ⟨?_, Same.refl H, tb, dm, fun i d e => ?_, fun i x d e w => ?_, fun i j x y d e a h1 w => ?_⟩
  · unfold L2.start
    rw [List.length_append, List.length_append, List.length_map, List.length_map, List.length_replicate, List.length_replicate, hl]
  · obtain ⟨d', e1, q⟩ := start_at e
    cases q
    obtain ⟨v, e2, q⟩ := reps_get h e1
    refine ⟨v, ?_, rep_anti nb q⟩
    have lt : i < vs.length := (List.getElem?_eq_some_iff.mp e2).1
    unfold L2.start
    rw [List.getElem?_append_left (by rw [List.length_map]; exact lt), List.getElem?_map, e2]
    rfl
  · obtain ⟨d', e1, rfl⟩ := start_at e
    cases w
  · obtain ⟨d', e1, rfl⟩ := start_at h1
    cases w
/-- .. where the last argument is one to be written -/
theorem startIo_at {args : List D} {a : Addr} {d : D} {m : Nat} {i : Nat} {x : SV} (e : (args.map (fun d => some (SV.im d)) ++ some (SV.io a d) :: List.replicate m none)[i]? = some (some x)) : (∃ d, args[i]? = some d ∧ x = .im d) ∨ (i = args.length ∧ x = .io a d) := by
  by_cases c : i < args.length
  · rw [List.getElem?_append_left (by rw [List.length_map]; exact c), List.getElem?_map] at e
    cases q : args[i]? with
    | none =>
      rw [q] at e
      cases e
    | some d =>
      rw [q] at e
      exact .inl ⟨d, rfl, (Option.some.inj (Option.some.inj e)).symm⟩
  · rw [List.getElem?_append_right (by rw [List.length_map]; omega), List.length_map] at e
    by_cases z : i = args.length
    · subst z
      rw [Nat.sub_self] at e
      exact .inr ⟨rfl, (Option.some.inj (Option.some.inj e)).symm⟩
    · obtain ⟨k, hk⟩ : ∃ k, i - args.length = k + 1 := ⟨i - args.length - 1, by omega⟩
      rw [hk, List.getElem?_cons_succ] at e
      have z := List.mem_of_getElem? e
      rw [List.mem_replicate] at z
      exact absurd z.2 (by simp)
theorem startIo_rel {G : Gx} {B : Addr → Prop} {H : Hp} {args : List D} {vs : List V} {N : List Str} {a : Addr} {d : D} (dm : Dom B H) (tb : Tbs G H) (na : ¬ B a) (h : reps G (fun b => b = a ∨ B b) H args vs) (ho : ownR G (fun b => b = a ∨ B b) H a d) (hn : args.length + 1 ≤ N.length) :
    RelS G B (del H a) (args.map (fun d => some (SV.im d)) ++ some (.io a d) :: List.replicate (N.length - (args.length + 1)) none) (L2.start N (vs ++ [.ref a])) H := by
  have hl := reps_len h
  have nb : ∀ b, Blk B (args.map (fun d => some (SV.im d)) ++ some (.io a d) :: List.replicate (N.length - (args.length + 1)) none) (L2.start N (vs ++ [.ref a])) b → b = a ∨ B b := fun b z => by
    rcases z with z | ⟨j, x, e, e1, w, e2⟩
    · exact .inr z
    · rcases startIo_at e1 with ⟨d, _, rfl⟩ | ⟨rfl, rfl⟩
      · cases w
      · unfold L2.start at e2
        rw [List.getElem?_append_left (by rw [List.length_map, List.length_append, hl]; simp), List.getElem?_map, List.getElem?_append_right (by omega)] at e2
        rw [hl, Nat.sub_self] at e2
        cases e2
        exact .inl rfl
  refine ⟨?_, Same.del a, tb, dm, fun i e h1 => ?_, fun i x e h1 w => ?_, fun i j x y e e' b h1 w h2 w' _ _ => ?_⟩
  · unfold L2.start
    rw [List.length_append, List.length_append, List.length_map, List.length_map, List.length_cons, List.length_replicate, List.length_replicate, List.length_append, hl]
    show args.length + (N.length - (args.length + 1) + 1) = args.length + 1 + (N.length - (args.length + 1))
    omega
  · rcases startIo_at h1 with ⟨d', e1, q⟩ | ⟨_, q⟩
    · cases q
      obtain ⟨v, e2, q⟩ := reps_get h e1
      refine ⟨v, ?_, rep_anti nb q⟩
      have lt : i < vs.length := (List.getElem?_eq_some_iff.mp e2).1
      unfold L2.start
      rw [List.getElem?_append_left (by rw [List.length_map, List.length_append]; omega), List.getElem?_map, List.getElem?_append_left lt, e2]
      rfl
    · cases q
  · rcases startIo_at h1 with ⟨d', e1, rfl⟩ | ⟨rfl, rfl⟩
    · cases w
    · cases w
      refine ⟨a, rfl, ?_, ⟨del_same, na⟩, ho.keep rfl (fun _ _ h _ _ => h) fun b _ _ => nb b⟩
      unfold L2.start
      rw [List.getElem?_append_left (by rw [List.length_map, List.length_append, hl]; simp), List.getElem?_map, List.getElem?_append_right (by omega), hl, Nat.sub_self]
      rfl
  · rcases startIo_at h1 with ⟨d', e1, rfl⟩ | ⟨rfl, rfl⟩
    · cases w
    · rcases startIo_at h2 with ⟨d', e1, rfl⟩ | ⟨rfl, rfl⟩
      · cases w'
      · rfl
/-- what the making of lambdas wants of the def at hand -/
def LamF (G : Gx) (qual : Str) (fd : FuncData) : Prop := ∃ c P, fd.code = .ref c ∧ LamX.TabB G.base G.mg c P ∧ (P, (qual ++ ".<locals>.") ++ "<lambda>") ∈ G.tb ∧ ∀ p ∈ G.tb, p.1 = P → p.2 = (qual ++ ".<locals>.") ++ "<lambda>"
section
variable {G : Gx} {M : Nms} {T : Tbl} {N ps : List Str} {lvl lv : Nat} {x qual : Str} {params : Arguments} {bd : List Stmt} {scope : Scope} {dvs : List V} {kws : List (Str × V)} {f : Addr} {fd : FuncData} {b : Ss}
theorem fn_run {sp : Sp} (F : FunD G.K x qual params bd scope dvs kws f fd) (S : FnScope N ps scope) (Fa : Facts G M T lvl) (form : isSs M N b scope bd = true) (hl : lvl ≤ lv) (hk : M.key = none ∨ lvl + 1 ≤ lv) (hlam : M.lam = none ∨ LamF G qual fd)
    (len : ∀ vs H Q E, sp vs H Q E → vs.length = ps.length)
    (h : ∀ vs H Q E, sp vs H Q E → ∃ B H0 ρ, RelS G B H0 ρ (L2.start N vs) H ∧ PostF G B H0 (exSs T b ρ) { nx := fun _ H' => Q .non H', rt := Q } (fun cls d _ H => E cls d H)) :
    FnOk G.P G.w G.K G.mg G.base (L2.CX G.P G.w) (lv + 1) f fd ps sp := by
  obtain ⟨oc, od, dV, kV, doc, pm, an, cdv, ct, osl, efd, lk, hcd, _, _⟩ := F.ex
  subst efd
  refine fn_of lk hcd S len fun A outer s H vs Q E hr hsp => ?_
  have tk : Takes (cxOf (L2.CX G.P G.w) G.P G.w G.K G.mg G.base N qual scope f cdv A outer s H E) (fun cls d _ H => E cls d H) := takes_of rfl rfl rfl rfl
  have c : Cxs G M N scope lvl (fun cls d _ H => E cls d H) (cxOf (L2.CX G.P G.w) G.P G.w G.K G.mg G.base N qual scope f cdv A outer s H E) :=
    ⟨⟨⟨rfl, rfl, rfl, rfl, rfl⟩, S.nd, rfl, rfl, (fun _ => rfl), (fun _ => hr.mono hl), (by have := hr.un; show (A.deeper (envOfC qual scope s.heap.objs.size f cdv)).units + 200 < cLine; omega), tk, fun z => by
      rcases hk with hk | hk
      · rw [hk] at z
        cases z
      · exact hr.mono hk, fun z => by
      rcases hlam with hk | hk
      · rw [hk] at z
        cases z
      · exact hk⟩, passes_of rfl, fun _ => rfl, rfl, rfl, rfl, S.kind⟩
  obtain ⟨t, ht⟩ := sound_Ss Fa (isSs_calm b form) c b form
  obtain ⟨B, H0, ρ, r, p⟩ := h vs H Q E hsp
  exact ⟨t, ht.ps, ht.k B H0 ρ _ H _ r p⟩
theorem fn_body (F : FunD G.K x qual params bd scope dvs kws f fd) (S : FnScope N ps scope) (Fa : Facts G M T lvl) (form : isSs M N b scope bd = true) (hl : lvl ≤ lv) (hk : M.key = none ∨ lvl + 1 ≤ lv) (hlam : M.lam = none ∨ LamF G qual fd) :
    FnOk G.P G.w G.K G.mg G.base (L2.CX G.P G.w) (lv + 1) f fd ps (spB G ps.length (body T N.length b)) := by
  refine fn_run F S Fa form hl hk hlam (fun vs H Q E h => h.1) fun vs H Q E h => ?_
  obtain ⟨hl, B, args, dm, tb, hrep, p⟩ := h
  refine ⟨B, H, _, start_rel dm tb hrep, ?_⟩
  have p : PostG G (fun H => rep G B H) H ((exSs T b (args.map (fun d => some (SV.im d)) ++ List.replicate (N.length - args.length) none)).bind flR) Q E := p
  cases e : exSs T b (args.map (fun d => some (SV.im d)) ++ List.replicate (N.length - args.length) none) with
  | stuck =>
    rw [e] at p
    exact p
  | exc cc fs =>
    rw [e] at p
    exact fun cls d σ' H' z y => p cls d H' z y
  | ok fl =>
    rw [e] at p
    cases fl with
    | nx ρ' => exact fun σ' H' r => p .non H' r.same rfl
    | bk ρ' => exact p.elim
    | ct ρ' => exact p.elim
    | rt d => exact fun v H' z y => p v H' z y
/-- the promise of a def that writes to its last argument -/
def spBio (G : Gx) (n : Nat) (F : List D → D → R D) : Sp := fun vs H Q E => ∃ B a args d ws, vs = ws ++ [.ref a] ∧ ws.length = n ∧ Dom B H ∧ Tbs G H ∧ ¬ B a ∧ reps G (fun b => b = a ∨ B b) H args ws ∧ ownR G (fun b => b = a ∨ B b) H a d ∧ PostIo G B a H (F args d) Q E
theorem fn_bodyIo {n : Nat} (F : FunD G.K x qual params bd scope dvs kws f fd) (S : FnScope N ps scope) (hn : ps.length = n + 1) (hN : n + 1 ≤ N.length) (Fa : Facts G M T lvl) (form : isSs M N b scope bd = true) (hl : lvl ≤ lv) (hk : M.key = none ∨ lvl + 1 ≤ lv) (hlam : M.lam = none ∨ LamF G qual fd) :
    FnOk G.P G.w G.K G.mg G.base (L2.CX G.P G.w) (lv + 1) f fd ps (spBio G n (bodyIo T N.length b)) := by
  refine fn_run F S Fa form hl hk hlam (fun vs H Q E h => ?_) fun vs H Q E h => ?_
  · obtain ⟨B, a, args, d, ws, rfl, h, _⟩ := h
    rw [List.length_append, h, hn]
    rfl
  obtain ⟨B, a, args, d, ws, rfl, hw, dm, tb, na, hrep, ho, p⟩ := h
  have hla : args.length = n := by rw [← reps_len hrep, hw]
  refine ⟨B, del H a, _, startIo_rel dm tb na hrep ho (by rw [hla]; exact hN), ?_⟩
  cases q : bodyIo T N.length b args d with
  | stuck =>
    rw [q] at p
    exact p.elim
  | exc cc fs =>
    have z := bodyIo_at q (fun z => by cases z) a
    rw [q] at p
    unfold bodyAt at z
    cases e : exSs T b (args.map (fun d => some (SV.im d)) ++ some (SV.io a d) :: List.replicate (N.length - (args.length + 1)) none) with
    | stuck =>
      rw [e] at z
      cases z
    | exc c2 f2 =>
      rw [e] at z
      have z : R.exc c2 f2 = R.exc cc fs := z
      cases z
      exact fun cls d σ' H' s y => p cls d H' s y
    | ok fl =>
      rw [e] at z
      cases fl with
      | nx ρ' =>
        have z : (match ρ'[args.length]? with
          | some (some (.io a' y)) => R.iff (decide (a' = a)) (.ok y)
          | _ => .stuck) = R.exc cc fs := z
        split at z
        · rename_i a' y hy
          cases q2 : decide (a' = a) with
          | true =>
            rw [q2] at z
            cases z
          | false =>
            rw [q2] at z
            cases z
        · cases z
      | bk ρ' => cases z
      | ct ρ' => cases z
      | rt d => cases z
  | ok y =>
    have z := bodyIo_at q (fun z => by cases z) a
    rw [q] at p
    unfold bodyAt at z
    cases e : exSs T b (args.map (fun d => some (SV.im d)) ++ some (SV.io a d) :: List.replicate (N.length - (args.length + 1)) none) with
    | stuck =>
      rw [e] at z
      cases z
    | exc c2 f2 =>
      rw [e] at z
      cases z
    | ok fl =>
      rw [e] at z
      cases fl with
      | nx ρ' =>
        have z : (match ρ'[args.length]? with
          | some (some (.io a' y)) => R.iff (decide (a' = a)) (.ok y)
          | _ => .stuck) = R.ok y := z
        split at z
        · rename_i a' y' hy
          obtain ⟨c1, c2⟩ := iff_ok z
          cases of_decide_eq_true c1
          cases c2
          intro σ' H' r
          obtain ⟨b', t, e1, _, ow⟩ := r.own _ _ y hy rfl
          cases t
          refine p H' r.same (ow.keep rfl (fun _ _ h _ _ => h) fun b' _ _ zz => ?_)
          rcases zz with zz | zz
          · rw [zz]
            exact .inr ⟨_, _, _, hy, rfl, e1⟩
          · exact .inl zz
        · cases z
      | bk ρ' => cases z
      | ct ρ' => cases z
      | rt d => cases z
end
/-! ### facts -/
def tb0 (fuel : Nat) : Tbl := ⟨fun _ => .stuck, fun _ _ => .stuck, fun _ _ _ _ => .stuck, fun _ _ _ => .stuck, fun _ _ => .stuck, fun _ => false, fun _ _ => false, fun _ _ _ => .stuck, fun _ _ => .stuck, fun _ => false, fun _ _ => .stuck, fun _ _ => .stuck, fuel⟩
def Tbl.add (T : Tbl) (f : Nat) (F : List D → R D) : Tbl := { T with fn := fun i => if i = f then F else T.fn i }
def Tbl.addK (T : Tbl) (f : Nat) (F : List Str → List D → List D → R D) : Tbl := { T with fnK := fun i => if i = f then F else T.fnK i }
def Tbl.addIo (T : Tbl) (f : Nat) (F : List D → D → R D) : Tbl := { T with io := fun i => if i = f then F else T.io i }
def Tbl.addMk (T : Tbl) (c : Str) : Tbl := { T with mkc := fun x => decide (x = c) || T.mkc x }
def Tbl.addMt (T : Tbl) (c m : Str) (F : List D → R D) : Tbl := { T with hm := fun x y => decide (x = c ∧ y = m) || T.hm x y, mt := fun x y => if x = c ∧ y = m then F else T.mt x y }
def Tbl.addC (T : Tbl) (i : Nat) (d : D) : Tbl := { T with cst := fun j => if j = i then .ok d else T.cst j }
def nm0 : Nms := ⟨[], [], [], [], [], [], none, none, true⟩
def Nms.add (M : Nms) (f : Nat) (x : Str) (ns : List Nat) : Nms := { M with fn := (f, x) :: M.fn, ar := ns.map (fun n => (f, n)) ++ M.ar.filter fun p => !(p.1 == f), fk := M.fk.filter fun p => !(p.1 == f), io := M.io.filter fun p => !(p.1 == f) }
def Nms.addK (M : Nms) (f : Nat) (ks : List Str) (n : Nat) : Nms := { M with fk := (f, ks, n) :: M.fk }
def Nms.addIo (M : Nms) (f : Nat) (x : Str) (n : Nat) : Nms := { M with fn := (f, x) :: M.fn, ar := M.ar.filter fun p => !(p.1 == f), fk := M.fk.filter fun p => !(p.1 == f), io := (f, n) :: M.io.filter fun p => !(p.1 == f) }
def Nms.addM (M : Nms) (m : Str) (n : Nat) : Nms := { M with mt := [(m, n)] }
def Nms.keyed (M : Nms) (sc : Scope) : Nms := { M with key := some sc }
def Nms.lamd (M : Nms) (sc : Scope) : Nms := { M with key := some sc, lam := some sc }
def Nms.addC (M : Nms) (i : Nat) (x : Str) : Nms := { M with cst := (i, x) :: M.cst }
section
variable {G : Gx} {M : Nms} {T : Tbl} {lvl : Nat}
theorem FnFact.mono {l l' : Nat} {x : Str} {n : Nat} {F : List D → R D} (h : FnFact G l x n F) (z : l ≤ l') : FnFact G l' x n F := by
  obtain ⟨a, k, fd, ps, sp, ds, dvs, hk, r⟩ := h
  exact ⟨a, k, fd, ps, sp, ds, dvs, Nat.le_trans hk z, r⟩
theorem FnFactK.mono {l l' : Nat} {x : Str} {ks : List Str} {n : Nat} {F : List D → List D → R D} (h : FnFactK G l x ks n F) (z : l ≤ l') : FnFactK G l' x ks n F := by
  obtain ⟨a, k, fd, ps, sp, g, gV, hk, r⟩ := h
  exact ⟨a, k, fd, ps, sp, g, gV, Nat.le_trans hk z, r⟩
theorem MethFact.mono {l l' : Nat} {c m : Str} {n : Nat} {F : List D → R D} (h : MethFact G l c m n F) (z : l ≤ l') : MethFact G l' c m n F := by
  obtain ⟨C, f, k, fd, ps, sp, ds, dvs, hk, r⟩ := h
  exact ⟨C, f, k, fd, ps, sp, ds, dvs, Nat.le_trans hk z, r⟩
theorem FnFactIo.mono {l l' : Nat} {x : Str} {n : Nat} {F : List D → D → R D} (h : FnFactIo G l x n F) (z : l ≤ l') : FnFactIo G l' x n F := by
  obtain ⟨a, k, fd, ps, sp, hk, r⟩ := h
  exact ⟨a, k, fd, ps, sp, Nat.le_trans hk z, r⟩
theorem facts_nil {fuel : Nat} (h : ∀ x, x ∈ bltNames → G.mg x = none) : Facts G nm0 (tb0 fuel) lvl :=
  ⟨h, fun f x n e => (by cases e), fun f x ks n e => (by cases e), fun i x d e => (by cases e), fun i c fs e => (by cases e), fun c e => (by cases e), fun c m n e => (by cases e), fun f x n e => (by cases e), fun c cs b e => (by cases e), fun c cs e fs z => (by cases z), ⟨fun c e => (by cases e), fun c cs b e => (by cases e), fun c cs e l z => (by cases z), fun c x b e => (by cases e)⟩⟩
theorem look_cons {α : Type} {f g : Nat} {x : Str} {l : List (Nat × Str)} {y : Str} (e : ((f, x) :: l).lookup g = some y) : (g = f ∧ y = x) ∨ (g ≠ f ∧ l.lookup g = some y) := by
  rw [List.lookup_cons] at e
  by_cases q : g = f
  · subst q
    rw [beq_self_eq_true] at e
    exact .inl ⟨rfl, (Option.some.inj e).symm⟩
  · rw [beq_eq_false_iff_ne.mpr q] at e
    exact .inr ⟨q, e⟩
theorem Facts.add (Fa : Facts G M T lvl) {f : Nat} {x : Str} {ns : List Nat} {F : List D → R D} (h : ∀ n ∈ ns, FnFact G lvl x n F) : Facts G (M.add f x ns) (T.add f F) lvl := by
  refine ⟨Fa.blt, fun g y n e a => ?_, fun g y ks n e a => ?_, Fa.cst, Fa.cstx, Fa.mkc, Fa.mt, fun g y n e a => ?_, Fa.sub, Fa.subx, Fa.xf⟩
  · have a : (g, n) ∈ ns.map (fun n => (f, n)) ++ M.ar.filter fun p => !(p.1 == f) := a
    rcases look_cons (α := Nat) e with ⟨rfl, rfl⟩ | ⟨q, e⟩
    · show FnFact G lvl y n (if g = g then F else T.fn g)
      rw [if_pos rfl]
      rcases List.mem_append.mp a with a | a
      · obtain ⟨m, hm, e⟩ := List.mem_map.mp a
        cases e
        exact h n hm
      · have z := (List.mem_filter.mp a).2
        simp at z
    · show FnFact G lvl y n (if g = f then F else T.fn g)
      rw [if_neg q]
      rcases List.mem_append.mp a with a | a
      · obtain ⟨m, hm, e⟩ := List.mem_map.mp a
        cases e
        exact absurd rfl q
      · exact Fa.fn g y n e (List.mem_filter.mp a).1
  · have a : (g, ks, n) ∈ M.fk.filter fun p => !(p.1 == f) := a
    obtain ⟨a1, a2⟩ := List.mem_filter.mp a
    rcases look_cons (α := Nat) e with ⟨rfl, rfl⟩ | ⟨q, e⟩
    · simp at a2
    · exact Fa.fnK g y ks n e a1
  · have a : (g, n) ∈ M.io.filter fun p => !(p.1 == f) := a
    obtain ⟨a1, a2⟩ := List.mem_filter.mp a
    rcases look_cons (α := Nat) e with ⟨rfl, rfl⟩ | ⟨q, e⟩
    · simp at a2
    · exact Fa.io g y n e a1
theorem Facts.addIo (Fa : Facts G M T lvl) {f : Nat} {x : Str} {n : Nat} {F : List D → D → R D} (h : FnFactIo G lvl x n F) : Facts G (M.addIo f x n) (T.addIo f F) lvl := by
  refine ⟨Fa.blt, fun g y n e a => ?_, fun g y ks n e a => ?_, Fa.cst, Fa.cstx, Fa.mkc, Fa.mt, fun g y m e a => ?_, Fa.sub, Fa.subx, Fa.xf⟩
  · have a : (g, n) ∈ M.ar.filter fun p => !(p.1 == f) := a
    obtain ⟨a1, a2⟩ := List.mem_filter.mp a
    rcases look_cons (α := Nat) e with ⟨rfl, rfl⟩ | ⟨q, e⟩
    · simp at a2
    · exact Fa.fn g y n e a1
  · have a : (g, ks, n) ∈ M.fk.filter fun p => !(p.1 == f) := a
    obtain ⟨a1, a2⟩ := List.mem_filter.mp a
    rcases look_cons (α := Nat) e with ⟨rfl, rfl⟩ | ⟨q, e⟩
    · simp at a2
    · exact Fa.fnK g y ks n e a1
  · have a : (g, m) ∈ (f, n) :: M.io.filter fun p => !(p.1 == f) := a
    rcases look_cons (α := Nat) e with ⟨rfl, rfl⟩ | ⟨q, e⟩
    · show FnFactIo G lvl y m (if g = g then F else T.io g)
      rw [if_pos rfl]
      rcases List.mem_cons.mp a with a | a
      · cases a
        exact h
      · have z := (List.mem_filter.mp a).2
        simp at z
    · show FnFactIo G lvl y m (if g = f then F else T.io g)
      rw [if_neg q]
      rcases List.mem_cons.mp a with a | a
      · cases a
        exact absurd rfl q
      · exact Fa.io g y m e (List.mem_filter.mp a).1
theorem Facts.addK (Fa : Facts G M T lvl) {f : Nat} {x : Str} {ks : List Str} {n : Nat} {F : List D → List D → R D} (hx : M.fn.lookup f = some x) (hn : ∀ p ∈ M.fk, p.1 ≠ f) (h : FnFactK G lvl x ks n F) : Facts G (M.addK f ks n) (T.addK f fun z => if z = ks then F else fun _ _ => .stuck) lvl := by
  refine ⟨Fa.blt, Fa.fn, fun g y ks' n' e a => ?_, Fa.cst, Fa.cstx, Fa.mkc, Fa.mt, Fa.io, Fa.sub, Fa.subx, Fa.xf⟩
  have a : (g, ks', n') ∈ (f, ks, n) :: M.fk := a
  show FnFactK G lvl y ks' n' ((if g = f then (fun z => if z = ks then F else fun _ _ => .stuck) else T.fnK g) ks')
  rcases List.mem_cons.mp a with a | a
  · cases a
    have e : M.fn.lookup f = some y := e
    rw [hx] at e
    cases e
    rw [if_pos rfl]
    show FnFactK G lvl x ks n (if ks = ks then F else fun _ _ => .stuck)
    rw [if_pos rfl]
    exact h
  · have q : g ≠ f := hn _ a
    rw [if_neg q]
    exact Fa.fnK g y ks' n' e a
theorem Facts.addC (Fa : Facts G M T lvl) {i : Nat} {x : Str} {d : D} {v : V} {u : Value} (hm : G.mg x = some u) (hr : RelV v u) (hd : cstV d = some v) : Facts G (M.addC i x) (T.addC i d) lvl := by
  refine ⟨Fa.blt, Fa.fn, Fa.fnK, fun j y e h t => ?_, fun j c fs e => ?_, Fa.mkc, Fa.mt, Fa.io, Fa.sub, Fa.subx, Fa.xf⟩
  · have h : ((i, x) :: M.cst).lookup j = some y := h
    have t : (if j = i then .ok d else T.cst j) = .ok e := t
    rcases look_cons (α := Nat) h with ⟨rfl, rfl⟩ | ⟨q, h⟩
    · rw [if_pos rfl] at t
      cases t
      exact ⟨v, u, hm, hr, hd⟩
    · rw [if_neg q] at t
      exact Fa.cst j y e h t
  · have e : (if j = i then .ok d else T.cst j) = .exc c fs := e
    by_cases q : j = i
    · rw [if_pos q] at e
      cases e
    · rw [if_neg q] at e
      exact Fa.cstx j c fs e
theorem Facts.addMk (Fa : Facts G M T lvl) {c : Str} (h : MkFact G c) : Facts G M (T.addMk c) lvl := by
  refine ⟨Fa.blt, Fa.fn, Fa.fnK, Fa.cst, Fa.cstx, fun x e => ?_, Fa.mt, Fa.io, Fa.sub, Fa.subx, Fa.xf⟩
  have e : (decide (x = c) || T.mkc x) = true := e
  rw [Bool.or_eq_true] at e
  rcases e with e | e
  · cases of_decide_eq_true e
    exact h
  · exact Fa.mkc x e
/-- one more method: those names that M asks of are told for it too -/
theorem Facts.addMt (Fa : Facts G M T lvl) {c m : Str} {F : List D → R D} (h : ∀ n, (m, n) ∈ M.mt → MethFact G lvl c m n F) : Facts G M (T.addMt c m F) lvl := by
  refine ⟨Fa.blt, Fa.fn, Fa.fnK, Fa.cst, Fa.cstx, Fa.mkc, fun c' m' n e a => ?_, Fa.io, Fa.sub, Fa.subx, Fa.xf⟩
  have e : (decide (c' = c ∧ m' = m) || T.hm c' m') = true := e
  show MethFact G lvl c' m' n (if c' = c ∧ m' = m then F else T.mt c' m')
  by_cases q : c' = c ∧ m' = m
  · rw [if_pos q]
    obtain ⟨rfl, rfl⟩ := q
    exact h n a
  · rw [if_neg q]
    rw [decide_eq_false q, Bool.false_or] at e
    exact Fa.mt c' m' n e a
theorem Facts.addMt1 (Fa : Facts G M T lvl) {c m : Str} {n : Nat} {F : List D → R D} (hu : M.mt.all (fun p => !decide (p.1 = m) || decide (p.2 = n)) = true) (h : MethFact G lvl c m n F) : Facts G M (T.addMt c m F) lvl :=
  Fa.addMt fun k hk => by
    have z := List.all_eq_true.mp hu _ hk
    simp at z
    rw [z]
    exact h
theorem Tbl.mt_same {c m : Str} {F : List D → R D} : (T.addMt c m F).mt c m = F := if_pos ⟨rfl, rfl⟩
theorem Tbl.mt_ne {c m x y : Str} {F : List D → R D} (h : ¬ (x = c ∧ y = m)) : (T.addMt c m F).mt x y = T.mt x y := if_neg h
theorem Tbl.hm_same {c m : Str} {F : List D → R D} : (T.addMt c m F).hm c m = true := by
  show (decide (c = c ∧ m = m) || T.hm c m) = true
  rw [decide_eq_true ⟨rfl, rfl⟩]
  rfl
theorem Tbl.hm_ne {c m x y : Str} {F : List D → R D} (h : ¬ (x = c ∧ y = m)) : (T.addMt c m F).hm x y = T.hm x y := by
  show (decide (x = c ∧ y = m) || T.hm x y) = T.hm x y
  rw [decide_eq_false h]
  rfl
def Tbl.addSub (T : Tbl) (c : Str) (cs : List Str) (b : Bool) : Tbl := { T with sub := fun x y => if x = c ∧ y = cs then .ok b else T.sub x y }
theorem Facts.addSub (Fa : Facts G M T lvl) {c : Str} {cs : List Str} {b : Bool} (h : SubFact G c cs b) : Facts G M (T.addSub c cs b) lvl := by
  refine ⟨Fa.blt, Fa.fn, Fa.fnK, Fa.cst, Fa.cstx, Fa.mkc, Fa.mt, Fa.io, fun x y k e => ?_, fun x y e fs z => ?_, Fa.xf⟩
  · have e : (if x = c ∧ y = cs then R.ok b else T.sub x y) = .ok k := e
    by_cases q : x = c ∧ y = cs
    · rw [if_pos q] at e
      cases e
      obtain ⟨rfl, rfl⟩ := q
      exact h
    · rw [if_neg q] at e
      exact Fa.sub x y k e
  · have z : (if x = c ∧ y = cs then R.ok b else T.sub x y) = .exc e fs := z
    by_cases q : x = c ∧ y = cs
    · rw [if_pos q] at z
      cases z
    · rw [if_neg q] at z
      exact Fa.subx x y e fs z
def Tbl.addRs (T : Tbl) (c : Str) : Tbl := { T with rs := fun x => decide (x = c) || T.rs x }
def Tbl.addSubE (T : Tbl) (c : Str) (cs : List Str) (b : Bool) : Tbl := { T with subE := fun x y => if x = c ∧ y = cs then .ok b else T.subE x y }
def Tbl.addExm (T : Tbl) (c d : Str) (b : Bool) : Tbl := { T with exm := fun x y => if x = c ∧ y = d then .ok b else T.exm x y }
theorem Facts.addRs (Fa : Facts G M T lvl) {c : Str} (h : RaiseFact G c) : Facts G M (T.addRs c) lvl := by
  refine ⟨Fa.blt, Fa.fn, Fa.fnK, Fa.cst, Fa.cstx, Fa.mkc, Fa.mt, Fa.io, Fa.sub, Fa.subx, ⟨fun x e => ?_, Fa.xf.fs, Fa.xf.fsx, Fa.xf.fe⟩⟩
  have e : (decide (x = c) || T.rs x) = true := e
  rw [Bool.or_eq_true] at e
  rcases e with e | e
  · rw [of_decide_eq_true e]
    exact h
  · exact Fa.xf.fr x e
theorem Facts.addSubE (Fa : Facts G M T lvl) {c : Str} {cs : List Str} {b : Bool} (h : SubEFact G c cs b) : Facts G M (T.addSubE c cs b) lvl := by
  refine ⟨Fa.blt, Fa.fn, Fa.fnK, Fa.cst, Fa.cstx, Fa.mkc, Fa.mt, Fa.io, Fa.sub, Fa.subx, ⟨Fa.xf.fr, fun x y k e => ?_, fun x y e l z => ?_, Fa.xf.fe⟩⟩
  · have e : (if x = c ∧ y = cs then R.ok b else T.subE x y) = .ok k := e
    by_cases q : x = c ∧ y = cs
    · rw [if_pos q] at e
      cases e
      obtain ⟨rfl, rfl⟩ := q
      exact h
    · rw [if_neg q] at e
      exact Fa.xf.fs x y k e
  · have z : (if x = c ∧ y = cs then R.ok b else T.subE x y) = .exc e l := z
    by_cases q : x = c ∧ y = cs
    · rw [if_pos q] at z
      cases z
    · rw [if_neg q] at z
      exact Fa.xf.fsx x y e l z
theorem Facts.addExm (Fa : Facts G M T lvl) {c d : Str} {b : Bool} (h : ExmFact G c d b) : Facts G M (T.addExm c d b) lvl := by
  refine ⟨Fa.blt, Fa.fn, Fa.fnK, Fa.cst, Fa.cstx, Fa.mkc, Fa.mt, Fa.io, Fa.sub, Fa.subx, ⟨Fa.xf.fr, Fa.xf.fs, Fa.xf.fsx, fun x y k e => ?_⟩⟩
  have e : (if x = c ∧ y = d then R.ok b else T.exm x y) = .ok k := e
  by_cases q : x = c ∧ y = d
  · rw [if_pos q] at e
    cases e
    obtain ⟨rfl, rfl⟩ := q
    exact h
  · rw [if_neg q] at e
    exact Fa.xf.fe x y k e
theorem Tbl.rs_same {c : Str} : (T.addRs c).rs c = true := by
  show (decide (c = c) || T.rs c) = true
  rw [decide_eq_true rfl]
  rfl
theorem Tbl.rs_ne {c x : Str} (h : ¬ x = c) : (T.addRs c).rs x = T.rs x := by
  show (decide (x = c) || T.rs x) = _
  rw [decide_eq_false h]
  rfl
theorem Tbl.subE_same {c : Str} {cs : List Str} {b : Bool} : (T.addSubE c cs b).subE c cs = .ok b := if_pos ⟨rfl, rfl⟩
theorem Tbl.subE_ne {c x : Str} {cs y : List Str} {b : Bool} (h : ¬ (x = c ∧ y = cs)) : (T.addSubE c cs b).subE x y = T.subE x y := if_neg h
theorem Tbl.exm_same {c d : Str} {b : Bool} : (T.addExm c d b).exm c d = .ok b := if_pos ⟨rfl, rfl⟩
theorem Tbl.exm_ne {c d x y : Str} {b : Bool} (h : ¬ (x = c ∧ y = d)) : (T.addExm c d b).exm x y = T.exm x y := if_neg h
theorem Tbl.sub_same {c : Str} {cs : List Str} {b : Bool} : (T.addSub c cs b).sub c cs = .ok b := if_pos ⟨rfl, rfl⟩
theorem Tbl.sub_ne {c x : Str} {cs y : List Str} {b : Bool} (h : ¬ (x = c ∧ y = cs)) : (T.addSub c cs b).sub x y = T.sub x y := if_neg h
/-- the names of methods are said ahead -/
theorem Facts.names (Fa : Facts G M T lvl) {ms : List (Str × Nat)} (h : ∀ c m, T.hm c m = false) : Facts G { M with mt := ms } T lvl :=
  ⟨Fa.blt, Fa.fn, Fa.fnK, Fa.cst, Fa.cstx, Fa.mkc, fun c m n e _ => (by rw [h] at e; cases e), Fa.io, Fa.sub, Fa.subx, Fa.xf⟩
theorem Facts.keyed (Fa : Facts G M T lvl) (sc : Scope) : Facts G (M.keyed sc) T lvl := ⟨Fa.blt, Fa.fn, Fa.fnK, Fa.cst, Fa.cstx, Fa.mkc, Fa.mt, Fa.io, Fa.sub, Fa.subx, Fa.xf⟩
theorem Facts.lamd (Fa : Facts G M T lvl) (sc : Scope) : Facts G (M.lamd sc) T lvl := ⟨Fa.blt, Fa.fn, Fa.fnK, Fa.cst, Fa.cstx, Fa.mkc, Fa.mt, Fa.io, Fa.sub, Fa.subx, Fa.xf⟩
theorem Facts.up (Fa : Facts G M T lvl) {l' : Nat} (z : lvl ≤ l') : Facts G M T l' := ⟨Fa.blt, fun f x n e a => (Fa.fn f x n e a).mono z, fun f x ks n e a => (Fa.fnK f x ks n e a).mono z, Fa.cst, Fa.cstx, Fa.mkc, fun c m n e a => (Fa.mt c m n e a).mono z, fun f x n e a => (Fa.io f x n e a).mono z, Fa.sub, Fa.subx, Fa.xf⟩
end
/-! ### what the top leaves -/
def qlam (q : Str) : Str := (q ++ ".<locals>.") ++ "<lambda>"
/-- further facts of the classes -/
inductive Xf where
  | mk (c : Str) | sub (c : Str) (cs : List Str) (b : Bool)
  | rs (c : Str) | subE (c : Str) (cs : List Str) (b : Bool) | exm (c d : Str) (b : Bool)
def bmVE : List Value := [.type "ValueError", .type "Exception", .type "BaseException", .type "object"]
def clsU (K : PySem.W.Frag) (n : Str) : Value := if n = "ValueError" then .type "ValueError" else .ref (He.ga K n)
def Xf.ok (K : PySem.W.Frag) : Xf → Prop
  | .mk x => PySem.W.makesIn K (He.ga K x) = true ∧ PySem.W.findIn K (.ref (He.ga K x)) "__init__" = some (some (.builtin "object.__init__")) ∧ PySem.W.keepIn K (.ref (He.ga K x)) = true
  | .sub c cs b => (PySem.W.findIn K (.ref (He.ga K c)) "__class__" = some (some (.builtin "object.__class__")) ∧ PySem.W.specialIn K (.builtin "object.__class__") "__get__" = some (some (.builtin "getset_descriptor.__get__")) ∧ PySem.W.takesIn K (.builtin "object.__class__") = some true ∧ PySem.W.mroIn K (He.ga K c) (.type "object") = some true) ∧
      PySem.W.kitAny K (.ref (He.ga K c)) (cs.map (clsU K)) = some b
  | .rs c => PySem.W.excIn K (He.ga K c) bmVE "ValueError.__new__" = true ∧ PySem.W.keepIn K (.ref (He.ga K c)) = true ∧ PySem.W.subIn K (.ref (He.ga K c)) (.type "BaseException") = some true ∧ PySem.W.typeIn K (.ref (He.ga K c)) = some (.type "type")
  | .subE c cs b => (PySem.W.findIn K (.ref (He.ga K c)) "__getattribute__" = some (some (.builtin "BaseException.__getattribute__")) ∧ PySem.W.findIn K (.ref (He.ga K c)) "__getattr__" = some none ∧ PySem.W.subIn K (.ref (He.ga K c)) (.type "BaseException") = some true ∧ PySem.W.hasDictIn K (He.ga K c) = true ∧
      PySem.W.findIn K (.ref (He.ga K c)) "__class__" = some (some (.builtin "object.__class__")) ∧ PySem.W.specialIn K (.builtin "object.__class__") "__get__" = some (some (.builtin "getset_descriptor.__get__")) ∧ PySem.W.takesIn K (.builtin "object.__class__") = some true ∧ PySem.W.mroIn K (He.ga K c) (.type "object") = some true) ∧
      PySem.W.kitAny K (.ref (He.ga K c)) (cs.map (clsU K)) = some b
  | .exm c d b => PySem.W.exmOne K (.ref (He.ga K c)) (.ref (He.ga K d)) = some b
def Xf.okB (K : PySem.W.Frag) : Xf → Bool
  | .mk x => PySem.W.makesIn K (He.ga K x) && He.eqO (PySem.W.findIn K (.ref (He.ga K x)) "__init__") (some (some (.builtin "object.__init__"))) && PySem.W.keepIn K (.ref (He.ga K x))
  | .sub c cs b => (He.eqO (PySem.W.findIn K (.ref (He.ga K c)) "__class__") (some (some (.builtin "object.__class__"))) && He.eqO (PySem.W.specialIn K (.builtin "object.__class__") "__get__") (some (some (.builtin "getset_descriptor.__get__"))) && decide (PySem.W.takesIn K (.builtin "object.__class__") = some true) && decide (PySem.W.mroIn K (He.ga K c) (.type "object") = some true)) &&
      decide (PySem.W.kitAny K (.ref (He.ga K c)) (cs.map (clsU K)) = some b)
  | .rs c => PySem.W.excIn K (He.ga K c) bmVE "ValueError.__new__" && (PySem.W.keepIn K (.ref (He.ga K c)) && (decide (PySem.W.subIn K (.ref (He.ga K c)) (.type "BaseException") = some true) && decide (PySem.W.typeIn K (.ref (He.ga K c)) = some (.type "type"))))
  | .subE c cs b => (He.eqO (PySem.W.findIn K (.ref (He.ga K c)) "__getattribute__") (some (some (.builtin "BaseException.__getattribute__"))) && (He.eqO (PySem.W.findIn K (.ref (He.ga K c)) "__getattr__") (some none) && (decide (PySem.W.subIn K (.ref (He.ga K c)) (.type "BaseException") = some true) && (PySem.W.hasDictIn K (He.ga K c) &&
      (He.eqO (PySem.W.findIn K (.ref (He.ga K c)) "__class__") (some (some (.builtin "object.__class__"))) && (He.eqO (PySem.W.specialIn K (.builtin "object.__class__") "__get__") (some (some (.builtin "getset_descriptor.__get__"))) && (decide (PySem.W.takesIn K (.builtin "object.__class__") = some true) && decide (PySem.W.mroIn K (He.ga K c) (.type "object") = some true)))))))) &&
      decide (PySem.W.kitAny K (.ref (He.ga K c)) (cs.map (clsU K)) = some b)
  | .exm c d b => decide (PySem.W.exmOne K (.ref (He.ga K c)) (.ref (He.ga K d)) = some b)
theorem Xf.of_B {K : PySem.W.Frag} : ∀ {f : Xf}, f.okB K = true → f.ok K
  | .mk x, h => by
    have h : (PySem.W.makesIn K (He.ga K x) && He.eqO (PySem.W.findIn K (.ref (He.ga K x)) "__init__") (some (some (.builtin "object.__init__"))) && PySem.W.keepIn K (.ref (He.ga K x))) = true := h
    rw [Bool.and_eq_true, Bool.and_eq_true] at h
    exact ⟨h.1.1, He.eqO_ok h.1.2, h.2⟩
  | .sub c cs b, h => by
    have h : ((He.eqO (PySem.W.findIn K (.ref (He.ga K c)) "__class__") (some (some (.builtin "object.__class__"))) && He.eqO (PySem.W.specialIn K (.builtin "object.__class__") "__get__") (some (some (.builtin "getset_descriptor.__get__"))) && decide (PySem.W.takesIn K (.builtin "object.__class__") = some true) && decide (PySem.W.mroIn K (He.ga K c) (.type "object") = some true)) &&
      decide (PySem.W.kitAny K (.ref (He.ga K c)) (cs.map (clsU K)) = some b)) = true := h
    rw [Bool.and_eq_true, Bool.and_eq_true, Bool.and_eq_true, Bool.and_eq_true] at h
    exact ⟨⟨He.eqO_ok h.1.1.1.1, He.eqO_ok h.1.1.1.2, of_decide_eq_true h.1.1.2, of_decide_eq_true h.1.2⟩, of_decide_eq_true h.2⟩
  | .rs c, h => by
    have h : (PySem.W.excIn K (He.ga K c) bmVE "ValueError.__new__" && (PySem.W.keepIn K (.ref (He.ga K c)) && (decide (PySem.W.subIn K (.ref (He.ga K c)) (.type "BaseException") = some true) && decide (PySem.W.typeIn K (.ref (He.ga K c)) = some (.type "type"))))) = true := h
    rw [Bool.and_eq_true, Bool.and_eq_true, Bool.and_eq_true] at h
    exact ⟨h.1, h.2.1, of_decide_eq_true h.2.2.1, of_decide_eq_true h.2.2.2⟩
  | .subE c cs b, h => by
    have h : ((He.eqO (PySem.W.findIn K (.ref (He.ga K c)) "__getattribute__") (some (some (.builtin "BaseException.__getattribute__"))) && (He.eqO (PySem.W.findIn K (.ref (He.ga K c)) "__getattr__") (some none) && (decide (PySem.W.subIn K (.ref (He.ga K c)) (.type "BaseException") = some true) && (PySem.W.hasDictIn K (He.ga K c) &&
      (He.eqO (PySem.W.findIn K (.ref (He.ga K c)) "__class__") (some (some (.builtin "object.__class__"))) && (He.eqO (PySem.W.specialIn K (.builtin "object.__class__") "__get__") (some (some (.builtin "getset_descriptor.__get__"))) && (decide (PySem.W.takesIn K (.builtin "object.__class__") = some true) && decide (PySem.W.mroIn K (He.ga K c) (.type "object") = some true)))))))) &&
      decide (PySem.W.kitAny K (.ref (He.ga K c)) (cs.map (clsU K)) = some b)) = true := h
    rw [Bool.and_eq_true, Bool.and_eq_true, Bool.and_eq_true, Bool.and_eq_true, Bool.and_eq_true, Bool.and_eq_true, Bool.and_eq_true, Bool.and_eq_true] at h
    obtain ⟨⟨h1, h2, h3, h4, h5, h6, h7, h8⟩, h9⟩ := h
    exact ⟨⟨He.eqO_ok h1, He.eqO_ok h2, of_decide_eq_true h3, h4, He.eqO_ok h5, He.eqO_ok h6, of_decide_eq_true h7, of_decide_eq_true h8⟩, of_decide_eq_true h9⟩
  | .exm c d b, h => by
    have h : decide (PySem.W.exmOne K (.ref (He.ga K c)) (.ref (He.ga K d)) = some b) = true := h
    have q : PySem.W.exmOne K (.ref (He.ga K c)) (.ref (He.ga K d)) = some b := of_decide_eq_true h
    exact q
structure Hd (fa : List He.Fa) (fn lams : List He.DefD) (mks : List Xf) (P : Program) (G : Gx) : Prop where
  p : G.P = P
  says : He.SaysD fa fn G.K
  glo : ∀ x, .glo x ∈ fa → G.mg x = some (.ref (He.ga G.K x))
  free : ∀ x, .free x ∈ fa → G.mg x = none
  int : ∀ x i, .int x i ∈ fa → ∃ t, G.mg x = some (.int i t)
  str : ∀ x z, .str x z ∈ fa → ∃ t, G.mg x = some (.str z t)
  cls : ∀ x, .cls x ∈ fa → Cls G.K (He.ga G.K x)
  meth : ∀ x m, .meth x m ∈ fa → Meth G.K (He.ga G.K x) m (He.ma G.K (He.ga G.K x) m)
  mkc : ∀ f ∈ mks, f.ok G.K
  tb : G.tb = lams.map fun d => ((He.cT G.K d.at_).2, qlam d.qual)
  tbB : ∀ d ∈ lams, LamX.TabB G.base G.mg (He.cT G.K d.at_).1 (He.cT G.K d.at_).2
  nd : (lams.map fun d => (He.cT G.K d.at_).2).Nodup
theorem nodup_map {α β : Type} {f : α → β} : ∀ {l : List α}, (l.map f).Nodup → ∀ {a b : α}, a ∈ l → b ∈ l → f a = f b → a = b
  | [], _, _, _, h, _, _ => by cases h
  | c :: l, n, a, b, ha, hb, e => by
    rw [List.map_cons, List.nodup_cons] at n
    rcases List.mem_cons.mp ha with rfl | ha
    · rcases List.mem_cons.mp hb with rfl | hb
      · rfl
      · exact absurd (List.mem_map.mpr ⟨b, hb, e.symm⟩) n.1
    · rcases List.mem_cons.mp hb with hbc | hb
      · rw [hbc] at e
        exact absurd (List.mem_map.mpr ⟨a, ha, e⟩) n.1
      · exact nodup_map n.2 ha hb e
section
variable {fa : List He.Fa} {fn lams : List He.DefD} {mks : List Xf} {P : Program} {G : Gx} {M : Nms} {T : Tbl} {lvl lv : Nat} {N ps : List Str} {b : Ss} {d : He.DefD} {x : Str}
theorem Hd.def_ (h : Hd fa fn lams mks P G) (hd : d ∈ fn) : ∃ fd, FunD G.K d.name d.qual d.params d.body d.scope (d.dvs G.K) (d.kws G.K) (He.fAd G.K d.at_) fd := by
  obtain ⟨i, hi, e⟩ := List.mem_iff_getElem.mp hd
  exact h.says.def_ i (d := d) (by rw [List.getElem?_eq_getElem hi, e])
theorem Hd.lamF (h : Hd fa fn lams mks P G) (hd : d ∈ lams) {fd : FuncData} (F : FunD G.K d.name d.qual d.params d.body d.scope (d.dvs G.K) (d.kws G.K) (He.fAd G.K d.at_) fd) : LamF G d.qual fd := by
  obtain ⟨oc, od, dV, kV, doc, pm, an, cdv, ct, osl, efd, lk, hcd, _, _⟩ := F.ex
  obtain ⟨c, rfl⟩ := He.codeIn_ref hcd
  subst efd
  have e := He.codeOf_eq (p := d.at_) lk (c := c) rfl
  have e1 : (He.cT G.K d.at_).1 = c := e
  refine ⟨c, (He.cT G.K d.at_).2, rfl, ?_, ?_, fun p hp hq => ?_⟩
  · have z := h.tbB d hd
    rw [e1] at z
    exact z
  · rw [h.tb]
    exact List.mem_map.mpr ⟨d, hd, rfl⟩
  · rw [h.tb] at hp
    obtain ⟨d', hd', rfl⟩ := List.mem_map.mp hp
    have z := nodup_map h.nd hd' hd hq
    rw [z]
    rfl
theorem Hd.lamO (h : Hd fa fn lams mks P G) (hl : M.lam = none ∨ d ∈ lams) {fd : FuncData} (F : FunD G.K d.name d.qual d.params d.body d.scope (d.dvs G.K) (d.kws G.K) (He.fAd G.K d.at_) fd) : M.lam = none ∨ LamF G d.qual fd := hl.imp id fun z => h.lamF z F
theorem dvs_nil (h0 : d.dfl = []) : d.dvs G.K = [] := by
  unfold He.DefD.dvs
  rw [h0] <;> rfl
/-- a def without defaults -/
theorem mk_fact (h : Hd fa fn lams mks P G) (hd : d ∈ fn) (ha : d.at_ = (x, none)) (hg : .glo x ∈ fa) (S : FnScope N ps d.scope) (h0 : d.dfl = []) (h1 : d.kwd = [])
    (hb : ∀ (kV doc pm : Value) (an : Option Addr) (cdv ct : Value) (us : List Value), us.length = ps.length → bindArgs (PySem.W.fnOf d.name d.qual d.params d.body d.scope .none kV doc pm an cdv ct) ⟨us, []⟩ = pure (ps.zip us))
    (Fa : Facts G M T lvl) (form : isSs M N b d.scope d.body = true) (hl : lvl ≤ lv := by first | decide | omega) (hk : M.key = none ∨ lvl + 1 ≤ lv := by first | exact .inl rfl | exact .inr (by first | decide | omega)) (hlam : M.lam = none ∨ d ∈ lams := by exact .inl rfl) :
    FnFact G (lv + 1) x ps.length (body T N.length b) := by
  obtain ⟨fd, F⟩ := h.def_ hd
  have ok := fn_body F S Fa form hl hk (h.lamO hlam F)
  rw [ha] at ok F
  have e0 : d.dvs G.K = [] := dvs_nil h0
  rw [e0] at F
  refine ⟨_, _, fd, ps, _, [], [], Nat.le_refl _, ok, h.glo x hg, F.kp, F.bindsN hb, .nil, fun B args H vs Q E hl dm tb hr p => ⟨?_, B, args, dm, tb, ?_, p⟩⟩
  · rw [List.append_nil, reps_len hr, hl]
  · rw [List.append_nil]
    exact hr
theorem FnFact.congr {x : Str} {n : Nat} {F F' : List D → R D} (h : FnFact G lvl x n F) (e : ∀ args, args.length = n → F' args = F args) : FnFact G lvl x n F' := by
  obtain ⟨a, k, fd, ps, sp, ds, dvs, h1, h2, h3, h4, h5, h6, h7⟩ := h
  exact ⟨a, k, fd, ps, sp, ds, dvs, h1, h2, h3, h4, h5, h6, fun B args H vs Q E hl dm tb hr p => h7 B args H vs Q E hl dm tb hr (by rw [← e args hl]; exact p)⟩
/-- a def that is not called -/
theorem mk_fact0 (h : Hd fa fn lams mks P G) (hd : d ∈ fn) (ha : d.at_ = (x, none)) (hg : .glo x ∈ fa) (h0 : d.dfl = []) {n : Nat}
    (hb : ∀ (kV doc pm : Value) (an : Option Addr) (cdv ct : Value) (us : List Value), us.length = ps.length → bindArgs (PySem.W.fnOf d.name d.qual d.params d.body d.scope .none kV doc pm an cdv ct) ⟨us, []⟩ = pure (ps.zip us)) : FnFact G lvl x n (fun _ => .stuck) := by
  obtain ⟨fd, F⟩ := h.def_ hd
  rw [ha] at F
  have e0 : d.dvs G.K = [] := dvs_nil h0
  rw [e0] at F
  exact ⟨_, 0, fd, ps, fun _ _ _ _ => False, [], [], Nat.zero_le _, ⟨fun _ _ _ _ h => h.elim, fun _ _ _ _ _ _ _ _ _ _ _ _ _ h => h.elim⟩, h.glo x hg, F.kp, F.bindsN hb, .nil, fun B args H vs Q E hl dm tb hr p => p⟩
theorem mk_fact0Io (h : Hd fa fn lams mks P G) (hd : d ∈ fn) (ha : d.at_ = (x, none)) (hg : .glo x ∈ fa) (h0 : d.dfl = []) {n : Nat}
    (hb : ∀ (kV doc pm : Value) (an : Option Addr) (cdv ct : Value) (us : List Value), us.length = ps.length → bindArgs (PySem.W.fnOf d.name d.qual d.params d.body d.scope .none kV doc pm an cdv ct) ⟨us, []⟩ = pure (ps.zip us)) : FnFactIo G lvl x n (fun _ _ => .stuck) := by
  obtain ⟨fd, F⟩ := h.def_ hd
  rw [ha] at F
  have e0 : d.dvs G.K = [] := dvs_nil h0
  rw [e0] at F
  exact ⟨_, 0, fd, ps, fun _ _ _ _ => False, Nat.zero_le _, ⟨fun _ _ _ _ h => h.elim, fun _ _ _ _ _ _ _ _ _ _ _ _ _ h => h.elim⟩, h.glo x hg, F.kp, F.bindsN hb, fun B a args d H vs Q E hl dm tb na hr ho p => p⟩
/-- a def that writes to its last argument -/
theorem mk_factIo (h : Hd fa fn lams mks P G) (hd : d ∈ fn) (ha : d.at_ = (x, none)) (hg : .glo x ∈ fa) (S : FnScope N ps d.scope) (h0 : d.dfl = []) {n : Nat} (hn : ps.length = n + 1) (hN : n + 1 ≤ N.length)
    (hb : ∀ (kV doc pm : Value) (an : Option Addr) (cdv ct : Value) (us : List Value), us.length = ps.length → bindArgs (PySem.W.fnOf d.name d.qual d.params d.body d.scope .none kV doc pm an cdv ct) ⟨us, []⟩ = pure (ps.zip us))
    (Fa : Facts G M T lvl) (form : isSs M N b d.scope d.body = true) (hl : lvl ≤ lv := by first | decide | omega) (hk : M.key = none ∨ lvl + 1 ≤ lv := by first | exact .inl rfl | exact .inr (by first | decide | omega)) (hlam : M.lam = none ∨ d ∈ lams := by exact .inl rfl) :
    FnFactIo G (lv + 1) x n (bodyIo T N.length b) := by
  obtain ⟨fd, F⟩ := h.def_ hd
  have ok := fn_bodyIo F S hn hN Fa form hl hk (h.lamO hlam F)
  rw [ha] at ok F
  have e0 : d.dvs G.K = [] := dvs_nil h0
  rw [e0] at F
  exact ⟨_, _, fd, ps, _, Nat.le_refl _, ok, h.glo x hg, F.kp, F.bindsN hb, fun B a args d H vs Q E hl dm tb na hr ho p => ⟨B, a, args, d, vs, rfl, by rw [reps_len hr, hl], dm, tb, na, hr, ho, p⟩⟩
/-- a method without defaults -/
theorem mk_meth {c m : Str} (h : Hd fa fn lams mks P G) (hd : d ∈ fn) (ha : d.at_ = (c, some m)) (hg : .glo c ∈ fa) (hc : .cls c ∈ fa) (hm : .meth c m ∈ fa) (S : FnScope N ps d.scope) (h0 : d.dfl = [])
    (hb : ∀ (kV doc pm : Value) (an : Option Addr) (cdv ct : Value) (us : List Value), us.length = ps.length → bindArgs (PySem.W.fnOf d.name d.qual d.params d.body d.scope .none kV doc pm an cdv ct) ⟨us, []⟩ = pure (ps.zip us))
    (Fa : Facts G M T lvl) (form : isSs M N b d.scope d.body = true) (hl : lvl ≤ lv := by first | decide | omega) (hk : M.key = none ∨ lvl + 1 ≤ lv := by first | exact .inl rfl | exact .inr (by first | decide | omega)) (hlam : M.lam = none ∨ d ∈ lams := by exact .inl rfl) :
    MethFact G (lv + 1) c m ps.length (body T N.length b) := by
  obtain ⟨fd, F⟩ := h.def_ hd
  have ok := fn_body F S Fa form hl hk (h.lamO hlam F)
  rw [ha] at ok F
  have e0 : d.dvs G.K = [] := dvs_nil h0
  rw [e0] at F
  refine ⟨_, _, _, fd, ps, _, [], [], Nat.le_refl _, h.glo c hg, h.cls c hc, h.meth c m hm, ok, F.bindsN hb, .nil, fun B args H vs Q E hl dm tb hr p => ⟨?_, B, args, dm, tb, ?_, p⟩⟩
  · rw [List.append_nil, reps_len hr, hl]
  · rw [List.append_nil]
    exact hr
theorem MethFact.congr {c m : Str} {n : Nat} {F F' : List D → R D} (h : MethFact G lvl c m n F) (e : ∀ args, args.length = n → F' args = F args) : MethFact G lvl c m n F' := by
  obtain ⟨C, f, k, fd, ps, sp, ds, dvs, h1, h2, h3, h4, h5, h6, h7, h8⟩ := h
  exact ⟨C, f, k, fd, ps, sp, ds, dvs, h1, h2, h3, h4, h5, h6, h7, fun B args H vs Q E hl dm tb hr p => h8 B args H vs Q E hl dm tb hr (by rw [← e args hl]; exact p)⟩
theorem Hd.mkF (h : Hd fa fn lams mks P G) {c : Str} (hg : .glo c ∈ fa) (hm : .mk c ∈ mks) : MkFact G c := ⟨_, h.glo c hg, h.mkc _ hm⟩
theorem Hd.nms (h : Hd fa fn lams mks P G) : ∀ {cs : List Str}, (∀ n ∈ cs, (n ≠ "ValueError" ∧ .glo n ∈ fa) ∨ (n = "ValueError" ∧ .free n ∈ fa)) → ∃ vs, ClsNs G cs vs (cs.map (clsU G.K))
  | [], _ => ⟨[], rfl, rfl⟩
  | n :: cs, hn => by
    obtain ⟨vs, hv⟩ := h.nms fun m hm => hn m (List.mem_cons_of_mem _ hm)
    rcases hn n List.mem_cons_self with ⟨h1, h2⟩ | ⟨rfl, h2⟩
    · refine ⟨_, .ref (He.ga G.K n), _, _, _, rfl, rfl, .inl ⟨_, h.glo n h2, rfl, ?_⟩, hv⟩
      unfold clsU
      rw [if_neg h1]
    · refine ⟨_, .ty "ValueError", _, _, _, rfl, rfl, .inr ⟨rfl, h.free _ h2, rfl, ?_⟩, hv⟩
      unfold clsU
      rw [if_pos rfl]
def nmOk (fa : List He.Fa) (n : Str) : Bool := fa.any fun f => match f with
  | .glo y => decide (y = n) && !decide (n = "ValueError")
  | .free y => decide (y = n) && decide (n = "ValueError")
  | _ => false
theorem nmOk_ok {n : Str} (h : nmOk fa n = true) : (n ≠ "ValueError" ∧ .glo n ∈ fa) ∨ (n = "ValueError" ∧ .free n ∈ fa) := by
  obtain ⟨f, hf, q⟩ := List.any_eq_true.mp h
  cases f with
  | glo y =>
    have q : (decide (y = n) && !decide (n = "ValueError")) = true := q
    rw [Bool.and_eq_true, Bool.not_eq_true'] at q
    cases of_decide_eq_true q.1
    exact .inl ⟨of_decide_eq_false q.2, hf⟩
  | free y =>
    have q : (decide (y = n) && decide (n = "ValueError")) = true := q
    rw [Bool.and_eq_true] at q
    cases of_decide_eq_true q.1
    exact .inr ⟨of_decide_eq_true q.2, hf⟩
  | _ => cases q
theorem Hd.subF (h : Hd fa fn lams mks P G) {c : Str} {cs : List Str} {b : Bool} (hg : .glo c ∈ fa) (hc : .cls c ∈ fa) (hn : cs.all (nmOk fa) = true) (hm : .sub c cs b ∈ mks) : SubFact G c cs b := by
  obtain ⟨vs, hv⟩ := h.nms fun n hm => nmOk_ok (List.all_eq_true.mp hn n hm)
  obtain ⟨⟨h1, h2, h3, h4⟩, h5⟩ := h.mkc _ hm
  exact ⟨_, vs, _, h.glo c hg, hv, ⟨h.cls c hc, h1, h2, h3, h4⟩, h5⟩
theorem Hd.rsF (h : Hd fa fn lams mks P G) {c : Str} (hg : .glo c ∈ fa) (hm : .rs c ∈ mks) : RaiseFact G c := by
  obtain ⟨h1, h2, h3, h4⟩ := h.mkc _ hm
  exact ⟨_, _, _, _, _, h.glo c hg, PySem.F.excBase_ValueError, h1, h2, h3, h4⟩
theorem Hd.subEF (h : Hd fa fn lams mks P G) {c : Str} {cs : List Str} {b : Bool} (hg : .glo c ∈ fa) (hn : cs.all (nmOk fa) = true) (hm : .subE c cs b ∈ mks) : SubEFact G c cs b := by
  obtain ⟨vs, hv⟩ := h.nms fun n hm => nmOk_ok (List.all_eq_true.mp hn n hm)
  obtain ⟨⟨h1, h2, h3, h4, h5, h6, h7, h8⟩, h9⟩ := h.mkc _ hm
  exact ⟨_, vs, _, h.glo c hg, hv, ⟨h1, h2, h3, h4, h5, h6, h7, h8⟩, h9⟩
theorem Hd.exmF (h : Hd fa fn lams mks P G) {c d : Str} {b : Bool} (hg : .glo c ∈ fa) (hd : .glo d ∈ fa) (hm : .exm c d b ∈ mks) : ExmFact G c d b := ⟨_, _, h.glo c hg, h.glo d hd, h.mkc _ hm⟩
/-- where some of the last parameters are left to their defaults -/
theorem mk_factD (h : Hd fa fn lams mks P G) (hd : d ∈ fn) (ha : d.at_ = (x, none)) (hg : .glo x ∈ fa) (S : FnScope N ps d.scope) (n j : Nat) (dd : List D) (h0 : d.dfl ≠ []) (hn : n + (d.dfl.length - j) = ps.length)
    (hb : ∀ (T : Addr) (kV doc pm : Value) (an : Option Addr) (cdv ct : Value) (us its : List Value), us.length = n → its.length = d.dfl.length →
      ∃ k, bindArgs (PySem.W.fnOf d.name d.qual d.params d.body d.scope (.ref T) kV doc pm an cdv ct) ⟨us, []⟩ = seqItems? (.ref T) >>= k ∧ k (some its.toArray) = pure (ps.zip (us ++ its.drop j)))
    (hv : (d.dfl.drop j).map (fun v => some (He.Dv.v G.K v)) = dd.map cstV)
    (Fa : Facts G M T lvl) (form : isSs M N b d.scope d.body = true) (hl : lvl ≤ lv := by first | decide | omega) (hk : M.key = none ∨ lvl + 1 ≤ lv := by first | exact .inl rfl | exact .inr (by first | decide | omega)) (hlam : M.lam = none ∨ d ∈ lams := by exact .inl rfl) :
    FnFact G (lv + 1) x n (fun ds => body T N.length b (ds ++ dd)) := by
  obtain ⟨fd, F⟩ := h.def_ hd
  have ok := fn_body F S Fa form hl hk (h.lamO hlam F)
  rw [ha] at ok F
  have hlen : (d.dvs G.K).length = d.dfl.length := by
    unfold He.DefD.dvs
    rw [List.length_map]
  obtain ⟨ds, rd, bd⟩ := F.binds1 (ps := ps) n j (fun e => h0 (List.eq_nil_of_length_eq_zero (by rw [← hlen, e] <;> rfl))) (by rw [hlen]; exact hn) (fun T kV doc pm an cdv ct us its h1 h2 => hb T kV doc pm an cdv ct us its h1 (h2.trans hlen))
  have hrep : ∀ (B : Addr → Prop) (H : Hp), reps G B H dd ((d.dvs G.K).drop j) := fun B H => by
    have e : (d.dvs G.K).drop j = (d.dfl.drop j).map (He.Dv.v G.K) := by
      unfold He.DefD.dvs
      rw [List.map_drop]
    rw [e]
    clear e rd bd
    generalize d.dfl.drop j = l at hv
    induction l generalizing dd with
    | nil =>
      cases dd with
      | nil => rfl
      | cons a dd => cases hv
    | cons v l ih =>
      cases dd with
      | nil => cases hv
      | cons a dd =>
        rw [List.map_cons, List.map_cons] at hv
        injection hv with h1 h2
        refine ⟨_, _, rfl, ?_, ih dd h2⟩
        cases a <;> first | (cases h1; done) | (have e := Option.some.inj h1; exact e)
  refine ⟨_, _, fd, ps, _, ds, _, Nat.le_refl _, ok, h.glo x hg, F.kp, bd, rd, fun B args H vs Q E hl dm tb hr p => ⟨?_, B, args ++ dd, dm, tb, reps_app hr (hrep B H), p⟩⟩
  have z := reps_len (hrep B H)
  rw [List.length_append, reps_len hr, hl, List.length_drop, hlen]
  exact hn
/-- called with keywords, every parameter given -/
theorem mk_factK (h : Hd fa fn lams mks P G) (hd : d ∈ fn) (ha : d.at_ = (x, none)) (hg : .glo x ∈ fa) (S : FnScope N ps d.scope) (n : Nat) (ks : List Str) (gf : {α : Type} → List α → List α → List α) (h0 : d.dfl ≠ [])
    (hlen : ∀ {α : Type} (us ws : List α), us.length = n → ws.length = ks.length → (gf us ws).length = ps.length)
    (hV : ∀ {vs : List V} {us : List Value} {zs : List V} {ws : List Value}, Vals vs us → Vals zs ws → Vals (gf vs zs) (gf us ws))
    (hR : ∀ (B : Addr → Prop) (H : Hp) (a c : List D) (vs zs : List V), a.length = n → c.length = ks.length → reps G B H a vs → reps G B H c zs → reps G B H (gf a c) (gf vs zs))
    (hb : ∀ (T : Addr) (kV doc pm : Value) (an : Option Addr) (cdv ct : Value) (us its ws : List Value), us.length = n → its.length = d.dfl.length → ws.length = ks.length →
      ∃ k, bindArgs (PySem.W.fnOf d.name d.qual d.params d.body d.scope (.ref T) kV doc pm an cdv ct) ⟨us, ks.zip ws⟩ = seqItems? (.ref T) >>= k ∧ k (some its.toArray) = pure (ps.zip (gf us ws)))
    (Fa : Facts G M T lvl) (form : isSs M N b d.scope d.body = true) (hl : lvl ≤ lv := by first | decide | omega) (hk : M.key = none ∨ lvl + 1 ≤ lv := by first | exact .inl rfl | exact .inr (by first | decide | omega)) (hlam : M.lam = none ∨ d ∈ lams := by exact .inl rfl) :
    FnFactK G (lv + 1) x ks n (fun a c => body T N.length b (gf a c)) := by
  obtain ⟨fd, F⟩ := h.def_ hd
  have ok := fn_body F S Fa form hl hk (h.lamO hlam F)
  rw [ha] at ok F
  have hlen' : (d.dvs G.K).length = d.dfl.length := by
    unfold He.DefD.dvs
    rw [List.length_map]
  have kb : KBn G.K fd ps n ks gf gf := by
    obtain ⟨oc, od, dV, kV, doc, pm, an, cdv, ct, osl, rfl, lk, hcd, hD, hK⟩ := F.ex
    rcases hD with ⟨e, _⟩ | ⟨_, T', o, its, m, rfl, lT, oT, rT⟩
    · exact absurd (List.eq_nil_of_length_eq_zero (by rw [← hlen', e] <;> rfl)) h0
    · refine ⟨fun s us ws X l1 l2 => ?_, hV⟩
      obtain ⟨k, e1, e2⟩ := hb T' kV doc pm an cdv ct us its ws l1 (rT.length.symm.trans hlen') l2
      refine BindsTo.of_looks fun M => ?_
      rw [e1]
      exact looks_items X lT oT (.of_pure e2)
  exact ⟨_, _, fd, ps, _, gf, gf, Nat.le_refl _, ok, h.glo x hg, F.kp, kb, fun B a c H vs zs Q E l1 l2 dm tb r1 r2 p => ⟨hlen vs zs (by rw [reps_len r1, l1]) (by rw [reps_len r2, l2]), B, gf a c, dm, tb, hR B H a c vs zs l1 l2 r1 r2, p⟩⟩
theorem Hd.blt (h : Hd fa fn lams mks P G) (e : bltNames.all (fun x => fa.any fun f => match f with | .free y => decide (y = x) | _ => false) = true) : ∀ x, x ∈ bltNames → G.mg x = none := fun x hx => by
  have z := List.all_eq_true.mp e x hx
  obtain ⟨f, hf, q⟩ := List.any_eq_true.mp z
  cases f with
  | free y =>
    have q := of_decide_eq_true q
    subst q
    exact h.free y hf
  | _ => cases q
end
/-! ### the head's Hook: K holds no list; classes that may be made; the tables apart -/
def nlB (K : PySem.W.Frag) : Bool := K.all fun q => !(decide (q.2.cls = .type "list"))
def exI (lams : List He.DefD) (mks : List Xf) (K : PySem.W.Frag) : Bool := nlB K && mks.all (Xf.okB K) && decide ((lams.map fun d => (He.cT K d.at_).2).Nodup)
abbrev hookI (n : Nat) (fa : List He.Fa) (fn lams : List He.DefD) (mks : List Xf) : PySem.W.Hook := He.hookX n fa fn [] (lams.map (·.at_)) (exI lams mks)
def obsI (n : Nat) (fa : List He.Fa) (fn lams : List He.DefD) (mks : List Xf) (g : Addr → Option Obj) : He.AlX := He.obsX n fa fn [] (lams.map (·.at_)) (exI lams mks) g
theorem obsI_eq {n : Nat} {fa : List He.Fa} {fn lams : List He.DefD} {mks : List Xf} {g : Addr → Option Obj} {s : Shared} (h : ∀ a, g a = s.heap.get? a) : obsI n fa fn lams mks g = (hookI n fa fn lams mks).obs s := He.obsX_eq h
theorem nl_lookup {K : PySem.W.Frag} (h : nlB K = true) {a : Addr} {o : Obj} (e : K.lookup a = some o) : o.cls ≠ .type "list" := fun z => by
  have q := List.all_eq_true.mp h _ (He.lookup_mem e)
  rw [decide_eq_true z] at q
  cases q
theorem hd_of {fa : List He.Fa} {fn lams : List He.DefD} {mks : List Xf} {P : Program} {w : World} {K : PySem.W.Frag} {mg : Str → Option Value} {h base : Heap} (X : K.In h) (Gh : h.Ns mainGlobals mg) (c : He.SaysD fa fn K) (ex : exI lams mks K = true)
    (tb : ∀ d ∈ lams, LamX.TabB base mg (He.cT K d.at_).1 (He.cT K d.at_).2) : Hd fa fn lams mks P ⟨P, w, K, mg, base, lams.map fun d => ((He.cT K d.at_).2, qlam d.qual)⟩ := by
  have fact : ∀ f ∈ fa, f.ok K = true := fun f hf => by
    obtain ⟨i, hi, e⟩ := List.mem_iff_getElem.mp hf
    exact c.fact i (f := f) (by rw [List.getElem?_eq_getElem hi, e])
  unfold exI at ex
  rw [Bool.and_eq_true, Bool.and_eq_true] at ex
  obtain ⟨⟨e1, e2⟩, e3⟩ := ex
  refine ⟨rfl, c, fun x hx => He.glo_ok X Gh (fact _ hx), fun x hx => He.free_ok X Gh (fact _ hx), fun x i hx => He.int_ok X Gh (fact _ hx), fun x z hx => He.str_ok X Gh (fact _ hx), fun x hx => He.cls_ok (fact _ hx), fun x m hx => He.meth_ok (fact _ hx), fun x hx => ?_, rfl, tb, of_decide_eq_true e3⟩
  exact Xf.of_B (List.all_eq_true.mp e2 x hx)
/-- the law's own def: what the walk asks -/
theorem law_end {l : PySem.W.OpenLaw} {fa : List He.Fa} {fn lams : List He.DefD} {mks : List Xf} {w : World} {mg : Str → Option Value} {h : Heap} {f : Addr} {x : Str} {d : He.DefD} {N : List Str} {M : Nms} {T : Tbl} {lvl lv : Nat} {b : Ss} {m : Nat} (Gh : h.Ns mainGlobals mg)
    (Y : (hookI m fa fn lams mks).says w h)
    (hf : mg ("law" : Str) = some (.ref f)) (hg : .glo "law" ∈ fa) (hd : d ∈ fn) (ha : d.at_ = (("law" : Str), none)) (S : FnScope N [x] d.scope) (h0 : d.dfl = [])
    (hb : ∀ (kV doc pm : Value) (an : Option Addr) (cdv ct : Value) (us : List Value), us.length = [x].length → bindArgs (PySem.W.fnOf d.name d.qual d.params d.body d.scope .none kV doc pm an cdv ct) ⟨us, []⟩ = pure ([x].zip us))
    (Fa : ∀ G, Hd fa fn lams mks l.prog G → Facts G M T lvl) (form : isSs M N b d.scope d.body = true) {n : Nat} (law : ∀ ns : List Int, ns.length ≤ n → body T N.length b [.lst (ns.map D.int)] = .ok (.bl true))
    (hl : lvl ≤ lv := by first | decide | omega) (hk : M.key = none ∨ lvl + 1 ≤ lv := by first | exact .inl rfl | exact .inr (by first | decide | omega)) (hlam : M.lam = none ∨ d ∈ lams := by exact .inl rfl) :
    ∃ K : PySem.W.Frag, K.In h ∧ LamX.LawAtS l w K (L2.CX l.prog w) (lv + 1) n x mg f h := by
  obtain ⟨K, X, sx⟩ := Y
  have c : He.SaysD fa fn K := He.SaysT.d sx.t
  have ex := sx.more
  have nl : nlB K = true := by
    unfold exI at ex
    rw [Bool.and_eq_true, Bool.and_eq_true] at ex
    exact ex.1.1
  have hdef : ∃ fd, FunD K d.name d.qual d.params d.body d.scope (d.dvs K) (d.kws K) (He.fAd K d.at_) fd := He.SaysD.defs c hd
  obtain ⟨fd, F⟩ := hdef
  have glaw : mg "law" = some (.ref (He.ga K "law")) := by
    obtain ⟨i, hi, e⟩ := List.mem_iff_getElem.mp hg
    exact He.glo_ok X Gh (c.fact i (f := .glo "law") (by rw [List.getElem?_eq_getElem hi, e]))
  have ef : f = He.fAd K d.at_ := by
    rw [ha]
    rw [hf] at glaw
    cases glaw
    rfl
  have e0 : d.dvs K = [] := by
    unfold He.DefD.dvs
    rw [h0] <;> rfl
  refine ⟨K, X, fd, lams.map fun d => He.cT K d.at_, fun vs H Q E => ∃ (a : Addr) (ns : List Int), vs = [.ref a] ∧ Rd H a (.lst (ns.map V.int)) ∧ ns.length ≤ n ∧ (∀ p ∈ lams, H (He.cT K p.at_).2 = some (.tbl #[])) ∧ ∀ H', Q (.bl true) H', fun p hp => ?_, fun p hp => ?_, fun p hp => ?_, fun s u => ?_, fun H a ns hl2 hbits hT sq => ?_, fun base KB GB tB => ?_⟩
  · obtain ⟨q, hq, rfl⟩ := List.mem_map.mp hp
    exact sx.empty q.at_ (List.mem_map.mpr ⟨q, hq, rfl⟩)
  · obtain ⟨q, hq, rfl⟩ := List.mem_map.mp hp
    exact sx.out q.at_ (List.mem_map.mpr ⟨q, hq, rfl⟩)
  · obtain ⟨q, hq, rfl⟩ := List.mem_map.mp hp
    exact PySem.W.codeHd_of_K X (sx.hd q.at_ (List.mem_map.mpr ⟨q, hq, rfl⟩))
  · rw [e0] at F
    exact F.bindsA hb s [u] rfl
  · refine ⟨a, ns, rfl, ?_, hl2, fun p hp => hT _ (List.mem_map.mpr ⟨p, hp, rfl⟩), fun _ => rfl⟩
    rcases sq with sq | ⟨o, its, m, e, hc, _⟩
    · exact sq
    · exact absurd hc (nl_lookup nl e)
  · rw [ef]
    have hh := hd_of (P := l.prog) (w := w) KB GB c ex fun q hq => tB _ (List.mem_map.mpr ⟨q, hq, rfl⟩)
    have ok := fn_body (G := ⟨l.prog, w, K, mg, base, lams.map fun d => ((He.cT K d.at_).2, qlam d.qual)⟩) F S (Fa _ hh) form hl hk (hh.lamO hlam F)
    refine ok.imp fun vs H Q E ⟨a, ns, ev, hR, hl2, hT, q⟩ => ?_
    subst ev
    refine ⟨rfl, fun _ => False, [.lst (ns.map D.int)], fun _ z => z.elim, fun p hp => ?_, ⟨_, [], rfl, ⟨a, ns.map V.int, rfl, hR, fun z => z, ?_⟩, rfl⟩, ?_⟩
    · obtain ⟨p', hp', rfl⟩ := List.mem_map.mp hp
      exact LamX.TabS.nil (hT p' hp')
    · have h : ∀ l2 : List Int, reps (⟨l.prog, w, K, mg, base, lams.map fun d => ((He.cT K d.at_).2, qlam d.qual)⟩ : Gx) (fun _ => False) H (l2.map D.int) (l2.map V.int) := fun l2 => by
        induction l2 with
        | nil => rfl
        | cons i l2 ih => exact ⟨_, _, rfl, rfl, ih⟩
      exact h ns
    · rw [law ns hl2]
      intro v H' _ r
      have r : v = .bl true := r
      rw [r]
      exact q H'
theorem cx_false {P : Program} {w : World} (H : Hp) (s : Shared) (e : Value) (s' : Shared) (z : L2.CX P w [] H s (fun _ _ _ => False) e s') : False := by
  obtain ⟨_, _, _, _, _, _, _, _, _, _, _, _, z⟩ := z
  exact z
end Ir

/-! Pl0: the plain language step by step: rows for simp. -/
namespace Ir
open PySem L2
section
variable (T : Tbl) (ρ : Sl)
/-! ### slots -/
@[simp] theorem getP_im (d : D) (l : Sl) : getP (some (.im d) :: l) 0 = .ok d := Eq.trans rfl rfl
@[simp] theorem getP_own (d : D) (l : Sl) : getP (some (.own d) :: l) 0 = .ok d := Eq.trans rfl rfl
@[simp] theorem getP_cons (x : Option SV) (l : Sl) (i : Nat) : getP (x :: l) (i + 1) = getP l i := Eq.trans rfl rfl
@[simp] theorem getI_im (d : D) (l : Sl) : getI (some (.im d) :: l) 0 = .ok d := Eq.trans rfl rfl
@[simp] theorem getI_cons (x : Option SV) (l : Sl) (i : Nat) : getI (x :: l) (i + 1) = getI l i := Eq.trans rfl rfl
@[simp] theorem getOwn_own (d : D) (l : Sl) : getOwn (some (.own d) :: l) 0 = .ok d := Eq.trans rfl rfl
@[simp] theorem getOwn_cons (x : Option SV) (l : Sl) (i : Nat) : getOwn (x :: l) (i + 1) = getOwn l i := Eq.trans rfl rfl
@[simp] theorem getP_io (a : Addr) (d : D) (l : Sl) : getP (some (.io a d) :: l) 0 = .ok d := Eq.trans rfl rfl
@[simp] theorem getW_own (d : D) (l : Sl) : getW (some (.own d) :: l) 0 = .ok d := Eq.trans rfl rfl
@[simp] theorem getW_io (a : Addr) (d : D) (l : Sl) : getW (some (.io a d) :: l) 0 = .ok d := Eq.trans rfl rfl
@[simp] theorem getW_cons (x : Option SV) (l : Sl) (i : Nat) : getW (x :: l) (i + 1) = getW l i := Eq.trans rfl rfl
@[simp] theorem putW_own (d e : D) (l : Sl) : putW (some (.own d) :: l) 0 e = some (.own e) :: l := Eq.trans rfl rfl
@[simp] theorem putW_io (a : Addr) (d e : D) (l : Sl) : putW (some (.io a d) :: l) 0 e = some (.io a e) :: l := Eq.trans rfl rfl
@[simp] theorem putW_cons (x : Option SV) (l : Sl) (i : Nat) (e : D) : putW (x :: l) (i + 1) e = x :: putW l i e := by
  unfold putW
  rw [List.getElem?_cons_succ]
  cases l[i]? <;> rfl
@[simp] theorem putI_0 (x : Option SV) (l : Sl) (d : D) : putI (x :: l) 0 d = some (.im d) :: l := Eq.trans rfl rfl
@[simp] theorem putI_s (x : Option SV) (l : Sl) (i : Nat) (d : D) : putI (x :: l) (i + 1) d = x :: putI l i d := Eq.trans rfl rfl
@[simp] theorem putO_0 (x : Option SV) (l : Sl) (d : D) : putO (x :: l) 0 d = some (.own d) :: l := Eq.trans rfl rfl
@[simp] theorem putO_s (x : Option SV) (l : Sl) (i : Nat) (d : D) : putO (x :: l) (i + 1) d = x :: putO l i d := Eq.trans rfl rfl
@[simp] theorem mask_0 : mask [] [] = [] := Eq.trans rfl rfl
@[simp] theorem mask_n (a : Sl) (b : Option SV) (m : Sl) : mask (none :: a) (b :: m) = none :: mask a m := Eq.trans rfl rfl
@[simp] theorem mask_s (a : Sl) (s : SV) (b : Option SV) (m : Sl) : mask (some s :: a) (b :: m) = b :: mask a m := Eq.trans rfl rfl
@[simp] theorem wipeS_0 : wipeS ρ [] = ρ := Eq.trans rfl rfl
@[simp] theorem wipeS_s (i : Nat) (l : List Nat) : wipeS ρ (i :: l) = (wipeS ρ l).set i none := Eq.trans rfl rfl
@[simp] theorem noOwn_nil : noOwn ρ [] = true := Eq.trans rfl rfl
@[simp] theorem noOwn_cons (i : Nat) (l : List Nat) : noOwn ρ (i :: l) = ((match ρ[i]? with
    | some (some (.own _)) => false
    | some (some (.io _ _)) => false
    | _ => true) && noOwn ρ l) := Eq.trans rfl rfl
/-! ### expressions -/
variable (a b c : E) (l m : Es) (i : Nat)
@[simp] theorem evP_var : evP T (.var i) ρ = getP ρ i := Eq.trans rfl rfl
@[simp] theorem evP_int (n : Int) : evP T (.int n) ρ = .ok (.int n) := Eq.trans rfl rfl
@[simp] theorem evP_bl (n : Bool) : evP T (.bl n) ρ = .ok (.bl n) := Eq.trans rfl rfl
@[simp] theorem evP_non : evP T .non ρ = .ok .non := Eq.trans rfl rfl
@[simp] theorem evP_str (s : Str) : evP T (.str s) ρ = .ok (.str s) := Eq.trans rfl rfl
@[simp] theorem evP_glb (x : Nat) : evP T (.glb x) ρ = T.cst x := Eq.trans rfl rfl
@[simp] theorem evP_bin (o : Operator) : evP T (.bin o a b) ρ = (evP T a ρ).bind fun x => (evP T b ρ).bind fun y => binD o x y := Eq.trans rfl rfl
@[simp] theorem evP_neg (n : Int) : evP T (.neg (.int n)) ρ = .ok (.int (-n)) := Eq.trans rfl rfl
@[simp] theorem evP_not : evP T (.not a) ρ = (evP T a ρ).bind fun x => (truD x).bind fun b => .ok (.bl (!b)) := Eq.trans rfl rfl
@[simp] theorem evP_cmp (o : CmpOp) : evP T (.cmp o a b) ρ = (evP T a ρ).bind fun x => (evP T b ρ).bind fun y => (cmpD o x y).bind fun r => .ok (.bl r) := Eq.trans rfl rfl
/-- one more comparison -/
def chainK (T : Tbl) (ρ : Sl) (p : CmpOp) (c : E) (y : D) (r : Bool) : R D := match r with
    | true => (evP T c ρ).bind fun z => (cmpD p y z).bind fun r => .ok (.bl r)
    | false => .ok (.bl false)
@[simp] theorem chainK_t (p : CmpOp) (y : D) : chainK T ρ p c y true = (evP T c ρ).bind fun z => (cmpD p y z).bind fun r => .ok (.bl r) := Eq.trans rfl rfl
@[simp] theorem chainK_f (p : CmpOp) (y : D) : chainK T ρ p c y false = .ok (.bl false) := Eq.trans rfl rfl
@[simp] theorem evP_chain (o p : CmpOp) : evP T (.chain o p a b c) ρ = (evP T a ρ).bind fun x => (evP T b ρ).bind fun y => (cmpD o x y).bind fun r => chainK T ρ p c y r := Eq.trans rfl rfl
def andK (T : Tbl) (ρ : Sl) (b : E) (x : D) : R D := match x with
    | .bl true => imO b ρ (evP T b ρ)
    | .bl false => .ok (.bl false)
    | _ => .stuck
def orK (T : Tbl) (ρ : Sl) (b : E) (x : D) : R D := match x with
    | .bl true => .ok (.bl true)
    | .bl false => imO b ρ (evP T b ρ)
    | _ => .stuck
@[simp] theorem andK_t : andK T ρ b (.bl true) = imO b ρ (evP T b ρ) := Eq.trans rfl rfl
@[simp] theorem andK_f : andK T ρ b (.bl false) = .ok (.bl false) := Eq.trans rfl rfl
@[simp] theorem orK_t : orK T ρ b (.bl true) = .ok (.bl true) := Eq.trans rfl rfl
@[simp] theorem orK_f : orK T ρ b (.bl false) = imO b ρ (evP T b ρ) := Eq.trans rfl rfl
@[simp] theorem evP_and : evP T (.and a b) ρ = (evP T a ρ).bind (andK T ρ b) := Eq.trans rfl rfl
@[simp] theorem evP_or : evP T (.or a b) ρ = (evP T a ρ).bind (orK T ρ b) := Eq.trans rfl rfl
@[simp] theorem evP_tup : evP T (.tup l) ρ = (evL T l ρ).bind fun ds => .iff (decide (ds.length ≤ LIM)) (.ok (.tup ds)) := Eq.trans rfl rfl
@[simp] theorem evP_lst : evP T (.lst l) ρ = (evL T l ρ).bind fun ds => .iff (decide (ds.length ≤ LIM)) (.ok (.lst ds)) := Eq.trans rfl rfl
@[simp] theorem evP_dct (t : Nat) : evP T (.dct0 t) ρ = .ok (.dct t [] []) := Eq.trans rfl rfl
@[simp] theorem evP_sub : evP T (.sub a b) ρ = (evP T a ρ).bind fun x => (evP T b ρ).bind fun y => subsD x y := Eq.trans rfl rfl
@[simp] theorem evP_slc : evP T (.slc a b c) ρ = (evP T a ρ).bind fun x => (evP T b ρ).bind fun l => (intO l).bind fun l => (evP T c ρ).bind fun h => (intO h).bind fun h => slcD x l h := Eq.trans rfl rfl
@[simp] theorem evP_slcL : evP T (.slcL a b) ρ = (evP T a ρ).bind fun x => (evP T b ρ).bind fun l => (intO l).bind fun l => slcD x l none := Eq.trans rfl rfl
@[simp] theorem evP_slcH : evP T (.slcH a b) ρ = (evP T a ρ).bind fun x => (evP T b ρ).bind fun h => (intO h).bind fun h => slcD x none h := Eq.trans rfl rfl
@[simp] theorem evP_slcN : evP T (.slcN a) ρ = (evP T a ρ).bind fun x => slcD x none none := Eq.trans rfl rfl
@[simp] theorem evP_call (f : Nat) : evP T (.call f l) ρ = (evL T l ρ).bind fun ds => T.fn f ds := Eq.trans rfl rfl
@[simp] theorem evP_callK (f : Nat) (ks : List Str) : evP T (.callK f l ks m) ρ = (evL T l ρ).bind fun ds => (evL T m ρ).bind fun es => T.fnK f ks ds es := Eq.trans rfl rfl
@[simp] theorem evP_blt (f : BF) : evP T (.blt f l) ρ = (evLP T l ρ).bind fun ds => bltD f ds := Eq.trans rfl rfl
@[simp] theorem evP_isi (t : TyI) : evP T (.isi a t) ρ = (evP T a ρ).bind fun x => (isiD x t).bind fun b => .ok (.bl b) := Eq.trans rfl rfl
/-- a comprehension's turn -/
def compB (T : Tbl) (e : E) (tg : Tg) (ρ : Sl) (d : D) : R (List D) := (asgTg tg d ρ).bind fun ρ' => (imO e ρ' (evP T e ρ')).bind fun x => .ok [x]
def compIfK (T : Tbl) (e : E) (ρ' : Sl) (t : Bool) : R (List D) := match t with
      | true => (imO e ρ' (evP T e ρ')).bind fun x => .ok [x]
      | false => .ok []
def compIfB (T : Tbl) (e c : E) (tg : Tg) (ρ : Sl) (d : D) : R (List D) := (asgTg tg d ρ).bind fun ρ' => (evP T c ρ').bind fun t => (truD t).bind fun t => compIfK T e ρ' t
@[simp] theorem compIfK_t (e : E) : compIfK T e ρ true = (imO e ρ (evP T e ρ)).bind fun x => .ok [x] := Eq.trans rfl rfl
@[simp] theorem compIfK_f (e : E) : compIfK T e ρ false = .ok [] := Eq.trans rfl rfl
@[simp] theorem evP_comp (e : E) (tg : Tg) (it : Wk) : evP T (.comp e tg it) ρ = (evIP T it ρ).bind fun ds => .iff (decide (ds.length ≤ LIM) && noOwn ρ tg.slots) ((compL (compB T e tg (wipeS ρ tg.slots)) ds).bind fun xs => .ok (.lst xs)) := Eq.trans rfl rfl
@[simp] theorem evP_compIf (e : E) (tg : Tg) (it : Wk) : evP T (.compIf e tg it c) ρ = (evIP T it ρ).bind fun ds => .iff (decide (ds.length ≤ LIM) && noOwn ρ tg.slots) ((compL (compIfB T e c tg (wipeS ρ tg.slots)) ds).bind fun xs => .ok (.lst xs)) := Eq.trans rfl rfl
@[simp] theorem evL_nil : evL T .nil ρ = .ok [] := Eq.trans rfl rfl
@[simp] theorem evL_cons : evL T (.cons a l) ρ = (imO a ρ (evP T a ρ)).bind fun x => (evL T l ρ).bind fun xs => .ok (x :: xs) := Eq.trans rfl rfl
@[simp] theorem evLP_nil : evLP T .nil ρ = .ok [] := Eq.trans rfl rfl
@[simp] theorem evLP_cons : evLP T (.cons a l) ρ = (evP T a ρ).bind fun x => (evLP T l ρ).bind fun xs => .ok (x :: xs) := Eq.trans rfl rfl
@[simp] theorem imO_var (r : R D) : imO (.var i) ρ r = getI ρ i := Eq.trans rfl rfl
def rngK (x : D) : R (List D) := match x with
    | .int n => .iff (rngOk n) (.ok (rngL 0 n.toNat))
    | _ => .stuck
@[simp] theorem rngK_i (n : Int) : rngK (.int n) = .iff (rngOk n) (.ok (rngL 0 n.toNat)) := Eq.trans rfl rfl
@[simp] theorem evIP_rng1 : evIP T (.rng1 a) ρ = (evP T a ρ).bind rngK := Eq.trans rfl rfl
def rng2K (x y : D) : R (List D) := match x, y with
    | .int i, .int j => .iff (rngOk i && rngOk j) (.ok (rngL i (j - i).toNat))
    | _, _ => .stuck
@[simp] theorem rng2K_i (i j : Int) : rng2K (.int i) (.int j) = .iff (rngOk i && rngOk j) (.ok (rngL i (j - i).toNat)) := Eq.trans rfl rfl
@[simp] theorem evIP_rng2 : evIP T (.rng2 a b) ρ = (evP T a ρ).bind fun x => (evP T b ρ).bind fun y => rng2K x y := Eq.trans rfl rfl
@[simp] theorem evIP_seq : evIP T (.seq a) ρ = (evP T a ρ).bind fun x => seqOf x := Eq.trans rfl rfl
@[simp] theorem evIP_zip : evIP T (.zip a b) ρ = (evP T a ρ).bind fun x => (evP T b ρ).bind fun y => (seqOf2 x).bind fun l => (seqOf2 y).bind fun m => .ok (zipL l m) := Eq.trans rfl rfl
@[simp] theorem evIP_enum : evIP T (.enum a) ρ = (evP T a ρ).bind fun x => (seqOf2 x).bind fun l => .ok (enumL 0 l) := Eq.trans rfl rfl
@[simp] theorem evIP_rev : evIP T (.rev a) ρ = (evP T a ρ).bind fun x => (seqOf2 x).bind fun l => .ok l.reverse := Eq.trans rfl rfl
@[simp] theorem evI_rng1 : evI T (.rng1 a) ρ = evIP T (.rng1 a) ρ := Eq.trans rfl rfl
@[simp] theorem evI_rng2 : evI T (.rng2 a b) ρ = evIP T (.rng2 a b) ρ := Eq.trans rfl rfl
@[simp] theorem evI_seq : evI T (.seq a) ρ = (ev T a ρ).bind fun x => seqOf x := Eq.trans rfl rfl
@[simp] theorem evI_zip : evI T (.zip a b) ρ = (ev T a ρ).bind fun x => (ev T b ρ).bind fun y => (seqOf2 x).bind fun l => (seqOf2 y).bind fun m => .ok (zipL l m) := Eq.trans rfl rfl
@[simp] theorem evI_enum : evI T (.enum a) ρ = (ev T a ρ).bind fun x => (seqOf2 x).bind fun l => .ok (enumL 0 l) := Eq.trans rfl rfl
@[simp] theorem evI_rev : evI T (.rev a) ρ = (ev T a ρ).bind fun x => (seqOf2 x).bind fun l => .ok l.reverse := Eq.trans rfl rfl
@[simp] theorem ev_def (e : E) : ev T e ρ = imO e ρ (evP T e ρ) := Eq.trans rfl rfl
@[simp] theorem evT_def (e : E) : evT T e ρ = (evP T e ρ).bind truD := Eq.trans rfl rfl
@[simp] theorem seqOf_tup (l : List D) : seqOf (.tup l) = .ok l := Eq.trans rfl rfl
@[simp] theorem seqOf_lst (l : List D) : seqOf (.lst l) = .ok l := Eq.trans rfl rfl
@[simp] theorem seqOf2_tup (l : List D) : seqOf2 (.tup l) = .ok l := Eq.trans rfl rfl
@[simp] theorem seqOf2_lst (l : List D) : seqOf2 (.lst l) = .ok l := Eq.trans rfl rfl
@[simp] theorem asg_nm (d : D) : asgTg (.nm i) d ρ = .iff (decide (i < ρ.length)) (.ok (putI ρ i d)) := Eq.trans rfl rfl
@[simp] theorem asg_lst (ts : Tgs) (ds : List D) : asgTg (.tup ts) (.lst ds) ρ = asgTgs ts ds ρ := Eq.trans rfl rfl
@[simp] theorem asg_tup (ts : Tgs) (ds : List D) : asgTg (.tup ts) (.tup ds) ρ = asgTgs ts ds ρ := Eq.trans rfl rfl
@[simp] theorem asgs_nil : asgTgs .nil [] ρ = .ok ρ := Eq.trans rfl rfl
@[simp] theorem asgs_cons (t : Tg) (ts : Tgs) (d : D) (ds : List D) : asgTgs (.cons t ts) (d :: ds) ρ = (asgTg t d ρ).bind fun ρ' => asgTgs ts ds ρ' := Eq.trans rfl rfl
@[simp] theorem slots_nm : (Tg.nm i).slots = [i] := Eq.trans rfl rfl
@[simp] theorem slots_tup (ts : Tgs) : (Tg.tup ts).slots = ts.slots := Eq.trans rfl rfl
@[simp] theorem slots_nil : Tgs.nil.slots = [] := Eq.trans rfl rfl
@[simp] theorem slots_cons (t : Tg) (ts : Tgs) : (Tgs.cons t ts).slots = t.slots ++ ts.slots := Eq.trans rfl rfl
def revTK (x : D) : R D := match x with
  | .tup l => .ok (.tup l.reverse)
  | _ => .stuck
@[simp] theorem revTK_t (l : List D) : revTK (.tup l) = .ok (.tup l.reverse) := Eq.trans rfl rfl
def tupRevK (x : D) : R D := match x with
  | .lst l => .ok (.tup l.reverse)
  | _ => .stuck
@[simp] theorem tupRevK_l (l : List D) : tupRevK (.lst l) = .ok (.tup l.reverse) := Eq.trans rfl rfl
@[simp] theorem imO_non (r : R D) : imO .non ρ r = r := Eq.trans rfl rfl
@[simp] theorem imO_int (n : Int) (r : R D) : imO (.int n) ρ r = r := Eq.trans rfl rfl
@[simp] theorem imO_bl (n : Bool) (r : R D) : imO (.bl n) ρ r = r := Eq.trans rfl rfl
@[simp] theorem imO_str (s : Str) (r : R D) : imO (.str s) ρ r = r := Eq.trans rfl rfl
@[simp] theorem imO_glb (x : Nat) (r : R D) : imO (.glb x) ρ r = r := Eq.trans rfl rfl
@[simp] theorem imO_bin (o : Operator) (r : R D) : imO (.bin o a b) ρ r = r := Eq.trans rfl rfl
@[simp] theorem evP_revT : evP T (.revT a) ρ = (evP T a ρ).bind revTK := Eq.trans rfl rfl
@[simp] theorem imO_revT (r : R D) : imO (.revT a) ρ r = r := Eq.trans rfl rfl
@[simp] theorem evP_tupRev : evP T (.tupRev a) ρ = (evP T a ρ).bind tupRevK := Eq.trans rfl rfl
@[simp] theorem imO_tupRev (r : R D) : imO (.tupRev a) ρ r = r := Eq.trans rfl rfl
@[simp] theorem imO_neg  (r : R D) : imO (.neg a) ρ r = r := Eq.trans rfl rfl
@[simp] theorem imO_not  (r : R D) : imO (.not a) ρ r = r := Eq.trans rfl rfl
@[simp] theorem imO_cmp (o : CmpOp) (r : R D) : imO (.cmp o a b) ρ r = r := Eq.trans rfl rfl
@[simp] theorem imO_chain (o p : CmpOp) (r : R D) : imO (.chain o p a b c) ρ r = r := Eq.trans rfl rfl
@[simp] theorem imO_and  (r : R D) : imO (.and a b) ρ r = r := Eq.trans rfl rfl
@[simp] theorem imO_or  (r : R D) : imO (.or a b) ρ r = r := Eq.trans rfl rfl
@[simp] theorem imO_tup  (r : R D) : imO (.tup l) ρ r = r := Eq.trans rfl rfl
@[simp] theorem imO_lst  (r : R D) : imO (.lst l) ρ r = r := Eq.trans rfl rfl
@[simp] theorem imO_dct0 (t : Nat) (r : R D) : imO (.dct0 t) ρ r = r := Eq.trans rfl rfl
@[simp] theorem imO_sub  (r : R D) : imO (.sub a b) ρ r = r := Eq.trans rfl rfl
@[simp] theorem imO_slc  (r : R D) : imO (.slc a b c) ρ r = r := Eq.trans rfl rfl
@[simp] theorem imO_slcL  (r : R D) : imO (.slcL a b) ρ r = r := Eq.trans rfl rfl
@[simp] theorem imO_slcH  (r : R D) : imO (.slcH a b) ρ r = r := Eq.trans rfl rfl
@[simp] theorem imO_slcN  (r : R D) : imO (.slcN a) ρ r = r := Eq.trans rfl rfl
@[simp] theorem imO_call (f : Nat) (r : R D) : imO (.call f l) ρ r = r := Eq.trans rfl rfl
@[simp] theorem imO_callK (f : Nat) (ks : List Str) (r : R D) : imO (.callK f l ks m) ρ r = r := Eq.trans rfl rfl
@[simp] theorem imO_blt (f : BF) (r : R D) : imO (.blt f l) ρ r = r := Eq.trans rfl rfl
@[simp] theorem imO_isi (t : TyI) (r : R D) : imO (.isi a t) ρ r = r := Eq.trans rfl rfl
@[simp] theorem imO_comp (tg : Tg) (it : Wk) (r : R D) : imO (.comp a tg it) ρ r = r := Eq.trans rfl rfl
@[simp] theorem imO_compIf (tg : Tg) (it : Wk) (r : R D) : imO (.compIf a tg it c) ρ r = r := Eq.trans rfl rfl
@[simp] theorem evP_xp1 (x : XP) : evP T (.xp1 x a) ρ = (evP T a ρ).bind fun y => xpD x [y] := Eq.trans rfl rfl
@[simp] theorem evP_xp2 (x : XP) : evP T (.xp2 x a b) ρ = (evP T a ρ).bind fun y => (evP T b ρ).bind fun z => xpD x [y, z] := Eq.trans rfl rfl
@[simp] theorem evP_mk (c : Str) : evP T (.mk c) ρ = .iff (T.mkc c) (.ok (.ins c)) := Eq.trans rfl rfl
@[simp] theorem evP_meth (m : Str) : evP T (.meth m a l) ρ = (imO a ρ (evP T a ρ)).bind fun x => (insO x).bind fun c => .iff (T.hm c m) ((evL T l ρ).bind fun ds => T.mt c m (x :: ds)) := Eq.trans rfl rfl
@[simp] theorem evP_isiC (cs : List Str) : evP T (.isiC a cs) ρ = (evP T a ρ).bind fun x => (isiCD T x cs).bind fun b => .ok (.bl b) := Eq.trans rfl rfl
@[simp] theorem isiCD_ins (x : Str) (cs : List Str) : isiCD T (.ins x) cs = T.sub x cs := Eq.trans rfl rfl
@[simp] theorem evP_sortF (f : Nat) : evP T (.sortF f a) ρ = (evP T a ρ).bind fun x => (lstO x).bind fun l => (mapR (fun d => T.fn f [d]) l).bind fun ks => sortK ks l := Eq.trans rfl rfl
/-- the key by a lambda -/
def lamK (T : Tbl) (b : E) (i : Nat) (ρ : Sl) (d : D) : R D := imO b (putI ρ i d) (evP T b (putI ρ i d))
@[simp] theorem evP_sortL : evP T (.sortL i b a) ρ = (evP T a ρ).bind fun x => (lstO x).bind fun l => .iff (decide (i < ρ.length) && noOwn ρ [i]) ((mapR (lamK T b i ρ) l).bind fun ks => sortK ks l) := Eq.trans rfl rfl
@[simp] theorem insO_i (c : Str) : insO (.ins c) = .ok c := Eq.trans rfl rfl
@[simp] theorem lstO_l (l : List D) : lstO (.lst l) = .ok l := Eq.trans rfl rfl
@[simp] theorem imO_xp1 (x : XP) (r : R D) : imO (.xp1 x a) ρ r = r := Eq.trans rfl rfl
@[simp] theorem imO_xp2 (x : XP) (r : R D) : imO (.xp2 x a b) ρ r = r := Eq.trans rfl rfl
@[simp] theorem imO_mk (x : Str) (r : R D) : imO (.mk x) ρ r = r := Eq.trans rfl rfl
@[simp] theorem imO_meth (x : Str) (r : R D) : imO (.meth x a l) ρ r = r := Eq.trans rfl rfl
@[simp] theorem imO_isiC (x : List Str) (r : R D) : imO (.isiC a x) ρ r = r := Eq.trans rfl rfl
@[simp] theorem imO_sortF (x : Nat) (r : R D) : imO (.sortF x a) ρ r = r := Eq.trans rfl rfl
@[simp] theorem imO_sortL (r : R D) : imO (.sortL i b a) ρ r = r := Eq.trans rfl rfl
/-! ### statements -/
variable (s : S) (ss ss2 : Ss) (t : Tg) (it : Wk) (d : D)
noncomputable def seqK (T : Tbl) (l : Ss) (x : Fl) : R Fl := match x with
    | .nx ρ' => exSs T l ρ'
    | f => .ok f
noncomputable def ifK (T : Tbl) (x y : Ss) (ρ : Sl) (t : Bool) : R Fl := match t with
    | true => exSs T x ρ
    | false => exSs T y ρ
noncomputable def forB (T : Tbl) (t : Tg) (b : Ss) (d : D) (ρ : Sl) : R Fl := (asgTg t d ρ).bind fun ρ2 => exSs T b ρ2
@[simp] theorem seqK_nx : seqK T ss (.nx ρ) = exSs T ss ρ := Eq.trans rfl rfl
@[simp] theorem seqK_bk : seqK T ss (.bk ρ) = .ok (.bk ρ) := Eq.trans rfl rfl
@[simp] theorem seqK_ct : seqK T ss (.ct ρ) = .ok (.ct ρ) := Eq.trans rfl rfl
@[simp] theorem seqK_rt : seqK T ss (.rt d) = .ok (.rt d) := Eq.trans rfl rfl
@[simp] theorem ifK_t : ifK T ss ss2 ρ true = exSs T ss ρ := Eq.trans rfl rfl
@[simp] theorem ifK_f : ifK T ss ss2 ρ false = exSs T ss2 ρ := Eq.trans rfl rfl
@[simp] theorem ifK_dec (p : Prop) [Decidable p] : ifK T ss ss2 ρ (decide p) = if p then exSs T ss ρ else exSs T ss2 ρ := by
  by_cases h : p
  · rw [decide_eq_true h, if_pos h] <;> rfl
  · rw [decide_eq_false h, if_neg h] <;> rfl
@[simp] theorem andK_dec (p : Prop) [Decidable p] : andK T ρ b (.bl (decide p)) = if p then imO b ρ (evP T b ρ) else .ok (.bl false) := by
  by_cases h : p
  · rw [decide_eq_true h, if_pos h] <;> rfl
  · rw [decide_eq_false h, if_neg h] <;> rfl
@[simp] theorem orK_dec (p : Prop) [Decidable p] : orK T ρ b (.bl (decide p)) = if p then .ok (.bl true) else imO b ρ (evP T b ρ) := by
  by_cases h : p
  · rw [decide_eq_true h, if_pos h] <;> rfl
  · rw [decide_eq_false h, if_neg h] <;> rfl
@[simp] theorem chainK_dec (p : Prop) [Decidable p] (o : CmpOp) (y : D) : chainK T ρ o c y (decide p) = if p then (evP T c ρ).bind fun z => (cmpD o y z).bind fun r => .ok (.bl r) else .ok (.bl false) := by
  by_cases h : p
  · rw [decide_eq_true h, if_pos h] <;> rfl
  · rw [decide_eq_false h, if_neg h] <;> rfl
@[simp] theorem compIfK_dec (p : Prop) [Decidable p] (e : E) : compIfK T e ρ (decide p) = if p then (imO e ρ (evP T e ρ)).bind fun x => .ok [x] else .ok [] := by
  by_cases h : p
  · rw [decide_eq_true h, if_pos h] <;> rfl
  · rw [decide_eq_false h, if_neg h] <;> rfl
@[simp] theorem exSs_nil : exSs T .nil ρ = .ok (.nx ρ) := Eq.trans rfl rfl
@[simp] theorem exSs_cons : exSs T (.cons s ss) ρ = (exS T s ρ).bind (seqK T ss) := Eq.trans rfl rfl
@[simp] theorem exS_expr : exS T (.expr a) ρ = (evP T a ρ).bind fun _ => .ok (.nx ρ) := Eq.trans rfl rfl
@[simp] theorem exS_asg : exS T (.asg i a) ρ = (imO a ρ (evP T a ρ)).bind fun d => .iff (decide (i < ρ.length)) (.ok (.nx (putI ρ i d))) := Eq.trans rfl rfl
@[simp] theorem exS_asgO : exS T (.asgO i a) ρ = .iff (fresh a && decide (i < ρ.length)) ((evP T a ρ).bind fun d => .ok (.nx (putO ρ i d))) := Eq.trans rfl rfl
@[simp] theorem exS_asgT : exS T (.asgT t a) ρ = (imO a ρ (evP T a ρ)).bind fun d => (asgTg t d ρ).bind fun ρ' => .ok (.nx ρ') := Eq.trans rfl rfl
@[simp] theorem exS_par (j : Nat) : exS T (.par i j a b) ρ = (imO a ρ (evP T a ρ)).bind fun x => (imO b ρ (evP T b ρ)).bind fun y => .iff (decide (i < ρ.length ∧ j < ρ.length)) (.ok (.nx (putI (putI ρ i x) j y))) := Eq.trans rfl rfl
@[simp] theorem exS_aug (o : Operator) : exS T (.aug i o a) ρ = (getI ρ i).bind fun x => (evP T a ρ).bind fun y => (augD o x y).bind fun z => .ok (.nx (putI ρ i z)) := Eq.trans rfl rfl
def appK (T : Tbl) (ρ : Sl) (i : Nat) (e : E) (x : D) : R Fl := match x with
    | .lst l => (ev T e ρ).bind fun y => .iff (decide (l.length < LIM)) (.ok (.nx (putW ρ i (.lst (l ++ [y])))))
    | _ => .stuck
def extK (T : Tbl) (ρ : Sl) (i : Nat) (e : E) (x : D) : R Fl := match x with
    | .lst l => (ev T e ρ).bind fun y => (seqOf2 y).bind fun m => .iff (decide (l.length + m.length ≤ LIM)) (.ok (.nx (putW ρ i (.lst (l ++ m)))))
    | _ => .stuck
def setK (T : Tbl) (ρ : Sl) (i : Nat) (k e : E) (x : D) : R Fl := match x with
    | .dct t ks vs => .iff (decide (t = 0)) ((evP T k ρ).bind fun k => (ev T e ρ).bind fun v => .iff (keyOk 0 k && decide (ks.length < LIM)) (.ok (.nx (putW ρ i (if hasK k ks then .dct t ks vs else .dct t (putD k v ks vs).1 (putD k v ks vs).2)))))
    | _ => .stuck
def putK (T : Tbl) (ρ : Sl) (i : Nat) (v x k : D) : R Fl := match x with
    | .lst l => match k with
      | .int n => (R.ofO (ixN l.length n)).bind fun j => .ok (.nx (putW ρ i (.lst (l.set j v))))
      | _ => .stuck
    | .dct t ks vs => .iff (keyOk t k && decide (ks.length < LIM)) (.ok (.nx (putW ρ i (.dct t (putD k v ks vs).1 (putD k v ks vs).2))))
    | _ => .stuck
@[simp] theorem appK_l (xs : List D) : appK T ρ i a (.lst xs) = (imO a ρ (evP T a ρ)).bind fun y => .iff (decide (xs.length < LIM)) (.ok (.nx (putW ρ i (.lst (xs ++ [y]))))) := Eq.trans rfl rfl
@[simp] theorem extK_l (xs : List D) : extK T ρ i a (.lst xs) = (imO a ρ (evP T a ρ)).bind fun y => (seqOf2 y).bind fun m => .iff (decide (xs.length + m.length ≤ LIM)) (.ok (.nx (putW ρ i (.lst (xs ++ m))))) := Eq.trans rfl rfl
@[simp] theorem setK_l (t : Nat) (ks vs : List D) : setK T ρ i a b (.dct t ks vs) = .iff (decide (t = 0)) ((evP T a ρ).bind fun k => (imO b ρ (evP T b ρ)).bind fun v => .iff (keyOk 0 k && decide (ks.length < LIM)) (.ok (.nx (putW ρ i (if hasK k ks then .dct t ks vs else .dct t (putD k v ks vs).1 (putD k v ks vs).2))))) := Eq.trans rfl rfl
@[simp] theorem putK_l (v : D) (xs : List D) (n : Int) : putK T ρ i v (.lst xs) (.int n) = (R.ofO (ixN xs.length n)).bind fun j => .ok (.nx (putW ρ i (.lst (xs.set j v)))) := Eq.trans rfl rfl
@[simp] theorem putK_d (v k : D) (t : Nat) (ks vs : List D) : putK T ρ i v (.dct t ks vs) k = .iff (keyOk t k && decide (ks.length < LIM)) (.ok (.nx (putW ρ i (.dct t (putD k v ks vs).1 (putD k v ks vs).2)))) := Eq.trans rfl rfl
@[simp] theorem exS_app : exS T (.app i a) ρ = (getW ρ i).bind (appK T ρ i a) := Eq.trans rfl rfl
@[simp] theorem exS_extn : exS T (.extn i a) ρ = (getW ρ i).bind (extK T ρ i a) := Eq.trans rfl rfl
@[simp] theorem exS_setd : exS T (.setd i a b) ρ = (getW ρ i).bind (setK T ρ i a b) := Eq.trans rfl rfl
@[simp] theorem exS_put : exS T (.put i a b) ρ = (imO b ρ (evP T b ρ)).bind fun v => (getW ρ i).bind fun x => (evP T a ρ).bind fun k => putK T ρ i v x k := Eq.trans rfl rfl
def grpFK (T : Tbl) (t : Tg) (j : Nat) (e : E) (d : D) (ρ' : Sl) : R Sl := (asgTg t d ρ').bind fun ρ2 => (getI ρ2 j).bind fun y => (evP T e ρ2).bind fun z => (augD .Add y z).bind fun z => .ok (putI ρ2 j z)
def grpK (T : Tbl) (t : Tg) (j : Nat) (e c : E) (i : Nat) (k x : E) (ρ : Sl) (ds : List D) (d : D) : R Fl := match d with
    | .dct 0 [] [] => .iff (decide (i ∉ t.slots ∧ i ≠ j)) ((grpL (mask (ρ.set i none)) (grpFK T t j e) (fun ρ' => evT T c ρ') (fun ρ' => evP T k ρ') (fun ρ' => ev T x ρ') ds (ρ.set i none) [] []).nox.bind fun r => .ok (.nx (r.1.set i (some (.own (.dct 0 r.2.1 (r.2.2.map .lst)))))))
    | _ => .stuck
theorem exS_grp (t : Tg) (it : Wk) (j : Nat) (e c k x : E) : exS T (.grp t it j e c i k x) ρ = (evI T it ρ).bind fun ds => (getOwn ρ i).bind (grpK T t j e c i k x ρ ds) := Eq.trans rfl rfl
noncomputable def forDK (T : Tbl) (m : Bool) (t : Tg) (b : Ss) (ρ : Sl) (d : D) : R Fl := match d with
    | .dct k ks vs => .iff (decide (k ≠ 2)) (forL (mask ρ) (forB T t b) (dctL m ks vs) ρ).nox
    | _ => .stuck
@[simp] theorem forDK_d (m : Bool) (t : Tg) (b : Ss) (k : Nat) (ks vs : List D) (h : k ≠ 2 := by decide) : forDK T m t b ρ (.dct k ks vs) = (forL (mask ρ) (forB T t b) (dctL m ks vs) ρ).nox := by
  show R.iff (decide (k ≠ 2)) _ = _
  rw [decide_eq_true h]
  rfl
@[simp] theorem exS_forD (m : Bool) (t : Tg) (b : Ss) : exS T (.forD m t i b) ρ = (getI ρ i).bind (forDK T m t b ρ) := Eq.trans rfl rfl
@[simp] theorem nox_ok' {α : Type} (a : α) : (R.ok a).nox = .ok a := Eq.trans rfl rfl
@[simp] theorem dctL_f (ks vs : List D) : dctL false ks vs = ks := Eq.trans rfl rfl
@[simp] theorem dctL_t (ks vs : List D) : dctL true ks vs = zipL ks vs := Eq.trans rfl rfl
@[simp] theorem exS_callio (f : Nat) : exS T (.callio f l i) ρ = (evL T l ρ).bind fun ds => (getW ρ i).bind fun x => (T.io f ds x).bind fun y => .ok (.nx (putW ρ i y)) := Eq.trans rfl rfl
def popTK (ρ : Sl) (t : Tg) (i : Nat) (x : D) : R Fl := match x with
    | .lst l => (R.ofO l[l.length - 1]?).bind fun d => (asgTg t d (putW ρ i (.lst l.dropLast))).bind fun ρ' => .ok (.nx ρ')
    | _ => .stuck
theorem popTK_l (l : List D) (d : D) : popTK ρ t i (.lst (l ++ [d])) = (asgTg t d (putW ρ i (.lst l))).bind fun ρ' => .ok (.nx ρ') := by
  show ((R.ofO (l ++ [d])[(l ++ [d]).length - 1]?).bind fun d' => (asgTg t d' (putW ρ i (.lst (l ++ [d]).dropLast))).bind fun ρ' => .ok (Fl.nx ρ')) = _
  have e : (l ++ [d])[(l ++ [d]).length - 1]? = some d := by simp
  rw [e, List.dropLast_concat]
  rfl
@[simp] theorem exS_popT : exS T (.popT t i) ρ = (getW ρ i).bind (popTK ρ t i) := Eq.trans rfl rfl
def appPopK2 (T : Tbl) (ρ : Sl) (i j : Nat) (e : E) (l : List D) (y : D) : R Fl := match y with
      | .lst m => (evP T e ρ).bind fun n => (intO1 n).bind fun n => (R.ofO (ixN m.length n)).bind fun k => (R.ofO m[k]?).bind fun d => .iff (decide (i ≠ j) && decide (l.length < LIM) && decide (m.length ≤ LIM)) (.ok (.nx (putW (putW ρ j (.lst (m.eraseIdx k))) i (.lst (l ++ [d])))))
      | _ => .stuck
def appPopK (T : Tbl) (ρ : Sl) (i j : Nat) (e : E) (x : D) : R Fl := match x with
    | .lst l => (getW ρ j).bind (appPopK2 T ρ i j e l)
    | _ => .stuck
@[simp] theorem exS_appPop (j : Nat) : exS T (.appPop i j a) ρ = (getW ρ i).bind (appPopK T ρ i j a) := Eq.trans rfl rfl
@[simp] theorem appPopK_l (j : Nat) (l : List D) : appPopK T ρ i j a (.lst l) = (getW ρ j).bind (appPopK2 T ρ i j a l) := Eq.trans rfl rfl
@[simp] theorem appPopK2_l (j : Nat) (l m : List D) : appPopK2 T ρ i j a l (.lst m) = (evP T a ρ).bind fun n => (intO1 n).bind fun n => (R.ofO (ixN m.length n)).bind fun k => (R.ofO m[k]?).bind fun d => .iff (decide (i ≠ j) && decide (l.length < LIM) && decide (m.length ≤ LIM)) (.ok (.nx (putW (putW ρ j (.lst (m.eraseIdx k))) i (.lst (l ++ [d]))))) := Eq.trans rfl rfl
@[simp] theorem intO1_i (n : Int) : intO1 (.int n) = .ok n := Eq.trans rfl rfl
theorem exS_nest (js : List Nat) : exS T (.nest i js ss) ρ = .iff (decide (i < ρ.length ∧ i ∉ js ∧ js.Nodup) && js.all fun j => decide (j < ρ.length)) (nestR js.length fun bs => exSs T ss (nestS ρ i js bs)) := Eq.trans rfl rfl
@[simp] theorem exS_appN (j : Nat) : exS T (.appN a j b) ρ = (evP T a ρ).bind fun x => (adrO x).bind fun ad => (ioO ρ j ad).bind fun l => (imO b ρ (evP T b ρ)).bind fun y => .iff (decide (l.length < LIM)) (.ok (.nx (putW ρ j (.lst (l ++ [y]))))) := Eq.trans rfl rfl
@[simp] theorem exS_frzN (js : List Nat) : exS T (.frzN i js) ρ = (getI ρ i).bind fun x => (adrsO x).bind fun bs => (iosO ρ js bs).bind fun ls => .iff (decide (i ∉ js)) (.ok (.nx (putI (wipeS ρ js) i (.lst (ls.map .lst))))) := Eq.trans rfl rfl
@[simp] theorem adrO_a (x : Addr) : adrO (.adr x) = .ok x := Eq.trans rfl rfl
@[simp] theorem adrsO_l (l : List D) : adrsO (.lst l) = adrL l := Eq.trans rfl rfl
@[simp] theorem adrL_n : adrL [] = .ok [] := Eq.trans rfl rfl
@[simp] theorem adrL_c (x : Addr) (l : List D) : adrL (.adr x :: l) = (adrL l).bind fun r => .ok (x :: r) := Eq.trans rfl rfl
@[simp] theorem ioO_0 (x : Addr) (l : List D) (m : Sl) : ioO (some (.io x (.lst l)) :: m) 0 x = .ok l := by
  show R.iff (decide (x = x)) _ = _
  rw [decide_eq_true rfl]
  rfl
@[simp] theorem ioO_s (y : Option SV) (m : Sl) (j : Nat) (x : Addr) : ioO (y :: m) (j + 1) x = ioO m j x := Eq.trans rfl rfl
@[simp] theorem iosO_n : iosO ρ [] [] = .ok [] := Eq.trans rfl rfl
@[simp] theorem iosO_c (j : Nat) (js : List Nat) (x : Addr) (bs : List Addr) : iosO ρ (j :: js) (x :: bs) = (ioO ρ j x).bind fun l => (iosO ρ js bs).bind fun r => .ok (l :: r) := Eq.trans rfl rfl
@[simp] theorem exS_ret : exS T (.ret a) ρ = (evP T a ρ).bind fun d => .ok (.rt d) := Eq.trans rfl rfl
@[simp] theorem exS_retN : exS T .retN ρ = .ok (.rt .non) := Eq.trans rfl rfl
@[simp] theorem exS_ife : exS T (.ife a ss ss2) ρ = ((evP T a ρ).bind truD).bind (ifK T ss ss2 ρ) := Eq.trans rfl rfl
@[simp] theorem exS_for : exS T (.for_ t it ss) ρ = (evI T it ρ).bind fun ds => forL (mask ρ) (forB T t ss) ds ρ := Eq.trans rfl rfl
@[simp] theorem exS_whl : exS T (.whl a ss) ρ = whlL (mask ρ) (fun ρ' => evT T a ρ') (fun ρ' => exSs T ss ρ') T.fuel ρ := Eq.trans rfl rfl
@[simp] theorem exS_brk : exS T .brk ρ = .ok (.bk ρ) := Eq.trans rfl rfl
@[simp] theorem exS_cnt : exS T .cnt ρ = .ok (.ct ρ) := Eq.trans rfl rfl
@[simp] theorem exS_frz : exS T (.frz i) ρ = (getOwn ρ i).bind fun d => .ok (.nx (putI ρ i d)) := Eq.trans rfl rfl
@[simp] theorem exS_nev : exS T .nev ρ = .stuck := Eq.trans rfl rfl
@[simp] theorem exS_raise (x : Str) : exS T (.raise x) ρ = .iff (T.rs x) (.exc x []) := Eq.trans rfl rfl
/-- the clause -/
noncomputable def excK (T : Tbl) (i : Nat) (q : Ss) (ρ : Sl) (x : Str) : R Fl := (exSs T q (putI ρ i (.exc x))).nox.bind (goneF i)
@[simp] theorem excK_def (q : Ss) (x : Str) : excK T i q ρ x = (exSs T q (putI ρ i (.exc x))).nox.bind (goneF i) := Eq.trans rfl rfl
def tryB (T : Tbl) (a b : E) (ρ : Sl) (t : Bool) : R D := match t with
  | true => evP T a ρ
  | false => evP T b ρ
@[simp] theorem tryB_t : tryB T a b ρ true = evP T a ρ := Eq.trans rfl rfl
@[simp] theorem tryB_f : tryB T a b ρ false = evP T b ρ := Eq.trans rfl rfl
@[simp] theorem exS_tryE (x : Str) : exS T (.tryE a x i ss) ρ = .iff (decide (i < ρ.length)) ((T.exm x x).nox.bind fun t => .iff t (tryR T.exm x (evP T a ρ) ρ (excK T i ss ρ))) := Eq.trans rfl rfl
@[simp] theorem exS_tryI (x : Str) : exS T (.tryI c a b x i ss) ρ = .iff (decide (i < ρ.length)) ((T.exm x x).nox.bind fun t => .iff t (tryR T.exm x ((evT T c ρ).bind (tryB T a b ρ)) ρ (excK T i ss ρ))) := by
  show R.iff (decide (i < ρ.length)) ((T.exm x x).nox.bind fun t => R.iff t (tryR T.exm x ((evT T c ρ).bind fun t => match t with
      | true => evP T a ρ
      | false => evP T b ρ) ρ fun c => (exSs T ss (putI ρ i (.exc c))).nox.bind (goneF i))) = _
  have e : (fun t => (match t with
      | true => evP T a ρ
      | false => evP T b ρ : R D)) = tryB T a b ρ := by
    funext t
    cases t <;> rfl
  rw [e]
  rfl
@[simp] theorem tryR_ok {α : Type} (m : Str → Str → R Bool) (x : Str) (v : α) (f : Str → R Fl) : tryR m x (.ok v) ρ f = .ok (.nx ρ) := Eq.trans rfl rfl
@[simp] theorem tryR_exc {α : Type} (m : Str → Str → R Bool) (x y : Str) (f : Str → R Fl) (h : m y x = .ok true) : tryR m x (.exc y [] : R α) ρ f = f y := by
  show ((m y x).nox.bind fun b => match b with
      | true => f y
      | false => .exc y []) = _
  rw [h]
  rfl
@[simp] theorem goneF_nx : goneF i (.nx ρ) = .ok (.nx (ρ.set i none)) := Eq.trans rfl rfl
@[simp] theorem goneF_rt : goneF i (.rt d) = .ok (.rt d) := Eq.trans rfl rfl
@[simp] theorem isiCD_exc (x : Str) (cs : List Str) : isiCD T (.exc x) cs = T.subE x cs := Eq.trans rfl rfl
@[simp] theorem isNon_exc (x : Str) : isNon (.exc x) = false := Eq.trans rfl rfl
@[simp] theorem flR_rt : flR (.rt d) = .ok d := Eq.trans rfl rfl
@[simp] theorem flR_nx : flR (.nx ρ) = .ok .non := Eq.trans rfl rfl
/-! ### operators -/
variable (x y : Int)
@[simp] theorem add_i : binD .Add (.int x) (.int y) = .ok (.int (x + y)) := Eq.trans rfl rfl
@[simp] theorem sub_i : binD .Sub (.int x) (.int y) = .ok (.int (x - y)) := Eq.trans rfl rfl
theorem mul_i (h : smallB x = true ∨ smallB y = true) : binD .Mult (.int x) (.int y) = .ok (.int (x * y)) := by
  show R.iff (smallB x || smallB y) _ = _
  rw [Bool.or_eq_true_iff.mpr h]
  rfl
@[simp] theorem fdiv_i (h : 0 < y) (h2 : y < 2 ^ 250) : binD .FloorDiv (.int x) (.int y) = .ok (.int (x / y)) := by
  show R.iff (decide (0 < y ∧ y < 2 ^ 250)) _ = _
  rw [decide_eq_true ⟨h, h2⟩]
  rfl
@[simp] theorem mod_i (h : 0 < y) : binD .Mod (.int x) (.int y) = .ok (.int (x % y)) := by
  show R.iff (decide (0 < y)) _ = _
  rw [decide_eq_true h]
  rfl
@[simp] theorem pow_i (h : 0 ≤ y ∧ y ≤ 1000000 ∧ x.natAbs < 2 ^ 64) : binD .Pow (.int x) (.int y) = .ok (.int (x ^ y.toNat)) := by
  show R.iff (decide (0 ≤ y ∧ y ≤ 1000000 ∧ x.natAbs < 2 ^ 64)) _ = _
  rw [decide_eq_true h]
  rfl
@[simp] theorem shl_i (h : 0 ≤ y ∧ y ≤ 1000000 ∧ x.natAbs < 2 ^ 64) : binD .LShift (.int x) (.int y) = .ok (.int (x * 2 ^ y.toNat)) := by
  show R.iff (decide (0 ≤ y ∧ y ≤ 1000000 ∧ x.natAbs < 2 ^ 64)) _ = _
  rw [decide_eq_true h]
  rfl
@[simp] theorem shr_i (h : 0 ≤ y) : binD .RShift (.int x) (.int y) = .ok (.int (x / 2 ^ y.toNat)) := by
  show R.iff (decide (0 ≤ y)) _ = _
  rw [decide_eq_true h]
  rfl
theorem bAnd (a b : Nat) : Builtin.bitAnd (a : Int) (b : Int) = ((a &&& b : Nat) : Int) := PySem.W.os_band a b
theorem bOr (a b : Nat) : Builtin.bitOr (a : Int) (b : Int) = ((a ||| b : Nat) : Int) := Bits.bitOr_pp (Int.natCast_nonneg a) (Int.natCast_nonneg b)
@[simp] theorem and_n (a b : Nat) : binD .BitAnd (.int (a : Int)) (.int (b : Int)) = .ok (.int ((a &&& b : Nat) : Int)) := by
  show R.ok (D.int _) = _
  rw [bAnd]
@[simp] theorem or_n (a b : Nat) : binD .BitOr (.int (a : Int)) (.int (b : Int)) = .ok (.int ((a ||| b : Nat) : Int)) := by
  show R.ok (D.int _) = _
  rw [bOr]
@[simp] theorem and_1 : binD .BitAnd (.int x) (.int 1) = .ok (.int (x % 2)) := by
  show R.ok (D.int (Builtin.bitAnd x 1)) = _
  rw [PyProof.Rows.bitAnd_m1]
@[simp] theorem shl_1 (w : Nat) (h : w ≤ 1000) : binD .LShift (.int 1) (.int (w : Int)) = .ok (.int ((2 ^ w : Nat) : Int)) := by
  rw [shl_i 1 _ ⟨Int.natCast_nonneg w, by omega, by decide⟩]
  simp
@[simp] theorem shr_n (a w : Nat) : binD .RShift (.int (a : Int)) (.int (w : Int)) = .ok (.int ((a / 2 ^ w : Nat) : Int)) := by
  rw [shr_i _ _ (Int.natCast_nonneg w)]
  simp
theorem catT (p q : List D) (h : p.length + q.length ≤ LIM) : binD .Add (.tup p) (.tup q) = .ok (.tup (p ++ q)) := by
  show R.iff (decide (p.length + q.length ≤ LIM)) _ = _
  rw [decide_eq_true h]
  rfl
theorem catL (p q : List D) (h : p.length + q.length ≤ LIM) : binD .Add (.lst p) (.lst q) = .ok (.lst (p ++ q)) := by
  show R.iff (decide (p.length + q.length ≤ LIM)) _ = _
  rw [decide_eq_true h]
  rfl
@[simp] theorem eq_i : cmpD .Eq (.int x) (.int y) = .ok (decide (x = y)) := Eq.trans rfl rfl
@[simp] theorem ne_i : cmpD .NotEq (.int x) (.int y) = .ok (!decide (x = y)) := Eq.trans rfl rfl
@[simp] theorem lt_i : cmpD .Lt (.int x) (.int y) = .ok (decide (x < y)) := Eq.trans rfl rfl
@[simp] theorem le_i : cmpD .LtE (.int x) (.int y) = .ok (decide (x ≤ y)) := Eq.trans rfl rfl
@[simp] theorem gt_i : cmpD .Gt (.int x) (.int y) = .ok (decide (y < x)) := Eq.trans rfl rfl
@[simp] theorem ge_i : cmpD .GtE (.int x) (.int y) = .ok (decide (y ≤ x)) := Eq.trans rfl rfl
@[simp] theorem is_non : cmpD .Is d .non = .ok (isNon d) := by cases d <;> rfl
@[simp] theorem isnt_non : cmpD .IsNot d .non = .ok (!isNon d) := by
  cases d <;> rfl
@[simp] theorem tru_bl (p : Bool) : truD (.bl p) = .ok p := Eq.trans rfl rfl
@[simp] theorem tru_i : truD (.int x) = .ok (x != 0) := Eq.trans rfl rfl
@[simp] theorem tru_l (p : List D) : truD (.lst p) = .ok (!p.isEmpty) := Eq.trans rfl rfl
@[simp] theorem tru_t (p : List D) : truD (.tup p) = .ok (!p.isEmpty) := Eq.trans rfl rfl
@[simp] theorem isNon_t (p : List D) : isNon (.tup p) = false := Eq.trans rfl rfl
@[simp] theorem isNon_l (p : List D) : isNon (.lst p) = false := Eq.trans rfl rfl
@[simp] theorem isNon_i : isNon (.int x) = false := Eq.trans rfl rfl
@[simp] theorem isNon_n : isNon .non = true := Eq.trans rfl rfl
@[simp] theorem len_t (p : List D) : bltD .len [.tup p] = .ok (.int p.length) := Eq.trans rfl rfl
@[simp] theorem len_l (p : List D) : bltD .len [.lst p] = .ok (.int p.length) := Eq.trans rfl rfl
@[simp] theorem tuple_l (p : List D) : bltD .tuple [.lst p] = .ok (.tup p) := Eq.trans rfl rfl
@[simp] theorem tuple_t (p : List D) : bltD .tuple [.tup p] = .ok (.tup p) := Eq.trans rfl rfl
@[simp] theorem list_l (p : List D) : bltD .list [.lst p] = .ok (.lst p) := Eq.trans rfl rfl
@[simp] theorem list_t (p : List D) : bltD .list [.tup p] = .ok (.lst p) := Eq.trans rfl rfl
@[simp] theorem int_bl (p : Bool) : bltD .int [.bl p] = .ok (.int (if p then 1 else 0)) := Eq.trans rfl rfl
@[simp] theorem min_i : bltD .min [.int x, .int y] = .ok (.int (if y < x then y else x)) := Eq.trans rfl rfl
@[simp] theorem max_i : bltD .max [.int x, .int y] = .ok (.int (if y > x then y else x)) := Eq.trans rfl rfl
@[simp] theorem intO_i : intO (.int x) = .ok (some x) := Eq.trans rfl rfl
theorem sum_i (ns : List Int) : bltD .sum [.lst (ns.map D.int)] = .ok (.int ns.sum) := by
  have e : intsD (ns.map D.int) = some ns := by
    induction ns with
    | nil => rfl
    | cons n ns ih =>
      show (intsD (ns.map D.int)).map (fun r => n :: r) = _
      rw [ih]
      rfl
  show ((R.ofO (intsD (ns.map D.int))).bind fun ns => R.ok (D.int ns.sum)) = R.ok (D.int ns.sum)
  rw [e]
  rfl
@[simp] theorem isi_i : isiD (.int x) .int = .ok true := Eq.trans rfl rfl
@[simp] theorem isi_ib : isiD (.int x) .bool = .ok false := Eq.trans rfl rfl
@[simp] theorem isi_it : isiD (.int x) .tuple = .ok false := Eq.trans rfl rfl
@[simp] theorem isi_is : isiD (.int x) .str = .ok false := Eq.trans rfl rfl
@[simp] theorem isi_t (p : List D) : isiD (.tup p) .tuple = .ok true := Eq.trans rfl rfl
@[simp] theorem isi_ti (p : List D) : isiD (.tup p) .int = .ok false := Eq.trans rfl rfl
@[simp] theorem isi_tb (p : List D) : isiD (.tup p) .bool = .ok false := Eq.trans rfl rfl
@[simp] theorem isi_b (p : Bool) : isiD (.bl p) .bool = .ok true := Eq.trans rfl rfl
@[simp] theorem isi_bi (p : Bool) : isiD (.bl p) .int = .ok true := Eq.trans rfl rfl
@[simp] theorem isi_bt (p : Bool) : isiD (.bl p) .tuple = .ok false := Eq.trans rfl rfl
@[simp] theorem isi_l (p : List D) : isiD (.lst p) .tuple = .ok false := Eq.trans rfl rfl
@[simp] theorem isi_li (p : List D) : isiD (.lst p) .int = .ok false := Eq.trans rfl rfl
@[simp] theorem isi_n : isiD .non .tuple = .ok false := Eq.trans rfl rfl
@[simp] theorem isi_ni : isiD .non .int = .ok false := Eq.trans rfl rfl
@[simp] theorem isi_s (p : Str) : isiD (.str p) .tuple = .ok false := Eq.trans rfl rfl
@[simp] theorem isi_si (p : Str) : isiD (.str p) .int = .ok false := Eq.trans rfl rfl
@[simp] theorem isi_ss (p : Str) : isiD (.str p) .str = .ok true := Eq.trans rfl rfl
end
/-! ### tables -/
@[simp] theorem fn_same (T : Tbl) (f : Nat) (F : List D → R D) : (T.add f F).fn f = F := by
  show (if f = f then F else T.fn f) = F
  rw [if_pos rfl]
@[simp] theorem fn_other (T : Tbl) (f g : Nat) (F : List D → R D) (h : g ≠ f) : (T.add f F).fn g = T.fn g := by
  show (if g = f then F else T.fn g) = _
  rw [if_neg h]
@[simp] theorem fn_addK (T : Tbl) (f : Nat) (F : List Str → List D → List D → R D) : (T.addK f F).fn = T.fn := Eq.trans rfl rfl
@[simp] theorem fn_addC (T : Tbl) (f : Nat) (d : D) : (T.addC f d).fn = T.fn := Eq.trans rfl rfl
@[simp] theorem cst_same (T : Tbl) (f : Nat) (d : D) : (T.addC f d).cst f = .ok d := by
  show (if f = f then R.ok d else T.cst f) = _
  rw [if_pos rfl]
@[simp] theorem cst_other (T : Tbl) (f g : Nat) (d : D) (h : g ≠ f) : (T.addC f d).cst g = T.cst g := by
  show (if g = f then R.ok d else T.cst g) = _
  rw [if_neg h]
@[simp] theorem cst_add (T : Tbl) (f : Nat) (F : List D → R D) : (T.add f F).cst = T.cst := Eq.trans rfl rfl
@[simp] theorem cst_addK (T : Tbl) (f : Nat) (F : List Str → List D → List D → R D) : (T.addK f F).cst = T.cst := Eq.trans rfl rfl
@[simp] theorem fuel_add (T : Tbl) (f : Nat) (F : List D → R D) : (T.add f F).fuel = T.fuel := Eq.trans rfl rfl
@[simp] theorem fuel_addK (T : Tbl) (f : Nat) (F : List Str → List D → List D → R D) : (T.addK f F).fuel = T.fuel := Eq.trans rfl rfl
@[simp] theorem fuel_addC (T : Tbl) (f : Nat) (d : D) : (T.addC f d).fuel = T.fuel := Eq.trans rfl rfl
@[simp] theorem fuel_0 (n : Nat) : (tb0 n).fuel = n := Eq.trans rfl rfl
@[simp] theorem fnK_same (T : Tbl) (f : Nat) (F : List Str → List D → List D → R D) : (T.addK f F).fnK f = F := by
  show (if f = f then F else T.fnK f) = F
  rw [if_pos rfl]
@[simp] theorem fnK_other (T : Tbl) (f g : Nat) (F : List Str → List D → List D → R D) (h : g ≠ f) : (T.addK f F).fnK g = T.fnK g := by
  show (if g = f then F else T.fnK g) = _
  rw [if_neg h]
@[simp] theorem fnK_addC (T : Tbl) (f : Nat) (d : D) : (T.addC f d).fnK = T.fnK := Eq.trans rfl rfl
@[simp] theorem fnK_add_o (T : Tbl) (f : Nat) (F : List D → R D) : (T.add f F).fnK = T.fnK := Eq.trans rfl rfl
@[simp] theorem io_add_o (T : Tbl) (f : Nat) (F : List D → R D) : (T.add f F).io = T.io := Eq.trans rfl rfl
@[simp] theorem mkc_add_o (T : Tbl) (f : Nat) (F : List D → R D) : (T.add f F).mkc = T.mkc := Eq.trans rfl rfl
@[simp] theorem mt_add_o (T : Tbl) (f : Nat) (F : List D → R D) : (T.add f F).mt = T.mt := Eq.trans rfl rfl
@[simp] theorem hm_add_o (T : Tbl) (f : Nat) (F : List D → R D) : (T.add f F).hm = T.hm := Eq.trans rfl rfl
@[simp] theorem io_addK_o (T : Tbl) (f : Nat) (F : List Str → List D → List D → R D) : (T.addK f F).io = T.io := Eq.trans rfl rfl
@[simp] theorem mkc_addK_o (T : Tbl) (f : Nat) (F : List Str → List D → List D → R D) : (T.addK f F).mkc = T.mkc := Eq.trans rfl rfl
@[simp] theorem mt_addK_o (T : Tbl) (f : Nat) (F : List Str → List D → List D → R D) : (T.addK f F).mt = T.mt := Eq.trans rfl rfl
@[simp] theorem hm_addK_o (T : Tbl) (f : Nat) (F : List Str → List D → List D → R D) : (T.addK f F).hm = T.hm := Eq.trans rfl rfl
@[simp] theorem io_addC_o (T : Tbl) (f : Nat) (d : D) : (T.addC f d).io = T.io := Eq.trans rfl rfl
@[simp] theorem mkc_addC_o (T : Tbl) (f : Nat) (d : D) : (T.addC f d).mkc = T.mkc := Eq.trans rfl rfl
@[simp] theorem mt_addC_o (T : Tbl) (f : Nat) (d : D) : (T.addC f d).mt = T.mt := Eq.trans rfl rfl
@[simp] theorem hm_addC_o (T : Tbl) (f : Nat) (d : D) : (T.addC f d).hm = T.hm := Eq.trans rfl rfl
@[simp] theorem fn_addIo_o (T : Tbl) (f : Nat) (F : List D → D → R D) : (T.addIo f F).fn = T.fn := Eq.trans rfl rfl
@[simp] theorem fnK_addIo_o (T : Tbl) (f : Nat) (F : List D → D → R D) : (T.addIo f F).fnK = T.fnK := Eq.trans rfl rfl
@[simp] theorem cst_addIo_o (T : Tbl) (f : Nat) (F : List D → D → R D) : (T.addIo f F).cst = T.cst := Eq.trans rfl rfl
@[simp] theorem fuel_addIo_o (T : Tbl) (f : Nat) (F : List D → D → R D) : (T.addIo f F).fuel = T.fuel := Eq.trans rfl rfl
@[simp] theorem mkc_addIo_o (T : Tbl) (f : Nat) (F : List D → D → R D) : (T.addIo f F).mkc = T.mkc := Eq.trans rfl rfl
@[simp] theorem mt_addIo_o (T : Tbl) (f : Nat) (F : List D → D → R D) : (T.addIo f F).mt = T.mt := Eq.trans rfl rfl
@[simp] theorem hm_addIo_o (T : Tbl) (f : Nat) (F : List D → D → R D) : (T.addIo f F).hm = T.hm := Eq.trans rfl rfl
@[simp] theorem fn_addSub_o (T : Tbl) (c : Str) (cs : List Str) (b : Bool) : (T.addSub c cs b).fn = T.fn := Eq.trans rfl rfl
@[simp] theorem fnK_addSub_o (T : Tbl) (c : Str) (cs : List Str) (b : Bool) : (T.addSub c cs b).fnK = T.fnK := Eq.trans rfl rfl
@[simp] theorem cst_addSub_o (T : Tbl) (c : Str) (cs : List Str) (b : Bool) : (T.addSub c cs b).cst = T.cst := Eq.trans rfl rfl
@[simp] theorem fuel_addSub_o (T : Tbl) (c : Str) (cs : List Str) (b : Bool) : (T.addSub c cs b).fuel = T.fuel := Eq.trans rfl rfl
@[simp] theorem io_addSub_o (T : Tbl) (c : Str) (cs : List Str) (b : Bool) : (T.addSub c cs b).io = T.io := Eq.trans rfl rfl
@[simp] theorem mt_addSub_o (T : Tbl) (c : Str) (cs : List Str) (b : Bool) : (T.addSub c cs b).mt = T.mt := Eq.trans rfl rfl
@[simp] theorem hm_addSub_o (T : Tbl) (c : Str) (cs : List Str) (b : Bool) : (T.addSub c cs b).hm = T.hm := Eq.trans rfl rfl
@[simp] theorem mkc_addSub_o (T : Tbl) (c : Str) (cs : List Str) (b : Bool) : (T.addSub c cs b).mkc = T.mkc := Eq.trans rfl rfl
@[simp] theorem fn_addMk_o (T : Tbl) (c : Str) : (T.addMk c).fn = T.fn := Eq.trans rfl rfl
@[simp] theorem fnK_addMk_o (T : Tbl) (c : Str) : (T.addMk c).fnK = T.fnK := Eq.trans rfl rfl
@[simp] theorem cst_addMk_o (T : Tbl) (c : Str) : (T.addMk c).cst = T.cst := Eq.trans rfl rfl
@[simp] theorem fuel_addMk_o (T : Tbl) (c : Str) : (T.addMk c).fuel = T.fuel := Eq.trans rfl rfl
@[simp] theorem io_addMk_o (T : Tbl) (c : Str) : (T.addMk c).io = T.io := Eq.trans rfl rfl
@[simp] theorem mt_addMk_o (T : Tbl) (c : Str) : (T.addMk c).mt = T.mt := Eq.trans rfl rfl
@[simp] theorem hm_addMk_o (T : Tbl) (c : Str) : (T.addMk c).hm = T.hm := Eq.trans rfl rfl
@[simp] theorem fn_addRs_o (T : Tbl) (c : Str) : (T.addRs c).fn = T.fn := Eq.trans rfl rfl
@[simp] theorem fn_addSubE_o (T : Tbl) (c : Str) (cs : List Str) (b : Bool) : (T.addSubE c cs b).fn = T.fn := Eq.trans rfl rfl
@[simp] theorem fn_addExm_o (T : Tbl) (c d : Str) (b : Bool) : (T.addExm c d b).fn = T.fn := Eq.trans rfl rfl
@[simp] theorem fnK_addRs_o (T : Tbl) (c : Str) : (T.addRs c).fnK = T.fnK := Eq.trans rfl rfl
@[simp] theorem fnK_addSubE_o (T : Tbl) (c : Str) (cs : List Str) (b : Bool) : (T.addSubE c cs b).fnK = T.fnK := Eq.trans rfl rfl
@[simp] theorem fnK_addExm_o (T : Tbl) (c d : Str) (b : Bool) : (T.addExm c d b).fnK = T.fnK := Eq.trans rfl rfl
@[simp] theorem cst_addRs_o (T : Tbl) (c : Str) : (T.addRs c).cst = T.cst := Eq.trans rfl rfl
@[simp] theorem cst_addSubE_o (T : Tbl) (c : Str) (cs : List Str) (b : Bool) : (T.addSubE c cs b).cst = T.cst := Eq.trans rfl rfl
@[simp] theorem cst_addExm_o (T : Tbl) (c d : Str) (b : Bool) : (T.addExm c d b).cst = T.cst := Eq.trans rfl rfl
@[simp] theorem fuel_addRs_o (T : Tbl) (c : Str) : (T.addRs c).fuel = T.fuel := Eq.trans rfl rfl
@[simp] theorem fuel_addSubE_o (T : Tbl) (c : Str) (cs : List Str) (b : Bool) : (T.addSubE c cs b).fuel = T.fuel := Eq.trans rfl rfl
@[simp] theorem fuel_addExm_o (T : Tbl) (c d : Str) (b : Bool) : (T.addExm c d b).fuel = T.fuel := Eq.trans rfl rfl
@[simp] theorem io_addRs_o (T : Tbl) (c : Str) : (T.addRs c).io = T.io := Eq.trans rfl rfl
@[simp] theorem io_addSubE_o (T : Tbl) (c : Str) (cs : List Str) (b : Bool) : (T.addSubE c cs b).io = T.io := Eq.trans rfl rfl
@[simp] theorem io_addExm_o (T : Tbl) (c d : Str) (b : Bool) : (T.addExm c d b).io = T.io := Eq.trans rfl rfl
@[simp] theorem mt_addRs_o (T : Tbl) (c : Str) : (T.addRs c).mt = T.mt := Eq.trans rfl rfl
@[simp] theorem mt_addSubE_o (T : Tbl) (c : Str) (cs : List Str) (b : Bool) : (T.addSubE c cs b).mt = T.mt := Eq.trans rfl rfl
@[simp] theorem mt_addExm_o (T : Tbl) (c d : Str) (b : Bool) : (T.addExm c d b).mt = T.mt := Eq.trans rfl rfl
@[simp] theorem hm_addRs_o (T : Tbl) (c : Str) : (T.addRs c).hm = T.hm := Eq.trans rfl rfl
@[simp] theorem hm_addSubE_o (T : Tbl) (c : Str) (cs : List Str) (b : Bool) : (T.addSubE c cs b).hm = T.hm := Eq.trans rfl rfl
@[simp] theorem hm_addExm_o (T : Tbl) (c d : Str) (b : Bool) : (T.addExm c d b).hm = T.hm := Eq.trans rfl rfl
@[simp] theorem mkc_addRs_o (T : Tbl) (c : Str) : (T.addRs c).mkc = T.mkc := Eq.trans rfl rfl
@[simp] theorem mkc_addSubE_o (T : Tbl) (c : Str) (cs : List Str) (b : Bool) : (T.addSubE c cs b).mkc = T.mkc := Eq.trans rfl rfl
@[simp] theorem mkc_addExm_o (T : Tbl) (c d : Str) (b : Bool) : (T.addExm c d b).mkc = T.mkc := Eq.trans rfl rfl
@[simp] theorem sub_addRs_o (T : Tbl) (c : Str) : (T.addRs c).sub = T.sub := Eq.trans rfl rfl
@[simp] theorem sub_addSubE_o (T : Tbl) (c : Str) (cs : List Str) (b : Bool) : (T.addSubE c cs b).sub = T.sub := Eq.trans rfl rfl
@[simp] theorem sub_addExm_o (T : Tbl) (c d : Str) (b : Bool) : (T.addExm c d b).sub = T.sub := Eq.trans rfl rfl
@[simp] theorem fn_addMt_o (T : Tbl) (c m : Str) (F : List D → R D) : (T.addMt c m F).fn = T.fn := Eq.trans rfl rfl
@[simp] theorem fnK_addMt_o (T : Tbl) (c m : Str) (F : List D → R D) : (T.addMt c m F).fnK = T.fnK := Eq.trans rfl rfl
@[simp] theorem cst_addMt_o (T : Tbl) (c m : Str) (F : List D → R D) : (T.addMt c m F).cst = T.cst := Eq.trans rfl rfl
@[simp] theorem fuel_addMt_o (T : Tbl) (c m : Str) (F : List D → R D) : (T.addMt c m F).fuel = T.fuel := Eq.trans rfl rfl
@[simp] theorem io_addMt_o (T : Tbl) (c m : Str) (F : List D → R D) : (T.addMt c m F).io = T.io := Eq.trans rfl rfl
@[simp] theorem mkc_addMt_o (T : Tbl) (c m : Str) (F : List D → R D) : (T.addMt c m F).mkc = T.mkc := Eq.trans rfl rfl
@[simp] theorem io_same (T : Tbl) (f : Nat) (F : List D → D → R D) : (T.addIo f F).io f = F := by
  show (if f = f then F else T.io f) = F
  rw [if_pos rfl]
@[simp] theorem io_other (T : Tbl) (f g : Nat) (F : List D → D → R D) (h : g ≠ f) : (T.addIo f F).io g = T.io g := by
  show (if g = f then F else T.io g) = _
  rw [if_neg h]
/-! ### loops -/
/-- what a turn leaves for the next -/
def turnR (m : Sl → Sl) (r : R Fl) : R Sl := match r with
  | .ok (.nx ρ) => .ok (m ρ)
  | .ok (.ct ρ) => .ok (m ρ)
  | _ => .stuck
@[simp] theorem turnR_nx (m : Sl → Sl) (ρ : Sl) : turnR m (.ok (.nx ρ)) = .ok (m ρ) := Eq.trans rfl rfl
@[simp] theorem turnR_ct (m : Sl → Sl) (ρ : Sl) : turnR m (.ok (.ct ρ)) = .ok (m ρ) := Eq.trans rfl rfl
theorem turnR_of {m : Sl → Sl} {r : R Fl} {ρ : Sl} (h : turnR m r = .ok ρ) : ∃ ρ', (r = .ok (.nx ρ') ∨ r = .ok (.ct ρ')) ∧ m ρ' = ρ := by
  unfold turnR at h
  split at h
  · exact ⟨_, .inl rfl, R.ok.inj h⟩
  · exact ⟨_, .inr rfl, R.ok.inj h⟩
  · cases h
theorem forL_step {m : Sl → Sl} {f : D → Sl → R Fl} {d : D} {ds : List D} {ρ ρ2 : Sl} (h : turnR m (f d ρ) = .ok ρ2) : forL m f (d :: ds) ρ = forL m f ds ρ2 := by
  obtain ⟨ρ', e, e2⟩ := turnR_of h
  show ((f d ρ).bind fun x => match x with
      | .nx ρ' => forL m f ds (m ρ')
      | .ct ρ' => forL m f ds (m ρ')
      | .bk ρ' => .ok (.nx (m ρ'))
      | .rt d => .ok (.rt d)) = _
  rcases e with e | e <;> rw [e] <;> (show forL m f ds (m ρ') = _) <;> rw [e2]
theorem forL_ret1 {m : Sl → Sl} {f : D → Sl → R Fl} {d u : D} {ds : List D} {ρ : Sl} (h : f d ρ = .ok (.rt u)) : forL m f (d :: ds) ρ = .ok (.rt u) := by
  show ((f d ρ).bind _) = _
  rw [h] <;> rfl
@[simp] theorem forL_nil (m : Sl → Sl) (f : D → Sl → R Fl) (ρ : Sl) : forL m f [] ρ = .ok (.nx ρ) := Eq.trans rfl rfl
/-- with the turn's number -/
theorem forL_foldI {α σ : Type} {m : Sl → Sl} {f : D → Sl → R Fl} (enc : α → D) (st : σ → Sl) (step : σ → α → σ) (P : Nat → σ → Prop) : ∀ (l : List α) (k : Nat) (s : σ), P k s →
    (∀ i s a, l[i]? = some a → P (k + i) s → turnR m (f (enc a) (st s)) = .ok (st (step s a)) ∧ P (k + i + 1) (step s a)) → forL m f (l.map enc) (st s) = .ok (.nx (st (l.foldl step s))) ∧ P (k + l.length) (l.foldl step s)
  | [], k, s, p, _ => ⟨rfl, p⟩
  | a :: l, k, s, p, h => by
    obtain ⟨e, p2⟩ := h 0 s a rfl p
    obtain ⟨ih, ip⟩ := forL_foldI enc st step P l (k + 1) (step s a) p2 fun i s b hb q => by
      have z := h (i + 1) s b (by simpa using hb) (by rw [show k + (i + 1) = k + 1 + i by omega]; exact q)
      rw [show k + (i + 1) + 1 = k + 1 + i + 1 by omega] at z
      exact z
    refine ⟨?_, by rw [show k + (a :: l).length = k + 1 + l.length by rw [List.length_cons]; omega]; exact ip⟩
    show forL m f (enc a :: l.map enc) (st s) = _
    rw [forL_step e]
    exact ih
theorem forL_fold {α σ : Type} {m : Sl → Sl} {f : D → Sl → R Fl} (enc : α → D) (st : σ → Sl) (step : σ → α → σ) (P : σ → Prop) (l : List α) (s : σ) (p : P s)
    (h : ∀ s a, a ∈ l → P s → turnR m (f (enc a) (st s)) = .ok (st (step s a)) ∧ P (step s a)) : forL m f (l.map enc) (st s) = .ok (.nx (st (l.foldl step s))) :=
  (forL_foldI enc st step (fun _ => P) l 0 s p fun i s a hi q => h s a (List.mem_of_getElem? hi) q).1
/-- each turn goes on in the same state -/
theorem forL_same {α : Type} {m : Sl → Sl} {f : D → Sl → R Fl} (enc : α → D) (ρ : Sl) (l : List α) (h : ∀ a, a ∈ l → turnR m (f (enc a) ρ) = .ok ρ) : forL m f (l.map enc) ρ = .ok (.nx ρ) :=
  forL_fold enc (fun _ : Unit => ρ) (fun _ _ => ()) (fun _ => True) l () trivial fun _ a ha _ => ⟨h a ha, trivial⟩
/-- the turns up to a place, then one that returns -/
theorem forL_ret {α σ : Type} {m : Sl → Sl} {f : D → Sl → R Fl} {a : α} {d : D} (enc : α → D) (st : σ → Sl) (step : σ → α → σ) (P : σ → Prop) : ∀ (pre post : List α) (s : σ), P s →
    (∀ s a, a ∈ pre → P s → turnR m (f (enc a) (st s)) = .ok (st (step s a)) ∧ P (step s a)) → f (enc a) (st (pre.foldl step s)) = .ok (.rt d) → forL m f ((pre ++ a :: post).map enc) (st s) = .ok (.rt d)
  | [], post, s, _, _, e => forL_ret1 e
  | b :: pre, post, s, p, h, e => by
    obtain ⟨q, p2⟩ := h s b List.mem_cons_self p
    have ih := forL_ret enc st step P pre post (step s b) p2 (fun s b hb => h s b (List.mem_cons_of_mem _ hb)) e
    show forL m f (enc b :: (pre ++ a :: post).map enc) (st s) = _
    rw [forL_step q]
    exact ih
theorem compL_map {α : Type} {f : D → R (List D)} (enc : α → D) (g : α → D) : ∀ (l : List α), (∀ a, a ∈ l → f (enc a) = .ok [g a]) → compL f (l.map enc) = .ok (l.map g)
  | [], _ => rfl
  | a :: l, h => by
    show ((f (enc a)).nox.bind fun x => (compL f (l.map enc)).bind fun r => .ok (x ++ r)) = _
    rw [h a List.mem_cons_self, compL_map enc g l fun b hb => h b (List.mem_cons_of_mem _ hb)]
    rfl
theorem compL_filter {α : Type} {f : D → R (List D)} (enc : α → D) (g : α → D) (p : α → Bool) : ∀ (l : List α), (∀ a, a ∈ l → f (enc a) = .ok (if p a then [g a] else [])) → compL f (l.map enc) = .ok ((l.filter p).map g)
  | [], _ => rfl
  | a :: l, h => by
    show ((f (enc a)).nox.bind fun x => (compL f (l.map enc)).bind fun r => .ok (x ++ r)) = _
    rw [h a List.mem_cons_self, compL_filter enc g p l fun b hb => h b (List.mem_cons_of_mem _ hb)]
    cases e : p a with
    | true =>
      rw [List.filter_cons_of_pos e]
      rfl
    | false =>
      rw [List.filter_cons_of_neg (by rw [e]; exact Bool.false_ne_true)]
      rfl
/-- a while by a measure -/
theorem whlL_run {σ : Type} {m : Sl → Sl} {c : Sl → R Bool} {f : Sl → R Fl} (st : σ → Sl) (P : σ → Prop) (go : σ → Bool) (step : σ → σ) (μ : σ → Nat) (hc : ∀ s, P s → c (st s) = .ok (go s))
    (hs : ∀ s, P s → go s = true → turnR m (f (st s)) = .ok (st (step s)) ∧ P (step s) ∧ μ (step s) < μ s) :
    ∀ (n : Nat) (s : σ), P s → μ s < n → ∃ s', whlL m c f n (st s) = .ok (.nx (st s')) ∧ P s' ∧ go s' = false
  | 0, s, _, h => absurd h (Nat.not_lt_zero _)
  | n + 1, s, p, h => by
    cases g : go s with
    | false =>
      refine ⟨s, ?_, p, g⟩
      show ((c (st s)).bind _) = _
      rw [hc s p, g]
      rfl
    | true =>
      obtain ⟨q, p2, lt⟩ := hs s p g
      obtain ⟨ρ', e, e2⟩ := turnR_of q
      obtain ⟨s', h1, h2⟩ := whlL_run st P go step μ hc hs n (step s) p2 (by omega)
      refine ⟨s', ?_, h2⟩
      show ((c (st s)).bind fun b => match b with
        | false => .ok (.nx (st s))
        | true => (f (st s)).bind fun x => match x with
          | .nx ρ' => whlL m c f n (m ρ')
          | .ct ρ' => whlL m c f n (m ρ')
          | .bk ρ' => .ok (.nx (m ρ'))
          | .rt d => .ok (.rt d)) = _
      rw [hc s p, g]
      rcases e with e | e <;> (show ((f (st s)).bind _) = _) <;> rw [e] <;> (show whlL m c f n (m ρ') = _) <;> rw [e2] <;> exact h1
/-! ### items, slices -/
@[simp] theorem subs_t (l : List D) (i : Int) : subsD (.tup l) (.int i) = R.ofO (atI l i) := Eq.trans rfl rfl
@[simp] theorem subs_l (l : List D) (i : Int) : subsD (.lst l) (.int i) = R.ofO (atI l i) := Eq.trans rfl rfl
theorem at_n {l : List D} {j : Nat} {v : D} (h : l[j]? = some v) : atI l (j : Int) = some v := L2.atI_nat h
theorem at_map {α : Type} {enc : α → D} {l : List α} {j : Nat} {v : α} (h : l[j]? = some v) : atI (l.map enc) (j : Int) = some (enc v) := at_n (by rw [List.getElem?_map, h] <;> rfl)
theorem at_last {l : List D} {v : D} (h : l.getLast? = some v) : atI l (-1) = some v := by
  obtain ⟨ys, rfl⟩ := List.getLast?_eq_some_iff.mp h
  exact L2.atI_last ys v
@[simp] theorem slc_t (l : List D) (a b : Option Int) : slcD (.tup l) a b = .ok (.tup (cut l a b)) := Eq.trans rfl rfl
@[simp] theorem slc_l (l : List D) (a b : Option Int) : slcD (.lst l) a b = .ok (.lst (cut l a b)) := Eq.trans rfl rfl
theorem cut_take {α : Type} (l : List α) (k : Nat) : cut l none (some (k : Int)) = l.take k := by
  unfold cut
  rw [HT.sIx_nat, HT.sIx_none, List.drop_zero, Nat.sub_zero]
  by_cases h : k ≤ l.length
  · rw [Nat.min_eq_left h]
  · rw [Nat.min_eq_right (by omega), List.take_length, List.take_of_length_le (by omega)]
theorem cut_drop {α : Type} (l : List α) (k : Nat) : cut l (some (k : Int)) none = l.drop k := by
  unfold cut
  rw [HT.sIx_nat, HT.sIx_none]
  by_cases h : k ≤ l.length
  · rw [Nat.min_eq_left h, List.take_of_length_le (by rw [List.length_drop]; omega)]
  · rw [Nat.min_eq_right (by omega), List.drop_length, List.drop_of_length_le (by omega)]
    simp
theorem cut_mid {α : Type} (l : List α) (a b : Nat) : cut l (some (a : Int)) (some (b : Int)) = (l.take b).drop a := by
  unfold cut
  rw [HT.sIx_nat, HT.sIx_nat, ← List.drop_take]
  have e : l.take (min b l.length) = l.take b := by
    by_cases h : b ≤ l.length
    · rw [Nat.min_eq_left h]
    · rw [Nat.min_eq_right (by omega), List.take_length, List.take_of_length_le (by omega)]
  rw [e]
  by_cases h2 : a ≤ l.length
  · rw [Nat.min_eq_left h2]
  · rw [List.drop_of_length_le (by rw [List.length_take]; omega), List.drop_of_length_le (by rw [List.length_take]; omega)]
/-! ### sets of wares -/
def bits (n m : Nat) : List Nat := (List.range n).filter fun i => m.testBit i
def nD (i : Nat) : D := .int i
def setD (l : List Nat) : D := .tup (l.map nD)
/-! whole numbers from nought on, unopened -/
@[simp] theorem or_nD (a b : Nat) : binD .BitOr (nD a) (nD b) = .ok (nD (a ||| b)) := or_n a b
@[simp] theorem and_nD (a b : Nat) : binD .BitAnd (nD a) (nD b) = .ok (nD (a &&& b)) := and_n a b
@[simp] theorem and_nD1 (a : Nat) : binD .BitAnd (nD a) (.int 1) = .ok (nD (a % 2)) := by
  show binD .BitAnd (.int (a : Int)) (.int 1) = .ok (.int ((a % 2 : Nat) : Int))
  rw [and_1]
  rfl
@[simp] theorem shl_nD (w : Nat) (h : w ≤ 1000) : binD .LShift (.int 1) (nD w) = .ok (nD (2 ^ w)) := shl_1 w h
@[simp] theorem shr_nD (a w : Nat) : binD .RShift (nD a) (nD w) = .ok (nD (a / 2 ^ w)) := shr_n a w
@[simp] theorem add_nD (a b : Nat) : binD .Add (nD a) (nD b) = .ok (nD (a + b)) := Eq.trans rfl rfl
@[simp] theorem eq_nD (a b : Nat) : cmpD .Eq (nD a) (nD b) = .ok (decide (a = b)) := by
  show R.ok (decide ((a : Int) = b)) = _
  rw [decide_eq_decide.mpr Int.ofNat_inj]
@[simp] theorem ne_nD (a b : Nat) : cmpD .NotEq (nD a) (nD b) = .ok (!decide (a = b)) := by
  show R.ok (!decide ((a : Int) = b)) = _
  rw [decide_eq_decide.mpr Int.ofNat_inj]
@[simp] theorem lt_nD (a b : Nat) : cmpD .Lt (nD a) (nD b) = .ok (decide (a < b)) := by
  show R.ok (decide ((a : Int) < b)) = _
  rw [decide_eq_decide.mpr Int.ofNat_lt]
@[simp] theorem le_nD (a b : Nat) : cmpD .LtE (nD a) (nD b) = .ok (decide (a ≤ b)) := by
  show R.ok (decide ((a : Int) ≤ b)) = _
  rw [decide_eq_decide.mpr Int.ofNat_le]
@[simp] theorem gt_nD (a b : Nat) : cmpD .Gt (nD a) (nD b) = .ok (decide (b < a)) := by
  show R.ok (decide ((b : Int) < a)) = _
  rw [decide_eq_decide.mpr Int.ofNat_lt]
@[simp] theorem ge_nD (a b : Nat) : cmpD .GtE (nD a) (nD b) = .ok (decide (b ≤ a)) := by
  show R.ok (decide ((b : Int) ≤ a)) = _
  rw [decide_eq_decide.mpr Int.ofNat_le]
@[simp] theorem eq_nD1 (a : Nat) : cmpD .Eq (nD a) (.int 1) = .ok (decide (a = 1)) := eq_nD a 1
@[simp] theorem eq_nD0 (a : Nat) : cmpD .Eq (nD a) (.int 0) = .ok (decide (a = 0)) := eq_nD a 0
@[simp] theorem ne_nD0 (a : Nat) : cmpD .NotEq (nD a) (.int 0) = .ok (!decide (a = 0)) := ne_nD a 0
@[simp] theorem isi_nD (a : Nat) : isiD (nD a) .int = .ok true := Eq.trans rfl rfl
@[simp] theorem isi_nDb (a : Nat) : isiD (nD a) .bool = .ok false := Eq.trans rfl rfl
@[simp] theorem isi_nDt (a : Nat) : isiD (nD a) .tuple = .ok false := Eq.trans rfl rfl
@[simp] theorem isNon_nD (a : Nat) : isNon (nD a) = false := Eq.trans rfl rfl
theorem nD_fold (n : Nat) : D.int (n : Int) = nD n := rfl
theorem nD0 : D.int 0 = nD 0 := rfl
theorem nD1 : D.int 1 = nD 1 := rfl
theorem rngL_0 (n : Nat) : rngL 0 n = (List.range n).map nD := by
  unfold rngL nD
  simp
@[simp] theorem rngK_nD (n : Nat) (h : n ≤ 16777216) : rngK (nD n) = .ok ((List.range n).map nD) := by
  show R.iff (rngOk (n : Int)) (.ok (rngL 0 n)) = _
  rw [rngL_0, show rngOk (n : Int) = true from decide_eq_true (by omega)]
  rfl
theorem rngL_n (a n : Nat) : rngL (a : Int) n = (List.range n).map fun k => nD (a + k) := by
  unfold rngL nD
  refine List.map_congr_left fun k _ => ?_
  rw [Int.natCast_add]
@[simp] theorem rng2K_nD (a b : Nat) (ha : a ≤ 16777216) (hb : b ≤ 16777216) : rng2K (nD a) (nD b) = .ok ((List.range (b - a)).map fun k => nD (a + k)) := by
  show R.iff (rngOk (a : Int) && rngOk (b : Int)) (.ok (rngL (a : Int) ((b : Int) - (a : Int)).toNat)) = _
  have e : ((b : Int) - (a : Int)).toNat = b - a := by omega
  have h1 : rngOk (a : Int) = true := decide_eq_true ⟨by omega, by omega⟩
  have h2 : rngOk (b : Int) = true := decide_eq_true ⟨by omega, by omega⟩
  rw [e, rngL_n, h1, h2]
  rfl
@[simp] theorem rng2K_1 (b : Nat) (hb : b ≤ 16777216) : rng2K (.int 1) (nD b) = .ok ((List.range (b - 1)).map fun k => nD (1 + k)) := rng2K_nD 1 b (by decide) hb
@[simp] theorem rng2K_0 (b : Nat) (hb : b ≤ 16777216) : rng2K (.int 0) (nD b) = .ok ((List.range b).map fun k => nD (0 + k)) := rng2K_nD 0 b (by decide) hb
theorem bits_succ (n m : Nat) : bits (n + 1) m = bits n m ++ (if m.testBit n then [n] else []) := by
  unfold bits
  rw [List.range_succ, List.filter_append]
  congr 1
  cases h : m.testBit n <;> simp [h]
theorem bits_len (n m : Nat) : (bits n m).length ≤ n := by
  unfold bits
  exact Nat.le_trans (List.length_filter_le _ _) (by rw [List.length_range]; exact Nat.le_refl _)
theorem mem_bits {n m i : Nat} : i ∈ bits n m ↔ i < n ∧ m.testBit i = true := by
  unfold bits
  rw [List.mem_filter, List.mem_range]
theorem bits_sorted (n m : Nat) : (bits n m).Pairwise (· < ·) := by
  unfold bits
  exact List.Pairwise.filter _ List.pairwise_lt_range
def markOf (l : List Nat) : Nat := l.foldl (fun a i => a ||| 2 ^ i) 0
theorem testBit_foldl (l : List Nat) (i : Nat) : ∀ a : Nat, (l.foldl (fun a i => a ||| 2 ^ i) a).testBit i = (a.testBit i || decide (i ∈ l)) := by
  induction l with
  | nil => simp
  | cons x l ih =>
    intro a
    rw [List.foldl_cons, ih, Nat.testBit_or, Nat.testBit_two_pow]
    by_cases h : x = i
    · subst h
      simp
    · have h' : ¬ i = x := fun e => h e.symm
      simp [h, h']
theorem markOf_testBit (l : List Nat) (i : Nat) : (markOf l).testBit i = decide (i ∈ l) := by
  unfold markOf
  rw [testBit_foldl]
  simp
theorem markOf_bits (n m : Nat) : markOf (bits n m) = m % 2 ^ n := by
  apply Nat.eq_of_testBit_eq
  intro i
  rw [markOf_testBit, Nat.testBit_mod_two_pow]
  simp [mem_bits]
theorem bits_of_mem {n m : Nat} {l : List Nat} (hs : l.Pairwise (· < ·)) (h : ∀ i, i ∈ l ↔ i < n ∧ m.testBit i = true) : l = bits n m := by
  apply List.Perm.eq_of_pairwise (le := fun a b => a < b)
  · intro a b _ _ h1 h2
    omega
  · exact hs
  · exact bits_sorted n m
  · refine (List.perm_ext_iff_of_nodup ?_ ?_).mpr fun i => ?_
    · exact hs.imp fun h => Nat.ne_of_lt h
    · exact (bits_sorted n m).imp fun h => Nat.ne_of_lt h
    · rw [h, mem_bits]
theorem bits_markOf {n : Nat} {l : List Nat} (hs : l.Pairwise (· < ·)) (h : ∀ i ∈ l, i < n) : bits n (markOf l) = l := by
  refine (bits_of_mem hs fun i => ?_).symm
  rw [markOf_testBit]
  simp only [decide_eq_true_eq]
  exact ⟨fun z => ⟨h i z, z⟩, fun z => z.2⟩
end Ir

/-! Pl1: == and in of plain data. -/
namespace Ir
open PySem L2
mutual
/-- no truth, no dict, no instance within -/
def D.nb : D → Bool
  | .non => true
  | .int _ => true
  | .str s => PyData.strOk s
  | .tup l => nbL l
  | .lst l => nbL l
  | _ => false
def nbL : List D → Bool
  | [] => true
  | d :: l => d.nb && nbL l
end
mutual
theorem nb_flat : ∀ d : D, d.nb = true → d.flat = true
  | .non, _ => rfl
  | .int _, _ => rfl
  | .str s, h => h
  | .tup l, h => nbL_flat l h
  | .lst l, h => nbL_flat l h
  | .bl _, h => by cases h
  | .dct _ _ _, h => by cases h
  | .ins _, h => by cases h
  | .adr _, h => by cases h
  | .exc _, h => by cases h
theorem nbL_flat : ∀ l : List D, nbL l = true → flatL l = true
  | [], _ => rfl
  | d :: l, h => by
    obtain ⟨h1, h2⟩ := bang (show (d.nb && nbL l) = true from h)
    show (d.flat && flatL l) = true
    rw [nb_flat d h1, nbL_flat l h2]
    rfl
end
theorem nbL_iff {l : List D} : nbL l = true ↔ ∀ d ∈ l, d.nb = true := by
  induction l with
  | nil => simp [nbL]
  | cons d l ih =>
    show (d.nb && nbL l) = true ↔ _
    rw [Bool.and_eq_true, ih, List.forall_mem_cons]
theorem flatL_iff {l : List D} : flatL l = true ↔ ∀ d ∈ l, d.flat = true := by
  induction l with
  | nil => simp [flatL]
  | cons d l ih =>
    show (d.flat && flatL l) = true ↔ _
    rw [Bool.and_eq_true, ih, List.forall_mem_cons]
theorem eqv_cons (x y : PyData) (xs ys : List PyData) : PyData.eqvAll (x :: xs) (y :: ys) = (PyData.eqv x y && PyData.eqvAll xs ys) := by rw [PyData.eqvAll]
mutual
theorem eqv_nb : ∀ x y : D, x.nb = true → y.nb = true → (PyData.eqv x.py y.py = true ↔ x = y)
  | .non, y, _, hy => by
    cases y with
    | bl _ => cases hy
    | dct _ _ _ => cases hy
    | ins _ => cases hy
    | adr _ => cases hy
    | exc _ => cases hy
    | _ => simp [D.py, PyData.eqv]
  | .int i, y, _, hy => by
    cases y with
    | bl _ => cases hy
    | dct _ _ _ => cases hy
    | ins _ => cases hy
    | adr _ => cases hy
    | exc _ => cases hy
    | _ => simp [D.py, PyData.eqv]
  | .str s, y, _, hy => by
    cases y with
    | bl _ => cases hy
    | dct _ _ _ => cases hy
    | ins _ => cases hy
    | adr _ => cases hy
    | exc _ => cases hy
    | _ => simp [D.py, PyData.eqv]
  | .tup l, y, hx, hy => by
    cases y with
    | bl _ => cases hy
    | dct _ _ _ => cases hy
    | ins _ => cases hy
    | adr _ => cases hy
    | exc _ => cases hy
    | tup m =>
      have e : PyData.eqv (D.tup l).py (D.tup m).py = PyData.eqvAll (pyL l) (pyL m) := by
        show PyData.eqv (.tuple (pyL l)) (.tuple (pyL m)) = _
        rw [PyData.eqv]
      rw [e, eqvL_nb l m hx hy]
      exact ⟨fun h => by rw [h], fun h => by injection h⟩
    | _ => simp [D.py, PyData.eqv]
  | .lst l, y, hx, hy => by
    cases y with
    | bl _ => cases hy
    | dct _ _ _ => cases hy
    | ins _ => cases hy
    | adr _ => cases hy
    | exc _ => cases hy
    | lst m =>
      have e : PyData.eqv (D.lst l).py (D.lst m).py = PyData.eqvAll (pyL l) (pyL m) := by
        show PyData.eqv (.list (pyL l)) (.list (pyL m)) = _
        rw [PyData.eqv]
      rw [e, eqvL_nb l m hx hy]
      exact ⟨fun h => by rw [h], fun h => by injection h⟩
    | _ => simp [D.py, PyData.eqv]
  | .bl _, _, h, _ => by cases h
  | .dct _ _ _, _, h, _ => by cases h
  | .ins _, _, h, _ => by cases h
  | .adr _, _, h, _ => by cases h
  | .exc _, _, h, _ => by cases h
theorem eqvL_nb : ∀ l m : List D, nbL l = true → nbL m = true → (PyData.eqvAll (pyL l) (pyL m) = true ↔ l = m)
  | [], [], _, _ => by simp [pyL, PyData.eqvAll]
  | [], y :: m, _, _ => by simp [pyL, PyData.eqvAll]
  | x :: l, [], _, _ => by simp [pyL, PyData.eqvAll]
  | x :: l, y :: m, hx, hy => by
    obtain ⟨h1, h2⟩ := bang (show (x.nb && nbL l) = true from hx)
    obtain ⟨h3, h4⟩ := bang (show (y.nb && nbL m) = true from hy)
    show PyData.eqvAll (x.py :: pyL l) (y.py :: pyL m) = true ↔ _
    rw [eqv_cons, Bool.and_eq_true, eqv_nb x y h1 h3, eqvL_nb l m h2 h4, List.cons.injEq]
end
theorem eqB_iff {x y : D} (hx : x.nb = true) (hy : y.nb = true) : eqB x y = true ↔ x = y := eqv_nb x y hx hy
theorem eqB_self {x : D} (h : x.flat = true) : eqB x x = true := by
  exact PySem.SeqAt.eqv_refl x.py (lay_py x h)
theorem eq_data {x y : D} (hx : x.flat = true) (hy : y.flat = true) (hd : min x.dep y.dep ≤ 64) : eqD x y = .ok (eqB x y) := by
  unfold eqD
  split
  · rename_i i j
    have e : decide (i = j) = eqB (.int i) (.int j) := by
      rw [Bool.eq_iff_iff, decide_eq_true_eq, eqB_iff rfl rfl, D.int.injEq]
    rw [e]
  · rename_i i j
    have e : decide (i = j) = eqB (.str i) (.str j) := by
      rw [Bool.eq_iff_iff, decide_eq_true_eq, eqB_iff (x := .str i) (y := .str j) hx hy, D.str.injEq]
    rw [e]
  · rw [hx, hy, decide_eq_true hd]
    rfl
theorem cmp_eq_self {x : D} (h : x.flat = true) (hd : x.dep ≤ 64) : cmpD .Eq x x = .ok true := by
  show eqD x x = _
  rw [eq_data h h (by rw [Nat.min_self]; exact hd), eqB_self h]
theorem cmp_eq_ne {x y : D} (hx : x.nb = true) (hy : y.nb = true) (hd : min x.dep y.dep ≤ 64) (n : x ≠ y) : cmpD .Eq x y = .ok false := by
  show eqD x y = _
  rw [eq_data (nb_flat x hx) (nb_flat y hy) hd]
  congr 1
  rw [← Bool.not_eq_true, eqB_iff hx hy]
  exact n
theorem cmp_ne_self {x : D} (h : x.flat = true) (hd : x.dep ≤ 64) : cmpD .NotEq x x = .ok false := by
  have e : eqD x x = .ok true := cmp_eq_self h hd
  show (eqD x x).bind _ = _
  rw [e] <;> rfl
theorem cmp_ne_ne {x y : D} (hx : x.nb = true) (hy : y.nb = true) (hd : min x.dep y.dep ≤ 64) (n : x ≠ y) : cmpD .NotEq x y = .ok true := by
  have e : eqD x y = .ok false := cmp_eq_ne hx hy hd n
  show (eqD x y).bind _ = _
  rw [e] <;> rfl
/-- equal by a test on what they stand for -/
theorem cmp_eq_dec {x y : D} (p : Prop) [Decidable p] (hx : x.nb = true) (hy : y.nb = true) (hd : min x.dep y.dep ≤ 64) (n : x = y ↔ p) : cmpD .Eq x y = .ok (decide p) := by
  by_cases h : p
  · rw [decide_eq_true h]
    obtain rfl := n.mpr h
    exact cmp_eq_self (nb_flat x hx) (by rw [Nat.min_self] at hd; exact hd)
  · rw [decide_eq_false h]
    exact cmp_eq_ne hx hy hd fun e => h (n.mp e)
theorem cmp_ne_dec {x y : D} (p : Prop) [Decidable p] (hx : x.nb = true) (hy : y.nb = true) (hd : min x.dep y.dep ≤ 64) (n : x = y ↔ p) : cmpD .NotEq x y = .ok (!decide p) := by
  have e : eqD x y = .ok (decide p) := cmp_eq_dec p hx hy hd n
  show (eqD x y).bind _ = _
  rw [e] <;> rfl
theorem in_tup {x : D} {l : List D} (p : Prop) [Decidable p] (hx : x.nb = true) (hl : nbL l = true) (hd : x.dep ≤ 64) (n : x ∈ l ↔ p) : inD x (.tup l) = .ok (decide p) := by
  show R.iff (x.flat && flatL l && decide (x.dep ≤ 64)) (.ok (l.any fun z => eqB z x)) = _
  rw [nb_flat x hx, nbL_flat l hl, decide_eq_true hd]
  show R.ok (l.any fun z => eqB z x) = _
  congr 1
  rw [Bool.eq_iff_iff, decide_eq_true_eq, ← n, List.any_eq_true]
  constructor
  · rintro ⟨z, hz, e⟩
    rw [eqB_iff (nbL_iff.mp hl z hz) hx] at e
    rw [← e]
    exact hz
  · exact fun h => ⟨x, h, (eqB_iff hx hx).mpr rfl⟩
theorem in_lst {x : D} {l : List D} (p : Prop) [Decidable p] (hx : x.nb = true) (hl : nbL l = true) (hd : x.dep ≤ 64) (n : x ∈ l ↔ p) : inD x (.lst l) = .ok (decide p) := in_tup p hx hl hd n
/-! ### whole numbers -/
theorem nD_inj {a b : Nat} : nD a = nD b ↔ a = b := by
  unfold nD
  rw [D.int.injEq, Int.ofNat_inj]
theorem mem_nD {i : Nat} {l : List Nat} : nD i ∈ l.map nD ↔ i ∈ l := by
  rw [List.mem_map]
  exact ⟨fun ⟨j, h, e⟩ => nD_inj.mp e ▸ h, fun h => ⟨i, h, rfl⟩⟩
theorem nb_nD (l : List Nat) : nbL (l.map nD) = true := nbL_iff.mpr fun d h => by
  obtain ⟨i, _, rfl⟩ := List.mem_map.mp h
  rfl
theorem dep_nD (l : List Nat) : depL (l.map nD) = 0 := by
  induction l with
  | nil => rfl
  | cons i l ih =>
    show max 0 (depL (l.map nD)) = 0
    rw [ih] <;> rfl
theorem dep_int (l : List Int) : depL (l.map D.int) = 0 := by
  induction l with
  | nil => rfl
  | cons i l ih =>
    show max 0 (depL (l.map D.int)) = 0
    rw [ih] <;> rfl
theorem dep_set (l : List Nat) : (setD l).dep = 1 := by
  show depL (l.map nD) + 1 = 1
  rw [dep_nD]
theorem nb_set (l : List Nat) : (setD l).nb = true := nb_nD l
theorem map_nD_inj {l m : List Nat} : l.map nD = m.map nD ↔ l = m := by
  constructor
  · intro h
    induction l generalizing m with
    | nil =>
      cases m with
      | nil => rfl
      | cons _ _ => cases h
    | cons a l ih =>
      cases m with
      | nil => cases h
      | cons b m =>
        rw [List.map_cons, List.map_cons, List.cons.injEq] at h
        rw [nD_inj.mp h.1, ih h.2]
  · exact fun h => by rw [h]
theorem setD_inj {l m : List Nat} : setD l = setD m ↔ l = m := by
  unfold setD
  rw [D.tup.injEq, map_nD_inj]
@[simp] theorem setD_fold (l : List Nat) : D.tup (l.map nD) = setD l := rfl
@[simp] theorem in_set (i : Nat) (l : List Nat) : cmpD .In (nD i) (setD l) = .ok (decide (i ∈ l)) := in_tup _ rfl (nb_nD l) (Nat.zero_le _) mem_nD
@[simp] theorem notin_set (i : Nat) (l : List Nat) : cmpD .NotIn (nD i) (setD l) = .ok (!decide (i ∈ l)) := by
  have e : inD (nD i) (setD l) = .ok (decide (i ∈ l)) := in_set i l
  show (inD (nD i) (setD l)).bind _ = _
  rw [e] <;> rfl
@[simp] theorem eq_set (l m : List Nat) : cmpD .Eq (setD l) (setD m) = .ok (decide (l = m)) := cmp_eq_dec _ (nb_set l) (nb_set m) (by rw [dep_set, dep_set]; decide) setD_inj
@[simp] theorem ne_set (l m : List Nat) : cmpD .NotEq (setD l) (setD m) = .ok (!decide (l = m)) := cmp_ne_dec _ (nb_set l) (nb_set m) (by rw [dep_set, dep_set]; decide) setD_inj
@[simp] theorem eq_set0 (l : List Nat) : cmpD .Eq (setD l) (.tup []) = .ok (decide (l = [])) := eq_set l []
@[simp] theorem ne_set0 (l : List Nat) : cmpD .NotEq (setD l) (.tup []) = .ok (!decide (l = [])) := ne_set l []
@[simp] theorem eq_lst0 (l : List D) (h : flatL l = true) : cmpD .Eq (.lst l) (.lst []) = .ok l.isEmpty := by
  show eqD (.lst l) (.lst []) = _
  rw [eq_data (x := .lst l) (y := .lst []) h rfl (by show min (depL l + 1) (0 + 1) ≤ 64; omega)]
  congr 1
  cases l with
  | nil => simp [eqB, D.py, pyL, PyData.eqv, PyData.eqvAll]
  | cons d l => simp [eqB, D.py, pyL, PyData.eqv, PyData.eqvAll]
@[simp] theorem ne_lst0 (l : List D) (h : flatL l = true) : cmpD .NotEq (.lst l) (.lst []) = .ok (!l.isEmpty) := by
  have e : eqD (.lst l) (.lst []) = .ok l.isEmpty := eq_lst0 l h
  show (eqD (.lst l) (.lst [])).bind _ = _
  rw [e] <;> rfl
@[simp] theorem len_set (l : List Nat) : bltD .len [setD l] = .ok (nD l.length) := by
  show R.ok (D.int ((l.map nD).length : Nat)) = _
  rw [List.length_map] <;> rfl
@[simp] theorem isi_set (l : List Nat) : isiD (setD l) .tuple = .ok true := rfl
@[simp] theorem seq_set (l : List Nat) : seqOf (setD l) = .ok (l.map nD) := rfl
@[simp] theorem seq2_set (l : List Nat) : seqOf2 (setD l) = .ok (l.map nD) := rfl
@[simp] theorem tuple_nD (l : List Nat) : bltD .tuple [.lst (l.map nD)] = .ok (setD l) := rfl
theorem set_last {l : List Nat} {v : Nat} (h : l.getLast? = some v) : subsD (setD l) (.int (-1)) = .ok (nD v) := by
  show R.ofO (atI (l.map nD) (-1)) = _
  rw [at_last (v := nD v) (by rw [List.getLast?_map, h] <;> rfl)]
  rfl
end Ir

/-! Pl2: < of plain data: numbers, sets, pairs. -/
namespace Ir
open PySem L2 PySem.W PyProof.Rows
/-- < of rows of data, place by place -/
def ltR (l m : List D) : Bool := dataLt (.tuple (pyL l)) (.tuple (pyL m))
theorem ltR_nn : ltR [] [] = false := by
  unfold ltR
  rw [dataLt_tuple]
  exact lex_irrefl _
theorem ltR_nc (y : D) (m : List D) : ltR [] (y :: m) = true := by
  unfold ltR
  rw [dataLt_tuple]
  show PyProof.Rows.lexLt itemOrd (keyToksAll []) (keyToksAll (y.py :: pyL m)) = true
  rw [toks_all_cons]
  rfl
theorem ltR_cn (x : D) (l : List D) : ltR (x :: l) [] = false := by
  unfold ltR
  rw [dataLt_tuple]
  show PyProof.Rows.lexLt itemOrd (keyToksAll (x.py :: pyL l)) (keyToksAll []) = false
  rw [toks_all_cons]
  rfl
theorem ltR_cc {x y : D} {l m : List D} (h : alike x.py y.py = true) : ltR (x :: l) (y :: m) = if eqB x y = true then ltR l m else ltB x y := by
  unfold ltR ltB eqB
  rw [dataLt_tuple, dataLt_tuple]
  show PyProof.Rows.lexLt itemOrd (keyToksAll (x.py :: pyL l)) (keyToksAll (y.py :: pyL m)) = _
  cases e : PyData.eqv x.py y.py with
  | true =>
    rw [if_pos rfl]
    exact dataLt_all_yes h e
  | false =>
    rw [if_neg Bool.false_ne_true]
    exact dataLt_all_no h e
theorem ltB_nD (a b : Nat) : ltB (nD a) (nD b) = decide (a < b) := by
  show dataLt (.int (a : Int)) (.int (b : Int)) = _
  rw [dataLt_int]
  exact decide_eq_decide.mpr Int.ofNat_lt
theorem ltB_int (a b : Int) : ltB (.int a) (.int b) = decide (a < b) := dataLt_int a b
theorem alike_nD (a b : Nat) : alike (nD a).py (nD b).py = true := by
  show alike (.int (a : Int)) (.int (b : Int)) = true
  simp [alike]
theorem alike_nDs : ∀ l m : List Nat, alikeAll (pyL (l.map nD)) (pyL (m.map nD)) = true
  | [], m => by
    show alikeAll [] _ = true
    rw [alikeAll]
  | a :: l, [] => by
    show alikeAll ((nD a).py :: pyL (l.map nD)) [] = true
    rw [alikeAll]
  | a :: l, b :: m => by
    show alikeAll ((nD a).py :: pyL (l.map nD)) ((nD b).py :: pyL (m.map nD)) = true
    rw [alikeAll, alike_nD, alike_nDs l m]
    rfl
theorem alike_tup {l m : List D} : alike (D.tup l).py (D.tup m).py = alikeAll (pyL l) (pyL m) := by
  show alike (.tuple (pyL l)) (.tuple (pyL m)) = _
  rw [alike]
theorem alike_set (l m : List Nat) : alike (setD l).py (setD m).py = true := by
  unfold setD
  rw [alike_tup]
  exact alike_nDs l m
theorem eqB_nD (a b : Nat) : eqB (nD a) (nD b) = decide (a = b) := by
  rw [Bool.eq_iff_iff, eqB_iff rfl rfl, nD_inj, decide_eq_true_eq]
theorem eqB_set (l m : List Nat) : eqB (setD l) (setD m) = decide (l = m) := by
  rw [Bool.eq_iff_iff, eqB_iff (nb_set l) (nb_set m), setD_inj, decide_eq_true_eq]
theorem ltR_nD : ∀ l m : List Nat, ltR (l.map nD) (m.map nD) = decide (l < m)
  | [], [] => by
    rw [List.map_nil, ltR_nn]
    simp
  | [], b :: m => by
    rw [List.map_nil, List.map_cons, ltR_nc]
    simp
  | a :: l, [] => by
    rw [List.map_nil, List.map_cons, ltR_cn]
    simp
  | a :: l, b :: m => by
    rw [List.map_cons, List.map_cons, ltR_cc (alike_nD a b), eqB_nD, ltB_nD, ltR_nD l m]
    by_cases e : a = b
    · subst e
      simp [List.cons_lt_cons_iff]
    · simp [List.cons_lt_cons_iff, e]
theorem ltB_set (l m : List Nat) : ltB (setD l) (setD m) = decide (l < m) := ltR_nD l m
theorem ltB_tup (l m : List D) : ltB (.tup l) (.tup m) = ltR l m := rfl
/-- what sets are ordered by -/
def ordD (l : List Nat) : D := .tup [nD l.length, setD l]
/-- a set goes ahead of another one -/
def ahead (l m : List Nat) : Prop := l.length < m.length ∨ l.length = m.length ∧ l < m
instance (l m : List Nat) : Decidable (ahead l m) := by
  unfold ahead
  infer_instance
theorem alike_cons {x y : D} {l m : List D} (h : alike x.py y.py = true) (h2 : alikeAll (pyL l) (pyL m) = true) : alikeAll (pyL (x :: l)) (pyL (y :: m)) = true := by
  show alikeAll (x.py :: pyL l) (y.py :: pyL m) = true
  rw [alikeAll, h, h2]
  rfl
theorem alike_nil (m : List D) : alikeAll (pyL []) (pyL m) = true := by
  show alikeAll [] _ = true
  rw [alikeAll]
theorem alike_ord (l m : List Nat) : alike (ordD l).py (ordD m).py = true := by
  unfold ordD
  rw [alike_tup]
  exact alike_cons (alike_nD _ _) (alike_cons (alike_set l m) (alike_nil _))
theorem ltB_ord (l m : List Nat) : ltB (ordD l) (ordD m) = decide (ahead l m) := by
  unfold ordD
  rw [ltB_tup, ltR_cc (alike_nD _ _), ltR_cc (alike_set l m), ltR_nn, eqB_nD, eqB_set, ltB_nD, ltB_set]
  unfold ahead
  by_cases e : l.length = m.length
  · rw [decide_eq_true e, if_pos rfl]
    by_cases e2 : l = m
    · subst e2
      simp
    · rw [decide_eq_false e2, if_neg Bool.false_ne_true]
      simp [e]
  · rw [decide_eq_false e, if_neg Bool.false_ne_true]
    simp [e]
theorem nb_ord (l : List Nat) : (ordD l).nb = true := by
  show ((nD l.length).nb && ((setD l).nb && true)) = true
  rw [nb_set]
  rfl
theorem dep_ord (l : List Nat) : (ordD l).dep = 2 := by
  show max 0 (max (setD l).dep 0) + 1 = 2
  rw [dep_set] <;> rfl
@[simp] theorem lt_ord (l m : List Nat) : cmpD .Lt (ordD l) (ordD m) = .ok (decide (ahead l m)) := by
  show ltD (ordD l) (ordD m) = _
  have e : ltD (ordD l) (ordD m) = .iff (flatL [nD l.length, setD l] && flatL [nD m.length, setD m] && alike (ordD l).py (ordD m).py && decide (min (ordD l).dep (ordD m).dep ≤ 64)) (.ok (ltB (ordD l) (ordD m))) := rfl
  have h1 : ∀ l, flatL [nD l.length, setD l] = true := fun l => nb_flat (ordD l) (nb_ord l)
  rw [e, h1, h1, alike_ord, dep_ord, dep_ord, ltB_ord]
  rfl
theorem ahead_irrefl (l : List Nat) : ¬ ahead l l := by
  unfold ahead
  simp
theorem ahead_trans {a b c : List Nat} (h : ahead a b) (h2 : ahead b c) : ahead a c := by
  unfold ahead at *
  rcases h with h | ⟨h, h'⟩ <;> rcases h2 with h2 | ⟨h2, h2'⟩
  · left; omega
  · left; omega
  · left; omega
  · right
    exact ⟨by omega, List.lt_trans h' h2'⟩
theorem ahead_total {a b : List Nat} (h : a ≠ b) : ahead a b ∨ ahead b a := by
  unfold ahead
  by_cases e : a.length = b.length
  · rcases (inferInstance : Std.Trichotomous (α := List Nat) (· < ·)).trichotomous a b with z
    by_cases h1 : a < b
    · exact .inl (.inr ⟨e, h1⟩)
    · by_cases h2 : b < a
      · exact .inr (.inr ⟨e.symm, h2⟩)
      · exact absurd (z h1 h2) h
  · omega
end Ir

namespace Ir
open PySem L2
noncomputable section
def b_p_is_number_from : Ss := (.cons (.ret (.and (.isi (.var 0) .int) (.and (.not (.isi (.var 0) .bool)) (.cmp .GtE (.var 0) (.var 1))))) .nil)
def T_p_is_number_from : Tbl := tb0 FUEL
@[simp] theorem T_p_is_number_from_fu : T_p_is_number_from.fuel = FUEL := by simp [T_p_is_number_from]
def f_p_is_number_from : List D → R D := body T_p_is_number_from 2 b_p_is_number_from
def b_p_greatest_divisor_L1 : Ss := (.cons (.par 0 1 (.bin .Mod (.var 1) (.var 0)) (.var 0)) .nil)
def b_p_greatest_divisor : Ss := (.cons (.whl (.cmp .Gt (.var 0) (.int 0)) b_p_greatest_divisor_L1) (.cons (.ret (.var 1)) .nil))
def T_p_greatest_divisor : Tbl := tb0 FUEL
@[simp] theorem T_p_greatest_divisor_fu : T_p_greatest_divisor.fuel = FUEL := by simp [T_p_greatest_divisor]
def f_p_greatest_divisor : List D → R D := body T_p_greatest_divisor 2 b_p_greatest_divisor
def b_p_reaches : Ss := (.cons (.ret (.cmp .GtE (.bin .Mult (.sub (.var 0) (.int 0)) (.sub (.var 1) (.int 1))) (.bin .Mult (.sub (.var 1) (.int 0)) (.sub (.var 0) (.int 1))))) .nil)
def T_p_reaches : Tbl := tb0 FUEL
@[simp] theorem T_p_reaches_fu : T_p_reaches.fuel = FUEL := by simp [T_p_reaches]
def f_p_reaches : List D → R D := body T_p_reaches 2 b_p_reaches
def b_l_number_2 : Ss := (.cons (.ret (.and (.isi (.var 0) .int) (.and (.not (.isi (.var 0) .bool)) (.cmp .GtE (.var 0) (.int 0))))) .nil)
def T_l_number_2 : Tbl := tb0 FUEL
@[simp] theorem T_l_number_2_fu : T_l_number_2.fuel = FUEL := by simp [T_l_number_2]
def f_l_number_2 : List D → R D := body T_l_number_2 1 b_l_number_2
def b_l_common_L1 : Ss := (.cons (.ife (.cmp .GtE (.var 0) (.var 1)) (.cons (.asg 0 (.bin .Mod (.var 0) (.var 1))) .nil) (.cons (.asg 1 (.bin .Mod (.var 1) (.var 0))) .nil)) .nil)
def b_l_common : Ss := (.cons (.whl (.and (.cmp .Gt (.var 0) (.int 0)) (.cmp .Gt (.var 1) (.int 0))) b_l_common_L1) (.cons (.ret (.bin .Add (.var 0) (.var 1))) .nil))
def T_l_common : Tbl := tb0 FUEL
@[simp] theorem T_l_common_fu : T_l_common.fuel = FUEL := by simp [T_l_common]
def f_l_common : List D → R D := body T_l_common 2 b_l_common
def b_l_is_share : Ss := (.cons (.ife (.or (.not (.isi (.var 0) .tuple)) (.cmp .NotEq (.blt .len (.cons (.var 0) .nil)) (.int 2))) (.cons (.ret (.bl false)) .nil) .nil) (.cons (.ife (.or (.not (.call 71 (.cons (.sub (.var 0) (.int 0)) .nil))) (.or (.not (.call 71 (.cons (.sub (.var 0) (.int 1)) .nil))) (.cmp .Lt (.sub (.var 0) (.int 1)) (.int 1)))) (.cons (.ret (.bl false)) .nil) .nil) (.cons (.ret (.and (.cmp .Eq (.bin .Mult (.sub (.var 0) (.int 0)) (.var 2)) (.bin .Mult (.sub (.var 0) (.int 1)) (.var 1))) (.cmp .Eq (.call 72 (.cons (.sub (.var 0) (.int 0)) (.cons (.sub (.var 0) (.int 1)) .nil))) (.int 1)))) .nil)))
def T_l_is_share : Tbl := ((tb0 FUEL).add 71 f_l_number_2).add 72 f_l_common
@[simp] theorem T_l_is_share_fn71 : T_l_is_share.fn 71 = f_l_number_2 := by simp [T_l_is_share]
@[simp] theorem T_l_is_share_fn72 : T_l_is_share.fn 72 = f_l_common := by simp [T_l_is_share]
@[simp] theorem T_l_is_share_fu : T_l_is_share.fuel = FUEL := by simp [T_l_is_share]
def f_l_is_share : List D → R D := body T_l_is_share 3 b_l_is_share
def b_l_two_2 : Ss := (.cons (.asg 1 (.sub (.lst (.cons (.int 13) (.cons (.bin .Pow (.int 10) (.int 15)) .nil))) (.bin .Mod (.var 0) (.int 2)))) (.cons (.asg 2 (.int 1)) (.cons (.ife (.cmp .Eq (.bin .Mod (.bin .FloorDiv (.var 0) (.int 2)) (.int 3)) (.int 0)) (.cons (.asg 2 (.bin .Add (.int 1) (.bin .Mod (.bin .FloorDiv (.var 0) (.int 6)) (.int 1000)))) (.cons (.asg 1 (.sub (.lst (.cons (.int 13) (.cons (.bin .Pow (.int 10) (.int 12)) .nil))) (.bin .Mod (.var 0) (.int 2)))) .nil)) .nil) (.cons (.asg 3 (.bin .Mod (.bin .FloorDiv (.var 0) (.int 6000)) (.var 1))) (.cons (.ret (.tup (.cons (.bin .Mult (.var 3) (.var 2)) (.cons (.bin .Mult (.bin .Add (.int 1) (.bin .Mod (.bin .FloorDiv (.var 0) (.bin .Mult (.int 6000) (.var 1))) (.bin .Sub (.var 1) (.int 1)))) (.var 2)) .nil)))) .nil)))))
def T_l_two_2 : Tbl := tb0 FUEL
@[simp] theorem T_l_two_2_fu : T_l_two_2.fuel = FUEL := by simp [T_l_two_2]
def f_l_two_2 : List D → R D := body T_l_two_2 4 b_l_two_2
def b_l_odd_2 : Ss := (.cons (.ret (.sub (.lst (.cons (.neg (.int 1)) (.cons (.bl true) (.cons (.bl false) (.cons .non (.cons (.str "1") (.cons (.tup (.cons (.int 1) .nil)) (.cons (.lst (.cons (.int 1) .nil)) (.cons (.bin .Sub (.neg (.int 1)) (.bin .Mod (.bin .FloorDiv (.var 0) (.int 8)) (.bin .Pow (.int 10) (.int 12)))) .nil))))))))) (.bin .Mod (.var 0) (.int 8)))) .nil)
def T_l_odd_2 : Tbl := tb0 FUEL
@[simp] theorem T_l_odd_2_fu : T_l_odd_2.fuel = FUEL := by simp [T_l_odd_2]
def f_l_odd_2 : List D → R D := body T_l_odd_2 1 b_l_odd_2
def b_p_share_2 : Ss := (.cons (.ife (.or (.not (.call 67 (.cons (.var 0) (.cons (.int 0) .nil)))) (.not (.call 67 (.cons (.var 1) (.cons (.int 1) .nil))))) (.cons (.raise "NoShare") .nil) .nil) (.cons (.asg 2 (.call 68 (.cons (.var 0) (.cons (.var 1) .nil)))) (.cons (.ret (.tup (.cons (.bin .FloorDiv (.var 0) (.var 2)) (.cons (.bin .FloorDiv (.var 1) (.var 2)) .nil)))) .nil)))
def T_p_share_2 : Tbl := (((tb0 FUEL).addRs "NoShare").add 67 f_p_is_number_from).add 68 f_p_greatest_divisor
@[simp] theorem T_p_share_2_fn67 : T_p_share_2.fn 67 = f_p_is_number_from := by simp [T_p_share_2]
@[simp] theorem T_p_share_2_fn68 : T_p_share_2.fn 68 = f_p_greatest_divisor := by simp [T_p_share_2]
@[simp] theorem T_p_share_2_fu : T_p_share_2.fuel = FUEL := by simp [T_p_share_2]
@[simp] theorem T_p_share_2_rs0 : T_p_share_2.rs "NoShare" = true := by first | rfl | decide +kernel
def f_p_share_2 : List D → R D := body T_p_share_2 3 b_p_share_2
def b_l_refused : Ss := (.cons (.asg 2 (.lst (.cons (.bl false) (.cons (.bl true) .nil)))) (.cons (.tryE (.call 269 (.cons (.var 0) (.cons (.var 1) .nil))) "NoShare" 4 (.cons (.asg 3 (.isiC (.var 4) ["NoRun", "NoStore", "NoText", "NoTree", "NotThere", "TooGreat"])) (.cons (.asg 2 (.lst (.cons (.and (.isiC (.var 4) ["OftenError"]) (.isiC (.var 4) ["ValueError"])) (.cons (.var 3) .nil)))) .nil))) (.cons (.ret (.cmp .Eq (.var 2) (.lst (.cons (.bl true) (.cons (.bl false) .nil))))) .nil)))
def T_l_refused : Tbl := (((((tb0 FUEL).addSubE "NoShare" ["NoRun", "NoStore", "NoText", "NoTree", "NotThere", "TooGreat"] false).addSubE "NoShare" ["OftenError"] true).addSubE "NoShare" ["ValueError"] true).addExm "NoShare" "NoShare" true).add 269 f_p_share_2
@[simp] theorem T_l_refused_fn269 : T_l_refused.fn 269 = f_p_share_2 := by simp [T_l_refused]
@[simp] theorem T_l_refused_fu : T_l_refused.fuel = FUEL := by simp [T_l_refused]
@[simp] theorem T_l_refused_subE0 : T_l_refused.subE "NoShare" ["NoRun", "NoStore", "NoText", "NoTree", "NotThere", "TooGreat"] = .ok false := by
  show ((((tb0 FUEL).addSubE "NoShare" ["NoRun", "NoStore", "NoText", "NoTree", "NotThere", "TooGreat"] false).addSubE "NoShare" ["OftenError"] true).addSubE "NoShare" ["ValueError"] true).subE "NoShare" ["NoRun", "NoStore", "NoText", "NoTree", "NotThere", "TooGreat"] = _
  exact ((Tbl.subE_ne (by decide +kernel)).trans ((Tbl.subE_ne (by decide +kernel)).trans Tbl.subE_same))
@[simp] theorem T_l_refused_subE1 : T_l_refused.subE "NoShare" ["OftenError"] = .ok true := by
  show ((((tb0 FUEL).addSubE "NoShare" ["NoRun", "NoStore", "NoText", "NoTree", "NotThere", "TooGreat"] false).addSubE "NoShare" ["OftenError"] true).addSubE "NoShare" ["ValueError"] true).subE "NoShare" ["OftenError"] = _
  exact ((Tbl.subE_ne (by decide +kernel)).trans Tbl.subE_same)
@[simp] theorem T_l_refused_subE2 : T_l_refused.subE "NoShare" ["ValueError"] = .ok true := by
  show ((((tb0 FUEL).addSubE "NoShare" ["NoRun", "NoStore", "NoText", "NoTree", "NotThere", "TooGreat"] false).addSubE "NoShare" ["OftenError"] true).addSubE "NoShare" ["ValueError"] true).subE "NoShare" ["ValueError"] = _
  exact Tbl.subE_same
@[simp] theorem T_l_refused_exm0 : T_l_refused.exm "NoShare" "NoShare" = .ok true := by
  show (((((tb0 FUEL).addSubE "NoShare" ["NoRun", "NoStore", "NoText", "NoTree", "NotThere", "TooGreat"] false).addSubE "NoShare" ["OftenError"] true).addSubE "NoShare" ["ValueError"] true).addExm "NoShare" "NoShare" true).exm "NoShare" "NoShare" = _
  exact Tbl.exm_same
def f_l_refused : List D → R D := body T_l_refused 5 b_l_refused
def b_law_k31_L1 : Ss := (.cons (.asg 8 (.call 70 (.cons (.var 6) (.cons (.var 7) .nil)))) (.cons (.ife (.or (.not (.isi (.var 8) .bool)) (.cmp .NotEq (.var 8) (.cmp .GtE (.bin .Mult (.sub (.var 6) (.int 0)) (.sub (.var 7) (.int 1))) (.bin .Mult (.sub (.var 7) (.int 0)) (.sub (.var 6) (.int 1)))))) (.cons (.ret (.bl false)) .nil) .nil) .nil))
def b_law_k31_L2 : Ss := (.cons (.asgT (.tup (.cons (.nm 4) (.cons (.nm 5) .nil))) (.call 74 (.cons (.var 2) .nil))) (.cons (.asg 3 (.call 269 (.cons (.var 4) (.cons (.var 5) .nil)))) (.cons (.ife (.not (.call 73 (.cons (.var 3) (.cons (.var 4) (.cons (.var 5) .nil))))) (.cons (.ret (.bl false)) .nil) .nil) (.cons (.for_ (.tup (.cons (.nm 6) (.cons (.nm 7) .nil))) (.seq (.lst (.cons (.tup (.cons (.var 3) (.cons (.var 1) .nil))) (.cons (.tup (.cons (.var 1) (.cons (.var 3) .nil))) (.cons (.tup (.cons (.var 3) (.cons (.var 3) .nil))) .nil))))) b_law_k31_L1) (.cons (.asg 1 (.var 3)) (.cons (.ife (.or (.not (.call 270 (.cons (.call 75 (.cons (.bin .FloorDiv (.var 2) (.int 2)) .nil)) (.cons (.var 5) .nil)))) (.not (.call 270 (.cons (.var 4) (.cons (.call 75 (.cons (.bin .FloorDiv (.var 2) (.int 2)) .nil)) .nil))))) (.cons (.ret (.bl false)) .nil) .nil) (.cons (.ife (.or (.not (.call 270 (.cons (.var 4) (.cons (.int 0) .nil)))) (.cmp .NotEq (.call 269 (.cons (.var 4) (.cons (.var 5) .nil))) (.var 3))) (.cons (.ret (.bl false)) .nil) .nil) .nil)))))))
def b_law_k31 : Ss := (.cons (.asg 1 (.tup (.cons (.int 1) (.cons (.int 2) .nil)))) (.cons (.for_ (.nm 2) (.seq (.slcH (.bin .Add (.var 0) (.lst (.cons (.int 0) .nil))) (.int 63))) b_law_k31_L2) (.cons (.ret (.bl true)) .nil)))
def T_law_k31 : Tbl := ((((((tb0 FUEL).add 74 f_l_two_2).add 269 f_p_share_2).add 73 f_l_is_share).add 70 f_p_reaches).add 270 f_l_refused).add 75 f_l_odd_2
@[simp] theorem T_law_k31_fn74 : T_law_k31.fn 74 = f_l_two_2 := by simp [T_law_k31]
@[simp] theorem T_law_k31_fn269 : T_law_k31.fn 269 = f_p_share_2 := by simp [T_law_k31]
@[simp] theorem T_law_k31_fn73 : T_law_k31.fn 73 = f_l_is_share := by simp [T_law_k31]
@[simp] theorem T_law_k31_fn70 : T_law_k31.fn 70 = f_p_reaches := by simp [T_law_k31]
@[simp] theorem T_law_k31_fn270 : T_law_k31.fn 270 = f_l_refused := by simp [T_law_k31]
@[simp] theorem T_law_k31_fn75 : T_law_k31.fn 75 = f_l_odd_2 := by simp [T_law_k31]
@[simp] theorem T_law_k31_fu : T_law_k31.fuel = FUEL := by simp [T_law_k31]
def f_law_k31 : List D → R D := body T_law_k31 9 b_law_k31
end
end Ir


set_option maxHeartbeats 4000000
/-! Pk31: shares, the law. -/
namespace Ir
open PySem L2
theorem smN (a : Nat) (h : a < 2 ^ 60) : smallB (a : Int) = true := decide_eq_true ⟨by omega, by omega⟩
theorem mulN (a b : Nat) (h : a < 2 ^ 60) : binD .Mult (.int (a : Int)) (.int (b : Int)) = .ok (.int ((a * b : Nat) : Int)) := by
  rw [mul_i _ _ (.inl (smN a h)), Int.natCast_mul]
theorem from_i (x m : Int) : f_p_is_number_from [.int x, .int m] = .ok (.bl (decide (m ≤ x))) := by
  unfold f_p_is_number_from body b_p_is_number_from
  simp
theorem from_bl (b : Bool) (m : D) : f_p_is_number_from [.bl b, m] = .ok (.bl false) := by
  unfold f_p_is_number_from body b_p_is_number_from
  simp
theorem from_o {d : D} (h : isiD d .int = .ok false) (m : D) : f_p_is_number_from [d, m] = .ok (.bl false) := by
  unfold f_p_is_number_from body b_p_is_number_from
  simp [h]
theorem gd_ok (a b : Nat) (ha : a < 2 ^ 60) : f_p_greatest_divisor [.int (a : Int), .int (b : Int)] = .ok (.int ((Nat.gcd a b : Nat) : Int)) := by
  have wh := whlL_run (m := mask [some (.im (.int (a : Int))), some (.im (.int (b : Int)))]) (c := fun ρ' => evT T_p_greatest_divisor (.cmp .Gt (.var 0) (.int 0)) ρ') (f := fun ρ' => exSs T_p_greatest_divisor b_p_greatest_divisor_L1 ρ') (fun p : Nat × Nat => [some (.im (.int (p.1 : Int))), some (.im (.int (p.2 : Int)))])
    (fun p => Nat.gcd p.1 p.2 = Nat.gcd a b) (fun p => decide (0 < p.1)) (fun p => (p.2 % p.1, p.1)) (fun p => p.1) (fun p _ => by
      obtain ⟨x, y⟩ := p
      simp) (fun p hp go => by
      obtain ⟨x, y⟩ := p
      have go : 0 < x := of_decide_eq_true go
      have gi : 0 < (x : Int) := by omega
      refine ⟨?_, ?_, Nat.mod_lt _ go⟩
      · have md := mod_i (y : Int) (x : Int) gi
        simp [turnR, b_p_greatest_divisor_L1, md]
      · exact (Nat.gcd_rec x y).symm.trans hp) FUEL (a, b) rfl (Nat.lt_trans ha (by decide))
  obtain ⟨⟨x, y⟩, e, hp, hg⟩ := wh
  have hx : x = 0 := by
    have := of_decide_eq_false hg
    have : ¬ 0 < x := this
    omega
  subst hx
  have hp : Nat.gcd 0 y = Nat.gcd a b := hp
  rw [Nat.gcd_zero_left] at hp
  subst hp
  unfold f_p_greatest_divisor body b_p_greatest_divisor
  simp [-evT_def, e]
theorem share_ok (a b : Nat) (ha : a < 2 ^ 60) (hb : 1 ≤ b) (hb2 : b < 2 ^ 60) : f_p_share_2 [.int (a : Int), .int (b : Int)] = .ok (.tup [.int ((a / Nat.gcd a b : Nat) : Int), .int ((b / Nat.gcd a b : Nat) : Int)]) := by
  have g0 : 0 < Nat.gcd a b := Nat.gcd_pos_of_pos_right a hb
  have g1 : Nat.gcd a b ≤ b := Nat.gcd_le_right a hb
  have g := gd_ok a b ha
  have f1 := from_i a 0
  have f2 := from_i b 1
  rw [decide_eq_true (by omega)] at f1 f2
  generalize Nat.gcd a b = q at *
  have q1 : 0 < (q : Int) := by omega
  have q2 : (q : Int) < 2 ^ 250 := Int.lt_trans (show (q : Int) < 2 ^ 60 by omega) (by decide)
  have d1 := fdiv_i (a : Int) (q : Int) q1 q2
  have d2 := fdiv_i (b : Int) (q : Int) q1 q2
  unfold f_p_share_2 body b_p_share_2
  clear q1 q2 g0 g1 hb hb2 ha
  simp -implicitDefEqProofs [f1, f2, g, d1, d2, LIM]
theorem share_no1 {x y : D} (h : f_p_is_number_from [x, .int 0] = .ok (.bl false)) : f_p_share_2 [x, y] = .exc "NoShare" [] := by
  unfold f_p_share_2 body b_p_share_2
  simp -implicitDefEqProofs [h]
theorem share_no2 {x y : D} (h : f_p_is_number_from [x, .int 0] = .ok (.bl true)) (h2 : f_p_is_number_from [y, .int 1] = .ok (.bl false)) : f_p_share_2 [x, y] = .exc "NoShare" [] := by
  unfold f_p_share_2 body b_p_share_2
  simp -implicitDefEqProofs [h, h2]
theorem refused_ok {x y : D} (h : f_p_share_2 [x, y] = .exc "NoShare" []) : f_l_refused [x, y] = .ok (.bl true) := by
  have e : cmpD .Eq (D.lst [.bl true, .bl false]) (D.lst [.bl true, .bl false]) = .ok true := by rfl
  unfold f_l_refused body b_l_refused
  simp -implicitDefEqProofs [h, e, LIM]
theorem common_ok (a b : Nat) (ha : a < 2 ^ 60) (hb : b < 2 ^ 60) : f_l_common [.int (a : Int), .int (b : Int)] = .ok (.int ((Nat.gcd a b : Nat) : Int)) := by
  have wh := whlL_run (m := mask [some (.im (.int (a : Int))), some (.im (.int (b : Int)))]) (c := fun ρ' => evT T_l_common (.and (.cmp .Gt (.var 0) (.int 0)) (.cmp .Gt (.var 1) (.int 0))) ρ') (f := fun ρ' => exSs T_l_common b_l_common_L1 ρ') (fun p : Nat × Nat => [some (.im (.int (p.1 : Int))), some (.im (.int (p.2 : Int)))])
    (fun p => Nat.gcd p.1 p.2 = Nat.gcd a b) (fun p => decide (0 < p.1 ∧ 0 < p.2)) (fun p => if p.2 ≤ p.1 then (p.1 % p.2, p.2) else (p.1, p.2 % p.1)) (fun p => p.1 + p.2) (fun p _ => by
      obtain ⟨x, y⟩ := p
      by_cases c : 0 < x <;> by_cases c2 : 0 < y <;> simp [c, c2]) (fun p hp go => by
      obtain ⟨x, y⟩ := p
      have go : 0 < x ∧ 0 < y := of_decide_eq_true go
      have gi : 0 < (x : Int) := by omega
      have gj : 0 < (y : Int) := by omega
      by_cases c : y ≤ x
      · have ci : (y : Int) ≤ x := by omega
        have hp : Nat.gcd x y = Nat.gcd a b := hp
        simp only [if_pos c]
        refine ⟨?_, ?_, ?_⟩
        · have md := mod_i (x : Int) (y : Int) gj
          simp [turnR, b_l_common_L1, md, c]
        · show Nat.gcd (x % y) y = _
          rw [← hp, Nat.gcd_comm x y, Nat.gcd_rec y x]
        · have := Nat.mod_lt x go.2
          show x % y + y < x + y
          omega
      · have ci : ¬ (y : Int) ≤ x := by omega
        have hp : Nat.gcd x y = Nat.gcd a b := hp
        simp only [if_neg c]
        refine ⟨?_, ?_, ?_⟩
        · have md := mod_i (y : Int) (x : Int) gi
          simp [turnR, b_l_common_L1, md, c]
        · show Nat.gcd x (y % x) = _
          rw [← hp, Nat.gcd_rec x y, Nat.gcd_comm]
        · have := Nat.mod_lt y go.1
          show x + y % x < x + y
          omega) FUEL (a, b) rfl (Nat.lt_trans (show a + b < 2 ^ 61 by omega) (by decide))
  obtain ⟨⟨x, y⟩, e, hp, hg⟩ := wh
  have hp : Nat.gcd x y = Nat.gcd a b := hp
  have hx : x + y = Nat.gcd a b := by
    have hg : ¬ (0 < x ∧ 0 < y) := of_decide_eq_false hg
    rw [← hp]
    by_cases c : x = 0
    · subst c
      rw [Nat.gcd_zero_left, Nat.zero_add]
    · have : y = 0 := by omega
      subst this
      rw [Nat.gcd_zero_right, Nat.add_zero]
  have hi : ((x : Int) + (y : Int)) = ((Nat.gcd a b : Nat) : Int) := by omega
  unfold f_l_common body b_l_common
  generalize Nat.gcd a b = g at *
  simp [-evT_def, e, hi]
theorem number2_ok (a : Nat) : f_l_number_2 [.int (a : Int)] = .ok (.bl true) := by
  unfold f_l_number_2 body b_l_number_2
  simp
theorem is_share_ok (p q a b : Nat) (h1 : p * b = q * a) (h2 : 1 ≤ q) (h3 : Nat.gcd p q = 1) (hp : p < 2 ^ 60) (hq : q < 2 ^ 60) : f_l_is_share [.tup [.int (p : Int), .int (q : Int)], .int (a : Int), .int (b : Int)] = .ok (.bl true) := by
  have m1 := mulN p b hp
  have m2 := mulN q a hq
  have cm := common_ok p q hp hq
  rw [h3] at cm
  have n1 := number2_ok p
  have n2 := number2_ok q
  have lt : ¬ ((q : Int) < 1) := by omega
  rw [h1] at m1
  generalize ((q * a : Nat) : Int) = z at *
  clear h1 h2 h3 hp hq
  have a0 : atI [D.int (p : Int), D.int (q : Int)] 0 = some (.int (p : Int)) := rfl
  have a1 : atI [D.int (p : Int), D.int (q : Int)] 1 = some (.int (q : Int)) := rfl
  unfold f_l_is_share body b_l_is_share
  generalize D.int (p : Int) = pd at *
  simp -implicitDefEqProofs [m1, m2, cm, n1, n2, lt, a0, a1]
theorem reaches_ok (p q r s : Nat) (hp : p < 2 ^ 60) (hr : r < 2 ^ 60) : f_p_reaches [.tup [.int (p : Int), .int (q : Int)], .tup [.int (r : Int), .int (s : Int)]] = .ok (.bl (decide (((r * q : Nat) : Int) ≤ ((p * s : Nat) : Int)))) := by
  have m1 := mulN p s hp
  have m2 := mulN r q hr
  have a0 : atI [D.int (p : Int), D.int (q : Int)] 0 = some (.int (p : Int)) := rfl
  have a1 : atI [D.int (p : Int), D.int (q : Int)] 1 = some (.int (q : Int)) := rfl
  have a2 : atI [D.int (r : Int), D.int (s : Int)] 0 = some (.int (r : Int)) := rfl
  have a3 : atI [D.int (r : Int), D.int (s : Int)] 1 = some (.int (s : Int)) := rfl
  unfold f_p_reaches body b_p_reaches
  generalize ((p * s : Nat) : Int) = z at *
  generalize ((r * q : Nat) : Int) = z' at *
  clear hp hr
  simp -implicitDefEqProofs [m1, m2, a0, a1, a2, a3]
abbrev pqD (p q : Nat) : D := .tup [.int (p : Int), .int (q : Int)]
theorem at2a (x y : D) : atI [x, y] 0 = some x := rfl
theorem at2b (x y : D) : atI [x, y] 1 = some y := rfl
theorem two_ok (c : Int) : ∃ a b : Nat, f_l_two_2 [.int c] = .ok (pqD a b) ∧ a < 2 ^ 60 ∧ 1 ≤ b ∧ b < 2 ^ 60 := by
  have z : c % 2 = 0 ∨ c % 2 = 1 := by omega
  have lt : ∀ x y : Nat, x ≤ 10 ^ 12 → y ≤ 1000 → x * y < 2 ^ 60 := fun x y h1 h2 => Nat.lt_of_le_of_lt (Nat.mul_le_mul h1 h2) (by decide)
  obtain ⟨k, hk⟩ : ∃ k : Nat, 1 + c / 6 % 1000 = (k : Int) := ⟨(1 + c / 6 % 1000).toNat, by omega⟩
  obtain ⟨t1, ht1⟩ : ∃ t : Nat, c / 6000 % 13 = (t : Int) := ⟨(c / 6000 % 13).toNat, by omega⟩
  obtain ⟨u1, hu1⟩ : ∃ u : Nat, 1 + c / 78000 % 12 = (u : Int) := ⟨(1 + c / 78000 % 12).toNat, by omega⟩
  obtain ⟨t2, ht2⟩ : ∃ t : Nat, c / 6000 % 1000000000000 = (t : Int) := ⟨(c / 6000 % 1000000000000).toNat, by omega⟩
  obtain ⟨u2, hu2⟩ : ∃ u : Nat, 1 + c / 6000000000000000 % 999999999999 = (u : Int) := ⟨(1 + c / 6000000000000000 % 999999999999).toNat, by omega⟩
  obtain ⟨t3, ht3⟩ : ∃ t : Nat, c / 6000 % 1000000000000000 = (t : Int) := ⟨(c / 6000 % 1000000000000000).toNat, by omega⟩
  obtain ⟨u3, hu3⟩ : ∃ u : Nat, 1 + c / 6000000000000000000 % 999999999999999 = (u : Int) := ⟨(1 + c / 6000000000000000000 % 999999999999999).toNat, by omega⟩
  have p15 := pow_i 10 15 (by decide)
  have p12 := pow_i 10 12 (by decide)
  rw [show (10 : Int) ^ (15 : Int).toNat = 1000000000000000 from by decide] at p15
  rw [show (10 : Int) ^ (12 : Int).toNat = 1000000000000 from by decide] at p12
  have mm1 : binD .Mult (.int 6000) (.int 13) = .ok (.int 78000) := mul_i _ _ (.inl (by decide))
  have mm2 : binD .Mult (.int 6000) (.int 1000000000000) = .ok (.int 6000000000000000) := mul_i _ _ (.inl (by decide))
  have mm3 : binD .Mult (.int 6000) (.int 1000000000000000) = .ok (.int 6000000000000000000) := mul_i _ _ (.inl (by decide))
  have d2 := fdiv_i c 6000000000000000 (by decide) (by decide)
  have d3 := fdiv_i c 6000000000000000000 (by decide) (by decide)
  have d1 := fdiv_i c 78000 (by decide) (by decide)
  have d0 := fdiv_i c 6000 (by decide) (by decide)
  by_cases h : c / 2 % 3 = 0
  · rcases z with z | z
    · have m1 := mulN t1 k (by omega)
      have m2 := mulN u1 k (by omega)
      refine ⟨t1 * k, u1 * k, ?_, lt _ _ (by omega) (by omega), Nat.mul_pos (by omega) (by omega), lt _ _ (by omega) (by omega)⟩
      have l1 : (0 : Int) < 13 := by decide
      show _ = R.ok (D.tup [.int ((t1 * k : Nat) : Int), .int ((u1 * k : Nat) : Int)])
      generalize ((t1 * k : Nat) : Int) = y1 at *
      generalize ((u1 * k : Nat) : Int) = y2 at *
      unfold f_l_two_2 body b_l_two_2
      simp -implicitDefEqProofs [h, z, hk, ht1, hu1, p15, p12, mm1, d1, d0, m1, m2, at2a, LIM]
    · have m1 := mulN t2 k (by omega)
      have m2 := mulN u2 k (by omega)
      refine ⟨t2 * k, u2 * k, ?_, lt _ _ (by omega) (by omega), Nat.mul_pos (by omega) (by omega), lt _ _ (by omega) (by omega)⟩
      show _ = R.ok (D.tup [.int ((t2 * k : Nat) : Int), .int ((u2 * k : Nat) : Int)])
      generalize ((t2 * k : Nat) : Int) = y1 at *
      generalize ((u2 * k : Nat) : Int) = y2 at *
      unfold f_l_two_2 body b_l_two_2
      simp -implicitDefEqProofs [h, z, hk, ht2, hu2, p15, p12, mm2, d2, d0, m1, m2, at2b, LIM]
  · rcases z with z | z
    · have m1 := mulN t1 1 (by omega)
      have m2 := mulN u1 1 (by omega)
      rw [Nat.mul_one] at m1 m2
      refine ⟨t1, u1, ?_, by omega, by omega, by omega⟩
      have m1 : binD .Mult (.int (t1 : Int)) (.int 1) = .ok (.int (t1 : Int)) := m1
      have m2 : binD .Mult (.int (u1 : Int)) (.int 1) = .ok (.int (u1 : Int)) := m2
      unfold f_l_two_2 body b_l_two_2
      simp -implicitDefEqProofs [h, z, ht1, hu1, p15, p12, mm1, d1, d0, m1, m2, at2a, LIM]
    · have m1 := mulN t3 1 (by omega)
      have m2 := mulN u3 1 (by omega)
      rw [Nat.mul_one] at m1 m2
      refine ⟨t3, u3, ?_, by omega, by omega, by omega⟩
      have m1 : binD .Mult (.int (t3 : Int)) (.int 1) = .ok (.int (t3 : Int)) := m1
      have m2 : binD .Mult (.int (u3 : Int)) (.int 1) = .ok (.int (u3 : Int)) := m2
      unfold f_l_two_2 body b_l_two_2
      simp -implicitDefEqProofs [h, z, ht3, hu3, p15, p12, mm3, d3, d0, m1, m2, at2b, LIM]
theorem odd_ok (c : Int) : ∃ d, f_l_odd_2 [.int c] = .ok d ∧ f_p_is_number_from [d, .int 0] = .ok (.bl false) ∧ f_p_is_number_from [d, .int 1] = .ok (.bl false) := by
  have p12 := pow_i 10 12 (by decide)
  rw [show (10 : Int) ^ (12 : Int).toNat = 1000000000000 from by decide] at p12
  have hx : -1 - c / 8 % 1000000000000 ≤ -1 := by omega
  have z : c % 8 = 0 ∨ c % 8 = 1 ∨ c % 8 = 2 ∨ c % 8 = 3 ∨ c % 8 = 4 ∨ c % 8 = 5 ∨ c % 8 = 6 ∨ c % 8 = 7 := by omega
  have n : ∀ x : Int, x ≤ -1 → f_p_is_number_from [.int x, .int 0] = .ok (.bl false) ∧ f_p_is_number_from [.int x, .int 1] = .ok (.bl false) := fun x h => by
    have a := from_i x 0
    have b := from_i x 1
    rw [decide_eq_false (by omega)] at a b
    exact ⟨a, b⟩
  have key : ∃ d, atI [D.int (-1), .bl true, .bl false, .non, .str "1", .tup [.int 1], .lst [.int 1], .int (-1 - c / 8 % 1000000000000)] (c % 8) = some d ∧ f_p_is_number_from [d, .int 0] = .ok (.bl false) ∧ f_p_is_number_from [d, .int 1] = .ok (.bl false) := by
    rcases z with z | z | z | z | z | z | z | z
    · exact ⟨_, by rw [z] <;> rfl, n _ (by decide)⟩
    · exact ⟨.bl true, by rw [z] <;> rfl, from_bl _ _, from_bl _ _⟩
    · exact ⟨.bl false, by rw [z] <;> rfl, from_bl _ _, from_bl _ _⟩
    · exact ⟨.non, by rw [z] <;> rfl, from_o rfl _, from_o rfl _⟩
    · exact ⟨.str "1", by rw [z] <;> rfl, from_o rfl _, from_o rfl _⟩
    · exact ⟨.tup [.int 1], by rw [z] <;> rfl, from_o rfl _, from_o rfl _⟩
    · exact ⟨.lst [.int 1], by rw [z] <;> rfl, from_o rfl _, from_o rfl _⟩
    · exact ⟨_, by rw [z] <;> rfl, n _ hx⟩
  obtain ⟨d, e, h1, h2⟩ := key
  refine ⟨d, ?_, h1, h2⟩
  clear hx z n h1 h2
  unfold f_l_odd_2 body b_l_odd_2
  simp -implicitDefEqProofs [p12, e, LIM]
theorem told_turn (d0 d1 d2 d3 d4 d5 : D) (p q r s : Nat) (hp : p < 2 ^ 60) (hr : r < 2 ^ 60) : turnR (mask [some (.im d0), some (.im d1), some (.im d2), some (.im d3), some (.im d4), some (.im d5), none, none, none]) (forB T_law_k31 (.tup (.cons (.nm 6) (.cons (.nm 7) .nil))) b_law_k31_L1 (.tup [pqD p q, pqD r s]) [some (.im d0), some (.im d1), some (.im d2), some (.im d3), some (.im d4), some (.im d5), none, none, none]) = .ok [some (.im d0), some (.im d1), some (.im d2), some (.im d3), some (.im d4), some (.im d5), none, none, none] := by
  have rc := reaches_ok p q r s hp hr
  have m1 := mulN p s hp
  have m2 := mulN r q hr
  have ne : ∀ b : Bool, cmpD .NotEq (.bl b) (.bl b) = .ok false := fun b => by cases b <;> rfl
  generalize ((p * s : Nat) : Int) = z at *
  generalize ((r * q : Nat) : Int) = z' at *
  have ne := ne (decide (z' ≤ z))
  clear hp hr
  simp -implicitDefEqProofs [forB, b_law_k31_L1, rc, m1, m2, ne, at2a, at2b]
theorem law_turn (d0 x0 : D) (p q : Nat) (c : Int) (hp : p < 2 ^ 60) : ∃ p' q' : Nat, p' < 2 ^ 60 ∧ turnR (mask [some (.im d0), some (.im x0), none, none, none, none, none, none, none]) (forB T_law_k31 (.nm 2) b_law_k31_L2 (.int c) [some (.im d0), some (.im (pqD p q)), none, none, none, none, none, none, none]) = .ok [some (.im d0), some (.im (pqD p' q')), none, none, none, none, none, none, none] := by
  obtain ⟨a, b, tw, ha, hb, hb2⟩ := two_ok c
  have tw : f_l_two_2 [.int c] = .ok (.tup [.int (a : Int), .int (b : Int)]) := tw
  obtain ⟨d, od, o1, o2⟩ := odd_ok (c / 2)
  have sh : f_p_share_2 [.int (a : Int), .int (b : Int)] = .ok (pqD (a / Nat.gcd a b) (b / Nat.gcd a b)) := share_ok a b ha hb hb2
  have g0 : 0 < Nat.gcd a b := Nat.gcd_pos_of_pos_right a hb
  have ga := Nat.gcd_dvd_left a b
  have gb := Nat.gcd_dvd_right a b
  have is : f_l_is_share [pqD (a / Nat.gcd a b) (b / Nat.gcd a b), .int (a : Int), .int (b : Int)] = .ok (.bl true) := is_share_ok (a / Nat.gcd a b) (b / Nat.gcd a b) a b (by
    obtain ⟨x, hx⟩ := ga
    obtain ⟨y, hy⟩ := gb
    generalize Nat.gcd a b = g at *
    subst hx
    subst hy
    rw [Nat.mul_div_cancel_left _ g0, Nat.mul_div_cancel_left _ g0, Nat.mul_left_comm, Nat.mul_left_comm y, Nat.mul_comm x y]) (Nat.div_pos (Nat.le_of_dvd hb gb) g0) (Nat.gcd_div_gcd_div_gcd_of_pos_right hb) (Nat.lt_of_le_of_lt (Nat.div_le_self _ _) ha) (Nat.lt_of_le_of_lt (Nat.div_le_self _ _) hb2)
  have la : a / Nat.gcd a b < 2 ^ 60 := Nat.lt_of_le_of_lt (Nat.div_le_self _ _) ha
  have ne : cmpD .NotEq (pqD (a / Nat.gcd a b) (b / Nat.gcd a b)) (pqD (a / Nat.gcd a b) (b / Nat.gcd a b)) = .ok false := cmp_ne_self rfl (Nat.le_of_ble_eq_true (rfl : Nat.ble _ 64 = true))
  have fa := from_i a 0
  have fz := from_i 0 1
  rw [decide_eq_true (by omega)] at fa
  have r1 := refused_ok (share_no1 (y := .int (b : Int)) o1)
  have r2 := refused_ok (share_no2 fa o2)
  have r3 := refused_ok (share_no2 fa (show f_p_is_number_from [.int 0, .int 1] = .ok (.bl false) from fz))
  refine ⟨a / Nat.gcd a b, b / Nat.gcd a b, la, ?_⟩
  have t1 := told_turn d0 (pqD p q) (.int c) (pqD (a / Nat.gcd a b) (b / Nat.gcd a b)) (.int (a : Int)) (.int (b : Int)) (a / Nat.gcd a b) (b / Nat.gcd a b) p q la hp
  have t2 := told_turn d0 (pqD p q) (.int c) (pqD (a / Nat.gcd a b) (b / Nat.gcd a b)) (.int (a : Int)) (.int (b : Int)) p q (a / Nat.gcd a b) (b / Nat.gcd a b) hp la
  have t3 := told_turn d0 (pqD p q) (.int c) (pqD (a / Nat.gcd a b) (b / Nat.gcd a b)) (.int (a : Int)) (.int (b : Int)) (a / Nat.gcd a b) (b / Nat.gcd a b) (a / Nat.gcd a b) (b / Nat.gcd a b) la la
  have fl := (forL_step t1).trans ((forL_step t2).trans ((forL_step t3).trans (forL_nil _ _ _)))
  clear la ga gb g0 ha hb hb2 hp o1 o2 fa fz t1 t2 t3
  generalize pqD (a / Nat.gcd a b) (b / Nat.gcd a b) = F at *
  generalize pqD p q = L at *
  generalize D.int (a : Int) = A at *
  generalize D.int (b : Int) = B at *
  simp -implicitDefEqProofs [forB, b_law_k31_L2, tw, sh, is, fl, od, r1, r2, r3, ne, LIM]
theorem law_loop (d0 : D) : ∀ (cs : List Int) (p q : Nat), p < 2 ^ 60 → ∃ p' q' : Nat, forL (mask [some (.im d0), some (.im (pqD 1 2)), none, none, none, none, none, none, none]) (forB T_law_k31 (.nm 2) b_law_k31_L2) (cs.map D.int) [some (.im d0), some (.im (pqD p q)), none, none, none, none, none, none, none] = .ok (.nx [some (.im d0), some (.im (pqD p' q')), none, none, none, none, none, none, none])
  | [], p, q, _ => ⟨p, q, rfl⟩
  | c :: cs, p, q, hp => by
    obtain ⟨p2, q2, h2, e⟩ := law_turn d0 (pqD 1 2) p q c hp
    obtain ⟨p3, q3, e3⟩ := law_loop d0 cs p2 q2 h2
    refine ⟨p3, q3, ?_⟩
    exact (forL_step e).trans e3
theorem ints_take (ns : List Int) : cut (ns.map D.int ++ [.int 0]) none (some 63) = ((ns ++ [0]).take 63).map D.int := by
  have e := cut_take (ns.map D.int ++ [.int 0]) 63
  rw [show ((63 : Nat) : Int) = 63 from rfl] at e
  rw [e, List.map_take, List.map_append]
  rfl
theorem law_k31_true (ns : List Int) (h : ns.length ≤ 63) : f_law_k31 [.lst (ns.map D.int)] = .ok (.bl true) := by
  obtain ⟨p, q, e⟩ := law_loop (.lst (ns.map D.int)) ((ns ++ [0]).take 63) 1 2 (by decide)
  have ll : (ns.map D.int).length + 1 ≤ LIM := by
    rw [List.length_map]
    have : LIM = 16777216 := rfl
    omega
  have ct := catL (ns.map D.int) [.int 0] ll
  have tk := ints_take ns
  rw [← tk] at e
  clear tk ll h
  generalize ns.map D.int = l at *
  unfold f_law_k31 body b_law_k31
  have e : forL (mask [some (.im (.lst l)), some (.im (.tup [.int 1, .int 2])), none, none, none, none, none, none, none]) (forB T_law_k31 (.nm 2) b_law_k31_L2) (cut (l ++ [.int 0]) none (some 63)) [some (.im (.lst l)), some (.im (.tup [.int 1, .int 2])), none, none, none, none, none, none, none] = _ := e
  generalize pqD p q = L at *
  simp -implicitDefEqProofs [ct, e, LIM]
end Ir

namespace Lw_k31
open PySem PySem.Spec PyProof.Rows L2 Ir
def top (i : Nat) : Stmt := PySem.Challenge.pw_oftentogether_k31_shares.main.body.getD i (.Pass ⟨0, 0, 0, 0⟩)
def topM (i j : Nat) : Stmt := (C8.clsBody (top i)).getD j (.Pass ⟨0, 0, 0, 0⟩)
def d_is_number_from : He.DefD := ⟨("is_number_from", none), "is_number_from", "is_number_from", defArgs (top 10), defBody (top 10), defScope (top 10), [], []⟩
def d_greatest_divisor : He.DefD := ⟨("greatest_divisor", none), "greatest_divisor", "greatest_divisor", defArgs (top 11), defBody (top 11), defScope (top 11), [], []⟩
def d_share : He.DefD := ⟨("share", none), "share", "share", defArgs (top 12), defBody (top 12), defScope (top 12), [], []⟩
def d_reaches : He.DefD := ⟨("reaches", none), "reaches", "reaches", defArgs (top 13), defBody (top 13), defScope (top 13), [], []⟩
def d__law_number : He.DefD := ⟨("_law_number", none), "_law_number", "_law_number", defArgs (top 15), defBody (top 15), defScope (top 15), [], []⟩
def d__law_common : He.DefD := ⟨("_law_common", none), "_law_common", "_law_common", defArgs (top 16), defBody (top 16), defScope (top 16), [], []⟩
def d__law_is_share : He.DefD := ⟨("_law_is_share", none), "_law_is_share", "_law_is_share", defArgs (top 17), defBody (top 17), defScope (top 17), [], []⟩
def d__law_two : He.DefD := ⟨("_law_two", none), "_law_two", "_law_two", defArgs (top 18), defBody (top 18), defScope (top 18), [], []⟩
def d__law_refused : He.DefD := ⟨("_law_refused", none), "_law_refused", "_law_refused", defArgs (top 19), defBody (top 19), defScope (top 19), [], []⟩
def d__law_odd : He.DefD := ⟨("_law_odd", none), "_law_odd", "_law_odd", defArgs (top 20), defBody (top 20), defScope (top 20), [], []⟩
def d_law : He.DefD := ⟨("law", none), "law", "law", defArgs (top 21), defBody (top 21), defScope (top 21), [], []⟩
def fn : List He.DefD := [d_is_number_from, d_greatest_divisor, d_share, d_reaches, d__law_number, d__law_common, d__law_is_share, d__law_two, d__law_refused, d__law_odd, d_law]
def lams : List He.DefD := []
def mks : List Ir.Xf := [.rs "NoShare", .subE "NoShare" ["NoRun", "NoStore", "NoText", "NoTree", "NotThere", "TooGreat"] false, .subE "NoShare" ["OftenError"] true, .subE "NoShare" ["ValueError"] true, .exm "NoShare" "NoShare" true]
def fa : List He.Fa := [.glo "is_number_from", .glo "greatest_divisor", .glo "share", .glo "reaches", .glo "_law_number", .glo "_law_common", .glo "_law_is_share", .glo "_law_two", .glo "_law_refused", .glo "_law_odd", .glo "law", .free "len", .free "sum", .free "sorted", .free "tuple", .free "list", .free "dict", .free "min", .free "max", .free "any", .free "int", .free "abs", .free "str", .free "range", .free "bool", .free "isinstance", .free "zip", .free "enumerate", .free "reversed", .free "set", .glo "NoShare", .glo "NoRun", .glo "NoStore", .glo "NoText", .glo "NoTree", .glo "NotThere", .glo "TooGreat", .glo "OftenError", .free "ValueError"]
abbrev P : Program := PySem.Challenge.pw_oftentogether_k31_shares
def N_is_number_from : List Str := ["thing", "least"]
theorem sc_is_number_from : FnScope N_is_number_from ["thing", "least"] (d_is_number_from).scope := ⟨rfl, rfl, rfl, by decide +kernel, rfl, by decide +kernel, by decide +kernel⟩
def M_is_number_from : Nms := nm0
theorem form_is_number_from : isSs M_is_number_from N_is_number_from b_p_is_number_from (d_is_number_from).scope (d_is_number_from).body = true := by decide +kernel
theorem F_is_number_from {G : Gx} (h : Hd fa fn lams mks P G) : Facts G M_is_number_from T_p_is_number_from 0 := facts_nil (h.blt (by decide +kernel))
theorem q_is_number_from_2 {G : Gx} (h : Hd fa fn lams mks P G) : FnFact G 1 "is_number_from" 2 f_p_is_number_from := mk_fact (ps := ["thing", "least"]) h (d := d_is_number_from) (by simp [fn]) rfl (by simp [fa]) sc_is_number_from rfl rfl (fun _ _ _ _ _ _ us hl => match us, hl with | [_, _], _ => rfl) (lv := 0) (F_is_number_from h) form_is_number_from
def N_greatest_divisor : List Str := ["one", "other"]
theorem sc_greatest_divisor : FnScope N_greatest_divisor ["one", "other"] (d_greatest_divisor).scope := ⟨rfl, rfl, rfl, by decide +kernel, rfl, by decide +kernel, by decide +kernel⟩
def M_greatest_divisor : Nms := nm0
theorem form_greatest_divisor : isSs M_greatest_divisor N_greatest_divisor b_p_greatest_divisor (d_greatest_divisor).scope (d_greatest_divisor).body = true := by decide +kernel
theorem F_greatest_divisor {G : Gx} (h : Hd fa fn lams mks P G) : Facts G M_greatest_divisor T_p_greatest_divisor 0 := facts_nil (h.blt (by decide +kernel))
theorem q_greatest_divisor_2 {G : Gx} (h : Hd fa fn lams mks P G) : FnFact G 1 "greatest_divisor" 2 f_p_greatest_divisor := mk_fact (ps := ["one", "other"]) h (d := d_greatest_divisor) (by simp [fn]) rfl (by simp [fa]) sc_greatest_divisor rfl rfl (fun _ _ _ _ _ _ us hl => match us, hl with | [_, _], _ => rfl) (lv := 0) (F_greatest_divisor h) form_greatest_divisor
def N_share : List Str := ["top", "bottom", "divisor"]
theorem sc_share : FnScope N_share ["top", "bottom"] (d_share).scope := ⟨rfl, rfl, rfl, by decide +kernel, rfl, by decide +kernel, by decide +kernel⟩
def M_share : Nms := ((nm0).add 67 "is_number_from" [2]).add 68 "greatest_divisor" [2]
theorem form_share : isSs M_share N_share b_p_share_2 (d_share).scope (d_share).body = true := by decide +kernel
theorem F_share {G : Gx} (h : Hd fa fn lams mks P G) : Facts G M_share T_p_share_2 1 := (((facts_nil (h.blt (by decide +kernel))).addRs (h.rsF (c := "NoShare") (by simp [fa]) (by simp [mks]))).add (ns := [2]) (List.forall_mem_cons.mpr ⟨((q_is_number_from_2 h).mono (by decide)), fun _ h => nomatch h⟩)).add (ns := [2]) (List.forall_mem_cons.mpr ⟨((q_greatest_divisor_2 h).mono (by decide)), fun _ h => nomatch h⟩)
theorem q_share_2 {G : Gx} (h : Hd fa fn lams mks P G) : FnFact G 2 "share" 2 f_p_share_2 := mk_fact (ps := ["top", "bottom"]) h (d := d_share) (by simp [fn]) rfl (by simp [fa]) sc_share rfl rfl (fun _ _ _ _ _ _ us hl => match us, hl with | [_, _], _ => rfl) (lv := 1) (F_share h) form_share
def N_reaches : List Str := ["one", "other"]
theorem sc_reaches : FnScope N_reaches ["one", "other"] (d_reaches).scope := ⟨rfl, rfl, rfl, by decide +kernel, rfl, by decide +kernel, by decide +kernel⟩
def M_reaches : Nms := nm0
theorem form_reaches : isSs M_reaches N_reaches b_p_reaches (d_reaches).scope (d_reaches).body = true := by decide +kernel
theorem F_reaches {G : Gx} (h : Hd fa fn lams mks P G) : Facts G M_reaches T_p_reaches 0 := facts_nil (h.blt (by decide +kernel))
theorem q_reaches_2 {G : Gx} (h : Hd fa fn lams mks P G) : FnFact G 1 "reaches" 2 f_p_reaches := mk_fact (ps := ["one", "other"]) h (d := d_reaches) (by simp [fn]) rfl (by simp [fa]) sc_reaches rfl rfl (fun _ _ _ _ _ _ us hl => match us, hl with | [_, _], _ => rfl) (lv := 0) (F_reaches h) form_reaches
def N__law_number : List Str := ["_law_found"]
theorem sc__law_number : FnScope N__law_number ["_law_found"] (d__law_number).scope := ⟨rfl, rfl, rfl, by decide +kernel, rfl, by decide +kernel, by decide +kernel⟩
def M__law_number : Nms := nm0
theorem form__law_number : isSs M__law_number N__law_number b_l_number_2 (d__law_number).scope (d__law_number).body = true := by decide +kernel
theorem F__law_number {G : Gx} (h : Hd fa fn lams mks P G) : Facts G M__law_number T_l_number_2 0 := facts_nil (h.blt (by decide +kernel))
theorem q__law_number_1 {G : Gx} (h : Hd fa fn lams mks P G) : FnFact G 1 "_law_number" 1 f_l_number_2 := mk_fact (ps := ["_law_found"]) h (d := d__law_number) (by simp [fn]) rfl (by simp [fa]) sc__law_number rfl rfl (fun _ _ _ _ _ _ us hl => match us, hl with | [_], _ => rfl) (lv := 0) (F__law_number h) form__law_number
def N__law_common : List Str := ["_law_one", "_law_other"]
theorem sc__law_common : FnScope N__law_common ["_law_one", "_law_other"] (d__law_common).scope := ⟨rfl, rfl, rfl, by decide +kernel, rfl, by decide +kernel, by decide +kernel⟩
def M__law_common : Nms := nm0
theorem form__law_common : isSs M__law_common N__law_common b_l_common (d__law_common).scope (d__law_common).body = true := by decide +kernel
theorem F__law_common {G : Gx} (h : Hd fa fn lams mks P G) : Facts G M__law_common T_l_common 0 := facts_nil (h.blt (by decide +kernel))
theorem q__law_common_2 {G : Gx} (h : Hd fa fn lams mks P G) : FnFact G 1 "_law_common" 2 f_l_common := mk_fact (ps := ["_law_one", "_law_other"]) h (d := d__law_common) (by simp [fn]) rfl (by simp [fa]) sc__law_common rfl rfl (fun _ _ _ _ _ _ us hl => match us, hl with | [_, _], _ => rfl) (lv := 0) (F__law_common h) form__law_common
def N__law_is_share : List Str := ["_law_found", "_law_top", "_law_bottom"]
theorem sc__law_is_share : FnScope N__law_is_share ["_law_found", "_law_top", "_law_bottom"] (d__law_is_share).scope := ⟨rfl, rfl, rfl, by decide +kernel, rfl, by decide +kernel, by decide +kernel⟩
def M__law_is_share : Nms := ((nm0).add 71 "_law_number" [1]).add 72 "_law_common" [2]
theorem form__law_is_share : isSs M__law_is_share N__law_is_share b_l_is_share (d__law_is_share).scope (d__law_is_share).body = true := by decide +kernel
theorem F__law_is_share {G : Gx} (h : Hd fa fn lams mks P G) : Facts G M__law_is_share T_l_is_share 1 := ((facts_nil (h.blt (by decide +kernel))).add (ns := [1]) (List.forall_mem_cons.mpr ⟨((q__law_number_1 h).mono (by decide)), fun _ h => nomatch h⟩)).add (ns := [2]) (List.forall_mem_cons.mpr ⟨((q__law_common_2 h).mono (by decide)), fun _ h => nomatch h⟩)
theorem q__law_is_share_3 {G : Gx} (h : Hd fa fn lams mks P G) : FnFact G 2 "_law_is_share" 3 f_l_is_share := mk_fact (ps := ["_law_found", "_law_top", "_law_bottom"]) h (d := d__law_is_share) (by simp [fn]) rfl (by simp [fa]) sc__law_is_share rfl rfl (fun _ _ _ _ _ _ us hl => match us, hl with | [_, _, _], _ => rfl) (lv := 1) (F__law_is_share h) form__law_is_share
def N__law_two : List Str := ["_law_cell", "_law_great", "_law_times", "_law_top"]
theorem sc__law_two : FnScope N__law_two ["_law_cell"] (d__law_two).scope := ⟨rfl, rfl, rfl, by decide +kernel, rfl, by decide +kernel, by decide +kernel⟩
def M__law_two : Nms := nm0
theorem form__law_two : isSs M__law_two N__law_two b_l_two_2 (d__law_two).scope (d__law_two).body = true := by decide +kernel
theorem F__law_two {G : Gx} (h : Hd fa fn lams mks P G) : Facts G M__law_two T_l_two_2 0 := facts_nil (h.blt (by decide +kernel))
theorem q__law_two_1 {G : Gx} (h : Hd fa fn lams mks P G) : FnFact G 1 "_law_two" 1 f_l_two_2 := mk_fact (ps := ["_law_cell"]) h (d := d__law_two) (by simp [fn]) rfl (by simp [fa]) sc__law_two rfl rfl (fun _ _ _ _ _ _ us hl => match us, hl with | [_], _ => rfl) (lv := 0) (F__law_two h) form__law_two
def N__law_refused : List Str := ["_law_top", "_law_bottom", "_law_seen", "_law_others", "e"]
theorem sc__law_refused : FnScope N__law_refused ["_law_top", "_law_bottom"] (d__law_refused).scope := ⟨rfl, rfl, rfl, by decide +kernel, rfl, by decide +kernel, by decide +kernel⟩
def M__law_refused : Nms := (nm0).add 269 "share" [2]
theorem form__law_refused : isSs M__law_refused N__law_refused b_l_refused (d__law_refused).scope (d__law_refused).body = true := by decide +kernel
theorem F__law_refused {G : Gx} (h : Hd fa fn lams mks P G) : Facts G M__law_refused T_l_refused 2 := (((((facts_nil (h.blt (by decide +kernel))).addSubE (h.subEF (c := "NoShare") (cs := ["NoRun", "NoStore", "NoText", "NoTree", "NotThere", "TooGreat"]) (b := false) (by simp [fa]) (by decide +kernel) (by simp [mks]))).addSubE (h.subEF (c := "NoShare") (cs := ["OftenError"]) (b := true) (by simp [fa]) (by decide +kernel) (by simp [mks]))).addSubE (h.subEF (c := "NoShare") (cs := ["ValueError"]) (b := true) (by simp [fa]) (by decide +kernel) (by simp [mks]))).addExm (h.exmF (c := "NoShare") (d := "NoShare") (b := true) (by simp [fa]) (by simp [fa]) (by simp [mks]))).add (ns := [2]) (List.forall_mem_cons.mpr ⟨((q_share_2 h).mono (by decide)), fun _ h => nomatch h⟩)
theorem q__law_refused_2 {G : Gx} (h : Hd fa fn lams mks P G) : FnFact G 3 "_law_refused" 2 f_l_refused := mk_fact (ps := ["_law_top", "_law_bottom"]) h (d := d__law_refused) (by simp [fn]) rfl (by simp [fa]) sc__law_refused rfl rfl (fun _ _ _ _ _ _ us hl => match us, hl with | [_, _], _ => rfl) (lv := 2) (F__law_refused h) form__law_refused
def N__law_odd : List Str := ["_law_cell"]
theorem sc__law_odd : FnScope N__law_odd ["_law_cell"] (d__law_odd).scope := ⟨rfl, rfl, rfl, by decide +kernel, rfl, by decide +kernel, by decide +kernel⟩
def M__law_odd : Nms := nm0
theorem form__law_odd : isSs M__law_odd N__law_odd b_l_odd_2 (d__law_odd).scope (d__law_odd).body = true := by decide +kernel
theorem F__law_odd {G : Gx} (h : Hd fa fn lams mks P G) : Facts G M__law_odd T_l_odd_2 0 := facts_nil (h.blt (by decide +kernel))
theorem q__law_odd_1 {G : Gx} (h : Hd fa fn lams mks P G) : FnFact G 1 "_law_odd" 1 f_l_odd_2 := mk_fact (ps := ["_law_cell"]) h (d := d__law_odd) (by simp [fn]) rfl (by simp [fa]) sc__law_odd rfl rfl (fun _ _ _ _ _ _ us hl => match us, hl with | [_], _ => rfl) (lv := 0) (F__law_odd h) form__law_odd
def N_law : List Str := ["_law_script", "_law_last", "_law_cell", "_law_found", "_law_top", "_law_bottom", "_law_one", "_law_other", "_law_told"]
theorem sc_law : FnScope N_law ["_law_script"] (d_law).scope := ⟨rfl, rfl, rfl, by decide +kernel, rfl, by decide +kernel, by decide +kernel⟩
def M_law : Nms := ((((((nm0).add 74 "_law_two" [1]).add 269 "share" [2]).add 73 "_law_is_share" [3]).add 70 "reaches" [2]).add 270 "_law_refused" [2]).add 75 "_law_odd" [1]
theorem form_law : isSs M_law N_law b_law_k31 (d_law).scope (d_law).body = true := by decide +kernel
theorem F_law {G : Gx} (h : Hd fa fn lams mks P G) : Facts G M_law T_law_k31 3 := ((((((facts_nil (h.blt (by decide +kernel))).add (ns := [1]) (List.forall_mem_cons.mpr ⟨((q__law_two_1 h).mono (by decide)), fun _ h => nomatch h⟩)).add (ns := [2]) (List.forall_mem_cons.mpr ⟨((q_share_2 h).mono (by decide)), fun _ h => nomatch h⟩)).add (ns := [3]) (List.forall_mem_cons.mpr ⟨((q__law_is_share_3 h).mono (by decide)), fun _ h => nomatch h⟩)).add (ns := [2]) (List.forall_mem_cons.mpr ⟨((q_reaches_2 h).mono (by decide)), fun _ h => nomatch h⟩)).add (ns := [2]) (List.forall_mem_cons.mpr ⟨((q__law_refused_2 h).mono (by decide)), fun _ h => nomatch h⟩)).add (ns := [1]) (List.forall_mem_cons.mpr ⟨((q__law_odd_1 h).mono (by decide)), fun _ h => nomatch h⟩)
def loose : List Str := ["OftenError", "NoShare", "NoStore", "NoRun", "NoTree", "NoText", "NotThere", "TooGreat", "is_number_from", "greatest_divisor", "share", "reaches", "_law_number", "_law_common", "_law_is_share", "_law_two", "_law_refused", "_law_odd"]
abbrev R : PySem.W.OpenRow := PySem.W.OpenLaw.row PySem.Challenge.rw_oftentogether_k31_shares
abbrev hk : PySem.W.Hook := hookI 5 fa fn lams mks
def ob (s : PySem.W.SharedT) : He.AlX := obsI 5 fa fn lams mks (HandSHeadRun.getT s)
theorem ob_eq (s : PySem.W.SharedT) : ob s = hk.obs s.abs := obsI_eq (HandSHeadRun.getT_eq s)
theorem run (w : World) : HandSHeadRun.RunEq R (PySem.W.view R.prog [21]) hk ob 4000 (["OftenError", "NoShare", "NoStore", "NoRun", "NoTree", "NoText", "NotThere", "TooGreat", "is_number_from", "greatest_divisor", "share", "reaches", "_law_number", "_law_common", "_law_is_share", "_law_two", "_law_refused", "_law_odd"]) w := by
  intro os
  kernel_rfl
end Lw_k31
open PySem PySem.W PySem.Calls PyProof.Rows
theorem PySem.Challenge.cw_oftentogether_k31_shares_holds : PySem.Challenge.rw_oftentogether_k31_shares.Holds := by
  w_on; o_law
  refine HandSHeadRun.head_any (r := OpenLaw.row PySem.Challenge.rw_oftentogether_k31_shares) (q := view (OpenLaw.row PySem.Challenge.rw_oftentogether_k31_shares).prog [21]) (H := Lw_k31.hk) (ob := Lw_k31.ob) (M := 4000) (loose := ["OftenError", "NoShare", "NoStore", "NoRun", "NoTree", "NoText", "NotThere", "TooGreat", "is_number_from", "greatest_divisor", "share", "reaches", "_law_number", "_law_common", "_law_is_share", "_law_two", "_law_refused", "_law_odd"]) (d := HandSHeadRun.topDef (OpenLaw.row PySem.Challenge.rw_oftentogether_k31_shares).prog 21) (kwd := []) Lw_k31.ob_eq
    (by kernel_rfl) (fun s => by kernel_rfl) Lw_k31.run (by kernel_rfl) (by kernel_rfl) (by kernel_rfl) (by rfl) (by first | assumption | decide +kernel) (by decide +kernel) ⟨rfl, rfl, rfl, rfl, rfl, by decide +kernel⟩ ?hw ?hc
  case hw => w_witness2
  case hc =>
    refine LamX.walk_ofTsE (l := PySem.Challenge.rw_oftentogether_k31_shares) (n := 63) (k := 4) (x := "_law_script") (CX := fun w => L2.CX PySem.Challenge.rw_oftentogether_k31_shares.prog w) rfl (by decide) (by kernel_rfl) ⟨rfl, by decide, by decide⟩ ?main (fun w H s e s' z => Ir.cx_false H s e s' z)
    case main =>
      intro w mg fa h Y G hmg0
      have hmg : mg ("law" : PySem.Str) = some (.ref fa) := by
        have e : (HandSHeadRun.topDef (OpenLaw.row PySem.Challenge.rw_oftentogether_k31_shares).prog 21).name = ("law" : PySem.Str) := by kernel_rfl
        rw [← e]
        exact hmg0
      exact Ir.law_end (l := PySem.Challenge.rw_oftentogether_k31_shares) (d := Lw_k31.d_law) G Y hmg (by simp [Lw_k31.fa]) (by simp [Lw_k31.fn]) rfl Lw_k31.sc_law rfl (fun _ _ _ _ _ _ us hl => match us, hl with | [_], _ => rfl) (fun G h => Lw_k31.F_law h) Lw_k31.form_law (fun ns hl => Ir.law_k31_true ns hl) (lv := 3)

