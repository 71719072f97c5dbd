import PyProof.Rows.All
import Wide.All
import OpenK.AllK
import Wide.FinOn
import HandS.ForMost
import HandS.ForExc
import HandS.ExcOwn
import HandS.ExcIs
import HandS.TryMany
import HandS.TupAny
import HandS.TupMul
import HandS.Deep
import HandS.Wide
import HandS.IsInst
import HandS.Style
import HandS.SortInts
import HandS.Sort
import HandS.SortRule
import HandS.TupLe
import HandS.CallSlots
import HandS.ExcInit
import HandS.Zip
import HandS.TupLen
import HandS.Strs
import HandS.TupSets
import HandS.Conv
import HandS.Iter
import HandS.Flow
import HandS.Star
import HandS.Defaults
import HandS.Comp
import KE.GoesEnum
import HandS.Small
import KE.KStateDown
import HandS.Head0
import HandS.Head1
import HandS.Head2
import HandS.HeadEnd
import HandS.HeadHook1
import HandS.HeadHook2
import PySem.Challenge.RW_regroups_k22_fewest_and_most_steps
set_option Elab.async false
set_option linter.all false
set_option maxRecDepth 100000
set_option maxHeartbeats 0
/-! EVa: several except clauses with names; an own exception made with nothing. -/
namespace EV
open PySem PySem.Spec PyProof.Rows L2
/-- a clause: its class, its name's slot, its suite's reading -/
abbrev HdA := Value × Nat × (Addr → Value → Option Addr → TS)
def wManyA (K : PySem.W.Frag) (Wout : WX) (D : Ends) : List HdA → WX
  | [] => Wout
  | (c, i, ts) :: r => fun cls d σ H => ∃ b, PySem.W.exmOne K cls c = some b ∧
    (b = true → ∀ a, H a = none → ts a cls d { nx := fun σ' H' => D.nx (σ'.set i none) H', rt := D.rt, bk := fun σ' H' => D.bk (σ'.set i none) H', ct := fun σ' H' => D.ct (σ'.set i none) H' } (σ.set i (some (.ref a))) H) ∧
    (b = false → wManyA K Wout D r cls d σ H)
inductive HdsAs (X : Cx) : List ExceptHandler → List HdA → Prop
  | nil : HdsAs X [] []
  | cons {x n : Str} {c : Value} {i : Nat} {ts : Addr → Value → Option Addr → TS} {b₀ : Stmt} {suite : List Stmt} {np pos' : Pos} {hds : List ExceptHandler} {l : List HdA} (hi : X.N[i]? = some n) (hln : X.env.kindOf n = some .local) (hc : Names X x c)
      (hsu : ∀ (a : Addr) (oe : Obj) (cls : Value) (d : Option Addr) (pn : List (Addr × Obj)), Zc cls d oe → (∃ vs, oe.data = .fields vs) → PSs (X.suite a ((a, oe) :: pn)) (b₀ :: suite) (ts a cls d)) (r : HdsAs X hds l) :
      HdsAs X (.ExceptHandler (some (.Name x np)) (some n) (b₀ :: suite) pos' :: hds) ((c, i, ts) :: l)
section
variable {X : Cx} {body : List Stmt} {h₀ : ExceptHandler} {hds : List ExceptHandler} {l : List HdA} {pos : Pos} {tb : WX → TS} {Wout : WX}
theorem ps_try_asN (hs : X.stack = X.env :: X.outer) (hf : X.env.frame = some X.env.locals) (hN : X.N.Nodup) (tk : Takes X Wout)
    (hb : ∀ (W : WX) (pn : List (Addr × Obj)) (xe : Value → Shared → Prop), Takes (X.tr pn xe) W → PassesOwn (model X.prog X.w) X.A X.env xe → PSs (X.tr pn xe) body (tb W))
    (hh : HdsAs X (h₀ :: hds) l) : PS X (.Try body (h₀ :: hds) [] [] pos) (fun D σ H => tb (wManyA X.K Wout D l) D σ H) := by
  refine ⟨fun pins s σ H D I h => ?_⟩
  have ok := I.ok
  have hfr : X.A.frames = some (X.env :: X.outer) := by rw [ok.frames, hs]
  refine wpAny_Try_except ?_
  refine wpAny_mono ((hb (wManyA X.K Wout D l) (X.pn ++ pins) (fun e s₁ => wpAny (model X.prog X.w) X.A (noteFrame e X.env) (fun _ s₂ => wpAny (model X.prog X.w) X.A (setFlight e none) (fun _ s₃ =>
    wpAny (model X.prog X.w) X.A (handleBy e X.env (h₀ :: hds)) (SP X pins D) X.xe s₃) X.xe s₂) X.xe s₁) (fun u s' xx => ?_) PassesOwn.looking).run [] s σ H D (I.toTry _) h) (fun f s1 hsp => ?_) (fun e s1 he => he)
  · -- the catch
    obtain ⟨a, B, sI, pins', σ', H', cls, d, rfl, J', nb, up, sky, na, os, ag, w⟩ := xx
    have J : Inv X pins σ' H' sI := J'.ofTry ok
    have sky' : Sky B (X.env :: X.outer) a (Zc cls d) X.env.locals s'.heap := by rw [← hs]; exact sky
    show wpAny (model X.prog X.w) X.A (noteFrame (.ref a) X.env) _ _ _
    refine Sky.land Zc.steady hfr hf sky' fun h3 fl3 up3 => ?_
    have J3 : Inv X pins σ' H' { s' with heap := h3 } := J.landed nb fl3.1 (up.trans up3) os ag
    obtain ⟨oe3, vs3, he3, hz3, hd3⟩ := fl3.there
    have notFr : ∀ {h : Heap} {o : Obj} {vs : Array Value}, h.FunFrames B (X.env :: X.outer) → h.get? a = some o → o.data = .fields vs → a ∉ frs (X.env :: X.outer) := fun {h o vs} ff e dd hm => by
      obtain ⟨_, o', e', hnf⟩ := ff.mem hm
      rw [e] at e'; cases e'
      exact hnf _ dd
    have nfr := notFr fl3.2.2.1 he3 hd3
    have nL : a ≠ X.env.locals := fun z => nfr (List.mem_filterMap.mpr ⟨X.env, List.mem_cons_self, by rw [hf, z]⟩)
    have nF : a ∉ X.fs := fun hm => by
      obtain ⟨e, he, q⟩ := List.mem_filterMap.mp hm
      exact nfr (List.mem_filterMap.mpr ⟨e, List.mem_cons_of_mem _ he, q⟩)
    have S3 := J3.suite he3 hd3 na nL nF
    have go : ∀ {hds' : List ExceptHandler} {l' : List HdA}, HdsAs X hds' l' → wManyA X.K Wout D l' cls d σ' H' →
        wpAny (model X.prog X.w) X.A (handleBy (.ref a) X.env hds') (SP X pins D) X.xe { s' with heap := h3 } := by
      intro hds' l' hk
      induction hk with
      | nil =>
        intro w
        refine wpAny_handleBy_nil ?_
        obtain ⟨k1, k2, k3, oe, vs, T, oT, ts', he, hz, hd, h1, hr⟩ := id fl3
        unfold PySem.passOn
        refine wpAny_bind (wpAny_field he hd h1 ?_)
        rw [if_neg (show ¬ ((Value.ref T == Value.none) = true) from by simp)]
        have fin : wpAny (model X.prog X.w) X.A (setFlight (.ref a) X.env.frame) (fun _ s4 => wpAny (model X.prog X.w) X.A (throw (.ref a) : Sem Flow) (SP X pins D) X.xe s4) X.xe { s' with heap := h3 } := by
          rw [hf]
          refine HandSPX.setFlight_upZ fl3 fun h4 hh4 up4 => wpAny_throw (tk _ _ ?_)
          exact ⟨a, B, sI, pins, σ', H', cls, d, rfl, J, nb, (up.trans up3).trans up4, .inr (.inr (by rw [hs]; exact hh4)), na, os, ag, w⟩
        first
          | exact wpAny_bind (wpAny_pure (wpAny_bind fin))
          | exact wpAny_bind fin
      | @cons x n c i ts b₀ suite np pos' hds2 l2 hi hln hc hsu r ih =>
        intro w
        obtain ⟨b, hb1, hyes, hno⟩ := w
        have hloc : Loc X.env.scope n := .inl hln
        refine wpAny_handleBy_cons (codeAny_handlers_test ?_) (by intro q; cases q)
        have LT : PySem.W.Looks (model X.prog X.w) h3 (typeOf (.ref a)) cls := fun A Q E s k q => wpAny_typeOf_ref (k _ _ he3) (by rw [hz3.1]; exact q)
        have LM := PySem.W.exm_one (M := model X.prog X.w) (J3.kIn) LT hb1
        have test : ∀ {Q : Value → Shared → Prop} {E : Value → Shared → Prop}, Q c { s' with heap := h3 } → wpAny (model X.prog X.w) (X.A.mark (some (.ref a))) (eval (.Name x np) X.env) Q E { s' with heap := h3 } := fun {Q E} q => by
          obtain ⟨hg, hdbg, hm | ⟨hm, hv, hnn⟩⟩ := hc
          · exact ld_glob (X := X.suite a ((a, oe3) :: (X.pn ++ pins))) S3 hg hm q hdbg
          · exact ld_blt (X := X.suite a ((a, oe3) :: (X.pn ++ pins))) S3 hg hm hv q hnn hdbg
        refine test (LM.here ?_)
        cases b with
        | true =>
          refine codeAny_handlers_suite_as ?_
          refine HandSPX.lands_againZ fl3 fun h4 fl4 up4 => ?_
          have J4 : Inv X pins σ' H' { s' with heap := h4 } := J.landed nb fl4.1 ((up.trans up3).trans up4) os ag
          obtain ⟨oe4, vs4, he4, hz4, hd4⟩ := fl4.there
          have S4 := J4.suite he4 hd4 na nL nF
          refine store_ok (X := X.suite a ((a, oe4) :: (X.pn ++ pins))) (v := .ref a) S4 hN hi hloc rfl (fun s5 S5 => ?_) (.inr hln)
          refine wpAny_mono ((hsu a oe4 cls d (X.pn ++ pins) hz4 ⟨_, hd4⟩).run [] s5 _ H' _ S5 (hyes rfl a na)) (fun f s6 hsp => ?_) (fun _ _ z => False.elim z)
          have end_ : ∀ {σ6 : L2.St} {H6 : Hp} {Q : Shared → Prop}, Inv (X.suite a ((a, oe4) :: (X.pn ++ pins))) [] σ6 H6 s6 → (∀ s7, Inv X pins (σ6.set i none) H6 s7 → Q s7) →
              wpAny (model X.prog X.w) X.A (do bindName X.env n .none; unbindBehindTheSuite X.env n pos') (fun _ s7 => Q s7) X.xe s6 := fun {σ6 H6 Q} S6 hq => gone_ok (S6.unsuite ok) hN hi hln hq
          cases f with
          | next =>
            obtain ⟨σ6, H6, S6, q6⟩ := hsp
            exact end_ S6 fun s7 J7 => ⟨_, _, J7, q6⟩
          | brk =>
            obtain ⟨σ6, H6, S6, q6⟩ := hsp
            exact end_ S6 fun s7 J7 => ⟨_, _, J7, q6⟩
          | cont =>
            obtain ⟨σ6, H6, S6, q6⟩ := hsp
            exact end_ S6 fun s7 J7 => ⟨_, _, J7, q6⟩
          | ret u =>
            obtain ⟨v6, σ6, H6, S6, r6, q6⟩ := hsp
            exact end_ S6 fun s7 J7 => ⟨_, _, _, J7, r6, q6⟩
        | false =>
          show wpAny _ X.A (handleBy (.ref a) X.env hds2) _ _ _
          exact ih (hno rfl)
    exact go hh w
  · cases f with
    | next =>
      obtain ⟨σ', H', J', q⟩ := hsp
      exact wpAny_execs_nil ⟨σ', H', J'.ofTry ok, q⟩
    | brk =>
      obtain ⟨σ', H', J', q⟩ := hsp
      exact ⟨σ', H', J'.ofTry ok, q⟩
    | cont =>
      obtain ⟨σ', H', J', q⟩ := hsp
      exact ⟨σ', H', J'.ofTry ok, q⟩
    | ret u =>
      obtain ⟨v, σ', H', J', r, q⟩ := hsp
      exact ⟨v, σ', H', J'.ofTry ok, r, q⟩
/-- X() -/
theorem pmk_own0 {C : Addr} {bmB : List Value} {B newId initId : String} {x : Str} {p pos : Pos} (F : ExcBaseFacts B newId initId bmB) (q : PySem.W.excIn X.K C bmB newId = true) (gC : X.mg x = some (.ref C)) (kC : PySem.W.keepIn X.K (.ref C) = true) (r : Raises X (.ref C)) (hg : Gl X x)
    (hdb : (x == ("__debug__" : Str)) = false := by decide) : PMk X (.Call (.Name x p) [] [] pos) (fun _ H Q => Q (.ref C) none H) := by
  intro pins s σ H Q I h
  refine wpAny_Call_Name_kw (ld_glob I hg gC ?_ hdb)
  refine PySem.W.callWith_K0 I.kIn kC ?_
  show wpAny _ _ (call (.ref C) []) _ _ _
  obtain ⟨bm, N, nm, qn, bs, hdct, sn, sub, ab, col, dd, k0, k1, k2, k3, k5, mN, hC, hN, hni, T⟩ := exc_obj I.kIn q
  refine wpAny_call_exc_subT F T hC hN hni (fun h' e hm => ?_) (by show 0 ≤ sizeLine; omega)
  exact mk_of I hm r h (I.hok.gone hm.new)
end
end EV
/-! EV1: my own evaluator of a part of Python over plain data: the data, the little language, its meaning. -/
namespace EV
open PySem L2
/-- plain data; loc n: the n-th cell of the store (a list, a dict, an instance that may change) -/
inductive D where
  | non | bl (b : Bool) | int (i : Int) | str (s : Str)
  | tup (xs : List D) | lst (xs : List D)
  /-- a list that is only read -/
  | fzn (xs : List D)
  | loc (n : Nat)
  | dK (kvs : List (Key × D)) | dT (kvs : List (List Key × D))
  | exc (c : Nat) (vs : List D)
  | ins (c : Nat) (fs : List (Str × D))
  deriving Inhabited
abbrev Env := List (Option D)
abbrev Store := List D
/-- a result: a value, an exception, or no word -/
inductive R (α : Type) where
  | ok (a : α) (S : Store) | er (e : D) (S : Store) | fl
/-- a statement's end -/
inductive RS where
  | nx (ρ : Env) (S : Store) | rt (d : D) (ρ : Env) (S : Store) | bk (ρ : Env) (S : Store) | ct (ρ : Env) (S : Store) | er (e : D) (ρ : Env) (S : Store) | fl
def R.bind {α β : Type} : R α → (α → Store → R β) → R β
  | .ok a S, f => f a S
  | .er e S, _ => .er e S
  | .fl, _ => .fl
/-- a pure step -/
def R.of {α : Type} : Option α → Store → R α
  | some a, S => .ok a S
  | none, _ => .fl
/-! ### looking -/
mutual
def D.free : D → Bool
  | .tup xs => frees xs
  | .lst xs => frees xs
  | .fzn xs => frees xs
  | .loc _ => false
  | .dK kvs => freesK kvs
  | .dT kvs => freesT kvs
  | .exc _ vs => frees vs
  | .ins _ fs => freesF fs
  | _ => true
def frees : List D → Bool
  | [] => true
  | x :: xs => x.free && frees xs
def freesK : List (Key × D) → Bool
  | [] => true
  | (_, x) :: xs => x.free && freesK xs
def freesT : List (List Key × D) → Bool
  | [] => true
  | (_, x) :: xs => x.free && freesT xs
def freesF : List (Str × D) → Bool
  | [] => true
  | (_, x) :: xs => x.free && freesF xs
end
/-- a cell's content -/
def dr (S : Store) : D → D
  | .loc n => S.getD n .non
  | d => d
mutual
def D.py : D → Option PyData
  | .non => some .none
  | .bl b => some (.bool b)
  | .int i => some (.int i)
  | .str s => some (.str s)
  | .tup xs => (pys xs).map .tuple
  | .lst xs => (pys xs).map .list
  | _ => none
def pys : List D → Option (List PyData)
  | [] => some []
  | x :: xs => match x.py, pys xs with
    | some y, some ys => some (y :: ys)
    | _, _ => none
end
def lim : Nat := 16777216
/-- a value's truth -/
def tru (S : Store) (d : D) : Option Bool := match dr S d with
  | .non => some false
  | .bl b => some b
  | .int i => some (i != 0)
  | .str s => if s.length ≤ lim then some (s.length != 0) else none
  | .tup xs => some (!xs.isEmpty)
  | .lst xs => some (!xs.isEmpty)
  | .fzn xs => some (!xs.isEmpty)
  | _ => none
def intsD : List D → Option (List Int)
  | [] => some []
  | .int i :: r => (intsD r).map (i :: ·)
  | _ => none
def boolsD : List D → Option (List Bool)
  | [] => some []
  | .bl i :: r => (boolsD r).map (i :: ·)
  | _ => none
def strsD : List D → Option (List Str)
  | [] => some []
  | .str i :: r => (strsD r).map (i :: ·)
  | _ => none
/-! ### operators -/
inductive BO where | add | sub | mul | mod | fdiv | pow
  deriving DecidableEq
inductive UO where | neg | not
  deriving DecidableEq
inductive CO where | eq | ne | lt | le | gt | ge | is | isn | mem | nmem
  deriving DecidableEq
def smallI (i : Int) : Bool := decide (-(2 ^ 64) < i) && decide (i < 2 ^ 64)
def mulOk (i j : Int) : Bool := smallI i || smallI j || decide (i.natAbs.log2 + j.natAbs.log2 < 1000000)
def bop (o : BO) (S : Store) (a b : D) : Option D := match o, dr S a, dr S b with
  | .add, .int i, .int j => some (.int (i + j))
  | .add, .str x, .str y => if x.length + y.length ≤ lim then some (.str (x ++ y)) else none
  | .add, .lst xs, .lst ys => if xs.length + ys.length ≤ lim then some (.lst (xs ++ ys)) else none
  | .add, .tup xs, .tup ys => if xs.length + ys.length ≤ lim then some (.tup (xs ++ ys)) else none
  | .sub, .int i, .int j => some (.int (i - j))
  | .mul, .int i, .int j => if mulOk i j then some (.int (i * j)) else none
  | .mul, .lst xs, .int k => if 0 ≤ k ∧ k < 2 ^ 62 ∧ xs.length * k.toNat ≤ lim then some (.lst (List.replicate k.toNat xs).flatten) else none
  | .mul, .tup xs, .int k => if xs ≠ [] ∧ 2 ≤ k ∧ k ≤ 1000 ∧ xs.length ≤ 1000 then some (.tup (List.replicate k.toNat xs).flatten) else none
  | .mod, .int i, .int j => if 0 < j then some (.int (i % j)) else none
  | .fdiv, .int i, .int j => if 0 < j ∧ j.natAbs.log2 < 9000 then some (.int (i / j)) else none
  | .pow, .int i, .int j => if 0 ≤ j ∧ j ≤ 1000000 ∧ i.natAbs < 2 ^ 64 then some (.int (i ^ j.toNat)) else none
  | _, _, _ => none
def uop (o : UO) (S : Store) (a : D) : Option D := match o with
  | .neg => (match dr S a with | .int i => some (.int (-i)) | _ => none)
  | .not => (tru S a).map fun b => .bl (!b)
def isNon : D → Bool
  | .non => true
  | _ => false
def shapedD (d : PyData) : Bool := SeqAt.shaped d
/-- the data of a value, in cells too, if == may look at it -/
def pyS (S : Store) (d : D) : Option PyData := match (dr S d).py with
  | some p => if shapedD p then some p else none
  | none => none
def lexI : List Int → List Int → Bool
  | [], [] => false
  | [], _ :: _ => true
  | _ :: _, [] => false
  | x :: xs, y :: ys => if x = y then lexI xs ys else decide (x < y)
def getG {κ α : Type} [DecidableEq κ] (kvs : List (κ × α)) (k : κ) : Option α := (kvs.find? fun kv => decide (kv.1 = k)).map (·.2)
def putG {κ α : Type} [DecidableEq κ] (kvs : List (κ × α)) (k : κ) (v : α) : List (κ × α) :=
  if (kvs.any fun kv => decide (kv.1 = k)) = true then kvs.map (fun kv => if kv.1 = k then (kv.1, v) else kv) else kvs ++ [(k, v)]
def keyOf : D → Option Key
  | .int i => some (.inl i)
  | .str s => some (.inr s)
  | _ => none
def keysOf : List D → Option (List Key)
  | [] => some []
  | x :: r => match keyOf x, keysOf r with
    | some k, some ks => some (k :: ks)
    | _, _ => none
def memD (S : Store) (a b : D) : Option Bool := match dr S b with
  | .lst _ => (match pyS S a, pyS S b with
    | some x, some (.list ys) => some (ys.any fun z => PyData.eqv z x)
    | _, _ => none)
  | .tup _ => (match pyS S a, pyS S b with
    | some x, some (.tuple ys) => some (ys.any fun z => PyData.eqv z x)
    | _, _ => none)
  | .dK kvs => (keyOf a).map fun k => (getG kvs k).isSome
  | .dT kvs => (match a with
    | .tup ks => (keysOf ks).map fun k => (getG kvs k).isSome
    | _ => none)
  | .str z => (match a with
    | .str x => (match x.cps.toList with
      | [c] => some (decide (c ∈ z.cps.toList))
      | _ => none)
    | _ => none)
  | _ => none
def cop (o : CO) (S : Store) (a b : D) : Option Bool := match o with
  | .eq => (match pyS S a, pyS S b with | some x, some y => some (PyData.eqv x y) | _, _ => none)
  | .ne => (match pyS S a, pyS S b with | some x, some y => some (!PyData.eqv x y) | _, _ => none)
  | .lt => (match dr S a, dr S b with
    | .int i, .int j => some (decide (i < j))
    | .tup xs, .tup ys => (match intsD xs, intsD ys with | some ns, some ms => some (lexI ns ms) | _, _ => none)
    | _, _ => none)
  | .le => (match a, b with | .int i, .int j => some (decide (i ≤ j)) | _, _ => none)
  | .gt => (match a, b with | .int i, .int j => some (decide (j < i)) | _, _ => none)
  | .ge => (match a, b with | .int i, .int j => some (decide (j ≤ i)) | _, _ => none)
  | .is => (match b with | .non => some (isNon a) | _ => none)
  | .isn => (match b with | .non => some (!isNon a) | _ => none)
  | .mem => memD S a b
  | .nmem => (memD S a b).map not
/-! ### built-ins -/
inductive Pr where | len | abs | int | max1 | min1 | max2 | min2 | sum | all | any | tuple | list | sorted | sset
  deriving DecidableEq
def insI (x : Int) : List Int → List Int
  | [] => [x]
  | y :: r => if x ≤ y then x :: y :: r else y :: insI x r
def sortI : List Int → List Int
  | [] => []
  | x :: r => insI x (sortI r)
def insT (x : List Int) : List (List Int) → List (List Int)
  | [] => [x]
  | y :: r => if lexI y x then y :: insT x r else x :: y :: r
def sortT : List (List Int) → List (List Int)
  | [] => []
  | x :: r => insT x (sortT r)
def rowsD : List D → Option (List (List Int))
  | [] => some []
  | .tup xs :: r => (match intsD xs, rowsD r with | some ns, some l => some (ns :: l) | _, _ => none)
  | _ => none
def dI (ns : List Int) : List D := ns.map .int
def dR (ls : List (List Int)) : List D := ls.map fun l => .tup (dI l)
def maxI : List Int → Int
  | [] => 0
  | [x] => x
  | x :: r => let m := maxI r; if x < m then m else x
def minI : List Int → Int
  | [] => 0
  | [x] => x
  | x :: r => let m := minI r; if m < x then m else x
def prim (p : Pr) (S : Store) (ds : List D) : Option D := match p, ds with
  | .len, [d] => (match dr S d with
    | .lst xs => some (.int xs.length)
    | .fzn xs => some (.int xs.length)
    | .tup xs => some (.int xs.length)
    | .str s => if s.length ≤ lim then some (.int s.length) else none
    | .dK kvs => some (.int kvs.length)
    | .dT kvs => some (.int kvs.length)
    | _ => none)
  | .abs, [.int i] => some (.int (if i < 0 then -i else i))
  | .int, [.int i] => some (.int i)
  | .int, [.bl b] => some (.int (if b then 1 else 0))
  | .max1, [d] => (match dr S d with
    | .lst xs => (match intsD xs with | some (n :: ns) => some (.int (maxI (n :: ns))) | _ => none)
    | .tup xs => (match intsD xs with | some (n :: ns) => some (.int (maxI (n :: ns))) | _ => none)
    | _ => none)
  | .min1, [d] => (match dr S d with
    | .lst xs => (match intsD xs with | some (n :: ns) => some (.int (minI (n :: ns))) | _ => none)
    | .tup xs => (match intsD xs with | some (n :: ns) => some (.int (minI (n :: ns))) | _ => none)
    | _ => none)
  | .max2, [.int i, .int j] => some (.int (if j > i then j else i))
  | .min2, [.int i, .int j] => some (.int (if j < i then j else i))
  | .sum, [d] => (match dr S d with | .lst xs => (intsD xs).map fun ns => .int ns.sum | .tup xs => (intsD xs).map fun ns => .int ns.sum | _ => none)
  | .all, [d] => (match dr S d with | .lst xs => (boolsD xs).map fun bs => .bl (bs.all id) | _ => none)
  | .any, [d] => (match dr S d with | .lst xs => (boolsD xs).map fun bs => .bl (bs.any id) | _ => none)
  | .tuple, [d] => (match dr S d with
    | .lst xs => some (.tup xs)
    | .tup xs => some (.tup xs)
    | _ => none)
  | .list, [d] => (match dr S d with
    | .lst xs => some (.lst xs)
    | .fzn xs => some (.lst xs)
    | .tup xs => some (.lst xs)
    | _ => none)
  | .sorted, [d] => (match dr S d with
    | .lst xs => (match intsD xs with
      | some ns => some (.lst (dI (sortI ns)))
      | none => (match rowsD xs with
        | some ls => if ls.all (fun l => l.length == 2) then some (.lst (dR (sortT ls))) else none
        | none => none))
    | _ => none)
  | _, _ => none
/-! ### isinstance -/
inductive CR where | ty (n : String) | own (c : Nat)
  deriving DecidableEq
/-! ### subscripts -/
def idx (S : Store) (a i : D) : Option D := match dr S a, i with
  | .lst xs, .int i => atI xs i
  | .fzn xs, .int i => atI xs i
  | .tup xs, .int i => atI xs i
  | .dK kvs, k => (keyOf k).bind fun k => getG kvs k
  | .dT kvs, .tup ks => (keysOf ks).bind fun k => getG kvs k
  | _, _ => none
def cutD (xs : List D) (lo hi : Option Int) : List D := (xs.drop (HT.sIx xs.length 0 lo)).take (HT.sIx xs.length xs.length hi - HT.sIx xs.length 0 lo)
/-- a slice's end: left out, or an int -/
def optI (left : Bool) (d : D) : Option (Option Int) := if left then some none else match d with
  | .int i => some (some i)
  | _ => none
def slc (S : Store) (a : D) (l h : Option Int) : Option D := match dr S a with
  | .lst xs => some (.lst (cutD xs l h))
  | .fzn xs => some (.lst (cutD xs l h))
  | .tup xs => some (.tup (cutD xs l h))
  | _ => none
/-- x[::-1] -/
def rvs (S : Store) (a : D) : Option D := match dr S a with
  | .lst xs => some (.lst xs.reverse)
  | .tup xs => some (.tup xs.reverse)
  | _ => none
/-! ### targets -/
inductive Tg where
  | v (i : Nat) | t (as : Tg) | nil | cons (a as : Tg)
/-- values into a target; a tuple target takes a tuple -/
def bindT : Tg → D → Env → Option Env
  | .v i, d, ρ => some (ρ.set i (some d))
  | .t as, .tup ds, ρ => bindT as (.tup ds) ρ
  | .t _, _, _ => none
  | .nil, .tup [], ρ => some ρ
  | .nil, _, _ => none
  | .cons a as, .tup (d :: ds), ρ => (bindT a d ρ).bind fun ρ1 => bindT as (.tup ds) ρ1
  | .cons _ _, _, _ => none
def wipeD (ρ : Env) : List Nat → Env
  | [] => ρ
  | v :: vs => (wipeD ρ vs).set v none
/-! ### the language -/
inductive Ex where
  | v (i : Nat)
  | k (d : D)
  | gc (x : Str) (d : D)
  | un (o : UO) (a : Ex)
  | bi (o : BO) (a b : Ex)
  | cm (o : CO) (a b : Ex)
  | cm2 (o p : CO) (a b c : Ex)
  | cm3 (o p q : CO) (a b c d : Ex)
  | rgl (tp : Bool) (a b : Ex)
  | rgt (a b : Ex)
  | an (a b : Ex)
  | orr (a b : Ex)
  | ite (c a b : Ex)
  | tu (as : Ex)
  | li (as : Ex)
  | nil
  | cons (a as : Ex)
  | star (a as : Ex)
  | ix (a i : Ex)
  | sl (a lo hi : Ex)
  | no
  | rv (a : Ex)
  | cal (f : Nat) (as : Ex)
  | calz (f : Nat) (as : Ex)
  | calk (f : Nat) (as ks : Ex) (names : List Str) (perm : List Nat)
  | pr (p : Pr) (as : Ex)
  | isi (a : Ex) (cs : List CR)
  | lc (t : Tg) (own : List Nat) (s : Ex) (c : Ex) (e : Ex)
  | rg1 (a : Ex) | rg2 (a b : Ex)
  | rgd (a b : Ex)
  | pop (a i : Ex)
  | idf (tp : Bool) (a i : Ex)
  | en (a : Ex)
  | zp (a b : Ex)
  | fr (a : Ex)
  | bad
  | it (a : Ex)
  | yes
def isNo : Ex → Bool
  | .no => true
  | _ => false
inductive Sm where
  | nil
  | cons (s t : Sm)
  | doc
  | set (i : Nat) (e : Ex)
  | asg (t : Tg) (e : Ex)
  | aug (i : Nat) (o : BO) (e : Ex)
  | sub (a i e : Ex)
  | sub2 (a i b j e : Ex)
  | ex (e : Ex)
  | app (a e : Ex)
  | ret (e : Ex)
  | ite (c : Ex) (a b : Sm)
  | forr (t : Tg) (s : Ex) (b : Sm)
  | whil (c : Ex) (b : Sm)
  | brk | cnt
  | nev
  | rais (c : Nat) (as : Ex)
  | tryy (b : Sm) (hs : Sm)
  | han (c : List Nat) (i : Option Nat) (b : Sm) (more : Sm)
/-- a def: name, parameters, all names (parameters first), defaults, whether it hands out new cells, its body -/
structure Fn where
  name : Str
  ps : List Str
  ns : List Str
  dfl : List D := []
  keep : Bool := false
  body : Sm
/-- what a call means: the base of the cells that may be written with cells, the def, the arguments -/
abbrev CallF := Nat → Nat → List D → Store → R D
structure Cl where
  call : CallF
  base : Nat
  /-- classes: isinstance of a value -/
  isi : D → List CR → Option Bool
  /-- turns of a while -/
  W : Nat
  /-- the defaults of a def from the n-th on -/
  dfl : Nat → Nat → List D
def lcGo (c : Env → Store → R D) (e : Env → Store → R D) (t : Tg) (vs : List Nat) (ρ : Env) : List D → List D → Store → R (List D)
  | [], acc, S => .ok acc.reverse S
  | x :: xs, acc, S => match bindT t x (wipeD ρ vs) with
    | none => .fl
    | some ρ1 => match c ρ1 S with
      | .ok b S1 => (match tru S1 b with
        | some true => (match e ρ1 S1 with
          | .ok d S2 => lcGo c e t vs ρ xs (d :: acc) S2
          | _ => .fl)
        | some false => lcGo c e t vs ρ xs acc S1
        | none => .fl)
      | _ => .fl
def items (S : Store) (d : D) : Option (List D) := match d with
  | .lst xs => some xs
  | .tup xs => some xs
  | .loc n => (match S.getD n .non with | .lst xs => some xs | _ => none)
  | _ => none
def rgD (lo hi : Int) : List D := (List.range (hi - lo).toNat).map fun (i : Nat) => .int (lo + (i : Int))
def enD (n : Int) : List D → List D
  | [] => []
  | x :: xs => .tup [.int n, x] :: enD (n + 1) xs
def zpD : List D → List D → List D
  | x :: xs, y :: ys => .tup [x, y] :: zpD xs ys
  | _, _ => []
def small62 (i : Int) : Bool := decide (-(2 ^ 62) ≤ i) && decide (i < 2 ^ 62)
def rglD (tp : Bool) (one : Bool) (x y : D) : Option D := match (if one then .int 0 else x), y with
  | .int i, .int j => if small62 i && small62 j && decide (j - i ≤ lim) then some (if tp then .tup (rgD i j) else .lst (rgD i j)) else none
  | _, _ => none
/-- range(i, j, -1) -/
def rgdD (hi lo : Int) : List D := (List.range (hi - lo).toNat).map fun (i : Nat) => .int (hi - (i : Int))
/-- tuple(range(i, j, -1)) -/
def rgtD (x y : D) : Option D := match x, y with
  | .int i, .int j => if small62 i && small62 j && decide (i - j ≤ lim) then some (.tup (rgdD i j)) else none
  | _, _ => none
def pick (ds : List D) (perm : List Nat) : List D := perm.map fun i => ds.getD i .non
def allM (f : D → Option D) : List D → Option (List D)
  | [] => some []
  | x :: xs => match f x, allM f xs with
    | some y, some ys => some (y :: ys)
    | _, _ => none
/-- what a def hands out: the cells from b on become plain -/
def fz (S : Store) (b : Nat) : Nat → D → Option D
  | 0, d => if d.free then some d else none
  | n + 1, d => if d.free then some d else match d with
    | .loc m => if m < b then some d else (match S.getD m .non with
      | .lst xs => (allM (fz S b n) xs).map .lst
      | .dK kvs => if freesK kvs then some (.dK kvs) else none
      | .dT kvs => if freesT kvs then some (.dT kvs) else none
      | _ => none)
    | .lst xs => (allM (fz S b n) xs).map .lst
    | .tup xs => (allM (fz S b n) xs).map .tup
    | _ => none
def isSc : D → Bool
  | .non => true
  | .bl _ => true
  | .int _ => true
  | .str _ => true
  | _ => false
/-- the place of the first item that is equal -/
def firstEq (d : PyData) : List PyData → Option Nat
  | [] => none
  | z :: zs => if PyData.eqv z d then some 0 else (firstEq d zs).map (· + 1)
def seqB (tp : Bool) : D → Bool
  | .lst _ => !tp
  | .tup _ => tp
  | _ => false
/-- x.index(y) of a list, of a tuple -/
def idfD (tp : Bool) (S : Store) (x y : D) : Option D := match pyS S x, pyS S y with
  | some (.list ds), some d => if tp then none else (firstEq d ds).map fun j => .int (j : Nat)
  | some (.tuple ds), some d => if tp then (firstEq d ds).map fun j => .int (j : Nat) else none
  | _, _ => none
section
variable (C : Cl)
/-- x.pop(i) of a cell -/
def popD (x y : D) (S : Store) : R D := match x, y with
  | .loc n, .int j => (match S.getD n .non with
    | .lst xs => (match ixN xs.length j with
      | some k => (match xs[k]? with
        | some d => .ok d (S.set n (.lst (xs.eraseIdx k)))
        | none => .fl)
      | none => .fl)
    | _ => .fl)
  | _, _ => .fl
mutual
def ev : Ex → Env → Store → R D
  | .v i, ρ, S => R.of (ρ.getD i none) S
  | .k d, _, S => .ok d S
  | .gc _ d, _, S => .ok d S
  | .un o a, ρ, S => (ev a ρ S).bind fun x S1 => R.of (uop o S1 x) S1
  | .bi o a b, ρ, S => (ev a ρ S).bind fun x S1 => (ev b ρ S1).bind fun y S2 => R.of (bop o S2 x y) S2
  | .cm o a b, ρ, S => (ev a ρ S).bind fun x S1 => (ev b ρ S1).bind fun y S2 => R.of ((cop o S2 x y).map .bl) S2
  | .cm2 o p a b c, ρ, S => (ev a ρ S).bind fun x S1 => (ev b ρ S1).bind fun y S2 => match cop o S2 x y with
    | some true => (ev c ρ S2).bind fun z S3 => R.of ((cop p S3 y z).map .bl) S3
    | some false => .ok (.bl false) S2
    | none => .fl
  | .pop a i, ρ, S => (ev a ρ S).bind fun x S1 => match dr S1 x with
    | .lst _ => (ev i ρ S1).bind fun y S2 => popD x y S2
    | _ => .fl
  | .idf tp a i, ρ, S => (ev a ρ S).bind fun x S1 => if seqB tp (dr S1 x) then (ev i ρ S1).bind fun y S2 => R.of (idfD tp S2 x y) S2 else .fl
  | .cm3 o p q a b c d, ρ, S => (ev a ρ S).bind fun x S1 => (ev b ρ S1).bind fun y S2 => match cop o S2 x y with
    | some true => (ev c ρ S2).bind fun z S3 => (match cop p S3 y z with
      | some true => (ev d ρ S3).bind fun u S4 => R.of ((cop q S4 z u).map .bl) S4
      | some false => .ok (.bl false) S3
      | none => .fl)
    | some false => .ok (.bl false) S2
    | none => .fl
  | .rgt a b, ρ, S => (ev a ρ S).bind fun x S1 => (ev b ρ S1).bind fun y S2 => R.of (rgtD x y) S2
  | .rgl tp a b, ρ, S => (ev a ρ S).bind fun x S1 => (ev b ρ S1).bind fun y S2 => R.of (rglD tp (isNo a) x y) S2
  | .an a b, ρ, S => (ev a ρ S).bind fun x S1 => match tru S1 x with
    | some true => ev b ρ S1
    | some false => .ok x S1
    | none => .fl
  | .orr a b, ρ, S => (ev a ρ S).bind fun x S1 => match tru S1 x with
    | some true => .ok x S1
    | some false => ev b ρ S1
    | none => .fl
  | .ite c a b, ρ, S => (ev c ρ S).bind fun x S1 => match tru S1 x with
    | some true => ev a ρ S1
    | some false => ev b ρ S1
    | none => .fl
  | .tu as, ρ, S => (evs as ρ S).bind fun xs S1 => if xs.length ≤ lim then .ok (.tup xs) S1 else .fl
  | .li as, ρ, S => (evs as ρ S).bind fun xs S1 => if xs.length ≤ lim then .ok (.lst xs) S1 else .fl
  | .ix a i, ρ, S => (ev a ρ S).bind fun x S1 => (ev i ρ S1).bind fun y S2 => R.of (idx S2 x y) S2
  | .sl a lo hi, ρ, S => (ev a ρ S).bind fun x S1 => (ev lo ρ S1).bind fun y S2 => match optI (isNo lo) y with
    | some l => (ev hi ρ S2).bind fun z S3 => (match optI (isNo hi) z with
      | some h => R.of (slc S3 x l h) S3
      | none => .fl)
    | none => .fl
  | .no, _, S => .ok .non S
  | .rv a, ρ, S => (ev a ρ S).bind fun x S1 => R.of (rvs S1 x) S1
  | .cal f as, ρ, S => (evs as ρ S).bind fun xs S1 => C.call C.base f (xs ++ C.dfl f xs.length) S1
  | .calz f as, ρ, S => (evs as ρ S).bind fun xs S1 => match allM (fz S1 0 8) xs with
    | some ys => (match C.call 0 f (ys ++ C.dfl f xs.length) [] with
      | .ok d _ => if isSc d then .ok d S1 else .fl
      | _ => .fl)
    | none => .fl
  | .calk f as ks _ perm, ρ, S => (evs as ρ S).bind fun xs S1 => (evs ks ρ S1).bind fun ys S2 => C.call C.base f (pick (xs ++ ys ++ C.dfl f 0) perm) S2
  | .pr p as, ρ, S => (evs as ρ S).bind fun xs S1 => R.of (prim p S1 xs) S1
  | .isi a cs, ρ, S => (ev a ρ S).bind fun x S1 => R.of ((C.isi (dr S1 x) cs).map .bl) S1
  | .lc t own s c e, ρ, S => (evi s ρ S).bind fun xs S1 => (lcGo (ev c) (ev e) t own ρ xs [] S1).bind fun ys S2 => .ok (.lst ys) S2
  | .fr a, ρ, S => (ev a ρ S).bind fun x S1 => match x with
    | .lst xs => .ok (.loc S1.length) (S1 ++ [.lst xs])
    | .dK xs => .ok (.loc S1.length) (S1 ++ [.dK xs])
    | .dT xs => .ok (.loc S1.length) (S1 ++ [.dT xs])
    | _ => .fl
  | .yes, _, S => .ok (.bl true) S
  | .bad, _, _ => .fl
  | _, _, _ => .fl
/-- written arguments, items -/
def evs : Ex → Env → Store → R (List D)
  | .nil, _, S => .ok [] S
  | .cons a as, ρ, S => (ev a ρ S).bind fun x S1 => (evs as ρ S1).bind fun xs S2 => .ok (x :: xs) S2
  | .star a as, ρ, S => (ev a ρ S).bind fun x S1 => match items S1 x with
    | some ys => (evs as ρ S1).bind fun xs S2 => .ok (ys ++ xs) S2
    | none => .fl
  | _, _, _ => .fl
/-- what a loop walks -/
def evi : Ex → Env → Store → R (List D)
  | .rg1 a, ρ, S => (ev a ρ S).bind fun x S1 => match x with
    | .int j => if small62 j && decide (j ≤ lim) then .ok (rgD 0 j) S1 else .fl
    | _ => .fl
  | .rg2 a b, ρ, S => (ev a ρ S).bind fun x S1 => (ev b ρ S1).bind fun y S2 => match x, y with
    | .int i, .int j => if small62 i && small62 j && decide (j - i ≤ lim) then .ok (rgD i j) S2 else .fl
    | _, _ => .fl
  | .rgd a b, ρ, S => (ev a ρ S).bind fun x S1 => (ev b ρ S1).bind fun y S2 => match x, y with
    | .int i, .int j => if small62 i && small62 j && decide (i - j ≤ lim) then .ok (rgdD i j) S2 else .fl
    | _, _ => .fl
  | .en a, ρ, S => (ev a ρ S).bind fun x S1 => match x with
    | .lst xs => .ok (enD 0 xs) S1
    | .fzn xs => .ok (enD 0 xs) S1
    | .tup xs => .ok (enD 0 xs) S1
    | _ => .fl
  | .zp a b, ρ, S => (ev a ρ S).bind fun x S1 => (ev b ρ S1).bind fun y S2 => match x, y with
    | .lst xs, .lst ys => .ok (zpD xs ys) S2
    | .tup xs, .tup ys => .ok (zpD xs ys) S2
    | _, _ => .fl
  | .it a, ρ, S => (ev a ρ S).bind fun x S1 => match x with
    | .lst xs => .ok xs S1
    | .fzn xs => .ok xs S1
    | .tup xs => .ok xs S1
    | _ => .fl
  | _, _, _ => .fl
end
/-! ### statements -/
def forGo (b : Env → Store → RS) (t : Tg) : List D → Env → Store → RS
  | [], ρ, S => .nx ρ S
  | x :: xs, ρ, S => match bindT t x ρ with
    | none => .fl
    | some ρ1 => (match b ρ1 S with
      | .nx ρ2 S2 => forGo b t xs ρ2 S2
      | .ct ρ2 S2 => forGo b t xs ρ2 S2
      | .bk ρ2 S2 => .nx ρ2 S2
      | r => r)
def whileGo (c : Env → Store → R D) (b : Env → Store → RS) : Nat → Env → Store → RS
  | 0, _, _ => .fl
  | n + 1, ρ, S => match c ρ S with
    | .ok x S1 => (match tru S1 x with
      | some true => (match b ρ S1 with
        | .nx ρ2 S2 => whileGo c b n ρ2 S2
        | .ct ρ2 S2 => whileGo c b n ρ2 S2
        | .bk ρ2 S2 => .nx ρ2 S2
        | r => r)
      | some false => .nx ρ S1
      | none => .fl)
    | .er e S1 => .er e ρ S1
    | .fl => .fl
def R.then {α : Type} (r : R α) (ρ : Env) (f : α → Store → RS) : RS := match r with
  | .ok a S => f a S
  | .er e S => .er e ρ S
  | .fl => .fl
def augI (o : BO) (a b : D) : Option D := match o, a, b with
  | .add, .int i, .int j => some (.int (i + j))
  | .sub, .int i, .int j => some (.int (i - j))
  | .mul, .int i, .int j => if mulOk i j then some (.int (i * j)) else none
  | _, _, _ => none
/-- a cell's new content: a value that names cells goes only into cells of the running def -/
def putS (base : Nat) (S : Store) (n : Nat) (d : D) (o : D) : Option Store := if (d.free || decide (base ≤ n)) && decide (n < S.length) then some (S.set n o) else none
def subS (base : Nat) (S : Store) (a i d : D) : Option Store := match a with
  | .loc n => (match S.getD n .non, i with
    | .lst xs, .int i => (ixN xs.length i).bind fun k => putS base S n d (.lst (xs.set k d))
    | .dK kvs, k => (keyOf k).bind fun k => if kvs.length < lim then putS base S n d (.dK (putG kvs k d)) else none
    | .dT kvs, .tup ks => (keysOf ks).bind fun k => if kvs.length < lim then putS base S n d (.dT (putG kvs k d)) else none
    | _, _ => none)
  | _ => none
def appS (base : Nat) (S : Store) (a d : D) : Option Store := match a with
  | .loc n => (match S.getD n .non with
    | .lst xs => if xs.length < lim then putS base S n d (.lst (xs ++ [d])) else none
    | _ => none)
  | _ => none
mutual
def evS : Sm → Env → Store → RS
  | .nil, ρ, S => .nx ρ S
  | .cons s t, ρ, S => (match evS s ρ S with
    | .nx ρ1 S1 => evS t ρ1 S1
    | r => r)
  | .doc, ρ, S => .nx ρ S
  | .set i e, ρ, S => (ev C e ρ S).then ρ fun d S1 => .nx (ρ.set i (some d)) S1
  | .asg t e, ρ, S => (ev C e ρ S).then ρ fun d S1 => match bindT t d ρ with | some ρ1 => .nx ρ1 S1 | none => .fl
  | .aug i o e, ρ, S => (match ρ.getD i none with
    | some x => (ev C e ρ S).then ρ fun d S1 => (match augI o x d with | some y => .nx (ρ.set i (some y)) S1 | none => .fl)
    | none => .fl)
  | .sub a i e, ρ, S => (ev C e ρ S).then ρ fun d S1 => (ev C a ρ S1).then ρ fun x S2 => (ev C i ρ S2).then ρ fun y S3 => match subS C.base S3 x y d with | some S4 => .nx ρ S4 | none => .fl
  | .sub2 a i b j e, ρ, S => (ev C e ρ S).then ρ fun t S2 => match t with
    | .tup [d, d'] => (ev C a ρ S2).then ρ fun x S3 => (ev C i ρ S3).then ρ fun y S4 => (match subS C.base S4 x y d with
      | some S5 => (ev C b ρ S5).then ρ fun x' S6 => (ev C j ρ S6).then ρ fun y' S7 => (match subS C.base S7 x' y' d' with | some S8 => .nx ρ S8 | none => .fl)
      | none => .fl)
    | _ => .fl
  | .ex e, ρ, S => (ev C e ρ S).then ρ fun _ S1 => .nx ρ S1
  | .app a e, ρ, S => (ev C a ρ S).then ρ fun x S1 => match dr S1 x with
    | .lst _ => (ev C e ρ S1).then ρ fun d S2 => match appS C.base S2 x d with | some S3 => .nx ρ S3 | none => .fl
    | _ => .fl
  | .ret e, ρ, S => (ev C e ρ S).then ρ fun d S1 => .rt d ρ S1
  | .ite c a b, ρ, S => (ev C c ρ S).then ρ fun x S1 => match tru S1 x with
    | some true => evS a ρ S1
    | some false => evS b ρ S1
    | none => .fl
  | .forr t s b, ρ, S => (evi C s ρ S).then ρ fun xs S1 => forGo (evS b) t xs ρ S1
  | .whil c b, ρ, S => whileGo (ev C c) (evS b) C.W ρ S
  | .brk, ρ, S => .bk ρ S
  | .nev, _, _ => .fl
  | .cnt, ρ, S => .ct ρ S
  | .rais c as, ρ, S => (evs C as ρ S).then ρ fun ds S1 => .er (.exc c ds) ρ S1
  | .tryy b hs, ρ, S => (match evS b ρ S with
    | .er (.exc c vs) ρ1 S1 => evH hs c vs ρ1 S1
    | r => r)
  | _, _, _ => .fl
/-- the clauses of a try -/
def evH : Sm → Nat → List D → Env → Store → RS
  | .han cs i b more, c, vs, ρ, S => if cs.contains c then
      (match i with
      | none => evS b ρ S
      | some i => if i < ρ.length then (match evS b (ρ.set i (some (.exc c vs))) S with
        | .nx ρ1 S1 => .nx (ρ1.set i none) S1
        | .rt d ρ1 S1 => .rt d (ρ1.set i none) S1
        | _ => .fl) else .fl)
    else evH more c vs ρ S
  | .nil, c, vs, ρ, S => .er (.exc c vs) ρ S
  | _, _, _, _, _ => .fl
end
end
/-! ### calls -/
def fin (keep : Bool) (b : Nat) (S : Store) (d : D) : R D := if keep then .ok d S else match fz S b 8 d with
  | some d' => .ok d' (S.take b)
  | none => .fl
abbrev Prg := Nat → Option Fn
def startD (n : Nat) (ds : List D) : Env := ds.map some ++ List.replicate (n - ds.length) none
def dflOf (P : Prg) (f n : Nat) : List D := match P f with
  | some fn => fn.dfl.drop (n - (fn.ps.length - fn.dfl.length))
  | none => []
def endC (keep : Bool) (b : Nat) : RS → R D
  | .rt d _ S => fin keep b S d
  | .nx _ S => fin keep b S .non
  | .er e _ S => if keep then .er e S else if e.free then .er e (S.take b) else .fl
  | _ => .fl
def run (P : Prg) (isi : D → List CR → Option Bool) (W : Nat) : Nat → CallF
  | 0 => fun _ _ _ _ => .fl
  | k + 1 => fun base f ds S => match P f with
    | none => .fl
    | some fn => if ds.length = fn.ps.length then
        endC fn.keep (if fn.keep then base else S.length) (evS { call := run P isi W k, base := if fn.keep then base else S.length, isi := isi, W := W, dfl := dflOf P } fn.body (startD fn.ns.length ds) S)
      else .fl
end EV
/-! EV2: how the evaluator's data stand in HandS's abstract heap; carrying over. -/
namespace EV
open PySem PySem.Spec PyProof.Rows L2
abbrev Fg := PySem.W.Frag
/-- a list, a tuple that is to be read at a and never changed -/
def LAt (K : Fg) (μ : List Addr) (H : Hp) (a : Addr) (xs : List V) : Prop := (Rd H a (.lst xs) ∧ a ∉ μ) ∨
  ∃ (o : Obj) (its : Array Value) (n : Nat), K.lookup a = some o ∧ o.cls = .type "list" ∧ o.dict = none ∧ o.data = .seq its n ∧ its.size ≤ sizeLine ∧ Vals xs its.toList
def TAt (K : Fg) (μ : List Addr) (H : Hp) (a : Addr) (xs : List V) : Prop := H a = some (.tup xs) ∧ a ∉ μ
theorem LAt.sq {K : Fg} {μ : List Addr} {H : Hp} {a : Addr} {xs : List V} (h : LAt K μ H a xs) : SqL K H a xs := h.elim (fun q => .inl q.1) .inr
theorem TAt.sq {K : Fg} {μ : List Addr} {H : Hp} {a : Addr} {xs : List V} (h : TAt K μ H a xs) : SqT K H a xs := .of h.1
mutual
/-- a value v of the abstract heap bears the datum; ν: where the cells are, μ: what may change -/
def RD (K : Fg) (ν μ : List Addr) (H : Hp) : D → V → Prop
  | .non, v => v = .non
  | .bl b, v => v = .bl b
  | .int i, v => v = .int i
  | .str s, v => v = .str s
  | .tup ds, v => ∃ a xs, v = .ref a ∧ TAt K μ H a xs ∧ RDs K ν μ H ds xs
  | .lst ds, v => ∃ a xs, v = .ref a ∧ (H a = some (.lst xs) ∧ a ∉ μ) ∧ RDs K ν μ H ds xs
  | .fzn ds, v => ∃ a xs, v = .ref a ∧ LAt K μ H a xs ∧ RDs K ν μ H ds xs
  | .loc n, v => ∃ a, v = .ref a ∧ ν[n]? = some a
  | .dK kvs, v => ∃ a ws, v = .ref a ∧ (H a = some (.dK ws) ∧ a ∉ μ) ∧ RDK K ν μ H kvs ws
  | .dT kvs, v => ∃ a ws, v = .ref a ∧ (H a = some (.dT ws) ∧ a ∉ μ) ∧ RDT K ν μ H kvs ws
  | .exc _ _, _ => False
  | .ins _ _, _ => False
def RDs (K : Fg) (ν μ : List Addr) (H : Hp) : List D → List V → Prop
  | [], xs => xs = []
  | d :: ds, xs => ∃ x r, xs = x :: r ∧ RD K ν μ H d x ∧ RDs K ν μ H ds r
def RDK (K : Fg) (ν μ : List Addr) (H : Hp) : List (Key × D) → List (Key × V) → Prop
  | [], xs => xs = []
  | (k, d) :: ds, xs => ∃ x r, xs = (k, x) :: r ∧ RD K ν μ H d x ∧ RDK K ν μ H ds r
def RDT (K : Fg) (ν μ : List Addr) (H : Hp) : List (List Key × D) → List (List Key × V) → Prop
  | [], xs => xs = []
  | (k, d) :: ds, xs => ∃ x r, xs = (k, x) :: r ∧ RD K ν μ H d x ∧ RDT K ν μ H ds r
end
/-- from μ, H to μ', H': cells are added, what is tracked beside the cells stands -/
structure Ext (μ : List Addr) (H : Hp) (μ' : List Addr) (H' : Hp) : Prop where
  pre : ∀ (n : Nat) a, μ[n]? = some a → μ'[n]? = some a
  keep : ∀ a o, H a = some o → a ∉ μ → H' a = some o ∧ a ∉ μ'
theorem Ext.refl {μ : List Addr} {H : Hp} : Ext μ H μ H := ⟨fun _ _ h => h, fun _ _ h n => ⟨h, n⟩⟩
theorem Ext.trans {μ μ1 μ2 : List Addr} {H H1 H2 : Hp} (a : Ext μ H μ1 H1) (b : Ext μ1 H1 μ2 H2) : Ext μ H μ2 H2 :=
  ⟨fun n x h => b.pre n x (a.pre n x h), fun x o h n => let ⟨h1, n1⟩ := a.keep x o h n; b.keep x o h1 n1⟩
section
variable {K : Fg} {ν ν' μ μ' : List Addr} {H H' : Hp}
/-- what is tracked stands -/
def Kp (μ : List Addr) (H : Hp) (μ' : List Addr) (H' : Hp) : Prop := ∀ a o, H a = some o → a ∉ μ → H' a = some o ∧ a ∉ μ'
theorem LAt.monoK (kp : Kp μ H μ' H') {a : Addr} {xs : List V} (h : LAt K μ H a xs) : LAt K μ' H' a xs := by
  rcases h with ⟨r, n⟩ | h
  · rcases r with r | ⟨o, r⟩
    · obtain ⟨r', n'⟩ := kp _ _ r n
      exact .inl ⟨.inl r', n'⟩
    · obtain ⟨r', n'⟩ := kp _ _ r n
      exact .inl ⟨.inr ⟨o, r'⟩, n'⟩
  · exact .inr h
theorem TAt.monoK (kp : Kp μ H μ' H') {a : Addr} {xs : List V} (h : TAt K μ H a xs) : TAt K μ' H' a xs := kp _ _ h.1 h.2
mutual
theorem RD.monoK (kp : Kp μ H μ' H') (f : ∀ (n : Nat) a, ν[n]? = some a → ν'[n]? = some a) : ∀ (d : D) (v : V), RD K ν μ H d v → RD K ν' μ' H' d v
  | .non, v, h => by simpa only [RD] using h
  | .bl b, v, h => by simpa only [RD] using h
  | .int i, v, h => by simpa only [RD] using h
  | .str s, v, h => by simpa only [RD] using h
  | .tup ds, v, h => by
    simp only [RD] at h ⊢
    obtain ⟨a, xs, e1, t, r⟩ := h
    exact ⟨a, xs, e1, t.monoK kp, RDs.monoK kp f ds xs r⟩
  | .lst ds, v, h => by
    simp only [RD] at h ⊢
    obtain ⟨a, xs, e1, ⟨t1, t2⟩, r⟩ := h
    exact ⟨a, xs, e1, kp _ _ t1 t2, RDs.monoK kp f ds xs r⟩
  | .fzn ds, v, h => by
    simp only [RD] at h ⊢
    obtain ⟨a, xs, e1, t, r⟩ := h
    exact ⟨a, xs, e1, t.monoK kp, RDs.monoK kp f ds xs r⟩
  | .loc n, v, h => by
    simp only [RD] at h ⊢
    obtain ⟨a, e1, t⟩ := h
    exact ⟨a, e1, f n a t⟩
  | .dK kvs, v, h => by
    simp only [RD] at h ⊢
    obtain ⟨a, ws, e1, ⟨t1, t2⟩, r⟩ := h
    exact ⟨a, ws, e1, kp _ _ t1 t2, RDK.monoK kp f kvs ws r⟩
  | .dT kvs, v, h => by
    simp only [RD] at h ⊢
    obtain ⟨a, ws, e1, ⟨t1, t2⟩, r⟩ := h
    exact ⟨a, ws, e1, kp _ _ t1 t2, RDT.monoK kp f kvs ws r⟩
  | .exc _ _, v, h => by simp only [RD] at h
  | .ins _ _, v, h => by simp only [RD] at h
theorem RDs.monoK (kp : Kp μ H μ' H') (f : ∀ (n : Nat) a, ν[n]? = some a → ν'[n]? = some a) : ∀ (ds : List D) (vs : List V), RDs K ν μ H ds vs → RDs K ν' μ' H' ds vs
  | [], vs, h => by simpa only [RDs] using h
  | d :: ds, vs, h => by
    simp only [RDs] at h ⊢
    obtain ⟨x, r, e1, h1, h2⟩ := h
    exact ⟨x, r, e1, RD.monoK kp f d x h1, RDs.monoK kp f ds r h2⟩
theorem RDK.monoK (kp : Kp μ H μ' H') (f : ∀ (n : Nat) a, ν[n]? = some a → ν'[n]? = some a) : ∀ (ds : List (Key × D)) (vs : List (Key × V)), RDK K ν μ H ds vs → RDK K ν' μ' H' ds vs
  | [], vs, h => by simpa only [RDK] using h
  | (k, d) :: ds, vs, h => by
    simp only [RDK] at h ⊢
    obtain ⟨x, r, e1, h1, h2⟩ := h
    exact ⟨x, r, e1, RD.monoK kp f d x h1, RDK.monoK kp f ds r h2⟩
theorem RDT.monoK (kp : Kp μ H μ' H') (f : ∀ (n : Nat) a, ν[n]? = some a → ν'[n]? = some a) : ∀ (ds : List (List Key × D)) (vs : List (List Key × V)), RDT K ν μ H ds vs → RDT K ν' μ' H' ds vs
  | [], vs, h => by simpa only [RDT] using h
  | (k, d) :: ds, vs, h => by
    simp only [RDT] at h ⊢
    obtain ⟨x, r, e1, h1, h2⟩ := h
    exact ⟨x, r, e1, RD.monoK kp f d x h1, RDT.monoK kp f ds r h2⟩
end
theorem LAt.mono (e : Ext μ H μ' H') {a : Addr} {xs : List V} (h : LAt K μ H a xs) : LAt K μ' H' a xs := h.monoK e.keep
theorem TAt.mono (e : Ext μ H μ' H') {a : Addr} {xs : List V} (h : TAt K μ H a xs) : TAt K μ' H' a xs := h.monoK e.keep
theorem RD.mono (e : Ext μ H μ' H') (f : ∀ (n : Nat) a, ν[n]? = some a → ν'[n]? = some a) (d : D) (v : V) (h : RD K ν μ H d v) : RD K ν' μ' H' d v := RD.monoK e.keep f d v h
theorem RDs.mono (e : Ext μ H μ' H') (f : ∀ (n : Nat) a, ν[n]? = some a → ν'[n]? = some a) (d : List D) (v : List V) (h : RDs K ν μ H d v) : RDs K ν' μ' H' d v := RDs.monoK e.keep f d v h
theorem RDK.mono (e : Ext μ H μ' H') (f : ∀ (n : Nat) a, ν[n]? = some a → ν'[n]? = some a) (d : List (Key × D)) (v : List (Key × V)) (h : RDK K ν μ H d v) : RDK K ν' μ' H' d v := RDK.monoK e.keep f d v h
theorem RDT.mono (e : Ext μ H μ' H') (f : ∀ (n : Nat) a, ν[n]? = some a → ν'[n]? = some a) (d : List (List Key × D)) (v : List (List Key × V)) (h : RDT K ν μ H d v) : RDT K ν' μ' H' d v := RDT.monoK e.keep f d v h
mutual
/-- a datum that names no cell stands whatever the cells are -/
theorem RD.anyloc : ∀ (d : D) (v : V), d.free = true → RD K ν μ H d v → RD K ν' μ H d v
  | .non, v, _, h => by simpa only [RD] using h
  | .bl b, v, _, h => by simpa only [RD] using h
  | .int i, v, _, h => by simpa only [RD] using h
  | .str s, v, _, h => by simpa only [RD] using h
  | .tup ds, v, q, h => by
    simp only [RD] at h ⊢
    obtain ⟨a, xs, e1, t, r⟩ := h
    exact ⟨a, xs, e1, t, RDs.anyloc ds xs (by simpa only [D.free] using q) r⟩
  | .lst ds, v, q, h => by
    simp only [RD] at h ⊢
    obtain ⟨a, xs, e1, t, r⟩ := h
    exact ⟨a, xs, e1, t, RDs.anyloc ds xs (by simpa only [D.free] using q) r⟩
  | .fzn ds, v, q, h => by
    simp only [RD] at h ⊢
    obtain ⟨a, xs, e1, t, r⟩ := h
    exact ⟨a, xs, e1, t, RDs.anyloc ds xs (by simpa only [D.free] using q) r⟩
  | .loc n, v, q, h => by simp only [D.free] at q; cases q
  | .dK kvs, v, q, h => by
    simp only [RD] at h ⊢
    obtain ⟨a, ws, e1, t, r⟩ := h
    exact ⟨a, ws, e1, t, RDK.anyloc kvs ws (by simpa only [D.free] using q) r⟩
  | .dT kvs, v, q, h => by
    simp only [RD] at h ⊢
    obtain ⟨a, ws, e1, t, r⟩ := h
    exact ⟨a, ws, e1, t, RDT.anyloc kvs ws (by simpa only [D.free] using q) r⟩
  | .exc _ _, v, _, h => by simp only [RD] at h
  | .ins _ _, v, _, h => by simp only [RD] at h
theorem RDs.anyloc : ∀ (ds : List D) (vs : List V), frees ds = true → RDs K ν μ H ds vs → RDs K ν' μ H ds vs
  | [], vs, _, h => by simpa only [RDs] using h
  | d :: ds, vs, q, h => by
    simp only [RDs] at h ⊢
    simp only [frees, Bool.and_eq_true] at q
    obtain ⟨x, r, e1, h1, h2⟩ := h
    exact ⟨x, r, e1, RD.anyloc d x q.1 h1, RDs.anyloc ds r q.2 h2⟩
theorem RDK.anyloc : ∀ (ds : List (Key × D)) (vs : List (Key × V)), freesK ds = true → RDK K ν μ H ds vs → RDK K ν' μ H ds vs
  | [], vs, _, h => by simpa only [RDK] using h
  | (k, d) :: ds, vs, q, h => by
    simp only [RDK] at h ⊢
    simp only [freesK, Bool.and_eq_true] at q
    obtain ⟨x, r, e1, h1, h2⟩ := h
    exact ⟨x, r, e1, RD.anyloc d x q.1 h1, RDK.anyloc ds r q.2 h2⟩
theorem RDT.anyloc : ∀ (ds : List (List Key × D)) (vs : List (List Key × V)), freesT ds = true → RDT K ν μ H ds vs → RDT K ν' μ H ds vs
  | [], vs, _, h => by simpa only [RDT] using h
  | (k, d) :: ds, vs, q, h => by
    simp only [RDT] at h ⊢
    simp only [freesT, Bool.and_eq_true] at q
    obtain ⟨x, r, e1, h1, h2⟩ := h
    exact ⟨x, r, e1, RD.anyloc d x q.1 h1, RDT.anyloc ds r q.2 h2⟩
end
theorem RDs.length : ∀ {ds : List D} {vs : List V}, RDs K ν μ H ds vs → vs.length = ds.length
  | [], vs, h => by simp only [RDs] at h; subst h; rfl
  | d :: ds, vs, h => by
    simp only [RDs] at h
    obtain ⟨x, r, e1, h1, h2⟩ := h
    subst e1
    simp only [List.length_cons, RDs.length h2]
theorem RDs.get : ∀ {ds : List D} {vs : List V} {i : Nat} {v : V}, RDs K ν μ H ds vs → vs[i]? = some v → ∃ d, ds[i]? = some d ∧ RD K ν μ H d v
  | [], vs, i, v, h, q => by simp only [RDs] at h; subst h; simp at q
  | d :: ds, vs, 0, v, h, q => by
    simp only [RDs] at h
    obtain ⟨x, r, e1, h1, h2⟩ := h
    subst e1
    simp at q
    subst q
    exact ⟨d, rfl, h1⟩
  | d :: ds, vs, i + 1, v, h, q => by
    simp only [RDs] at h
    obtain ⟨x, r, e1, h1, h2⟩ := h
    subst e1
    obtain ⟨d', e, h'⟩ := RDs.get (i := i) h2 (by simpa using q)
    exact ⟨d', by simpa using e, h'⟩
theorem RDs.at_ {ds : List D} {vs : List V} {i : Nat} {d : D} (h : RDs K ν μ H ds vs) (q : ds[i]? = some d) : ∃ v, vs[i]? = some v ∧ RD K ν μ H d v := by
  have hi : i < ds.length := (List.getElem?_eq_some_iff.mp q).1
  have hv : i < vs.length := by rw [h.length]; exact hi
  obtain ⟨d', e, r⟩ := h.get (List.getElem?_eq_getElem hv)
  rw [q] at e
  cases e
  exact ⟨_, List.getElem?_eq_getElem hv, r⟩
theorem RDs.append : ∀ {ds es : List D} {vs ws : List V}, RDs K ν μ H ds vs → RDs K ν μ H es ws → RDs K ν μ H (ds ++ es) (vs ++ ws)
  | [], es, vs, ws, h, g => by simp only [RDs] at h; subst h; exact g
  | d :: ds, es, vs, ws, h, g => by
    simp only [RDs] at h
    obtain ⟨x, r, e1, h1, h2⟩ := h
    subst e1
    show RDs K ν μ H (d :: (ds ++ es)) (x :: (r ++ ws))
    simp only [RDs]
    exact ⟨x, _, rfl, h1, RDs.append h2 g⟩
theorem RDs.cons {d : D} {ds : List D} {v : V} {vs : List V} (h : RD K ν μ H d v) (g : RDs K ν μ H ds vs) : RDs K ν μ H (d :: ds) (v :: vs) := by
  simp only [RDs]
  exact ⟨v, vs, rfl, h, g⟩
theorem RDs.nil : RDs K ν μ H [] [] := by simp only [RDs]
theorem RDs.take : ∀ (n : Nat) {ds : List D} {vs : List V}, RDs K ν μ H ds vs → RDs K ν μ H (ds.take n) (vs.take n)
  | 0, _, _, _ => .nil
  | n + 1, [], vs, h => by simp only [RDs] at h; subst h; exact .nil
  | n + 1, d :: ds, vs, h => by
    simp only [RDs] at h
    obtain ⟨x, r, e1, h1, h2⟩ := h
    subst e1
    exact .cons h1 (RDs.take n h2)
theorem RDs.drop : ∀ (n : Nat) {ds : List D} {vs : List V}, RDs K ν μ H ds vs → RDs K ν μ H (ds.drop n) (vs.drop n)
  | 0, _, _, h => h
  | n + 1, [], vs, h => by simp only [RDs] at h; subst h; exact .nil
  | n + 1, d :: ds, vs, h => by
    simp only [RDs] at h
    obtain ⟨x, r, e1, h1, h2⟩ := h
    subst e1
    exact RDs.drop n h2
theorem RDs.reverse : ∀ {ds : List D} {vs : List V}, RDs K ν μ H ds vs → RDs K ν μ H ds.reverse vs.reverse
  | [], vs, h => by simp only [RDs] at h; subst h; exact .nil
  | d :: ds, vs, h => by
    simp only [RDs] at h
    obtain ⟨x, r, e1, h1, h2⟩ := h
    subst e1
    rw [List.reverse_cons, List.reverse_cons]
    exact (RDs.reverse h2).append (.cons h1 .nil)
theorem RDs.set {d : D} {v : V} (q : RD K ν μ H d v) : ∀ (n : Nat) {ds : List D} {vs : List V}, RDs K ν μ H ds vs → RDs K ν μ H (ds.set n d) (vs.set n v)
  | n, [], vs, h => by simp only [RDs] at h; subst h; exact .nil
  | 0, e :: ds, vs, h => by
    simp only [RDs] at h
    obtain ⟨x, r, e1, h1, h2⟩ := h
    subst e1
    exact .cons q h2
  | n + 1, e :: ds, vs, h => by
    simp only [RDs] at h
    obtain ⟨x, r, e1, h1, h2⟩ := h
    subst e1
    exact .cons h1 (RDs.set q n h2)
theorem RDs.of_all {f : D → V} : ∀ {ds : List D}, (∀ d ∈ ds, RD K ν μ H d (f d)) → RDs K ν μ H ds (ds.map f)
  | [], _ => .nil
  | d :: ds, h => .cons (h d List.mem_cons_self) (RDs.of_all fun e he => h e (List.mem_cons_of_mem _ he))
theorem RDs.flat : ∀ {dss : List (List D)} {vss : List (List V)}, Paired (fun ds vs => RDs K ν μ H ds vs) dss vss → RDs K ν μ H dss.flatten vss.flatten
  | _, _, .nil => .nil
  | _, _, .cons h t => h.append (RDs.flat t)
theorem RDs.rep {ds : List D} {vs : List V} (h : RDs K ν μ H ds vs) : ∀ n : Nat, RDs K ν μ H (List.replicate n ds).flatten (List.replicate n vs).flatten
  | 0 => .nil
  | n + 1 => by
    rw [List.replicate_succ, List.replicate_succ, List.flatten_cons, List.flatten_cons]
    exact h.append (RDs.rep h n)
/-- ints -/
theorem RDs.ints : ∀ {ds : List D} {ns : List Int} {vs : List V}, intsD ds = some ns → RDs K ν μ H ds vs → vs = ns.map V.int
  | [], ns, vs, q, h => by
    simp only [intsD, Option.some.injEq] at q
    simp only [RDs] at h
    subst q h
    rfl
  | .int i :: ds, ns, vs, q, h => by
    simp only [intsD, Option.map_eq_some_iff] at q
    obtain ⟨ms, q1, q2⟩ := q
    simp only [RDs, RD] at h
    obtain ⟨x, r, e1, h1, h2⟩ := h
    subst q2 e1 h1
    rw [RDs.ints q1 h2, List.map_cons]
  | .non :: ds, _, _, q, _ => by simp [intsD] at q
  | .bl _ :: ds, _, _, q, _ => by simp [intsD] at q
  | .str _ :: ds, _, _, q, _ => by simp [intsD] at q
  | .tup _ :: ds, _, _, q, _ => by simp [intsD] at q
  | .lst _ :: ds, _, _, q, _ => by simp [intsD] at q
  | .fzn _ :: ds, _, _, q, _ => by simp [intsD] at q
  | .loc _ :: ds, _, _, q, _ => by simp [intsD] at q
  | .dK _ :: ds, _, _, q, _ => by simp [intsD] at q
  | .dT _ :: ds, _, _, q, _ => by simp [intsD] at q
  | .exc _ _ :: ds, _, _, q, _ => by simp [intsD] at q
  | .ins _ _ :: ds, _, _, q, _ => by simp [intsD] at q
theorem intsD_eq : ∀ {ds : List D} {ns : List Int}, intsD ds = some ns → ds = dI ns
  | [], ns, q => by
    simp only [intsD, Option.some.injEq] at q
    subst q
    rfl
  | .int i :: ds, ns, q => by
    simp only [intsD, Option.map_eq_some_iff] at q
    obtain ⟨ms, q1, q2⟩ := q
    subst q2
    rw [intsD_eq q1]
    rfl
  | .non :: ds, _, q => by simp [intsD] at q
  | .bl _ :: ds, _, q => by simp [intsD] at q
  | .str _ :: ds, _, q => by simp [intsD] at q
  | .tup _ :: ds, _, q => by simp [intsD] at q
  | .lst _ :: ds, _, q => by simp [intsD] at q
  | .fzn _ :: ds, _, q => by simp [intsD] at q
  | .loc _ :: ds, _, q => by simp [intsD] at q
  | .dK _ :: ds, _, q => by simp [intsD] at q
  | .dT _ :: ds, _, q => by simp [intsD] at q
  | .exc _ _ :: ds, _, q => by simp [intsD] at q
  | .ins _ _ :: ds, _, q => by simp [intsD] at q
theorem RDs.of_ints : ∀ {ns : List Int}, RDs K ν μ H (dI ns) (ns.map V.int)
  | [] => .nil
  | n :: ns => .cons (by simp only [RD]) (RDs.of_ints (ns := ns))
theorem RDs.bools : ∀ {ds : List D} {ns : List Bool} {vs : List V}, boolsD ds = some ns → RDs K ν μ H ds vs → vs = ns.map V.bl
  | [], ns, vs, q, h => by
    simp only [boolsD, Option.some.injEq] at q
    simp only [RDs] at h
    subst q h
    rfl
  | .bl i :: ds, ns, vs, q, h => by
    simp only [boolsD, Option.map_eq_some_iff] at q
    obtain ⟨ms, q1, q2⟩ := q
    simp only [RDs, RD] at h
    obtain ⟨x, r, e1, h1, h2⟩ := h
    subst q2 e1 h1
    rw [RDs.bools q1 h2, List.map_cons]
  | .non :: ds, _, _, q, _ => by simp [boolsD] at q
  | .int _ :: ds, _, _, q, _ => by simp [boolsD] at q
  | .str _ :: ds, _, _, q, _ => by simp [boolsD] at q
  | .tup _ :: ds, _, _, q, _ => by simp [boolsD] at q
  | .lst _ :: ds, _, _, q, _ => by simp [boolsD] at q
  | .fzn _ :: ds, _, _, q, _ => by simp [boolsD] at q
  | .loc _ :: ds, _, _, q, _ => by simp [boolsD] at q
  | .dK _ :: ds, _, _, q, _ => by simp [boolsD] at q
  | .dT _ :: ds, _, _, q, _ => by simp [boolsD] at q
  | .exc _ _ :: ds, _, _, q, _ => by simp [boolsD] at q
  | .ins _ _ :: ds, _, _, q, _ => by simp [boolsD] at q
mutual
/-- data for == -/
theorem RD.dp : ∀ (d : D) (v : V) (p : PyData), d.py = some p → RD K ν μ H d v → Dp K H v p
  | .non, v, p, q, h => by
    simp only [D.py, Option.some.injEq] at q
    simp only [RD] at h
    subst q h
    exact .non
  | .bl b, v, p, q, h => by
    simp only [D.py, Option.some.injEq] at q
    simp only [RD] at h
    subst q h
    exact .bl b
  | .int i, v, p, q, h => by
    simp only [D.py, Option.some.injEq] at q
    simp only [RD] at h
    subst q h
    exact .int i
  | .str s, v, p, q, h => by
    simp only [D.py, Option.some.injEq] at q
    simp only [RD] at h
    subst q h
    exact .str s
  | .tup ds, v, p, q, h => by
    simp only [D.py, Option.map_eq_some_iff] at q
    obtain ⟨ps, q1, q2⟩ := q
    simp only [RD] at h
    obtain ⟨a, xs, e1, t, r⟩ := h
    subst q2 e1
    exact .tup t.sq (RDs.dp ds xs ps q1 r)
  | .lst ds, v, p, q, h => by
    simp only [D.py, Option.map_eq_some_iff] at q
    obtain ⟨ps, q1, q2⟩ := q
    simp only [RD] at h
    obtain ⟨a, xs, e1, t, r⟩ := h
    subst q2 e1
    exact .lst (.of t.1) (RDs.dp ds xs ps q1 r)
  | .fzn _, _, _, q, _ => by simp [D.py] at q
  | .loc _, _, _, q, _ => by simp [D.py] at q
  | .dK _, _, _, q, _ => by simp [D.py] at q
  | .dT _, _, _, q, _ => by simp [D.py] at q
  | .exc _ _, _, _, q, _ => by simp [D.py] at q
  | .ins _ _, _, _, q, _ => by simp [D.py] at q
theorem RDs.dp : ∀ (ds : List D) (vs : List V) (ps : List PyData), pys ds = some ps → RDs K ν μ H ds vs → DpAll K H vs ps
  | [], vs, ps, q, h => by
    simp only [pys, Option.some.injEq] at q
    simp only [RDs] at h
    subst q h
    exact .nil
  | d :: ds, vs, ps, q, h => by
    simp only [RDs] at h
    obtain ⟨x, r, e1, h1, h2⟩ := h
    subst e1
    unfold pys at q
    split at q
    · rename_i y ys e1 e2
      simp only [Option.some.injEq] at q
      subst q
      exact .cons (RD.dp d x y e1 h1) (RDs.dp ds r ys e2 h2)
    · cases q
end
end
/-! ### the store -/
/-- a cell with this content stands at a -/
def CR_ (K : Fg) (cls : Nat → Option Str) (ν μ : List Addr) (H : Hp) (a : Addr) : D → Prop
  | .lst ds => ∃ xs, H a = some (.lst xs) ∧ RDs K ν μ H ds xs
  | .dK kvs => ∃ ws, H a = some (.dK ws) ∧ RDK K ν μ H kvs ws
  | .dT kvs => ∃ ws, H a = some (.dT ws) ∧ RDT K ν μ H kvs ws
  | _ => False
def cutL (L : Nat → Option Nat) (n : Nat) (μ : List Addr) : List Addr := match L n with
  | none => μ
  | some m => μ.take m
structure SR (K : Fg) (L : Nat → Option Nat) (μ : List Addr) (S : Store) (H : Hp) : Prop where
  len : μ.length = S.length
  nd : μ.Nodup
  cell : ∀ (n : Nat) d a, S[n]? = some d → μ[n]? = some a → CR_ K (fun _ => none) (cutL L n μ) μ H a d
  top : ∀ n, S.length ≤ n → L n = none
section
variable {K : Fg} {cls : Nat → Option Str} {L : Nat → Option Nat} {ν ν' μ μ' : List Addr} {H H' : Hp} {S : Store}
theorem CR_.mono (e : Ext μ H μ' H') (f : ∀ (n : Nat) a, ν[n]? = some a → ν'[n]? = some a) {a : Addr} (st : H' a = H a) : ∀ {d : D}, CR_ K cls ν μ H a d → CR_ K cls ν' μ' H' a d
  | .lst ds, ⟨xs, h, r⟩ => ⟨xs, st.trans h, RDs.mono e f _ _ r⟩
  | .dK ds, ⟨xs, h, r⟩ => ⟨xs, st.trans h, RDK.mono e f _ _ r⟩
  | .dT ds, ⟨xs, h, r⟩ => ⟨xs, st.trans h, RDT.mono e f _ _ r⟩
theorem CR_.some {a : Addr} : ∀ {d : D}, CR_ K cls ν μ H a d → ∃ o, H a = some o
  | .lst ds, ⟨xs, h, r⟩ => ⟨_, h⟩
  | .dK ds, ⟨xs, h, r⟩ => ⟨_, h⟩
  | .dT ds, ⟨xs, h, r⟩ => ⟨_, h⟩
theorem SR.tracked (s : SR K L μ S H) {a : Addr} (h : a ∈ μ) : ∃ o, H a = some o := by
  obtain ⟨n, hn⟩ := List.getElem?_of_mem h
  have hl : n < S.length := by rw [← s.len]; exact (List.getElem?_eq_some_iff.mp hn).1
  exact (s.cell n _ a (List.getElem?_eq_getElem hl) hn).some
theorem SR.new (s : SR K L μ S H) {p : Addr} (h : H p = none) : p ∉ μ := fun m => by
  obtain ⟨o, e⟩ := s.tracked m
  rw [h] at e
  cases e
/-- a new object that is no cell -/
theorem Ext.laid {p : Addr} {o : HO} (h : H p = none) : Ext μ H μ (upd H p o) :=
  ⟨fun _ _ q => q, fun a u q n => ⟨by rw [upd_ne (ne_of_none q h)]; exact q, n⟩⟩
theorem cut_mono (f : ∀ (n : Nat) a, μ[n]? = some a → μ'[n]? = some a) (n : Nat) : ∀ (i : Nat) a, (cutL L n μ)[i]? = some a → (cutL L n μ')[i]? = some a := by
  intro i a h
  unfold cutL at h ⊢
  cases e : L n with
  | none =>
    rw [e] at h
    exact f i a h
  | some m =>
    rw [e] at h
    simp only [List.getElem?_take] at h ⊢
    split at h
    · rename_i hi
      rw [if_pos hi]
      exact f i a h
    · cases h
theorem SR.laid (s : SR K L μ S H) {p : Addr} {o : HO} (h : H p = none) : SR K L μ S (upd H p o) :=
  ⟨s.len, s.nd, fun n d a h1 h2 => CR_.mono (Ext.laid h) (fun _ _ q => q) (upd_ne fun e => s.new h (e ▸ List.mem_of_getElem? h2)) (s.cell n d a h1 h2), s.top⟩
/-- a cell is written -/
theorem Ext.write {a : Addr} {o : HO} (m : a ∈ μ) : Ext μ H μ (upd H a o) :=
  ⟨fun _ _ q => q, fun b u q n => ⟨by rw [upd_ne (fun e : b = a => n (by rw [e]; exact m))]; exact q, n⟩⟩
theorem SR.write (s : SR K L μ S H) {n : Nat} {a : Addr} {o : HO} {d : D} (h : μ[n]? = some a) (new : CR_ K (fun _ => none) (cutL L n μ) μ (upd H a o) a d) : SR K L μ (S.set n d) (upd H a o) := by
  refine ⟨by rw [List.length_set]; exact s.len, s.nd, fun m e b h1 h2 => ?_, fun m hm => s.top m (by rw [List.length_set] at hm; exact hm)⟩
  by_cases hm : m = n
  · subst hm
    rw [h] at h2
    cases h2
    rw [List.getElem?_set_self (by rw [← s.len]; exact (List.getElem?_eq_some_iff.mp h).1)] at h1
    cases h1
    exact new
  · rw [List.getElem?_set_ne (Ne.symm hm)] at h1
    refine CR_.mono (Ext.write (List.mem_of_getElem? h)) (fun _ _ q => q) (upd_ne fun e => ?_) (s.cell m e b h1 h2)
    subst e
    obtain ⟨i1, j1⟩ := List.getElem?_eq_some_iff.mp h
    obtain ⟨i2, j2⟩ := List.getElem?_eq_some_iff.mp h2
    exact hm ((List.getElem_inj s.nd).mp (j2.trans j1.symm))
/-- a new cell -/
theorem SR.cell_new (s : SR K L μ S H) {p : Addr} {o : HO} {d : D} (h : H p = none) (new : CR_ K (fun _ => none) (μ ++ [p]) (μ ++ [p]) (upd H p o) p d) :
    SR K L (μ ++ [p]) (S ++ [d]) (upd H p o) ∧ Ext μ H (μ ++ [p]) (upd H p o) := by
  have np := s.new h
  have ex : Ext μ H (μ ++ [p]) (upd H p o) := ⟨fun n a q => by rw [List.getElem?_append_left (List.getElem?_eq_some_iff.mp q).1]; exact q, fun a u q n => by
    have ne : a ≠ p := ne_of_none q h
    exact ⟨by rw [upd_ne ne]; exact q, by simp [n, ne]⟩⟩
  refine ⟨⟨by simp [s.len], ?_, fun n e a h1 h2 => ?_, fun n hn => s.top n (by rw [List.length_append] at hn; omega)⟩, ex⟩
  · rw [List.nodup_append]
    refine ⟨s.nd, by simp, fun a ha b hb => ?_⟩
    rw [List.mem_singleton] at hb
    subst hb
    intro z
    subst z
    exact np ha
  · by_cases hn : n < S.length
    · rw [List.getElem?_append_left hn] at h1
      rw [List.getElem?_append_left (by rw [s.len]; exact hn)] at h2
      exact CR_.mono ex (cut_mono ex.pre n) (upd_ne fun z => np (z ▸ List.mem_of_getElem? h2)) (s.cell n e a h1 h2)
    · have hn' : n = S.length := by
        have := (List.getElem?_eq_some_iff.mp h1).1
        simp at this
        omega
      subst hn'
      rw [List.getElem?_append_right (Nat.le_refl _)] at h1
      rw [List.getElem?_append_right (by rw [s.len]; exact Nat.le_refl _)] at h2
      simp [s.len] at h1 h2
      subst h1 h2
      unfold cutL
      rw [s.top _ (Nat.le_refl _)]
      exact new
end
/-! ### the slots -/
def ER (K : Fg) (μ : List Addr) (H : Hp) (ρ : Env) (σ : L2.St) : Prop := ρ.length = σ.length ∧ ∀ (i : Nat) d, ρ[i]? = some (some d) → ∃ v, σ[i]? = some (some v) ∧ RD K μ μ H d v
section
variable {K : Fg} {μ μ' : List Addr} {H H' : Hp} {ρ : Env} {σ : L2.St}
theorem ER.mono (r : ER K μ H ρ σ) (e : Ext μ H μ' H') : ER K μ' H' ρ σ := ⟨r.1, fun i d h => let ⟨v, h1, h2⟩ := r.2 i d h; ⟨v, h1, RD.mono e e.pre d v h2⟩⟩
theorem ER.set (r : ER K μ H ρ σ) {i : Nat} {d : D} {v : V} (h : RD K μ μ H d v) : ER K μ H (ρ.set i (some d)) (σ.set i (some v)) := by
  refine ⟨by simp [r.1], fun j e q => ?_⟩
  by_cases hj : j = i
  · subst hj
    by_cases hl : j < ρ.length
    · rw [List.getElem?_set_self hl] at q
      cases q
      exact ⟨v, List.getElem?_set_self (by rw [← r.1]; exact hl), h⟩
    · rw [List.getElem?_eq_none (by simpa using hl)] at q
      cases q
  · rw [List.getElem?_set_ne (Ne.symm hj)] at q
    obtain ⟨w, h1, h2⟩ := r.2 j e q
    exact ⟨w, by rw [List.getElem?_set_ne (Ne.symm hj)]; exact h1, h2⟩
theorem ER.unset (r : ER K μ H ρ σ) (i : Nat) : ER K μ H (ρ.set i none) (σ.set i none) := by
  refine ⟨by simp [r.1], fun j e q => ?_⟩
  by_cases hj : j = i
  · subst hj
    by_cases hl : j < ρ.length
    · rw [List.getElem?_set_self hl] at q
      cases q
    · rw [List.getElem?_eq_none (by simpa using hl)] at q
      cases q
  · rw [List.getElem?_set_ne (Ne.symm hj)] at q
    obtain ⟨w, h1, h2⟩ := r.2 j e q
    exact ⟨w, by rw [List.getElem?_set_ne (Ne.symm hj)]; exact h1, h2⟩
theorem ER.wipe (r : ER K μ H ρ σ) : ∀ vs : List Nat, ER K μ H (wipeD ρ vs) (L2.wipe σ vs)
  | [] => r
  | v :: vs => by
    unfold wipeD L2.wipe
    exact (r.wipe vs).unset v
end
end EV
/-! EV3: judgements over the evaluator; the operators by values. -/
namespace EV
open PySem PySem.Spec PyProof.Rows L2
/-- the heap's own bounds, wherever a state bears it -/
def Wf (H : Hp) : Prop := ∃ (P : Program) (w : World) (h : Heap), HOk P w H h
theorem Wf.lst {H : Hp} {a : Addr} {xs : List V} (w : Wf H) (h : H a = some (.lst xs)) : xs.length ≤ sizeLine := by
  obtain ⟨P, w, hp, ok⟩ := w
  exact (show ObjOk P w H hp a (.lst xs) from ok a _ h).1
/-- e runs to a value that Q wants -/
def GE (X : Cx) (e : Expr) (σ : L2.St) (H : Hp) (Q : VK) : Prop := ∀ (pins : List (Addr × Obj)) (s : Shared), Inv X pins σ H s → wpAny (model X.prog X.w) X.A (eval e X.env) (EP X pins σ Q) X.xe s
theorem pe_GE {X : Cx} {e : Expr} : PE X e (GE X e) := ⟨fun pins s σ H Q I h => h pins s I⟩
theorem GE.of {X : Cx} {e : Expr} {t : TE} {σ : L2.St} {H : Hp} {Q : VK} (h : PE X e t) (q : t σ H Q) : GE X e σ H Q := fun pins s I => h.run pins s σ H Q I q
theorem GE.wf {X : Cx} {e : Expr} {σ : L2.St} {H : Hp} {Q : VK} (h : GE X e σ H fun v H' => Wf H' → Q v H') : GE X e σ H Q := fun pins s I =>
  thn (h pins s I) fun u s' ⟨v, H', J, r, q⟩ => ⟨v, H', J, r, q ⟨_, _, _, J.hok⟩⟩
/-- the same for argument lists, tests, statements -/
def GA (X : Cx) (es : List Expr) (σ : L2.St) (H : Hp) (Q : List V → Hp → Prop) : Prop := ∀ (pos : Pos) (pins : List (Addr × Obj)) (s : Shared), Inv X pins σ H s → wpAny (model X.prog X.w) X.A (spliced (backTo pos (starEach es X.env))) (AP X pins σ Q) X.xe s
theorem pa_GA {X : Cx} {es : List Expr} : PA X es (GA X es) := ⟨fun pos pins s σ H Q I h => h pos pins s I⟩
theorem GA.of {X : Cx} {es : List Expr} {t : TA} {σ : L2.St} {H : Hp} {Q : List V → Hp → Prop} (h : PA X es t) (q : t σ H Q) : GA X es σ H Q := fun pos pins s I => h.run pos pins s σ H Q I q
theorem GA.wf {X : Cx} {es : List Expr} {σ : L2.St} {H : Hp} {Q : List V → Hp → Prop} (h : GA X es σ H fun v H' => Wf H' → Q v H') : GA X es σ H Q := fun pos pins s I =>
  thn (h pos pins s I) fun u s' ⟨v, H', J, r, q⟩ => ⟨v, H', J, r, q ⟨_, _, _, J.hok⟩⟩
def GT (X : Cx) (e : Expr) (σ : L2.St) (H : Hp) (Q : Bool → Hp → Prop) : Prop := ∀ (whole : Sem Value) (pins : List (Addr × Obj)) (s : Shared), whole = eval e X.env → Inv X pins σ H s → wpAny (model X.prog X.w) X.A (isTrue e X.env whole) (TP X pins σ Q) X.xe s
theorem pt_GT {X : Cx} {e : Expr} : PT X e (GT X e) := ⟨fun pins s σ H Q I h => h _ pins s rfl I⟩
theorem GT.of {X : Cx} {e : Expr} {t : TT} {σ : L2.St} {H : Hp} {Q : Bool → Hp → Prop} (h : PT X e t) (q : t σ H Q) : GT X e σ H Q := fun wh pins s ew I => by
  subst ew
  exact h.run pins s σ H Q I q
def GS (X : Cx) (st : Stmt) (D : Ends) (σ : L2.St) (H : Hp) : Prop := ∀ (pins : List (Addr × Obj)) (s : Shared), Inv X pins σ H s → wpAny (model X.prog X.w) X.A (exec st X.env) (SP X pins D) X.xe s
theorem ps_GS {X : Cx} {st : Stmt} : PS X st (GS X st) := ⟨fun pins s σ H D I h => h pins s I⟩
theorem GS.of {X : Cx} {st : Stmt} {t : TS} {D : Ends} {σ : L2.St} {H : Hp} (h : PS X st t) (q : t D σ H) : GS X st D σ H := fun pins s I => h.run pins s σ H D I q
def GSs (X : Cx) (st : List Stmt) (D : Ends) (σ : L2.St) (H : Hp) : Prop := ∀ (pins : List (Addr × Obj)) (s : Shared), Inv X pins σ H s → wpAny (model X.prog X.w) X.A (execs st X.env) (SP X pins D) X.xe s
theorem pss_GSs {X : Cx} {st : List Stmt} : PSs X st (GSs X st) := ⟨fun pins s σ H D I h => h pins s I⟩
theorem GSs.of {X : Cx} {st : List Stmt} {t : TS} {D : Ends} {σ : L2.St} {H : Hp} (h : PSs X st t) (q : t D σ H) : GSs X st D σ H := fun pins s I => h.run pins s σ H D I q
def GO (X : Cx) (e : Option Expr) (σ : L2.St) (H : Hp) (Q : Option Int → Hp → Prop) : Prop := ∀ (pins : List (Addr × Obj)) (s : Shared), Inv X pins σ H s →
  wpAny (model X.prog X.w) X.A (evalPart e X.env) (fun u s' => ∃ o H', Inv X pins σ H' s' ∧ IsPart u o ∧ Q o H') X.xe s
theorem po_GO {X : Cx} {e : Option Expr} : PO X e (GO X e) := ⟨fun pins s σ H Q I h => h pins s I⟩
theorem GO.of {X : Cx} {e : Option Expr} {t : TO} {σ : L2.St} {H : Hp} {Q : Option Int → Hp → Prop} (h : PO X e t) (q : t σ H Q) : GO X e σ H Q := fun pins s I => h.run pins s σ H Q I q
/-! ### what is wanted of a result -/
/-- an exception: its class, its own dict -/
def ErR (tb : Nat → Option (Str × List Str)) (mg : Str → Option Value) (K : Fg) (e : D) (cls : Value) (dd : Option Addr) (H : Hp) : Prop :=
  ∃ (c : Nat) (vs : List D) (x : Str) (fs : List Str) (C : Addr), e = .exc c vs ∧ tb c = some (x, fs) ∧ mg x = some (.ref C) ∧ cls = .ref C ∧
    ((fs = [] ∧ vs = [] ∧ dd = none) ∨ (fs ≠ [] ∧ fs.length = vs.length ∧ ∃ d ws, dd = some d ∧ H d = some (.xd (fs.zip ws)) ∧ RDs K [] [] H vs ws))
abbrev Tab := Nat → Option (Str × List Str)
def Po (tb : Tab) (X : Cx) (L : Nat → Option Nat) (μ : List Addr) (σ : L2.St) (H : Hp) (Q : VK) (W : WX) : R D → Prop
  | .ok d S' => ∀ v μ' H', Wf H' → Ext μ H μ' H' → SR X.K L μ' S' H' → RD X.K μ' μ' H' d v → Q v H'
  | .er e S' => ∀ c dd μ' H', Ext μ H μ' H' → SR X.K L μ' S' H' → ErR tb X.mg X.K e c dd H' → W c dd σ H'
  | .fl => False
def PoA (tb : Tab) (X : Cx) (L : Nat → Option Nat) (μ : List Addr) (σ : L2.St) (H : Hp) (Q : List V → Hp → Prop) (W : WX) : R (List D) → Prop
  | .ok d S' => ∀ v μ' H', Wf H' → Ext μ H μ' H' → SR X.K L μ' S' H' → RDs X.K μ' μ' H' d v → Q v H'
  | .er e S' => ∀ c dd μ' H', Ext μ H μ' H' → SR X.K L μ' S' H' → ErR tb X.mg X.K e c dd H' → W c dd σ H'
  | .fl => False
section
variable {tb : Tab} {X : Cx} {L : Nat → Option Nat} {μ : List Addr} {σ : L2.St} {H : Hp} {W : WX}
theorem Po.bind {Q Q1 : VK} {r : R D} {f : D → Store → R D} (h : Po tb X L μ σ H Q W (r.bind f))
    (k : ∀ d S1 v μ1 H1, r = .ok d S1 → Wf H1 → Ext μ H μ1 H1 → SR X.K L μ1 S1 H1 → RD X.K μ1 μ1 H1 d v → Po tb X L μ1 σ H1 Q W (f d S1) → Q1 v H1) : Po tb X L μ σ H Q1 W r := by
  cases r with
  | fl => exact h
  | er e S => exact h
  | ok d S =>
    intro v μ1 H1 w e s r
    refine k d S v μ1 H1 rfl w e s r ?_
    have h' : Po tb X L μ σ H Q W (f d S) := h
    generalize f d S = r2 at h'
    cases r2 with
    | fl => exact h'
    | er x S2 => exact fun c dd μ2 H2 e2 => h' c dd μ2 H2 (e.trans e2)
    | ok d2 S2 => exact fun v2 μ2 H2 w2 e2 => h' v2 μ2 H2 w2 (e.trans e2)
theorem Po.bindA {Q : VK} {Q1 : List V → Hp → Prop} {r : R (List D)} {f : List D → Store → R D} (h : Po tb X L μ σ H Q W (r.bind f))
    (k : ∀ d S1 v μ1 H1, r = .ok d S1 → Wf H1 → Ext μ H μ1 H1 → SR X.K L μ1 S1 H1 → RDs X.K μ1 μ1 H1 d v → Po tb X L μ1 σ H1 Q W (f d S1) → Q1 v H1) : PoA tb X L μ σ H Q1 W r := by
  cases r with
  | fl => exact h
  | er e S => exact h
  | ok d S =>
    intro v μ1 H1 w e s r
    refine k d S v μ1 H1 rfl w e s r ?_
    have h' : Po tb X L μ σ H Q W (f d S) := h
    generalize f d S = r2 at h'
    cases r2 with
    | fl => exact h'
    | er x S2 => exact fun c dd μ2 H2 e2 => h' c dd μ2 H2 (e.trans e2)
    | ok d2 S2 => exact fun v2 μ2 H2 w2 e2 => h' v2 μ2 H2 w2 (e.trans e2)
theorem PoA.bind {Q : List V → Hp → Prop} {Q1 : VK} {r : R D} {f : D → Store → R (List D)} (h : PoA tb X L μ σ H Q W (r.bind f))
    (k : ∀ d S1 v μ1 H1, r = .ok d S1 → Wf H1 → Ext μ H μ1 H1 → SR X.K L μ1 S1 H1 → RD X.K μ1 μ1 H1 d v → PoA tb X L μ1 σ H1 Q W (f d S1) → Q1 v H1) : Po tb X L μ σ H Q1 W r := by
  cases r with
  | fl => exact h
  | er e S => exact h
  | ok d S =>
    intro v μ1 H1 w e s r
    refine k d S v μ1 H1 rfl w e s r ?_
    have h' : PoA tb X L μ σ H Q W (f d S) := h
    generalize f d S = r2 at h'
    cases r2 with
    | fl => exact h'
    | er x S2 => exact fun c dd μ2 H2 e2 => h' c dd μ2 H2 (e.trans e2)
    | ok d2 S2 => exact fun v2 μ2 H2 w2 e2 => h' v2 μ2 H2 w2 (e.trans e2)
theorem PoA.bindA {Q Q1 : List V → Hp → Prop} {r : R (List D)} {f : List D → Store → R (List D)} (h : PoA tb X L μ σ H Q W (r.bind f))
    (k : ∀ d S1 v μ1 H1, r = .ok d S1 → Wf H1 → Ext μ H μ1 H1 → SR X.K L μ1 S1 H1 → RDs X.K μ1 μ1 H1 d v → PoA tb X L μ1 σ H1 Q W (f d S1) → Q1 v H1) : PoA tb X L μ σ H Q1 W r := by
  cases r with
  | fl => exact h
  | er e S => exact h
  | ok d S =>
    intro v μ1 H1 w e s r
    refine k d S v μ1 H1 rfl w e s r ?_
    have h' : PoA tb X L μ σ H Q W (f d S) := h
    generalize f d S = r2 at h'
    cases r2 with
    | fl => exact h'
    | er x S2 => exact fun c dd μ2 H2 e2 => h' c dd μ2 H2 (e.trans e2)
    | ok d2 S2 => exact fun v2 μ2 H2 w2 e2 => h' v2 μ2 H2 w2 (e.trans e2)
theorem Po.opt {Q : VK} {o : Option D} {S : Store} (h : Po tb X L μ σ H Q W (R.of o S)) : ∃ d, o = some d ∧ Po tb X L μ σ H Q W (.ok d S) := by
  cases o with
  | none => exact False.elim h
  | some d => exact ⟨d, rfl, h⟩
theorem Po.wq {Q : VK} {r : R D} (h : Po tb X L μ σ H Q W r) : Po tb X L μ σ H (fun v H' => Wf H' → Q v H') W r := by
  cases r with
  | fl => exact h
  | er e S => exact h
  | ok d S => exact fun v μ' H' w e s r _ => h v μ' H' w e s r
/-- a value that is there already -/
theorem Po.here {Q : VK} {d : D} {S : Store} {v : V} (h : Po tb X L μ σ H Q W (.ok d S)) (s : SR X.K L μ S H) (r : RD X.K μ μ H d v) : Wf H → Q v H := fun w => h v μ H w .refl s r
/-- a new object -/
theorem Po.new {Q : VK} {d : D} {S : Store} {o : HO} (h : Po tb X L μ σ H Q W (.ok d S)) (s : SR X.K L μ S H) {p : Addr} (n : H p = Option.none) (r : RD X.K μ μ (upd H p o) d (.ref p)) : Wf (upd H p o) → Q (.ref p) (upd H p o) :=
  fun w => h _ μ _ w (.laid n) (s.laid n) r
end
theorem OpR.or {X : Cx} {f : Value → Value → Sem Value} {r1 r2 : R2} (a : OpR X f r1) (b : OpR X f r2) : OpR X f (fun x y H Q => r1 x y H Q ∨ r2 x y H Q) :=
  fun pins s σ H x y v u Q I rx ry h => h.elim (a pins s σ H x y v u Q I rx ry) (b pins s σ H x y v u Q I rx ry)
theorem CallR.or {X : Cx} {f : Value} {r1 r2 : List V → Hp → VK → Prop} (a : CallR X f r1) (b : CallR X f r2) : CallR X f (fun xs H Q => r1 xs H Q ∨ r2 xs H Q) :=
  fun pins s σ H xs us Q I rx h => h.elim (a pins s σ H xs us Q I rx) (b pins s σ H xs us Q I rx)
section
variable {K : Fg} {μ : List Addr} {H : Hp}
/-! ### looking through a cell -/
theorem SR.look {L : Nat → Option Nat} {S : Store} (s : SR K L μ S H) {d : D} {v : V} (r : RD K μ μ H d v) :
    (∀ ds, dr S d = .lst ds → ∃ a xs, v = .ref a ∧ H a = some (.lst xs) ∧ RDs K μ μ H ds xs) ∧
    (∀ ds, dr S d = .fzn ds → ∃ a xs, v = .ref a ∧ SqL K H a xs ∧ RDs K μ μ H ds xs) ∧
    (∀ ds, dr S d = .tup ds → d = .tup ds ∧ ∃ a xs, v = .ref a ∧ TAt K μ H a xs ∧ RDs K μ μ H ds xs) ∧
    (∀ ds, dr S d = .dK ds → ∃ a xs, v = .ref a ∧ H a = some (.dK xs) ∧ RDK K μ μ H ds xs) ∧
    (∀ ds, dr S d = .dT ds → ∃ a xs, v = .ref a ∧ H a = some (.dT xs) ∧ RDT K μ μ H ds xs) ∧
    (∀ i, dr S d = .int i → v = .int i) ∧ (∀ i, dr S d = .bl i → v = .bl i) ∧ (∀ i, dr S d = .str i → v = .str i) ∧ (dr S d = .non → v = .non) := by
  have cut : ∀ n, ∀ (i : Nat) a, (cutL L n μ)[i]? = some a → μ[i]? = some a := fun n i a h => by
    unfold cutL at h
    cases e : L n with
    | none => rw [e] at h; exact h
    | some m =>
      rw [e] at h
      simp only [List.getElem?_take] at h
      split at h
      · exact h
      · cases h
  cases d with
  | loc n =>
    simp only [RD] at r
    obtain ⟨a, e1, ha⟩ := r
    subst e1
    have hn : n < S.length := by rw [← s.len]; exact (List.getElem?_eq_some_iff.mp ha).1
    have hs := List.getElem?_eq_getElem hn
    have c := s.cell n _ a hs ha
    have ed : dr S (.loc n) = S[n] := by
      show S.getD n .non = _
      rw [List.getD_eq_getElem?_getD, hs]
      rfl
    rw [ed]
    generalize S[n] = x at c
    refine ⟨fun ds e => ?_, fun ds e => ?_, fun ds e => ?_, fun ds e => ?_, fun ds e => ?_, fun ds e => ?_, fun ds e => ?_, fun ds e => ?_, fun e => ?_⟩
    · subst e
      obtain ⟨xs, h1, h2⟩ := c
      exact ⟨a, xs, rfl, h1, RDs.mono .refl (cut n) _ _ h2⟩
    · subst e; exact False.elim c
    · subst e; exact False.elim c
    · subst e
      obtain ⟨xs, h1, h2⟩ := c
      exact ⟨a, xs, rfl, h1, RDK.mono .refl (cut n) _ _ h2⟩
    · subst e
      obtain ⟨xs, h1, h2⟩ := c
      exact ⟨a, xs, rfl, h1, RDT.mono .refl (cut n) _ _ h2⟩
    · subst e; exact False.elim c
    · subst e; exact False.elim c
    · subst e; exact False.elim c
    · subst e; exact False.elim c
  | _ =>
    refine ⟨fun ds e => ?_, fun ds e => ?_, fun ds e => ?_, fun ds e => ?_, fun ds e => ?_, fun ds e => ?_, fun ds e => ?_, fun ds e => ?_, fun e => ?_⟩ <;>
      first
        | (cases e; simp only [RD] at r; obtain ⟨a, xs, e1, h1, h2⟩ := r; first | exact ⟨rfl, a, xs, e1, h1, h2⟩ | exact ⟨a, xs, e1, h1.sq, h2⟩ | exact ⟨a, xs, e1, h1.1, h2⟩)
        | (cases e; simpa only [RD] using r)
        | cases e
end
end EV
/-! EV4: operators, comparisons, truth by values. -/
namespace EV
open PySem PySem.Spec PyProof.Rows L2
abbrev Wq (Q : VK) : VK := fun v H' => Wf H' → Q v H'
section
variable {K : Fg} {L : Nat → Option Nat} {ν μ : List Addr} {H : Hp} {S : Store}
theorem lim_eq : lim = sizeLine := by decide
theorem RD.newT (s : SR K L μ S H) {p : Addr} (n : H p = none) {ds : List D} {xs : List V} (r : RDs K μ μ H ds xs) : RD K μ μ (upd H p (.tup xs)) (.tup ds) (.ref p) := by
  simp only [RD]
  exact ⟨p, xs, rfl, ⟨upd_same, s.new n⟩, RDs.mono (.laid n) (fun _ _ q => q) _ _ r⟩
theorem RD.newL (s : SR K L μ S H) {p : Addr} (n : H p = none) {ds : List D} {xs : List V} (r : RDs K μ μ H ds xs) : RD K μ μ (upd H p (.lst xs)) (.lst ds) (.ref p) := by
  simp only [RD]
  exact ⟨p, xs, rfl, ⟨upd_same, s.new n⟩, RDs.mono (.laid n) (fun _ _ q => q) _ _ r⟩
theorem RDs.eq_nil {ds : List D} (h : RDs K ν μ H ds []) : ds = [] := List.length_eq_zero_iff.mp (by rw [← h.length]; rfl)
theorem RD.i (i : Int) : RD K ν μ H (.int i) (.int i) := by simp only [RD]
theorem RD.b (b : Bool) : RD K ν μ H (.bl b) (.bl b) := by simp only [RD]
theorem RD.s (x : Str) : RD K ν μ H (.str x) (.str x) := by simp only [RD]
theorem RD.n : RD K ν μ H .non .non := by simp only [RD]
end
def opOf : BO → Operator
  | .add => .Add | .sub => .Sub | .mul => .Mult | .mod => .Mod | .fdiv => .FloorDiv | .pow => .Pow
theorem smallI_ok {i : Int} (h : smallI i = true) : -(2 ^ 64) < i ∧ i < 2 ^ 64 := by
  unfold smallI at h
  rw [Bool.and_eq_true, decide_eq_true_eq, decide_eq_true_eq] at h
  exact h
def CMulA (i j : Int) : Prop := mulOk i j = true
theorem op_mulA {X : Cx} : OpR X (binaryOp .Mult) (rI CMulA fun i j => .int (i * j)) := opI fun i j _ _ _ _ _ hc q => by
  have h : mulOk i j = true := hc
  unfold mulOk at h
  rw [Bool.or_eq_true, Bool.or_eq_true, decide_eq_true_eq] at h
  rcases h with (h | h) | h
  · exact mul_int q (CMul.ok (.inl (smallI_ok h)))
  · exact mul_int q (CMul.ok (.inr (smallI_ok h)))
  · exact mul_int q (CMulW.ok h)
def CDivA (i j : Int) : Prop := 0 < j ∧ j.natAbs.log2 < 9000
/-- an operator's rule over the evaluator's values -/
theorem bop_ok (X : Cx) (o : BO) : ∃ r, OpR X (binaryOp (opOf o)) r ∧ ∀ {tb : Tab} {L : Nat → Option Nat} {μ : List Addr} {σ : L2.St} {H : Hp} {Q : VK} {W : WX} {S : Store} {a b d : D} {va vb : V},
    bop o S a b = some d → SR X.K L μ S H → RD X.K μ μ H a va → RD X.K μ μ H b vb → Po tb X L μ σ H Q W (.ok d S) → r va vb H (Wq Q) := by
  cases o with
  | add =>
    refine ⟨_, ((op_add.or op_add_str).or (op_cat.or op_catA)), ?_⟩
    intro tb L μ σ H Q W S a b d va vb e s ra rb h
    obtain ⟨la, _, ta, _, _, ia, _, sa, _⟩ := s.look ra
    obtain ⟨lb, _, tb', _, _, ib, _, sb, _⟩ := s.look rb
    unfold bop at e
    generalize ea : dr S a = da at e
    generalize eb : dr S b = db at e
    cases da <;> cases db <;> simp only [reduceCtorEq] at e
    · simp only [Option.some.injEq] at e
      subst e
      exact .inl (.inl ⟨_, _, ia _ ea, ib _ eb, h.here s (.i _)⟩)
    · split at e
      · rename_i hz
        simp only [Option.some.injEq] at e
        subst e
        exact .inl (.inr ⟨_, _, sa _ ea, sb _ eb, by rw [← lim_eq]; exact hz, h.here s (.s _)⟩)
      · cases e
    · split at e
      · rename_i hz
        simp only [Option.some.injEq] at e
        subst e
        obtain ⟨ea', a1, xs, rfl, h1, r1⟩ := ta _ ea
        obtain ⟨eb', b1, ys, rfl, h2, r2⟩ := tb' _ eb
        have l1 := r1.length
        have l2 := r2.length
        refine .inr (.inr ⟨a1, b1, xs, ys, rfl, rfl, h1.sq, h2.sq, by rw [l1, l2, ← lim_eq]; exact hz, fun e0 => ?_, fun _ e0 => ?_, fun _ _ p n => h.new s n (.newT s n (r1.append r2))⟩)
        · subst e0
          have e2 := r1.eq_nil
          subst e2
          rw [List.nil_append] at h
          exact h.here s (by rw [eb'] at rb; exact rb)
        · subst e0
          have e2 := r2.eq_nil
          subst e2
          rw [List.append_nil] at h
          exact h.here s (by rw [ea'] at ra; exact ra)
      · cases e
    · split at e
      · rename_i hz
        simp only [Option.some.injEq] at e
        subst e
        obtain ⟨a1, xs, rfl, h1, r1⟩ := la _ ea
        obtain ⟨b1, ys, rfl, h2, r2⟩ := lb _ eb
        exact .inr (.inl ⟨a1, b1, xs, ys, rfl, rfl, h1, h2, by rw [r1.length, r2.length, ← lim_eq]; exact hz, fun p n => h.new s n (.newL s n (r1.append r2))⟩)
      · cases e
  | sub =>
    refine ⟨_, op_sub, ?_⟩
    intro tb L μ σ H Q W S a b d va vb e s ra rb h
    obtain ⟨_, _, _, _, _, ia, _⟩ := s.look ra
    obtain ⟨_, _, _, _, _, ib, _⟩ := s.look rb
    unfold bop at e
    generalize ea : dr S a = da at e
    generalize eb : dr S b = db at e
    cases da <;> cases db <;> simp only [reduceCtorEq] at e
    simp only [Option.some.injEq] at e
    subst e
    exact ⟨_, _, ia _ ea, ib _ eb, h.here s (.i _)⟩
  | mul =>
    refine ⟨_, ((op_mulA.or op_rep).or op_repT), ?_⟩
    intro tb L μ σ H Q W S a b d va vb e s ra rb h
    obtain ⟨la, _, ta, _, _, ia, _, _, _⟩ := s.look ra
    obtain ⟨_, _, _, _, _, ib, _, _, _⟩ := s.look rb
    unfold bop at e
    generalize ea : dr S a = da at e
    generalize eb : dr S b = db at e
    cases da <;> cases db <;> simp only [reduceCtorEq] at e
    · split at e
      · rename_i hz
        simp only [Option.some.injEq] at e
        subst e
        exact .inl (.inl ⟨_, _, ia _ ea, ib _ eb, hz, h.here s (.i _)⟩)
      · cases e
    · split at e
      · rename_i hz
        simp only [Option.some.injEq] at e
        subst e
        obtain ⟨_, a1, xs, rfl, h1, r1⟩ := ta _ ea
        refine .inr ⟨a1, _, xs, rfl, ib _ eb, h1.sq, ?_, hz.2.1, hz.2.2.1, by rw [r1.length]; exact hz.2.2.2, fun p n => h.new s n (.newT s n (r1.rep _))⟩
        intro e0
        subst e0
        exact hz.1 (List.length_eq_zero_iff.mp (by rw [← r1.length]; rfl))
      · cases e
    · split at e
      · rename_i hz
        simp only [Option.some.injEq] at e
        subst e
        obtain ⟨a1, xs, rfl, h1, r1⟩ := la _ ea
        exact .inl (.inr ⟨a1, _, xs, rfl, ib _ eb, h1, by omega, by omega, by rw [r1.length, ← lim_eq]; exact hz.2.2, fun p n => h.new s n (.newL s n (r1.rep _))⟩)
      · cases e
  | mod =>
    refine ⟨_, op_mod, ?_⟩
    intro tb L μ σ H Q W S a b d va vb e s ra rb h
    obtain ⟨_, _, _, _, _, ia, _⟩ := s.look ra
    obtain ⟨_, _, _, _, _, ib, _⟩ := s.look rb
    unfold bop at e
    generalize ea : dr S a = da at e
    generalize eb : dr S b = db at e
    cases da <;> cases db <;> simp only [reduceCtorEq] at e
    split at e
    · rename_i hz
      simp only [Option.some.injEq] at e
      subst e
      exact ⟨_, _, ia _ ea, ib _ eb, hz, h.here s (.i _)⟩
    · cases e
  | fdiv =>
    refine ⟨_, op_fdivW, ?_⟩
    intro tb L μ σ H Q W S a b d va vb e s ra rb h
    obtain ⟨_, _, _, _, _, ia, _⟩ := s.look ra
    obtain ⟨_, _, _, _, _, ib, _⟩ := s.look rb
    unfold bop at e
    generalize ea : dr S a = da at e
    generalize eb : dr S b = db at e
    cases da <;> cases db <;> simp only [reduceCtorEq] at e
    split at e
    · rename_i hz
      simp only [Option.some.injEq] at e
      subst e
      exact ⟨_, _, ia _ ea, ib _ eb, hz, h.here s (.i _)⟩
    · cases e
  | pow =>
    refine ⟨_, op_pow, ?_⟩
    intro tb L μ σ H Q W S a b d va vb e s ra rb h
    obtain ⟨_, _, _, _, _, ia, _⟩ := s.look ra
    obtain ⟨_, _, _, _, _, ib, _⟩ := s.look rb
    unfold bop at e
    generalize ea : dr S a = da at e
    generalize eb : dr S b = db at e
    cases da <;> cases db <;> simp only [reduceCtorEq] at e
    split at e
    · rename_i hz
      simp only [Option.some.injEq] at e
      subst e
      exact ⟨_, _, ia _ ea, ib _ eb, hz, h.here s (.i _)⟩
    · cases e
def copOf : CO → CmpOp
  | .eq => .Eq | .ne => .NotEq | .lt => .Lt | .le => .LtE | .gt => .Gt | .ge => .GtE | .is => .Is | .isn => .IsNot | .mem => .In | .nmem => .NotIn
section
variable {K : Fg} {L : Nat → Option Nat} {μ : List Addr} {H : Hp} {S : Store}
/-- data for ==, through a cell too -/
theorem SR.dp (s : SR K L μ S H) {d : D} {v : V} {p : PyData} (r : RD K μ μ H d v) (e : (dr S d).py = some p) : Dp K H v p := by
  obtain ⟨l, f, t, k, T, i, b, z, n⟩ := s.look r
  generalize ed : dr S d = x at e
  cases x with
  | non => rw [n ed]; simp only [D.py, Option.some.injEq] at e; subst e; exact .non
  | bl c => rw [b _ ed]; simp only [D.py, Option.some.injEq] at e; subst e; exact .bl c
  | int c => rw [i _ ed]; simp only [D.py, Option.some.injEq] at e; subst e; exact .int c
  | str c => rw [z _ ed]; simp only [D.py, Option.some.injEq] at e; subst e; exact .str c
  | tup ds =>
    simp only [D.py, Option.map_eq_some_iff] at e
    obtain ⟨ps, e1, e2⟩ := e
    subst e2
    obtain ⟨_, a, xs, rfl, h1, h2⟩ := t _ ed
    exact .tup h1.sq (RDs.dp _ _ _ e1 h2)
  | lst ds =>
    simp only [D.py, Option.map_eq_some_iff] at e
    obtain ⟨ps, e1, e2⟩ := e
    subst e2
    obtain ⟨a, xs, rfl, h1, h2⟩ := l _ ed
    exact .lst (.of h1) (RDs.dp _ _ _ e1 h2)
  | fzn _ => simp [D.py] at e
  | loc _ => simp [D.py] at e
  | dK _ => simp [D.py] at e
  | dT _ => simp [D.py] at e
  | exc _ _ => simp [D.py] at e
  | ins _ _ => simp [D.py] at e
theorem pyS_ok {d : D} {p : PyData} (e : pyS S d = some p) : (dr S d).py = some p ∧ SeqAt.shaped p = true := by
  unfold pyS at e
  split at e
  · rename_i q hq
    split at e
    · rename_i hs
      simp only [Option.some.injEq] at e
      subst e
      exact ⟨hq, hs⟩
    · cases e
  · cases e
end
def rMemT (K : Fg) (neg : Bool) : R2 := fun x y H Q => ∃ d ds, Dp K H x d ∧ Dp K H y (.tuple ds) ∧ SeqAt.shaped d = true ∧ SeqAt.shaped (.tuple ds) = true ∧ Q (.bl (if neg then !(ds.any fun z => PyData.eqv z d) else ds.any fun z => PyData.eqv z d)) H
theorem shaped_tl {ds : List PyData} (h : SeqAt.shaped (.tuple ds) = true) : PyData.canLayAll0 ds = true := by
  have e := SeqAt.canLay_of_shaped h
  simpa only [PyData.canLay0] using e
theorem op_memT {X : Cx} (hu : X.A.units + 65 < cLine) : OpR X (compareOp .In) (rMemT X.K false) := by
  intro pins s σ H x y v u Q I rx ry h
  obtain ⟨d, ds, hd, he, sd, se, q⟩ := h
  obtain ⟨as, r1⟩ := Dp.reads I d x v hd rx
  obtain ⟨bs, r2⟩ := Dp.reads I (.tuple ds) y u he ry
  exact SeqAt.in_tuple_reads r2 r1 (shaped_tl se) (SeqAt.canLay_of_shaped sd) (room_in_shaped sd hu) ⟨.bl _, H, I, rfl, q⟩
theorem op_nmemT {X : Cx} (hu : X.A.units + 65 < cLine) : OpR X (compareOp .NotIn) (rMemT X.K true) := by
  intro pins s σ H x y v u Q I rx ry h
  obtain ⟨d, ds, hd, he, sd, se, q⟩ := h
  obtain ⟨as, r1⟩ := Dp.reads I d x v hd rx
  obtain ⟨bs, r2⟩ := Dp.reads I (.tuple ds) y u he ry
  exact SeqAt.notIn_tuple_reads r2 r1 (shaped_tl se) (SeqAt.canLay_of_shaped sd) (room_in_shaped sd hu) ⟨.bl _, H, I, rfl, q⟩
theorem lexI_eq : ∀ ns ms : List Int, lexI ns ms = HT.lexLt ns ms
  | [], [] => rfl
  | [], _ :: _ => rfl
  | _ :: _, [] => rfl
  | x :: xs, y :: ys => by
    show (if x = y then lexI xs ys else decide (x < y)) = (if x = y then HT.lexLt xs ys else decide (x < y))
    rw [lexI_eq xs ys]
/-! ### dicts -/
section
variable {K : Fg} {ν μ : List Addr} {H : Hp}
theorem RDK.get {k : Key} : ∀ {kvs : List (Key × D)} {ws : List (Key × V)}, RDK K ν μ H kvs ws → (∀ d, getG kvs k = some d → ∃ v, valV ws k = some v ∧ RD K ν μ H d v) ∧ (getG kvs k).isSome = (valV ws k).isSome
  | [], ws, h => by
    simp only [RDK] at h
    subst h
    exact ⟨fun d e => (by cases e), rfl⟩
  | (x, d) :: kvs, ws, h => by
    simp only [RDK] at h
    obtain ⟨v, r, e, h1, h2⟩ := h
    subst e
    by_cases hk : x = k
    · subst hk
      have e1 : getG ((x, d) :: kvs) x = some d := by simp [getG, List.find?_cons]
      have e2 : valV ((x, v) :: r) x = some v := valV_pos rfl
      rw [e1, e2]
      exact ⟨fun d' e => (by cases e; exact ⟨v, rfl, h1⟩), rfl⟩
    · have e1 : getG ((x, d) :: kvs) k = getG kvs k := by simp [getG, List.find?_cons, hk]
      have e2 : valV ((x, v) :: r) k = valV r k := valV_neg hk
      rw [e1, e2]
      exact RDK.get h2
theorem RDT.get {k : List Key} : ∀ {kvs : List (List Key × D)} {ws : List (List Key × V)}, RDT K ν μ H kvs ws → (∀ d, getG kvs k = some d → ∃ v, valV ws k = some v ∧ RD K ν μ H d v) ∧ (getG kvs k).isSome = (valV ws k).isSome
  | [], ws, h => by
    simp only [RDT] at h
    subst h
    exact ⟨fun d e => (by cases e), rfl⟩
  | (x, d) :: kvs, ws, h => by
    simp only [RDT] at h
    obtain ⟨v, r, e, h1, h2⟩ := h
    subst e
    by_cases hk : x = k
    · subst hk
      have e1 : getG ((x, d) :: kvs) x = some d := by simp [getG, List.find?_cons]
      have e2 : valV ((x, v) :: r) x = some v := valV_pos rfl
      rw [e1, e2]
      exact ⟨fun d' e => (by cases e; exact ⟨v, rfl, h1⟩), rfl⟩
    · have e1 : getG ((x, d) :: kvs) k = getG kvs k := by simp [getG, List.find?_cons, hk]
      have e2 : valV ((x, v) :: r) k = valV r k := valV_neg hk
      rw [e1, e2]
      exact RDT.get h2
theorem RDK.any {k : Key} : ∀ {kvs : List (Key × D)} {ws : List (Key × V)}, RDK K ν μ H kvs ws → (kvs.any fun kv => decide (kv.1 = k)) = (ws.any fun kv => decide (kv.1 = k))
  | [], ws, h => by
    simp only [RDK] at h
    subst h
    rfl
  | (x, d) :: kvs, ws, h => by
    simp only [RDK] at h
    obtain ⟨v, r, e, h1, h2⟩ := h
    subst e
    rw [List.any_cons, List.any_cons, RDK.any h2]
theorem RDT.any {k : List Key} : ∀ {kvs : List (List Key × D)} {ws : List (List Key × V)}, RDT K ν μ H kvs ws → (kvs.any fun kv => decide (kv.1 = k)) = (ws.any fun kv => decide (kv.1 = k))
  | [], ws, h => by
    simp only [RDT] at h
    subst h
    rfl
  | (x, d) :: kvs, ws, h => by
    simp only [RDT] at h
    obtain ⟨v, r, e, h1, h2⟩ := h
    subst e
    rw [List.any_cons, List.any_cons, RDT.any h2]
theorem RDK.length : ∀ {kvs : List (Key × D)} {ws : List (Key × V)}, RDK K ν μ H kvs ws → ws.length = kvs.length
  | [], ws, h => by
    simp only [RDK] at h
    subst h
    rfl
  | (x, d) :: kvs, ws, h => by
    simp only [RDK] at h
    obtain ⟨v, r, e, h1, h2⟩ := h
    subst e
    simp only [List.length_cons, RDK.length h2]
theorem RDT.length : ∀ {kvs : List (List Key × D)} {ws : List (List Key × V)}, RDT K ν μ H kvs ws → ws.length = kvs.length
  | [], ws, h => by
    simp only [RDT] at h
    subst h
    rfl
  | (x, d) :: kvs, ws, h => by
    simp only [RDT] at h
    obtain ⟨v, r, e, h1, h2⟩ := h
    subst e
    simp only [List.length_cons, RDT.length h2]
theorem RDK.app {k : Key} {d : D} {v : V} (hd : RD K ν μ H d v) : ∀ {kvs : List (Key × D)} {ws : List (Key × V)}, RDK K ν μ H kvs ws → RDK K ν μ H (kvs ++ [(k, d)]) (ws ++ [(k, v)])
  | [], ws, h => by
    simp only [RDK] at h
    subst h
    show RDK K ν μ H [(k, d)] [(k, v)]
    simp only [RDK]
    exact ⟨v, [], rfl, hd, rfl⟩
  | (x, e) :: kvs, ws, h => by
    simp only [RDK] at h
    obtain ⟨u, r, e, h1, h2⟩ := h
    subst e
    show RDK K ν μ H ((x, _) :: (kvs ++ [(k, d)])) ((x, u) :: (r ++ [(k, v)]))
    simp only [RDK]
    exact ⟨u, _, rfl, h1, RDK.app hd h2⟩
theorem RDT.app {k : List Key} {d : D} {v : V} (hd : RD K ν μ H d v) : ∀ {kvs : List (List Key × D)} {ws : List (List Key × V)}, RDT K ν μ H kvs ws → RDT K ν μ H (kvs ++ [(k, d)]) (ws ++ [(k, v)])
  | [], ws, h => by
    simp only [RDT] at h
    subst h
    show RDT K ν μ H [(k, d)] [(k, v)]
    simp only [RDT]
    exact ⟨v, [], rfl, hd, rfl⟩
  | (x, e) :: kvs, ws, h => by
    simp only [RDT] at h
    obtain ⟨u, r, e, h1, h2⟩ := h
    subst e
    show RDT K ν μ H ((x, _) :: (kvs ++ [(k, d)])) ((x, u) :: (r ++ [(k, v)]))
    simp only [RDT]
    exact ⟨u, _, rfl, h1, RDT.app hd h2⟩
theorem RDK.repl {k : Key} {d : D} {v : V} (hd : RD K ν μ H d v) : ∀ {kvs : List (Key × D)} {ws : List (Key × V)}, RDK K ν μ H kvs ws → RDK K ν μ H (kvs.map fun kv => if kv.1 = k then (kv.1, d) else kv) (ws.map fun kv => if kv.1 = k then (kv.1, v) else kv)
  | [], ws, h => by
    simp only [RDK] at h
    subst h
    show RDK K ν μ H [] []
    simp only [RDK]
  | (x, e) :: kvs, ws, h => by
    simp only [RDK] at h
    obtain ⟨u, r, e, h1, h2⟩ := h
    subst e
    rw [List.map_cons, List.map_cons]
    by_cases hk : x = k
    · rw [if_pos hk, if_pos hk]
      simp only [RDK]
      exact ⟨v, _, rfl, hd, RDK.repl hd h2⟩
    · rw [if_neg hk, if_neg hk]
      simp only [RDK]
      exact ⟨u, _, rfl, h1, RDK.repl hd h2⟩
theorem RDT.repl {k : List Key} {d : D} {v : V} (hd : RD K ν μ H d v) : ∀ {kvs : List (List Key × D)} {ws : List (List Key × V)}, RDT K ν μ H kvs ws → RDT K ν μ H (kvs.map fun kv => if kv.1 = k then (kv.1, d) else kv) (ws.map fun kv => if kv.1 = k then (kv.1, v) else kv)
  | [], ws, h => by
    simp only [RDT] at h
    subst h
    show RDT K ν μ H [] []
    simp only [RDT]
  | (x, e) :: kvs, ws, h => by
    simp only [RDT] at h
    obtain ⟨u, r, e, h1, h2⟩ := h
    subst e
    rw [List.map_cons, List.map_cons]
    by_cases hk : x = k
    · rw [if_pos hk, if_pos hk]
      simp only [RDT]
      exact ⟨v, _, rfl, hd, RDT.repl hd h2⟩
    · rw [if_neg hk, if_neg hk]
      simp only [RDT]
      exact ⟨u, _, rfl, h1, RDT.repl hd h2⟩
theorem RDK.put {k : Key} {d : D} {v : V} (hd : RD K ν μ H d v) {kvs : List (Key × D)} {ws : List (Key × V)} (h : RDK K ν μ H kvs ws) : RDK K ν μ H (putG kvs k d) (putK ws k v) := by
  unfold putG putK
  rw [RDK.any h]
  split
  · exact RDK.repl hd h
  · exact RDK.app hd h
theorem RDT.put {k : List Key} {d : D} {v : V} (hd : RD K ν μ H d v) {kvs : List (List Key × D)} {ws : List (List Key × V)} (h : RDT K ν μ H kvs ws) : RDT K ν μ H (putG kvs k d) (putK ws k v) := by
  unfold putG putK
  rw [RDT.any h]
  split
  · exact RDT.repl hd h
  · exact RDT.app hd h
theorem RD.key {d : D} {v : V} {k : Key} (h : RD K ν μ H d v) (e : keyOf d = some k) : v = kV k := by
  cases d <;> simp only [keyOf, reduceCtorEq, Option.some.injEq] at e
  · subst e
    simp only [RD] at h
    exact h
  · subst e
    simp only [RD] at h
    exact h
theorem RDs.keys : ∀ {ds : List D} {vs : List V} {ks : List Key}, RDs K ν μ H ds vs → keysOf ds = some ks → vs = ks.map kV
  | [], vs, ks, h, e => by
    simp only [RDs] at h
    simp only [keysOf, Option.some.injEq] at e
    subst h e
    rfl
  | d :: ds, vs, ks, h, e => by
    simp only [RDs] at h
    obtain ⟨x, r, e1, h1, h2⟩ := h
    subst e1
    unfold keysOf at e
    split at e
    · rename_i k ks' e2 e3
      simp only [Option.some.injEq] at e
      subst e
      rw [List.map_cons, RD.key h1 e2, RDs.keys h2 e3]
    · cases e
end
theorem op_din {X : Cx} (hu : X.A.units + 1 < cLine) : OpR X (compareOp .In) (fun y x H Q => ∃ a ov, x = .ref a ∧ DGet H a y ov ∧ Q (.bl ov.isSome) H) := by
  intro pins s σ H y x v u Q I ry rx h
  obtain ⟨a, ov, rfl, g, q⟩ := h
  cases rx
  exact d_in hu I g ry fun s3 I3 => ⟨.bl ov.isSome, H, I3, rfl, q⟩
theorem op_dnin {X : Cx} (hu : X.A.units + 1 < cLine) : OpR X (compareOp .NotIn) (fun y x H Q => ∃ a ov, x = .ref a ∧ DGet H a y ov ∧ Q (.bl (!ov.isSome)) H) := by
  intro pins s σ H y x v u Q I ry rx h
  obtain ⟨a, ov, rfl, g, q⟩ := h
  cases rx
  exact d_notIn hu I g ry fun s3 I3 => ⟨.bl (!ov.isSome), H, I3, rfl, q⟩
def rMem (K : Fg) (f : Bool → Bool) : R2 := fun x y H Q => ∃ c, Q (.bl (f c)) H ∧
  ((∃ d ds, Dp K H x d ∧ Dp K H y (.list ds) ∧ SeqAt.shaped d = true ∧ SeqAt.shaped (.list ds) = true ∧ c = ds.any fun z => PyData.eqv z d) ∨
  (∃ d ds, Dp K H x d ∧ Dp K H y (.tuple ds) ∧ SeqAt.shaped d = true ∧ SeqAt.shaped (.tuple ds) = true ∧ c = ds.any fun z => PyData.eqv z d) ∨
  (∃ a ov, y = .ref a ∧ DGet H a x ov ∧ c = ov.isSome) ∨
  (∃ (s : Nat) (z : Str), x = .str ⟨#[s]⟩ ∧ y = .str z ∧ c = decide (s ∈ z.cps.toList)))
theorem op_mem {X : Cx} (hu : X.A.units + 65 < cLine) : OpR X (compareOp .In) (rMem X.K id) := by
  intro pins s σ H x y v u Q I rx ry h
  obtain ⟨c, q, h⟩ := h
  rcases h with ⟨d, ds, h1, h2, h3, h4, rfl⟩ | ⟨d, ds, h1, h2, h3, h4, rfl⟩ | ⟨a, ov, h1, h2, rfl⟩ | ⟨k, z, h1, h2, rfl⟩
  · exact op_inD hu pins s σ H x y v u Q I rx ry ⟨d, ds, h1, h2, h3, h4, q⟩
  · exact op_memT hu pins s σ H x y v u Q I rx ry ⟨d, ds, h1, h2, h3, h4, q⟩
  · exact op_din (by omega) pins s σ H x y v u Q I rx ry ⟨a, ov, h1, h2, q⟩
  · exact op_in_sign pins s σ H x y v u Q I rx ry ⟨k, z, h1, h2, q⟩
theorem op_nmem {X : Cx} (hu : X.A.units + 65 < cLine) : OpR X (compareOp .NotIn) (rMem X.K not) := by
  intro pins s σ H x y v u Q I rx ry h
  obtain ⟨c, q, h⟩ := h
  rcases h with ⟨d, ds, h1, h2, h3, h4, rfl⟩ | ⟨d, ds, h1, h2, h3, h4, rfl⟩ | ⟨a, ov, h1, h2, rfl⟩ | ⟨k, z, h1, h2, rfl⟩
  · exact op_notInD hu pins s σ H x y v u Q I rx ry ⟨d, ds, h1, h2, h3, h4, q⟩
  · exact op_nmemT hu pins s σ H x y v u Q I rx ry ⟨d, ds, h1, h2, h3, h4, q⟩
  · exact op_dnin (by omega) pins s σ H x y v u Q I rx ry ⟨a, ov, h1, h2, q⟩
  · exact op_notIn_sign pins s σ H x y v u Q I rx ry ⟨k, z, h1, h2, q⟩
theorem py_lst {d : D} {ds : List PyData} (e : d.py = some (.list ds)) : ∃ xs, d = .lst xs := by
  cases d with
  | lst xs => exact ⟨xs, rfl⟩
  | tup xs => simp only [D.py, Option.map_eq_some_iff, reduceCtorEq, and_false, exists_false] at e
  | _ => simp [D.py] at e
theorem memD_ok {K : Fg} {L : Nat → Option Nat} {μ : List Addr} {H : Hp} {Q : VK} {S : Store} {a b : D} {va vb : V} {c : Bool} {f : Bool → Bool} (e : memD S a b = some c) (s : SR K L μ S H) (ra : RD K μ μ H a va) (rb : RD K μ μ H b vb) (q : Q (.bl (f c)) H) : rMem K f va vb H Q := by
  obtain ⟨l, fz, t, k, T, i, bb, z, n⟩ := s.look rb
  refine ⟨c, q, ?_⟩
  unfold memD at e
  generalize eb : dr S b = db at e
  cases db <;> simp only [reduceCtorEq] at e
  · rename_i zs
    cases a <;> simp only [reduceCtorEq] at e
    rename_i xs
    split at e
    · rename_i ch hc
      simp only [Option.some.injEq] at e
      subst e
      refine .inr (.inr (.inr ⟨ch, zs, ?_, z _ eb, rfl⟩))
      have ex : va = .str xs := by simpa only [RD] using ra
      rw [ex]
      congr 1
      obtain ⟨⟨cl⟩⟩ := xs
      have hc' : cl = [ch] := hc
      rw [hc']
    · cases e
  · split at e
    · rename_i x ys h1 h2
      simp only [Option.some.injEq] at e
      subst e
      obtain ⟨p1, s1⟩ := pyS_ok h1
      obtain ⟨p2, s2⟩ := pyS_ok h2
      exact .inr (.inl ⟨_, _, s.dp ra p1, s.dp rb p2, s1, s2, rfl⟩)
    · cases e
  · split at e
    · rename_i x ys h1 h2
      simp only [Option.some.injEq] at e
      subst e
      obtain ⟨p1, s1⟩ := pyS_ok h1
      obtain ⟨p2, s2⟩ := pyS_ok h2
      exact .inl ⟨_, _, s.dp ra p1, s.dp rb p2, s1, s2, rfl⟩
    · cases e
  · simp only [Option.map_eq_some_iff] at e
    obtain ⟨ky, e1, rfl⟩ := e
    obtain ⟨ad, ws, rfl, h1, h2⟩ := k _ eb
    refine .inr (.inr (.inl ⟨ad, valV ws ky, rfl, ?_, (RDK.get h2).2⟩))
    rw [RD.key ra e1]
    exact .k h1
  · cases a <;> simp only [reduceCtorEq, Option.map_eq_some_iff] at e
    obtain ⟨ky, e1, rfl⟩ := e
    obtain ⟨ad, ws, rfl, h1, h2⟩ := T _ eb
    simp only [RD] at ra
    obtain ⟨p, xs, rfl, ⟨t1, _⟩, r⟩ := ra
    rw [RDs.keys r e1] at t1
    exact .inr (.inr (.inl ⟨ad, valV ws ky, rfl, .t h1 t1, (RDT.get h2).2⟩))
theorem isNon_ok {K : Fg} {ν μ : List Addr} {H : Hp} {d : D} {v : V} (r : RD K ν μ H d v) : isNon d = decide (v = .non) := by
  cases d <;> simp only [RD] at r
  · subst r; simp [isNon]
  · subst r; simp [isNon]
  · subst r; simp [isNon]
  · subst r; simp [isNon]
  · obtain ⟨a, xs, rfl, _⟩ := r; simp [isNon]
  · obtain ⟨a, xs, rfl, _⟩ := r; simp [isNon]
  · obtain ⟨a, xs, rfl, _⟩ := r; simp [isNon]
  · obtain ⟨a, rfl, _⟩ := r; simp [isNon]
  · obtain ⟨a, xs, rfl, _⟩ := r; simp [isNon]
  · obtain ⟨a, xs, rfl, _⟩ := r; simp [isNon]
/-- a comparison's rule over the evaluator's values -/
theorem cop_ok (X : Cx) (hu : X.A.units + 65 < cLine) (o : CO) : ∃ r, OpR X (compareOp (copOf o)) r ∧ ∀ {tb : Tab} {L : Nat → Option Nat} {μ : List Addr} {σ : L2.St} {H : Hp} {Q : VK} {W : WX} {S : Store} {a b : D} {c : Bool} {va vb : V},
    cop o S a b = some c → SR X.K L μ S H → RD X.K μ μ H a va → RD X.K μ μ H b vb → Q (.bl c) H → r va vb H Q := by
  cases o with
  | eq =>
    refine ⟨_, op_eqD (by omega), ?_⟩
    intro tb L μ σ H Q W S a b c va vb e s ra rb h
    unfold cop at e; (try dsimp only at e)
    split at e
    · rename_i x y h1 h2
      simp only [Option.some.injEq] at e
      subst e
      obtain ⟨p1, s1⟩ := pyS_ok h1
      obtain ⟨p2, s2⟩ := pyS_ok h2
      exact ⟨_, _, s.dp ra p1, s.dp rb p2, s1, s2, h⟩
    · cases e
  | ne =>
    refine ⟨_, op_neD (by omega), ?_⟩
    intro tb L μ σ H Q W S a b c va vb e s ra rb h
    unfold cop at e; (try dsimp only at e)
    split at e
    · rename_i x y h1 h2
      simp only [Option.some.injEq] at e
      subst e
      obtain ⟨p1, s1⟩ := pyS_ok h1
      obtain ⟨p2, s2⟩ := pyS_ok h2
      exact ⟨_, _, s.dp ra p1, s.dp rb p2, s1, s2, h⟩
    · cases e
  | lt =>
    refine ⟨_, (op_lt.or (op_ltT (by omega))), ?_⟩
    intro tb L μ σ H Q W S a b c va vb e s ra rb h
    obtain ⟨_, _, ta, _, _, ia, _⟩ := s.look ra
    obtain ⟨_, _, tb', _, _, ib, _⟩ := s.look rb
    unfold cop at e; (try dsimp only at e)
    generalize ea : dr S a = da at e
    generalize eb : dr S b = db at e
    cases da <;> cases db <;> simp only [reduceCtorEq] at e
    · simp only [Option.some.injEq] at e
      subst e
      exact .inl ⟨_, _, ia _ ea, ib _ eb, h⟩
    · split at e
      · rename_i ns ms h1 h2
        simp only [Option.some.injEq] at e
        subst e
        obtain ⟨_, a1, xs, rfl, q1, r1⟩ := ta _ ea
        obtain ⟨_, b1, ys, rfl, q2, r2⟩ := tb' _ eb
        have e1 := RDs.ints h1 r1
        have e2 := RDs.ints h2 r2
        subst e1 e2
        rw [lexI_eq] at h
        exact .inr ⟨a1, b1, ns, ms, rfl, rfl, q1.sq, q2.sq, h⟩
      · cases e
  | le =>
    refine ⟨_, op_le, ?_⟩
    intro tb L μ σ H Q W S a b c va vb e s ra rb h
    unfold cop at e; (try dsimp only at e)
    cases a <;> cases b <;> simp only [reduceCtorEq] at e
    simp only [Option.some.injEq] at e
    subst e
    simp only [RD] at ra rb
    exact ⟨_, _, ra, rb, h⟩
  | gt =>
    refine ⟨_, op_gt, ?_⟩
    intro tb L μ σ H Q W S a b c va vb e s ra rb h
    unfold cop at e; (try dsimp only at e)
    cases a <;> cases b <;> simp only [reduceCtorEq] at e
    simp only [Option.some.injEq] at e
    subst e
    simp only [RD] at ra rb
    exact ⟨_, _, ra, rb, h⟩
  | ge =>
    refine ⟨_, op_ge, ?_⟩
    intro tb L μ σ H Q W S a b c va vb e s ra rb h
    unfold cop at e; (try dsimp only at e)
    cases a <;> cases b <;> simp only [reduceCtorEq] at e
    simp only [Option.some.injEq] at e
    subst e
    simp only [RD] at ra rb
    exact ⟨_, _, ra, rb, h⟩
  | is =>
    refine ⟨_, op_isN, ?_⟩
    intro tb L μ σ H Q W S a b c va vb e s ra rb h
    unfold cop at e; (try dsimp only at e)
    cases b <;> simp only [reduceCtorEq] at e
    simp only [Option.some.injEq] at e
    subst e
    rw [isNon_ok ra] at h
    simp only [RD] at rb
    exact ⟨rb, h⟩
  | isn =>
    refine ⟨_, op_notN, ?_⟩
    intro tb L μ σ H Q W S a b c va vb e s ra rb h
    unfold cop at e; (try dsimp only at e)
    cases b <;> simp only [reduceCtorEq] at e
    simp only [Option.some.injEq] at e
    subst e
    rw [isNon_ok ra] at h
    simp only [RD] at rb
    exact ⟨rb, h⟩
  | mem =>
    refine ⟨_, op_mem hu, ?_⟩
    intro tb L μ σ H Q W S a b c va vb e s ra rb h
    exact memD_ok (f := id) e s ra rb h
  | nmem =>
    refine ⟨_, op_nmem hu, ?_⟩
    intro tb L μ σ H Q W S a b c va vb e s ra rb h
    simp only [cop, Option.map_eq_some_iff] at e
    obtain ⟨c', e1, rfl⟩ := e
    exact memD_ok (f := not) e1 s ra rb h
end EV
/-! EVb: sum, max, min of a tuple; index in a tuple of data. -/
namespace EV
open PySem PySem.Spec PyProof.Rows L2
section
variable {prog : Program} {w : World} {A : Around} {E : Value → Shared → Prop} {s : Shared} {l : Addr} {xs : Array (Int × Tok)}
theorem tupSize {Q : Value → Shared → Prop} {vs : Array Value} (hl : s.heap.IsTuple l vs)
    (h : ∀ s₂ : Shared, s₂ = { s with heap := s.heap.push { cls := .type "tuple_iterator", data := .fields #[.ref l, .int 0 0] } } →
      (s₂.heap.IsTupleIter s.heap.objs.size l 0 ∧ s₂.heap.IsTuple l vs) → (∀ b ∈ [s.heap.objs.size, l], b < s₂.heap.objs.size) → l ≠ s.heap.objs.size → Q (.ref s.heap.objs.size) s₂) :
    wpAny (model prog w) A (pyIter (.ref l)) Q E s := by
  have hlt : l < s.heap.objs.size := by obtain ⟨_, e, _⟩ := hl; exact Heap.lt_size e
  refine wpAny_pyIter_tuple hl (h _ rfl ⟨⟨_, Heap.get?_push_size _ rfl, rfl, rfl⟩, hl.push _⟩ (fun b hb => ?_) (Nat.ne_of_lt hlt))
  show b < (s.heap.push _).objs.size
  rw [Heap.size_push]
  rcases List.mem_cons.mp hb with rfl | hb
  · exact Nat.lt_succ_self _
  · rcases List.mem_cons.mp hb with rfl | hb
    · exact Nat.lt_succ_of_lt hlt
    · cases hb
theorem tup_kept {h' : Heap} (hk : ∀ b o, b ∉ [s.heap.objs.size] → (s.heap.push { cls := .type "tuple_iterator", data := .fields #[.ref l, .int 0 0] }).get? b = some o → h'.get? b = some o) :
    ∀ b o, s.heap.get? b = some o → h'.get? b = some o := fun b o e => by
  refine hk b o (fun hm => ?_) (Heap.get?_push_of_some _ e)
  rcases List.mem_cons.mp hm with e1 | hm
  · exact absurd (e1 ▸ Heap.lt_size e) (Nat.lt_irrefl _)
  · cases hm
theorem max_tupG {Q : Value → Shared → Prop} (hh : A.handled = none) (hl : s.heap.IsTuple l (intItems xs)) (hne : 0 < xs.size)
    (h : ∀ v h' tk, (intItems xs)[argBest (fun i j => decide (numAt xs i > numAt xs j)) (xs.size - 1)]? = some v → (∀ b o, s.heap.get? b = some o → h'.get? b = some o) → Q v { s with heap := h', toks := tk }) :
    wpAny (model prog w) A (call (.builtin "max") [.ref l]) Q E s := by
  refine call_max_walk (tupSize hl fun s₂ e st hfp hlI => ?_)
  subst e
  refine ⟨_, _, _, _, _, _, _, rfl, Walks.tuple (A := A.in1) hh _ l hlI (intItems xs), st, hfp, by simpa [intItems] using hne, CmpOf.ints_gt (numAt xs) (fun _ _ => intItems_at), fun v h' tk hP hk => ?_⟩
  exact h v h' tk (by simpa [intItems] using hP) (tup_kept hk)
theorem min_tupG {Q : Value → Shared → Prop} (hh : A.handled = none) (hl : s.heap.IsTuple l (intItems xs)) (hne : 0 < xs.size)
    (h : ∀ v h' tk, (intItems xs)[argBest (fun i j => decide (numAt xs i < numAt xs j)) (xs.size - 1)]? = some v → (∀ b o, s.heap.get? b = some o → h'.get? b = some o) → Q v { s with heap := h', toks := tk }) :
    wpAny (model prog w) A (call (.builtin "min") [.ref l]) Q E s := by
  refine call_min_walk (tupSize hl fun s₂ e st hfp hlI => ?_)
  subst e
  refine ⟨_, _, _, _, _, _, _, rfl, Walks.tuple (A := A.in1) hh _ l hlI (intItems xs), st, hfp, by simpa [intItems] using hne, CmpOf.ints_lt (numAt xs) (fun _ _ => intItems_at), fun v h' tk hP hk => ?_⟩
  exact h v h' tk (by simpa [intItems] using hP) (tup_kept hk)
theorem sum_tupG {Q : Value → Shared → Prop} (hh : A.handled = none) (hl : s.heap.IsTuple l (intItems xs))
    (h : ∀ h' tk t', (∀ b o, s.heap.get? b = some o → h'.get? b = some o) → Q (.int (preSum (numAt xs) xs.size) t') { s with heap := h', toks := tk }) :
    wpAny (model prog w) A (call (.builtin "sum") [.ref l]) Q E s := by
  refine call_sum_walkG (tupSize hl fun s₂ e st hfp hlI => ?_)
  subst e
  refine ⟨_, _, _, _, _, _, numAt xs, rfl, Walks.tuple (A := A.in1) hh _ l hlI (intItems xs), st, hfp, (fun _ _ => intItems_at), fun h' tk t' hk => ?_⟩
  have := h h' tk t' (tup_kept hk)
  simpa [intItems] using this
end
section
variable {prog : Program} {w : World} {A : Around} {E : Value → Shared → Prop} {s : Shared} {l : Addr} {its : List Value} {ns : List Int} {Q : Value → Shared → Prop}
theorem sum_rawT (hh : A.handled = none) (hl : s.heap.IsTuple l its.toArray) (hi : IntsAre its ns)
    (h : ∀ h' tk t', (∀ b o, s.heap.get? b = some o → h'.get? b = some o) → Q (.int ns.sum t') { s with heap := h', toks := tk }) : wpAny (model prog w) A (call (.builtin "sum") [.ref l]) Q E s := by
  obtain ⟨xs, e⟩ := hi.allInts.items
  have hn : numsOf (intItems xs).toList = ns := by rw [← e]; exact hi.numsOf
  rw [nums_intItems] at hn
  rw [e] at hl
  refine sum_tupG hh hl fun h' tk t' hk => ?_
  have := h h' tk t' hk
  rw [preSum_eq, List.take_of_length_le (by simp), hn]; exact this
theorem max_rawT (hh : A.handled = none) (hl : s.heap.IsTuple l its.toArray) (hi : IntsAre its ns) (hne : 0 < ns.length)
    (h : ∀ h' tk M t', (∀ b o, s.heap.get? b = some o → h'.get? b = some o) → M ∈ ns → (∀ a, a ∈ ns → a ≤ M) → Q (.int M t') { s with heap := h', toks := tk }) : wpAny (model prog w) A (call (.builtin "max") [.ref l]) Q E s := by
  obtain ⟨xs, e⟩ := hi.allInts.items
  have hn : numsOf (intItems xs).toList = ns := by rw [← e]; exact hi.numsOf
  rw [nums_intItems] at hn
  subst hn
  rw [e] at hl
  have hsz : 0 < xs.size := by simpa using hne
  refine max_tupG hh hl hsz fun v h' tk hv hk => ?_
  obtain ⟨t, rfl⟩ := intItems_at hv
  obtain ⟨h1, h2⟩ := argBest_gt (numAt xs) (xs.size - 1)
  refine h h' tk _ t hk ?_ fun a ha => ?_
  · rw [numAt_eq]; exact PySem.getD_mem (by rw [List.length_map, Array.length_toList]; omega)
  · obtain ⟨j, hj, rfl⟩ := mem_getD ha
    rw [List.length_map, Array.length_toList] at hj
    rw [← numAt_eq]; exact h2 j (by omega)
theorem min_rawT (hh : A.handled = none) (hl : s.heap.IsTuple l its.toArray) (hi : IntsAre its ns) (hne : 0 < ns.length)
    (h : ∀ h' tk M t', (∀ b o, s.heap.get? b = some o → h'.get? b = some o) → M ∈ ns → (∀ a, a ∈ ns → M ≤ a) → Q (.int M t') { s with heap := h', toks := tk }) : wpAny (model prog w) A (call (.builtin "min") [.ref l]) Q E s := by
  obtain ⟨xs, e⟩ := hi.allInts.items
  have hn : numsOf (intItems xs).toList = ns := by rw [← e]; exact hi.numsOf
  rw [nums_intItems] at hn
  subst hn
  rw [e] at hl
  have hsz : 0 < xs.size := by simpa using hne
  refine min_tupG hh hl hsz fun v h' tk hv hk => ?_
  obtain ⟨t, rfl⟩ := intItems_at hv
  obtain ⟨h1, h2⟩ := argBest_lt (numAt xs) (xs.size - 1)
  refine h h' tk _ t hk ?_ fun a ha => ?_
  · rw [numAt_eq]; exact PySem.getD_mem (by rw [List.length_map, Array.length_toList]; omega)
  · obtain ⟨j, hj, rfl⟩ := mem_getD ha
    rw [List.length_map, Array.length_toList] at hj
    rw [← numAt_eq]; exact h2 j (by omega)
end
section
variable {X : Cx}
theorem cr_sumT (hc : X.calm = true) : CallR X (.builtin "sum") (fun vs H Q => ∃ (a : Addr) (ns : List Int), vs = [V.ref a] ∧ SqT X.K H a (ns.map V.int) ∧ Q (.int ns.sum) H) := by
  intro pins s σ H vs us Q I r h
  obtain ⟨a, ns, rfl, hs, q⟩ := h
  obtain ⟨its, rv, hl, _⟩ := I.tuple hs
  rw [Vals.ref1 r]
  exact sum_rawT (I.ok.hd hc) hl rv.ints fun h' tk t' hk => ⟨.int _, H, I.kept hk, ⟨_, rfl⟩, q⟩
theorem cr_maxT (hc : X.calm = true) : CallR X (.builtin "max") (fun vs H Q => ∃ (a : Addr) (ns : List Int), vs = [V.ref a] ∧ SqT X.K H a (ns.map V.int) ∧ 0 < ns.length ∧ ∀ m, m ∈ ns → (∀ y, y ∈ ns → y ≤ m) → Q (.int m) H) := by
  intro pins s σ H vs us Q I r h
  obtain ⟨a, ns, rfl, hs, hne, q⟩ := h
  obtain ⟨its, rv, hl, _⟩ := I.tuple hs
  rw [Vals.ref1 r]
  exact max_rawT (I.ok.hd hc) hl rv.ints hne fun h' tk m t' hk h1 h2 => ⟨.int _, H, I.kept hk, ⟨_, rfl⟩, q m h1 h2⟩
theorem cr_minT (hc : X.calm = true) : CallR X (.builtin "min") (fun vs H Q => ∃ (a : Addr) (ns : List Int), vs = [V.ref a] ∧ SqT X.K H a (ns.map V.int) ∧ 0 < ns.length ∧ ∀ m, m ∈ ns → (∀ y, y ∈ ns → m ≤ y) → Q (.int m) H) := by
  intro pins s σ H vs us Q I r h
  obtain ⟨a, ns, rfl, hs, hne, q⟩ := h
  obtain ⟨its, rv, hl, _⟩ := I.tuple hs
  rw [Vals.ref1 r]
  exact min_rawT (I.ok.hd hc) hl rv.ints hne fun h' tk m t' hk h1 h2 => ⟨.int _, H, I.kept hk, ⟨_, rfl⟩, q m h1 h2⟩
/-- t.index(x) of data: the first place of an equal one -/
def rIndexT (K : PySem.W.Frag) : V → List V → Hp → VK → Prop := fun x xs H Q => ∃ (a : Addr) (y : V) (d : PyData) (ds : List PyData) (j : Nat) (z : PyData), x = V.ref a ∧ xs = [y] ∧ Dp K H (V.ref a) (.tuple ds) ∧ Dp K H y d ∧
  SeqAt.shaped (.tuple ds) = true ∧ SeqAt.shaped d = true ∧ ds[j]? = some z ∧ PyData.eqv z d = true ∧ (∀ (m : Nat) (z' : PyData), m < j → ds[m]? = some z' → PyData.eqv z' d = false) ∧ Q (.int (j : Nat)) H
theorem mt_indexT (hu : X.A.units + 65 < cLine) : MtR X "tuple.index" (rIndexT X.K) := by
  intro pins s σ H x xs v us Q I rx rxs h
  obtain ⟨a, y, d, ds, j, z, rfl, rfl, hl, hy, sl, sd, hz, hzj, hno, q⟩ := h
  cases rx
  cases rxs with
  | cons ry rt =>
    rename_i uy ut
    cases rt
    obtain ⟨bs, r1⟩ := Dp.reads I d y uy hy ry
    have hxs : PyData.canLayAll0 ds = true := SeqAt.canLay_of_shaped sl
    have hroom : X.A.units + 1 + min (PyData.depthAll ds) d.depth < cLine := room_in_shaped (xs := ds) sd hu
    cases hl with
    | tup hs ha =>
      obtain ⟨its, rv, ⟨⟨cls, dd, data, sls⟩, ho, hc, n, hdt⟩, hlen⟩ := I.tuple hs
      simp only at hc hdt
      subst hc hdt
      obtain ⟨as, h4⟩ := Dp.readsAll I ds _ its ha rv
      have hn : its.length = ds.length := SeqAt.ReadsAll.length ds its as h4
      have hmap : its.map (SeqAt.readOf s.heap) = ds := SeqAt.readsAll_map ds its as hxs h4
      obtain ⟨hjd, _⟩ := List.getElem?_eq_some_iff.mp hz
      have hjl : j < its.length := by omega
      have hj : j < its.toArray.size := by simpa using hjl
      have at_ : ∀ (m : Nat) (hm : m < its.toArray.size) (z' : PyData), ds[m]? = some z' → SeqAt.readOf s.heap its.toArray[m] = z' := by
        intro m hm z' hz'
        have hml : m < its.length := by simpa using hm
        rw [← hmap, List.getElem?_map, List.getElem?_eq_getElem hml] at hz'
        have e1 : SeqAt.readOf s.heap its[m] = z' := Option.some.inj (show some (SeqAt.readOf s.heap its[m]) = some z' from hz')
        simpa using e1
      refine call_meets PySem.F.slot_tuple_index ⟨_, ho, rfl⟩ PySem.F.entry_tuple_index (PySem.F.args_tuple_index_2 _ _)
        (TI.tuple_indexAt a its.toArray n dd sls uy (fun u => PyData.eqv (SeqAt.readOf s.heap u) d) j hj ?_ ?_) ⟨ho, SeqAt.items_eqAt (vs := its.toArray) (show ReadsAll s.heap its.toArray.toList ds as from h4) r1 hxs (SeqAt.canLay_of_shaped sd) hroom, ?_⟩
      · show PyData.eqv (SeqAt.readOf s.heap its.toArray[j]) d = true
        rw [at_ j hj z hz]
        exact hzj
      · intro m hm hmj
        have hmd : m < ds.length := by omega
        have hz' : ds[m]? = some ds[m] := List.getElem?_eq_getElem hmd
        show PyData.eqv (SeqAt.readOf s.heap its.toArray[m]) d = false
        rw [at_ m hm _ hz']
        exact hno m _ hmj hz'
      · exact ⟨.int (j : Nat), H, I.tok _, ⟨_, rfl⟩, q⟩
/-- tuple(range(i, j, -1)) -/
def rgVd (i j : Int) : List V := (List.range (i - j).toNat).map fun (n : Nat) => .int (i + (n : Int) * (-1))
theorem vals_rgd {i j : Int} {acc : Array Value} (h : ItemsOf (fun n v => ∃ t, v = .int (i + (n : Int) * (-1)) t) acc (i - j).toNat) : Vals (rgVd i j) acc.toList := by
  have e : acc.toList.length = (i - j).toNat := by rw [Array.length_toList]; exact h.1
  unfold rgVd
  rw [← e]
  refine vals_of_get acc.toList _ fun n u hn => ?_
  obtain ⟨t, rfl⟩ := h.2 n u (by rw [← hn, Array.getElem?_toList])
  exact ⟨t, rfl⟩
theorem pe_tupDown {a b c : Expr} {ta : TA} {p p2 pos2 pos : Pos} (hc : X.calm = true) (hg : Gl X "tuple") (hm : X.mg "tuple" = none) (hg2 : Gl X "range") (hm2 : X.mg "range" = none) (ha : PA X [a, b, c] ta)
    (hs : starEach [a, b, c] X.env = (false, eval a X.env) :: starEach [b, c] X.env) (hpl : (backTo pos2 (starEach [b, c] X.env)).any (·.1) = false)
    (na : starEach [Expr.Call (.Name "range" p2) [a, b, c] [] pos2] X.env = (false, eval (Expr.Call (.Name "range" p2) [a, b, c] [] pos2) X.env) :: starEach [] X.env := by rfl) :
    PE X (.Call (.Name "tuple" p) [.Call (.Name "range" p2) [a, b, c] [] pos2] [] pos) (fun σ H Q => ta σ H fun vs H1 => ∃ i j, vs = [.int i, .int j, .int (-1)] ∧ (-(2 ^ 62) ≤ i ∧ i < 2 ^ 62) ∧ (-(2 ^ 62) ≤ j ∧ j < 2 ^ 62) ∧ (i - j).toNat ≤ 2 ^ 24 ∧ ∀ q, H1 q = none → Q (.ref q) (upd H1 q (.tup (rgVd i j)))) := by
  refine ⟨fun pins s σ H Q I h => ?_⟩
  refine Call_ (ld_blt I hg hm boot_tuple (PyProof.Rows.callWith_type1 (args_cons ?_ na) na))
  refine Call_ (ld_blt I hg2 hm2 boot_range (PyProof.Rows.callWith_type1 (thn (ha.run pos2 pins s σ H _ I h) fun us s1 ⟨vs, H1, I1, r1, q1⟩ => ?_) hs hpl))
  obtain ⟨i, j, e, ⟨a1, a2⟩, ⟨b1, b2⟩, hl, q⟩ := q1
  subst e
  cases r1 with
  | cons r rr =>
    cases rr with
    | cons r' rr =>
      cases rr with
      | cons r'' rr =>
        cases rr
        obtain ⟨t, rfl⟩ := r
        obtain ⟨t', rfl⟩ := r'
        obtain ⟨t'', rfl⟩ := r''
        obtain ⟨c0, c1, c2, c3⟩ := RgC.neg a1 a2 b1 b2
        refine call_range_3 c0 ?_ (.inl (PyProof.noPylong_small c1))
        refine args_nil ?_
        have I2 : Inv X pins σ H1 { s1 with heap := s1.heap.push { cls := .type "range", data := .fields #[.int i t, .int j t', .int (-1) t''] } } := I1.kept (t' := s1.toks) fun b o e => Heap.get?_push_of_some _ e
        refine call_tuple_range (n := (i - j).toNat) (I2.ok.hd hc) (IsRange.new ..) c2 c3 hl fun h' tk acc hk hi => ?_
        have I3 := I2.kept (t' := tk) hk
        refine ⟨.ref h'.objs.size, upd H1 h'.objs.size (.tup (rgVd i j)), I3.laid (t' := tk) (fun c o e => Heap.get?_push_of_some _ e) (Nat.le_refl _) (show ObjOk X.prog X.w _ _ _ (.tup (rgVd i j)) from ⟨?_, acc.toList, vals_rgd hi, ?_⟩), rfl, q _ (I3.hok.fresh (Nat.le_refl _))⟩
        · simp only [rgVd, List.length_map, List.length_range, sizeLine_eq]; omega
        · rw [Array.toArray_toList]; exact IsTup.new _ _
end
end EV
/-! EV5: truth, built-ins, subscripts, slices by values. -/
namespace EV
open PySem PySem.Spec PyProof.Rows L2
section
variable {K : Fg} {L : Nat → Option Nat} {ν μ : List Addr} {H : Hp} {S : Store}
theorem RDs.isEmpty {ds : List D} {xs : List V} (h : RDs K ν μ H ds xs) : xs.isEmpty = ds.isEmpty := by
  have e := h.length
  cases ds <;> cases xs <;> simp_all
theorem tru_ok {d : D} {v : V} {b : Bool} (e : tru S d = some b) (s : SR K L μ S H) (r : RD K μ μ H d v) : TruV K v H b := by
  obtain ⟨l, fz, t, k, T, i, bb, z, n⟩ := s.look r
  unfold tru at e
  generalize ed : dr S d = x at e
  cases x <;> simp only [reduceCtorEq] at e
  · rw [n ed]
    simp only [Option.some.injEq] at e
    exact e.symm
  · rw [bb _ ed]
    simp only [Option.some.injEq] at e
    exact e.symm
  · rw [i _ ed]
    simp only [Option.some.injEq] at e
    exact e.symm
  · rw [z _ ed]
    split at e
    · rename_i w hz
      simp only [Option.some.injEq] at e
      refine ⟨by rw [← lim_eq]; exact hz, ?_⟩
      rw [← e]
      rw [Bool.eq_iff_iff]
      simp
    · cases e
  · obtain ⟨_, a, xs, rfl, h1, h2⟩ := t _ ed
    simp only [Option.some.injEq] at e
    exact .inr (.inl ⟨xs, h1.sq, by rw [h2.isEmpty]; exact e.symm⟩)
  · obtain ⟨a, xs, rfl, h1, h2⟩ := l _ ed
    simp only [Option.some.injEq] at e
    exact .inl ⟨xs, .of h1, by rw [h2.isEmpty]; exact e.symm⟩
  · obtain ⟨a, xs, rfl, h1, h2⟩ := fz _ ed
    simp only [Option.some.injEq] at e
    exact .inl ⟨xs, h1, by rw [h2.isEmpty]; exact e.symm⟩
/-- a list that is read, in a cell or not -/
theorem SR.seq (s : SR K L μ S H) {d : D} {v : V} (r : RD K μ μ H d v) {ds : List D} (e : dr S d = .lst ds ∨ dr S d = .fzn ds) : ∃ a xs, v = .ref a ∧ SqL K H a xs ∧ RDs K μ μ H ds xs := by
  obtain ⟨l, fz, _⟩ := s.look r
  rcases e with e | e
  · obtain ⟨a, xs, h1, h2, h3⟩ := l _ e
    exact ⟨a, xs, h1, .of h2, h3⟩
  · exact fz _ e
end
/-! ### greatest and least, sorting -/
theorem maxI_mem : ∀ (x : Int) (r : List Int), maxI (x :: r) ∈ x :: r ∧ ∀ y ∈ x :: r, y ≤ maxI (x :: r)
  | x, [] => ⟨List.mem_cons_self, fun y hy => by rw [List.mem_singleton.mp hy]; exact Int.le_refl _⟩
  | x, z :: r => by
    obtain ⟨h1, h2⟩ := maxI_mem z r
    have e : maxI (x :: z :: r) = if x < maxI (z :: r) then maxI (z :: r) else x := rfl
    rw [e]
    split
    · rename_i hx
      refine ⟨List.mem_cons_of_mem _ h1, fun y hy => ?_⟩
      rcases List.mem_cons.mp hy with rfl | hy
      · omega
      · exact h2 y hy
    · rename_i hx
      refine ⟨List.mem_cons_self, fun y hy => ?_⟩
      rcases List.mem_cons.mp hy with rfl | hy
      · exact Int.le_refl _
      · have := h2 y hy
        omega
theorem minI_mem : ∀ (x : Int) (r : List Int), minI (x :: r) ∈ x :: r ∧ ∀ y ∈ x :: r, minI (x :: r) ≤ y
  | x, [] => ⟨List.mem_cons_self, fun y hy => by rw [List.mem_singleton.mp hy]; exact Int.le_refl _⟩
  | x, z :: r => by
    obtain ⟨h1, h2⟩ := minI_mem z r
    have e : minI (x :: z :: r) = if minI (z :: r) < x then minI (z :: r) else x := rfl
    rw [e]
    split
    · rename_i hx
      refine ⟨List.mem_cons_of_mem _ h1, fun y hy => ?_⟩
      rcases List.mem_cons.mp hy with rfl | hy
      · omega
      · exact h2 y hy
    · rename_i hx
      refine ⟨List.mem_cons_self, fun y hy => ?_⟩
      rcases List.mem_cons.mp hy with rfl | hy
      · exact Int.le_refl _
      · have := h2 y hy
        omega
theorem insI_perm (x : Int) : ∀ l : List Int, (insI x l).Perm (x :: l)
  | [] => .refl _
  | y :: r => by
    unfold insI
    split
    · exact .refl _
    · exact ((insI_perm x r).cons y).trans (.swap x y r)
theorem sortI_perm : ∀ l : List Int, (sortI l).Perm l
  | [] => .refl _
  | x :: r => (insI_perm x (sortI r)).trans ((sortI_perm r).cons x)
theorem insI_sorted (x : Int) : ∀ l : List Int, l.Pairwise (· ≤ ·) → (insI x l).Pairwise (· ≤ ·)
  | [], _ => List.pairwise_singleton _ _
  | y :: r, h => by
    unfold insI
    rw [List.pairwise_cons] at h
    split
    · rename_i hx
      rw [List.pairwise_cons, List.pairwise_cons]
      refine ⟨fun z hz => ?_, h⟩
      rcases List.mem_cons.mp hz with rfl | hz
      · exact hx
      · have := h.1 z hz
        omega
    · rename_i hx
      rw [List.pairwise_cons]
      refine ⟨fun z hz => ?_, insI_sorted x r h.2⟩
      rcases List.mem_cons.mp ((insI_perm x r).mem_iff.mp hz) with rfl | hz
      · omega
      · exact h.1 z hz
theorem sortI_sorted : ∀ l : List Int, (sortI l).Pairwise (· ≤ ·)
  | [] => .nil
  | x :: r => insI_sorted x _ (sortI_sorted r)
theorem lexI_irrefl : ∀ l : List Int, lexI l l = false
  | [] => rfl
  | x :: r => by
    show (if x = x then lexI r r else decide (x < x)) = false
    rw [if_pos rfl, lexI_irrefl r]
theorem lexI_tot : ∀ l m : List Int, lexI l m = false → lexI m l = false → l = m
  | [], [], _, _ => rfl
  | [], _ :: _, h, _ => by cases h
  | _ :: _, [], _, h => by cases h
  | x :: r, y :: t, h, g => by
    have h' : (if x = y then lexI r t else decide (x < y)) = false := h
    have g' : (if y = x then lexI t r else decide (y < x)) = false := g
    by_cases e : x = y
    · subst e
      rw [if_pos rfl] at h' g'
      rw [lexI_tot r t h' g']
    · rw [if_neg e, decide_eq_false_iff_not] at h'
      rw [if_neg (Ne.symm e), decide_eq_false_iff_not] at g'
      omega
theorem lexI_asymm : ∀ l m : List Int, lexI l m = true → lexI m l = false
  | [], [], h => by cases h
  | [], _ :: _, _ => rfl
  | _ :: _, [], h => by cases h
  | x :: r, y :: t, h => by
    have h' : (if x = y then lexI r t else decide (x < y)) = true := h
    show (if y = x then lexI t r else decide (y < x)) = false
    by_cases e : x = y
    · subst e
      rw [if_pos rfl] at h' ⊢
      exact lexI_asymm r t h'
    · rw [if_neg e, decide_eq_true_iff] at h'
      rw [if_neg (Ne.symm e), decide_eq_false_iff_not]
      omega
theorem lexI_trans : ∀ l m k : List Int, lexI m l = false → lexI k m = false → lexI k l = false
  | [], [], k, _, h => h
  | [], y :: t, [], _, h => by cases h
  | [], y :: t, z :: u, h, g => rfl
  | x :: r, [], k, h, _ => by cases h
  | x :: r, y :: t, [], _, g => by cases g
  | x :: r, y :: t, z :: u, h, g => by
    have h' : (if y = x then lexI t r else decide (y < x)) = false := h
    have g' : (if z = y then lexI u t else decide (z < y)) = false := g
    show (if z = x then lexI u r else decide (z < x)) = false
    by_cases e : y = x
    · subst e
      by_cases e2 : z = y
      · subst e2
        rw [if_pos rfl] at h' g' ⊢
        exact lexI_trans r t u h' g'
      · rw [if_neg e2] at g' ⊢
        exact g'
    · rw [if_neg e, decide_eq_false_iff_not] at h'
      by_cases e2 : z = y
      · subst e2
        rw [if_neg e, decide_eq_false_iff_not]
        omega
      · rw [if_neg e2, decide_eq_false_iff_not] at g'
        rw [if_neg (by omega), decide_eq_false_iff_not]
        omega
abbrev leT (l m : List Int) : Prop := lexI m l = false
theorem insT_perm (x : List Int) : ∀ l : List (List Int), (insT x l).Perm (x :: l)
  | [] => .refl _
  | y :: r => by
    unfold insT
    split
    · exact ((insT_perm x r).cons y).trans (.swap x y r)
    · exact .refl _
theorem sortT_perm : ∀ l : List (List Int), (sortT l).Perm l
  | [] => .refl _
  | x :: r => (insT_perm x (sortT r)).trans ((sortT_perm r).cons x)
theorem insT_sorted (x : List Int) : ∀ l : List (List Int), l.Pairwise leT → (insT x l).Pairwise leT
  | [], _ => List.pairwise_singleton _ _
  | y :: r, h => by
    unfold insT
    rw [List.pairwise_cons] at h
    split
    · rename_i hx
      rw [List.pairwise_cons]
      refine ⟨fun z hz => ?_, insT_sorted x r h.2⟩
      rcases List.mem_cons.mp ((insT_perm x r).mem_iff.mp hz) with rfl | hz
      · exact lexI_asymm _ _ hx
      · exact h.1 z hz
    · rename_i hx
      rw [Bool.not_eq_true] at hx
      rw [List.pairwise_cons, List.pairwise_cons]
      refine ⟨fun z hz => ?_, h⟩
      rcases List.mem_cons.mp hz with rfl | hz
      · exact hx
      · exact lexI_trans _ _ _ hx (h.1 z hz)
theorem sortT_sorted : ∀ l : List (List Int), (sortT l).Pairwise leT
  | [] => .nil
  | x :: r => insT_sorted x _ (sortT_sorted r)
theorem sameT {l m : List (List Int)} (p : l.Perm m) (a : l.Pairwise leT) (b : m.Pairwise leT) : l = m :=
  p.eq_of_pairwise (fun x y _ _ h1 h2 => lexI_tot x y h2 h1) a b
def primV : Pr → Value
  | .len => .builtin "len" | .abs => .builtin "abs" | .int => .type "int" | .max1 => .builtin "max" | .min1 => .builtin "min" | .max2 => .builtin "max" | .min2 => .builtin "min"
  | .sum => .builtin "sum" | .all => .builtin "all" | .any => .builtin "any" | .tuple => .type "tuple" | .list => .type "list" | .sorted => .builtin "sorted" | .sset => .builtin "sorted"
section
variable {K : Fg} {ν μ : List Addr} {H : Hp}
theorem RDs.one {d : D} {vs : List V} (h : RDs K ν μ H [d] vs) : ∃ v, vs = [v] ∧ RD K ν μ H d v := by
  simp only [RDs] at h
  obtain ⟨x, r, e, h1, h2⟩ := h
  subst h2
  exact ⟨x, e, h1⟩
theorem RDs.two {d e : D} {vs : List V} (h : RDs K ν μ H [d, e] vs) : ∃ v w, vs = [v, w] ∧ RD K ν μ H d v ∧ RD K ν μ H e w := by
  simp only [RDs] at h
  obtain ⟨x, r, e, h1, y, t, e2, h2, h3⟩ := h
  subst h3 e2
  exact ⟨x, y, e, h1, h2⟩
end
/-- the two ints of a pair -/
def kH (H : Hp) : V → Int × Int
  | .ref t => (match H t with
    | some (.tup [.int i, .int j]) => (i, j)
    | _ => (0, 0))
  | _ => (0, 0)
def pL (H : Hp) (x : V) : List Int := [(kH H x).1, (kH H x).2]
section
variable {K : Fg} {ν μ : List Addr} {H : Hp}
theorem rows_out : ∀ {ds : List D} {ls : List (List Int)} {xs : List V}, rowsD ds = some ls → (ls.all fun l => l.length == 2) = true → RDs K ν μ H ds xs →
    (∀ x ∈ xs, ∃ t, x = V.ref t ∧ H t = some (.tup [.int (kH H x).1, .int (kH H x).2]) ∧ t ∉ μ) ∧ xs.map (pL H) = ls
  | [], ls, xs, e, _, h => by
    simp only [rowsD, Option.some.injEq] at e
    simp only [RDs] at h
    subst e h
    exact ⟨fun x hx => (by cases hx), rfl⟩
  | d :: ds, ls, xs, e, ha, h => by
    cases d <;> simp only [rowsD, reduceCtorEq] at e
    rename_i zs
    split at e
    · rename_i ns l2 h1 h2
      simp only [Option.some.injEq] at e
      subst e
      rw [List.all_cons, Bool.and_eq_true] at ha
      simp only [RDs, RD] at h
      obtain ⟨x, r, e1, ⟨a, ys, e2, t, q⟩, h4⟩ := h
      subst e1 e2
      have ey := RDs.ints h1 q
      subst ey
      obtain ⟨i1, i2⟩ := rows_out h2 ha.2 h4
      match ns, ha.1, t with
      | [i, j], _, t =>
        have ek : kH H (.ref a) = (i, j) := by
          unfold kH
          dsimp only
          rw [t.1]
          rfl
        refine ⟨fun x hx => ?_, ?_⟩
        · rcases List.mem_cons.mp hx with rfl | hx
          · exact ⟨a, rfl, by rw [ek]; exact t.1, t.2⟩
          · exact i1 x hx
        · rw [List.map_cons, i2]
          unfold pL
          rw [ek]
    · cases e
theorem rows_in : ∀ {ys : List V}, (∀ y ∈ ys, ∃ t, y = V.ref t ∧ H t = some (.tup [.int (kH H y).1, .int (kH H y).2]) ∧ t ∉ μ) → RDs K ν μ H (ys.map ((fun l => D.tup (dI l)) ∘ pL H)) ys
  | [], _ => .nil
  | y :: ys, h => by
    obtain ⟨t, e1, e2, e3⟩ := h y List.mem_cons_self
    refine .cons ?_ (rows_in fun z hz => h z (List.mem_cons_of_mem _ hz))
    show RD K ν μ H (.tup (dI (pL H y))) y
    simp only [RD]
    exact ⟨t, _, e1, ⟨e2, e3⟩, RDs.of_ints (ns := pL H y)⟩
end
/-- a built-in's rule over the evaluator's values -/
theorem prim_ok (X : Cx) (hc : X.calm = true) (p : Pr) : ∃ r, CallR X (primV p) r ∧ ∀ {tb : Tab} {L : Nat → Option Nat} {μ : List Addr} {σ : L2.St} {H : Hp} {Q : VK} {W : WX} {S : Store} {ds : List D} {d : D} {vs : List V},
    prim p S ds = some d → SR X.K L μ S H → RDs X.K μ μ H ds vs → Po tb X L μ σ H Q W (.ok d S) → Wf H → r vs H (Wq Q) := by
  cases p with
  | len =>
    refine ⟨_, (CallR.or (call_len.or call_lenD) call_len_dT), ?_⟩
    intro tb L μ σ H Q W S ds d vs e s rs h wf
    rcases ds with _ | ⟨d0, _ | _⟩ <;> simp only [prim, reduceCtorEq] at e
    obtain ⟨v, rfl, r⟩ := rs.one
    obtain ⟨l, fz, t, k, T, i, bb, z, n⟩ := s.look r
    generalize ed : dr S d0 = x at e
    cases x <;> simp only [reduceCtorEq] at e
    · rename_i w
      split at e
      · rename_i hz
        simp only [Option.some.injEq] at e
        subst e
        rw [z _ ed]
        exact .inl (.inl ⟨_, _, rfl, ⟨by rw [← lim_eq]; exact hz, rfl⟩, h.here s (.i _)⟩)
      · cases e
    · simp only [Option.some.injEq] at e
      subst e
      obtain ⟨_, a, xs, rfl, h1, h2⟩ := t _ ed
      exact .inl (.inl ⟨_, _, rfl, .inr ⟨xs, h1.sq, rfl⟩, by rw [h2.length]; exact h.here s (.i _)⟩)
    · simp only [Option.some.injEq] at e
      subst e
      obtain ⟨a, xs, rfl, h1, h2⟩ := l _ ed
      exact .inl (.inl ⟨_, _, rfl, .inl ⟨xs, .of h1, rfl⟩, by rw [h2.length]; exact h.here s (.i _)⟩)
    · simp only [Option.some.injEq] at e
      subst e
      obtain ⟨a, xs, rfl, h1, h2⟩ := fz _ ed
      exact .inl (.inl ⟨_, _, rfl, .inl ⟨xs, h1, rfl⟩, by rw [h2.length]; exact h.here s (.i _)⟩)
    · simp only [Option.some.injEq] at e
      subst e
      obtain ⟨a, xs, rfl, h1, h2⟩ := k _ ed
      exact .inl (.inr ⟨a, xs, rfl, h1, by rw [h2.length]; exact h.here s (.i _)⟩)
    · simp only [Option.some.injEq] at e
      subst e
      obtain ⟨a, xs, rfl, h1, h2⟩ := T _ ed
      exact .inr ⟨a, xs, rfl, h1, by rw [h2.length]; exact h.here s (.i _)⟩
  | abs =>
    refine ⟨_, call_abs, ?_⟩
    intro tb L μ σ H Q W S ds d vs e s rs h wf
    rcases ds with _ | ⟨d0, _ | _⟩ <;> simp only [prim, reduceCtorEq] at e
    cases d0 <;> simp only [reduceCtorEq, Option.some.injEq] at e
    subst e
    obtain ⟨v, rfl, r⟩ := rs.one
    simp only [RD] at r
    subst r
    exact ⟨_, rfl, h.here s (.i _)⟩
  | int =>
    refine ⟨_, call_int1, ?_⟩
    intro tb L μ σ H Q W S ds d vs e s rs h wf
    rcases ds with _ | ⟨d0, _ | _⟩ <;> simp only [prim, reduceCtorEq] at e
    cases d0 <;> simp only [reduceCtorEq, Option.some.injEq] at e
    · subst e
      obtain ⟨v, rfl, r⟩ := rs.one
      simp only [RD] at r
      subst r
      exact .inr ⟨_, rfl, h.here s (.i _)⟩
    · subst e
      obtain ⟨v, rfl, r⟩ := rs.one
      simp only [RD] at r
      subst r
      exact .inl ⟨_, rfl, h.here s (.i _)⟩
  | max1 =>
    refine ⟨_, CallR.or (cr_max hc) (cr_maxT hc), ?_⟩
    intro tb L μ σ H Q W S ds d vs e s rs h wf
    rcases ds with _ | ⟨d0, _ | _⟩ <;> simp only [prim, reduceCtorEq] at e
    obtain ⟨v, rfl, r⟩ := rs.one
    obtain ⟨l, fz, t, _⟩ := s.look r
    generalize ed : dr S d0 = x at e
    cases x <;> simp only [reduceCtorEq] at e
    · split at e
      · rename_i n ns hn
        simp only [Option.some.injEq] at e
        subst e
        obtain ⟨_, a, xs, rfl, h1, h2⟩ := t _ ed
        have ex := RDs.ints hn h2
        subst ex
        refine .inr ⟨a, n :: ns, rfl, h1.sq, by simp, fun m hm hle => ?_⟩
        obtain ⟨g1, g2⟩ := maxI_mem n ns
        have em : maxI (n :: ns) = m := Int.le_antisymm (hle _ g1) (g2 _ hm)
        rw [em] at h
        exact h.here s (.i _)
      · cases e
    · split at e
      · rename_i n ns hn
        simp only [Option.some.injEq] at e
        subst e
        obtain ⟨a, xs, rfl, h1, h2⟩ := l _ ed
        have ex := RDs.ints hn h2
        subst ex
        refine .inl ⟨a, n :: ns, rfl, .of h1, by simp, fun m hm hle => ?_⟩
        obtain ⟨g1, g2⟩ := maxI_mem n ns
        have em : maxI (n :: ns) = m := Int.le_antisymm (hle _ g1) (g2 _ hm)
        rw [em] at h
        exact h.here s (.i _)
      · cases e
  | min1 =>
    refine ⟨_, CallR.or (cr_min hc) (cr_minT hc), ?_⟩
    intro tb L μ σ H Q W S ds d vs e s rs h wf
    rcases ds with _ | ⟨d0, _ | _⟩ <;> simp only [prim, reduceCtorEq] at e
    obtain ⟨v, rfl, r⟩ := rs.one
    obtain ⟨l, fz, t, _⟩ := s.look r
    generalize ed : dr S d0 = x at e
    cases x <;> simp only [reduceCtorEq] at e
    · split at e
      · rename_i n ns hn
        simp only [Option.some.injEq] at e
        subst e
        obtain ⟨_, a, xs, rfl, h1, h2⟩ := t _ ed
        have ex := RDs.ints hn h2
        subst ex
        refine .inr ⟨a, n :: ns, rfl, h1.sq, by simp, fun m hm hle => ?_⟩
        obtain ⟨g1, g2⟩ := minI_mem n ns
        have em : minI (n :: ns) = m := Int.le_antisymm (g2 _ hm) (hle _ g1)
        rw [em] at h
        exact h.here s (.i _)
      · cases e
    · split at e
      · rename_i n ns hn
        simp only [Option.some.injEq] at e
        subst e
        obtain ⟨a, xs, rfl, h1, h2⟩ := l _ ed
        have ex := RDs.ints hn h2
        subst ex
        refine .inl ⟨a, n :: ns, rfl, .of h1, by simp, fun m hm hle => ?_⟩
        obtain ⟨g1, g2⟩ := minI_mem n ns
        have em : minI (n :: ns) = m := Int.le_antisymm (g2 _ hm) (hle _ g1)
        rw [em] at h
        exact h.here s (.i _)
      · cases e
  | max2 =>
    refine ⟨_, call_max2 hc, ?_⟩
    intro tb L μ σ H Q W S ds d vs e s rs h wf
    rcases ds with _ | ⟨d0, _ | ⟨d1, _ | _⟩⟩ <;> simp only [prim, reduceCtorEq] at e
    cases d0 <;> cases d1 <;> simp only [reduceCtorEq, Option.some.injEq] at e
    subst e
    obtain ⟨v, w, rfl, r1, r2⟩ := rs.two
    simp only [RD] at r1 r2
    subst r1 r2
    exact ⟨_, _, rfl, h.here s (.i _)⟩
  | min2 =>
    refine ⟨_, call_min2 hc, ?_⟩
    intro tb L μ σ H Q W S ds d vs e s rs h wf
    rcases ds with _ | ⟨d0, _ | ⟨d1, _ | _⟩⟩ <;> simp only [prim, reduceCtorEq] at e
    cases d0 <;> cases d1 <;> simp only [reduceCtorEq, Option.some.injEq] at e
    subst e
    obtain ⟨v, w, rfl, r1, r2⟩ := rs.two
    simp only [RD] at r1 r2
    subst r1 r2
    exact ⟨_, _, rfl, h.here s (.i _)⟩
  | sum =>
    refine ⟨_, CallR.or (cr_sum hc) (cr_sumT hc), ?_⟩
    intro tb L μ σ H Q W S ds d vs e s rs h wf
    rcases ds with _ | ⟨d0, _ | _⟩ <;> simp only [prim, reduceCtorEq] at e
    obtain ⟨v, rfl, r⟩ := rs.one
    obtain ⟨l, fz, t, _⟩ := s.look r
    generalize ed : dr S d0 = x at e
    cases x <;> simp only [reduceCtorEq, Option.map_eq_some_iff] at e
    · obtain ⟨ns, hn, rfl⟩ := e
      obtain ⟨_, a, xs, rfl, h1, h2⟩ := t _ ed
      have ex := RDs.ints hn h2
      subst ex
      exact .inr ⟨a, ns, rfl, h1.sq, h.here s (.i _)⟩
    · obtain ⟨ns, hn, rfl⟩ := e
      obtain ⟨a, xs, rfl, h1, h2⟩ := l _ ed
      have ex := RDs.ints hn h2
      subst ex
      exact .inl ⟨a, ns, rfl, .of h1, h.here s (.i _)⟩
  | all =>
    refine ⟨_, cr_all hc, ?_⟩
    intro tb L μ σ H Q W S ds d vs e s rs h wf
    rcases ds with _ | ⟨d0, _ | _⟩ <;> simp only [prim, reduceCtorEq] at e
    obtain ⟨v, rfl, r⟩ := rs.one
    obtain ⟨l, _⟩ := s.look r
    generalize ed : dr S d0 = x at e
    cases x <;> simp only [reduceCtorEq, Option.map_eq_some_iff] at e
    obtain ⟨ns, hn, rfl⟩ := e
    obtain ⟨a, xs, rfl, h1, h2⟩ := l _ ed
    have ex := RDs.bools hn h2
    subst ex
    exact ⟨a, ns, rfl, .of h1, h.here s (.b _)⟩
  | any =>
    refine ⟨_, cr_any hc, ?_⟩
    intro tb L μ σ H Q W S ds d vs e s rs h wf
    rcases ds with _ | ⟨d0, _ | _⟩ <;> simp only [prim, reduceCtorEq] at e
    obtain ⟨v, rfl, r⟩ := rs.one
    obtain ⟨l, _⟩ := s.look r
    generalize ed : dr S d0 = x at e
    cases x <;> simp only [reduceCtorEq, Option.map_eq_some_iff] at e
    obtain ⟨ns, hn, rfl⟩ := e
    obtain ⟨a, xs, rfl, h1, h2⟩ := l _ ed
    have ex := RDs.bools hn h2
    subst ex
    exact ⟨a, ns, rfl, .of h1, h.here s (.b _)⟩
  | tuple =>
    refine ⟨_, call_tuple_of, ?_⟩
    intro tb L μ σ H Q W S ds d vs e s rs h wf
    rcases ds with _ | ⟨d0, _ | _⟩ <;> simp only [prim, reduceCtorEq] at e
    obtain ⟨v, rfl, r⟩ := rs.one
    obtain ⟨l, _, t, _⟩ := s.look r
    generalize ed : dr S d0 = x at e
    cases x <;> simp only [reduceCtorEq, Option.some.injEq] at e
    · subst e
      obtain ⟨e0, a, xs, rfl, h1, h2⟩ := t _ ed
      subst e0
      exact ⟨a, xs, rfl, .inr ⟨h1.sq, h.here s r⟩⟩
    · subst e
      obtain ⟨a, xs, rfl, h1, h2⟩ := l _ ed
      exact ⟨a, xs, rfl, .inl ⟨.of h1, fun p n => h.new s n (.newT s n h2)⟩⟩
  | list =>
    refine ⟨_, call_list_of, ?_⟩
    intro tb L μ σ H Q W S ds d vs e s rs h wf
    rcases ds with _ | ⟨d0, _ | _⟩ <;> simp only [prim, reduceCtorEq] at e
    obtain ⟨v, rfl, r⟩ := rs.one
    obtain ⟨l, fz, t, _⟩ := s.look r
    generalize ed : dr S d0 = x at e
    cases x <;> simp only [reduceCtorEq, Option.some.injEq] at e
    · subst e
      obtain ⟨e0, a, xs, rfl, h1, h2⟩ := t _ ed
      exact ⟨a, xs, rfl, .inr h1.sq, fun p n => h.new s n (.newL s n h2)⟩
    · subst e
      obtain ⟨a, xs, rfl, h1, h2⟩ := l _ ed
      exact ⟨a, xs, rfl, .inl (.of h1), fun p n => h.new s n (.newL s n h2)⟩
    · subst e
      obtain ⟨a, xs, rfl, h1, h2⟩ := fz _ ed
      exact ⟨a, xs, rfl, .inl h1, fun p n => h.new s n (.newL s n h2)⟩
  | sorted =>
    refine ⟨_, (CallR.or cr_sortedI cr_sortedPO), ?_⟩
    intro tb L μ σ H Q W S ds d vs e s rs h wf
    rcases ds with _ | ⟨d0, _ | _⟩ <;> simp only [prim, reduceCtorEq] at e
    obtain ⟨v, rfl, r⟩ := rs.one
    obtain ⟨l, _⟩ := s.look r
    generalize ed : dr S d0 = x at e
    cases x <;> simp only [reduceCtorEq] at e
    obtain ⟨a, xs, rfl, h1, h2⟩ := l _ ed
    split at e
    · rename_i ns hn
      simp only [Option.some.injEq] at e
      subst e
      have ex := RDs.ints hn h2
      subst ex
      refine .inl ⟨a, ns, rfl, .of h1, fun ns' p pm so n => ?_⟩
      have en : ns' = sortI ns := PySem.W.ksm_same (pm.trans (sortI_perm ns).symm) so (sortI_sorted ns)
      subst en
      exact h.new s n (.newL s n .of_ints)
    · split at e
      · rename_i ls hl
        split at e
        · rename_i ha
          simp only [Option.some.injEq] at e
          subst e
          obtain ⟨q1, q2⟩ := rows_out hl ha h2
          refine .inr ⟨a, xs, kH H, rfl, .of h1, fun x hx => let ⟨t, e1, e2⟩ := q1 x hx; ⟨t, e1, e2.1⟩, fun ys p so st n => ?_⟩
          refine h.new s n (.newL s n ?_)
          have mem : ∀ y ∈ ys, ∃ t, y = V.ref t ∧ H t = some (.tup [.int (kH H y).1, .int (kH H y).2]) ∧ t ∉ μ := fun y hy => q1 y (st.perm.mem_iff.mp hy)
          have e1 : ys.map (pL H) = sortT ls := by
            refine sameT ?_ ?_ (sortT_sorted ls)
            · refine (st.perm.map (pL H)).trans ?_
              rw [q2]
              exact (sortT_perm ls).symm
            · rw [List.pairwise_map]
              exact List.Pairwise.imp (fun {x y} q => by
                have q' := SrtO.lexB_no.mp q
                show lexI [(kH H y).1, (kH H y).2] [(kH H x).1, (kH H x).2] = false
                show (if (kH H y).1 = (kH H x).1 then (if (kH H y).2 = (kH H x).2 then false else decide ((kH H y).2 < (kH H x).2)) else decide ((kH H y).1 < (kH H x).1)) = false
                split
                · split
                  · rfl
                  · rw [decide_eq_false_iff_not]
                    omega
                · rw [decide_eq_false_iff_not]
                  omega) so
          rw [← e1]
          unfold dR
          rw [List.map_map]
          exact rows_in mem
        · cases e
      · cases e
  | sset => exact ⟨fun _ _ _ => False, fun _ _ _ _ _ _ _ _ _ h => h.elim, fun e => by rename_i ds d vs; rcases ds with _ | ⟨d0, _ | _⟩ <;> simp only [prim, reduceCtorEq] at e⟩
/-! ### subscripts, slices -/
theorem ix_dict {X : Cx} (hu : X.A.units + 1 < cLine) : IxR X (fun x y H Q => ∃ a v, x = .ref a ∧ DGet H a y (some v) ∧ Q v H) := by
  intro value slice pins s σ H x y v u Q I rx ry h hs
  obtain ⟨a, z, rfl, g, q⟩ := h
  cases rx
  exact tail_any (dict_typeIs I g) PySem.F.slot_dict_getitem.lookup (d_getItem hu I g ry fun w' s3 I3 rw' => ⟨z, H, I3, rw', q⟩) hs
section
variable {K : Fg} {ν μ : List Addr} {H : Hp}
theorem RDs.atI {ds : List D} {xs : List V} {i : Int} {d : D} (h : RDs K ν μ H ds xs) (e : L2.atI ds i = some d) : ∃ v, L2.atI xs i = some v ∧ RD K ν μ H d v := by
  unfold L2.atI at e ⊢
  rw [h.length]
  cases q : ixN ds.length i with
  | none => rw [q] at e; cases e
  | some j =>
    rw [q] at e
    exact h.at_ (i := j) e
theorem RDs.cut {ds : List D} {xs : List V} (h : RDs K ν μ H ds xs) (lo hi : Option Int) : RDs K ν μ H (cutD ds lo hi) (cutV xs lo hi) := by
  unfold cutD cutV
  rw [h.length]
  exact (h.drop _).take _
end
theorem idx_ok (X : Cx) (hu : X.A.units + 65 < cLine) : ∃ r, IxR X r ∧ ∀ {tb : Tab} {L : Nat → Option Nat} {μ : List Addr} {σ : L2.St} {H : Hp} {Q : VK} {W : WX} {S : Store} {a b d : D} {va vb : V},
    idx S a b = some d → SR X.K L μ S H → RD X.K μ μ H a va → RD X.K μ μ H b vb → Po tb X L μ σ H Q W (.ok d S) → r va vb H (Wq Q) := by
  refine ⟨_, (ix_list.or (ix_tup.or (ix_dict (by omega)))), ?_⟩
  intro tb L μ σ H Q W S a b d va vb e s ra rb h
  obtain ⟨l, fz, t, k, T, i, bb, z, n⟩ := s.look ra
  unfold idx at e
  generalize ea : dr S a = x at e
  cases x <;> (try cases b) <;> simp only [reduceCtorEq] at e
  · rename_i ds j
    obtain ⟨_, p, xs, rfl, h1, h2⟩ := t _ ea
    simp only [RD] at rb
    subst rb
    obtain ⟨v, e1, r⟩ := h2.atI e
    exact .inr (.inl ⟨p, xs, j, v, rfl, rfl, h1.sq, e1, h.here s r⟩)
  · rename_i ds j
    obtain ⟨p, xs, rfl, h1, h2⟩ := l _ ea
    simp only [RD] at rb
    subst rb
    obtain ⟨v, e1, r⟩ := h2.atI e
    exact .inl ⟨p, xs, j, v, rfl, rfl, .of h1, e1, h.here s r⟩
  · rename_i ds j
    obtain ⟨p, xs, rfl, h1, h2⟩ := fz _ ea
    simp only [RD] at rb
    subst rb
    obtain ⟨v, e1, r⟩ := h2.atI e
    exact .inl ⟨p, xs, j, v, rfl, rfl, h1, e1, h.here s r⟩
  all_goals first
    | (obtain ⟨ky, e1, e2⟩ := Option.bind_eq_some_iff.mp e
       obtain ⟨p, ws, rfl, h1, h2⟩ := k _ ea
       obtain ⟨v, g1, g2⟩ := (RDK.get h2).1 _ e2
       refine .inr (.inr ⟨p, v, rfl, ?_, h.here s g2⟩)
       rw [RD.key rb e1, ← g1]
       exact .k h1)
    | (obtain ⟨ky, e1, e2⟩ := Option.bind_eq_some_iff.mp e
       obtain ⟨p, ws, rfl, h1, h2⟩ := T _ ea
       obtain ⟨v, g1, g2⟩ := (RDT.get h2).1 _ e2
       simp only [RD] at rb
       obtain ⟨p2, xs, rfl, ⟨t1, _⟩, r⟩ := rb
       rw [RDs.keys r e1] at t1
       refine .inr (.inr ⟨p, v, rfl, ?_, h.here s g2⟩)
       rw [← g1]
       exact .t h1 t1)
theorem slc_ok (X : Cx) : ∃ r, SlR X r ∧ ∀ {tb : Tab} {L : Nat → Option Nat} {μ : List Addr} {σ : L2.St} {H : Hp} {Q : VK} {W : WX} {S : Store} {a d : D} {va : V} {lo hi : Option Int},
    slc S a lo hi = some d → SR X.K L μ S H → RD X.K μ μ H a va → Po tb X L μ σ H Q W (.ok d S) → r va lo hi H (Wq Q) := by
  refine ⟨_, (sl_list.or sl_tupA), ?_⟩
  intro tb L μ σ H Q W S a d va lo hi e s ra h
  obtain ⟨l, fz, t, k, T, i, bb, z, n⟩ := s.look ra
  unfold slc at e
  generalize ea : dr S a = x at e
  cases x <;> simp only [reduceCtorEq, Option.some.injEq] at e
  · subst e
    obtain ⟨e0, p, xs, rfl, h1, h2⟩ := t _ ea
    refine .inr ⟨p, xs, rfl, h1.sq, fun hw => ?_, fun _ q n => h.new s n (.newT s n (h2.cut lo hi))⟩
    rename_i ds
    have ec : cutD ds lo hi = ds := by
      unfold cutD
      rw [h2.length] at hw
      rw [hw.1, hw.2]
      simp
    rw [ec] at h
    exact h.here s (by rw [e0] at ra; exact ra)
  · subst e
    obtain ⟨p, xs, rfl, h1, h2⟩ := l _ ea
    exact .inl ⟨p, xs, rfl, .of h1, fun q n => h.new s n (.newL s n (h2.cut lo hi))⟩
  · subst e
    obtain ⟨p, xs, rfl, h1, h2⟩ := fz _ ea
    exact .inl ⟨p, xs, rfl, h1, fun q n => h.new s n (.newL s n (h2.cut lo hi))⟩
theorem uop_neg {K : Fg} {L : Nat → Option Nat} {μ : List Addr} {H : Hp} {S : Store} {a d : D} {va : V} (e : uop .neg S a = some d) (s : SR K L μ S H) (ra : RD K μ μ H a va) : ∃ i, va = .int i ∧ d = .int (-i) := by
  obtain ⟨l, fz, t, k, T, i, bb, z, n⟩ := s.look ra
  unfold uop at e
  dsimp only at e
  generalize ea : dr S a = x at e
  cases x <;> simp only [reduceCtorEq, Option.some.injEq] at e
  exact ⟨_, i _ ea, e.symm⟩
end EV
/-! EV5b: t[::-1] of a tuple, a list. -/
namespace EV
open PySem PySem.Spec PyProof.Rows L2
section
variable {prog : Program} {w : World} {A : Around} {E : Value → Shared → Prop} {s : Shared}
theorem fm_congr {α β : Type} {f g : α → Option β} : ∀ {l : List α}, (∀ x ∈ l, f x = g x) → l.filterMap f = l.filterMap g
  | [], _ => rfl
  | x :: l, h => by
    rw [List.filterMap_cons, List.filterMap_cons, h x List.mem_cons_self, fm_congr fun y hy => h y (List.mem_cons_of_mem _ hy)]
theorem rev_pick (xs : Array Value) : ((List.range xs.size).filterMap fun (k : Nat) => xs[(((xs.size : Int) - 1) + (k : Int) * (-1)).toNat]?).toArray = xs.toList.reverse.toArray := by
  have h := PySem.W.krv_pick xs
  unfold slicePick at h
  rw [PySem.W.krv_bounds] at h
  have h' : ((sliceRange ((xs.size : Int) - 1) (-1) (-1)).filterMap (xs[·]?)).toArray = xs.toList.reverse.toArray := h
  rw [PySem.W.krv_sliceRange, List.filterMap_map] at h'
  rw [← h']
  congr 1
  refine fm_congr fun k hk => ?_
  have hk' := List.mem_range.mp hk
  have e : (((xs.size : Int) - 1) + (k : Int) * (-1)).toNat = xs.size - 1 - k := by omega
  rw [e]
  rfl
theorem rev_places (n : Nat) : Builtin.Slice.slicePlaces ((n : Int) - 1) (-1) (-1) = n := by
  unfold Builtin.Slice.slicePlaces
  have h1 : ¬ ((-1 : Int) > 0) := by omega
  simp only [h1, if_false]
  split
  · rename_i h
    have e : ((n : Int) - 1 - -1 - 1) / (- -1) = (n : Int) - 1 := by
      rw [show (- -1 : Int) = 1 by decide, Int.ediv_one]
      omega
    rw [e]
    omega
  · omega
theorem rev_applied {sl : Addr} {vs : Value} {n : Nat} {Q : Int × Int × Nat → Shared → Prop} (hs : s.heap.IsSliceOf sl .none .none vs) (ps : IsPart vs (some (-1))) (h : Q ((n : Int) - 1, -1, n) s) :
    wpAny (model prog w) A (Builtin.Slice.sliceApplied (.ref sl) (pure (n : Int))) Q E s := by
  obtain ⟨o, ho, hc, hd⟩ := id hs
  cases ps with
  | int i u =>
    unfold Builtin.Slice.sliceApplied Builtin.Slice.sliceFields
    refine wpAny_bind (wpAny_bind ?_)
    refine wpAny_field ho hd (x := .none) rfl (wpAny_bind ?_)
    refine wpAny_field ho hd (x := .none) rfl (wpAny_bind ?_)
    refine wpAny_field ho hd (x := .int (-1) u) rfl (wpAny_pure ?_)
    refine wpAny_bind (slicePart_int ?_)
    show wpAny _ _ (if ((-1 : Int) == 0) = true then _ else _) _ _ s
    rw [if_neg (by decide)]
    refine wpAny_bind (slicePart_none (wpAny_bind ?_))
    refine slicePart_none (wpAny_bind (wpAny_pure ?_))
    show wpAny _ _ (pure ((n : Int) - 1, (-1 : Int), Builtin.Slice.slicePlaces ((n : Int) - 1) (-1) (-1))) _ _ s
    rw [rev_places]
    exact wpAny_pure h
theorem rev_getItem {t sl : Addr} {items : Array Value} {vs : Value} {Q : Value → Shared → Prop} (ht : IsTup s.heap t items) (hs : s.heap.IsSliceOf sl .none .none vs) (ps : IsPart vs (some (-1)))
    (h : Q (.ref s.heap.objs.size) { s with heap := s.heap.push { cls := .type "tuple", data := .seq items.toList.reverse.toArray } }) (hz : items.size ≤ sizeLine) : wpAny (model prog w) A (getItem (.ref t) (.ref sl)) Q E s := by
  have tl : s.TypeIs (.ref sl) "slice" := by
    obtain ⟨o, ho, hc, _⟩ := id hs
    exact ⟨o, ho, hc⟩
  have ok : sizeOk (.seq items.toList.reverse.toArray) := by
    show items.toList.reverse.toArray.size ≤ sizeLine
    simpa using hz
  unfold getItem
  try with_reducible refine wpAny_holding ?_
  first | refine wpAny_bind (wpAny_pure ?_) | skip
  refine wpAny_bind (wpAny_sequenceKey ht.typeIs (by decide) (wpAny_bind ?_))
  refine wpAny_callSpecial?_slot (name := Str.ofString "__getitem__") ht.typeIs PyProof.Rows.slot_tuple_getitem ?_
  refine wpAny_call_entry PyProof.Rows.slot_tuple_getitem ht.typeIs entry_tuple_getitem ?_ (args_tuple_getitem _ _)
  show wpAny _ _ (Builtin.Tuple.tupleItemsOf (.ref t) >>= _) _ _ s
  refine wpAny_bind (tupleItemsOf_ ht (wpAny_bind (wpAny_typeOf tl ?_)))
  rw [if_pos (by decide)]
  refine wpAny_bind (rev_applied hs ps ?_)
  have no : ¬ ((((items.size : Int) - 1) == 0 && (-1 : Int) == 1 && items.size == items.size) = true) := by
    intro q
    rw [Bool.and_eq_true, Bool.and_eq_true] at q
    have : (-1 : Int) = 1 := eq_of_beq q.1.2
    omega
  show wpAny _ _ (if (((items.size : Int) - 1) == 0 && (-1 : Int) == 1 && items.size == items.size) = true then _ else _) _ _ s
  rw [if_neg no, rev_pick]
  have fin : ∃ v, some (Value.ref s.heap.objs.size) = some v ∧ Q v { s with heap := s.heap.push { cls := .type "tuple", data := .seq items.toList.reverse.toArray } } := ⟨_, rfl, h⟩
  first
    | exact wpAny_bind (m := Builtin.Tuple.tupleExact _) (wpAny_newObj_type (wpAny_pure ⟨_, rfl, wpAny_pure h⟩) ok)
    | exact wpAny_bind (m := Builtin.Tuple.tupleExact _) (wpAny_newObj_type (wpAny_bind (wpAny_pure (wpAny_pure ⟨_, rfl, wpAny_pure h⟩))) ok)
    | exact wpAny_bind (wpAny_bind (m := Builtin.Tuple.tupleExact _) (wpAny_newObj_type (wpAny_pure (wpAny_pure ⟨_, rfl, wpAny_pure h⟩)) ok))
    | exact wpAny_bind (wpAny_bind (m := Builtin.Tuple.tupleExact _) (wpAny_newObj_type (wpAny_pure ⟨_, rfl, wpAny_pure h⟩) ok))
end
/-- e[::-1] of a list or a tuple -/
def tRv (K : Fg) (te : TE) : TE := fun σ H Q => te σ H fun x H1 => (∃ a xs, x = .ref a ∧ SqL K H1 a xs ∧ ∀ p, H1 p = none → Q (.ref p) (upd H1 p (.lst xs.reverse))) ∨
  ∃ a xs, x = .ref a ∧ SqT K H1 a xs ∧ ∀ p, H1 p = none → Q (.ref p) (upd H1 p (.tup xs.reverse))
theorem pe_rv {X : Cx} {e : Expr} {te : TE} {k : Nat} {p1 p2 p3 pos : Pos} (he : PE X e te) : PE X (.Subscript e (.Slice none none (some (.UnaryOp .USub (.Constant (.int 1) k p1) p2)) p3) pos) (tRv X.K te) := by
  refine ⟨fun pins s σ H Q I h => Subscript_ (thn (he.run pins s σ H _ I h) fun v s1 ⟨x, H1, I1, r1, q1⟩ => ?_)⟩
  have st : PO X (some (.UnaryOp .USub (.Constant (.int 1) k p1) p2)) (tPart (tUn (rU fun i => .int (-i)) (tC (.int 1)))) := po_some (pe_un un_neg pe_int)
  refine wpAny_Slice (thn (po_none.run pins s1 σ H1 (fun o G => o = none ∧ G = H1) I1 ⟨rfl, rfl⟩) fun vl s2 ⟨l, H2, I2, pl, el, e2⟩ => ?_)
  subst el e2
  refine thn (po_none.run pins s2 σ H2 (fun o G => o = none ∧ G = H2) I2 ⟨rfl, rfl⟩) fun vu s3 ⟨u, H3, I3, pu, eu, e3⟩ => ?_
  subst eu e3
  refine thn (st.run pins s3 σ H3 (fun o G => o = some (-1) ∧ G = H3) I3 ⟨1, rfl, -1, rfl, rfl, rfl⟩) fun vs s4 ⟨o, H4, I4, ps, eo, e4⟩ => ?_
  subst eo e4
  have J : Inv X pins σ H4 { s4 with heap := s4.heap.push { cls := .type "slice", data := .fields #[vl, vu, vs] } } := I4.kept (t' := s4.toks) fun b ob q => Heap.get?_push_of_some _ q
  cases pl
  cases pu
  rcases q1 with ⟨a, xs, ex, hx, q⟩ | ⟨a, xs, ex, hx, q⟩
  · subst ex
    cases r1
    obtain ⟨its, r, ht, hz⟩ := J.list hx
    have hl := r.length
    refine tail_any (value := e) (slice := .Slice none none (some (.UnaryOp .USub (.Constant (.int 1) k p1) p2)) p3) (ops := [.ref a, .ref s4.heap.objs.size]) ht.isList.typeIs (PySem.slot_list_getitem.lookup) ?_ (by with_unfolding_all rfl)
    refine wpAny_getItem_list_slice ht.isList (Heap.IsSliceOf.new _ .none .none vs) .none .none ps (by decide) ?_ (by rw [List.size_toArray]; omega)
    rw [PySem.W.krv_pick]
    refine ⟨.ref _, _, J.laid (t' := s4.toks) (o := .lst xs.reverse) (fun b ob q => Heap.get?_push_of_some _ q) (Nat.le_refl _) ?_, rfl, q _ (J.hok.fresh (Nat.le_refl _))⟩
    exact ⟨by rw [List.length_reverse]; exact hz, _, 0, r.reverse, Heap.get?_push_size _ rfl⟩
  · subst ex
    cases r1
    obtain ⟨its, r, ht, hz⟩ := J.tuple hx
    have hl := r.length
    refine tail_any (value := e) (slice := .Slice none none (some (.UnaryOp .USub (.Constant (.int 1) k p1) p2)) p3) (ops := [.ref a, .ref s4.heap.objs.size]) ht.typeIs (PyProof.Rows.slot_tuple_getitem.lookup) ?_ (by with_unfolding_all rfl)
    refine rev_getItem ht (Heap.IsSliceOf.new _ .none .none vs) ps ?_ (by rw [List.size_toArray]; omega)
    refine ⟨.ref _, _, J.laid (t' := s4.toks) (o := .tup xs.reverse) (fun b ob q => Heap.get?_push_of_some _ q) (Nat.le_refl _) ?_, rfl, q _ (J.hok.fresh (Nat.le_refl _))⟩
    exact ⟨by rw [List.length_reverse]; exact hz, _, r.reverse, IsTup.new _ _⟩
end EV
/-! EV6: the look that a written text is the little language's; what is known of the module. -/
namespace EV
open PySem PySem.Spec PyProof.Rows L2
/-- what is fixed for a whole text: its defs, its own exceptions, its constants, the built-in names that it leaves alone -/
structure Sta where
  P : Prg
  tb : Tab
  con : List (Str × D)
  free : List Str
  /-- calls with keywords: the def, how many are without, the names, the places -/
  kws : List (Nat × Nat × List Str × List Nat) := []
/-! ### looks -/
def knd (sc : Scope) (x : Str) : Option NameKind := sc.names.lookup x
def visB (sc : Scope) (x : Str) : Bool := match knd sc x with
  | some .local => true
  | some .cell => true
  | some .free => true
  | _ => false
def locB (sc : Scope) (x : Str) : Bool := match knd sc x with
  | some .local => true
  | some .cell => true
  | _ => false
def okN (x : Str) : Bool := decide (x ≠ ("__debug__" : Str)) && (decide (x ≠ ("__classdict__" : Str)) && decide (x ≠ ("__name__" : Str)))
def ckV (N : List Str) (sc : Scope) (i : Nat) (x : Str) : Bool := decide (N[i]? = some x) && (visB sc x && okN x)
def ckG (sc : Scope) (x : Str) : Bool := decide (knd sc x = some .globalImplicit) && okN x
def ckB (T : Sta) (sc : Scope) (x y : Str) : Bool := decide (x = y) && (ckG sc x && decide (x ∈ T.free))
def ckC : D → Const → Bool
  | .non, .none => true
  | .bl a, .bool b => a == b
  | .int i, .int j => decide (i = j)
  | .str x, .str y => decide (x = y)
  | _, _ => false
/-- equal plain things -/
def scEq : D → D → Bool
  | .non, .non => true
  | .bl a, .bl b => a == b
  | .int i, .int j => decide (i = j)
  | .str x, .str y => decide (x = y)
  | _, _ => false
def scV : D → V
  | .bl b => .bl b
  | .int i => .int i
  | .str x => .str x
  | _ => .non
def noStar : Expr → Bool
  | .Starred _ _ => false
  | _ => true
def noSet : Expr → Bool
  | .Set _ _ _ => false
  | _ => true
def noSlice : Expr → Bool
  | .Slice _ _ _ _ => false
  | _ => true
/-- an expression whose truth is that of its value -/
def plainT : Expr → Bool
  | .UnaryOp _ _ _ => false
  | .BoolOp _ _ _ => false
  | .IfExp _ _ _ _ => false
  | .Compare _ _ _ _ => false
  | _ => true
def primN : Pr → Str
  | .len => "len" | .abs => "abs" | .int => "int" | .max1 => "max" | .min1 => "min" | .max2 => "max" | .min2 => "min"
  | .sum => "sum" | .all => "all" | .any => "any" | .tuple => "tuple" | .list => "list" | .sorted => "sorted" | .sset => "sorted"
def bootB (x : Str) (v : Value) : Bool := match bootBuiltins x, v with
  | some (.builtin a), .builtin b => a == b
  | some (.type a), .type b => a == b
  | _, _ => false
/-- a class in isinstance -/
def ckK (T : Sta) (sc : Scope) : CR → Expr → Bool
  | .ty n, .Name x _ => ckB T sc x (Str.ofString n) && bootB x (.type n)
  | .own c, .Name x _ => ckG sc x && (match T.tb c with
    | some (y, _) => decide (x = y)
    | none => false)
  | _, _ => false
def ckKs (T : Sta) (sc : Scope) : List CR → List Expr → Bool
  | [], [] => true
  | c :: cs, e :: es => ckK T sc c e && (noStar e && ckKs T sc cs es)
  | _, _ => false
def ckKK (T : Sta) (sc : Scope) (cs : List CR) (e : Expr) : Bool := match cs, e with
  | [c], .Name x p => ckK T sc c (.Name x p)
  | cs, .Tuple es _ _ => decide (cs.length ≤ 100) && ckKs T sc cs es
  | _, _ => false
/-- targets; sc: the written scope of the block that stores -/
def ckT (N : List Str) (sc : Scope) : Tg → Expr → Bool
  | .v i, .Name x _ => decide (N[i]? = some x) && locB sc x
  | .t as, .Tuple es _ _ => ckTs N sc as es
  | _, _ => false
where ckTs (N : List Str) (sc : Scope) : Tg → List Expr → Bool
  | .nil, [] => true
  | .cons a as, e :: es => ckT N sc a e && (noStar e && ckTs N sc as es)
  | _, _ => false
def ownOk (N : List Str) (own : List Nat) : Option (List (Str × Nat)) := match own with
  | [] => some []
  | i :: r => match N[i]?, ownOk N r with
    | some x, some l => some ((x, i) :: l)
    | _, _ => none
/-- what a target stores into -/
def tgSlots : Tg → List Nat
  | .v i => [i]
  | .t as => tgSlots as
  | .nil => []
  | .cons a as => tgSlots a ++ tgSlots as
/-- expressions that make a new object -/
def isNew : Ex → Bool
  | .li _ => true
  | .lc _ _ _ _ _ => true
  | .pr .list _ => true
  | _ => false
/-- lists made by an operator -/
def isCat : Ex → Bool
  | .bi .add _ _ => true
  | .bi .mul _ _ => true
  | _ => false
/-- pairs go into a written tuple -/
def ckTT : Ex → Expr → Bool
  | .en _, .Tuple _ _ _ => true
  | .zp _ _, .Tuple _ _ _ => true
  | .en _, _ => false
  | .zp _ _, _ => false
  | _, _ => true
def isName : Expr → Bool
  | .Name _ _ => true
  | _ => false
def bopN (p : Operator) (o : BO) : Bool := decide (opOf o = p)
def kwNames : List Keyword → Option (List Str × List Expr)
  | [] => some ([], [])
  | ⟨some x, e, _⟩ :: r => match kwNames r with
    | some (xs, es) => some (x :: xs, e :: es)
    | none => none
  | _ => none
section
variable (T : Sta) (N : List Str)
mutual
def ckE : Ex → Scope → Expr → Bool
  | .v i, sc, .Name x _ => ckV N sc i x
  | .k d, sc, .Constant c _ _ => ckC d c
  | .gc x d, sc, .Name y _ => decide (x = y) && (ckG sc x && (match T.con.lookup x with
    | some d' => scEq d d'
    | none => false))
  | .un .neg a, sc, .UnaryOp .USub e _ => ckE a sc e
  | .un .not a, sc, .UnaryOp .Not e _ => ckE a sc e
  | .bi o a b, sc, .BinOp l p r _ => bopN p o && (ckE a sc l && ckE b sc r)
  | .cm o a b, sc, .Compare l [p] [r] _ => decide (copOf o = p) && (noSet r && (ckE a sc l && ckE b sc r))
  | .cm2 o p a b c, sc, .Compare l [q1, q2] [m, r] _ => decide (copOf o = q1) && (decide (copOf p = q2) && (noSet m && (noSet r && (ckE a sc l && (ckE b sc m && ckE c sc r)))))
  | .cm3 o p q a b c d, sc, .Compare l [q1, q2, q3] [m, n, r] _ => decide (copOf o = q1) && (decide (copOf p = q2) && (decide (copOf q = q3) && (noSet m && (noSet n && (noSet r && (ckE a sc l && (ckE b sc m && (ckE c sc n && ckE d sc r))))))))
  | .rgl tp a b, sc, .Call (.Name x _) [.Call (.Name y _) (e :: es) [] _] [] _ => ckB T sc x (if tp then "tuple" else "list") && (ckB T sc y "range" && (noStar e && (match es with
    | [] => isNo a && ckE b sc e
    | [f] => !isNo a && (noStar f && (ckE a sc e && ckE b sc f))
    | _ => false)))
  | .an a b, sc, .BoolOp .And (x :: y :: r) pos => ckE a sc x && (match r with
    | [] => ckE b sc y
    | z :: r => ckE b sc (.BoolOp .And (y :: z :: r) pos))
  | .orr a b, sc, .BoolOp .Or (x :: y :: r) pos => ckE a sc x && (match r with
    | [] => ckE b sc y
    | z :: r => ckE b sc (.BoolOp .Or (y :: z :: r) pos))
  | .ite c a b, sc, .IfExp t x y _ => ckE c sc t && (ckE a sc x && ckE b sc y)
  | .tu as, sc, .Tuple es _ _ => ckL as sc es
  | .li as, sc, .List es _ => ckL as sc es
  | .ix a i, sc, .Subscript e s _ => noSlice s && (ckE a sc e && ckE i sc s)
  | .sl a lo hi, sc, .Subscript e (.Slice l h none _) _ => ckE a sc e && ((match l with
    | none => (match lo with | .no => true | _ => false)
    | some l => (match lo with | .no => false | _ => ckE lo sc l)) && (match h with
    | none => (match hi with | .no => true | _ => false)
    | some h => (match hi with | .no => false | _ => ckE hi sc h)))
  | .rv a, sc, .Subscript e (.Slice none none (some (.UnaryOp .USub (.Constant (.int 1) _ _) _)) _) _ => ckE a sc e
  | .cal f as, sc, .Call (.Name x _) es [] _ => ckG sc x && ((match T.P f with
    | some fn => decide (fn.name = x) && (decide (es.length ≤ fn.ps.length) && decide (fn.ps.length ≤ es.length + fn.dfl.length))
    | none => false) && (es.all noStar && ckL as sc es))
  | .calz f as, sc, .Call (.Name x _) es [] _ => decide (es ≠ []) && (ckG sc x && ((match T.P f with
    | some fn => decide (fn.name = x) && (decide (es.length ≤ fn.ps.length) && decide (fn.ps.length ≤ es.length + fn.dfl.length))
    | none => false) && (es.all noStar && ckL as sc es)))
  | .calk f as ks names perm, sc, .Call (.Name x _) es (kw :: kws) _ => ckG sc x && ((match T.P f with
    | some fn => decide (fn.name = x) && decide ((f, es.length, names, perm) ∈ T.kws)
    | none => false) && (es.all noStar && (ckL as sc es && (match kwNames (kw :: kws) with
    | some (xs, ys) => decide (xs = names) && (ys.all noStar && ckL ks sc ys)
    | none => false))))
  | .pr p as, sc, .Call (.Name x _) es [] _ => ckB T sc x (primN p) && (bootB x (primV p) && (decide (es ≠ []) && (es.all noStar && ckL as sc es)))
  | .isi a cs, sc, .Call (.Name x _) [e, c] [] _ => ckB T sc x "isinstance" && (bootB x (.builtin "isinstance") && (noStar e && (ckE a sc e && ckKK T sc cs c)))
  | .lc t own s c e, sc, .ListComp elt [⟨tg, iter, ifs, 0⟩] scope _ => (match ownOk N own with
    | some l => blkC N sc scope l && (ckT N scope t tg && ((tgSlots t).all fun i => own.contains i))
    | none => false) && (noSet iter && (ckTT s tg && (ckI s sc iter && (ckE e (relS scope sc) elt && (match ifs with
    | [] => (match c with | .yes => true | _ => false)
    | [g] => (match c with | .yes => false | _ => ckE c (relS scope sc) g)
    | _ => false)))))
  | .fr a, sc, e => (isNew a || isCat a) && ckE a sc e
  | .pop a i, sc, .Call (.Attribute o m ap) [e] [] cp => decide (m = ("pop" : Str)) && (isName o && (ap.endLine == cp.line && (noStar e && (ckE a sc o && ckE i sc e))))
  | .rgt a b, sc, .Call (.Name y _) [.Call (.Name x _) [e, f, .UnaryOp .USub (.Constant (.int 1) _ _) _] [] _] [] _ => ckB T sc y "tuple" && (ckB T sc x "range" && (noStar e && (noStar f && (ckE a sc e && ckE b sc f))))
  | .idf false a i, sc, .Call (.Attribute o m ap) [e] [] cp => decide (m = ("index" : Str)) && (isName o && (ap.endLine == cp.line && (noStar e && (ckE a sc o && ckE i sc e))))
  | .bad, _, _ => true
  | _, _, _ => false
def ckL : Ex → Scope → List Expr → Bool
  | .nil, _, [] => true
  | .cons a as, sc, e :: es => noStar e && (ckE a sc e && ckL as sc es)
  | .star a as, sc, .Starred e _ :: es => ckE a sc e && ckL as sc es
  | _, _, _ => false
def ckI : Ex → Scope → Expr → Bool
  | .rg1 a, sc, .Call (.Name x _) [e] [] _ => ckB T sc x "range" && (noStar e && ckE a sc e)
  | .rg2 a b, sc, .Call (.Name x _) [e, f] [] _ => ckB T sc x "range" && (noStar e && (noStar f && (ckE a sc e && ckE b sc f)))
  | .rgd a b, sc, .Call (.Name x _) [e, f, .UnaryOp .USub (.Constant (.int 1) _ _) _] [] _ => ckB T sc x "range" && (noStar e && (noStar f && (ckE a sc e && ckE b sc f)))
  | .en a, sc, .Call (.Name x _) [e] [] _ => ckB T sc x "enumerate" && (noStar e && ckE a sc e)
  | .zp a b, sc, .Call (.Name x _) [e, f] [] _ => ckB T sc x "zip" && (noStar e && (noStar f && (ckE a sc e && ckE b sc f)))
  | .it a, sc, e => ckE a sc e
  | _, _, _ => false
end
end
/-! ### statements -/
/-- a comprehension whose one name is stored within it -/
def swB (sc : Scope) (value tg : Expr) : Bool := match tg with
  | .Name t pos => (match value with
    | .ListComp _ _ s _ => sc.names.lookup t == some .local && pos.line == value.pos.line && !(s.names.any fun (n, k) => n == t && (k == .local || k == .cell))
    | .SetComp _ _ s _ => sc.names.lookup t == some .local && pos.line == value.pos.line && !(s.names.any fun (n, k) => n == t && (k == .local || k == .cell))
    | .DictComp _ _ _ s _ => sc.names.lookup t == some .local && pos.line == value.pos.line && !(s.names.any fun (n, k) => n == t && (k == .local || k == .cell))
    | _ => false)
  | _ => false
/-- the stores of a, b = x, y: none: from the left; some: from the right -/
def swM (sc : Scope) (ts vs : List Expr) : Option (Option (List Str)) :=
  if !(ts.length == 2 || ts.length == 3) || vs.length != ts.length then some none
  else if vs.any (fun e => match e with | .Starred .. => true | _ => false) then some none
  else
    let line := (ts.head?.map (·.pos.line)).getD 0
    let names := ts.filterMap fun e => match e with
      | .Name id pos => if sc.names.lookup id == some .local && pos.line == line then some id else none
      | _ => none
    if names.length != ts.length || names.eraseDups.length != names.length then some none
    else if vs.all (foldedForSure 8) then some none
    else if vs.all (constantsAlone 8) then none
    else some (some names)
def parB (N : List Str) (sc : Scope) (t : Tg) (tg : Expr) (names : List Str) : Bool := match t, tg with
  | .t (.cons (.v i) (.cons (.v j) .nil)), .Tuple [.Name x _, .Name y _] _ _ => decide (i ≠ j) && (decide (N[i]? = some x) && (decide (N[j]? = some y) && (decide (knd sc x = some .local) && (decide (knd sc y = some .local) && decide (names = [x, y])))))
  | .t (.cons (.v i) (.cons (.v j) (.cons (.v l) .nil))), .Tuple [.Name x _, .Name y _, .Name z _] _ _ => decide (i ≠ j) && (decide (i ≠ l) && (decide (j ≠ l) && (decide (N[i]? = some x) && (decide (N[j]? = some y) && (decide (N[l]? = some z) &&
      (decide (knd sc x = some .local) && (decide (knd sc y = some .local) && (decide (knd sc z = some .local) && decide (names = [x, y, z])))))))))
  | _, _ => false
def isLc : Ex → Bool
  | .lc _ _ _ _ _ => true
  | .fr (.lc _ _ _ _ _) => true
  | _ => false
/-- the written stores of a tuple's names -/
def stB (N : List Str) (sc : Scope) (t : Tg) (e : Ex) (tg v : Expr) : Bool := match tg, v with
  | .Tuple ts _ _, .Tuple vs _ _ => (match swM sc ts vs with
    | some none => true
    | some (some names) => (match e with | .tu _ => parB N sc t tg names | _ => false)
    | none => false)
  | .Tuple _ _ _, _ => true
  | _, _ => false
/-- an except suite's list: constants, isinstance of the caught error -/
def ckSu (T : Sta) (N : List Str) (sc : Scope) (i : Nat) (n : Str) : Ex → List Expr → Bool
  | .nil, [] => true
  | .cons (.k d) as, .Constant c _ _ :: es => ckC d c && ckSu T N sc i n as es
  | .cons (.isi (.v i') [.ty t]) as, .Call (.Name x _) [.Name m _, .Name y _] [] _ :: es => decide (i' = i) && (decide (m = n) && (okN n && (ckB T sc x "isinstance" && (bootB x (.builtin "isinstance") && (ckB T sc y (Str.ofString t) && (bootB y (.type t) && ckSu T N sc i n as es))))))
  | _, _ => false
/-- an except suite: a name, or what is told, is such a list -/
def ckSui (T : Sta) (N : List Str) (sc : Scope) (i : Nat) (n : Str) : Sm → List Stmt → Bool
  | .cons (.set j (.li es)) .nil, [.Assign [.Name y _] (.List xs _) _] => decide (j ≠ i) && (decide (N[j]? = some y) && (locB sc y && ckSu T N sc i n es xs))
  | .cons (.ret (.li es)) .nil, [.Return (some (.List xs _)) _] => ckSu T N sc i n es xs
  | _, _ => false
def ckH (T : Sta) (N : List Str) : Sm → Scope → List ExceptHandler → Bool
  | .nil, _, [] => true
  | .han [c] (some i) b more, sc, .ExceptHandler (some (.Name x _)) (some n) body _ :: hs => ckG sc x && ((match T.tb c with
    | some (y, []) => decide (x = y)
    | _ => false) && (decide (N[i]? = some n) && (decide (knd sc n = some .local) && (ckSui T N sc i n b body && ckH T N more sc hs))))
  | _, _, _ => false
section
variable (T : Sta) (N : List Str)
mutual
/-- par: the written stores of a, b = x, y are those of plain locals -/
def ckS : Sm → Scope → Stmt → Bool
  | .doc, _, .Expr (.Constant (.str _) _ _) _ => true
  | .doc, _, .Pass _ => true
  | .set i e, sc, .Assign [.Name x p] v _ => decide (N[i]? = some x) && (locB sc x && (ckE T N e sc v && (!swB sc v (.Name x p) || isLc e)))
  | .asg t e, sc, .Assign [tg] v _ => ckT N sc t tg && (ckE T N e sc v && stB N sc t e tg v)
  | .nev, _, _ => true
  | .aug i o e, sc, .AugAssign (.Name x _) p v _ => decide (N[i]? = some x) && (locB sc x && (bopN p o && ckE T N e sc v))
  | .sub a i e, sc, .Assign [.Subscript o s _] v _ => noSlice s && (ckE T N e sc v && (ckE T N a sc o && ckE T N i sc s))
  | .sub2 a i b j e, sc, .Assign [.Tuple [.Subscript o s _, .Subscript o2 s2 _] _ _] (.Tuple [v, w] kv pv) _ => noSlice s && (noSlice s2 && (noStar v && (noStar w && (ckE T N e sc (.Tuple [v, w] kv pv) && (ckE T N a sc o && (ckE T N i sc s && (ckE T N b sc o2 && ckE T N j sc s2)))))))
  | .ex e, sc, .Expr v _ => ckE T N e sc v && (match v with | .Call _ _ _ _ => true | _ => false)
  | .app a e, sc, .Expr (.Call (.Attribute o m ap) [v] [] cp) _ => decide (m = ("append" : Str)) && (isName o && (ap.endLine == cp.line && (noStar v && (ckE T N a sc o && ckE T N e sc v))))
  | .ret e, sc, .Return (some v) _ => ckE T N e sc v
  | .ite c a b, sc, .If t x y _ => ckE T N c sc t && (ckSs a sc x && ckSs b sc y)
  | .forr t s b, sc, .For tg iter body [] _ => ckT N sc t tg && (noSet iter && (ckTT s tg && (ckI T N s sc iter && ckSs b sc body)))
  | .whil c b, sc, .While t body [] _ => ckE T N c sc t && ckSs b sc body
  | .brk, _, .Break _ => true
  | .cnt, _, .Continue _ => true
  | .rais c .nil, sc, .Raise (some (.Call (.Name x _) [] [] _)) none _ => ckG sc x && (match T.tb c with
    | some (y, []) => decide (x = y)
    | _ => false)
  | .tryy b hs, sc, .Try body (h :: hds) [] [] _ => ckSs b sc body && ckH T N hs sc (h :: hds)
  | _, _, _ => false
def ckSs : Sm → Scope → List Stmt → Bool
  | .nil, _, [] => true
  | .cons s t, sc, st :: sts => ckS s sc st && ckSs t sc sts
  | _, _, _ => false
end
end
end EV
/-! EV7: an expression's run is the evaluator's. -/
namespace EV
open PySem PySem.Spec PyProof.Rows L2
/-! ### what is known of the module -/
/-- the type of a datum -/
def tyD (mg : Str → Option Value) (tb : Tab) : D → Option Value
  | .non => some (.type "NoneType") | .bl _ => some (.type "bool") | .int _ => some (.type "int") | .str _ => some (.type "str")
  | .tup _ => some (.type "tuple") | .lst _ => some (.type "list") | .fzn _ => some (.type "list") | .dK _ => some (.type "dict") | .dT _ => some (.type "dict")
  | .exc c _ => (tb c).bind fun p => mg p.1
  | _ => none
def crV (mg : Str → Option Value) (tb : Tab) : CR → Option Value
  | .ty n => some (.type n)
  | .own c => (tb c).bind fun p => mg p.1
def crVs (mg : Str → Option Value) (tb : Tab) : List CR → Option (List Value)
  | [] => some []
  | c :: cs => match crV mg tb c, crVs mg tb cs with
    | some v, some vs => some (v :: vs)
    | _, _ => none
/-- behind a call -/
def PoC (tb : Tab) (K : Fg) (mg : Str → Option Value) (L : Nat → Option Nat) (μ : List Addr) (H : Hp) (Q : VK) (E : XK) : R D → Prop
  | .ok d S' => ∀ v μ' H', Ext μ H μ' H' → SR K L μ' S' H' → RD K μ' μ' H' d v → Q v H'
  | .er e S' => ∀ c dd μ' H', Ext μ H μ' H' → SR K L μ' S' H' → ErR tb mg K e c dd H' → E c dd H'
  | .fl => False
def spF (tb : Tab) (K : Fg) (mg : Str → Option Value) (call : CallF) (f n : Nat) : Sp := fun vs H Q E => vs.length = n ∧
  ∃ (L : Nat → Option Nat) (b : Nat) (μ : List Addr) (S : Store) (ds : List D), SR K L μ S H ∧ (∀ m, b ≤ m → L m = none) ∧ RDs K μ μ H ds vs ∧ PoC tb K mg L μ H Q E (call b f ds S)
/-- what is known of an own exception without fields -/
structure ExK (K : Fg) (a : Addr) : Prop where
  q : PySem.W.excIn K a [.type "ValueError", .type "Exception", .type "BaseException", .type "object"] "ValueError.__new__" = true
  kp : PySem.W.keepIn K (.ref a) = true
  sb : PySem.W.subIn K (.ref a) (.type "BaseException") = some true
  ty : PySem.W.typeIn K (.ref a) = some (.type "type")
  ex : ExcC K a
/-- the own exceptions -/
structure ExOk (tb : Tab) (K : Fg) (mg : Str → Option Value) : Prop where
  one : ∀ c x, tb c = some (x, []) → ∃ a, mg x = some (.ref a) ∧ ExK K a
  two : ∀ c d x y fs gs a b, tb c = some (x, fs) → tb d = some (y, gs) → mg x = some (.ref a) → mg y = some (.ref b) → PySem.W.exmOne K (.ref a) (.ref b) = some (decide (c = d))
theorem exNone {K : Fg} {mg : Str → Option Value} : ExOk (fun _ => none) K mg := ⟨fun _ _ h => (nomatch h), fun _ _ _ _ _ _ _ _ h => (nomatch h)⟩
structure HC (T : Sta) (prog : Program) (w : World) (K : Fg) (mg : Str → Option Value) (base : Heap) (C : Cl) (k : Nat) : Prop where
  dfl : C.dfl = dflOf T.P
  free : ∀ x ∈ T.free, mg x = none
  con : ∀ x d, T.con.lookup x = some d → isSc d = true ∧ ∃ u, mg x = some u ∧ RelV (scV d) u
  cls : ∀ c x fs, T.tb c = some (x, fs) → ∃ a, mg x = some (.ref a)
  isi : ∀ d cs b t us, C.isi d cs = some b → tyD mg T.tb d = some t → crVs mg T.tb cs = some us → PySem.W.kitAny K t us = some b
  exc : ExOk T.tb K mg
  fn : ∀ f fn, T.P f = some fn → ∃ ad fd, mg fn.name = some (.ref ad) ∧ PySem.W.keepIn K (.ref ad) = true ∧
    (∀ n, n ≤ fn.ps.length → fn.ps.length ≤ n + fn.dfl.length → (dflOf T.P f n).all isSc = true ∧ (n + (dflOf T.P f n).length = fn.ps.length) ∧ ∃ ds, Vals ((dflOf T.P f n).map scV) ds ∧ Binds K fd fn.ps ds) ∧
    (∀ n ks perm, (f, n, ks, perm) ∈ T.kws → perm.length = fn.ps.length ∧ (dflOf T.P f 0).all isSc = true ∧ ∃ ds, Vals ((dflOf T.P f 0).map scV) ds ∧
      ∀ (s : Shared) (us ws : List Value), K.In s.heap → us.length = n → ws.length = ks.length → BindsTo s fd ⟨us, ks.zip ws⟩ (fn.ps.zip (perm.map fun i => (us ++ ws ++ ds).getD i .none))) ∧
    FnOk prog w K mg base (L2.CX prog w) k ad fd fn.ps (spF T.tb K mg C.call f fn.ps.length)
structure XOk (T : Sta) (C : Cl) (k : Nat) (X : Cx) : Prop where
  calm : X.calm = true
  nd : X.N.Nodup
  room : Room k X.A
  hc : HC T X.prog X.w X.K X.mg X.base C k
theorem XOk.un {T : Sta} {C : Cl} {k : Nat} {X : Cx} (x : XOk T C k X) : X.A.units + 65 < cLine := by have := x.room.un; omega
/-! ### from the looks -/
theorem ba {a b : Bool} (h : (a && b) = true) : a = true ∧ b = true := Bool.and_eq_true_iff.mp h
theorem okN_ok {x : Str} (h : okN x = true) : (x == ("__debug__" : Str)) = false ∧ (x == ("__classdict__" : Str)) = false ∧ x ≠ "__name__" := by
  unfold okN at h
  obtain ⟨h1, h⟩ := ba h
  obtain ⟨h2, h3⟩ := ba h
  exact ⟨beq_eq_false_iff_ne.mpr (of_decide_eq_true h1), beq_eq_false_iff_ne.mpr (of_decide_eq_true h2), of_decide_eq_true h3⟩
theorem vis_ok {sc : Scope} {x : Str} (h : visB sc x = true) : Vis sc x := by
  unfold visB knd at h
  unfold Vis
  split at h
  · exact .inl (by assumption)
  · exact .inr (.inl (by assumption))
  · exact .inr (.inr (by assumption))
  · cases h
theorem loc_ok {sc : Scope} {x : Str} (h : locB sc x = true) : L2.Loc sc x := by
  unfold locB knd at h
  unfold L2.Loc
  split at h
  · exact .inl (by assumption)
  · exact .inr (by assumption)
  · cases h
theorem ckG_ok {X : Cx} {x : Str} (h : ckG X.env.scope x = true) : Gl X x ∧ okN x = true := by
  unfold ckG at h
  obtain ⟨h1, h2⟩ := ba h
  exact ⟨show knd X.env.scope x = some .globalImplicit from of_decide_eq_true h1, h2⟩
theorem ckB_ok {T : Sta} {C : Cl} {k : Nat} {X : Cx} (xo : XOk T C k X) {x y : Str} (h : ckB T X.env.scope x y = true) : x = y ∧ Gl X x ∧ okN x = true ∧ X.mg x = none := by
  unfold ckB at h
  obtain ⟨h1, h⟩ := ba h
  obtain ⟨h2, h3⟩ := ba h
  obtain ⟨g, n⟩ := ckG_ok h2
  exact ⟨of_decide_eq_true h1, g, n, xo.hc.free x (of_decide_eq_true h3)⟩
theorem bootB_ok {x : Str} {v : Value} (h : bootB x v = true) : bootBuiltins x = some v := by
  unfold bootB at h
  split at h
  · rename_i a b e
    rw [e, eq_of_beq h]
  · rename_i a b e
    rw [e, eq_of_beq h]
  · cases h
theorem star_cons {e : Expr} (h : noStar e = true) (es : List Expr) (env : PySem.Env) : starEach (e :: es) env = (false, eval e env) :: starEach es env := by
  cases e <;> first | rfl | cases h
theorem star_any {es : List Expr} (h : es.all noStar = true) (env : PySem.Env) (pos : Pos) : (backTo pos (starEach es env)).any (·.1) = false := by
  induction es with
  | nil => rfl
  | cons e es ih =>
    rw [List.all_cons] at h
    obtain ⟨h1, h2⟩ := ba h
    rw [star_cons h1]
    show (false || (backTo pos (starEach es env)).any (·.1)) = false
    rw [ih h2]
    rfl
theorem mark_no {e : Expr} (h : noSet e = true) (op : CmpOp) : behindInMarks op e = false := by
  cases e <;> first | rfl | cases h
theorem marks_no {e f : Expr} (h : noSet e = true) (g : noSet f = true) (op op' : CmpOp) : lastMarks [op, op'] [e, f] = false := by
  show behindInMarks op' f = false
  exact mark_no g op'
theorem plain_ix {b : Expr} (h : noSlice b = true) : PlainIx b := fun o i => by
  cases b <;> first | rfl | cases h
theorem fold_no {e : Expr} (h : noSet e = true) (env : PySem.Env) : ∀ x, foldedSetIterable e env x = pure x := fun x => by
  cases e <;> first | rfl | cases h
theorem ckC_ok {X : Cx} {d : D} {c : Const} {i : Nat} {pos : Pos} (h : ckC d c = true) : PE X (.Constant c i pos) (tC (scV d)) ∧ isSc d = true := by
  cases d <;> cases c <;> simp only [ckC, reduceCtorEq, Bool.false_eq_true] at h
  · exact ⟨pe_non, rfl⟩
  · have e := eq_of_beq h
    subst e
    exact ⟨pe_bl, rfl⟩
  · have e := of_decide_eq_true h
    subst e
    exact ⟨pe_int, rfl⟩
  · have e := of_decide_eq_true h
    subst e
    exact ⟨pe_str, rfl⟩
theorem scV_ok {K : Fg} {ν μ : List Addr} {H : Hp} {d : D} (h : isSc d = true) : RD K ν μ H d (scV d) := by
  cases d <;> simp only [isSc, Bool.false_eq_true] at h <;> simp only [RD, scV]
theorem scs_ok {K : Fg} {ν μ : List Addr} {H : Hp} {ds : List D} (h : ds.all isSc = true) : RDs K ν μ H ds (ds.map scV) :=
  .of_all fun d hd => scV_ok (List.all_eq_true.mp h d hd)
theorem scEq_ok {d e : D} (h : scEq d e = true) : d = e := by
  cases d <;> cases e <;> simp only [scEq, Bool.false_eq_true, decide_eq_true_eq, beq_iff_eq] at h
  · rfl
  · rw [h]
  · rw [h]
  · rw [h]
/-! ### the statements to be shown -/
section
variable (T : Sta) (C : Cl) (k : Nat)
def SndE (x : Ex) : Prop := ∀ (X : Cx) (e : Expr), XOk T C k X → ckE T X.N x X.env.scope e = true → ∀ (L : Nat → Option Nat) (μ : List Addr) (ρ : Env) (S : Store) (σ : L2.St) (H : Hp) (Q : VK) (W : WX),
  (∀ n, C.base ≤ n → L n = none) → ER X.K μ H ρ σ → SR X.K L μ S H → Takes X W → Po T.tb X L μ σ H Q W (ev C x ρ S) → GE X e σ H Q
def SndL (x : Ex) : Prop := ∀ (X : Cx) (es : List Expr), XOk T C k X → ckL T X.N x X.env.scope es = true → ∀ (L : Nat → Option Nat) (μ : List Addr) (ρ : Env) (S : Store) (σ : L2.St) (H : Hp) (Q : List V → Hp → Prop) (W : WX),
  (∀ n, C.base ≤ n → L n = none) → ER X.K μ H ρ σ → SR X.K L μ S H → Takes X W → PoA T.tb X L μ σ H Q W (evs C x ρ S) → GA X es σ H Q
end
section
variable {T : Sta} {C : Cl} {k : Nat}
theorem snd_v (i : Nat) : SndE T C k (.v i) := by
  intro X e xo ck L μ ρ S σ H Q W hb er sr tk h
  cases e <;> simp only [ckE, Bool.false_eq_true] at ck
  rename_i x pos
  unfold ckV at ck
  obtain ⟨c1, ck⟩ := ba ck
  obtain ⟨c2, c3⟩ := ba ck
  obtain ⟨n1, n2, _⟩ := okN_ok c3
  refine GE.wf (GE.of (pe_var (i := i) (of_decide_eq_true c1) (vis_ok c2) n1 n2) ?_)
  obtain ⟨d, e1, h⟩ := h.opt
  have e2 : ρ[i]? = some (some d) := by
    rw [List.getD_eq_getElem?_getD] at e1
    cases q : ρ[i]? with
    | none => rw [q] at e1; cases e1
    | some o => rw [q] at e1; exact congrArg some e1
  obtain ⟨v, e3, r⟩ := er.2 i d e2
  exact ⟨v, e3, h.here sr r⟩
theorem snd_k (d : D) : SndE T C k (.k d) := by
  intro X e xo ck L μ ρ S σ H Q W hb er sr tk h
  cases e <;> simp only [ckE, Bool.false_eq_true] at ck
  obtain ⟨p, s⟩ := ckC_ok (X := X) ck
  exact GE.wf (GE.of p (h.here sr (scV_ok s)))
theorem snd_gc (x : Str) (d : D) : SndE T C k (.gc x d) := by
  intro X e xo ck L μ ρ S σ H Q W hb er sr tk h
  cases e <;> simp only [ckE, Bool.false_eq_true] at ck
  rename_i y pos
  obtain ⟨c1, ck⟩ := ba ck
  obtain ⟨c2, c3⟩ := ba ck
  have exy := of_decide_eq_true c1
  subst exy
  obtain ⟨g, n⟩ := ckG_ok c2
  cases q : T.con.lookup x with
  | none => rw [q] at c3; cases c3
  | some d' =>
    rw [q] at c3
    have ed := scEq_ok c3
    subst ed
    obtain ⟨s, u, m, r⟩ := xo.hc.con x d q
    exact GE.wf (GE.of (pe_glob g m r (okN_ok n).1) (h.here sr (scV_ok s)))
theorem snd_yes : SndE T C k .yes := by
  intro X e xo ck
  cases e <;> simp only [ckE, Bool.false_eq_true] at ck
theorem snd_un (o : UO) (a : Ex) (ia : SndE T C k a) : SndE T C k (.un o a) := by
  intro X e xo ck L μ ρ S σ H Q W hb er sr tk h
  cases o <;> cases e <;> (try simp only [ckE, Bool.false_eq_true] at ck)
  all_goals (rename_i p e pos; cases p <;> simp only [ckE, Bool.false_eq_true] at ck)
  · refine GE.wf (GE.of (pe_un un_neg (pe_GE (e := e))) ?_)
    refine ia X e xo ck L μ ρ S σ H _ W hb er sr tk (Po.bind h fun d1 S1 v1 μ1 H1 _ w1 e1 s1 r1 h1 => ?_)
    obtain ⟨d, e2, h2⟩ := h1.opt
    obtain ⟨i, rfl, rfl⟩ := uop_neg e2 s1 r1
    exact ⟨i, rfl, h2.here s1 (.i _)⟩
  · refine GE.wf (GE.of (pe_notT (pe_GE (e := e))) ?_)
    refine ia X e xo ck L μ ρ S σ H _ W hb er sr tk (Po.bind h fun d1 S1 v1 μ1 H1 _ w1 e1 s1 r1 h1 => ?_)
    obtain ⟨d, e2, h2⟩ := h1.opt
    unfold uop at e2
    simp only [Option.map_eq_some_iff] at e2
    obtain ⟨b, e3, rfl⟩ := e2
    exact ⟨b, tru_ok e3 s1 r1, h2.here s1 (.b _)⟩
theorem snd_bi (o : BO) (a b : Ex) (ia : SndE T C k a) (ib : SndE T C k b) : SndE T C k (.bi o a b) := by
  intro X e xo ck L μ ρ S σ H Q W hb er sr tk h
  cases e <;> simp only [ckE, Bool.false_eq_true] at ck
  rename_i l p r pos
  obtain ⟨c0, ck⟩ := ba ck
  obtain ⟨c1, c2⟩ := ba ck
  have ep := of_decide_eq_true c0
  subst ep
  obtain ⟨rd, ro, hs⟩ := bop_ok X o
  refine GE.wf (GE.of (pe_op ro (pe_GE (e := l)) (pe_GE (e := r))) ?_)
  refine ia X l xo c1 L μ ρ S σ H _ W hb er sr tk (Po.bind h fun d1 S1 v1 μ1 H1 _ w1 e1 s1 r1 h1 => ?_)
  refine ib X r xo c2 L μ1 ρ S1 σ H1 _ W hb (er.mono e1) s1 tk (Po.bind h1 fun d2 S2 v2 μ2 H2 _ w2 e2 s2 r2 h2 => ?_)
  obtain ⟨d, e3, h3⟩ := h2.opt
  exact hs e3 s2 (RD.mono e2 e2.pre _ _ r1) r2 h3
theorem snd_cm (o : CO) (a b : Ex) (ia : SndE T C k a) (ib : SndE T C k b) : SndE T C k (.cm o a b) := by
  intro X e xo ck L μ ρ S σ H Q W hb er sr tk h
  cases e <;> (try simp only [ckE, Bool.false_eq_true] at ck)
  rename_i l ps rs pos
  rcases ps with _ | ⟨p, _ | ⟨_, _⟩⟩ <;> rcases rs with _ | ⟨r, _ | ⟨_, _⟩⟩ <;> (try simp only [ckE, Bool.false_eq_true] at ck)
  obtain ⟨c0, ck⟩ := ba ck
  obtain ⟨c3, ck⟩ := ba ck
  obtain ⟨c1, c2⟩ := ba ck
  have ep := of_decide_eq_true c0
  subst ep
  obtain ⟨rd, ro, hs⟩ := cop_ok X xo.un o
  refine GE.wf (GE.of (pe_cmpR ro (pe_GE (e := l)) (pe_GE (e := r)) (mark_no c3 _)) ?_)
  refine ia X l xo c1 L μ ρ S σ H _ W hb er sr tk (Po.bind h fun d1 S1 v1 μ1 H1 _ w1 e1 s1 r1 h1 => ?_)
  refine ib X r xo c2 L μ1 ρ S1 σ H1 _ W hb (er.mono e1) s1 tk (Po.bind h1 fun d2 S2 v2 μ2 H2 _ w2 e2 s2 r2 h2 => ?_)
  obtain ⟨d, e3, h3⟩ := h2.opt
  simp only [Option.map_eq_some_iff] at e3
  obtain ⟨c, e4, rfl⟩ := e3
  exact hs (tb := T.tb) (σ := σ) (W := W) e4 s2 (RD.mono e2 e2.pre _ _ r1) r2 (h3.here s2 (.b _))
theorem snd_cm2 (o p : CO) (a b c : Ex) (ia : SndE T C k a) (ib : SndE T C k b) (ic : SndE T C k c) : SndE T C k (.cm2 o p a b c) := by
  intro X e xo ck L μ ρ S σ H Q W hb er sr tk h
  cases e <;> (try simp only [ckE, Bool.false_eq_true] at ck)
  rename_i l ps rs pos
  rcases ps with _ | ⟨q1, _ | ⟨q2, _ | ⟨_, _⟩⟩⟩ <;> rcases rs with _ | ⟨m, _ | ⟨r, _ | ⟨_, _⟩⟩⟩ <;> (try simp only [ckE, Bool.false_eq_true] at ck)
  obtain ⟨c1, ck⟩ := ba ck
  obtain ⟨c2, ck⟩ := ba ck
  obtain ⟨c3, ck⟩ := ba ck
  obtain ⟨c4, ck⟩ := ba ck
  obtain ⟨c5, ck⟩ := ba ck
  obtain ⟨c6, c7⟩ := ba ck
  have ep := of_decide_eq_true c1
  subst ep
  have ep := of_decide_eq_true c2
  subst ep
  obtain ⟨rd, ro, hs⟩ := cop_ok X xo.un o
  obtain ⟨rd', ro', hs'⟩ := cop_ok X xo.un p
  refine GE.wf (GE.of (pe_chain ro ro' (pe_GE (e := l)) (pe_GE (e := m)) (pe_GE (e := r)) (marks_no c3 c4 _ _)) ?_)
  refine ia X l xo c5 L μ ρ S σ H _ W hb er sr tk (Po.bind h fun d1 S1 v1 μ1 H1 _ w1 e1 s1 r1 h1 => ?_)
  refine ib X m xo c6 L μ1 ρ S1 σ H1 _ W hb (er.mono e1) s1 tk (Po.bind h1 fun d2 S2 v2 μ2 H2 _ w2 e2 s2 r2 h2 => ?_)
  cases q : cop o S2 d1 d2 with
  | none => rw [q] at h2; exact False.elim h2
  | some t =>
    rw [q] at h2
    refine hs (tb := T.tb) (σ := σ) (W := W) q s2 (RD.mono e2 e2.pre _ _ r1) r2 ⟨t, rfl, ?_⟩
    cases t with
    | false =>
      rw [if_neg Bool.false_ne_true]
      exact Po.here h2 s2 (.b _)
    | true =>
      rw [if_pos rfl]
      refine ic X r xo c7 L μ2 ρ S2 σ H2 _ W hb ((er.mono e1).mono e2) s2 tk (Po.bind h2 fun d3 S3 v3 μ3 H3 _ w3 e3 s3 r3 h3 => ?_)
      obtain ⟨d, e4, h4⟩ := h3.opt
      simp only [Option.map_eq_some_iff] at e4
      obtain ⟨c, e5, rfl⟩ := e4
      exact hs' (tb := T.tb) (σ := σ) (W := W) e5 s3 (RD.mono e3 e3.pre _ _ r2) r3 (h4.here s3 (.b _))
theorem snd_an (a b : Ex) (ia : SndE T C k a) (ib : SndE T C k b) : SndE T C k (.an a b) := by
  intro X e xo ck L μ ρ S σ H Q W hb er sr tk h
  cases e <;> (try simp only [ckE, Bool.false_eq_true] at ck)
  rename_i op vs pos
  cases op <;> (try simp only [ckE, Bool.false_eq_true] at ck)
  rcases vs with _ | ⟨x, _ | ⟨y, r⟩⟩ <;> (try simp only [ckE, Bool.false_eq_true] at ck)
  obtain ⟨c1, c2⟩ := ba ck
  have step : ∀ d1 S1 v1 μ1 H1, Wf H1 → Ext μ H μ1 H1 → SR X.K L μ1 S1 H1 → RD X.K μ1 μ1 H1 d1 v1 → Po T.tb X L μ1 σ H1 Q W (match tru S1 d1 with | some true => ev C b ρ S1 | some false => .ok d1 S1 | none => .fl) →
      ∃ k, TruV X.K v1 H1 k ∧ if k = true then GE X (.BoolOp .And (y :: r) pos) σ H1 (Wq Q) else Wq Q v1 H1 := by
    intro d1 S1 v1 μ1 H1 w1 e1 s1 r1 h1
    cases q : tru S1 d1 with
    | none => rw [q] at h1; exact False.elim h1
    | some t =>
      rw [q] at h1
      refine ⟨t, tru_ok q s1 r1, ?_⟩
      cases t with
      | false =>
        rw [if_neg Bool.false_ne_true]
        exact h1.here s1 r1
      | true =>
        rw [if_pos rfl]
        cases r with
        | nil => exact GE.of (pe_one (pe_GE (e := y))) (ib X y xo c2 L μ1 ρ S1 σ H1 _ W hb (er.mono e1) s1 tk (by revert h1; exact Po.wq))
        | cons z r => exact ib X _ xo c2 L μ1 ρ S1 σ H1 _ W hb (er.mono e1) s1 tk (by revert h1; exact Po.wq)
  refine GE.wf (GE.of (pe_andT (pe_GE (e := x)) (pe_GE (e := .BoolOp .And (y :: r) pos))) ?_)
  exact ia X x xo c1 L μ ρ S σ H _ W hb er sr tk (Po.bind h fun d1 S1 v1 μ1 H1 _ w1 e1 s1 r1 h1 => step d1 S1 v1 μ1 H1 w1 e1 s1 r1 h1)
theorem snd_or (a b : Ex) (ia : SndE T C k a) (ib : SndE T C k b) : SndE T C k (.orr a b) := by
  intro X e xo ck L μ ρ S σ H Q W hb er sr tk h
  cases e <;> (try simp only [ckE, Bool.false_eq_true] at ck)
  rename_i op vs pos
  cases op <;> (try simp only [ckE, Bool.false_eq_true] at ck)
  rcases vs with _ | ⟨x, _ | ⟨y, r⟩⟩ <;> (try simp only [ckE, Bool.false_eq_true] at ck)
  obtain ⟨c1, c2⟩ := ba ck
  have step : ∀ d1 S1 v1 μ1 H1, Wf H1 → Ext μ H μ1 H1 → SR X.K L μ1 S1 H1 → RD X.K μ1 μ1 H1 d1 v1 → Po T.tb X L μ1 σ H1 Q W (match tru S1 d1 with | some true => .ok d1 S1 | some false => ev C b ρ S1 | none => .fl) →
      ∃ k, TruV X.K v1 H1 k ∧ if k = true then Wq Q v1 H1 else GE X (.BoolOp .Or (y :: r) pos) σ H1 (Wq Q) := by
    intro d1 S1 v1 μ1 H1 w1 e1 s1 r1 h1
    cases q : tru S1 d1 with
    | none => rw [q] at h1; exact False.elim h1
    | some t =>
      rw [q] at h1
      refine ⟨t, tru_ok q s1 r1, ?_⟩
      cases t with
      | true =>
        rw [if_pos rfl]
        exact h1.here s1 r1
      | false =>
        rw [if_neg Bool.false_ne_true]
        cases r with
        | nil => exact GE.of (pe_one (pe_GE (e := y))) (ib X y xo c2 L μ1 ρ S1 σ H1 _ W hb (er.mono e1) s1 tk (by revert h1; exact Po.wq))
        | cons z r => exact ib X _ xo c2 L μ1 ρ S1 σ H1 _ W hb (er.mono e1) s1 tk (by revert h1; exact Po.wq)
  refine GE.wf (GE.of (pe_orT (pe_GE (e := x)) (pe_GE (e := .BoolOp .Or (y :: r) pos))) ?_)
  exact ia X x xo c1 L μ ρ S σ H _ W hb er sr tk (Po.bind h fun d1 S1 v1 μ1 H1 _ w1 e1 s1 r1 h1 => step d1 S1 v1 μ1 H1 w1 e1 s1 r1 h1)
end
end EV
/-! EV8: tests, displays, subscripts, calls. -/
namespace EV
open PySem PySem.Spec PyProof.Rows L2
def PoT (tb : Tab) (X : Cx) (L : Nat → Option Nat) (μ : List Addr) (σ : L2.St) (H : Hp) (Q : Bool → Hp → Prop) (W : WX) : R D → Prop
  | .ok d S' => ∃ b, tru S' d = some b ∧ ∀ v μ' H', Wf H' → Ext μ H μ' H' → SR X.K L μ' S' H' → RD X.K μ' μ' H' d v → Q b H'
  | .er e S' => ∀ c dd μ' H', Ext μ H μ' H' → SR X.K L μ' S' H' → ErR tb X.mg X.K e c dd H' → W c dd σ H'
  | .fl => False
section
variable (T : Sta) (C : Cl) (k : Nat)
def SndT (x : Ex) : Prop := ∀ (X : Cx) (e : Expr), XOk T C k X → ckE T X.N x X.env.scope e = true → ∀ (L : Nat → Option Nat) (μ : List Addr) (ρ : Env) (S : Store) (σ : L2.St) (H : Hp) (Q : Bool → Hp → Prop) (W : WX),
  (∀ n, C.base ≤ n → L n = none) → ER X.K μ H ρ σ → SR X.K L μ S H → Takes X W → PoT T.tb X L μ σ H Q W (ev C x ρ S) → GT X e σ H Q
end
section
variable {tb : Tab} {X : Cx} {L : Nat → Option Nat} {μ : List Addr} {σ : L2.St} {H : Hp} {W : WX}
theorem PoT.bind {Q : Bool → Hp → Prop} {Q1 : VK} {r : R D} {f : D → Store → R D} (h : PoT tb X L μ σ H Q W (r.bind f))
    (k : ∀ d S1 v μ1 H1, r = .ok d S1 → Wf H1 → Ext μ H μ1 H1 → SR X.K L μ1 S1 H1 → RD X.K μ1 μ1 H1 d v → PoT tb X L μ1 σ H1 Q W (f d S1) → Q1 v H1) : Po tb X L μ σ H Q1 W r := by
  cases r with
  | fl => exact h
  | er e S => exact h
  | ok d S =>
    intro v μ1 H1 w e s r
    refine k d S v μ1 H1 rfl w e s r ?_
    have h' : PoT tb X L μ σ H Q W (f d S) := h
    generalize f d S = r2 at h'
    cases r2 with
    | fl => exact h'
    | er x S2 => exact fun c dd μ2 H2 e2 => h' c dd μ2 H2 (e.trans e2)
    | ok d2 S2 =>
      obtain ⟨b, hb, h'⟩ := h'
      exact ⟨b, hb, fun v2 μ2 H2 w2 e2 => h' v2 μ2 H2 w2 (e.trans e2)⟩
/-- two tests in a row -/
theorem PoT.bindT {Q Q1 : Bool → Hp → Prop} {r : R D} {f : D → Store → R D} (h : PoT tb X L μ σ H Q W (r.bind f)) (tt : ∀ d S1, r = .ok d S1 → ∃ b, tru S1 d = some b)
    (k : ∀ d S1 v μ1 H1 b, r = .ok d S1 → tru S1 d = some b → Wf H1 → Ext μ H μ1 H1 → SR X.K L μ1 S1 H1 → RD X.K μ1 μ1 H1 d v → PoT tb X L μ1 σ H1 Q W (f d S1) → Q1 b H1) : PoT tb X L μ σ H Q1 W r := by
  cases r with
  | fl => exact h
  | er e S => exact h
  | ok d S =>
    obtain ⟨b, hb⟩ := tt d S rfl
    refine ⟨b, hb, fun v μ1 H1 w e s r => k d S v μ1 H1 b rfl hb w e s r ?_⟩
    have h' : PoT tb X L μ σ H Q W (f d S) := h
    generalize f d S = r2 at h'
    cases r2 with
    | fl => exact h'
    | er x S2 => exact fun c dd μ2 H2 e2 => h' c dd μ2 H2 (e.trans e2)
    | ok d2 S2 =>
      obtain ⟨b2, hb2, h'⟩ := h'
      exact ⟨b2, hb2, fun v2 μ2 H2 w2 e2 => h' v2 μ2 H2 w2 (e.trans e2)⟩
theorem PoT.opt {Q : Bool → Hp → Prop} {o : Option D} {S : Store} (h : PoT tb X L μ σ H Q W (R.of o S)) : ∃ d, o = some d ∧ PoT tb X L μ σ H Q W (.ok d S) := by
  cases o with
  | none => exact False.elim h
  | some d => exact ⟨d, rfl, h⟩
theorem PoT.here {Q : Bool → Hp → Prop} {d : D} {S : Store} {v : V} {b : Bool} (h : PoT tb X L μ σ H Q W (.ok d S)) (s : SR X.K L μ S H) (r : RD X.K μ μ H d v) (e : tru S d = some b) (w : Wf H) : Q b H := by
  obtain ⟨b', e', h⟩ := h
  rw [e] at e'
  cases e'
  exact h v μ H w .refl s r
end
theorem tru_bl (S : Store) (b : Bool) : tru S (.bl b) = some b := rfl
theorem gt_any {X : Cx} {op : BoolOp} {es : List Expr} {pos : Pos} : PW X (.BoolOp op es pos) (GT X (.BoolOp op es pos)) :=
  ⟨fun wh pins s σ H Q I h => (h (eval (.BoolOp op es pos) X.env) pins s rfl I : _)⟩
section
variable {T : Sta} {C : Cl} {k : Nat}
/-- by the value -/
theorem sndT_plain {x : Ex} (ix : SndE T C k x) (X : Cx) (e : Expr) (xo : XOk T C k X) (ck : ckE T X.N x X.env.scope e = true) (hp : ∀ wh, isTrue e X.env wh = (do let v ← wh; standAt e.pos; holding [v] (truthy v)))
    (L : Nat → Option Nat) (μ : List Addr) (ρ : Env) (S : Store) (σ : L2.St) (H : Hp) (Q : Bool → Hp → Prop) (W : WX)
    (hb : ∀ n, C.base ≤ n → L n = none) (er : ER X.K μ H ρ σ) (sr : SR X.K L μ S H) (tk : Takes X W) (h : PoT T.tb X L μ σ H Q W (ev C x ρ S)) : GT X e σ H Q := by
  refine GT.of (pt_truth (pe_GE (e := e)) hp) ?_
  refine ix X e xo ck L μ ρ S σ H _ W hb er sr tk ?_
  generalize ev C x ρ S = r at h
  cases r with
  | fl => exact h
  | er e S => exact h
  | ok d S =>
    obtain ⟨b, hb, h⟩ := h
    exact fun v μ' H' w e s r => ⟨b, tru_ok hb s r, h v μ' H' w e s r⟩
theorem plainT_ok {e : Expr} (h : plainT e = true) (env : PySem.Env) : ∀ wh, isTrue e env wh = (do let v ← wh; standAt e.pos; holding [v] (truthy v)) := fun wh => by
  cases e <;> first | rfl | cases h
theorem sndT_of {x : Ex} (ix : SndE T C k x) (hp : ∀ (X : Cx) (e : Expr), ckE T X.N x X.env.scope e = true → plainT e = true) : SndT T C k x := fun X e xo ck L μ ρ S σ H Q W hb er sr tk h =>
  sndT_plain ix X e xo ck (plainT_ok (hp X e ck) _) L μ ρ S σ H Q W hb er sr tk h
theorem sndT_un (o : UO) (a : Ex) (ia : SndE T C k a) (ta : SndT T C k a) : SndT T C k (.un o a) := by
  intro X e xo ck L μ ρ S σ H Q W hb er sr tk h
  cases o with
  | neg =>
    refine sndT_plain (snd_un _ _ ia) X e xo ck (fun wh => ?_) L μ ρ S σ H Q W hb er sr tk h
    cases e <;> (try simp only [ckE, Bool.false_eq_true] at ck)
    rename_i p e pos
    cases p <;> (try simp only [ckE, Bool.false_eq_true] at ck)
    rfl
  | not =>
    cases e <;> (try simp only [ckE, Bool.false_eq_true] at ck)
    rename_i p e pos
    cases p <;> (try simp only [ckE, Bool.false_eq_true] at ck)
    refine GT.of (pt_not (pt_GT (e := e))) ?_
    have tt : ∀ d S1, ev C a ρ S = .ok d S1 → ∃ b, tru S1 d = some b := fun d S1 e1 => by
      have h' : PoT T.tb X L μ σ H Q W ((ev C a ρ S).bind fun x S1 => R.of (uop .not S1 x) S1) := h
      rw [e1] at h'
      obtain ⟨d2, e2, _⟩ := PoT.opt (show PoT T.tb X L μ σ H Q W (R.of (uop .not S1 d) S1) from h')
      unfold uop at e2
      simp only [Option.map_eq_some_iff] at e2
      obtain ⟨b, e3, _⟩ := e2
      exact ⟨b, e3⟩
    refine ta X e xo ck L μ ρ S σ H _ W hb er sr tk (PoT.bindT h tt fun d1 S1 v1 μ1 H1 b _ e1 w1 ex1 s1 r1 h1 => ?_)
    obtain ⟨d2, e2, h2⟩ := h1.opt
    unfold uop at e2
    simp only [Option.map_eq_some_iff] at e2
    obtain ⟨b', e3, rfl⟩ := e2
    rw [e1] at e3
    cases e3
    exact h2.here (v := .bl (!b)) s1 (.b _) rfl w1
theorem sndT_cm (o : CO) (a b : Ex) (ia : SndE T C k a) (ib : SndE T C k b) : SndT T C k (.cm o a b) := by
  intro X e xo ck L μ ρ S σ H Q W hb er sr tk h
  cases e <;> (try simp only [ckE, Bool.false_eq_true] at ck)
  rename_i l ps rs pos
  rcases ps with _ | ⟨p, _ | ⟨_, _⟩⟩ <;> rcases rs with _ | ⟨r, _ | ⟨_, _⟩⟩ <;> (try simp only [ckE, Bool.false_eq_true] at ck)
  obtain ⟨c0, ck⟩ := ba ck
  obtain ⟨c3, ck⟩ := ba ck
  obtain ⟨c1, c2⟩ := ba ck
  have ep := of_decide_eq_true c0
  subst ep
  obtain ⟨rd, ro, hs⟩ := cop_ok X xo.un o
  refine GT.of (pt_cmpR ro (pe_GE (e := l)) (pe_GE (e := r)) (mark_no c3 _)) ?_
  refine ia X l xo c1 L μ ρ S σ H _ W hb er sr tk (PoT.bind h fun d1 S1 v1 μ1 H1 _ w1 e1 s1 r1 h1 => ?_)
  refine ib X r xo c2 L μ1 ρ S1 σ H1 _ W hb (er.mono e1) s1 tk (PoT.bind h1 fun d2 S2 v2 μ2 H2 _ w2 e2 s2 r2 h2 => ?_)
  obtain ⟨d, e3, h3⟩ := h2.opt
  simp only [Option.map_eq_some_iff] at e3
  obtain ⟨c, e4, rfl⟩ := e3
  exact hs (tb := T.tb) (σ := σ) (W := W) e4 s2 (RD.mono e2 e2.pre _ _ r1) r2 ⟨c, rfl, h3.here s2 (.b _) (tru_bl _ _) w2⟩
theorem sndT_cm2 (o p : CO) (a b c : Ex) (ia : SndE T C k a) (ib : SndE T C k b) (ic : SndE T C k c) : SndT T C k (.cm2 o p a b c) := by
  intro X e xo ck L μ ρ S σ H Q W hb er sr tk h
  cases e <;> (try simp only [ckE, Bool.false_eq_true] at ck)
  rename_i l ps rs pos
  rcases ps with _ | ⟨q1, _ | ⟨q2, _ | ⟨_, _⟩⟩⟩ <;> rcases rs with _ | ⟨m, _ | ⟨r, _ | ⟨_, _⟩⟩⟩ <;> (try simp only [ckE, Bool.false_eq_true] at ck)
  obtain ⟨c1, ck⟩ := ba ck
  obtain ⟨c2, ck⟩ := ba ck
  obtain ⟨c3, ck⟩ := ba ck
  obtain ⟨c4, ck⟩ := ba ck
  obtain ⟨c5, ck⟩ := ba ck
  obtain ⟨c6, c7⟩ := ba ck
  have ep := of_decide_eq_true c1
  subst ep
  have ep := of_decide_eq_true c2
  subst ep
  obtain ⟨rd, ro, hs⟩ := cop_ok X xo.un o
  obtain ⟨rd', ro', hs'⟩ := cop_ok X xo.un p
  refine GT.of (pt_chain ro ro' (pe_GE (e := l)) (pe_GE (e := m)) (pe_GE (e := r)) (marks_no c3 c4 _ _)) ?_
  refine ia X l xo c5 L μ ρ S σ H _ W hb er sr tk (PoT.bind h fun d1 S1 v1 μ1 H1 _ w1 e1 s1 r1 h1 => ?_)
  refine ib X m xo c6 L μ1 ρ S1 σ H1 _ W hb (er.mono e1) s1 tk (PoT.bind h1 fun d2 S2 v2 μ2 H2 _ w2 e2 s2 r2 h2 => ?_)
  cases q : cop o S2 d1 d2 with
  | none => rw [q] at h2; exact False.elim h2
  | some t =>
    rw [q] at h2
    refine hs (tb := T.tb) (σ := σ) (W := W) q s2 (RD.mono e2 e2.pre _ _ r1) r2 ⟨t, rfl, ?_⟩
    cases t with
    | false =>
      rw [if_neg Bool.false_ne_true]
      exact ⟨false, rfl, PoT.here h2 s2 (.b _) (tru_bl _ _) w2⟩
    | true =>
      rw [if_pos rfl]
      refine ic X r xo c7 L μ2 ρ S2 σ H2 _ W hb ((er.mono e1).mono e2) s2 tk (PoT.bind h2 fun d3 S3 v3 μ3 H3 _ w3 e3 s3 r3 h3 => ?_)
      obtain ⟨d, e4, h4⟩ := h3.opt
      simp only [Option.map_eq_some_iff] at e4
      obtain ⟨c, e5, rfl⟩ := e4
      exact hs' (tb := T.tb) (σ := σ) (W := W) e5 s3 (RD.mono e3 e3.pre _ _ r2) r3 ⟨c, rfl, h4.here s3 (.b _) (tru_bl _ _) w3⟩
theorem sndT_an (a b : Ex) (ta : SndT T C k a) (tb : SndT T C k b) : SndT T C k (.an a b) := by
  intro X e xo ck L μ ρ S σ H Q W hb er sr tk h
  cases e <;> (try simp only [ckE, Bool.false_eq_true] at ck)
  rename_i op vs pos
  cases op <;> (try simp only [ckE, Bool.false_eq_true] at ck)
  rcases vs with _ | ⟨x, _ | ⟨y, r⟩⟩ <;> (try simp only [ckE, Bool.false_eq_true] at ck)
  obtain ⟨c1, c2⟩ := ba ck
  refine GT.of (PW.pt (pw_and (pt_GT (e := x)) (gt_any (op := .And) (es := y :: r) (pos := pos)))) ?_
  have tt : ∀ d S1, ev C a ρ S = .ok d S1 → ∃ b, tru S1 d = some b := fun d S1 e1 => by
    have h' : PoT T.tb X L μ σ H Q W ((ev C a ρ S).bind fun x S1 => match tru S1 x with | some true => ev C b ρ S1 | some false => .ok x S1 | none => .fl) := h
    rw [e1] at h'
    cases q : tru S1 d with
    | none =>
      have h2 : PoT T.tb X L μ σ H Q W (match tru S1 d with | some true => ev C b ρ S1 | some false => .ok d S1 | none => .fl) := h'
      rw [q] at h2
      exact False.elim h2
    | some t => exact ⟨t, rfl⟩
  refine ta X x xo c1 L μ ρ S σ H _ W hb er sr tk (PoT.bindT h tt fun d1 S1 v1 μ1 H1 t _ q w1 e1 s1 r1 h1 => ?_)
  rw [q] at h1
  cases t with
  | false =>
    rw [if_neg Bool.false_ne_true]
    exact PoT.here h1 s1 r1 q w1
  | true =>
    rw [if_pos rfl]
    cases r with
    | nil => exact GT.of (PW.pt (pw_and1 (pt_GT (e := y)))) (tb X y xo c2 L μ1 ρ S1 σ H1 _ W hb (er.mono e1) s1 tk h1)
    | cons z r => exact tb X _ xo c2 L μ1 ρ S1 σ H1 _ W hb (er.mono e1) s1 tk h1
theorem sndT_or (a b : Ex) (ta : SndT T C k a) (tb : SndT T C k b) : SndT T C k (.orr a b) := by
  intro X e xo ck L μ ρ S σ H Q W hb er sr tk h
  cases e <;> (try simp only [ckE, Bool.false_eq_true] at ck)
  rename_i op vs pos
  cases op <;> (try simp only [ckE, Bool.false_eq_true] at ck)
  rcases vs with _ | ⟨x, _ | ⟨y, r⟩⟩ <;> (try simp only [ckE, Bool.false_eq_true] at ck)
  obtain ⟨c1, c2⟩ := ba ck
  refine GT.of (PW.pt (pw_or (pt_GT (e := x)) (gt_any (op := .Or) (es := y :: r) (pos := pos)))) ?_
  have tt : ∀ d S1, ev C a ρ S = .ok d S1 → ∃ b, tru S1 d = some b := fun d S1 e1 => by
    have h' : PoT T.tb X L μ σ H Q W ((ev C a ρ S).bind fun x S1 => match tru S1 x with | some true => .ok x S1 | some false => ev C b ρ S1 | none => .fl) := h
    rw [e1] at h'
    cases q : tru S1 d with
    | none =>
      have h2 : PoT T.tb X L μ σ H Q W (match tru S1 d with | some true => .ok d S1 | some false => ev C b ρ S1 | none => .fl) := h'
      rw [q] at h2
      exact False.elim h2
    | some t => exact ⟨t, rfl⟩
  refine ta X x xo c1 L μ ρ S σ H _ W hb er sr tk (PoT.bindT h tt fun d1 S1 v1 μ1 H1 t _ q w1 e1 s1 r1 h1 => ?_)
  rw [q] at h1
  cases t with
  | true =>
    rw [if_pos rfl]
    exact PoT.here h1 s1 r1 q w1
  | false =>
    rw [if_neg Bool.false_ne_true]
    cases r with
    | nil => exact GT.of (PW.pt (pw_or1 (pt_GT (e := y)))) (tb X y xo c2 L μ1 ρ S1 σ H1 _ W hb (er.mono e1) s1 tk h1)
    | cons z r => exact tb X _ xo c2 L μ1 ρ S1 σ H1 _ W hb (er.mono e1) s1 tk h1
theorem Po.condT {tb : Tab} {X : Cx} {L : Nat → Option Nat} {μ : List Addr} {σ : L2.St} {H : Hp} {W : WX} {Q : VK} {Q1 : Bool → Hp → Prop} {r : R D} {f g : Store → R D}
    (h : Po tb X L μ σ H Q W (r.bind fun x S1 => match tru S1 x with | some true => f S1 | some false => g S1 | none => .fl))
    (k : ∀ S1 μ1 H1 b, Wf H1 → Ext μ H μ1 H1 → SR X.K L μ1 S1 H1 → Po tb X L μ1 σ H1 Q W (if b = true then f S1 else g S1) → Q1 b H1) : PoT tb X L μ σ H Q1 W r := by
  cases r with
  | fl => exact h
  | er e S => exact h
  | ok d S =>
    have h' : Po tb X L μ σ H Q W (match tru S d with | some true => f S | some false => g S | none => .fl) := h
    cases q : tru S d with
    | none => rw [q] at h'; exact False.elim h'
    | some b =>
      rw [q] at h'
      refine ⟨b, q, fun v μ1 H1 w e s r => k S μ1 H1 b w e s ?_⟩
      have h2 : Po tb X L μ σ H Q W (if b = true then f S else g S) := by cases b <;> exact h'
      generalize (if b = true then f S else g S) = r2 at h2
      cases r2 with
      | fl => exact h2
      | er x S2 => exact fun c dd μ2 H2 e2 => h2 c dd μ2 H2 (e.trans e2)
      | ok d2 S2 => exact fun v2 μ2 H2 w2 e2 => h2 v2 μ2 H2 w2 (e.trans e2)
theorem snd_ite (c a b : Ex) (tc : SndT T C k c) (ia : SndE T C k a) (ib : SndE T C k b) : SndE T C k (.ite c a b) := by
  intro X e xo ck L μ ρ S σ H Q W hb er sr tk h
  cases e <;> simp only [ckE, Bool.false_eq_true] at ck
  rename_i t x y pos
  obtain ⟨c0, ck⟩ := ba ck
  obtain ⟨c1, c2⟩ := ba ck
  refine GE.of (pe_ifExp (pt_GT (e := t)) (pe_GE (e := x)) (pe_GE (e := y))) ?_
  refine tc X t xo c0 L μ ρ S σ H _ W hb er sr tk (Po.condT h fun S1 μ1 H1 b' w1 e1 s1 h1 => ?_)
  cases b' with
  | true => exact ia X x xo c1 L μ1 ρ S1 σ H1 _ W hb (er.mono e1) s1 tk h1
  | false => exact ib X y xo c2 L μ1 ρ S1 σ H1 _ W hb (er.mono e1) s1 tk h1
theorem PoT.condT {tb : Tab} {X : Cx} {L : Nat → Option Nat} {μ : List Addr} {σ : L2.St} {H : Hp} {W : WX} {Q Q1 : Bool → Hp → Prop} {r : R D} {f g : Store → R D}
    (h : PoT tb X L μ σ H Q W (r.bind fun x S1 => match tru S1 x with | some true => f S1 | some false => g S1 | none => .fl))
    (k : ∀ S1 μ1 H1 b, Wf H1 → Ext μ H μ1 H1 → SR X.K L μ1 S1 H1 → PoT tb X L μ1 σ H1 Q W (if b = true then f S1 else g S1) → Q1 b H1) : PoT tb X L μ σ H Q1 W r := by
  cases r with
  | fl => exact h
  | er e S => exact h
  | ok d S =>
    have h' : PoT tb X L μ σ H Q W (match tru S d with | some true => f S | some false => g S | none => .fl) := h
    cases q : tru S d with
    | none => rw [q] at h'; exact False.elim h'
    | some b =>
      rw [q] at h'
      refine ⟨b, q, fun v μ1 H1 w e s r => k S μ1 H1 b w e s ?_⟩
      have h2 : PoT tb X L μ σ H Q W (if b = true then f S else g S) := by cases b <;> exact h'
      generalize (if b = true then f S else g S) = r2 at h2
      cases r2 with
      | fl => exact h2
      | er x S2 => exact fun c dd μ2 H2 e2 => h2 c dd μ2 H2 (e.trans e2)
      | ok d2 S2 =>
        obtain ⟨b2, hb2, h2⟩ := h2
        exact ⟨b2, hb2, fun v2 μ2 H2 w2 e2 => h2 v2 μ2 H2 w2 (e.trans e2)⟩
theorem sndT_ite (c a b : Ex) (tc : SndT T C k c) (ta : SndT T C k a) (tb : SndT T C k b) : SndT T C k (.ite c a b) := by
  intro X e xo ck L μ ρ S σ H Q W hb er sr tk h
  cases e <;> simp only [ckE, Bool.false_eq_true] at ck
  rename_i t x y pos
  obtain ⟨c0, ck⟩ := ba ck
  obtain ⟨c1, c2⟩ := ba ck
  have run : GT X t σ H fun b' H1 => if b' = true then GT X x σ H1 Q else GT X y σ H1 Q :=
    tc X t xo c0 L μ ρ S σ H _ W hb er sr tk (PoT.condT h fun S1 μ1 H1 b' w1 e1 s1 h1 => by
      cases b' with
      | true => exact ta X x xo c1 L μ1 ρ S1 σ H1 _ W hb (er.mono e1) s1 tk h1
      | false => exact tb X y xo c2 L μ1 ρ S1 σ H1 _ W hb (er.mono e1) s1 tk h1)
  intro wh pins s ew I
  refine isTrue_IfExp (thn (run _ pins s rfl I) fun b' s1 ⟨H1, I1, q⟩ => ?_)
  cases b' with
  | true => exact q _ pins s1 rfl I1
  | false => exact q _ pins s1 rfl I1
/-! ### argument lists, displays -/
theorem snd_nil : SndL T C k .nil := by
  intro X es xo ck L μ ρ S σ H Q W hb er sr tk h
  cases es <;> simp only [ckL, Bool.false_eq_true] at ck
  exact GA.wf (GA.of pa_nil fun w => h [] μ H w .refl sr .nil)
theorem snd_cons (a as : Ex) (ia : SndE T C k a) (il : SndL T C k as) : SndL T C k (.cons a as) := by
  intro X es xo ck L μ ρ S σ H Q W hb er sr tk h
  cases es <;> simp only [ckL, Bool.false_eq_true] at ck
  rename_i e es
  obtain ⟨c0, ck⟩ := ba ck
  obtain ⟨c1, c2⟩ := ba ck
  refine GA.of (pa_cons (pe_GE (e := e)) (pa_GA (es := es)) (star_cons c0 _ _)) ?_
  refine ia X e xo c1 L μ ρ S σ H _ W hb er sr tk (PoA.bind h fun d1 S1 v1 μ1 H1 _ w1 e1 s1 r1 h1 => ?_)
  refine il X es xo c2 L μ1 ρ S1 σ H1 _ W hb (er.mono e1) s1 tk (PoA.bindA h1 fun d2 S2 v2 μ2 H2 _ w2 e2 s2 r2 h2 => ?_)
  exact h2 _ μ2 H2 w2 .refl s2 (.cons (RD.mono e2 e2.pre _ _ r1) r2)
theorem snd_star (a as : Ex) (ia : SndE T C k a) (il : SndL T C k as) : SndL T C k (.star a as) := by
  intro X es xo ck L μ ρ S σ H Q W hb er sr tk h
  rcases es with _ | ⟨e, es⟩ <;> (try simp only [ckL, Bool.false_eq_true] at ck)
  cases e <;> (try simp only [ckL, Bool.false_eq_true] at ck)
  rename_i e pos
  obtain ⟨c1, c2⟩ := ba ck
  refine GA.of (StX.pa_star (pe_GE (e := e)) (pa_GA (es := es)) rfl) ?_
  refine ia X e xo c1 L μ ρ S σ H _ W hb er sr tk (PoA.bind h fun d1 S1 v1 μ1 H1 e0 w1 e1 s1 r1 h1 => ?_)
  cases q : items S1 d1 with
  | none => rw [q] at h1; exact False.elim h1
  | some ys =>
    rw [q] at h1
    have sq : ∃ p xs, v1 = .ref p ∧ (SqT X.K H1 p xs ∨ SqL X.K H1 p xs) ∧ RDs X.K μ1 μ1 H1 ys xs ∧ ((∃ o, H1 p = some (.tup xs) ∧ o = ()) ∨ True) := by
      cases d1 <;> simp only [items, reduceCtorEq, Option.some.injEq] at q
      · subst q
        simp only [RD] at r1
        obtain ⟨p, xs, e2, t, r⟩ := r1
        exact ⟨p, xs, e2, .inl t.sq, r, .inr trivial⟩
      · subst q
        simp only [RD] at r1
        obtain ⟨p, xs, e2, t, r⟩ := r1
        exact ⟨p, xs, e2, .inr (.of t.1), r, .inr trivial⟩
      · rename_i n
        obtain ⟨l, _⟩ := s1.look r1
        have ed : dr S1 (.loc n) = S1.getD n .non := rfl
        generalize S1.getD n .non = z at q ed
        cases z <;> simp only [reduceCtorEq, Option.some.injEq] at q
        subst q
        obtain ⟨p, xs, e2, t, r⟩ := l _ ed
        exact ⟨p, xs, e2, .inr (.of t), r, .inr trivial⟩
    obtain ⟨p, xs, e2, t, r, _⟩ := sq
    refine ⟨p, xs, e2, t, ?_⟩
    refine il X es xo c2 L μ1 ρ S1 σ H1 _ W hb (er.mono e1) s1 tk (PoA.bindA h1 fun d2 S2 v2 μ2 H2 _ w2 e2 s2 r2 h2 => ?_)
    exact h2 _ μ2 H2 w2 .refl s2 ((RDs.mono e2 e2.pre _ _ r).append r2)
theorem snd_tu (as : Ex) (il : SndL T C k as) : SndE T C k (.tu as) := by
  intro X e xo ck L μ ρ S σ H Q W hb er sr tk h
  cases e <;> simp only [ckE, Bool.false_eq_true] at ck
  rename_i es kk pos
  refine GE.wf (GE.of (pe_tup (pa_GA (es := es))) ?_)
  refine il X es xo ck L μ ρ S σ H _ W hb er sr tk (Po.bindA h fun d1 S1 v1 μ1 H1 _ w1 e1 s1 r1 h1 => ?_)
  by_cases hl : d1.length ≤ lim
  · rw [if_pos hl] at h1
    exact ⟨by rw [r1.length, ← lim_eq]; exact hl, fun p n => h1.new s1 n (.newT s1 n r1)⟩
  · rw [if_neg hl] at h1
    exact False.elim h1
theorem snd_li (as : Ex) (il : SndL T C k as) : SndE T C k (.li as) := by
  intro X e xo ck L μ ρ S σ H Q W hb er sr tk h
  cases e <;> simp only [ckE, Bool.false_eq_true] at ck
  rename_i es pos
  refine GE.wf (GE.of (pe_lst (pa_GA (es := es))) ?_)
  refine il X es xo ck L μ ρ S σ H _ W hb er sr tk (Po.bindA h fun d1 S1 v1 μ1 H1 _ w1 e1 s1 r1 h1 => ?_)
  by_cases hl : d1.length ≤ lim
  · rw [if_pos hl] at h1
    exact ⟨by rw [r1.length, ← lim_eq]; exact hl, fun p n => h1.new s1 n (.newL s1 n r1)⟩
  · rw [if_neg hl] at h1
    exact False.elim h1
/-! ### subscripts -/
theorem snd_ix (a i : Ex) (ia : SndE T C k a) (ib : SndE T C k i) : SndE T C k (.ix a i) := by
  intro X e xo ck L μ ρ S σ H Q W hb er sr tk h
  cases e <;> simp only [ckE, Bool.false_eq_true] at ck
  rename_i e s pos
  obtain ⟨c0, ck⟩ := ba ck
  obtain ⟨c1, c2⟩ := ba ck
  obtain ⟨rd, ro, hs⟩ := idx_ok X xo.un
  refine GE.wf (GE.of (pe_ix ro (pe_GE (e := e)) (pe_GE (e := s)) (plain_ix c0)) ?_)
  refine ia X e xo c1 L μ ρ S σ H _ W hb er sr tk (Po.bind h fun d1 S1 v1 μ1 H1 _ w1 e1 s1 r1 h1 => ?_)
  refine ib X s xo c2 L μ1 ρ S1 σ H1 _ W hb (er.mono e1) s1 tk (Po.bind h1 fun d2 S2 v2 μ2 H2 _ w2 e2 s2 r2 h2 => ?_)
  obtain ⟨d, e3, h3⟩ := h2.opt
  exact hs e3 s2 (RD.mono e2 e2.pre _ _ r1) r2 h3
theorem opt_ok {X : Cx} {l : Option Expr} {lo : Ex} (c : (match l with | none => (match lo with | .no => true | _ => false) | some l => (match lo with | .no => false | _ => ckE T X.N lo X.env.scope l)) = true) (il : SndE T C k lo) (xo : XOk T C k X)
    {L : Nat → Option Nat} {μ : List Addr} {ρ : Env} {S : Store} {σ : L2.St} {H : Hp} {Q : VK} {W : WX} {f : Option Int → Store → R D} (hb : ∀ n, C.base ≤ n → L n = none) (er : ER X.K μ H ρ σ) (sr : SR X.K L μ S H) (tk : Takes X W)
    (h : Po T.tb X L μ σ H Q W ((ev C lo ρ S).bind fun d S1 => match optI (isNo lo) d with | some o => f o S1 | none => .fl)) {Q1 : Option Int → Hp → Prop}
    (step : ∀ o S1 μ1 H1, Ext μ H μ1 H1 → SR X.K L μ1 S1 H1 → Po T.tb X L μ1 σ H1 Q W (f o S1) → Q1 o H1) : GO X l σ H Q1 := by
  cases l with
  | none =>
    cases lo <;> simp only [Bool.false_eq_true] at c
    exact GO.of po_none (step none S μ H .refl sr h)
  | some l =>
    refine GO.of (po_some (pe_GE (e := l))) ?_
    have c' : ckE T X.N lo X.env.scope l = true ∧ isNo lo = false := by
      cases lo <;> first | exact ⟨c, rfl⟩ | cases c
    refine il X l xo c'.1 L μ ρ S σ H _ W hb er sr tk (Po.bind h fun d1 S1 v1 μ1 H1 e0 w1 e1 s1 r1 h1 => ?_)
    rw [c'.2] at h1
    cases d1 <;> simp only [optI, if_neg Bool.false_ne_true] at h1 <;> first
      | exact False.elim h1
      | (simp only [RD] at r1
         exact ⟨_, r1, step _ S1 μ1 H1 e1 s1 h1⟩)
theorem snd_sl (a lo hi : Ex) (ia : SndE T C k a) (il : SndE T C k lo) (ih : SndE T C k hi) : SndE T C k (.sl a lo hi) := by
  intro X e xo ck L μ ρ S σ H Q W hb er sr tk h
  cases e <;> (try simp only [ckE, Bool.false_eq_true] at ck)
  rename_i e s pos
  cases s <;> (try simp only [ckE, Bool.false_eq_true] at ck)
  rename_i l hh st pos2
  cases st <;> (try simp only [ckE, Bool.false_eq_true] at ck)
  obtain ⟨c0, ck⟩ := ba ck
  obtain ⟨c1, c2⟩ := ba ck
  obtain ⟨rd, ro, hs⟩ := slc_ok X
  refine GE.wf (GE.of (pe_slice ro (pe_GE (e := e)) (po_GO (e := l)) (po_GO (e := hh))) ?_)
  refine ia X e xo c0 L μ ρ S σ H _ W hb er sr tk (Po.bind h fun d1 S1 v1 μ1 H1 _ w1 e1 s1 r1 h1 => ?_)
  refine opt_ok c1 il xo hb (er.mono e1) s1 tk h1 fun o S2 μ2 H2 e2 s2 h2 => ?_
  refine opt_ok c2 ih xo hb ((er.mono e1).mono e2) s2 tk h2 fun o' S3 μ3 H3 e3 s3 h3 => ?_
  obtain ⟨d, e4, h4⟩ := h3.opt
  exact hs e4 s3 (RD.mono e3 e3.pre _ _ (RD.mono e2 e2.pre _ _ r1)) h4
theorem snd_rv (a : Ex) (ia : SndE T C k a) : SndE T C k (.rv a) := by
  intro X e xo ck L μ ρ S σ H Q W hb er sr tk h
  cases e <;> (try simp only [ckE, Bool.false_eq_true] at ck)
  rename_i e s pos
  cases s <;> (try simp only [ckE, Bool.false_eq_true] at ck)
  rename_i l hh st pos2
  cases l <;> cases hh <;> cases st <;> (try simp only [ckE, Bool.false_eq_true] at ck)
  rename_i st
  cases st <;> (try simp only [ckE, Bool.false_eq_true] at ck)
  rename_i o st pos3
  cases o <;> cases st <;> (try simp only [ckE, Bool.false_eq_true] at ck)
  rename_i c kk pos4
  cases c <;> (try simp only [ckE, Bool.false_eq_true] at ck)
  rename_i i
  match i, ck with
  | 1, ck =>
    refine GE.wf (GE.of (pe_rv (pe_GE (e := e))) ?_)
    refine ia X e xo ck L μ ρ S σ H _ W hb er sr tk (Po.bind h fun d1 S1 v1 μ1 H1 _ w1 e1 s1 r1 h1 => ?_)
    obtain ⟨d, e2, h2⟩ := h1.opt
    obtain ⟨l, fz, t, _⟩ := s1.look r1
    unfold rvs at e2
    generalize ed : dr S1 d1 = x at e2
    cases x <;> simp only [reduceCtorEq, Option.some.injEq] at e2
    · subst e2
      obtain ⟨_, p, xs, rfl, g1, g2⟩ := t _ ed
      exact .inr ⟨p, xs, rfl, g1.sq, fun q n => h2.new s1 n (.newT s1 n g2.reverse)⟩
    · subst e2
      obtain ⟨p, xs, rfl, g1, g2⟩ := l _ ed
      exact .inl ⟨p, xs, rfl, .of g1, fun q n => h2.new s1 n (.newL s1 n g2.reverse)⟩
/-! ### calls -/
theorem prim_call {X : Cx} {p : Pr} {x : Str} {ps pos : Pos} {e : Expr} {es : List Expr} {r : List V → Hp → VK → Prop} {t : TA} (xo : XOk T C k X) (cb : ckB T X.env.scope x (primN p) = true) (bb : bootB x (primV p) = true) (ns : (e :: es).all noStar = true)
    (rule : CallR X (primV p) r) (ha : PA X (e :: es) t) : PE X (.Call (.Name x ps) (e :: es) [] pos) (tCB r t) := by
  obtain ⟨_, g, n, m⟩ := ckB_ok xo cb
  obtain ⟨n1, _, n3⟩ := okN_ok n
  rw [List.all_cons] at ns
  obtain ⟨s1, s2⟩ := ba ns
  have hv := bootB_ok bb
  cases p <;> first
    | exact pe_callB rule g m hv ha n3 n1 (star_cons s1 _ _) (star_any s2 _ _)
    | exact pe_callTy rule g m hv ha n3 n1 (star_cons s1 _ _) (star_any s2 _ _)
theorem snd_pr (p : Pr) (as : Ex) (il : SndL T C k as) : SndE T C k (.pr p as) := by
  intro X e xo ck L μ ρ S σ H Q W hb er sr tk h
  cases e <;> (try simp only [ckE, Bool.false_eq_true] at ck)
  rename_i f es kws pos
  cases f <;> (try simp only [ckE, Bool.false_eq_true] at ck)
  cases kws <;> (try simp only [ckE, Bool.false_eq_true] at ck)
  rename_i x px
  obtain ⟨c0, ck⟩ := ba ck
  obtain ⟨c1, ck⟩ := ba ck
  obtain ⟨c2, ck⟩ := ba ck
  obtain ⟨c3, c4⟩ := ba ck
  cases es with
  | nil => exact absurd rfl (of_decide_eq_true c2)
  | cons e es =>
    obtain ⟨rd, ro, hs⟩ := prim_ok X xo.calm p
    refine GE.wf (GE.of (prim_call xo c0 c1 c3 ro (pa_GA (es := e :: es))) ?_)
    refine il X (e :: es) xo c4 L μ ρ S σ H _ W hb er sr tk (Po.bindA h fun d1 S1 v1 μ1 H1 _ w1 e1 s1 r1 h1 => ?_)
    obtain ⟨d, e2, h2⟩ := h1.opt
    exact hs e2 s1 r1 h2 w1
/-- a def's call: the promise from the evaluator's word -/
theorem Po.toC {X : Cx} {L : Nat → Option Nat} {μ : List Addr} {σ : L2.St} {H : Hp} {Q : VK} {W : WX} {r : R D} (h : Po T.tb X L μ σ H Q W r) : PoC T.tb X.K X.mg L μ H (Wq Q) (fun c dd H' => W c dd σ H') r := by
  cases r with
  | fl => exact h
  | er e S => exact h
  | ok d S => exact fun v μ' H' e s r w => h v μ' H' w e s r
theorem evs_len {N : List Str} {sc : Scope} {ρ : Env} : ∀ (as : Ex) (es : List Expr) (S S' : Store) (ds : List D), ckL T N as sc es = true → es.all noStar = true → evs C as ρ S = .ok ds S' → ds.length = es.length
  | .nil, es, S, S', ds, ck, _, e => by
    cases es <;> simp only [ckL, Bool.false_eq_true] at ck
    cases e
    rfl
  | .cons a as, es, S, S', ds, ck, ns, e => by
    cases es <;> simp only [ckL, Bool.false_eq_true] at ck
    rename_i x es
    obtain ⟨_, ck⟩ := ba ck
    obtain ⟨_, c2⟩ := ba ck
    rw [List.all_cons] at ns
    have e' : ((ev C a ρ S).bind fun x S1 => (evs C as ρ S1).bind fun xs S2 => .ok (x :: xs) S2) = .ok ds S' := e
    cases q : ev C a ρ S with
    | fl => rw [q] at e'; cases e'
    | er _ _ => rw [q] at e'; cases e'
    | ok d S1 =>
      rw [q] at e'
      have e2 : ((evs C as ρ S1).bind fun xs S2 => .ok (d :: xs) S2) = R.ok ds S' := e'
      cases q2 : evs C as ρ S1 with
      | fl => rw [q2] at e2; cases e2
      | er _ _ => rw [q2] at e2; cases e2
      | ok dd S2 =>
        rw [q2] at e2
        cases e2
        rw [List.length_cons, List.length_cons, evs_len as es S1 S' dd c2 (ba ns).2 q2]
  | .star a as, es, S, S', ds, ck, ns, e => by
    rcases es with _ | ⟨x, es⟩ <;> (try simp only [ckL, Bool.false_eq_true] at ck)
    cases x <;> (try simp only [ckL, Bool.false_eq_true] at ck)
    rw [List.all_cons] at ns
    cases (ba ns).1
  | .v _, es, _, _, _, ck, _, _ => by cases es <;> simp only [ckL, Bool.false_eq_true] at ck
  | .k _, es, _, _, _, ck, _, _ => by cases es <;> simp only [ckL, Bool.false_eq_true] at ck
  | .gc _ _, es, _, _, _, ck, _, _ => by cases es <;> simp only [ckL, Bool.false_eq_true] at ck
  | .un _ _, es, _, _, _, ck, _, _ => by cases es <;> simp only [ckL, Bool.false_eq_true] at ck
  | .bi _ _ _, es, _, _, _, ck, _, _ => by cases es <;> simp only [ckL, Bool.false_eq_true] at ck
  | .cm _ _ _, es, _, _, _, ck, _, _ => by cases es <;> simp only [ckL, Bool.false_eq_true] at ck
  | .cm2 _ _ _ _ _, es, _, _, _, ck, _, _ => by cases es <;> simp only [ckL, Bool.false_eq_true] at ck
  | .cm3 _ _ _ _ _ _ _, es, _, _, _, ck, _, _ => by cases es <;> simp only [ckL, Bool.false_eq_true] at ck
  | .rgl _ _ _, es, _, _, _, ck, _, _ => by cases es <;> simp only [ckL, Bool.false_eq_true] at ck
  | .rgd _ _, es, _, _, _, ck, _, _ => by cases es <;> simp only [ckL, Bool.false_eq_true] at ck
  | .pop _ _, es, _, _, _, ck, _, _ => by cases es <;> simp only [ckL, Bool.false_eq_true] at ck
  | .idf _ _ _, es, _, _, _, ck, _, _ => by cases es <;> simp only [ckL, Bool.false_eq_true] at ck
  | .rgt _ _, es, _, _, _, ck, _, _ => by cases es <;> simp only [ckL, Bool.false_eq_true] at ck
  | .an _ _, es, _, _, _, ck, _, _ => by cases es <;> simp only [ckL, Bool.false_eq_true] at ck
  | .orr _ _, es, _, _, _, ck, _, _ => by cases es <;> simp only [ckL, Bool.false_eq_true] at ck
  | .ite _ _ _, es, _, _, _, ck, _, _ => by cases es <;> simp only [ckL, Bool.false_eq_true] at ck
  | .tu _, es, _, _, _, ck, _, _ => by cases es <;> simp only [ckL, Bool.false_eq_true] at ck
  | .li _, es, _, _, _, ck, _, _ => by cases es <;> simp only [ckL, Bool.false_eq_true] at ck
  | .ix _ _, es, _, _, _, ck, _, _ => by cases es <;> simp only [ckL, Bool.false_eq_true] at ck
  | .sl _ _ _, es, _, _, _, ck, _, _ => by cases es <;> simp only [ckL, Bool.false_eq_true] at ck
  | .no, es, _, _, _, ck, _, _ => by cases es <;> simp only [ckL, Bool.false_eq_true] at ck
  | .rv _, es, _, _, _, ck, _, _ => by cases es <;> simp only [ckL, Bool.false_eq_true] at ck
  | .cal _ _, es, _, _, _, ck, _, _ => by cases es <;> simp only [ckL, Bool.false_eq_true] at ck
  | .calz _ _, es, _, _, _, ck, _, _ => by cases es <;> simp only [ckL, Bool.false_eq_true] at ck
  | .calk _ _ _ _ _, es, _, _, _, ck, _, _ => by cases es <;> simp only [ckL, Bool.false_eq_true] at ck
  | .pr _ _, es, _, _, _, ck, _, _ => by cases es <;> simp only [ckL, Bool.false_eq_true] at ck
  | .isi _ _, es, _, _, _, ck, _, _ => by cases es <;> simp only [ckL, Bool.false_eq_true] at ck
  | .lc _ _ _ _ _, es, _, _, _, ck, _, _ => by cases es <;> simp only [ckL, Bool.false_eq_true] at ck
  | .rg1 _, es, _, _, _, ck, _, _ => by cases es <;> simp only [ckL, Bool.false_eq_true] at ck
  | .rg2 _ _, es, _, _, _, ck, _, _ => by cases es <;> simp only [ckL, Bool.false_eq_true] at ck
  | .en _, es, _, _, _, ck, _, _ => by cases es <;> simp only [ckL, Bool.false_eq_true] at ck
  | .zp _ _, es, _, _, _, ck, _, _ => by cases es <;> simp only [ckL, Bool.false_eq_true] at ck
  | .fr _, es, _, _, _, ck, _, _ => by cases es <;> simp only [ckL, Bool.false_eq_true] at ck
  | .it _, es, _, _, _, ck, _, _ => by cases es <;> simp only [ckL, Bool.false_eq_true] at ck
  | .bad, es, _, _, _, ck, _, _ => by cases es <;> simp only [ckL, Bool.false_eq_true] at ck
  | .yes, es, _, _, _, ck, _, _ => by cases es <;> simp only [ckL, Bool.false_eq_true] at ck
theorem evs_nil {N : List Str} {sc : Scope} {ρ : Env} {as : Ex} {S : Store} (ck : ckL T N as sc [] = true) : evs C as ρ S = .ok [] S := by
  cases as <;> first | rfl | (simp only [ckL, Bool.false_eq_true] at ck)
theorem snd_cal (f : Nat) (as : Ex) (il : SndL T C k as) : SndE T C k (.cal f as) := by
  intro X e xo ck L μ ρ S σ H Q W hb er sr tk h
  cases e <;> (try simp only [ckE, Bool.false_eq_true] at ck)
  rename_i fe es kws pos
  cases fe <;> (try simp only [ckE, Bool.false_eq_true] at ck)
  cases kws <;> (try simp only [ckE, Bool.false_eq_true] at ck)
  rename_i x px
  obtain ⟨c0, ck⟩ := ba ck
  obtain ⟨c1, ck⟩ := ba ck
  obtain ⟨c3, c4⟩ := ba ck
  obtain ⟨g, n⟩ := ckG_ok c0
  obtain ⟨n1, _, n3⟩ := okN_ok n
  cases q : T.P f with
  | none => rw [q] at c1; cases c1
  | some fn =>
    rw [q] at c1
    obtain ⟨d1, c1⟩ := ba c1
    obtain ⟨d2, d3⟩ := ba c1
    have ex := of_decide_eq_true d1
    subst ex
    obtain ⟨ad, fd, mgf, kp, bd, _, F⟩ := xo.hc.fn f fn q
    obtain ⟨sc, ln, ds, hds, hbd⟩ := bd es.length (of_decide_eq_true d2) (of_decide_eq_true d3)
    refine GE.wf ?_
    cases es with
    | nil =>
      rw [show ev C (.cal f as) ρ S = (evs C as ρ S).bind fun xs S1 => C.call C.base f (xs ++ C.dfl f xs.length) S1 from rfl, evs_nil c4] at h
      have h0 : Po T.tb X L μ σ H Q W (C.call C.base f (dflOf T.P f 0) S) := by
        have h1 : Po T.tb X L μ σ H Q W (C.call C.base f ([] ++ C.dfl f 0) S) := h
        rw [xo.hc.dfl] at h1
        exact h1
      intro pins s I
      refine wpAny_Call_Name_kw (ld_glob I g mgf ?_ n1)
      refine PySem.W.callWith_K0 I.kIn kp (run_fnSD (us := []) F xo.room hbd hds (passAt tk σ) I .nil ?_)
      refine ⟨?_, L, C.base, μ, S, dflOf T.P f 0, sr, hb, scs_ok sc, h0.toC⟩
      have ln' : 0 + (dflOf T.P f 0).length = fn.ps.length := ln
      show ([] ++ (dflOf T.P f 0).map scV).length = fn.ps.length
      rw [List.nil_append, List.length_map, ← ln', Nat.zero_add]
    | cons e es =>
      rw [List.all_cons] at c3
      obtain ⟨s1, s2⟩ := ba c3
      refine GE.of (pe_callSD F xo.room g mgf kp hbd hds (fun σ => passAt tk σ) (pa_GA (es := e :: es)) n1 (star_cons s1 _ _) (star_any s2 _ _)) ?_
      refine il X (e :: es) xo c4 L μ ρ S σ H _ W hb er sr tk (Po.bindA h fun d1 S1 v1 μ1 H1 e0 w1 e1 s1 r1 h1 => ?_)
      have hl : d1.length = (e :: es).length := evs_len as (e :: es) S S1 d1 c4 (by rw [List.all_cons]; exact c3) e0
      rw [xo.hc.dfl, hl] at h1
      refine ⟨?_, L, C.base, μ1, S1, d1 ++ dflOf T.P f (e :: es).length, s1, hb, r1.append (scs_ok sc), h1.toC⟩
      rw [List.length_append, r1.length, hl, List.length_map]
      exact ln
end
end EV
/-! EV9: new objects, targets, a list hidden from the heap, what is walked, comprehensions. -/
namespace EV
open PySem PySem.Spec PyProof.Rows L2
/-! ### a list of ours hidden -/
theorem upd_none {H : Hp} {D b : Addr} {o : HO} (h : upd H D o b = none) : b ≠ D ∧ H b = none := by
  by_cases e : b = D
  · subst e; rw [upd_same] at h; cases h
  · exact ⟨e, by rwa [upd_ne e] at h⟩
theorem hide {X : Cx} {pins : List (Addr × Obj)} {σ : L2.St} {H0 : Hp} {D : Addr} {acc : List V} {s : Shared} (I : Inv X pins σ (upd H0 D (.lst acc)) s) (n : H0 D = none) :
    ∃ o : Obj, Inv X (pins ++ [(D, o)]) σ H0 s ∧ ∀ (σ' : L2.St) (H' : Hp) (s' : Shared), Inv X (pins ++ [(D, o)]) σ' H' s' → H' D = none ∧ Inv X pins σ' (upd H' D (.lst acc)) s' := by
  obtain ⟨z, its, m, r, e⟩ := I.hok D _ upd_same
  have nt : ∀ b xs, upd H0 D (.lst acc) b = some (.tup xs) → H0 b = some (.tup xs) := fun b xs q => by
    by_cases hb : b = D
    · subst hb; rw [upd_same] at q; cases q
    · rwa [upd_ne hb] at q
  have no : ∀ b y, upd H0 D (.lst acc) b = some (.own y) → H0 b = some (.own y) := fun b y q => by
    by_cases hb : b = D
    · subst hb; rw [upd_same] at q; cases q
    · rwa [upd_ne hb] at q
  have nfr : ∀ b o u, upd H0 D (.lst acc) b = some (.frz o u) → H0 b = some (.frz o u) := fun b o u q => by
    by_cases hb : b = D
    · subst hb; rw [upd_same] at q; cases q
    · rwa [upd_ne hb] at q
  have ntb : ∀ b u, upd H0 D (.lst acc) b = some (.tbl u) → H0 b = some (.tbl u) := fun b u q => by
    by_cases hb : b = D
    · subst hb; rw [upd_same] at q; cases q
    · rwa [upd_ne hb] at q
  have old : ∀ o, X.s_0.heap.get? D = some o → X.H_0 D = none → D ∈ X.ex := fun o h1 h2 => Classical.byContradiction fun h3 => by
    have q := I.base.free D o h1 h2 h3
    rw [upd_same] at q; cases q
  refine ⟨{ cls := .type "list", data := .seq its.toArray m }, ⟨I.ok, I.os, I.bare, ⟨I.base.keep, I.base.slot, fun b o q nn hx => (upd_none (I.base.free b o q nn hx)).2, I.base.there, fun b xs q => nt b xs (I.base.tups b xs q),
    fun b o u q => nfr b o u (I.base.frzs b o u q), fun b ps q => let ⟨mo, h⟩ := I.base.tbls b ps q; ⟨mo, ntb b _ h⟩⟩, I.loc, I.cell, (upd_none I.free).2, fun x c q => (upd_none (I.freeC x c q)).2, fun p hp => ?_, fun a u q => ?_, I.len⟩, fun σ' H' s' I' => ?_⟩
  · rw [← List.append_assoc] at hp
    rcases List.mem_append.mp hp with hp | hp
    · obtain ⟨p1, p2, p3, p4, p5⟩ := I.pin p hp
      exact ⟨p1, (upd_none p2).2, p3, p4, p5⟩
    · rw [List.mem_singleton] at hp
      subst hp
      refine ⟨e, n, Ne.symm (upd_none I.free).1, fun hb => ?_, fun v q => nomatch q⟩
      obtain ⟨_, o', ho, _⟩ := I.ok.funs.mem hb
      have q := I.base.free D o' ho (I.ok.frf D hb) fun w => I.ok.exfs D w hb
      rw [upd_same] at q; cases q
  · have hne : a ≠ D := ne_of_none q n
    exact (I.hok a u (by rw [upd_ne hne]; exact q)).stay (fun b v _ w => w) (fun b w => no b _ w) fun b xs w => nt b xs w
  · obtain ⟨g1, g2, g3, g4, g5⟩ := I'.pin (D, _) (by rw [← List.append_assoc]; exact List.mem_append_right _ (List.mem_singleton.mpr rfl))
    refine ⟨g2, I'.ok, I'.os, I'.bare, ⟨I'.base.keep, I'.base.slot, fun b o q nn hx => ?_, I'.base.there, fun b xs q => ?_, fun b o u q => ?_, fun b ps q => ?_⟩, I'.loc, I'.cell, ?_, fun x c q => ?_, fun p hp => ?_, fun a u q => ?_, I'.len⟩
    · rw [upd_ne fun w => ?_]
      · exact I'.base.free b o q nn hx
      · subst w; exact hx (old o q nn)
    · have w := I'.base.tups b xs q
      rw [upd_ne (ne_of_none w g2)]; exact w
    · have w := I'.base.frzs b o u q
      rw [upd_ne (ne_of_none w g2)]; exact w
    · obtain ⟨mo, w⟩ := I'.base.tbls b ps q
      exact ⟨mo, by rw [upd_ne (ne_of_none w g2)]; exact w⟩
    · rw [upd_ne (Ne.symm g3)]; exact I'.free
    · rw [upd_ne fun w => ?_]
      · exact I'.freeC x c q
      · subst w
        obtain ⟨v, o2, h2, h3⟩ := I'.cell x _ q
        rw [g1] at h2
        cases h2
        exact g5 _ h3
    · obtain ⟨p1, p2, p3, p4, p5⟩ := I'.pin p (by rw [← List.append_assoc]; exact List.mem_append_left _ hp)
      refine ⟨p1, ?_, p3, p4, p5⟩
      rw [upd_ne (upd_none (I.pin p hp).2.1).1]; exact p2
    · by_cases ha : a = D
      · subst ha
        rw [upd_same] at q
        cases q
        exact ⟨z, its, m, r, g1⟩
      · rw [upd_ne ha] at q
        exact (I'.hok a u q).stay (fun b v _ w => w) (fun b w => by rw [upd_ne (ne_of_none w g2)]; exact w) fun b xs w => by rw [upd_ne (ne_of_none w g2)]; exact w
def tHid (X : Cx) (e : Expr) : TE := fun σ H Q => ∃ D acc H0, H = upd H0 D (.lst acc) ∧ H0 D = none ∧ GE X e σ H0 fun y H4 => H4 D = none → Q y (upd H4 D (.lst acc))
theorem pe_hid {X : Cx} {e : Expr} : PE X e (tHid X e) := ⟨fun pins s σ H Q I ⟨D, acc, H0, eq, n, h⟩ => by
  subst eq
  obtain ⟨o, I0, back⟩ := hide I n
  refine thn (h _ s I0) fun u s' ⟨v, H', J, r, q⟩ => ?_
  obtain ⟨n', J'⟩ := back _ _ _ J
  exact ⟨v, _, J', r, q n'⟩⟩
def tHidT (X : Cx) (e : Expr) : TT := fun σ H Q => ∃ D acc H0, H = upd H0 D (.lst acc) ∧ H0 D = none ∧ GT X e σ H0 fun y H4 => H4 D = none → Q y (upd H4 D (.lst acc))
theorem pt_hid {X : Cx} {e : Expr} : PT X e (tHidT X e) := ⟨fun pins s σ H Q I ⟨D, acc, H0, eq, n, h⟩ => by
  subst eq
  obtain ⟨o, I0, back⟩ := hide I n
  refine thn (h _ _ s rfl I0) fun u s' ⟨H', J, q⟩ => ?_
  obtain ⟨n', J'⟩ := back _ _ _ J
  exact ⟨_, J', q n'⟩⟩
/-! ### targets -/
def GG (X : Cx) (e : Expr) (v : V) (σ : L2.St) (H : Hp) (Q : L2.St → Hp → Prop) : Prop := ∀ (pins : List (Addr × Obj)) (s : Shared) (u : Value), Inv X pins σ H s → RelV v u →
  wpAny (model X.prog X.w) X.A (assign e X.env u) (fun _ s' => ∃ σ' H', Inv X pins σ' H' s' ∧ Q σ' H') X.xe s
theorem pg_GG {X : Cx} {e : Expr} : PG X e (GG X e) := ⟨fun pins s σ H v u Q I r h => h pins s u I r⟩
theorem GG.of {X : Cx} {e : Expr} {t : TG} {v : V} {σ : L2.St} {H : Hp} {Q : L2.St → Hp → Prop} (h : PG X e t) (q : t v σ H Q) : GG X e v σ H Q := fun pins s u I r => h.run pins s σ H v u Q I r q
def GGs (X : Cx) (es : List Expr) (vs : List V) (σ : L2.St) (H : Hp) (Q : L2.St → Hp → Prop) : Prop := ∀ (pins : List (Addr × Obj)) (s : Shared) (us : List Value), Inv X pins σ H s → Vals vs us →
  wpAny (model X.prog X.w) X.A (assignInOrder ((assignEach es X.env).map (·.2)) us) (fun _ s' => ∃ σ' H', Inv X pins σ' H' s' ∧ Q σ' H') X.xe s
theorem pgs_GGs {X : Cx} {es : List Expr} : PGs X es (GGs X es) := ⟨fun pins s σ H vs us Q I r h => h pins s us I r⟩
theorem GGs.of {X : Cx} {es : List Expr} {t : TGs} {vs : List V} {σ : L2.St} {H : Hp} {Q : L2.St → Hp → Prop} (h : PGs X es t) (q : t vs σ H Q) : GGs X es vs σ H Q := fun pins s us I r => h.run pins s σ H vs us Q I r q
theorem each_cons {e : Expr} (h : noStar e = true) (es : List Expr) (env : PySem.Env) : assignEach (e :: es) env = (false, assign e env) :: assignEach es env := by
  cases e <;> first | rfl | cases h
/-- only the slots at l change -/
def OnlyAt (l : List Nat) (σ σ' : L2.St) : Prop := σ'.length = σ.length ∧ ∀ i, i ∉ l → σ'[i]? = σ[i]?
theorem OnlyAt.refl {l : List Nat} {σ : L2.St} : OnlyAt l σ σ := ⟨rfl, fun _ _ => rfl⟩
section
variable {X : Cx} {sc : Scope} (nd : X.N.Nodup) (calm : X.calm = true) (hl : ∀ x, locB sc x = true → L2.Loc X.env.scope x ∧ (X.fn x = true ∨ X.env.scope.names.lookup x = some .local))
variable {H : Hp} (Hr : Hp) (up : ∀ a xs, Hr a = some (.tup xs) → H a = some (.tup xs))
include nd calm hl up
mutual
theorem snd_tg : ∀ (t : Tg) (e : Expr), ckT X.N sc t e = true → ∀ (d : D) (ρ ρ1 : Env) (v : V) (σ : L2.St) (μ : List Addr) (Q : L2.St → Hp → Prop), bindT t d ρ = some ρ1 → ER X.K μ Hr ρ σ → RD X.K μ μ Hr d v →
    (∀ σ1, ER X.K μ Hr ρ1 σ1 → OnlyAt (tgSlots t) σ σ1 → Q σ1 H) → GG X e v σ H Q
  | .v i, e, ck => by
    intro d ρ ρ1 v σ μ Q b er r k
    cases e <;> simp only [ckT, Bool.false_eq_true] at ck
    rename_i x pos
    obtain ⟨c1, c2⟩ := ba ck
    simp only [bindT, Option.some.injEq] at b
    subst b
    obtain ⟨l1, l2⟩ := hl x c2
    refine GG.of (pg_name (i := i) nd (of_decide_eq_true c1) l1 l2) (k _ (er.set r) ⟨by simp, fun j hj => ?_⟩)
    simp only [tgSlots, List.mem_singleton] at hj
    exact List.getElem?_set_ne (Ne.symm hj)
  | .t as, e, ck => by
    intro d ρ ρ1 v σ μ Q b er r k
    cases e <;> simp only [ckT, Bool.false_eq_true] at ck
    rename_i es kk pos
    cases d <;> simp only [bindT, reduceCtorEq] at b
    rename_i ds
    simp only [RD] at r
    obtain ⟨a, xs, e1, ta, rs⟩ := r
    obtain ⟨hn, hf, g⟩ := snd_tgs as es ck ds ρ ρ1 xs σ μ Q b er rs k
    exact GG.of (pg_tup (n := es.length) calm pgs_GGs (hn _) (hf _)) ⟨a, xs, e1, .of (up _ _ ta.1), g.1, g.2⟩
  | .nil, e, ck => by simp only [ckT, Bool.false_eq_true] at ck
  | .cons _ _, e, ck => by simp only [ckT, Bool.false_eq_true] at ck
theorem snd_tgs : ∀ (t : Tg) (es : List Expr), ckT.ckTs X.N sc t es = true → ∀ (ds : List D) (ρ ρ1 : Env) (vs : List V) (σ : L2.St) (μ : List Addr) (Q : L2.St → Hp → Prop), bindT t (.tup ds) ρ = some ρ1 → ER X.K μ Hr ρ σ → RDs X.K μ μ Hr ds vs →
    (∀ σ1, ER X.K μ Hr ρ1 σ1 → OnlyAt (tgSlots t) σ σ1 → Q σ1 H) → (∀ env, (assignEach es env).length = es.length) ∧ (∀ env, (assignEach es env).findIdx? (·.1) = none) ∧ vs.length = es.length ∧ GGs X es vs σ H Q
  | .nil, es, ck => by
    intro ds ρ ρ1 vs σ μ Q b er r k
    cases es <;> simp only [ckT.ckTs, Bool.false_eq_true] at ck
    cases ds <;> simp only [bindT, reduceCtorEq, Option.some.injEq] at b
    subst b
    simp only [RDs] at r
    subst r
    exact ⟨fun _ => rfl, fun _ => rfl, rfl, GGs.of pgs_nil ⟨rfl, k σ er .refl⟩⟩
  | .cons a as, es, ck => by
    intro ds ρ ρ1 vs σ μ Q b er r k
    cases es <;> simp only [ckT.ckTs, Bool.false_eq_true] at ck
    rename_i e es
    obtain ⟨c1, ck⟩ := ba ck
    obtain ⟨c2, c3⟩ := ba ck
    cases ds <;> simp only [bindT, reduceCtorEq] at b
    rename_i d ds
    simp only [RDs] at r
    obtain ⟨x, xs, e1, r1, r2⟩ := r
    subst e1
    rw [Option.bind_eq_some_iff] at b
    obtain ⟨ρ2, b1, b2⟩ := b
    have rest : ∀ (σ1 : L2.St) (Q' : L2.St → Hp → Prop), ER X.K μ Hr ρ2 σ1 → (∀ σ2, ER X.K μ Hr ρ1 σ2 → OnlyAt (tgSlots as) σ1 σ2 → Q' σ2 H) → _ := fun σ1 Q' er1 k1 => snd_tgs as es c3 ds ρ2 ρ1 xs σ1 μ Q' b2 er1 r2 k1
    have g : GG X e x σ H fun σ1 H1 => GGs X es xs σ1 H1 Q := snd_tg a e c1 d ρ ρ2 x σ μ _ b1 er r1 fun σ1 er1 o1 => (rest σ1 Q er1 fun σ2 er2 o2 => k σ2 er2 ⟨o2.1.trans o1.1, fun i hi => by
      simp only [tgSlots, List.mem_append, not_or] at hi
      rw [o2.2 i hi.2, o1.2 i hi.1]⟩).2.2.2
    have e1 : ∀ env, assignEach (e :: es) env = (false, assign e env) :: assignEach es env := each_cons c2 es
    -- the lengths need no state
    have shape : ∀ (as : Tg) (es : List Expr), ckT.ckTs X.N sc as es = true → (∀ env, (assignEach es env).length = es.length) ∧ (∀ env, (assignEach es env).findIdx? (·.1) = none) := by
      intro as es
      induction es generalizing as with
      | nil => exact fun _ => ⟨fun _ => rfl, fun _ => rfl⟩
      | cons e es ih =>
        intro h
        cases as <;> simp only [ckT.ckTs, Bool.false_eq_true] at h
        obtain ⟨h1, h⟩ := ba h
        obtain ⟨h2, h3⟩ := ba h
        obtain ⟨i1, i2⟩ := ih _ h3
        refine ⟨fun env => by rw [each_cons h2]; simp [i1 env], fun env => by rw [each_cons h2, List.findIdx?_cons]; simp [i2 env]⟩
    obtain ⟨s1, s2⟩ := shape (.cons a as) (e :: es) (by simp only [ckT.ckTs, c1, c2, c3, Bool.and_self])
    refine ⟨s1, s2, ?_, GGs.of (pgs_cons (pg_GG (e := e)) (pgs_GGs (es := es)) (by rw [e1]; rfl)) ⟨x, xs, rfl, g⟩⟩
    have lens : ∀ (as : Tg) (es : List Expr) (ds : List D) (ρ ρ1 : Env), ckT.ckTs X.N sc as es = true → bindT as (.tup ds) ρ = some ρ1 → ds.length = es.length := by
      intro as es
      induction es generalizing as with
      | nil =>
        intro ds ρ ρ1 h b
        cases as <;> simp only [ckT.ckTs, Bool.false_eq_true] at h
        cases ds <;> simp only [bindT, reduceCtorEq] at b
        rfl
      | cons e es ih =>
        intro ds ρ ρ1 h b
        cases as <;> simp only [ckT.ckTs, Bool.false_eq_true] at h
        cases ds <;> simp only [bindT, reduceCtorEq] at b
        rw [Option.bind_eq_some_iff] at b
        obtain ⟨ρ2, b1, b2⟩ := b
        rw [List.length_cons, List.length_cons, ih _ _ _ _ (ba (ba h).2).2 b2]
    rw [List.length_cons, List.length_cons, r2.length, lens as es ds ρ2 ρ1 c3 b2]
  | .v _, es, ck => by cases es <;> simp only [ckT.ckTs, Bool.false_eq_true] at ck
  | .t _, es, ck => by cases es <;> simp only [ckT.ckTs, Bool.false_eq_true] at ck
end
end
theorem wipe_get {σ : L2.St} : ∀ {vs : List Nat} {i : Nat}, (L2.wipe σ vs)[i]? = if i ∈ vs ∧ i < σ.length then some none else σ[i]?
  | [], i => by simp [L2.wipe]
  | v :: vs, i => by
    unfold L2.wipe
    by_cases h : v = i
    · subst h
      by_cases hv : v < (L2.wipe σ vs).length
      · rw [List.getElem?_set_self hv, if_pos ⟨List.mem_cons_self, by rwa [wipe_length] at hv⟩]
      · rw [List.getElem?_eq_none (by simpa using hv)]
        rw [wipe_length] at hv
        rw [if_neg fun q => hv q.2, List.getElem?_eq_none (by omega)]
    · rw [List.getElem?_set_ne h, wipe_get (vs := vs)]
      simp [Ne.symm h]
theorem OnlyAt.wipe {l vs : List Nat} {σ σ1 : L2.St} (o : OnlyAt l (L2.wipe σ vs) σ1) (h : ∀ i ∈ l, i ∈ vs) : L2.wipe σ1 vs = L2.wipe σ vs := by
  have hl : σ1.length = σ.length := by rw [o.1, wipe_length]
  refine List.ext_getElem? fun i => ?_
  rw [wipe_get, wipe_get, hl]
  split
  · rfl
  · rename_i hn
    by_cases hi : i ∈ vs
    · have hge : σ.length ≤ i := Nat.le_of_not_lt fun q => hn ⟨hi, q⟩
      rw [List.getElem?_eq_none (show σ1.length ≤ i by rw [hl]; exact hge), List.getElem?_eq_none hge]
    · rw [o.2 i fun q => hi (h i q), wipe_get, if_neg fun q => hi q.1]
end EV
/-! EV10: enumerate of a tuple; what is walked. -/
namespace EV
open PySem PySem.Spec PyProof.Rows L2
open Sem (wp)
theorem meets_en1 {v : Value} {o : Obj} {H : Heap → Prop} (B : Begins v o H) :
    Meets (Builtin.«enumerate.__new__» ⟨[.type "enumerate", v], []⟩) (fun _ R s => H s.heap ∧
      R (.ok (.ret (.ref (s.heap.push o).objs.size))) { s with heap := (s.heap.push o).push { cls := .type "enumerate", data := .fields #[.none, .bool false, .ref s.heap.objs.size, rawInt 0, .none, .none] } }) :=
  .of_wp fun prog w A R s hyp => by
    obtain ⟨hp, g, d, tk, os⟩ := s; obtain ⟨st, h⟩ := hyp
    have hsub := sub_enumerate
    have it1 : ∀ {A' : Around} {E : Value → Shared → Prop} {Q : Value → Shared → Prop}, Q (.ref hp.objs.size) ⟨hp.push o, g, d, tk, os⟩ → wpAny (model prog w) A' (pyIter v) Q E ⟨hp, g, d, tk, os⟩ :=
      fun q => B.iter prog w _ _ ⟨hp, g, d, tk, os⟩ _ st q
    wp_walk using it1
    refine wpAny_stack_any fun stk => wpAny_pure ?_
    split
    · rename_i c _ _ _ _ _
      cases (c == Value.type "enumerate") <;> (wp_walk using it1; exact ⟨_, rfl, h⟩)
    · wp_walk using it1
      exact ⟨_, rfl, h⟩
section
variable {prog : Program} {w : World} {A : Around} {E : Value → Shared → Prop} {s : Shared}
theorem call_en1 {v : Value} {o : Obj} {H : Heap → Prop} {Q : Value → Shared → Prop} (B : Begins v o H) (st : H s.heap)
    (h : ∀ h', IsEnum h' (s.heap.objs.size + 1) s.heap.objs.size 0 .none → h'.get? s.heap.objs.size = some o → (∀ b o, s.heap.get? b = some o → h'.get? b = some o) → Q (.ref (s.heap.objs.size + 1)) { s with heap := h' }) :
    wpAny (model prog w) A (call (.type "enumerate") [v]) Q E s := by
  refine callType_new F.called_enumerate (by decide) (F.typeCall_enumerate_1 _) (F.newCall_enumerate_1 _) (fun obj => F.args_object_init_2 obj _) F.entry_enumerate_new (meets_en1 B) ⟨st, ?_⟩
  have hz : (s.heap.push o).objs.size = s.heap.objs.size + 1 := Heap.size_push ..
  show _ ∧ _
  rw [hz]
  have last := Heap.get?_push_size (s.heap.push o) (o := { cls := .type "enumerate", data := .fields #[.none, .bool false, .ref s.heap.objs.size, rawInt 0, .none, .none] }) rfl
  rw [hz] at last
  exact ⟨⟨_, last, rfl⟩, h _ last (Heap.get?_push_of_some _ (Heap.get?_push_size _ B.free)) fun b u x => Heap.get?_push_of_some _ (Heap.get?_push_of_some _ x)⟩
end
/-- the tuple at a, each item in a new pair with its place -/
def IteT (K : Fg) (a : Addr) : It :=
  ⟨fun i H => ∃ (xs : List V) (x : V), SqT K H a xs ∧ xs[i]? = some x, fun i H v H' => ∃ T x, v = .ref T ∧ H T = none ∧ H' = upd H T (.tup [.int (i : Nat), x]) ∧ ∀ xs, SqT K H a xs → xs[i]? = some x,
    fun i H => ∃ xs : List V, SqT K H a xs ∧ xs.length ≤ i⟩
theorem turn_enT {P : Program} {w : World} {K : Fg} {elts : List Expr} {kk : Nat} {tpos : Pos} (a e it : Addr) :
    Turn P w K (.Tuple elts kk tpos) (IteT K a) [e, it] e (fun i h => (∃ old, IsEnum h e it ((i : Nat) : Int) old) ∧ h.IsTupleIter it a i ∧ e ≠ it) where
  mem := by simp
  obj := fun i h st b hb => by
    obtain ⟨⟨old, he⟩, ⟨o, ho, hc, hd⟩, _⟩ := st
    rcases (show b = e ∨ b = it by simpa using hb) with z | z
    · rw [z]; exact ⟨_, he, fun v q => nomatch q⟩
    · rw [z]; exact ⟨o, ho, fun v q => by rw [hd] at q; cases q⟩
  keep := fun i h h' st k => let ⟨⟨old, he⟩, hi, hne⟩ := st; ⟨⟨old, k e (by simp) _ he⟩, hi.at fun o q => k it (by simp) o q, hne⟩
  item := by
    intro X hP hw hK hc i pins s σ H E I fpo st hg
    subst hP hw hK
    obtain ⟨⟨old, he⟩, hit, hne⟩ := st
    obtain ⟨xs, x, hq, hx⟩ := hg
    obtain ⟨its, rv, p, hz⟩ := I.tuple hq
    obtain ⟨u, hu, ru⟩ := rv.get hx
    have pt : s.heap.IsTuple a its.toArray := p
    have nai : a ≠ it := fun z => by
      subst z
      obtain ⟨o1, h1, c1, _⟩ := hit
      obtain ⟨o2, h2, c2, _⟩ := pt
      rw [h1] at h2
      cases h2
      rw [c1] at c2
      exact absurd c2 (by decide)
    have nea : e ≠ a := fun z => by
      subst z
      obtain ⟨o2, h2, c2, _⟩ := pt
      rw [show s.heap.get? e = _ from he] at h2
      cases h2
      exact absurd (show (Value.type "enumerate" : Value) = .type "tuple" from c2) (by decide)
    have hel : e < s.heap.objs.size := Heap.lt_size he
    have hil : it < s.heap.objs.size := by obtain ⟨_, q, _⟩ := id hit; exact Heap.lt_size q
    have lt : i < its.toArray.size := by
      have := (List.getElem?_eq_some_iff.mp hu).1
      simpa using this
    refine wpAny_pyNext_enum_itemC (i := i) (c := (i : Int)) (Draws.tuple (prog := X.prog) (w := X.w) (A := X.A.in1) (show X.A.in1.handled = none from I.ok.hd hc) it a nai its.toArray) he ⟨hit, pt⟩ lt hne (by simp [hne, nea]) fun y h' tk hP ho st' hT hsz hk => ?_
    have ey : y = u := by
      have h1 : its.toArray[i]? = some u := by simpa using hu
      rw [h1] at hP
      exact (Option.some.inj hP).symm
    subst ey
    obtain ⟨hit', _⟩ := st'
    refine ⟨_, rfl, wpAny_letOwnedTupleGo_enum (s := { s with heap := h', toks := tk + 1 }) ho fun h'' he' sb => ?_⟩
    have hT2 : h''.get? s.heap.objs.size = some { cls := .type "tuple", data := .seq #[.int i tk, y] } := (sb.2 _ (Nat.ne_of_gt hel)).trans hT
    have new : ObjOk X.prog X.w (upd H s.heap.objs.size (.tup [.int (i : Nat), x])) h'' s.heap.objs.size (.tup [.int (i : Nat), x]) :=
      ⟨by show 2 ≤ sizeLine; decide, [.int i tk, y], .cons ⟨_, rfl⟩ (.cons ru .nil), ⟨_, hT2, rfl, _, rfl⟩⟩
    have I1 : Inv X pins σ (upd H s.heap.objs.size (.tup [.int (i : Nat), x])) { s with heap := h'', toks := tk + 1 } :=
      I.turnedNew (ch := [e, it]) (fun b ob hb q => (sb.2 b (fun z => hb (by simp [z]))).trans (hk b ob (fun z => hb (by simp [z])) (fun z => hb (by simp [z])) q)) fpo (Nat.le_refl _) new
    refine ⟨.ref s.heap.objs.size, _, I1, rfl, ⟨_, x, rfl, I.hok.fresh (Nat.le_refl _), rfl, fun ys hy => by rw [I.tuple_inj hy hq]; exact hx⟩, ⟨⟨y, ?_⟩, hit'.at fun o q => (sb.2 it (Ne.symm hne)).trans q, hne⟩, fun b hb => ?_⟩
    · rw [show ((i + 1 : Nat) : Int) = (i : Int) + 1 by omega]
      exact he'
    · have hb' : b < s.heap.objs.size := by
        rcases (show b = e ∨ b = it by simpa using hb) with z | z
        · rw [z]; exact hel
        · rw [z]; exact hil
      rw [upd_ne (Nat.ne_of_lt hb')]
      exact (fpo b hb).1
  done := by
    intro X hP hw hK hc i pins s σ H E I fpo st hg
    subst hP hw hK
    obtain ⟨⟨old, he⟩, hit, hne⟩ := st
    obtain ⟨xs, hq, hx⟩ := hg
    obtain ⟨its, rv, p, hz⟩ := I.tuple hq
    have pt : s.heap.IsTuple a its.toArray := p
    obtain ⟨f0, f1, f2, f3, f4, f5⟩ := fpo it (by simp)
    have hl := rv.length
    have hT : s.TypeIs (.ref e) "enumerate" := ⟨_, he, rfl⟩
    unfold pyNext
    refine wpAny_bind (wpAny_attempt (wpAny_callSpecial?_slot (name := Str.ofString "__next__") hT F.slot_enumerate_next
      (wpAny_call_entry F.slot_enumerate_next hT F.entry_enumerate_next ?_ (F.args_enumerate_next_1 _))))
    show wpAny _ _ (field (.ref e) 2 >>= _) _ _ _
    refine wpAny_bind (wpAny_field he rfl (x := .ref it) rfl ?_)
    refine wpAny_bind (wpAny_nextOf_tuple_end (show X.A.in1.handled = none from I.ok.hd hc) hit pt (by simp; omega) fun h' x he' hx' => ?_)
    obtain ⟨o, ho, hc'⟩ := hx'
    refine wpAny_bind (wpAny_isInstance (T := "StopIteration") (b := true) ⟨o, ho, hc'⟩ isSubtype_stop ?_)
    exact wpAny_pure ⟨rfl, I.turned (t' := s.toks) (fun b o hb q => he' b o hb q) f0 f1 f3 f4 f5⟩
  self := fun A i s Q E st h => let ⟨⟨_, he⟩, _⟩ := st; wpAny_pyIter_enum he h
/-! ### what is walked -/
def GI (X : Cx) (tg iter : Expr) (σ : L2.St) (H : Hp) (R : It → Hp → Prop) : Prop := ∀ (pins : List (Addr × Obj)) (s : Shared), Inv X pins σ H s →
  wpAny (model X.prog X.w) X.A (eval iter X.env) (fun v s1 => wpAny (model X.prog X.w) X.A (pyIter v) (PIE X pins σ tg R) X.xe s1) X.xe s
theorem pi_GI {X : Cx} {tg iter : Expr} : PI X tg iter (GI X tg iter) := ⟨fun pins s σ H R I h => h pins s I⟩
theorem GI.of {X : Cx} {tg iter : Expr} {t : TI} {σ : L2.St} {H : Hp} {R : It → Hp → Prop} (h : PI X tg iter t) (q : t σ H R) : GI X tg iter σ H R := fun pins s I => h.run pins s σ H R I q
/-- a list or a tuple -/
def iSeq (K : Fg) (tl : TE) : TI := fun σ H R => tl σ H fun x H1 => ∃ a, x = .ref a ∧ (((∃ xs, SqL K H1 a xs) ∧ R (Itl K a) H1) ∨ ((∃ xs, SqT K H1 a xs) ∧ R (Itt K a) H1))
theorem pi_seq {X : Cx} {tg l : Expr} {tl : TE} (hl : PE X l tl) : PI X tg l (iSeq X.K tl) := by
  refine ⟨fun pins s σ H R I h => ?_⟩
  refine thn (hl.run pins s σ H _ I h) fun v s1 ⟨x, H1, I1, r1, q1⟩ => ?_
  obtain ⟨a, e, q⟩ := q1
  subst e
  cases r1
  have fresh : ∀ b ∈ [s1.heap.objs.size], FpOk X pins H1 b := fun b hb => by
    rw [List.mem_singleton] at hb
    subst hb
    exact I1.fpOk (Nat.le_refl _) (I1.hok.fresh (Nat.le_refl _))
  rcases q with ⟨⟨xs, hq⟩, q⟩ | ⟨⟨xs, hq⟩, q⟩
  · obtain ⟨its, rv, p, hz⟩ := I1.list hq
    exact wpAny_pyIter_list p.isList ⟨_, _, _, _, H1, rfl, I1.kept (t' := s1.toks) fun b o e => Heap.get?_push_of_some _ e, turn_list a _, ⟨_, Heap.get?_push_size _ rfl, rfl, rfl⟩, fresh, q⟩
  · obtain ⟨its, rv, p, hz⟩ := I1.tuple hq
    exact wpAny_pyIter_tuple (show s1.heap.IsTuple a its.toArray from p) ⟨_, _, _, _, H1, rfl, I1.kept (t' := s1.toks) fun b o e => Heap.get?_push_of_some _ e, turn_tuple a _, ⟨_, Heap.get?_push_size _ rfl, rfl, rfl⟩, fresh, q⟩
def iEnA (K : Fg) (ta : TA) : TI := fun σ H R => ta σ H fun vs H1 => ∃ a, vs = [.ref a] ∧ (((∃ xs, SqL K H1 a xs) ∧ R (Ite K a) H1) ∨ ((∃ xs, SqT K H1 a xs) ∧ R (IteT K a) H1))
theorem pi_enA {X : Cx} {e : Expr} {ta : TA} {p pos tpos : Pos} {elts : List Expr} {kk : Nat} (hg : Gl X "enumerate") (hm : X.mg "enumerate" = none) (ha : PA X [e] ta) (hs : starEach [e] X.env = [(false, eval e X.env)]) :
    PI X (.Tuple elts kk tpos) (.Call (.Name "enumerate" p) [e] [] pos) (iEnA X.K ta) := by
  refine ⟨fun pins s σ H R I h => ?_⟩
  refine Call_ (ld_blt I hg hm boot_enumerate (PyProof.Rows.callWith_type1 (thn (ha.run pos pins s σ H _ I h) fun us s1 ⟨vs, H1, I1, r1, q1⟩ => ?_) hs rfl))
  obtain ⟨a, ex, q⟩ := q1
  subst ex
  cases r1 with
  | cons r rr =>
    cases rr
    cases r
    have fresh : ∀ b ∈ [s1.heap.objs.size + 1, s1.heap.objs.size], FpOk X pins H1 b := fun b hb => by
      have hle : s1.heap.objs.size ≤ b := by
        rcases (show b = s1.heap.objs.size + 1 ∨ b = s1.heap.objs.size by simpa using hb) with z | z
        · rw [z]; exact Nat.le_add_right _ _
        · rw [z]; exact Nat.le_refl _
      exact I1.fpOk hle (I1.hok.fresh hle)
    rcases q with ⟨⟨xs, hq⟩, q⟩ | ⟨⟨xs, hq⟩, q⟩
    · obtain ⟨its, rv, p', hz⟩ := I1.list hq
      refine call_en1 (begins_list a its.toArray) p'.isList fun h' he hit hk => wpAny_pyIter_enum he ?_
      exact ⟨_, _, _, _, H1, rfl, I1.kept (t' := s1.toks) hk, turn_enum a (s1.heap.objs.size + 1) s1.heap.objs.size, ⟨⟨.none, he⟩, ⟨_, hit, rfl, rfl⟩, Nat.succ_ne_self _⟩, fresh, q⟩
    · obtain ⟨its, rv, p', hz⟩ := I1.tuple hq
      refine call_en1 (begins_tuple a its.toArray) p' fun h' he hit hk => wpAny_pyIter_enum he ?_
      exact ⟨_, _, _, _, H1, rfl, I1.kept (t' := s1.toks) hk, turn_enT a (s1.heap.objs.size + 1) s1.heap.objs.size, ⟨⟨.none, he⟩, ⟨_, hit, rfl, rfl⟩, Nat.succ_ne_self _⟩, fresh, q⟩
end EV
/-! EV11: what is walked bears data; new objects. -/
namespace EV
open PySem PySem.Spec PyProof.Rows L2
/-- what a turn yields -/
def ItY (K : Fg) (μ : List Addr) (H H1 : Hp) (d : D) (x : V) (H2 : Hp) : Prop :=
  (H2 = H1 ∧ ∀ μ3 H3, Ext μ H μ3 H3 → RD K μ3 μ3 H3 d x) ∨
  ∃ T y1 y2 d1 d2, H1 T = none ∧ H2 = upd H1 T (.tup [y1, y2]) ∧ x = .ref T ∧ d = .tup [d1, d2] ∧ ∀ μ3 H3, Ext μ H μ3 H3 → RD K μ3 μ3 H3 d1 y1 ∧ RD K μ3 μ3 H3 d2 y2
def ItD (K : Fg) (J : It) (ds : List D) (μ : List Addr) (H : Hp) : Prop := ∀ μ1 H1, Ext μ H μ1 H1 → ∀ i : Nat, (i < ds.length → J.go i H1) ∧ (ds.length ≤ i → J.stop i H1) ∧
  ∀ d x H2, ds[i]? = some d → J.yld i H1 x H2 → ItY K μ H H1 d x H2
def PoI (tb : Tab) (X : Cx) (L : Nat → Option Nat) (μ : List Addr) (σ : L2.St) (H : Hp) (Q : It → Hp → Prop) (W : WX) : R (List D) → Prop
  | .ok ds S' => ∀ J μ' H', Wf H' → Ext μ H μ' H' → SR X.K L μ' S' H' → ItD X.K J ds μ' H' → ds.length ≤ lim → Q J H'
  | .er e S' => ∀ c dd μ' H', Ext μ H μ' H' → SR X.K L μ' S' H' → ErR tb X.mg X.K e c dd H' → W c dd σ H'
  | .fl => False
/-- a new object's content -/
def NewO (K : Fg) (μ : List Addr) (H : Hp) : D → HO → Prop
  | .lst ds, o => ∃ vs, o = .lst vs ∧ RDs K μ μ H ds vs
  | .dK ds, o => ∃ vs, o = .dK vs ∧ RDK K μ μ H ds vs
  | .dT ds, o => ∃ vs, o = .dT vs ∧ RDT K μ μ H ds vs
  | _, _ => False
def PoN (tb : Tab) (X : Cx) (L : Nat → Option Nat) (μ : List Addr) (σ : L2.St) (H : Hp) (Q : VK) (W : WX) : R D → Prop
  | .ok d S' => ∀ o p μ' H', Wf (upd H' p o) → Ext μ H μ' H' → SR X.K L μ' S' H' → H' p = none → NewO X.K μ' H' d o → Q (.ref p) (upd H' p o)
  | .er e S' => ∀ c dd μ' H', Ext μ H μ' H' → SR X.K L μ' S' H' → ErR tb X.mg X.K e c dd H' → W c dd σ H'
  | .fl => False
section
variable (T : Sta) (C : Cl) (k : Nat)
def SndI (x : Ex) : Prop := ∀ (X : Cx) (tg iter : Expr), XOk T C k X → ckI T X.N x X.env.scope iter = true → ckTT x tg = true → ∀ (L : Nat → Option Nat) (μ : List Addr) (ρ : Env) (S : Store) (σ : L2.St) (H : Hp) (Q : It → Hp → Prop) (W : WX),
  (∀ n, C.base ≤ n → L n = none) → ER X.K μ H ρ σ → SR X.K L μ S H → Takes X W → PoI T.tb X L μ σ H Q W (evi C x ρ S) → GI X tg iter σ H Q
def SndN (x : Ex) : Prop := ∀ (X : Cx) (e : Expr), XOk T C k X → ckE T X.N x X.env.scope e = true → ∀ (L : Nat → Option Nat) (μ : List Addr) (ρ : Env) (S : Store) (σ : L2.St) (H : Hp) (Q : VK) (W : WX),
  (∀ n, C.base ≤ n → L n = none) → ER X.K μ H ρ σ → SR X.K L μ S H → Takes X W → PoN T.tb X L μ σ H Q W (ev C x ρ S) → GE X e σ H Q
end
section
variable {tb : Tab} {X : Cx} {L : Nat → Option Nat} {μ : List Addr} {σ : L2.St} {H : Hp} {W : WX}
theorem PoI.bind {Q : It → Hp → Prop} {Q1 : VK} {r : R D} {f : D → Store → R (List D)} (h : PoI tb X L μ σ H Q W (r.bind f))
    (k : ∀ d S1 v μ1 H1, r = .ok d S1 → Wf H1 → Ext μ H μ1 H1 → SR X.K L μ1 S1 H1 → RD X.K μ1 μ1 H1 d v → PoI tb X L μ1 σ H1 Q W (f d S1) → Q1 v H1) : Po tb X L μ σ H Q1 W r := by
  cases r with
  | fl => exact h
  | er e S => exact h
  | ok d S =>
    intro v μ1 H1 w e s r
    refine k d S v μ1 H1 rfl w e s r ?_
    have h' : PoI tb X L μ σ H Q W (f d S) := h
    generalize f d S = r2 at h'
    cases r2 with
    | fl => exact h'
    | er x S2 => exact fun c dd μ2 H2 e2 => h' c dd μ2 H2 (e.trans e2)
    | ok d2 S2 => exact fun v2 μ2 H2 w2 e2 => h' v2 μ2 H2 w2 (e.trans e2)
theorem PoI.here {Q : It → Hp → Prop} {ds : List D} {S : Store} {J : It} (h : PoI tb X L μ σ H Q W (.ok ds S)) (s : SR X.K L μ S H) (w : Wf H) (i : ItD X.K J ds μ H) (hl : ds.length ≤ lim) : Q J H := h J μ H w .refl s i hl
theorem PoN.bindA {Q : VK} {Q1 : List V → Hp → Prop} {r : R (List D)} {f : List D → Store → R D} (h : PoN tb X L μ σ H Q W (r.bind f))
    (k : ∀ d S1 v μ1 H1, r = .ok d S1 → Wf H1 → Ext μ H μ1 H1 → SR X.K L μ1 S1 H1 → RDs X.K μ1 μ1 H1 d v → PoN tb X L μ1 σ H1 Q W (f d S1) → Q1 v H1) : PoA tb X L μ σ H Q1 W r := by
  cases r with
  | fl => exact h
  | er e S => exact h
  | ok d S =>
    intro v μ1 H1 w e s r
    refine k d S v μ1 H1 rfl w e s r ?_
    have h' : PoN tb X L μ σ H Q W (f d S) := h
    generalize f d S = r2 at h'
    cases r2 with
    | fl => exact h'
    | er x S2 => exact fun c dd μ2 H2 e2 => h' c dd μ2 H2 (e.trans e2)
    | ok d2 S2 => exact fun o p μ2 H2 w2 e2 => h' o p μ2 H2 w2 (e.trans e2)
theorem PoN.bind {Q Q1 : VK} {r : R D} {f : D → Store → R D} (h : PoN tb X L μ σ H Q W (r.bind f))
    (k : ∀ d S1 o p μ1 H1, r = .ok d S1 → Wf (upd H1 p o) → Ext μ H μ1 H1 → SR X.K L μ1 S1 H1 → H1 p = none → NewO X.K μ1 H1 d o → PoN tb X L μ1 σ H1 Q W (f d S1) → Q1 (.ref p) (upd H1 p o)) : PoN tb X L μ σ H Q1 W r := by
  cases r with
  | fl => exact h
  | er e S => exact h
  | ok d S =>
    intro o p μ1 H1 w e s n r
    refine k d S o p μ1 H1 rfl w e s n r ?_
    have h' : PoN tb X L μ σ H Q W (f d S) := h
    generalize f d S = r2 at h'
    cases r2 with
    | fl => exact h'
    | er x S2 => exact fun c dd μ2 H2 e2 => h' c dd μ2 H2 (e.trans e2)
    | ok d2 S2 => exact fun o p μ2 H2 w2 e2 => h' o p μ2 H2 w2 (e.trans e2)
theorem PoN.bindI {Q : VK} {Q1 : It → Hp → Prop} {r : R (List D)} {f : List D → Store → R D} (h : PoN tb X L μ σ H Q W (r.bind f))
    (k : ∀ d S1 J μ1 H1, r = .ok d S1 → Wf H1 → Ext μ H μ1 H1 → SR X.K L μ1 S1 H1 → ItD X.K J d μ1 H1 → d.length ≤ lim → PoN tb X L μ1 σ H1 Q W (f d S1) → Q1 J H1) : PoI tb X L μ σ H Q1 W r := by
  cases r with
  | fl => exact h
  | er e S => exact h
  | ok d S =>
    intro v μ1 H1 w e s r hl
    refine k d S v μ1 H1 rfl w e s r hl ?_
    have h' : PoN tb X L μ σ H Q W (f d S) := h
    generalize f d S = r2 at h'
    cases r2 with
    | fl => exact h'
    | er x S2 => exact fun c dd μ2 H2 e2 => h' c dd μ2 H2 (e.trans e2)
    | ok d2 S2 => exact fun o p μ2 H2 w2 e2 => h' o p μ2 H2 w2 (e.trans e2)
theorem PoN.opt {Q : VK} {o : Option D} {S : Store} (h : PoN tb X L μ σ H Q W (R.of o S)) : ∃ d, o = some d ∧ PoN tb X L μ σ H Q W (.ok d S) := by
  cases o with
  | none => exact False.elim h
  | some d => exact ⟨d, rfl, h⟩
theorem PoN.here {Q : VK} {d : D} {S : Store} {o : HO} (h : PoN tb X L μ σ H Q W (.ok d S)) (s : SR X.K L μ S H) {p : Addr} (n : H p = none) (r : NewO X.K μ H d o) : Wf (upd H p o) → Q (.ref p) (upd H p o) :=
  fun w => h o p μ H w .refl s n r
theorem PoN.wq {Q : VK} {r : R D} (h : PoN tb X L μ σ H Q W r) : PoN tb X L μ σ H (fun v H' => Wf H' → Q v H') W r := by
  cases r with
  | fl => exact h
  | er e S => exact h
  | ok d S => exact fun o p μ' H' w e s n r _ => h o p μ' H' w e s n r
theorem NewO.rd (s : SR X.K L μ S H) {d : D} {o : HO} {p : Addr} (n : H p = none) (r : NewO X.K μ H d o) : RD X.K μ μ (upd H p o) d (.ref p) := by
  cases d <;> simp only [NewO] at r <;> first | exact False.elim r | skip
  · obtain ⟨vs, rfl, r⟩ := r
    exact .newL s n r
  · obtain ⟨vs, rfl, r⟩ := r
    simp only [RD]
    exact ⟨p, vs, rfl, ⟨upd_same, s.new n⟩, RDK.mono (.laid n) (fun _ _ h => h) _ _ r⟩
  · obtain ⟨vs, rfl, r⟩ := r
    simp only [RD]
    exact ⟨p, vs, rfl, ⟨upd_same, s.new n⟩, RDT.mono (.laid n) (fun _ _ h => h) _ _ r⟩
theorem NewO.cr (s : SR X.K L μ S H) {d : D} {o : HO} {p : Addr} (n : H p = none) (r : NewO X.K μ H d o) : SR X.K L (μ ++ [p]) (S ++ [d]) (upd H p o) ∧ Ext μ H (μ ++ [p]) (upd H p o) := by
  have ex : Ext μ H (μ ++ [p]) (upd H p o) := ⟨fun n a q => by rw [List.getElem?_append_left (List.getElem?_eq_some_iff.mp q).1]; exact q, fun a u q m => by
    have ne : a ≠ p := ne_of_none q n
    exact ⟨by rw [upd_ne ne]; exact q, by simp [m, ne]⟩⟩
  refine s.cell_new n ?_
  cases d <;> simp only [NewO] at r <;> first | exact False.elim r | skip
  · obtain ⟨vs, rfl, r⟩ := r
    exact ⟨vs, upd_same, RDs.mono ex ex.pre _ _ r⟩
  · obtain ⟨vs, rfl, r⟩ := r
    exact ⟨vs, upd_same, RDK.mono ex ex.pre _ _ r⟩
  · obtain ⟨vs, rfl, r⟩ := r
    exact ⟨vs, upd_same, RDT.mono ex ex.pre _ _ r⟩
/-- a plain wish serves a new object -/
theorem Po.toN {Q : VK} {r : R D} (h : Po tb X L μ σ H Q W r) : PoN tb X L μ σ H Q W r := by
  cases r with
  | fl => exact h
  | er e S => exact h
  | ok d S => exact fun o p μ' H' w e s n r => h _ μ' _ w (e.trans (.laid n)) (s.laid n) (r.rd s n)
theorem ItY.use {K : Fg} {μ0 μ1 : List Addr} {H0 H1 H2 : Hp} {d : D} {x : V} {S : Store} (y : ItY K μ0 H0 H1 d x H2) (e : Ext μ0 H0 μ1 H1) (s : SR K L μ1 S H1) : Ext μ1 H1 μ1 H2 ∧ SR K L μ1 S H2 ∧ RD K μ1 μ1 H2 d x := by
  rcases y with ⟨rfl, r⟩ | ⟨T, y1, y2, d1, d2, n, rfl, rfl, rfl, r⟩
  · exact ⟨.refl, s, r _ _ e⟩
  · obtain ⟨r1, r2⟩ := r _ _ e
    exact ⟨.laid n, s.laid n, .newT s n (.cons r1 (.cons r2 .nil))⟩
/-- the same beside a hidden list -/
theorem ItY.use1 {K : Fg} {μ0 μ1 : List Addr} {H0 H1 H2 : Hp} {D0 : Addr} {acc : List V} {d : D} {x : V} {S : Store} (y : ItY K μ0 H0 (upd H1 D0 (.lst acc)) d x H2) (e : Ext μ0 H0 μ1 H1) (n0 : H1 D0 = none) (s : SR K L μ1 S H1) :
    ∃ H3, H2 = upd H3 D0 (.lst acc) ∧ H3 D0 = none ∧ Ext μ1 H1 μ1 H3 ∧ SR K L μ1 S H3 ∧ RD K μ1 μ1 H3 d x := by
  rcases y with ⟨rfl, r⟩ | ⟨T, y1, y2, d1, d2, n, rfl, rfl, rfl, r⟩
  · exact ⟨H1, rfl, n0, .refl, s, r _ _ e⟩
  · obtain ⟨r1, r2⟩ := r _ _ e
    obtain ⟨ne, n⟩ := upd_none n
    refine ⟨upd H1 T (.tup [y1, y2]), ?_, by rw [upd_ne (Ne.symm ne)]; exact n0, .laid n, s.laid n, .newT s n (.cons r1 (.cons r2 .nil))⟩
    funext b
    unfold upd
    by_cases hb : b = T
    · rw [if_pos hb, if_neg (by rw [hb]; exact ne), if_pos hb]
    · rw [if_neg hb, if_neg hb]
end
theorem TAt.len {K : Fg} {μ : List Addr} {H : Hp} {a : Addr} {xs : List V} {ds : List D} (w : Wf H) (t : TAt K μ H a xs) (r : RDs K μ μ H ds xs) : ds.length ≤ lim := by
  obtain ⟨P, w, hp, ok⟩ := w
  rw [← r.length, lim_eq]
  exact (show ObjOk P w H hp a (.tup xs) from ok a _ t.1).1
theorem LAt.len {K : Fg} {μ : List Addr} {H : Hp} {a : Addr} {xs : List V} {ds : List D} (w : Wf H) (t : LAt K μ H a xs) (r : RDs K μ μ H ds xs) : ds.length ≤ lim := by
  obtain ⟨P, w, hp, ok⟩ := w
  rw [← r.length, lim_eq]
  rcases t with ⟨t, _⟩ | ⟨o, its, n, _, _, _, _, hz, hv⟩
  · exact (show ObjOk P w H hp a (.lst xs) from t.ok ok).1
  · rw [hv.length]
    exact hz
theorem lt_min {a b c : Nat} (h : a ≤ c) : min a b ≤ c := Nat.le_trans (Nat.min_le_left _ _) h
/-! ### the walks -/
theorem itD_list {K : Fg} {μ : List Addr} {H : Hp} {a : Addr} {xs : List V} {ds : List D} (l : LAt K μ H a xs) (r : RDs K μ μ H ds xs) : ItD K (Itl K a) ds μ H := fun μ1 H1 e i => by
  have q := (l.mono e).sq
  refine ⟨fun hi => ?_, fun hi => ⟨xs, q, by rw [r.length]; exact hi⟩, fun d x H2 hd y => ?_⟩
  · obtain ⟨v, hv, _⟩ := r.at_ (List.getElem?_eq_getElem hi)
    exact ⟨xs, v, q, hv⟩
  · obtain ⟨rfl, hx⟩ := y
    obtain ⟨v, hv, rv⟩ := r.at_ hd
    rw [hx xs q] at hv
    cases hv
    exact .inl ⟨rfl, fun μ3 H3 e3 => RD.mono e3 e3.pre _ _ rv⟩
theorem itD_tup {K : Fg} {μ : List Addr} {H : Hp} {a : Addr} {xs : List V} {ds : List D} (l : TAt K μ H a xs) (r : RDs K μ μ H ds xs) : ItD K (Itt K a) ds μ H := fun μ1 H1 e i => by
  have q := (l.mono e).sq
  refine ⟨fun hi => ?_, fun hi => ⟨xs, q, by rw [r.length]; exact hi⟩, fun d x H2 hd y => ?_⟩
  · obtain ⟨v, hv, _⟩ := r.at_ (List.getElem?_eq_getElem hi)
    exact ⟨xs, v, q, hv⟩
  · obtain ⟨rfl, hx⟩ := y
    obtain ⟨v, hv, rv⟩ := r.at_ hd
    rw [hx xs q] at hv
    cases hv
    exact .inl ⟨rfl, fun μ3 H3 e3 => RD.mono e3 e3.pre _ _ rv⟩
theorem enD_get : ∀ (ds : List D) (n : Int) (i : Nat) (d : D), (enD n ds)[i]? = some d → ∃ x, ds[i]? = some x ∧ d = .tup [.int (n + i), x]
  | [], n, i, d, h => by simp [enD] at h
  | x :: xs, n, 0, d, h => by
    simp only [enD, List.getElem?_cons_zero, Option.some.injEq] at h
    exact ⟨x, rfl, by rw [← h]; simp⟩
  | x :: xs, n, i + 1, d, h => by
    simp only [enD, List.getElem?_cons_succ] at h
    obtain ⟨y, h1, h2⟩ := enD_get xs (n + 1) i d h
    refine ⟨y, by simpa using h1, ?_⟩
    rw [h2]
    have : n + 1 + (i : Int) = n + ((i + 1 : Nat) : Int) := by omega
    rw [this]
theorem enD_len : ∀ (ds : List D) (n : Int), (enD n ds).length = ds.length
  | [], _ => rfl
  | x :: xs, n => by simp only [enD, List.length_cons, enD_len xs]
theorem itD_enL {K : Fg} {μ : List Addr} {H : Hp} {a : Addr} {xs : List V} {ds : List D} (l : LAt K μ H a xs) (r : RDs K μ μ H ds xs) : ItD K (Ite K a) (enD 0 ds) μ H := fun μ1 H1 e i => by
  have q := (l.mono e).sq
  rw [enD_len]
  refine ⟨fun hi => ?_, fun hi => ⟨xs, q, by rw [r.length]; exact hi⟩, fun d x H2 hd y => ?_⟩
  · obtain ⟨v, hv, _⟩ := r.at_ (List.getElem?_eq_getElem hi)
    exact ⟨xs, v, q, hv⟩
  · obtain ⟨T, x', rfl, n, rfl, hx⟩ := y
    obtain ⟨d1, h1, rfl⟩ := enD_get ds 0 i d hd
    obtain ⟨v, hv, rv⟩ := r.at_ h1
    rw [hx xs q] at hv
    cases hv
    exact .inr ⟨T, _, _, _, _, n, rfl, rfl, rfl, fun μ3 H3 e3 => ⟨by simp only [RD, Int.zero_add], RD.mono e3 e3.pre _ _ rv⟩⟩
theorem itD_enT {K : Fg} {μ : List Addr} {H : Hp} {a : Addr} {xs : List V} {ds : List D} (l : TAt K μ H a xs) (r : RDs K μ μ H ds xs) : ItD K (IteT K a) (enD 0 ds) μ H := fun μ1 H1 e i => by
  have q := (l.mono e).sq
  rw [enD_len]
  refine ⟨fun hi => ?_, fun hi => ⟨xs, q, by rw [r.length]; exact hi⟩, fun d x H2 hd y => ?_⟩
  · obtain ⟨v, hv, _⟩ := r.at_ (List.getElem?_eq_getElem hi)
    exact ⟨xs, v, q, hv⟩
  · obtain ⟨T, x', rfl, n, rfl, hx⟩ := y
    obtain ⟨d1, h1, rfl⟩ := enD_get ds 0 i d hd
    obtain ⟨v, hv, rv⟩ := r.at_ h1
    rw [hx xs q] at hv
    cases hv
    exact .inr ⟨T, _, _, _, _, n, rfl, rfl, rfl, fun μ3 H3 e3 => ⟨by simp only [RD, Int.zero_add], RD.mono e3 e3.pre _ _ rv⟩⟩
theorem zpD_get : ∀ (ds es : List D) (i : Nat) (d : D), (zpD ds es)[i]? = some d → ∃ x y, ds[i]? = some x ∧ es[i]? = some y ∧ d = .tup [x, y]
  | [], _, i, d, h => by simp [zpD] at h
  | _ :: _, [], i, d, h => by simp [zpD] at h
  | x :: xs, y :: ys, 0, d, h => by
    simp only [zpD, List.getElem?_cons_zero, Option.some.injEq] at h
    exact ⟨x, y, rfl, rfl, h.symm⟩
  | x :: xs, y :: ys, i + 1, d, h => by
    simp only [zpD, List.getElem?_cons_succ] at h
    obtain ⟨a, b, h1, h2, h3⟩ := zpD_get xs ys i d h
    exact ⟨a, b, by simpa using h1, by simpa using h2, h3⟩
theorem zpD_len : ∀ (ds es : List D), (zpD ds es).length = min ds.length es.length
  | [], es => by simp [zpD]
  | _ :: _, [] => by simp [zpD]
  | x :: xs, y :: ys => by simp only [zpD, List.length_cons, zpD_len xs ys]; omega
theorem itD_zpL {K : Fg} {μ : List Addr} {H : Hp} {a b : Addr} {xs ys : List V} {ds es : List D} (l : LAt K μ H a xs) (r : RDs K μ μ H ds xs) (l2 : LAt K μ H b ys) (r2 : RDs K μ μ H es ys) : ItD K (Itz K a b) (zpD ds es) μ H := fun μ1 H1 e i => by
  have q := (l.mono e).sq
  have q2 := (l2.mono e).sq
  rw [zpD_len]
  refine ⟨fun hi => ?_, fun hi => ⟨xs, ys, q, q2, by rw [r.length, r2.length]; omega⟩, fun d x H2 hd y => ?_⟩
  · obtain ⟨v, hv, _⟩ := r.at_ (List.getElem?_eq_getElem (show i < ds.length by omega))
    obtain ⟨v2, hv2, _⟩ := r2.at_ (List.getElem?_eq_getElem (show i < es.length by omega))
    exact ⟨xs, ys, v, v2, q, q2, hv, hv2⟩
  · obtain ⟨T, x', y', rfl, n, rfl, hx, hy⟩ := y
    obtain ⟨d1, d2, h1, h2, rfl⟩ := zpD_get ds es i d hd
    obtain ⟨v, hv, rv⟩ := r.at_ h1
    obtain ⟨v2, hv2, rv2⟩ := r2.at_ h2
    rw [hx xs q] at hv
    rw [hy ys q2] at hv2
    cases hv
    cases hv2
    exact .inr ⟨T, _, _, _, _, n, rfl, rfl, rfl, fun μ3 H3 e3 => ⟨RD.mono e3 e3.pre _ _ rv, RD.mono e3 e3.pre _ _ rv2⟩⟩
theorem itD_zpT {K : Fg} {μ : List Addr} {H : Hp} {a b : Addr} {xs ys : List V} {ds es : List D} (l : TAt K μ H a xs) (r : RDs K μ μ H ds xs) (l2 : TAt K μ H b ys) (r2 : RDs K μ μ H es ys) : ItD K (RZ.ItzT K a b) (zpD ds es) μ H := fun μ1 H1 e i => by
  have q := (l.mono e).sq
  have q2 := (l2.mono e).sq
  rw [zpD_len]
  refine ⟨fun hi => ?_, fun hi => ⟨xs, ys, q, q2, by rw [r.length, r2.length]; omega⟩, fun d x H2 hd y => ?_⟩
  · obtain ⟨v, hv, _⟩ := r.at_ (List.getElem?_eq_getElem (show i < ds.length by omega))
    obtain ⟨v2, hv2, _⟩ := r2.at_ (List.getElem?_eq_getElem (show i < es.length by omega))
    exact ⟨xs, ys, v, v2, q, q2, hv, hv2⟩
  · obtain ⟨T, x', y', rfl, n, rfl, hx, hy⟩ := y
    obtain ⟨d1, d2, h1, h2, rfl⟩ := zpD_get ds es i d hd
    obtain ⟨v, hv, rv⟩ := r.at_ h1
    obtain ⟨v2, hv2, rv2⟩ := r2.at_ h2
    rw [hx xs q] at hv
    rw [hy ys q2] at hv2
    cases hv
    cases hv2
    exact .inr ⟨T, _, _, _, _, n, rfl, rfl, rfl, fun μ3 H3 e3 => ⟨RD.mono e3 e3.pre _ _ rv, RD.mono e3 e3.pre _ _ rv2⟩⟩
theorem itD_rg {K : Fg} {μ : List Addr} {H : Hp} (lo hi : Int) : ItD K (Itr lo (hi - lo).toNat) (rgD lo hi) μ H := fun μ1 H1 e i => by
  have hl : (rgD lo hi).length = (hi - lo).toNat := by simp [rgD]
  rw [hl]
  refine ⟨fun h => h, fun h => h, fun d x H2 hd y => ?_⟩
  obtain ⟨rfl, rfl⟩ := y
  unfold rgD at hd
  simp only [List.getElem?_map, Option.map_eq_some_iff] at hd
  obtain ⟨j, h1, rfl⟩ := hd
  rw [List.getElem?_range] at h1
  · cases h1
    exact .inl ⟨rfl, fun μ3 H3 e3 => by simp only [RD]⟩
  · have := (List.getElem?_eq_some_iff.mp h1).1
    simpa using this
section
variable {T : Sta} {C : Cl} {k : Nat}
theorem ga_one {X : Cx} {e : Expr} {σ : L2.St} {H : Hp} {Q : List V → Hp → Prop} (s : noStar e = true) (h : GE X e σ H fun v H1 => Q [v] H1) : GA X [e] σ H Q :=
  GA.of (pa_cons (pe_GE (e := e)) pa_nil (star_cons s _ _)) h
theorem ga_two {X : Cx} {e f : Expr} {σ : L2.St} {H : Hp} {Q : List V → Hp → Prop} (s : noStar e = true) (s2 : noStar f = true) (h : GE X e σ H fun v H1 => GE X f σ H1 fun w H2 => Q [v, w] H2) : GA X [e, f] σ H Q :=
  GA.of (pa_cons (pe_GE (e := e)) (pa_cons (pe_GE (e := f)) pa_nil (star_cons s2 _ _)) (star_cons s _ _)) h
theorem bS {x y : Bool} {a : Prop} (h : x = true → a) (q : x && y = true) : a := h (ba q).1
theorem small62_ok {i : Int} (h : small62 i = true) : -(2 ^ 62) ≤ i ∧ i < 2 ^ 62 := by
  unfold small62 at h
  obtain ⟨h1, h2⟩ := ba h
  exact ⟨of_decide_eq_true h1, of_decide_eq_true h2⟩
theorem GE.wfI {X : Cx} {tg iter : Expr} {σ : L2.St} {H : Hp} {Q : It → Hp → Prop} (h : GI X tg iter σ H fun v H' => Wf H' → Q v H') : GI X tg iter σ H Q := fun pins s I =>
  thn (h pins s I) fun u s' q => thn q fun v s2 ⟨a, b, c, d, e, f, J, g, i, j, q⟩ => ⟨a, b, c, d, e, f, J, g, i, j, q ⟨_, _, _, J.hok⟩⟩
section
variable {N : List Str} {sc : Scope} {iter : Expr} {a b : Ex}
theorem ckI_rg1 (h : ckI T N (.rg1 a) sc iter = true) : ∃ x p e pos, iter = .Call (.Name x p) [e] [] pos ∧ (ckB T sc x "range" && (noStar e && ckE T N a sc e)) = true := by
  unfold ckI at h
  split at h <;> first | (cases h; done) | skip
  all_goals (rename_i heq; cases heq <;> exact ⟨_, _, _, _, rfl, h⟩)
theorem ckI_en (h : ckI T N (.en a) sc iter = true) : ∃ x p e pos, iter = .Call (.Name x p) [e] [] pos ∧ (ckB T sc x "enumerate" && (noStar e && ckE T N a sc e)) = true := by
  unfold ckI at h
  split at h <;> first | (cases h; done) | skip
  all_goals (rename_i heq; cases heq <;> exact ⟨_, _, _, _, rfl, h⟩)
theorem ckI_rg2 (h : ckI T N (.rg2 a b) sc iter = true) : ∃ x p e f pos, iter = .Call (.Name x p) [e, f] [] pos ∧ (ckB T sc x "range" && (noStar e && (noStar f && (ckE T N a sc e && ckE T N b sc f)))) = true := by
  unfold ckI at h
  split at h <;> first | (cases h; done) | skip
  all_goals (rename_i heq; cases heq <;> exact ⟨_, _, _, _, _, rfl, h⟩)
theorem ckI_zp (h : ckI T N (.zp a b) sc iter = true) : ∃ x p e f pos, iter = .Call (.Name x p) [e, f] [] pos ∧ (ckB T sc x "zip" && (noStar e && (noStar f && (ckE T N a sc e && ckE T N b sc f)))) = true := by
  unfold ckI at h
  split at h <;> first | (cases h; done) | skip
  all_goals (rename_i heq; cases heq <;> exact ⟨_, _, _, _, _, rfl, h⟩)
end
theorem sndI_it (a : Ex) (ia : SndE T C k a) : SndI T C k (.it a) := by
  intro X tg iter xo ck _ L μ ρ S σ H Q W hb er sr tk h
  simp only [ckI] at ck
  refine GI.of (pi_seq (pe_GE (e := iter))) ?_
  refine ia X iter xo ck L μ ρ S σ H _ W hb er sr tk (PoI.bind h fun d1 S1 v1 μ1 H1 _ w1 e1 s1 r1 h1 => ?_)
  cases d1 <;> (try exact False.elim h1) <;> simp only [RD] at r1
  · obtain ⟨p, xs, rfl, t, r⟩ := r1
    exact ⟨p, rfl, .inr ⟨⟨xs, t.sq⟩, PoI.here h1 s1 w1 (itD_tup t r) (t.len w1 r)⟩⟩
  · obtain ⟨p, xs, rfl, t, r⟩ := r1
    exact ⟨p, rfl, .inl ⟨⟨xs, .of t.1⟩, PoI.here h1 s1 w1 (itD_list (.inl ⟨.of t.1, t.2⟩) r) (LAt.len (K := X.K) w1 (.inl ⟨.of t.1, t.2⟩) r)⟩⟩
  · obtain ⟨p, xs, rfl, t, r⟩ := r1
    exact ⟨p, rfl, .inl ⟨⟨xs, t.sq⟩, PoI.here h1 s1 w1 (itD_list t r) (t.len w1 r)⟩⟩
theorem sndI_rg1 (a : Ex) (ia : SndE T C k a) : SndI T C k (.rg1 a) := by
  intro X tg iter xo ck _ L μ ρ S σ H Q W hb er sr tk h
  obtain ⟨x, px, e, pos, rfl, ck⟩ := ckI_rg1 ck
  obtain ⟨c1, ck⟩ := ba ck
  obtain ⟨c2, c3⟩ := ba ck
  obtain ⟨rfl, g, n, m⟩ := ckB_ok xo c1
  refine GI.of (pi_range1 g m (pa_GA (es := [e])) (star_cons c2 _ _)) (ga_one c2 ?_)
  refine ia X e xo c3 L μ ρ S σ H _ W hb er sr tk (PoI.bind h fun d1 S1 v1 μ1 H1 _ w1 e1 s1 r1 h1 => ?_)
  cases d1 <;> (try exact False.elim h1)
  simp only [RD] at r1
  subst r1
  rename_i j _
  have h2 : PoI T.tb X L μ1 σ H1 Q W (if small62 j && decide (j ≤ lim) then .ok (rgD 0 j) S1 else .fl) := h1
  by_cases hc : (small62 j && decide (j ≤ lim)) = true
  · rw [if_pos hc] at h2
    obtain ⟨c4, c5⟩ := ba hc
    obtain ⟨b1, b2⟩ := small62_ok c4
    refine ⟨_, rfl, b1, b2, PoI.here h2 s1 w1 ?_ ?_⟩
    · have q := itD_rg (K := X.K) (μ := μ1) (H := H1) 0 j
      rwa [Int.sub_zero] at q
    · have := of_decide_eq_true c5
      simp only [rgD, List.length_map, List.length_range]
      omega
  · rw [if_neg hc] at h2
    exact False.elim h2
theorem sndI_rg2 (a b : Ex) (ia : SndE T C k a) (ib : SndE T C k b) : SndI T C k (.rg2 a b) := by
  intro X tg iter xo ck _ L μ ρ S σ H Q W hb er sr tk h
  obtain ⟨x, px, e, e2, pos, rfl, ck⟩ := ckI_rg2 ck
  obtain ⟨c1, ck⟩ := ba ck
  obtain ⟨c2, ck⟩ := ba ck
  obtain ⟨c3, ck⟩ := ba ck
  obtain ⟨c4, c5⟩ := ba ck
  obtain ⟨rfl, g, n, m⟩ := ckB_ok xo c1
  refine GI.of (pi_range2 g m (pa_GA (es := [e, e2])) (by rw [star_cons c2, star_cons c3]; rfl) (star_cons c3 _ _)) (ga_two c2 c3 ?_)
  refine ia X e xo c4 L μ ρ S σ H _ W hb er sr tk (PoI.bind h fun d1 S1 v1 μ1 H1 _ w1 e1 s1 r1 h1 => ?_)
  refine ib X e2 xo c5 L μ1 ρ S1 σ H1 _ W hb (er.mono e1) s1 tk (PoI.bind h1 fun d2 S2 v2 μ2 H2 _ w2 e2 s2 r2 h2 => ?_)
  cases d1 <;> (try exact False.elim h2)
  cases d2 <;> (try exact False.elim h2)
  simp only [RD] at r1 r2
  subst r1 r2
  rename_i i _ j _
  have h3 : PoI T.tb X L μ2 σ H2 Q W (if small62 i && small62 j && decide (j - i ≤ lim) then .ok (rgD i j) S2 else .fl) := h2
  by_cases hc : (small62 i && small62 j && decide (j - i ≤ lim)) = true
  · rw [if_pos hc] at h3
    obtain ⟨c6, c7⟩ := ba hc
    obtain ⟨c8, c9⟩ := ba c6
    obtain ⟨b1, b2⟩ := small62_ok c8
    obtain ⟨b3, b4⟩ := small62_ok c9
    exact ⟨_, _, rfl, ⟨b1, b2, b3, b4⟩, PoI.here h3 s2 w2 (itD_rg _ _) (by
      have := of_decide_eq_true c7
      simp only [rgD, List.length_map, List.length_range]
      omega)⟩
  · rw [if_neg hc] at h3
    exact False.elim h3
theorem sndI_en (a : Ex) (ia : SndE T C k a) : SndI T C k (.en a) := by
  intro X tg iter xo ck ct L μ ρ S σ H Q W hb er sr tk h
  obtain ⟨x, px, e, pos, rfl, ck⟩ := ckI_en ck
  obtain ⟨c1, ck⟩ := ba ck
  obtain ⟨c2, c3⟩ := ba ck
  obtain ⟨rfl, g, n, m⟩ := ckB_ok xo c1
  cases tg <;> simp only [ckTT, Bool.false_eq_true] at ct
  refine GI.of (pi_enA g m (pa_GA (es := [e])) (star_cons c2 _ _)) (ga_one c2 ?_)
  refine ia X e xo c3 L μ ρ S σ H _ W hb er sr tk (PoI.bind h fun d1 S1 v1 μ1 H1 _ w1 e1 s1 r1 h1 => ?_)
  cases d1 <;> (try exact False.elim h1) <;> simp only [RD] at r1
  · obtain ⟨p, xs, rfl, t, r⟩ := r1
    exact ⟨p, rfl, .inr ⟨⟨xs, t.sq⟩, PoI.here h1 s1 w1 (itD_enT t r) (by rw [enD_len]; exact t.len w1 r)⟩⟩
  · obtain ⟨p, xs, rfl, t, r⟩ := r1
    exact ⟨p, rfl, .inl ⟨⟨xs, .of t.1⟩, PoI.here h1 s1 w1 (itD_enL (.inl ⟨.of t.1, t.2⟩) r) (by rw [enD_len]; exact LAt.len (K := X.K) w1 (.inl ⟨.of t.1, t.2⟩) r)⟩⟩
  · obtain ⟨p, xs, rfl, t, r⟩ := r1
    exact ⟨p, rfl, .inl ⟨⟨xs, t.sq⟩, PoI.here h1 s1 w1 (itD_enL t r) (by rw [enD_len]; exact t.len w1 r)⟩⟩
theorem sndI_zp (a b : Ex) (ia : SndE T C k a) (ib : SndE T C k b) : SndI T C k (.zp a b) := by
  intro X tg iter xo ck ct L μ ρ S σ H Q W hb er sr tk h
  obtain ⟨x, px, e, e2, pos, rfl, ck⟩ := ckI_zp ck
  obtain ⟨c1, ck⟩ := ba ck
  obtain ⟨c2, ck⟩ := ba ck
  obtain ⟨c3, ck⟩ := ba ck
  obtain ⟨c4, c5⟩ := ba ck
  obtain ⟨rfl, g, n, m⟩ := ckB_ok xo c1
  cases tg <;> simp only [ckTT, Bool.false_eq_true] at ct
  refine GI.of (RZ.pi_zipA g m (pa_GA (es := [e, e2])) (star_cons c2 _ _) (by rw [star_cons c3]; rfl)) (ga_two c2 c3 ?_)
  refine ia X e xo c4 L μ ρ S σ H _ W hb er sr tk (PoI.bind h fun d1 S1 v1 μ1 H1 _ w1 e1 s1 r1 h1 => ?_)
  refine ib X e2 xo c5 L μ1 ρ S1 σ H1 _ W hb (er.mono e1) s1 tk (PoI.bind h1 fun d2 S2 v2 μ2 H2 _ w2 e2 s2 r2 h2 => ?_)
  have r1 := RD.mono e2 e2.pre _ _ r1
  cases d1 <;> (try exact False.elim h2) <;> cases d2 <;> (try exact False.elim h2) <;> simp only [RD] at r1 r2
  · obtain ⟨p, xs, rfl, t, r⟩ := r1
    obtain ⟨p2, xs2, rfl, t2, r2⟩ := r2
    exact ⟨p, p2, xs, xs2, rfl, .inr ⟨t.sq, t2.sq, PoI.here h2 s2 w2 (itD_zpT t r t2 r2) (by rw [zpD_len]; exact lt_min (t.len w2 r))⟩⟩
  · obtain ⟨p, xs, rfl, t, r⟩ := r1
    obtain ⟨p2, xs2, rfl, t2, r2⟩ := r2
    exact ⟨p, p2, xs, xs2, rfl, .inl ⟨.of t.1, .of t2.1, PoI.here h2 s2 w2 (itD_zpL (.inl ⟨.of t.1, t.2⟩) r (.inl ⟨.of t2.1, t2.2⟩) r2) (by rw [zpD_len]; exact lt_min (LAt.len (K := X.K) w2 (.inl ⟨.of t.1, t.2⟩) r))⟩⟩
end
end EV
/-! EV12: comprehensions, new cells. -/
namespace EV
open PySem PySem.Spec PyProof.Rows L2
theorem PoN.mono {tb : Tab} {X : Cx} {L : Nat → Option Nat} {μ μ1 : List Addr} {σ : L2.St} {H H1 : Hp} {W : WX} {Q : VK} {r : R D} (e : Ext μ H μ1 H1) (h : PoN tb X L μ σ H Q W r) : PoN tb X L μ1 σ H1 Q W r := by
  cases r with
  | fl => exact h
  | er x S => exact fun c dd μ2 H2 e2 => h c dd μ2 H2 (e.trans e2)
  | ok d S => exact fun o p μ2 H2 w e2 => h o p μ2 H2 w (e.trans e2)
section
variable {T : Sta} {C : Cl} {k : Nat}
theorem ckE_lc {N : List Str} {sc : Scope} {x : Expr} {t : Tg} {own : List Nat} {s c e : Ex} (h : ckE T N (.lc t own s c e) sc x = true) : ∃ elt tg iter ifs scope pos l, x = .ListComp elt [⟨tg, iter, ifs, 0⟩] scope pos ∧ ownOk N own = some l ∧
    blkC N sc scope l = true ∧ ckT N scope t tg = true ∧ (∀ i ∈ tgSlots t, i ∈ own) ∧ noSet iter = true ∧ ckTT s tg = true ∧ ckI T N s sc iter = true ∧ ckE T N e (relS scope sc) elt = true ∧
    ((ifs = [] ∧ c = .yes) ∨ ∃ g, ifs = [g] ∧ (c = .yes → False) ∧ ckE T N c (relS scope sc) g = true) := by
  cases x <;> (try simp only [ckE, Bool.false_eq_true] at h)
  rename_i elt gens scope pos
  rcases gens with _ | ⟨⟨tg, iter, ifs, n⟩, _ | ⟨_, _⟩⟩ <;> (try simp only [ckE, Bool.false_eq_true] at h)
  match n, h with
  | 0, h =>
    obtain ⟨h1, h⟩ := ba h
    obtain ⟨h2, h⟩ := ba h
    obtain ⟨h3, h⟩ := ba h
    obtain ⟨h4, h⟩ := ba h
    obtain ⟨h5, h6⟩ := ba h
    cases q : ownOk N own with
    | none => rw [q] at h1; cases h1
    | some l =>
      rw [q] at h1
      obtain ⟨h7, h1⟩ := ba h1
      obtain ⟨h8, h9⟩ := ba h1
      refine ⟨elt, tg, iter, ifs, scope, pos, l, rfl, rfl, h7, h8, fun i hi => by simpa using List.all_eq_true.mp h9 i hi, h2, h3, h4, h5, ?_⟩
      rcases ifs with _ | ⟨g, _ | ⟨_, _⟩⟩
      · refine .inl ⟨rfl, ?_⟩
        cases c <;> first | rfl | cases h6
      · refine .inr ⟨g, rfl, (fun q => by subst q; cases h6), ?_⟩
        cases c <;> first | exact h6 | cases h6
      · cases h6
theorem ownOk_map {N : List Str} : ∀ {own : List Nat} {l : List (Str × Nat)}, ownOk N own = some l → l.map (·.2) = own
  | [], l, h => by
    simp only [ownOk, Option.some.injEq] at h
    subst h
    rfl
  | i :: r, l, h => by
    unfold ownOk at h
    split at h
    · rename_i x l' h1 h2
      simp only [Option.some.injEq] at h
      subst h
      rw [List.map_cons, ownOk_map h2]
    · cases h
theorem yes_if {σ : L2.St} {H : Hp} {a b : Hp → Prop} (h : a H) : tYes σ H (fun t H' => if t = true then a H' else b H') := by
  show (if true = true then a H else b H)
  rw [if_pos rfl]
  exact h
theorem relS_loc {scope sc : Scope} {x : Str} (h : locB scope x = true) : (relS scope sc).names.lookup x = scope.names.lookup x := by
  unfold locB knd at h
  split at h
  · rename_i h'
    rw [h']
    exact lookup_relS_keep (by decide) h'
  · rename_i h'
    rw [h']
    exact lookup_relS_keep (by decide) h'
  · cases h
/-- a comprehension's parts, what is wanted of them -/
def LcP (X : Cx) (elt tg iter : Expr) (ifs : List Expr) (scope : Scope) (l : List (Str × Nat)) (σ : L2.St) (H : Hp) (Q : VK) : Prop := ∃ (wi : TI) (g : TG) (tt : TT) (te : TE), PI X tg iter wi ∧ BlkOk X.N X.env.scope scope l ∧
  (∀ (s : Shared) (H : Hp) (a : Addr) (cl : List (Str × Addr)) (fp : List Addr), PG (X.blk s H scope (compEnvC scope cl a X.env) fp) tg g) ∧ (∀ (s : Shared) (H : Hp) (a : Addr) (cl : List (Str × Addr)) (fp : List Addr), PTs (X.blk s H scope (compEnvC scope cl a X.env) fp) ifs tt) ∧
  (∀ (s : Shared) (H : Hp) (a : Addr) (cl : List (Str × Addr)) (fp : List Addr), PE (X.blk s H scope (compEnvC scope cl a X.env) fp) elt te) ∧ (∀ x, foldedSetIterable iter X.env x = pure x) ∧ tLc wi g tt te (l.map (·.2)) σ H Q
theorem lc_p (t : Tg) (own : List Nat) (s c e : Ex) (is : SndI T C k s) (tc : SndT T C k c) (ie : SndE T C k e) (X : Cx) (x : Expr) (xo : XOk T C k X) (ck : ckE T X.N (.lc t own s c e) X.env.scope x = true) (L : Nat → Option Nat) (μ : List Addr) (ρ : Env) (S : Store) (σ : L2.St) (H : Hp) (Q : VK) (W : WX)
    (hb : ∀ n, C.base ≤ n → L n = none) (er : ER X.K μ H ρ σ) (sr : SR X.K L μ S H) (tk : Takes X W) (h : PoN T.tb X L μ σ H Q W (ev C (.lc t own s c e) ρ S)) :
    ∃ elt tg iter ifs scope pos l, x = .ListComp elt [⟨tg, iter, ifs, 0⟩] scope pos ∧ LcP X elt tg iter ifs scope l σ H fun v H' => Wf H' → Q v H' := by
  obtain ⟨elt, tg, iter, ifs, scope, pos, l, ex, c1, c2, c3, c4, c5, c6, c7, c8, c9⟩ := ckE_lc ck
  have hl := ownOk_map c1
  -- the contexts of the block
  let B : Shared × Hp × Addr × List (Str × Addr) × List Addr → Cx := fun i => X.blk i.1 i.2.1 scope (compEnvC scope i.2.2.2.1 i.2.2.1 X.env) i.2.2.2.2
  have bxo : ∀ i, XOk T C k (B i) := fun i => ⟨xo.calm, xo.nd, xo.room, xo.hc⟩
  have bsc : ∀ i, (B i).env.scope = relS scope X.env.scope := fun i => rfl
  let gA : TG := fun v σ H Q => ∀ i, GG (B i) tg v σ H Q
  let tA : TE := fun σ H Q => ∀ i, tHid (B i) elt σ H Q
  let W0 : WX := fun _ _ _ _ => False
  have btk : ∀ i, Takes (B i) W0 := fun i u s' ⟨_, _, _, _, _, _, _, _, _, _, _, _, _, _, _, _, w⟩ => False.elim w
  let tT : TT := match ifs with
    | g :: _ => fun σ H Q => ∀ i, tHidT (B i) g σ H Q
    | [] => tYes
  have pT : ∀ i, PTs (B i) ifs tT := fun i => by
    rcases c9 with ⟨e1, _⟩ | ⟨g, e1, _⟩
    · subst e1; exact pts_nil
    · subst e1; exact pts_one ⟨fun pins s σ H Q I hw => pt_hid.run pins s σ H Q I (hw i)⟩
  refine ⟨elt, tg, iter, ifs, scope, pos, l, ex, GI X tg iter, gA, tT, tA, pi_GI, blkOk_by c2, fun s1 H1 a cl fp => ⟨fun pins s σ H v u Q I r hw => hw (s1, H1, a, cl, fp) pins s u I r⟩,
    fun s1 H1 a cl fp => pT (s1, H1, a, cl, fp), fun s1 H1 a cl fp => ⟨fun pins s σ H Q I hw => pe_hid.run pins s σ H Q I (hw (s1, H1, a, cl, fp))⟩, fold_no c5 _, ?_⟩
  show GI X tg iter σ H _
  rw [hl]
  refine is X tg iter xo c7 c6 L μ ρ S σ H _ W hb er sr tk (PoN.bindI h fun ds S1 J μ1 H1 _ w1 e1 s1 j1 len h1 => ?_)
  intro p hp
  -- the invariant
  let F : List D → List D → Store → R (List D) := lcGo (ev C c) (ev C e) t own ρ
  let P : Nat → Hp → Prop := fun i HH => ∃ H0 accV accD μ2 S2, HH = upd H0 p (.lst accV) ∧ H0 p = none ∧ Ext μ1 H1 μ2 H0 ∧ SR X.K L μ2 S2 H0 ∧ RDs X.K μ2 μ2 H0 accD.reverse accV ∧ accD.length ≤ i ∧
    PoN T.tb X L μ2 σ H0 Q W ((F (ds.drop i) accD S2).bind fun ys S3 => .ok (.lst ys) S3)
  refine ⟨fun i m HH => m = ds.length - i ∧ i ≤ ds.length ∧ P i HH, ⟨ds.length, rfl, Nat.zero_le _, H1, [], [], μ1, S1, rfl, hp, .refl, s1, .nil, Nat.le_refl _, h1⟩, ?_⟩
  rintro i m HH ⟨rfl, hi, H0, accV, accD, μ2, S2, rfl, n0, e2, s2, r2, la, h2⟩
  have eD : Ext μ1 H1 μ2 (upd H0 p (.lst accV)) := e2.trans (.laid n0)
  obtain ⟨go, stop, yld⟩ := j1 μ2 _ eD i
  by_cases lt : i < ds.length
  · refine .inr ⟨go lt, P (i + 1), fun H' q => ⟨ds.length - (i + 1), by omega, rfl, lt, q⟩, fun x H' y => ?_⟩
    have hd : ds[i]? = some ds[i] := List.getElem?_eq_getElem lt
    rw [List.drop_eq_getElem_cons lt] at h2
    generalize ds[i] = d at h2 hd
    obtain ⟨H3, rfl, n3, e3, s3, r3⟩ := (yld d x H' hd y).use1 e2 n0 s2
    have h2 := PoN.mono e3 h2
    have r2 := RDs.mono e3 e3.pre _ _ r2
    -- the target
    cases qb : bindT t d (wipeD ρ own) with
    | none =>
      have h3 : PoN T.tb X L μ2 σ H3 Q W ((F (d :: ds.drop (i + 1)) accD S2).bind fun ys S3 => .ok (.lst ys) S3) := h2
      rw [show F (d :: ds.drop (i + 1)) accD S2 = .fl by show lcGo _ _ _ _ _ _ _ _ = _; unfold lcGo; rw [qb]] at h3
      exact False.elim h3
    | some ρ1 =>
      have er3 : ER X.K μ2 H3 (wipeD ρ own) (L2.wipe σ own) := (((er.mono e1).mono e2).mono e3).wipe own
      intro idx
      refine snd_tg (X := B idx) (sc := scope) xo.nd xo.calm (fun y hy => ?_) H3 (fun a xs q => by rw [upd_ne (ne_of_none q n3)]; exact q) t tg c3 d (wipeD ρ own) ρ1 x (L2.wipe σ own) μ2 _ qb er3 r3 fun σ1 er1 on => ⟨on.wipe c4, ?_⟩
      · have hk : (B idx).env.scope.names.lookup y = scope.names.lookup y := relS_loc hy
        have hk2 : locB (B idx).env.scope y = true := by
          unfold locB knd at hy ⊢
          rw [hk]
          exact hy
        refine ⟨loc_ok hk2, ?_⟩
        show (scope.names.lookup y == some NameKind.cell) = true ∨ _
        rw [hk]
        unfold locB knd at hy
        split at hy
        · rename_i q; exact .inr q
        · rename_i q; exact .inl (by rw [q]; rfl)
        · cases hy
      · -- the element
        have elem : ∀ (μ4 : List Addr) (S4 : Store) (H4 : Hp), H4 p = none → Ext μ2 H3 μ4 H4 → SR X.K L μ4 S4 H4 →
            PoN T.tb X L μ4 σ H4 Q W ((match ev C e ρ1 S4 with | .ok d1 S5 => F (ds.drop (i + 1)) (d1 :: accD) S5 | _ => .fl).bind fun ys S3 => .ok (.lst ys) S3) →
            tA σ1 (upd H4 p (.lst accV)) fun y H5 => ∃ acc, H5 p = some (.lst acc) ∧ acc.length < sizeLine ∧ P (i + 1) (upd H5 p (.lst (acc ++ [y]))) := by
          intro μ4 S4 H4 n4 e4 s4 h4 idx
          refine ⟨p, accV, H4, rfl, n4, ie (B idx) elt (bxo idx) c8 L μ4 ρ1 S4 σ1 H4 _ W0 hb (er1.mono e4) s4 (btk idx) ?_⟩
          cases qe : ev C e ρ1 S4 with
          | fl => rw [qe] at h4; exact False.elim h4
          | er x S5 => rw [qe] at h4; exact False.elim h4
          | ok d1 S5 =>
            rw [qe] at h4
            intro v μ5 H5 w5 e5 s5 r5 n5
            have lv : accV.length = accD.length := by rw [r2.length, List.length_reverse]
            refine ⟨accV, upd_same, by rw [lv, ← lim_eq]; omega, H5, accV ++ [v], d1 :: accD, μ5, S5, upd_upd, n5, ((e2.trans e3).trans e4).trans e5, s5, ?_, by simp only [List.length_cons]; omega, PoN.mono e5 h4⟩
            rw [List.reverse_cons]
            exact (RDs.mono (e4.trans e5) (e4.trans e5).pre _ _ r2).append (.cons r5 .nil)
        have h3 : PoN T.tb X L μ2 σ H3 Q W ((match ev C c ρ1 S2 with
          | .ok b S3 => (match tru S3 b with
            | some true => (match ev C e ρ1 S3 with
              | .ok d S4 => F (ds.drop (i + 1)) (d :: accD) S4
              | _ => .fl)
            | some false => F (ds.drop (i + 1)) accD S3
            | none => .fl)
          | _ => .fl).bind fun ys S3 => .ok (.lst ys) S3) := by
          have q : F (d :: ds.drop (i + 1)) accD S2 = (match ev C c ρ1 S2 with
            | .ok b S3 => (match tru S3 b with
              | some true => (match ev C e ρ1 S3 with
                | .ok d S4 => F (ds.drop (i + 1)) (d :: accD) S4
                | _ => .fl)
              | some false => F (ds.drop (i + 1)) accD S3
              | none => .fl)
            | _ => .fl) := by
            show lcGo _ _ _ _ _ _ _ _ = _
            (rw [lcGo, qb]) <;> rfl
          rw [← q]
          exact h2
        rcases c9 with ⟨e9, rfl⟩ | ⟨g, e9, _, c10⟩
        · subst e9
          exact yes_if (elem μ2 S2 H3 n3 .refl s3 h3)
        · subst e9
          show ∀ i, tHidT (B i) g _ _ _
          intro idx2
          refine ⟨p, accV, H3, rfl, n3, tc (B idx2) g (bxo idx2) c10 L μ2 ρ1 S2 σ1 H3 _ W0 hb er1 s3 (btk idx2) ?_⟩
          cases qe : ev C c ρ1 S2 with
          | fl => rw [qe] at h3; exact False.elim h3
          | er x S5 => rw [qe] at h3; exact False.elim h3
          | ok b S3 =>
            rw [qe] at h3
            have h3 : PoN T.tb X L μ2 σ H3 Q W ((match tru S3 b with
              | some true => (match ev C e ρ1 S3 with
                | .ok d S4 => F (ds.drop (i + 1)) (d :: accD) S4
                | _ => .fl)
              | some false => F (ds.drop (i + 1)) accD S3
              | none => .fl).bind fun ys S3 => .ok (.lst ys) S3) := h3
            cases qt : tru S3 b with
            | none => rw [qt] at h3; exact False.elim h3
            | some tf =>
              rw [qt] at h3
              refine ⟨tf, qt, fun v μ4 H4 w4 e4 s4 r4 n4 => ?_⟩
              cases tf with
              | true =>
                rw [if_pos rfl]
                exact elem μ4 S3 H4 n4 e4 s4 (PoN.mono e4 h3)
              | false =>
                rw [if_neg Bool.false_ne_true]
                exact ⟨H4, accV, accD, μ4, S3, rfl, n4, (e2.trans e3).trans e4, s4, RDs.mono e4 e4.pre _ _ r2, by omega, PoN.mono e4 h3⟩
  · have ie : i = ds.length := by omega
    subst ie
    refine .inl ⟨stop (Nat.le_refl _), fun w => ?_⟩
    rw [List.drop_length] at h2
    exact h2 _ p μ2 H0 w .refl s2 n0 ⟨accV, rfl, r2⟩
theorem sndN_lc (t : Tg) (own : List Nat) (s c e : Ex) (is : SndI T C k s) (tc : SndT T C k c) (ie : SndE T C k e) : SndN T C k (.lc t own s c e) := by
  intro X x xo ck L μ ρ S σ H Q W hb er sr tk h
  obtain ⟨elt, tg, iter, ifs, scope, pos, l, rfl, wi, g, tt, te, a1, a2, a3, a4, a5, a6, a7⟩ := lc_p t own s c e is tc ie X x xo ck L μ ρ S σ H Q W hb er sr tk h
  exact GE.wf (GE.of (pe_lc xo.calm xo.nd a1 a2 a3 a4 a5 a6) a7)
theorem sndN_li (as : Ex) (il : SndL T C k as) : SndN T C k (.li as) := by
  intro X e xo ck L μ ρ S σ H Q W hb er sr tk h
  cases e <;> simp only [ckE, Bool.false_eq_true] at ck
  rename_i es pos
  refine GE.wf (GE.of (pe_lst (pa_GA (es := es))) ?_)
  refine il X es xo ck L μ ρ S σ H _ W hb er sr tk (PoN.bindA h fun d1 S1 v1 μ1 H1 _ w1 e1 s1 r1 h1 => ?_)
  by_cases hl : d1.length ≤ lim
  · rw [if_pos hl] at h1
    exact ⟨by rw [r1.length, ← lim_eq]; exact hl, fun p n => h1.here s1 n ⟨_, rfl, r1⟩⟩
  · rw [if_neg hl] at h1
    exact False.elim h1
theorem sndN_list (as : Ex) (il : SndL T C k as) : SndN T C k (.pr .list as) := by
  intro X e xo ck L μ ρ S σ H Q W hb er sr tk h
  cases e <;> (try simp only [ckE, Bool.false_eq_true] at ck)
  rename_i f es kws pos
  cases f <;> (try simp only [ckE, Bool.false_eq_true] at ck)
  cases kws <;> (try simp only [ckE, Bool.false_eq_true] at ck)
  rename_i x px
  obtain ⟨c0, ck⟩ := ba ck
  obtain ⟨c1, ck⟩ := ba ck
  obtain ⟨c2, ck⟩ := ba ck
  obtain ⟨c3, c4⟩ := ba ck
  cases es with
  | nil => exact absurd rfl (of_decide_eq_true c2)
  | cons e es =>
    refine GE.wf (GE.of (prim_call xo c0 c1 c3 call_list_of (pa_GA (es := e :: es))) ?_)
    refine il X (e :: es) xo c4 L μ ρ S σ H _ W hb er sr tk (PoN.bindA h fun ds S1 vs μ1 H1 _ w1 e1 s rs h1 => ?_)
    obtain ⟨d, e, h⟩ := h1.opt
    rcases ds with _ | ⟨d0, _ | _⟩ <;> simp only [prim, reduceCtorEq] at e
    obtain ⟨v, rfl, r⟩ := rs.one
    obtain ⟨l, fz, t, _⟩ := s.look r
    generalize ed : dr S1 d0 = x at e
    cases x <;> simp only [reduceCtorEq, Option.some.injEq] at e
    · subst e
      obtain ⟨e0, a, xs, rfl, h1, h2⟩ := t _ ed
      exact ⟨a, xs, rfl, .inr h1.sq, fun p n => h.here s n ⟨_, rfl, h2⟩⟩
    · subst e
      obtain ⟨a, xs, rfl, h1, h2⟩ := l _ ed
      exact ⟨a, xs, rfl, .inl (.of h1), fun p n => h.here s n ⟨_, rfl, h2⟩⟩
    · subst e
      obtain ⟨a, xs, rfl, h1, h2⟩ := fz _ ed
      exact ⟨a, xs, rfl, .inl h1, fun p n => h.here s n ⟨_, rfl, h2⟩⟩
theorem sndN_or (a b : Ex) (ia : SndN T C k a) (ib : SndN T C k b) : SndN T C k (.orr a b) := by
  intro X e xo ck L μ ρ S σ H Q W hb er sr tk h
  cases e <;> (try simp only [ckE, Bool.false_eq_true] at ck)
  rename_i op vs pos
  cases op <;> (try simp only [ckE, Bool.false_eq_true] at ck)
  rcases vs with _ | ⟨x, _ | ⟨y, r⟩⟩ <;> (try simp only [ckE, Bool.false_eq_true] at ck)
  obtain ⟨c1, c2⟩ := ba ck
  refine GE.wf (GE.of (pe_orT (pe_GE (e := x)) (pe_GE (e := .BoolOp .Or (y :: r) pos))) ?_)
  refine ia X x xo c1 L μ ρ S σ H _ W hb er sr tk (PoN.bind h fun d1 S1 o p μ1 H1 _ w1 e1 s1 n1 r1 h1 => ?_)
  have rd := r1.rd s1 n1
  have e2 : Ext μ1 H1 μ1 (upd H1 p o) := .laid n1
  have s2 : SR X.K L μ1 S1 (upd H1 p o) := s1.laid n1
  cases q : tru S1 d1 with
  | none => rw [q] at h1; exact False.elim h1
  | some t =>
    rw [q] at h1
    refine ⟨t, tru_ok q s2 rd, ?_⟩
    cases t with
    | true =>
      rw [if_pos rfl]
      exact h1.here s1 n1 r1
    | false =>
      rw [if_neg Bool.false_ne_true]
      have h2 := PoN.mono e2 h1
      cases r with
      | nil => exact GE.of (pe_one (pe_GE (e := y))) (ib X y xo c2 L μ1 ρ S1 σ _ _ W hb ((er.mono e1).mono e2) s2 tk (by revert h2; exact PoN.wq))
      | cons z r => exact ib X _ xo c2 L μ1 ρ S1 σ _ _ W hb ((er.mono e1).mono e2) s2 tk (by revert h2; exact PoN.wq)
theorem snd_of_N {x : Ex} (h : SndN T C k x) : SndE T C k x := fun X e xo ck L μ ρ S σ H Q W hb er sr tk q => h X e xo ck L μ ρ S σ H Q W hb er sr tk q.toN
theorem Po.fr {X : Cx} {L : Nat → Option Nat} {μ : List Addr} {ρ : Env} {S : Store} {σ : L2.St} {H : Hp} {Q : VK} {W : WX} {a : Ex} (h : Po T.tb X L μ σ H Q W (ev C (.fr a) ρ S)) : PoN T.tb X L μ σ H Q W (ev C a ρ S) := by
  have h' : Po T.tb X L μ σ H Q W ((ev C a ρ S).bind fun x S1 => match x with
    | .lst xs => .ok (.loc S1.length) (S1 ++ [.lst xs])
    | .dK xs => .ok (.loc S1.length) (S1 ++ [.dK xs])
    | .dT xs => .ok (.loc S1.length) (S1 ++ [.dT xs])
    | _ => .fl) := h
  generalize ev C a ρ S = r at h'
  cases r with
  | fl => exact h'
  | er e S => exact h'
  | ok d S1 =>
    intro o p μ1 H1 w e1 s1 n1 r1
    obtain ⟨s2, e2⟩ := r1.cr s1 n1
    have rl : RD X.K (μ1 ++ [p]) (μ1 ++ [p]) (upd H1 p o) (.loc S1.length) (.ref p) := by
      simp only [RD]
      exact ⟨p, rfl, by rw [← s1.len]; simp⟩
    cases d <;> (try exact False.elim r1)
    · exact h' _ _ _ w (e1.trans e2) s2 rl
    · exact h' _ _ _ w (e1.trans e2) s2 rl
    · exact h' _ _ _ w (e1.trans e2) s2 rl
theorem snd_fr (a : Ex) (ia : isNew a = true → SndN T C k a) (ic : isCat a = true → SndE T C k (.fr a)) : SndE T C k (.fr a) := by
  intro X e xo ck L μ ρ S σ H Q W hb er sr tk h
  have ck' := ck
  simp only [ckE] at ck
  obtain ⟨c1, c2⟩ := ba ck
  rw [Bool.or_eq_true] at c1
  rcases c1 with c1 | c1
  · exact ia c1 X e xo c2 L μ ρ S σ H _ W hb er sr tk h.fr
  · exact ic c1 X e xo ck' L μ ρ S σ H _ W hb er sr tk h
/-- a list from an operator, into a new cell -/
theorem cat_new {X : Cx} {L : Nat → Option Nat} {μ : List Addr} {σ : L2.St} {H : Hp} {Q : VK} {W : WX} {S : Store} {zs : List D} {vs : List V} (s : SR X.K L μ S H) (r : RDs X.K μ μ H zs vs) (h : Po T.tb X L μ σ H Q W (.ok (.loc S.length) (S ++ [.lst zs]))) (p : Addr) (n : H p = none) : Wq Q (.ref p) (upd H p (.lst vs)) := fun w => by
  obtain ⟨s2, e2⟩ := NewO.cr (d := .lst zs) (o := .lst vs) s n ⟨vs, rfl, r⟩
  refine h _ _ _ w e2 s2 ?_
  simp only [RD]
  exact ⟨p, rfl, by rw [← s.len]; simp⟩
theorem fl_if {X : Cx} {L : Nat → Option Nat} {μ : List Addr} {σ : L2.St} {H : Hp} {Q : VK} {W : WX} {S : Store} {c : Prop} [Decidable c] {d : D} {F : D → Store → R D} (hF : F d S = .fl) (h : Po T.tb X L μ σ H Q W ((R.of (if c then some d else none) S).bind F)) : False := by
  by_cases hc : c
  · rw [if_pos hc] at h
    have h' : Po T.tb X L μ σ H Q W (F d S) := h
    rw [hF] at h'
    exact h'
  · rw [if_neg hc] at h
    exact h
theorem if_in {X : Cx} {L : Nat → Option Nat} {μ : List Addr} {σ : L2.St} {H : Hp} {Q : VK} {W : WX} {S : Store} {c : Prop} [Decidable c] {d : D} {F : D → Store → R D} (h : Po T.tb X L μ σ H Q W ((R.of (if c then some d else none) S).bind F)) : c ∧ Po T.tb X L μ σ H Q W (F d S) := by
  by_cases hc : c
  · rw [if_pos hc] at h
    exact ⟨hc, h⟩
  · rw [if_neg hc] at h
    exact False.elim h
theorem snd_frcat (o : BO) (a b : Ex) (ia : SndE T C k a) (ib : SndE T C k b) (hc : isCat (.bi o a b) = true) : SndE T C k (.fr (.bi o a b)) := by
  intro X e xo ck L μ ρ S σ H Q W hb er sr tk h
  simp only [ckE] at ck
  obtain ⟨_, ck⟩ := ba ck
  cases e <;> (try (simp only [ckE, Bool.false_eq_true] at ck; done))
  rename_i l op r pos _
  simp only [ckE] at ck
  obtain ⟨c0, ck⟩ := ba ck
  obtain ⟨c1, c2⟩ := ba ck
  have ep : opOf o = op := of_decide_eq_true c0
  subst ep
  have h' : Po T.tb X L μ σ H Q W ((ev C a ρ S).bind fun x S1 => (ev C b ρ S1).bind fun y S2 => (R.of (bop o S2 x y) S2).bind fun x S1 => match x with
    | .lst xs => .ok (.loc S1.length) (S1 ++ [.lst xs])
    | .dK xs => .ok (.loc S1.length) (S1 ++ [.dK xs])
    | .dT xs => .ok (.loc S1.length) (S1 ++ [.dT xs])
    | _ => .fl) := by
    have q : ev C (.fr (.bi o a b)) ρ S = ((ev C a ρ S).bind fun x S1 => (ev C b ρ S1).bind fun y S2 => (R.of (bop o S2 x y) S2).bind fun x S1 => match x with
      | .lst xs => .ok (.loc S1.length) (S1 ++ [.lst xs])
      | .dK xs => .ok (.loc S1.length) (S1 ++ [.dK xs])
      | .dT xs => .ok (.loc S1.length) (S1 ++ [.dT xs])
      | _ => .fl) := by
      show ((ev C a ρ S).bind fun x S1 => (ev C b ρ S1).bind fun y S2 => R.of (bop o S2 x y) S2).bind _ = _
      cases ev C a ρ S with
      | ok x S1 =>
        show ((ev C b ρ S1).bind fun y S2 => R.of (bop o S2 x y) S2).bind _ = ((ev C b ρ S1).bind _)
        cases ev C b ρ S1 <;> rfl
      | er x S1 => rfl
      | fl => rfl
    rw [← q]
    exact h
  cases o <;> (try (cases hc; done))
  · refine GE.wf (GE.of (pe_op op_cat (pe_GE (e := l)) (pe_GE (e := r))) ?_)
    refine ia X l xo c1 L μ ρ S σ H _ W hb er sr tk (Po.bind h' fun d1 S1 v1 μ1 H1 _ w1 e1 s1 r1 h1 => ?_)
    refine ib X r xo c2 L μ1 ρ S1 σ H1 _ W hb (er.mono e1) s1 tk (Po.bind h1 fun d2 S2 v2 μ2 H2 _ w2 e2 s2 r2 h2 => ?_)
    have r1 := RD.mono e2 e2.pre _ _ r1
    obtain ⟨la, _⟩ := s2.look r1
    obtain ⟨lb, _⟩ := s2.look r2
    unfold bop at h2
    generalize ea : dr S2 d1 = da at h2
    generalize eb : dr S2 d2 = db at h2
    cases da <;> cases db <;> (try exact False.elim h2) <;> (try exact (fl_if rfl h2).elim)
    · obtain ⟨hz, h3⟩ := if_in h2
      obtain ⟨a1, xs, rfl, g1, q1⟩ := la _ ea
      obtain ⟨b1, ys, rfl, g2, q2⟩ := lb _ eb
      exact ⟨a1, b1, xs, ys, rfl, rfl, g1, g2, by rw [q1.length, q2.length, ← lim_eq]; exact hz, fun p n => cat_new s2 (q1.append q2) h3 p n⟩
  · refine GE.wf (GE.of (pe_op op_rep (pe_GE (e := l)) (pe_GE (e := r))) ?_)
    refine ia X l xo c1 L μ ρ S σ H _ W hb er sr tk (Po.bind h' fun d1 S1 v1 μ1 H1 _ w1 e1 s1 r1 h1 => ?_)
    refine ib X r xo c2 L μ1 ρ S1 σ H1 _ W hb (er.mono e1) s1 tk (Po.bind h1 fun d2 S2 v2 μ2 H2 _ w2 e2 s2 r2 h2 => ?_)
    have r1 := RD.mono e2 e2.pre _ _ r1
    obtain ⟨la, _⟩ := s2.look r1
    obtain ⟨_, _, _, _, _, ib2, _⟩ := s2.look r2
    unfold bop at h2
    generalize ea : dr S2 d1 = da at h2
    generalize eb : dr S2 d2 = db at h2
    cases da <;> cases db <;> (try exact False.elim h2) <;> (try exact (fl_if rfl h2).elim)
    · obtain ⟨hz, h3⟩ := if_in h2
      obtain ⟨a1, xs, rfl, g1, q1⟩ := la _ ea
      exact ⟨a1, _, xs, rfl, ib2 _ eb, g1, by omega, by omega, by rw [q1.length, ← lim_eq]; exact hz.2.2, fun p n => cat_new s2 (q1.rep _) h3 p n⟩
end
end EV
/-! EV13: isinstance, keywords, all expressions. -/
namespace EV
open PySem PySem.Spec PyProof.Rows L2
section
variable {T : Sta} {C : Cl} {k : Nat}
/-- a datum's type -/
theorem tyX {K : Fg} {L : Nat → Option Nat} {μ : List Addr} {H : Hp} {S : Store} {mg : Str → Option Value} {tb : Tab} (s : SR K L μ S H) {d : D} {v : V} (r : RD K μ μ H d v) : ∃ t, tyD mg tb (dr S d) = some t ∧ TyX K H v t := by
  obtain ⟨l, fz, t, dk, dt, i, b, st, n⟩ := s.look r
  generalize ed : dr S d = x
  cases x with
  | non => exact ⟨_, rfl, by rw [n ed]; exact .base .non⟩
  | bl y => exact ⟨_, rfl, by rw [b _ ed]; exact .base (.bl _)⟩
  | int y => exact ⟨_, rfl, by rw [i _ ed]; exact .base (.int _)⟩
  | str y => exact ⟨_, rfl, by rw [st _ ed]; exact .base (.str _)⟩
  | tup ds =>
    obtain ⟨_, a, xs, rfl, h1, _⟩ := t _ ed
    exact ⟨_, rfl, .base (.tup h1.1)⟩
  | lst ds =>
    obtain ⟨a, xs, rfl, h1, _⟩ := l _ ed
    exact ⟨_, rfl, .base (.lst h1)⟩
  | fzn ds =>
    obtain ⟨a, xs, rfl, h1, _⟩ := fz _ ed
    rcases h1 with h1 | ⟨o, its, n, h1, h2, _⟩
    · rcases h1 with h1 | ⟨o, h1⟩
      · exact ⟨_, rfl, .base (.lst h1)⟩
      · exact ⟨_, rfl, .base (.frz h1)⟩
    · exact ⟨_, rfl, .kList h1 h2⟩
  | dK ds =>
    obtain ⟨a, xs, rfl, h1, _⟩ := dk _ ed
    exact ⟨_, rfl, .base (.dK h1)⟩
  | dT ds =>
    obtain ⟨a, xs, rfl, h1, _⟩ := dt _ ed
    exact ⟨_, rfl, .base (.dT h1)⟩
  | loc m =>
    exfalso
    cases d <;> simp only [dr, reduceCtorEq] at ed
    rename_i m'
    simp only [RD] at r
    obtain ⟨a, e1, ha⟩ := r
    have hn : m' < S.length := by rw [← s.len]; exact (List.getElem?_eq_some_iff.mp ha).1
    have hs := List.getElem?_eq_getElem hn
    have c := s.cell m' _ a hs ha
    rw [List.getD_eq_getElem?_getD, hs] at ed
    rw [show S[m'] = .loc m from ed] at c
    exact c
  | exc c vs =>
    exfalso
    cases d <;> simp only [dr, reduceCtorEq] at ed
    · rename_i m'
      simp only [RD] at r
      obtain ⟨a, e1, ha⟩ := r
      have hn : m' < S.length := by rw [← s.len]; exact (List.getElem?_eq_some_iff.mp ha).1
      have hs := List.getElem?_eq_getElem hn
      have c' := s.cell m' _ a hs ha
      rw [List.getD_eq_getElem?_getD, hs] at ed
      rw [show S[m'] = .exc c vs from ed] at c'
      exact c'
    · simp only [RD] at r
  | ins c vs =>
    exfalso
    cases d <;> simp only [dr, reduceCtorEq] at ed
    · rename_i m'
      simp only [RD] at r
      obtain ⟨a, e1, ha⟩ := r
      have hn : m' < S.length := by rw [← s.len]; exact (List.getElem?_eq_some_iff.mp ha).1
      have hs := List.getElem?_eq_getElem hn
      have c' := s.cell m' _ a hs ha
      rw [List.getD_eq_getElem?_getD, hs] at ed
      rw [show S[m'] = .ins c vs from ed] at c'
      exact c'
    · simp only [RD] at r
theorem ckK_ok {X : Cx} (xo : XOk T C k X) {c : CR} {e : Expr} (h : ckK T X.env.scope c e = true) : ∃ v u, crV X.mg T.tb c = some u ∧ ClsV v u ∧ PE X e (tC v) := by
  cases c with
  | ty n =>
    cases e <;> simp only [ckK, Bool.false_eq_true] at h
    obtain ⟨h1, h2⟩ := ba h
    obtain ⟨_, g, n1, m⟩ := ckB_ok xo h1
    exact ⟨_, _, rfl, .ty _, pe_bltn g m (bootB_ok h2) rfl (okN_ok n1).2.2 (okN_ok n1).1⟩
  | own c =>
    cases e <;> simp only [ckK, Bool.false_eq_true] at h
    obtain ⟨h1, h2⟩ := ba h
    obtain ⟨g, n1⟩ := ckG_ok h1
    cases q : T.tb c with
    | none => rw [q] at h2; cases h2
    | some p =>
      obtain ⟨y, fs⟩ := p
      rw [q] at h2
      have e := of_decide_eq_true h2
      subst e
      obtain ⟨a, m⟩ := xo.hc.cls c _ fs q
      exact ⟨_, _, by simp only [crV, q, Option.bind_some]; exact m, .own a, pe_glob g m rfl (okN_ok n1).1⟩
theorem ckKs_ok {X : Cx} (xo : XOk T C k X) : ∀ {cs : List CR} {es : List Expr}, ckKs T X.env.scope cs es = true → ∃ vs us, crVs X.mg T.tb cs = some us ∧ Paired ClsV vs us ∧ vs.length = cs.length ∧ ∀ (σ : L2.St) (H : Hp) (Q : List V → Hp → Prop), Q vs H → GA X es σ H Q
  | [], es, h => by
    cases es <;> simp only [ckKs, Bool.false_eq_true] at h
    exact ⟨[], [], rfl, .nil, rfl, fun σ H Q q => GA.of pa_nil q⟩
  | c :: cs, es, h => by
    cases es <;> simp only [ckKs, Bool.false_eq_true] at h
    obtain ⟨h1, h⟩ := ba h
    obtain ⟨h2, h3⟩ := ba h
    obtain ⟨v, u, e1, k1, p1⟩ := ckK_ok xo h1
    obtain ⟨vs, us, e2, k2, l2, p2⟩ := ckKs_ok xo h3
    exact ⟨v :: vs, u :: us, by simp only [crVs, e1, e2], .cons k1 k2, by simp [l2], fun σ H Q q => GA.of (pa_cons p1 pa_GA (star_cons h2 _ _)) (p2 σ H _ q)⟩
theorem kitOne_of {K : Fg} {t u : Value} {b : Bool} (h : PySem.W.kitAny K t [u] = some b) : PySem.W.kitOne K t u = some b := by
  unfold PySem.W.kitAny at h
  cases q : PySem.W.kitOne K t u with
  | none => rw [q] at h; cases h
  | some c =>
    rw [q] at h
    cases c with
    | true => exact h
    | false =>
      have h : some false = some b := h
      exact h
theorem snd_isi (a : Ex) (cs : List CR) (ia : SndE T C k a) : SndE T C k (.isi a cs) := by
  intro X x xo ck L μ ρ S σ H Q W hb er sr tk h
  cases x <;> (try simp only [ckE, Bool.false_eq_true] at ck)
  rename_i f es kws pos
  cases f <;> (try simp only [ckE, Bool.false_eq_true] at ck)
  rcases es with _ | ⟨e, _ | ⟨c, _ | ⟨_, _⟩⟩⟩ <;> cases kws <;> (try simp only [ckE, Bool.false_eq_true] at ck)
  obtain ⟨c1, ck⟩ := ba ck
  obtain ⟨c2, ck⟩ := ba ck
  obtain ⟨c3, ck⟩ := ba ck
  obtain ⟨c4, c5⟩ := ba ck
  obtain ⟨_, g, n, m⟩ := ckB_ok xo c1
  obtain ⟨n1, _, n3⟩ := okN_ok n
  have nc : noStar c = true := by
    unfold ckKK at c5
    split at c5 <;> first | rfl | cases c5
  refine GE.wf (GE.of (pe_callB (CallR.or call_isi call_isiT) g m (bootB_ok c2) (pa_GA (es := [e, c])) n3 n1 (star_cons c3 _ _) (by rw [star_cons nc]; rfl)) (ga_two c3 nc ?_))
  refine ia X e xo c4 L μ ρ S σ H _ W hb er sr tk (Po.bind h fun d1 S1 v1 μ1 H1 _ w1 e1 s1 r1 h1 => ?_)
  obtain ⟨d, e2, h2⟩ := h1.opt
  simp only [Option.map_eq_some_iff] at e2
  obtain ⟨b, e3, rfl⟩ := e2
  unfold ckKK at c5
  split at c5
  · rename_i cr y py
    obtain ⟨v, u, k1, k2, p⟩ := ckK_ok xo c5
    obtain ⟨t, t1, t2⟩ := tyX (mg := X.mg) (tb := T.tb) s1 r1
    have kit := xo.hc.isi _ _ _ _ [u] e3 t1 (by simp only [crVs, k1])
    exact GE.of p (.inl ⟨v1, v, t, u, b, rfl, k2, t2, kitOne_of kit, h2.here s1 (.b _)⟩)
  · rename_i es _ _ _ _ _
    obtain ⟨c6, c7⟩ := ba c5
    obtain ⟨vs, us, k1, k2, kl, p⟩ := ckKs_ok xo c7
    refine GE.of (pe_tup (pa_GA (es := es))) (p _ _ _ ⟨?_, fun tp new => .inr ?_⟩)
    · rw [kl, ← lim_eq]
      exact Nat.le_trans (of_decide_eq_true c6) (by decide)
    · obtain ⟨t, t1, t2⟩ := tyX (mg := X.mg) (tb := T.tb) (s1.laid (o := .tup vs) new) (RD.mono (.laid new) (fun _ _ h => h) _ _ r1)
      exact ⟨v1, tp, vs, t, us, b, rfl, upd_same, k2, t2, xo.hc.isi _ _ _ _ us e3 t1 k1, fun w => h2 _ μ1 _ w (.laid new) (s1.laid new) (.b _)⟩
  · cases c5
/-! ### keywords -/
def GK (X : Cx) (kws : List Keyword) (σ : L2.St) (H : Hp) (Q : List V → Hp → Prop) : Prop := ∀ (pos : Pos) (pins : List (Addr × Obj)) (s : Shared), Inv X pins σ H s →
  wpAny (model X.prog X.w) X.A (evalAll ((backToKw pos (keywordEach kws X.env)).map (·.2))) (AP X pins σ Q) X.xe s
theorem pk_GK {X : Cx} {kws : List Keyword} : PK X kws (GK X kws) := ⟨fun pos pins s σ H Q I h => h pos pins s I⟩
theorem GK.of {X : Cx} {kws : List Keyword} {t : TA} {σ : L2.St} {H : Hp} {Q : List V → Hp → Prop} (h : PK X kws t) (q : t σ H Q) : GK X kws σ H Q := fun pos pins s I => h.run pos pins s σ H Q I q
theorem GK.wf {X : Cx} {kws : List Keyword} {σ : L2.St} {H : Hp} {Q : List V → Hp → Prop} (h : GK X kws σ H fun v H' => Wf H' → Q v H') : GK X kws σ H Q := fun pos pins s I =>
  thn (h pos pins s I) fun u s' ⟨v, H', J, r, q⟩ => ⟨v, H', J, r, q ⟨_, _, _, J.hok⟩⟩
end
def SndK (T : Sta) (C : Cl) (k : Nat) (x : Ex) : Prop := ∀ (X : Cx) (kws : List Keyword) (names : List Str) (es : List Expr), kwNames kws = some (names, es) → XOk T C k X → ckL T X.N x X.env.scope es = true → es.all noStar = true →
  ∀ (L : Nat → Option Nat) (μ : List Addr) (ρ : Env) (S : Store) (σ : L2.St) (H : Hp) (Q : List V → Hp → Prop) (W : WX),
  (∀ n, C.base ≤ n → L n = none) → ER X.K μ H ρ σ → SR X.K L μ S H → Takes X W → PoA T.tb X L μ σ H Q W (evs C x ρ S) → GK X kws σ H Q
section
variable {T : Sta} {C : Cl} {k : Nat}
theorem sndK_nil : SndK T C k .nil := by
  intro X kws names es e xo ck st L μ ρ S σ H Q W hb er sr tk h
  cases es <;> simp only [ckL, Bool.false_eq_true] at ck
  cases kws with
  | nil => exact GK.wf (GK.of pk_nil fun w => h [] μ H w .refl sr .nil)
  | cons kw r =>
    obtain ⟨a, b, c⟩ := kw
    cases a <;> simp only [kwNames, reduceCtorEq] at e
    cases q : kwNames r with
    | none => rw [q] at e; cases e
    | some p => rw [q] at e; cases e
theorem sndK_cons (a as : Ex) (ia : SndE T C k a) (il : SndK T C k as) : SndK T C k (.cons a as) := by
  intro X kws names es e xo ck st L μ ρ S σ H Q W hb er sr tk h
  cases es <;> simp only [ckL, Bool.false_eq_true] at ck
  rename_i e0 es
  obtain ⟨c0, ck⟩ := ba ck
  obtain ⟨c1, c2⟩ := ba ck
  cases kws with
  | nil => cases e
  | cons kw r =>
    obtain ⟨nm, b, c⟩ := kw
    cases nm <;> simp only [kwNames, reduceCtorEq] at e
    cases q : kwNames r with
    | none => rw [q] at e; cases e
    | some p =>
      obtain ⟨xs, ys⟩ := p
      rw [q] at e
      simp only [Option.some.injEq, Prod.mk.injEq] at e
      obtain ⟨e1, e2⟩ := e
      cases e2
      rw [List.all_cons] at st
      refine GK.of (pk_cons (pe_GE (e := e0)) (pk_GK (kws := r))) ?_
      refine ia X e0 xo c1 L μ ρ S σ H _ W hb er sr tk (PoA.bind h fun d1 S1 v1 μ1 H1 _ w1 e1 s1 r1 h1 => ?_)
      refine il X r xs es q xo c2 (ba st).2 L μ1 ρ S1 σ H1 _ W hb (er.mono e1) s1 tk (PoA.bindA h1 fun d2 S2 v2 μ2 H2 _ w2 e2 s2 r2 h2 => ?_)
      exact h2 _ μ2 H2 w2 .refl s2 (.cons (RD.mono e2 e2.pre _ _ r1) r2)
theorem sndK_not {x : Ex} (h : ∀ N sc es, ckL T N x sc es = false) : SndK T C k x := fun X kws names es _ _ ck => by
  rw [h] at ck; cases ck
theorem kw_names : ∀ {kws : List Keyword} {names : List Str} {es : List Expr}, kwNames kws = some (names, es) → names.length = es.length ∧ ∀ (pos : Pos) (env : PySem.Env), (backToKw pos (keywordEach kws env)).all (·.1.isSome) = true ∧ (backToKw pos (keywordEach kws env)).filterMap (·.1) = names ∧
    (backToKw pos (keywordEach kws env)).any (·.1.isNone) = false
  | [], names, es, h => by
    simp only [kwNames, Option.some.injEq, Prod.mk.injEq] at h
    obtain ⟨rfl, rfl⟩ := h
    exact ⟨rfl, fun pos env => ⟨rfl, rfl, rfl⟩⟩
  | ⟨nm, b, c⟩ :: r, names, es, h => by
    cases nm <;> simp only [kwNames, reduceCtorEq] at h
    cases q : kwNames r with
    | none => rw [q] at h; cases h
    | some p =>
      obtain ⟨xs, ys⟩ := p
      rw [q] at h
      simp only [Option.some.injEq, Prod.mk.injEq] at h
      obtain ⟨rfl, rfl⟩ := h
      obtain ⟨l, ih⟩ := kw_names q
      refine ⟨by simp [l], fun pos env => ?_⟩
      obtain ⟨i1, i2, i3⟩ := ih pos env
      refine ⟨?_, ?_, ?_⟩
      · show (true && (backToKw pos (keywordEach r env)).all (·.1.isSome)) = true
        rw [i1]; rfl
      · show _ :: (backToKw pos (keywordEach r env)).filterMap (·.1) = _
        rw [i2]
      · show (false || (backToKw pos (keywordEach r env)).any (·.1.isNone)) = false
        rw [i3]; rfl
theorem pickV {vs : List V} {us : List Value} (r : Vals vs us) : ∀ perm : List Nat, Vals (perm.map fun i => vs.getD i .non) (perm.map fun i => us.getD i .none)
  | [] => .nil
  | i :: perm => by
    refine .cons ?_ (pickV r perm)
    show RelV (vs.getD i .non) (us.getD i .none)
    rw [List.getD_eq_getElem?_getD, List.getD_eq_getElem?_getD]
    cases q : vs[i]? with
    | none =>
      rw [r.none_of q]
      exact rfl
    | some v =>
      obtain ⟨u, e, ru⟩ := r.get q
      rw [e]
      exact ru
theorem pickD {K : Fg} {ν μ : List Addr} {H : Hp} {ds : List D} {vs : List V} (r : RDs K ν μ H ds vs) : ∀ perm : List Nat, RDs K ν μ H (pick ds perm) (perm.map fun i => vs.getD i .non)
  | [] => .nil
  | i :: perm => by
    refine .cons ?_ (pickD r perm)
    show RD K ν μ H (ds.getD i .non) (vs.getD i .non)
    rw [List.getD_eq_getElem?_getD, List.getD_eq_getElem?_getD]
    cases q : vs[i]? with
    | none =>
      have : ds[i]? = none := by
        have := List.getElem?_eq_none_iff.mp q
        exact List.getElem?_eq_none_iff.mpr (by rw [← r.length]; exact this)
      rw [this]
      exact .n
    | some v =>
      obtain ⟨d, e, rd⟩ := r.get q
      rw [e]
      exact rd
theorem snd_calk (f : Nat) (as ks : Ex) (names : List Str) (perm : List Nat) (il : SndL T C k as) (ik : SndK T C k ks) : SndE T C k (.calk f as ks names perm) := by
  intro X e xo ck L μ ρ S σ H Q W hb er sr tk h
  cases e <;> (try simp only [ckE, Bool.false_eq_true] at ck)
  rename_i fe es kws pos
  cases fe <;> (try simp only [ckE, Bool.false_eq_true] at ck)
  cases kws <;> (try simp only [ckE, Bool.false_eq_true] at ck)
  rename_i x px kw kws
  obtain ⟨c0, ck⟩ := ba ck
  obtain ⟨c1, ck⟩ := ba ck
  obtain ⟨c3, ck⟩ := ba ck
  obtain ⟨c4, c5⟩ := ba ck
  obtain ⟨g, n⟩ := ckG_ok c0
  obtain ⟨n1, _, n3⟩ := okN_ok n
  cases q : T.P f with
  | none => rw [q] at c1; cases c1
  | some fn =>
    rw [q] at c1
    obtain ⟨d1, d2⟩ := ba c1
    have ex := of_decide_eq_true d1
    subst ex
    cases qk : kwNames (kw :: kws) with
    | none => rw [qk] at c5; cases c5
    | some p =>
      obtain ⟨xs, ys⟩ := p
      rw [qk] at c5
      obtain ⟨c6, c5⟩ := ba c5
      obtain ⟨c7, c8⟩ := ba c5
      have ex := of_decide_eq_true c6
      subst ex
      obtain ⟨kl, kn⟩ := kw_names qk
      obtain ⟨k1, k2, k3⟩ := kn pos X.env
      obtain ⟨ad, fd, mgf, kp, _, kb, F⟩ := xo.hc.fn f fn q
      obtain ⟨pl, sc, ds, hds, hbd⟩ := kb _ _ _ (of_decide_eq_true d2)
      -- the call itself
      have fin : ∀ (pins : List (Addr × Obj)) (s2 : Shared) (us ws : List Value) (vs zs : List V) (d1 d2 : List D) (μ2 : List Addr) (S2 : Store) (H2 : Hp), Inv X pins σ H2 s2 → Vals vs us → Vals zs ws → us.length = es.length → ws.length = xs.length →
          RDs X.K μ2 μ2 H2 d1 vs → RDs X.K μ2 μ2 H2 d2 zs → SR X.K L μ2 S2 H2 → Po T.tb X L μ2 σ H2 Q W (C.call C.base f (pick (d1 ++ d2 ++ C.dfl f 0) perm) S2) →
          wpAny (model X.prog X.w) X.A (call (.ref ad) us (xs.zip ws)) (EP X pins σ (Wq Q)) X.xe s2 := by
        intro pins s2 us ws vs zs d1 d2 μ2 S2 H2 I rv rz lu lw r1 r2 s2' h2
        rw [xo.hc.dfl] at h2
        have rall : Vals (vs ++ zs ++ (dflOf T.P f 0).map scV) (us ++ ws ++ ds) := (rv.append rz).append hds
        have dall : RDs X.K μ2 μ2 H2 (d1 ++ d2 ++ dflOf T.P f 0) (vs ++ zs ++ (dflOf T.P f 0).map scV) := (r1.append r2).append (scs_ok sc)
        refine wpAny_call (codeAny_mono (F.run X.A X.stack s2 H2 ⟨us, xs.zip ws⟩ (perm.map fun i => (us ++ ws ++ ds).getD i .none) (perm.map fun i => (vs ++ zs ++ (dflOf T.P f 0).map scV).getD i .non) (Wq Q) (fun c dd H' => W c dd σ H') xo.room I.env0 (hbd s2 us ws I.kIn lu lw) (pickV rall perm)
          ⟨by rw [List.length_map, pl], L, C.base, μ2, S2, _, s2', hb, pickD dall perm, h2.toC⟩) fun r s' hq => ?_)
        cases r with
        | error e => exact passAt tk σ pins H2 s2 e s' I hq
        | ok fl =>
          cases fl with
          | ret u => exact I.after hq
          | next => exact False.elim hq
          | brk => exact False.elim hq
          | cont => exact False.elim hq
      refine GE.wf ?_
      cases es with
      | nil =>
        rw [show ev C (.calk f as ks xs perm) ρ S = (evs C as ρ S).bind fun xs S1 => (evs C ks ρ S1).bind fun ys S2 => C.call C.base f (pick (xs ++ ys ++ C.dfl f 0) perm) S2 from rfl, evs_nil c4] at h
        have h : Po T.tb X L μ σ H Q W ((evs C ks ρ S).bind fun ys S2 => C.call C.base f (pick ([] ++ ys ++ C.dfl f 0) perm) S2) := h
        intro pins s I
        refine wpAny_Call_Name_kw (ld_glob I g mgf ?_ n1)
        refine PySem.W.callWith_KW0 (h₀ := X.base) I.ok.mod.kin kp k1 ?_ (by rw [k3]; rfl)
        have run := ik X (kw :: kws) xs ys qk xo c8 c7 L μ ρ S σ H _ W hb er sr tk (Po.bindA h fun d2 S2 v2 μ2 H2 e0 w2 e2 s2 r2 h2 => (show (fun (zs : List V) (H2 : Hp) => ∃ (d2 : List D) (μ2 : List Addr) (S2 : Store), zs.length = xs.length ∧ RDs X.K μ2 μ2 H2 d2 zs ∧ SR X.K L μ2 S2 H2 ∧ Po T.tb X L μ2 σ H2 Q W (C.call C.base f (pick ([] ++ d2 ++ C.dfl f 0) perm) S2)) v2 H2 from
          ⟨d2, μ2, S2, by rw [r2.length, kl]; exact evs_len ks ys S S2 d2 c8 c7 e0, r2, s2, h2⟩))
        refine thn (run pos pins s I) fun ws s2 ⟨zs, H2, I2, rz, d2, μ2, S2, hl, r2, s2', h2⟩ => ⟨I2.kIn, ?_⟩
        rw [k2]
        exact fin pins s2 [] ws [] zs [] d2 μ2 S2 H2 I2 .nil rz rfl (by rw [← rz.length, hl]) .nil r2 s2' h2
      | cons e es =>
        intro pins s I
        refine wpAny_Call_Name_kw (ld_glob I g mgf ?_ n1)
        have st := c3
        rw [List.all_cons] at st
        obtain ⟨st1, st2⟩ := ba st
        refine PySem.W.callWith_KW (h₀ := X.base) I.ok.mod.kin kp k1 ?_ (by rw [star_any c3, k3]; rfl) (star_cons st1 _ _)
        have run := il X (e :: es) xo c4 L μ ρ S σ H _ W hb er sr tk (Po.bindA h fun d1 S1 v1 μ1 H1 e0 w1 e1 s1 r1 h1 => (show (fun (vs : List V) (H1 : Hp) => ∃ (d1 : List D) (μ1 : List Addr) (S1 : Store), vs.length = (e :: es).length ∧ ER X.K μ1 H1 ρ σ ∧ RDs X.K μ1 μ1 H1 d1 vs ∧ SR X.K L μ1 S1 H1 ∧ Po T.tb X L μ1 σ H1 Q W ((evs C ks ρ S1).bind fun ys S2 => C.call C.base f (pick (d1 ++ ys ++ C.dfl f 0) perm) S2)) v1 H1 from
          ⟨d1, μ1, S1, by rw [r1.length]; exact evs_len as (e :: es) S S1 d1 c4 c3 e0, er.mono e1, r1, s1, h1⟩))
        refine thn (run pos pins s I) fun us s1 ⟨vs, H1, I1, rv, d1, μ1, S1, hl, er1, r1, s1', h1⟩ => ?_
        have run2 := ik X (kw :: kws) xs ys qk xo c8 c7 L μ1 ρ S1 σ H1 _ W hb er1 s1' tk (Po.bindA h1 fun d2 S2 v2 μ2 H2 e0 w2 e2 s2 r2 h2 => (show (fun (zs : List V) (H2 : Hp) => ∃ (d2 : List D) (μ2 : List Addr) (S2 : Store), zs.length = xs.length ∧ RDs X.K μ2 μ2 H2 d1 vs ∧ RDs X.K μ2 μ2 H2 d2 zs ∧ SR X.K L μ2 S2 H2 ∧ Po T.tb X L μ2 σ H2 Q W (C.call C.base f (pick (d1 ++ d2 ++ C.dfl f 0) perm) S2)) v2 H2 from
          ⟨d2, μ2, S2, by rw [r2.length, kl]; exact evs_len ks ys S1 S2 d2 c8 c7 e0, RDs.mono e2 e2.pre _ _ r1, r2, s2, h2⟩))
        refine thn (run2 pos pins s1 I1) fun ws s2 ⟨zs, H2, I2, rz, d2, μ2, S2, hl2, r1', r2, s2', h2⟩ => ⟨I2.kIn, ?_⟩
        rw [k2]
        exact fin pins s2 us ws vs zs d1 d2 μ2 S2 H2 I2 rv rz (by rw [← rv.length, hl]) (by rw [← rz.length, hl2]) r1' r2 s2' h2
end
end EV
/-! EV13b: chains of three, ranges as values, index, ranges downwards. -/
namespace EV
open PySem PySem.Spec PyProof.Rows L2
theorem marks_no3 {e f g : Expr} (h1 : noSet e = true) (h2 : noSet f = true) (h3 : noSet g = true) (op op' op2 : CmpOp) : lastMarks [op, op', op2] [e, f, g] = false := by
  show lastMarks [op', op2] [f, g] = false
  exact marks_no h2 h3 _ _
/-- a op1 b op2 c op3 d -/
def tChain3 (r1 r2 r3 : R2) (ta tb tc td : TE) : TE := fun σ H Q => ta σ H fun x H1 => tb σ H1 fun y H2 => r1 x y H2 fun u H3 => ∃ k, u = .bl k ∧
  (if k = true then tc σ H3 fun z H4 => r2 y z H4 fun u2 H5 => ∃ k2, u2 = .bl k2 ∧ (if k2 = true then td σ H5 fun w H6 => r3 z w H6 Q else Q (.bl false) H5) else Q (.bl false) H3)
section
variable {X : Cx} {a b c d : Expr} {ta tb tc td : TE} {pos : Pos} {o1 o2 o3 : CmpOp} {r1 r2 r3 : R2}
theorem pe_chain3 (h1 : OpR X (compareOp o1) r1) (h2 : OpR X (compareOp o2) r2) (h3 : OpR X (compareOp o3) r3) (ha : PE X a ta) (hb : PE X b tb) (hc : PE X c tc) (hd : PE X d td)
    (hm : lastMarks [o1, o2, o3] [b, c, d] = false) : PE X (.Compare a [o1, o2, o3] [b, c, d] pos) (tChain3 r1 r2 r3 ta tb tc td) := by
  refine ⟨fun pins s σ H Q I h => Compare_chain ?_ hm⟩
  refine thn (ha.run pins s σ H _ I h) fun v s1 ⟨x, H1, I1, e1, q1⟩ => chain_link ?_
  refine thn (hb.run pins s1 σ H1 _ I1 q1) fun u s2 ⟨y, H2, I2, e2, q2⟩ => ?_
  refine thn (h1 pins s2 σ H2 x y v u _ I2 e1 e2 q2) fun p s3 ⟨z, H3, I3, e3, k, ez, q3⟩ => ?_
  subst ez
  cases e3
  refine wpAny_truthy_bool ?_
  cases k with
  | false => exact ite_ff ⟨.bl false, H3, I3, rfl, q3⟩
  | true =>
    refine ite_tt (chain_link ?_)
    refine thn (hc.run pins s3 σ H3 _ I3 q3) fun u2 s4 ⟨z, H4, I4, e4, q4⟩ => ?_
    refine thn (h2 pins s4 σ H4 y z u u2 _ I4 e2 e4 q4) fun p2 s5 ⟨z2, H5, I5, e5, k2, ez2, q5⟩ => ?_
    subst ez2
    cases e5
    refine wpAny_truthy_bool ?_
    cases k2 with
    | false => exact ite_ff ⟨.bl false, H5, I5, rfl, q5⟩
    | true =>
      refine ite_tt (chain_last ?_)
      exact thn (hd.run pins s5 σ H5 _ I5 q5) fun u3 s6 ⟨z3, H6, I6, e6, q6⟩ => h3 pins s6 σ H6 z z3 u2 u3 Q I6 e4 e6 q6
theorem pt_chain3 (h1 : OpR X (compareOp o1) r1) (h2 : OpR X (compareOp o2) r2) (h3 : OpR X (compareOp o3) r3) (ha : PE X a ta) (hb : PE X b tb) (hc : PE X c tc) (hd : PE X d td)
    (hm : lastMarks [o1, o2, o3] [b, c, d] = false) : PT X (.Compare a [o1, o2, o3] [b, c, d] pos) (tTest (tChain3 r1 r2 r3 ta tb tc td)) := by
  refine ⟨fun pins s σ H Q I h => isTrue_chain ?_ hm⟩
  refine thn (ha.run pins s σ H _ I h) fun v s1 ⟨x, H1, I1, e1, q1⟩ => test_link ?_
  refine thn (hb.run pins s1 σ H1 _ I1 q1) fun u s2 ⟨y, H2, I2, e2, q2⟩ => ?_
  refine thn (h1 pins s2 σ H2 x y v u _ I2 e1 e2 q2) fun p s3 ⟨z, H3, I3, e3, k, ez, q3⟩ => ?_
  subst ez
  cases e3
  refine wpAny_truthy_bool ?_
  cases k with
  | false =>
    obtain ⟨k', e', q'⟩ := q3
    cases e'
    exact ite_ff ⟨H3, I3, q'⟩
  | true =>
    refine ite_tt (test_link ?_)
    refine thn (hc.run pins s3 σ H3 _ I3 q3) fun u2 s4 ⟨z, H4, I4, e4, q4⟩ => ?_
    refine thn (h2 pins s4 σ H4 y z u u2 _ I4 e2 e4 q4) fun p2 s5 ⟨z2, H5, I5, e5, k2, ez2, q5⟩ => ?_
    subst ez2
    cases e5
    refine wpAny_truthy_bool ?_
    cases k2 with
    | false =>
      obtain ⟨k', e', q'⟩ := q5
      cases e'
      exact ite_ff ⟨H5, I5, q'⟩
    | true =>
      refine ite_tt (test_last ?_)
      refine thn (hd.run pins s5 σ H5 _ I5 q5) fun u3 s6 ⟨z3, H6, I6, e6, q6⟩ => ?_
      refine thn (h3 pins s6 σ H6 z z3 u2 u3 _ I6 e4 e6 q6) fun p3 s7 ⟨z4, H7, I7, e7, k3, ez3, q7⟩ => ?_
      subst ez3
      cases e7
      exact wpAny_truthy_bool ⟨H7, I7, q7⟩
end
section
variable {K : Fg} {ν μ μ' : List Addr} {H : Hp}
theorem allM_ok {f : D → Option D} {Q : D → V → Prop} {Q' : D → V → Prop} (h : ∀ d d' v, f d = some d' → Q d v → Q' d' v) : ∀ {ds ds' : List D}, allM f ds = some ds' → ∀ vs : List V, Paired Q ds vs → Paired Q' ds' vs
  | [], ds', e, vs, r => by
    simp only [allM, Option.some.injEq] at e
    subst e
    cases r
    exact .nil
  | d :: ds, ds', e, vs, r => by
    unfold allM at e
    split at e
    · rename_i y ys h1 h2
      simp only [Option.some.injEq] at e
      subst e
      cases r with
      | cons r1 r2 => exact .cons (h _ _ _ h1 r1) (allM_ok h h2 _ r2)
    · cases e
theorem RDs.paired : ∀ {ds : List D} {vs : List V}, RDs K ν μ H ds vs → Paired (fun d v => RD K ν μ H d v) ds vs
  | [], vs, h => by simp only [RDs] at h; subst h; exact .nil
  | d :: ds, vs, h => by
    simp only [RDs] at h
    obtain ⟨x, r, rfl, h1, h2⟩ := h
    exact .cons h1 (RDs.paired h2)
theorem RDs.ofP : ∀ {ds : List D} {vs : List V}, Paired (fun d v => RD K ν μ H d v) ds vs → RDs K ν μ H ds vs
  | _, _, .nil => .nil
  | _, _, .cons h t => .cons h (RDs.ofP t)
/-- all cells plain: read where no cell is tracked -/
theorem fz0_ok {L : Nat → Option Nat} {S : Store} (s : SR K L μ S H) : ∀ (n : Nat) (d d' : D) (v : V), fz S 0 n d = some d' → RD K μ μ H d v → RD K [] [] H d' v := by
  have kp : Kp μ H [] H := fun a o q _ => ⟨q, by simp⟩
  have fr : ∀ (d : D) (v : V), d.free = true → RD K μ μ H d v → RD K [] [] H d v := fun d v h r => RD.anyloc (ν := μ) d v h (RD.monoK kp (fun _ _ h => h) _ _ r)
  have cut : ∀ m, ∀ (i : Nat) a, (cutL L m μ)[i]? = some a → μ[i]? = some a := fun m i a h => by
    unfold cutL at h
    cases e : L m with
    | none => rw [e] at h; exact h
    | some j =>
      rw [e] at h
      simp only [List.getElem?_take] at h
      split at h
      · exact h
      · cases h
  intro n
  induction n with
  | zero =>
    intro d d' v e r
    unfold fz at e
    split at e
    · rename_i hf
      cases e
      exact fr d v hf r
    · cases e
  | succ n ih =>
    intro d d' v e r
    unfold fz at e
    split at e
    · rename_i hf
      cases e
      exact fr d v hf r
    · split at e
      · rename_i m hnf
        simp only [RD] at r
        obtain ⟨a, rfl, ha⟩ := r
        rw [if_neg (Nat.not_lt_zero m)] at e
        have hm : m < S.length := by rw [← s.len]; exact (List.getElem?_eq_some_iff.mp ha).1
        have c := s.cell m _ a (List.getElem?_eq_getElem hm) ha
        rw [List.getD_eq_getElem?_getD, List.getElem?_eq_getElem hm, Option.getD_some] at e
        generalize S[m] = z at e c
        cases z <;> (try (cases e; done))
        · rename_i xs
          obtain ⟨vs, h1, h2⟩ := c
          simp only [Option.map_eq_some_iff] at e
          obtain ⟨ys, e1, rfl⟩ := e
          simp only [RD]
          exact ⟨a, vs, rfl, ⟨h1, by simp⟩, RDs.ofP (allM_ok ih e1 vs (RDs.mono .refl (cut m) _ _ h2).paired)⟩
        · rename_i kvs
          obtain ⟨ws, h1, h2⟩ := c
          dsimp only at e
          split at e
          · rename_i hf
            cases e
            simp only [RD]
            exact ⟨a, ws, rfl, ⟨h1, by simp⟩, RDK.anyloc kvs ws hf (RDK.monoK kp (fun _ _ h => h) _ _ h2)⟩
          · cases e
        · rename_i kvs
          obtain ⟨ws, h1, h2⟩ := c
          dsimp only at e
          split at e
          · rename_i hf
            cases e
            simp only [RD]
            exact ⟨a, ws, rfl, ⟨h1, by simp⟩, RDT.anyloc kvs ws hf (RDT.monoK kp (fun _ _ h => h) _ _ h2)⟩
          · cases e
      · rename_i xs
        simp only [Option.map_eq_some_iff] at e
        obtain ⟨ys, e1, rfl⟩ := e
        simp only [RD] at r ⊢
        obtain ⟨a, vs, rfl, ⟨h1, h2⟩, r⟩ := r
        exact ⟨a, vs, rfl, ⟨h1, by simp⟩, RDs.ofP (allM_ok ih e1 vs r.paired)⟩
      · rename_i xs
        simp only [Option.map_eq_some_iff] at e
        obtain ⟨ys, e1, rfl⟩ := e
        simp only [RD] at r ⊢
        obtain ⟨a, vs, rfl, ⟨h1, h2⟩, r⟩ := r
        exact ⟨a, vs, rfl, ⟨h1, by simp⟩, RDs.ofP (allM_ok ih e1 vs r.paired)⟩
      · cases e
end
section
variable {T : Sta} {C : Cl} {k : Nat}
theorem snd_cm3 (o p q : CO) (a b c d : Ex) (ia : SndE T C k a) (ib : SndE T C k b) (ic : SndE T C k c) (id : SndE T C k d) : SndE T C k (.cm3 o p q a b c d) := by
  intro X e xo ck L μ ρ S σ H Q W hb er sr tk h
  cases e <;> (try simp only [ckE, Bool.false_eq_true] at ck)
  rename_i l ps rs pos
  rcases ps with _ | ⟨q1, _ | ⟨q2, _ | ⟨q3, _ | ⟨_, _⟩⟩⟩⟩ <;> rcases rs with _ | ⟨m, _ | ⟨n, _ | ⟨r, _ | ⟨_, _⟩⟩⟩⟩ <;> (try simp only [ckE, Bool.false_eq_true] at ck)
  simp only [Bool.and_eq_true, decide_eq_true_eq] at ck
  obtain ⟨rfl, rfl, rfl, c4, c5, c6, c7, c8, c9, c10⟩ := ck
  obtain ⟨rd, ro, hs⟩ := cop_ok X xo.un o
  obtain ⟨rd', ro', hs'⟩ := cop_ok X xo.un p
  obtain ⟨rd2, ro2, hs2⟩ := cop_ok X xo.un q
  refine GE.wf (GE.of (pe_chain3 ro ro' ro2 (pe_GE (e := l)) (pe_GE (e := m)) (pe_GE (e := n)) (pe_GE (e := r)) (marks_no3 c4 c5 c6 _ _ _)) ?_)
  refine ia X l xo c7 L μ ρ S σ H _ W hb er sr tk (Po.bind h fun d1 S1 v1 μ1 H1 _ w1 e1 s1 r1 h1 => ?_)
  refine ib X m xo c8 L μ1 ρ S1 σ H1 _ W hb (er.mono e1) s1 tk (Po.bind h1 fun d2 S2 v2 μ2 H2 _ w2 e2 s2 r2 h2 => ?_)
  cases q : cop o S2 d1 d2 with
  | none => rw [q] at h2; exact False.elim h2
  | some t =>
    rw [q] at h2
    refine hs (tb := T.tb) (σ := σ) (W := W) q s2 (RD.mono e2 e2.pre _ _ r1) r2 ⟨t, rfl, ?_⟩
    cases t with
    | false =>
      rw [if_neg Bool.false_ne_true]
      exact Po.here h2 s2 (.b _)
    | true =>
      rw [if_pos rfl]
      refine ic X n xo c9 L μ2 ρ S2 σ H2 _ W hb ((er.mono e1).mono e2) s2 tk (Po.bind h2 fun d3 S3 v3 μ3 H3 _ w3 e3 s3 r3 h3 => ?_)
      cases q : cop p S3 d2 d3 with
      | none => rw [q] at h3; exact False.elim h3
      | some t =>
        rw [q] at h3
        refine hs' (tb := T.tb) (σ := σ) (W := W) q s3 (RD.mono e3 e3.pre _ _ r2) r3 ⟨t, rfl, ?_⟩
        cases t with
        | false =>
          rw [if_neg Bool.false_ne_true]
          exact Po.here h3 s3 (.b _)
        | true =>
          rw [if_pos rfl]
          refine id X r xo c10 L μ3 ρ S3 σ H3 _ W hb (((er.mono e1).mono e2).mono e3) s3 tk (Po.bind h3 fun d4 S4 v4 μ4 H4 _ w4 e4 s4 r4 h4 => ?_)
          obtain ⟨d, e5, h5⟩ := h4.opt
          simp only [Option.map_eq_some_iff] at e5
          obtain ⟨c, e6, rfl⟩ := e5
          exact hs2 (tb := T.tb) (σ := σ) (W := W) e6 s4 (RD.mono e4 e4.pre _ _ r3) r4 (h5.here s4 (.b _))
theorem sndT_cm3 (o p q : CO) (a b c d : Ex) (ia : SndE T C k a) (ib : SndE T C k b) (ic : SndE T C k c) (id : SndE T C k d) : SndT T C k (.cm3 o p q a b c d) := by
  intro X e xo ck L μ ρ S σ H Q W hb er sr tk h
  cases e <;> (try simp only [ckE, Bool.false_eq_true] at ck)
  rename_i l ps rs pos
  rcases ps with _ | ⟨q1, _ | ⟨q2, _ | ⟨q3, _ | ⟨_, _⟩⟩⟩⟩ <;> rcases rs with _ | ⟨m, _ | ⟨n, _ | ⟨r, _ | ⟨_, _⟩⟩⟩⟩ <;> (try simp only [ckE, Bool.false_eq_true] at ck)
  simp only [Bool.and_eq_true, decide_eq_true_eq] at ck
  obtain ⟨rfl, rfl, rfl, c4, c5, c6, c7, c8, c9, c10⟩ := ck
  obtain ⟨rd, ro, hs⟩ := cop_ok X xo.un o
  obtain ⟨rd', ro', hs'⟩ := cop_ok X xo.un p
  obtain ⟨rd2, ro2, hs2⟩ := cop_ok X xo.un q
  refine GT.of (pt_chain3 ro ro' ro2 (pe_GE (e := l)) (pe_GE (e := m)) (pe_GE (e := n)) (pe_GE (e := r)) (marks_no3 c4 c5 c6 _ _ _)) ?_
  refine ia X l xo c7 L μ ρ S σ H _ W hb er sr tk (PoT.bind h fun d1 S1 v1 μ1 H1 _ w1 e1 s1 r1 h1 => ?_)
  refine ib X m xo c8 L μ1 ρ S1 σ H1 _ W hb (er.mono e1) s1 tk (PoT.bind h1 fun d2 S2 v2 μ2 H2 _ w2 e2 s2 r2 h2 => ?_)
  cases q : cop o S2 d1 d2 with
  | none => rw [q] at h2; exact False.elim h2
  | some t =>
    rw [q] at h2
    refine hs (tb := T.tb) (σ := σ) (W := W) q s2 (RD.mono e2 e2.pre _ _ r1) r2 ⟨t, rfl, ?_⟩
    cases t with
    | false =>
      rw [if_neg Bool.false_ne_true]
      exact ⟨false, rfl, PoT.here h2 s2 (.b _) (tru_bl _ _) w2⟩
    | true =>
      rw [if_pos rfl]
      refine ic X n xo c9 L μ2 ρ S2 σ H2 _ W hb ((er.mono e1).mono e2) s2 tk (PoT.bind h2 fun d3 S3 v3 μ3 H3 _ w3 e3 s3 r3 h3 => ?_)
      cases q : cop p S3 d2 d3 with
      | none => rw [q] at h3; exact False.elim h3
      | some t =>
        rw [q] at h3
        refine hs' (tb := T.tb) (σ := σ) (W := W) q s3 (RD.mono e3 e3.pre _ _ r2) r3 ⟨t, rfl, ?_⟩
        cases t with
        | false =>
          rw [if_neg Bool.false_ne_true]
          exact ⟨false, rfl, PoT.here h3 s3 (.b _) (tru_bl _ _) w3⟩
        | true =>
          rw [if_pos rfl]
          refine id X r xo c10 L μ3 ρ S3 σ H3 _ W hb (((er.mono e1).mono e2).mono e3) s3 tk (PoT.bind h3 fun d4 S4 v4 μ4 H4 _ w4 e4 s4 r4 h4 => ?_)
          obtain ⟨d, e5, h5⟩ := h4.opt
          simp only [Option.map_eq_some_iff] at e5
          obtain ⟨c, e6, rfl⟩ := e5
          exact hs2 (tb := T.tb) (σ := σ) (W := W) e6 s4 (RD.mono e4 e4.pre _ _ r3) r4 ⟨c, rfl, h5.here s4 (.b _) (tru_bl _ _) w4⟩
/-! ### a call that only looks -/
theorem snd_calz (f : Nat) (as : Ex) (il : SndL T C k as) : SndE T C k (.calz f as) := by
  intro X e xo ck L μ ρ S σ H Q W hb er sr tk h
  cases e <;> (try simp only [ckE, Bool.false_eq_true] at ck)
  rename_i fe es kws pos
  cases fe <;> (try simp only [ckE, Bool.false_eq_true] at ck)
  cases kws <;> (try simp only [ckE, Bool.false_eq_true] at ck)
  rename_i x px
  obtain ⟨cn, ck⟩ := ba ck
  obtain ⟨c0, ck⟩ := ba ck
  obtain ⟨c1, ck⟩ := ba ck
  obtain ⟨c3, c4⟩ := ba ck
  obtain ⟨g, n⟩ := ckG_ok c0
  obtain ⟨n1, _, n3⟩ := okN_ok n
  cases q : T.P f with
  | none => rw [q] at c1; cases c1
  | some fn =>
    rw [q] at c1
    obtain ⟨d1, c1⟩ := ba c1
    obtain ⟨d2, d3⟩ := ba c1
    have ex := of_decide_eq_true d1
    subst ex
    obtain ⟨ad, fd, mgf, kp, bd, _, F⟩ := xo.hc.fn f fn q
    obtain ⟨sc, ln, ds, hds, hbd⟩ := bd es.length (of_decide_eq_true d2) (of_decide_eq_true d3)
    cases es with
    | nil => exact absurd rfl (of_decide_eq_true cn)
    | cons e es =>
      have c3' := c3
      rw [List.all_cons] at c3'
      obtain ⟨s1, s2⟩ := ba c3'
      refine GE.wf (GE.of (pe_callSD F xo.room g mgf kp hbd hds (fun σ => passAt tk σ) (pa_GA (es := e :: es)) n1 (star_cons s1 _ _) (star_any s2 _ _)) ?_)
      refine il X (e :: es) xo c4 L μ ρ S σ H _ W hb er sr tk (Po.bindA h fun d1 S1 v1 μ1 H1 e0 w1 e1 s1 r1 h1 => ?_)
      have hl : d1.length = (e :: es).length := evs_len as (e :: es) S S1 d1 c4 c3 e0
      rw [xo.hc.dfl, hl] at h1
      cases qa : allM (fz S1 0 8) d1 with
      | none => rw [qa] at h1; exact False.elim h1
      | some ys =>
        rw [qa] at h1
        have r2 : RDs X.K [] [] H1 ys v1 := RDs.ofP (allM_ok (fz0_ok s1 8) qa v1 r1.paired)
        refine ⟨?_, fun _ => none, 0, [], [], ys ++ dflOf T.P f (e :: es).length, ⟨rfl, List.nodup_nil, fun n d a h1 => by simp at h1, fun _ _ => rfl⟩, fun _ _ => rfl, r2.append (scs_ok sc), ?_⟩
        · rw [List.length_append, r1.length, hl, List.length_map]
          exact ln
        dsimp only at h1
        generalize C.call 0 f (ys ++ dflOf T.P f (e :: es).length) [] = r at h1
        cases r with
        | fl => exact h1
        | er x S2 => exact False.elim h1
        | ok d S2 =>
          dsimp only at h1
          split at h1
          · rename_i hd
            intro v μ' H' ex _ rd w
            have ex1 : Ext μ1 H1 μ1 H' := ⟨fun _ _ q => q, fun a o q m => ⟨(ex.keep a o q (by simp)).1, m⟩⟩
            have s2 : SR X.K L μ1 S1 H' := ⟨s1.len, s1.nd, fun n d a q1 q2 => (s1.cell n d a q1 q2).mono ex1 (fun _ _ q => q) (by
              obtain ⟨o, ho⟩ := s1.tracked (List.mem_of_getElem? q2)
              rw [ho]
              exact (ex.keep a o ho (by simp)).1), s1.top⟩
            exact h1 v μ1 H' w ex1 s2 (by cases d <;> first | (simp only [isSc, Bool.false_eq_true] at hd; done) | (simp only [RD] at rd ⊢; exact rd))
          · exact False.elim h1
/-! ### ranges as values -/
theorem rgV_rd {K : Fg} {μ : List Addr} {H : Hp} (i j : Int) : RDs K μ μ H (rgD i j) (rgV i j) := by
  unfold rgD rgV
  generalize List.range (j - i).toNat = l
  induction l with
  | nil => exact .nil
  | cons n l ih => exact .cons (by simp only [RD]) ih
theorem rgl_ok {i j : Int} (hc : (small62 i && small62 j && decide (j - i ≤ lim)) = true) : RgOk i j := by
  obtain ⟨c1, c2⟩ := ba hc
  obtain ⟨c3, c4⟩ := ba c1
  obtain ⟨b1, b2⟩ := small62_ok c3
  obtain ⟨b3, b4⟩ := small62_ok c4
  have := of_decide_eq_true c2
  have hl : (lim : Int) = 16777216 := rfl
  exact ⟨b1, b2, b3, b4, by omega⟩
theorem isNo_eq {a : Ex} (h : isNo a = true) : a = .no := by cases a <;> first | rfl | cases h
theorem snd_rgl (tp : Bool) (a b : Ex) (ia : SndE T C k a) (ib : SndE T C k b) : SndE T C k (.rgl tp a b) := by
  intro X e xo ck L μ ρ S σ H Q W hb er sr tk h
  cases e <;> (try simp only [ckE, Bool.false_eq_true] at ck)
  rename_i f es kws pos
  cases f <;> (try simp only [ckE, Bool.false_eq_true] at ck)
  rename_i x px
  cases kws <;> (try (rcases es with _ | ⟨e, _ | ⟨_, _⟩⟩ <;> (try simp only [ckE, Bool.false_eq_true] at ck); done))
  rcases es with _ | ⟨e, _ | ⟨_, _⟩⟩ <;> (try simp only [ckE, Bool.false_eq_true] at ck)
  cases e <;> (try simp only [ckE, Bool.false_eq_true] at ck)
  rename_i f2 es2 kws2 pos2
  cases f2 <;> (try simp only [ckE, Bool.false_eq_true] at ck)
  rename_i y py
  cases kws2 <;> (try (rcases es2 with _ | ⟨e, es⟩ <;> (try simp only [ckE, Bool.false_eq_true] at ck); done))
  rcases es2 with _ | ⟨e, es⟩ <;> (try simp only [ckE, Bool.false_eq_true] at ck)
  obtain ⟨c1, ckA⟩ := ba ck
  obtain ⟨c2, ckB'⟩ := ba ckA
  obtain ⟨c3, ckL'⟩ := ba ckB'
  clear ck ckA ckB'
  obtain ⟨rfl, g1, n1, m1⟩ := ckB_ok xo c1
  obtain ⟨rfl, g2, n2, m2⟩ := ckB_ok xo c2
  -- the end, by values
  have fin : ∀ {one : Bool} {S2 : Store} {μ2 : List Addr} {H2 : Hp} {x y : D} {vx vy : V}, SR X.K L μ2 S2 H2 → (one = false → RD X.K μ2 μ2 H2 x vx) → RD X.K μ2 μ2 H2 y vy → Po T.tb X L μ2 σ H2 Q W (R.of (rglD tp one x y) S2) →
      ∃ i j, (one = true → i = 0) ∧ (one = false → vx = .int i) ∧ vy = .int j ∧ RgOk i j ∧ ∀ q, H2 q = none → Wf (upd H2 q (if tp then .tup (rgV i j) else .lst (rgV i j))) → Q (.ref q) (upd H2 q (if tp then .tup (rgV i j) else .lst (rgV i j))) := by
    intro one S2 μ2 H2 x y vx vy s2 rx ry h2
    obtain ⟨d, e2, h3⟩ := h2.opt
    unfold rglD at e2
    have key : ∀ i, (if one then D.int 0 else x) = .int i → (one = true → i = 0) ∧ (one = false → vx = .int i) := by
      intro i ei
      cases one with
      | true => exact ⟨fun _ => by cases ei; rfl, fun z => by cases z⟩
      | false =>
        refine ⟨fun z => (by cases z), fun _ => ?_⟩
        have rx := rx rfl
        rw [show x = D.int i from ei] at rx
        simpa only [RD] using rx
    split at e2
    · rename_i i j ei
      simp only [RD] at ry
      subst ry
      split at e2
      · rename_i hc
        cases e2
        refine ⟨i, j, (key i ei).1, (key i ei).2, rfl, rgl_ok hc, fun q hq w => ?_⟩
        cases tp with
        | true => exact h3 _ μ2 _ w (.laid hq) (s2.laid hq) (.newT s2 hq (rgV_rd i j))
        | false => exact h3 _ μ2 _ w (.laid hq) (s2.laid hq) (.newL s2 hq (rgV_rd i j))
      · cases e2
    · cases e2
  have st1 : ∀ y' p', starEach [Expr.Call (.Name y' py) (e :: es) [] p'] X.env = (false, eval (Expr.Call (.Name y' py) (e :: es) [] p') X.env) :: starEach [] X.env := fun _ _ => rfl
  rcases es with _ | ⟨f, _ | ⟨_, _⟩⟩ <;> (try (cases ckL'; done))
  · obtain ⟨ck1, ck2⟩ := ba ckL'
    have pr := prg_1 (pos := pos2) (p := py) g2 m2 (pe_GE (X := X) (e := e)) (star_cons c3 _ _)
    have hev : ev C a ρ S = .ok .non S := by
      rw [isNo_eq ck1]
      rfl
    have h' : Po T.tb X L μ σ H Q W ((ev C b ρ S).bind fun y S2 => R.of (rglD tp true D.non y) S2) := by
      have e2 : ev C (.rgl tp a b) ρ S = (ev C b ρ S).bind fun y S2 => R.of (rglD tp true D.non y) S2 := by
        show ((ev C a ρ S).bind fun x S1 => (ev C b ρ S1).bind fun y S2 => R.of (rglD tp (isNo a) x y) S2) = _
        rw [hev, ck1]
        rfl
      rw [← e2]
      exact h
    have go : GE X e σ H fun x H1 => ∃ n, x = .int n ∧ RgOk 0 n ∧ ∀ q, H1 q = none → Wf (upd H1 q (if tp then .tup (rgV 0 n) else .lst (rgV 0 n))) → Q (.ref q) (upd H1 q (if tp then .tup (rgV 0 n) else .lst (rgV 0 n))) := by
      refine ib X e xo ck2 L μ ρ S σ H _ W hb er sr tk (Po.bind h' fun d1 S1 v1 μ1 H1 _ w1 e1 s1 r1 h1 => ?_)
      obtain ⟨i, j, a1, a2, a3, a4, a5⟩ := fin (one := true) (vx := .non) s1 (fun z => by cases z) r1 h1
      have := a1 rfl
      subst this
      exact ⟨j, a3, a4, a5⟩
    cases tp with
    | true => exact GE.wf (GE.of (pe_tupRg (pos := pos) (p := px) xo.calm g1 m1 pr (st1 _ _)) go)
    | false => exact GE.wf (GE.of (pe_listRg (pos := pos) (p := px) xo.calm g1 m1 pr (st1 _ _)) go)
  · obtain ⟨ck0, ckM⟩ := ba ckL'
    obtain ⟨ck1, ckM2⟩ := ba ckM
    obtain ⟨ck2, ck3⟩ := ba ckM2
    have ck0 : isNo a = false := by simpa using ck0
    have pr := prg_2 (pos := pos2) (p := py) g2 m2 (pe_GE (X := X) (e := e)) (pe_GE (X := X) (e := f)) (star_cons c3 _ _) (star_cons ck1 _ _) (by rw [star_cons ck1]; rfl)
    have go : GE X e σ H fun x H1 => GE X f σ H1 fun y H2 => ∃ i j, x = .int i ∧ y = .int j ∧ RgOk i j ∧ ∀ q, H2 q = none → Wf (upd H2 q (if tp then .tup (rgV i j) else .lst (rgV i j))) → Q (.ref q) (upd H2 q (if tp then .tup (rgV i j) else .lst (rgV i j))) := by
      refine ia X e xo ck2 L μ ρ S σ H _ W hb er sr tk (Po.bind h fun d1 S1 v1 μ1 H1 _ w1 e1 s1 r1 h1 => ?_)
      refine ib X f xo ck3 L μ1 ρ S1 σ H1 _ W hb (er.mono e1) s1 tk (Po.bind h1 fun d2 S2 v2 μ2 H2 _ w2 e2 s2 r2 h2 => ?_)
      obtain ⟨i, j, a1, a2, a3, a4, a5⟩ := fin (one := isNo a) (vx := v1) s2 (fun _ => RD.mono e2 e2.pre _ _ r1) r2 h2
      exact ⟨i, j, a2 ck0, a3, a4, a5⟩
    cases tp with
    | true => exact GE.wf (GE.of (pe_tupRg (pos := pos) (p := px) xo.calm g1 m1 pr (st1 _ _)) go)
    | false => exact GE.wf (GE.of (pe_listRg (pos := pos) (p := px) xo.calm g1 m1 pr (st1 _ _)) go)
/-! ### range(i, j, -1) -/
theorem rgd_len (i j : Int) : (rgdD i j).length = (i - j).toNat := by simp [rgdD]
theorem rgd_get {i j : Int} {n : Nat} {d : D} (h : (rgdD i j)[n]? = some d) : d = .int (i + (n : Nat) * (-1)) := by
  unfold rgdD at h
  rw [List.getElem?_map, Option.map_eq_some_iff] at h
  obtain ⟨m, h1, h2⟩ := h
  obtain ⟨h3, h4⟩ := List.getElem?_eq_some_iff.mp h1
  rw [List.getElem_range] at h4
  rw [← h2, ← h4]
  congr 1
  omega
theorem itD_rgd {K : Fg} {μ : List Addr} {H : Hp} (i j : Int) : ItD K (Itc i (-1) (i - j).toNat) (rgdD i j) μ H := fun μ1 H1 e n => by
  rw [rgd_len]
  refine ⟨fun h => h, fun h => h, fun d x H2 hd y => ?_⟩
  obtain ⟨rfl, rfl⟩ := y
  rw [rgd_get hd]
  exact .inl ⟨rfl, fun μ3 H3 e3 => by simp only [RD]⟩
theorem ckI_rgd {N : List Str} {sc : Scope} {iter : Expr} {a b : Ex} (h : ckI T N (.rgd a b) sc iter = true) : ∃ x p e f p1 p2 p3 pos, iter = .Call (.Name x p) [e, f, .UnaryOp .USub (.Constant (.int 1) p1 p2) p3] [] pos ∧ (ckB T sc x "range" && (noStar e && (noStar f && (ckE T N a sc e && ckE T N b sc f)))) = true := by
  unfold ckI at h
  split at h <;> first | (cases h; done) | skip
  all_goals (rename_i heq; cases heq <;> exact ⟨_, _, _, _, _, _, _, _, rfl, h⟩)
theorem sndI_rgd (a b : Ex) (ia : SndE T C k a) (ib : SndE T C k b) : SndI T C k (.rgd a b) := by
  intro X tg iter xo ck _ L μ ρ S σ H Q W hb er sr tk h
  obtain ⟨x, px, e, e2, p1, p2, p3, pos, rfl, ck⟩ := ckI_rgd ck
  obtain ⟨c1, ck⟩ := ba ck
  obtain ⟨c2, ck⟩ := ba ck
  obtain ⟨c3, ck⟩ := ba ck
  obtain ⟨c4, c5⟩ := ba ck
  obtain ⟨rfl, g, n, m⟩ := ckB_ok xo c1
  have neg : PE X (.UnaryOp .USub (.Constant (.int 1) p1 p2) p3) _ := pe_un un_neg pe_int
  have pa3 := pa_cons (pe_GE (X := X) (e := e)) (pa_cons (pe_GE (X := X) (e := e2)) (pa_cons neg (pa_nil (X := X)) rfl) (star_cons c3 _ _)) (star_cons c2 _ _)
  refine GI.of (pi_range3 (pos := pos) (p := px) g m pa3 (by (rw [star_cons c2, star_cons c3]) <;> rfl) (by (rw [star_cons c3]) <;> rfl)) ?_
  refine ia X e xo c4 L μ ρ S σ H _ W hb er sr tk (PoI.bind h fun d1 S1 v1 μ1 H1 _ w1 e1 s1 r1 h1 => ?_)
  refine ib X e2 xo c5 L μ1 ρ S1 σ H1 _ W hb (er.mono e1) s1 tk (PoI.bind h1 fun d2 S2 v2 μ2 H2 _ w2 e2 s2 r2 h2 => ?_)
  cases d1 <;> (try exact False.elim h2)
  cases d2 <;> (try exact False.elim h2)
  simp only [RD] at r1 r2
  subst r1 r2
  rename_i i _ j _
  have h3 : PoI T.tb X L μ2 σ H2 Q W (if small62 i && small62 j && decide (i - j ≤ lim) then .ok (rgdD i j) S2 else .fl) := h2
  by_cases hc : (small62 i && small62 j && decide (i - j ≤ lim)) = true
  · rw [if_pos hc] at h3
    obtain ⟨c6, c7⟩ := ba hc
    obtain ⟨c8, c9⟩ := ba c6
    obtain ⟨b1, b2⟩ := small62_ok c8
    obtain ⟨b3, b4⟩ := small62_ok c9
    refine ⟨1, rfl, i, j, -1, (i - j).toNat, rfl, RgC.neg b1 b2 b3 b4, PoI.here h3 s2 w2 (itD_rgd _ _) (by
      have := of_decide_eq_true c7
      rw [rgd_len]
      omega)⟩
  · rw [if_neg hc] at h3
    exact False.elim h3
end
end EV
/-! EV13d: x.pop(i). -/
namespace EV
open PySem PySem.Spec PyProof.Rows L2
theorem RDs.erase {K : Fg} {ν μ : List Addr} {H : Hp} : ∀ (n : Nat) {ds : List D} {vs : List V}, RDs K ν μ H ds vs → RDs K ν μ H (ds.eraseIdx n) (vs.eraseIdx n)
  | n, [], vs, h => by simp only [RDs] at h; subst h; exact .nil
  | 0, d :: ds, vs, h => by
    simp only [RDs] at h
    obtain ⟨x, r, e1, h1, h2⟩ := h
    subst e1
    exact h2
  | n + 1, d :: ds, vs, h => by
    simp only [RDs] at h
    obtain ⟨x, r, e1, h1, h2⟩ := h
    subst e1
    exact .cons h1 (RDs.erase n h2)
theorem SR.atp {K : Fg} {L : Nat → Option Nat} {μ : List Addr} {H : Hp} {S : Store} (s : SR K L μ S H) {n : Nat} {a : Addr} (ha : μ[n]? = some a) : CR_ K (fun _ => none) (cutL L n μ) μ H a (S.getD n .non) := by
  have hn : n < S.length := by rw [← s.len]; exact (List.getElem?_eq_some_iff.mp ha).1
  have hs := List.getElem?_eq_getElem hn
  have c := s.cell n _ a hs ha
  rwa [List.getD_eq_getElem?_getD, hs]
section
variable {T : Sta} {C : Cl} {k : Nat}
theorem snd_pop (a i : Ex) (ia : SndE T C k a) (ib : SndE T C k i) : SndE T C k (.pop a i) := by
  intro X x xo ck L μ ρ S σ H Q W hb er sr tk h
  cases x <;> (try simp only [ckE, Bool.false_eq_true] at ck)
  rename_i f es kws cp
  cases f <;> (try simp only [ckE, Bool.false_eq_true] at ck)
  rename_i o m ap
  rcases es with _ | ⟨v, _ | ⟨_, _⟩⟩ <;> cases kws <;> (try simp only [ckE, Bool.false_eq_true] at ck)
  obtain ⟨c1, ck⟩ := ba ck
  obtain ⟨c2, ck⟩ := ba ck
  obtain ⟨c3, ck⟩ := ba ck
  obtain ⟨c4, ck⟩ := ba ck
  obtain ⟨c5, c6⟩ := ba ck
  have em : m = "pop" := of_decide_eq_true c1
  subst em
  have hat : attributeBase o "pop" X.env (eval o X.env) = eval o X.env := by
    cases o <;> first | rfl | cases c2
  have hfew : ((backTo cp (starEach [v] X.env)).all (fun x => !x.1) && (backToKw cp (keywordEach [] X.env)).all (fun x => x.1.isSome)
      && decide ([v].length + ([] : List Keyword).length + (if ([] : List Keyword).isEmpty then 0 else 1) < 30)) = true := by
    rw [star_cons c4]; rfl
  refine GE.wf (GE.of (pe_bm PySem.F.plainAttrs_list PySem.F.slot_list_pop PySem.F.type_list_pop mt_popAt (pe_GE (e := o)) (pa_GA (es := [v])) hat hfew c3 (star_cons c4 _ _)) ?_)
  refine ia X o xo c5 L μ ρ S σ H _ W hb er sr tk (Po.bind h fun d1 S1 v1 μ1 H1 _ w1 e1 s1 r1 h1 => ?_)
  have er1 := er.mono e1
  have h1' : Po T.tb X L μ1 σ H1 Q W (match dr S1 d1 with
    | .lst _ => (ev C i ρ S1).bind fun y S2 => popD d1 y S2
    | _ => .fl) := h1
  generalize qd : dr S1 d1 = z at h1'
  cases z <;> (try exact False.elim h1')
  rename_i ds
  obtain ⟨p, vs, rfl, g1, g2⟩ := (s1.look r1).1 _ qd
  refine ⟨.inl ⟨rfl, vs, .of g1⟩, ga_one c4 ?_⟩
  refine ib X v xo c6 L μ1 ρ S1 σ H1 _ W hb er1 s1 tk (Po.bind h1' fun d2 S2 v2 μ2 H2 _ w2 e2 s2 r2 h2 => ?_)
  have r1 := RD.mono e2 e2.pre _ _ r1
  unfold popD at h2
  obtain ⟨n, rfl⟩ : ∃ n, d1 = .loc n := by cases d1 <;> first | exact ⟨_, rfl⟩ | exact False.elim h2
  obtain ⟨j, rfl⟩ : ∃ j, d2 = .int j := by cases d2 <;> first | exact ⟨_, rfl⟩ | exact False.elim h2
  simp only [RD] at r1 r2
  obtain ⟨a', e3, ha⟩ := r1
  cases e3
  subst r2
  have c := s2.atp ha
  dsimp only at h2
  generalize S2.getD n .non = z at h2 c
  cases z <;> (try exact False.elim h2)
  rename_i ds2
  obtain ⟨ws, k1, k2⟩ := c
  dsimp only at h2
  cases qi : ixN ds2.length j with
  | none => rw [qi] at h2; exact False.elim h2
  | some kk =>
    rw [qi] at h2
    dsimp only at h2
    cases qk : ds2[kk]? with
    | none => rw [qk] at h2; exact False.elim h2
    | some d =>
      rw [qk] at h2
      obtain ⟨y, y1, y2⟩ := k2.at_ qk
      have m : p ∈ μ2 := List.mem_of_getElem? ha
      have ex : Ext μ2 H2 μ2 (upd H2 p (.lst (ws.eraseIdx kk))) := .write m
      have cutp : ∀ (i : Nat) a, (cutL L n μ2)[i]? = some a → μ2[i]? = some a := fun i a h => by
        unfold cutL at h
        cases e : L n with
        | none => rw [e] at h; exact h
        | some m =>
          rw [e] at h
          simp only [List.getElem?_take] at h
          split at h
          · exact h
          · cases h
      have rd : RD X.K μ2 μ2 (upd H2 p (.lst (ws.eraseIdx kk))) d y := RD.mono ex cutp _ _ y2
      have sw : SR X.K L μ2 (S2.set n (.lst (ds2.eraseIdx kk))) (upd H2 p (.lst (ws.eraseIdx kk))) := s2.write ha ⟨_, upd_same, RDs.erase kk (RDs.mono ex (fun _ _ h => h) _ _ k2)⟩
      have ln : ds2.length ≤ sizeLine := by
        have := w2.lst k1
        rwa [k2.length] at this
      obtain ⟨q1, q2, q3, q4⟩ := ixN_seq qi
      have l2 : ds2.length ≤ 16777216 := by
        rw [← lim_eq] at ln
        exact Nat.le_trans ln (by decide)
      exact ⟨p, ws, j, kk, y, rfl, rfl, k1, by omega, by omega, by rw [k2.length]; exact q1, y1, fun w => h2 y μ2 _ w ex sw rd⟩
end
end EV
/-! EV13e: x.index(y). -/
namespace EV
open PySem PySem.Spec PyProof.Rows L2
theorem firstEq_ok {d : PyData} : ∀ {ds : List PyData} {j : Nat}, firstEq d ds = some j → ∃ z, ds[j]? = some z ∧ PyData.eqv z d = true ∧ ∀ (m : Nat) (z' : PyData), m < j → ds[m]? = some z' → PyData.eqv z' d = false
  | [], j, h => by cases h
  | x :: ds, j, h => by
    unfold firstEq at h
    by_cases q : PyData.eqv x d = true
    · rw [if_pos q] at h
      cases h
      exact ⟨x, rfl, q, fun m z' hm => absurd hm (Nat.not_lt_zero _)⟩
    · rw [if_neg q] at h
      rw [Option.map_eq_some_iff] at h
      obtain ⟨i, hi, rfl⟩ := h
      obtain ⟨z, h1, h2, h3⟩ := firstEq_ok hi
      refine ⟨z, h1, h2, fun m z' hm e => ?_⟩
      cases m with
      | zero =>
        cases e
        simpa using q
      | succ m => exact h3 m z' (by omega) e
section
variable {T : Sta} {C : Cl} {k : Nat}
theorem snd_idf (tp : Bool) (a i : Ex) (ia : SndE T C k a) (ib : SndE T C k i) : SndE T C k (.idf tp a i) := by
  intro X x xo ck L μ ρ S σ H Q W hb er sr tk h
  cases tp with
  | true => exact absurd ck (by unfold ckE; simp only [Bool.false_eq_true, not_false_eq_true])
  | false =>
  cases x <;> (try simp only [ckE, Bool.false_eq_true] at ck)
  rename_i f es kws cp
  cases f <;> (try simp only [ckE, Bool.false_eq_true] at ck)
  rename_i o m ap
  rcases es with _ | ⟨v, _ | ⟨_, _⟩⟩ <;> cases kws <;> (try simp only [ckE, Bool.false_eq_true] at ck)
  obtain ⟨c1, ck⟩ := ba ck
  obtain ⟨c2, ck⟩ := ba ck
  obtain ⟨c3, ck⟩ := ba ck
  obtain ⟨c4, ck⟩ := ba ck
  obtain ⟨c5, c6⟩ := ba ck
  have em : m = "index" := of_decide_eq_true c1
  subst em
  have hat : attributeBase o "index" X.env (eval o X.env) = eval o X.env := by
    cases o <;> first | rfl | cases c2
  have hfew : ((backTo cp (starEach [v] X.env)).all (fun x => !x.1) && (backToKw cp (keywordEach [] X.env)).all (fun x => x.1.isSome)
      && decide ([v].length + ([] : List Keyword).length + (if ([] : List Keyword).isEmpty then 0 else 1) < 30)) = true := by
    rw [star_cons c4]; rfl
  have hu : X.A.units + 65 < cLine := xo.un
  have fin : ∀ {μ2 : List Addr} {H2 : Hp} {S2 : Store} {d1 d2 : D} {v1 v2 : V}, SR X.K L μ2 S2 H2 → RD X.K μ2 μ2 H2 d1 v1 → RD X.K μ2 μ2 H2 d2 v2 → Po T.tb X L μ2 σ H2 Q W (R.of (idfD false S2 d1 d2) S2) → Wf H2 →
      ∃ ds d, Dp X.K H2 v1 (.list ds) ∧ Dp X.K H2 v2 d ∧ SeqAt.shaped (.list ds) = true ∧ SeqAt.shaped d = true ∧ ∃ j z, ds[j]? = some z ∧ PyData.eqv z d = true ∧ (∀ (m : Nat) (z' : PyData), m < j → ds[m]? = some z' → PyData.eqv z' d = false) ∧ Q (.int (j : Nat)) H2 := by
    intro μ2 H2 S2 d1 d2 v1 v2 s2 r1 r2 h2 w2
    obtain ⟨d, e, h3⟩ := h2.opt
    unfold idfD at e
    have py_ : ∀ {x : D} {p : PyData}, pyS S2 x = some p → (dr S2 x).py = some p ∧ shapedD p = true := by
      intro x p h
      unfold pyS at h
      split at h
      · rename_i p' hp
        split at h
        · rename_i hs
          cases h
          exact ⟨hp, hs⟩
        · cases h
      · cases h
    split at e
    · rename_i ds d' q1 q2
      simp only [Bool.false_eq_true, if_false, Option.map_eq_some_iff] at e ⊢
      obtain ⟨j, hj, rfl⟩ := e
      obtain ⟨z, h1, h2, h3'⟩ := firstEq_ok hj
      exact ⟨ds, d', s2.dp r1 (py_ q1).1, s2.dp r2 (py_ q2).1, (py_ q1).2, (py_ q2).2, j, z, h1, h2, h3', h3.here s2 (.i _) w2⟩
    · cases e
    · cases e
  refine GE.wf (GE.of (pe_bm PySem.F.plainAttrs_list PySem.F.slot_list_index PySem.F.type_list_index (mt_indexD hu) (pe_GE (e := o)) (pa_GA (es := [v])) hat hfew c3 (star_cons c4 _ _)) ?_)
  refine ia X o xo c5 L μ ρ S σ H _ W hb er sr tk (Po.bind h fun d1 S1 v1 μ1 H1 _ w1 e1 s1 r1 h1 => ?_)
  have er1 := er.mono e1
  have h1' : Po T.tb X L μ1 σ H1 Q W (if seqB false (dr S1 d1) = true then (ev C i ρ S1).bind fun y S2 => R.of (idfD false S2 d1 y) S2 else .fl) := h1
  split at h1'
  · rename_i hq
    generalize qd : dr S1 d1 = z at hq
    cases z <;> (try (cases hq; done))
    rename_i ds
    obtain ⟨p, vs, rfl, g1, g2⟩ := (s1.look r1).1 _ qd
    refine ⟨.inl ⟨rfl, vs, .of g1⟩, ga_one c4 ?_⟩
    refine ib X v xo c6 L μ1 ρ S1 σ H1 _ W hb er1 s1 tk (Po.bind h1' fun d2 S2 v2 μ2 H2 _ w2 e2 s2 r2 h2 => ?_)
    obtain ⟨ds, d, k1, k2, k3, k4, j, z, k5, k6, k7, k8⟩ := fin s2 (RD.mono e2 e2.pre _ _ r1) r2 h2 w2
    exact ⟨p, v2, d, ds, j, z, rfl, rfl, k1, k2, k3, k4, k5, k6, k7, fun _ => k8⟩
  · exact False.elim h1'
end
end EV
/-! EV13f: tuple(range(i, j, -1)). -/
namespace EV
open PySem PySem.Spec PyProof.Rows L2
theorem rgVd_rd {K : Fg} {μ : List Addr} {H : Hp} (i j : Int) : RDs K μ μ H (rgdD i j) (rgVd i j) := by
  unfold rgdD rgVd
  generalize List.range (i - j).toNat = l
  induction l with
  | nil => exact .nil
  | cons n l ih => exact .cons (by simp only [RD]; congr 1; omega) ih
section
variable {T : Sta} {C : Cl} {k : Nat}
theorem ckE_rgt {N : List Str} {sc : Scope} {x : Expr} {a b : Ex} (h : ckE T N (.rgt a b) sc x = true) : ∃ y py x1 px e f p1 p2 p3 pos2 pos, x = .Call (.Name y py) [.Call (.Name x1 px) [e, f, .UnaryOp .USub (.Constant (.int 1) p1 p2) p3] [] pos2] [] pos ∧ (ckB T sc y "tuple" && (ckB T sc x1 "range" && (noStar e && (noStar f && (ckE T N a sc e && ckE T N b sc f))))) = true := by
  unfold ckE at h
  split at h <;> first | (cases h; done) | skip
  all_goals (rename_i heq; cases heq <;> exact ⟨_, _, _, _, _, _, _, _, _, _, _, rfl, h⟩)
theorem snd_rgt (a b : Ex) (ia : SndE T C k a) (ib : SndE T C k b) : SndE T C k (.rgt a b) := by
  intro X x xo ck L μ ρ S σ H Q W hb er sr tk h
  obtain ⟨y, py, x1, px, e, e2, p1, p2, p3, pos2, pos, rfl, ck⟩ := ckE_rgt ck
  obtain ⟨c0, ck⟩ := ba ck
  obtain ⟨c1, ck⟩ := ba ck
  obtain ⟨c2, ck⟩ := ba ck
  obtain ⟨c3, ck⟩ := ba ck
  obtain ⟨c4, c5⟩ := ba ck
  obtain ⟨rfl, g0, n0, m0⟩ := ckB_ok xo c0
  obtain ⟨rfl, g, n, m⟩ := ckB_ok xo c1
  have neg : PE X (.UnaryOp .USub (.Constant (.int 1) p1 p2) p3) _ := pe_un un_neg pe_int
  have pa3 := pa_cons (pe_GE (X := X) (e := e)) (pa_cons (pe_GE (X := X) (e := e2)) (pa_cons neg (pa_nil (X := X)) rfl) (star_cons c3 _ _)) (star_cons c2 _ _)
  refine GE.wf (GE.of (pe_tupDown (p := py) (p2 := px) (pos2 := pos2) (pos := pos) xo.calm g0 m0 g m pa3 (by (rw [star_cons c2, star_cons c3]) <;> rfl) (by (rw [star_cons c3]) <;> rfl)) ?_)
  refine ia X e xo c4 L μ ρ S σ H _ W hb er sr tk (Po.bind h fun d1 S1 v1 μ1 H1 _ w1 e1 s1 r1 h1 => ?_)
  refine ib X e2 xo c5 L μ1 ρ S1 σ H1 _ W hb (er.mono e1) s1 tk (Po.bind h1 fun d2 S2 v2 μ2 H2 _ w2 e2 s2 r2 h2 => ?_)
  obtain ⟨d, e3, h3⟩ := h2.opt
  obtain ⟨i, rfl⟩ : ∃ i, d1 = .int i := by cases d1 <;> first | exact ⟨_, rfl⟩ | (cases e3)
  obtain ⟨j, rfl⟩ : ∃ j, d2 = .int j := by cases d2 <;> first | exact ⟨_, rfl⟩ | (cases e3)
  have e4 : (if (small62 i && small62 j && decide (i - j ≤ lim)) = true then some (D.tup (rgdD i j)) else none) = some d := e3
  simp only [RD] at r1 r2
  subst r1 r2
  by_cases hc : (small62 i && small62 j && decide (i - j ≤ lim)) = true
  · rw [if_pos hc] at e4
    cases e4
    obtain ⟨c6, c7⟩ := ba hc
    obtain ⟨c8, c9⟩ := ba c6
    have := of_decide_eq_true c7
    refine ⟨1, rfl, i, j, rfl, small62_ok c8, small62_ok c9, ?_, fun q hq w => ?_⟩
    · have hl : (lim : Int) = 16777216 := rfl
      omega
    · exact h3 _ μ2 _ w (.laid hq) (s2.laid hq) (.newT s2 hq (rgVd_rd i j))
  · rw [if_neg hc] at e4
    cases e4
end
end EV
/-! EV14: all expressions. -/
namespace EV
open PySem PySem.Spec PyProof.Rows L2
structure All (T : Sta) (C : Cl) (k : Nat) (x : Ex) : Prop where
  e : SndE T C k x
  l : SndL T C k x
  t : SndT T C k x
  i : SndI T C k x
  kw : SndK T C k x
  n : isNew x = true → SndN T C k x
  c : isCat x = true → SndE T C k (.fr x)
section
variable {T : Sta} {C : Cl} {k : Nat} {x : Ex}
theorem sndE_not (h : ∀ N sc e, ckE T N x sc e = false) : SndE T C k x := fun X e _ ck => by rw [h] at ck; cases ck
theorem sndT_not (h : ∀ N sc e, ckE T N x sc e = false) : SndT T C k x := fun X e _ ck => by rw [h] at ck; cases ck
theorem sndL_not (h : ∀ N sc e, ckL T N x sc e = false) : SndL T C k x := fun X e _ ck => by rw [h] at ck; cases ck
theorem sndI_not (h : ∀ N sc e, ckI T N x sc e = false) : SndI T C k x := fun X tg e _ ck => by rw [h] at ck; cases ck
/-- an expression that is a value alone -/
theorem All.of_e (he : SndE T C k x) (hl : ∀ N sc e, ckL T N x sc e = false) (hi : ∀ N sc e, ckI T N x sc e = false) (ht : SndT T C k x) (hn : isNew x = true → SndN T C k x) (hc : isCat x = true → SndE T C k (.fr x) := by intro h; cases h) : All T C k x :=
  ⟨he, sndL_not hl, ht, sndI_not hi, sndK_not hl, hn, hc⟩
theorem All.of_l (he : ∀ N sc e, ckE T N x sc e = false) (hi : ∀ N sc e, ckI T N x sc e = false) (hl : SndL T C k x) (hk : SndK T C k x) (hn : isNew x = false) (hc : isCat x = true → SndE T C k (.fr x) := by intro h; cases h) : All T C k x :=
  ⟨sndE_not he, hl, sndT_not he, sndI_not hi, hk, (fun h => by rw [hn] at h; cases h), hc⟩
theorem All.of_i (he : ∀ N sc e, ckE T N x sc e = false) (hl : ∀ N sc e, ckL T N x sc e = false) (hi : SndI T C k x) (hn : isNew x = false) (hc : isCat x = true → SndE T C k (.fr x) := by intro h; cases h) : All T C k x :=
  ⟨sndE_not he, sndL_not hl, sndT_not he, hi, sndK_not hl, (fun h => by rw [hn] at h; cases h), hc⟩
end
section
variable {T : Sta} {C : Cl} {k : Nat}
theorem pl_of {x : Ex} (h : ∀ (N : List Str) (sc : Scope) (e : Expr), ckE T N x sc e = true → plainT e = true) (ix : SndE T C k x) : SndT T C k x := sndT_of ix fun X e ck => h _ _ e ck
theorem star_no {N : List Str} {sc : Scope} {a as : Ex} : True := trivial
theorem nw {x : Ex} {a : Prop} (h : isNew x = false) : isNew x = true → a := fun q => by rw [h] at q; cases q
theorem sndK_star (a as : Ex) : SndK T C k (.star a as) := by
  intro X kws names es _ _ ck st
  rcases es with _ | ⟨e, es⟩ <;> (try simp only [ckL, Bool.false_eq_true] at ck)
  cases e <;> (try simp only [ckL, Bool.false_eq_true] at ck)
  rw [List.all_cons] at st
  exact absurd (ba st).1 Bool.false_ne_true
theorem ck_fr {N : List Str} {sc : Scope} {a : Ex} {e : Expr} (h : ckE T N (.fr a) sc e = true) : plainT e = true := by
  simp only [ckE] at h
  obtain ⟨h1, h2⟩ := ba h
  cases a <;> (try (simp only [isNew, isCat, Bool.or_self, Bool.false_eq_true] at h1; done)) <;> (cases e <;> first | rfl | (simp only [ckE, Bool.false_eq_true] at h2; done))
theorem sndAll : ∀ x : Ex, All T C k x
  | .v i => .of_e (snd_v i) (fun _ _ _ => rfl) (fun _ _ _ => rfl) (pl_of (fun N sc e h => by cases e <;> first | rfl | simp only [ckE, Bool.false_eq_true] at h) (snd_v i)) (nw rfl)
  | .k d => .of_e (snd_k d) (fun _ _ _ => rfl) (fun _ _ _ => rfl) (pl_of (fun N sc e h => by cases e <;> first | rfl | simp only [ckE, Bool.false_eq_true] at h) (snd_k d)) (nw rfl)
  | .gc y d => .of_e (snd_gc y d) (fun _ _ _ => rfl) (fun _ _ _ => rfl) (pl_of (fun N sc e h => by cases e <;> first | rfl | simp only [ckE, Bool.false_eq_true] at h) (snd_gc y d)) (nw rfl)
  | .un o a => .of_e (snd_un o a (sndAll a).e) (fun _ _ _ => rfl) (fun _ _ _ => rfl) (sndT_un o a (sndAll a).e (sndAll a).t) (nw rfl)
  | .bi o a b => .of_e (snd_bi o a b (sndAll a).e (sndAll b).e) (fun _ _ _ => rfl) (fun _ _ _ => rfl) (pl_of (fun N sc e h => by cases e <;> first | rfl | simp only [ckE, Bool.false_eq_true] at h) (snd_bi o a b (sndAll a).e (sndAll b).e)) (nw rfl) (snd_frcat o a b (sndAll a).e (sndAll b).e)
  | .cm o a b => .of_e (snd_cm o a b (sndAll a).e (sndAll b).e) (fun _ _ _ => rfl) (fun _ _ _ => rfl) (sndT_cm o a b (sndAll a).e (sndAll b).e) (nw rfl)
  | .cm2 o p a b c => .of_e (snd_cm2 o p a b c (sndAll a).e (sndAll b).e (sndAll c).e) (fun _ _ _ => rfl) (fun _ _ _ => rfl) (sndT_cm2 o p a b c (sndAll a).e (sndAll b).e (sndAll c).e) (nw rfl)
  | .cm3 o p q a b c d => .of_e (snd_cm3 o p q a b c d (sndAll a).e (sndAll b).e (sndAll c).e (sndAll d).e) (fun _ _ _ => rfl) (fun _ _ _ => rfl) (sndT_cm3 o p q a b c d (sndAll a).e (sndAll b).e (sndAll c).e (sndAll d).e) (nw rfl)
  | .rgl tp a b => .of_e (snd_rgl tp a b (sndAll a).e (sndAll b).e) (fun _ _ _ => rfl) (fun _ _ _ => rfl) (pl_of (fun N sc e h => by cases e <;> first | rfl | simp only [ckE, Bool.false_eq_true] at h) (snd_rgl tp a b (sndAll a).e (sndAll b).e)) (nw rfl)
  | .rgd a b => .of_i (fun _ _ _ => rfl) (fun _ _ _ => rfl) (sndI_rgd a b (sndAll a).e (sndAll b).e) rfl
  | .pop a i => .of_e (snd_pop a i (sndAll a).e (sndAll i).e) (fun _ _ _ => rfl) (fun _ _ _ => rfl) (pl_of (fun N sc e h => by cases e <;> first | rfl | simp only [ckE, Bool.false_eq_true] at h) (snd_pop a i (sndAll a).e (sndAll i).e)) (nw rfl)
  | .rgt a i => .of_e (snd_rgt a i (sndAll a).e (sndAll i).e) (fun _ _ _ => rfl) (fun _ _ _ => rfl) (pl_of (fun N sc e h => by cases e <;> first | rfl | simp only [ckE, Bool.false_eq_true] at h) (snd_rgt a i (sndAll a).e (sndAll i).e)) (nw rfl)
  | .idf tp a i => .of_e (snd_idf tp a i (sndAll a).e (sndAll i).e) (fun _ _ _ => rfl) (fun _ _ _ => rfl) (pl_of (fun N sc e h => by cases e <;> first | rfl | simp only [ckE, Bool.false_eq_true] at h) (snd_idf tp a i (sndAll a).e (sndAll i).e)) (nw rfl)
  | .an a b => .of_e (snd_an a b (sndAll a).e (sndAll b).e) (fun _ _ _ => rfl) (fun _ _ _ => rfl) (sndT_an a b (sndAll a).t (sndAll b).t) (nw rfl)
  | .orr a b => .of_e (snd_or a b (sndAll a).e (sndAll b).e) (fun _ _ _ => rfl) (fun _ _ _ => rfl) (sndT_or a b (sndAll a).t (sndAll b).t) (nw rfl)
  | .ite c a b => .of_e (snd_ite c a b (sndAll c).t (sndAll a).e (sndAll b).e) (fun _ _ _ => rfl) (fun _ _ _ => rfl) (sndT_ite c a b (sndAll c).t (sndAll a).t (sndAll b).t) (nw rfl)
  | .tu as => .of_e (snd_tu as (sndAll as).l) (fun _ _ _ => rfl) (fun _ _ _ => rfl) (pl_of (fun N sc e h => by cases e <;> first | rfl | simp only [ckE, Bool.false_eq_true] at h) (snd_tu as (sndAll as).l)) (nw rfl)
  | .li as => .of_e (snd_li as (sndAll as).l) (fun _ _ _ => rfl) (fun _ _ _ => rfl) (pl_of (fun N sc e h => by cases e <;> first | rfl | simp only [ckE, Bool.false_eq_true] at h) (snd_li as (sndAll as).l)) (fun _ => sndN_li as (sndAll as).l)
  | .nil => .of_l (fun _ _ _ => rfl) (fun _ _ _ => rfl) snd_nil sndK_nil rfl
  | .cons a as => .of_l (fun _ _ _ => rfl) (fun _ _ _ => rfl) (snd_cons a as (sndAll a).e (sndAll as).l) (sndK_cons a as (sndAll a).e (sndAll as).kw) rfl
  | .star a as => .of_l (fun _ _ _ => rfl) (fun _ _ _ => rfl) (snd_star a as (sndAll a).e (sndAll as).l) (sndK_star a as) rfl
  | .ix a i => .of_e (snd_ix a i (sndAll a).e (sndAll i).e) (fun _ _ _ => rfl) (fun _ _ _ => rfl) (pl_of (fun N sc e h => by cases e <;> first | rfl | simp only [ckE, Bool.false_eq_true] at h) (snd_ix a i (sndAll a).e (sndAll i).e)) (nw rfl)
  | .sl a lo hi => .of_e (snd_sl a lo hi (sndAll a).e (sndAll lo).e (sndAll hi).e) (fun _ _ _ => rfl) (fun _ _ _ => rfl) (pl_of (fun N sc e h => by cases e <;> first | rfl | simp only [ckE, Bool.false_eq_true] at h) (snd_sl a lo hi (sndAll a).e (sndAll lo).e (sndAll hi).e)) (nw rfl)
  | .no => ⟨sndE_not (fun _ _ _ => rfl), sndL_not (fun _ _ _ => rfl), sndT_not (fun _ _ _ => rfl), sndI_not (fun _ _ _ => rfl), sndK_not (fun _ _ _ => rfl), nw rfl, (fun h => by cases h)⟩
  | .rv a => .of_e (snd_rv a (sndAll a).e) (fun _ _ _ => rfl) (fun _ _ _ => rfl) (pl_of (fun N sc e h => by cases e <;> first | rfl | simp only [ckE, Bool.false_eq_true] at h) (snd_rv a (sndAll a).e)) (nw rfl)
  | .cal f as => .of_e (snd_cal f as (sndAll as).l) (fun _ _ _ => rfl) (fun _ _ _ => rfl) (pl_of (fun N sc e h => by cases e <;> first | rfl | simp only [ckE, Bool.false_eq_true] at h) (snd_cal f as (sndAll as).l)) (nw rfl)
  | .calz f as => .of_e (snd_calz f as (sndAll as).l) (fun _ _ _ => rfl) (fun _ _ _ => rfl) (pl_of (fun N sc e h => by cases e <;> first | rfl | simp only [ckE, Bool.false_eq_true] at h) (snd_calz f as (sndAll as).l)) (nw rfl)
  | .calk f as ks ns perm => .of_e (snd_calk f as ks ns perm (sndAll as).l (sndAll ks).kw) (fun _ _ _ => rfl) (fun _ _ _ => rfl) (pl_of (fun N sc e h => by cases e <;> first | rfl | simp only [ckE, Bool.false_eq_true] at h) (snd_calk f as ks ns perm (sndAll as).l (sndAll ks).kw)) (nw rfl)
  | .pr p as => .of_e (snd_pr p as (sndAll as).l) (fun _ _ _ => rfl) (fun _ _ _ => rfl) (pl_of (fun N sc e h => by cases e <;> first | rfl | simp only [ckE, Bool.false_eq_true] at h) (snd_pr p as (sndAll as).l)) (fun h => by
      cases p <;> first | exact sndN_list as (sndAll as).l | cases h)
  | .isi a cs => .of_e (snd_isi a cs (sndAll a).e) (fun _ _ _ => rfl) (fun _ _ _ => rfl) (pl_of (fun N sc e h => by cases e <;> first | rfl | simp only [ckE, Bool.false_eq_true] at h) (snd_isi a cs (sndAll a).e)) (nw rfl)
  | .lc t own s c e => .of_e (snd_of_N (sndN_lc t own s c e (sndAll s).i (sndAll c).t (sndAll e).e)) (fun _ _ _ => rfl) (fun _ _ _ => rfl) (pl_of (fun N sc e h => by cases e <;> first | rfl | simp only [ckE, Bool.false_eq_true] at h) (snd_of_N (sndN_lc t own s c e (sndAll s).i (sndAll c).t (sndAll e).e))) (fun _ => sndN_lc t own s c e (sndAll s).i (sndAll c).t (sndAll e).e)
  | .rg1 a => .of_i (fun _ _ _ => rfl) (fun _ _ _ => rfl) (sndI_rg1 a (sndAll a).e) rfl
  | .rg2 a b => .of_i (fun _ _ _ => rfl) (fun _ _ _ => rfl) (sndI_rg2 a b (sndAll a).e (sndAll b).e) rfl
  | .en a => .of_i (fun _ _ _ => rfl) (fun _ _ _ => rfl) (sndI_en a (sndAll a).e) rfl
  | .zp a b => .of_i (fun _ _ _ => rfl) (fun _ _ _ => rfl) (sndI_zp a b (sndAll a).e (sndAll b).e) rfl
  | .fr a => .of_e (snd_fr a (sndAll a).n (sndAll a).c) (fun _ _ _ => rfl) (fun _ _ _ => rfl) (pl_of (fun N sc e h => ck_fr h) (snd_fr a (sndAll a).n (sndAll a).c)) (nw rfl)
  | .it a => .of_i (fun _ _ _ => rfl) (fun _ _ _ => rfl) (sndI_it a (sndAll a).e) rfl
  | .bad => .of_e (fun X e xo ck L μ ρ S σ H Q W hb er sr tk h => False.elim h) (fun _ _ _ => rfl) (fun _ _ _ => rfl) (fun X e xo ck L μ ρ S σ H Q W hb er sr tk h => False.elim h) (nw rfl)
  | .yes => .of_e snd_yes (fun _ _ _ => rfl) (fun _ _ _ => rfl) (sndT_not (fun _ _ _ => rfl)) (nw rfl)
end
end EV
/-! EV15: statements. -/
namespace EV
open PySem PySem.Spec PyProof.Rows L2
def PoS (tb : Tab) (X : Cx) (L : Nat → Option Nat) (μ : List Addr) (H : Hp) (E : Ends) (W : WX) : RS → Prop
  | .nx ρ S => ∀ σ' μ' H', Ext μ H μ' H' → SR X.K L μ' S H' → ER X.K μ' H' ρ σ' → E.nx σ' H'
  | .bk ρ S => ∀ σ' μ' H', Ext μ H μ' H' → SR X.K L μ' S H' → ER X.K μ' H' ρ σ' → E.bk σ' H'
  | .ct ρ S => ∀ σ' μ' H', Ext μ H μ' H' → SR X.K L μ' S H' → ER X.K μ' H' ρ σ' → E.ct σ' H'
  | .rt d _ S => ∀ v μ' H', Ext μ H μ' H' → SR X.K L μ' S H' → RD X.K μ' μ' H' d v → E.rt v H'
  | .er e ρ S => ∀ c dd σ' μ' H', Ext μ H μ' H' → SR X.K L μ' S H' → ER X.K μ' H' ρ σ' → ErR tb X.mg X.K e c dd H' → W c dd σ' H'
  | .fl => False
structure XS (X : Cx) : Prop where
  fn : ∀ x, X.env.scope.names.lookup x = some .cell → X.fn x = true
  po : PassesOwn (model X.prog X.w) X.A X.env X.xe
  st : X.stack = X.env :: X.outer
  fr : X.env.frame = some X.env.locals
section
variable (T : Sta) (C : Cl) (k : Nat)
def SndS (s : Sm) : Prop := ∀ (X : Cx) (st : Stmt), XOk T C k X → XS X → ckS T X.N s X.env.scope st = true → ∀ (L : Nat → Option Nat) (μ : List Addr) (ρ : Env) (S : Store) (σ : L2.St) (H : Hp) (E : Ends) (W : WX),
  (∀ n, C.base ≤ n → L n = none) → ER X.K μ H ρ σ → SR X.K L μ S H → Takes X W → PoS T.tb X L μ H E W (evS C s ρ S) → GS X st E σ H
def SndSs (s : Sm) : Prop := ∀ (X : Cx) (st : List Stmt), XOk T C k X → XS X → ckSs T X.N s X.env.scope st = true → ∀ (L : Nat → Option Nat) (μ : List Addr) (ρ : Env) (S : Store) (σ : L2.St) (H : Hp) (E : Ends) (W : WX),
  (∀ n, C.base ≤ n → L n = none) → ER X.K μ H ρ σ → SR X.K L μ S H → Takes X W → PoS T.tb X L μ H E W (evS C s ρ S) → GSs X st E σ H
end
section
variable {tb : Tab} {X : Cx} {L : Nat → Option Nat} {μ μ1 : List Addr} {σ : L2.St} {H H1 : Hp} {W : WX} {E : Ends} {ρ : Env}
theorem PoS.mono {r : RS} (e : Ext μ H μ1 H1) (h : PoS tb X L μ H E W r) : PoS tb X L μ1 H1 E W r := by
  cases r with
  | fl => exact h
  | nx ρ S => exact fun σ' μ' H' e2 => h σ' μ' H' (e.trans e2)
  | bk ρ S => exact fun σ' μ' H' e2 => h σ' μ' H' (e.trans e2)
  | ct ρ S => exact fun σ' μ' H' e2 => h σ' μ' H' (e.trans e2)
  | rt d ρ S => exact fun v μ' H' e2 => h v μ' H' (e.trans e2)
  | er x ρ S => exact fun c dd σ' μ' H' e2 => h c dd σ' μ' H' (e.trans e2)
theorem PoS.bind {Q1 : VK} {r : R D} {f : D → Store → RS} (er : ER X.K μ H ρ σ) (h : PoS tb X L μ H E W (r.then ρ f))
    (k : ∀ d S1 v μ1 H1, r = .ok d S1 → Wf H1 → Ext μ H μ1 H1 → SR X.K L μ1 S1 H1 → RD X.K μ1 μ1 H1 d v → PoS tb X L μ1 H1 E W (f d S1) → Q1 v H1) : Po tb X L μ σ H Q1 W r := by
  cases r with
  | fl => exact h
  | er e S => exact fun c dd μ' H' e2 s2 q => h c dd σ μ' H' e2 s2 (er.mono e2) q
  | ok d S => exact fun v μ1 H1 w e s r => k d S v μ1 H1 rfl w e s r (PoS.mono e h)
theorem PoS.bindA {Q1 : List V → Hp → Prop} {r : R (List D)} {f : List D → Store → RS} (er : ER X.K μ H ρ σ) (h : PoS tb X L μ H E W (r.then ρ f))
    (k : ∀ d S1 v μ1 H1, r = .ok d S1 → Wf H1 → Ext μ H μ1 H1 → SR X.K L μ1 S1 H1 → RDs X.K μ1 μ1 H1 d v → PoS tb X L μ1 H1 E W (f d S1) → Q1 v H1) : PoA tb X L μ σ H Q1 W r := by
  cases r with
  | fl => exact h
  | er e S => exact fun c dd μ' H' e2 s2 q => h c dd σ μ' H' e2 s2 (er.mono e2) q
  | ok d S => exact fun v μ1 H1 w e s r => k d S v μ1 H1 rfl w e s r (PoS.mono e h)
theorem PoS.bindI {Q1 : It → Hp → Prop} {r : R (List D)} {f : List D → Store → RS} (er : ER X.K μ H ρ σ) (h : PoS tb X L μ H E W (r.then ρ f))
    (k : ∀ d S1 J μ1 H1, r = .ok d S1 → Ext μ H μ1 H1 → SR X.K L μ1 S1 H1 → ItD X.K J d μ1 H1 → PoS tb X L μ1 H1 E W (f d S1) → Q1 J H1) : PoI tb X L μ σ H Q1 W r := by
  cases r with
  | fl => exact h
  | er e S => exact fun c dd μ' H' e2 s2 q => h c dd σ μ' H' e2 s2 (er.mono e2) q
  | ok d S => exact fun J μ1 H1 w e s r hl => k d S J μ1 H1 rfl e s r (PoS.mono e h)
theorem PoS.condT {Q1 : Bool → Hp → Prop} {r : R D} {f g : Store → RS} (er : ER X.K μ H ρ σ)
    (h : PoS tb X L μ H E W (r.then ρ fun x S1 => match tru S1 x with | some true => f S1 | some false => g S1 | none => .fl))
    (k : ∀ S1 μ1 H1 b, Ext μ H μ1 H1 → SR X.K L μ1 S1 H1 → PoS tb X L μ1 H1 E W (if b = true then f S1 else g S1) → Q1 b H1) : PoT tb X L μ σ H Q1 W r := by
  cases r with
  | fl => exact h
  | er e S => exact fun c dd μ' H' e2 s2 q => h c dd σ μ' H' e2 s2 (er.mono e2) q
  | ok d S =>
    have h' : PoS tb X L μ H E W (match tru S d with | some true => f S | some false => g S | none => .fl) := h
    cases q : tru S d with
    | none => rw [q] at h'; exact False.elim h'
    | some b =>
      rw [q] at h'
      refine ⟨b, q, fun v μ1 H1 w e s r => k S μ1 H1 b e s ?_⟩
      have h2 : PoS tb X L μ H E W (if b = true then f S else g S) := by cases b <;> exact h'
      exact PoS.mono e h2
end
section
variable {T : Sta} {C : Cl} {k : Nat}
/-! ### written stores -/
theorem bkind {env : PySem.Env} (hk : env.scope.kind = .function) : env.blockKind = .function := by
  unfold Env.blockKind
  rw [hk]
  rfl
theorem swB_ok {env : PySem.Env} (hk : env.scope.kind = .function) (value tg : Expr) (l : Nat) : swapsWith value (some tg) l env = pure (swB env.scope value tg) := by
  have hb := bkind hk
  unfold swapsWith swB
  cases tg <;> cases value <;> first
    | rfl
    | (simp only [hb]; rfl)
theorem swT_ok {env : PySem.Env} (value : Expr) {es : List Expr} {kk : Nat} {p : Pos} (l : Nat) : swapsWith value (some (.Tuple es kk p)) l env = pure false := by
  cases value <;> rfl
theorem swS_ok {env : PySem.Env} (value : Expr) {o i : Expr} {p : Pos} (l : Nat) : swapsWith value (some (.Subscript o i p)) l env = pure false := by
  cases value <;> rfl
theorem swM_ok {env : PySem.Env} (hk : env.scope.kind = .function) {ts vs : List Expr} {k1 k2 : Nat} {p1 p2 : Pos} {r : Option (List Str)} (h : swM env.scope ts vs = some r) : swappedStores [.Tuple ts k1 p1] (.Tuple vs k2 p2) env = pure r := by
  have hb := bkind hk
  unfold swM at h
  unfold swappedStores
  simp only [hb]
  by_cases h1 : (!(ts.length == 2 || ts.length == 3) || vs.length != ts.length) = true
  · rw [if_pos h1] at h
    cases h
    have h1' : (!(ts.length == 2 || ts.length == 3) || vs.length != ts.length || (ScopeKind.function != ScopeKind.function)) = true := by rw [h1]; rfl
    rw [if_pos h1']
  · rw [if_neg h1] at h
    have h1' : ¬ (!(ts.length == 2 || ts.length == 3) || vs.length != ts.length || (ScopeKind.function != ScopeKind.function)) = true := by
      rw [show (ScopeKind.function != ScopeKind.function) = false by decide, Bool.or_false]; exact h1
    rw [if_neg h1']
    split at h
    · rename_i h2
      cases h
      exact if_pos h2
    · rename_i h2
      refine (if_neg h2).trans ?_
      dsimp only at h ⊢
      split at h
      · rename_i h3
        cases h
        exact if_pos h3
      · rename_i h3
        refine (if_neg h3).trans ?_
        split at h
        · rename_i h4
          cases h
          exact if_pos h4
        · rename_i h4
          refine (if_neg h4).trans ?_
          split at h
          · cases h
          · rename_i h5
            cases h
            exact if_neg h5
end
end EV
/-! EV16: the statements' runs. -/
namespace EV
open PySem PySem.Spec PyProof.Rows L2
theorem GS.kind {X : Cx} {st : Stmt} {E : Ends} {σ : L2.St} {H : Hp} (h : X.env.scope.kind = .function → GS X st E σ H) : GS X st E σ H := fun pins s I => h I.ok.kind pins s I
theorem PSet.or {X : Cx} {a b : TSet} (ha : PSet X a) (hb : PSet X b) : PSet X (fun o i v H Q => a o i v H Q ∨ b o i v H Q) :=
  fun pins s σ H o i v ov iv u Q I r1 r2 r3 h => h.elim (ha pins s σ H o i v ov iv u Q I r1 r2 r3) (hb pins s σ H o i v ov iv u Q I r1 r2 r3)
section
variable {T : Sta} {C : Cl} {k : Nat}
theorem fnl {X : Cx} (xs : XS X) {x : Str} (h : locB X.env.scope x = true) : X.fn x = true ∨ X.env.scope.names.lookup x = some .local := by
  unfold locB knd at h
  split at h
  · exact .inr (by assumption)
  · exact .inl (xs.fn x (by assumption))
  · cases h
section
variable {N : List Str} {sc : Scope} {st : Stmt}
theorem ckS_set {i : Nat} {e : Ex} (h : ckS T N (.set i e) sc st = true) : ∃ x p v pos, st = .Assign [.Name x p] v pos ∧ (decide (N[i]? = some x) && (locB sc x && (ckE T N e sc v && (!swB sc v (.Name x p) || isLc e)))) = true := by
  unfold ckS at h
  split at h <;> first | (cases h; done) | skip
  all_goals (rename_i heq; cases heq <;> exact ⟨_, _, _, _, rfl, h⟩)
theorem ckS_asg {t : Tg} {e : Ex} (h : ckS T N (.asg t e) sc st = true) : ∃ tg v pos, st = .Assign [tg] v pos ∧ (ckT N sc t tg && (ckE T N e sc v && stB N sc t e tg v)) = true := by
  unfold ckS at h
  split at h <;> first | (cases h; done) | skip
  all_goals (rename_i heq; cases heq <;> exact ⟨_, _, _, rfl, h⟩)
theorem ckS_ret {e : Ex} (h : ckS T N (.ret e) sc st = true) : ∃ v pos, st = .Return (some v) pos ∧ ckE T N e sc v = true := by
  unfold ckS at h
  split at h <;> first | (cases h; done) | skip
  all_goals (rename_i heq; cases heq <;> exact ⟨_, _, rfl, h⟩)
theorem ckS_ex {e : Ex} (h : ckS T N (.ex e) sc st = true) : ∃ v pos, st = .Expr v pos ∧ (ckE T N e sc v && (match v with | .Call _ _ _ _ => true | _ => false)) = true := by
  unfold ckS at h
  split at h <;> first | (cases h; done) | skip
  all_goals (rename_i heq; cases heq <;> exact ⟨_, _, rfl, h⟩)
theorem ckS_brk (h : ckS T N .brk sc st = true) : ∃ pos, st = .Break pos := by
  unfold ckS at h
  split at h <;> first | (cases h; done) | (rename_i heq; cases heq; done) | exact ⟨_, rfl⟩
theorem ckS_cnt (h : ckS T N .cnt sc st = true) : ∃ pos, st = .Continue pos := by
  unfold ckS at h
  split at h <;> first | (cases h; done) | (rename_i heq; cases heq; done) | exact ⟨_, rfl⟩
theorem ckS_doc (h : ckS T N .doc sc st = true) : (∃ x i p pos, st = .Expr (.Constant (.str x) i p) pos) ∨ ∃ pos, st = .Pass pos := by
  unfold ckS at h
  split at h <;> first | (cases h; done) | (rename_i heq; cases heq; done) | exact .inl ⟨_, _, _, _, rfl⟩ | exact .inr ⟨_, rfl⟩
theorem stB_ok {t : Tg} {e : Ex} {tg v : Expr} (h : stB N sc t e tg v = true) : ∃ ts kt pt, tg = .Tuple ts kt pt ∧ ((∃ vs kv pv names as, v = .Tuple vs kv pv ∧ swM sc ts vs = some (some names) ∧ e = .tu as ∧ parB N sc t tg names = true) ∨
    ∀ env : PySem.Env, env.scope = sc → sc.kind = .function → swappedStores [.Tuple ts kt pt] v env = pure none) := by
  unfold stB at h
  split at h
  · rename_i ts kt pt vs kv pv
    refine ⟨ts, kt, pt, rfl, ?_⟩
    split at h
    · rename_i q
      exact .inr fun env e1 hk => by subst e1; exact swM_ok hk q
    · rename_i names q
      split at h
      · rename_i as
        exact .inl ⟨vs, kv, pv, names, as, rfl, q, rfl, h⟩
      · cases h
    · cases h
  · rename_i ts kt pt nt
    refine ⟨ts, kt, pt, rfl, .inr fun env _ _ => ?_⟩
    cases v <;> first | rfl | exact absurd rfl (nt _ _ _)
  · cases h
theorem parB_ok {t : Tg} {tg : Expr} {names : List Str} (h : parB N sc t tg names = true) :
    (∃ i j x px y py kt pt, t = .t (.cons (.v i) (.cons (.v j) .nil)) ∧ tg = .Tuple [.Name x px, .Name y py] kt pt ∧ i ≠ j ∧ N[i]? = some x ∧ N[j]? = some y ∧ knd sc x = some .local ∧ knd sc y = some .local ∧ names = [x, y]) ∨
    ∃ i j l x px y py z pz kt pt, t = .t (.cons (.v i) (.cons (.v j) (.cons (.v l) .nil))) ∧ tg = .Tuple [.Name x px, .Name y py, .Name z pz] kt pt ∧ i ≠ j ∧ i ≠ l ∧ j ≠ l ∧ N[i]? = some x ∧ N[j]? = some y ∧ N[l]? = some z ∧
      knd sc x = some .local ∧ knd sc y = some .local ∧ knd sc z = some .local ∧ names = [x, y, z] := by
  unfold parB at h
  split at h
  · simp only [Bool.and_eq_true, decide_eq_true_eq] at h
    exact .inl ⟨_, _, _, _, _, _, _, _, rfl, rfl, h⟩
  · simp only [Bool.and_eq_true, decide_eq_true_eq] at h
    exact .inr ⟨_, _, _, _, _, _, _, _, _, _, _, rfl, rfl, h⟩
  · cases h
end
theorem sndS_doc : SndS T C k .doc := by
  intro X st xo xs ck L μ ρ S σ H E W hb er sr tk h
  rcases ckS_doc ck with ⟨x, i, p, pos, rfl⟩ | ⟨pos, rfl⟩
  · exact GS.of ps_doc (h σ μ H .refl sr er)
  · exact GS.of ps_pass (h σ μ H .refl sr er)
theorem sndS_nev : SndS T C k .nev := fun X st xo xs ck L μ ρ S σ H E W hb er sr tk h => False.elim h
theorem sndS_brk : SndS T C k .brk := by
  intro X st xo xs ck L μ ρ S σ H E W hb er sr tk h
  obtain ⟨pos, rfl⟩ := ckS_brk ck
  exact GS.of ps_break (h σ μ H .refl sr er)
theorem sndS_cnt : SndS T C k .cnt := by
  intro X st xo xs ck L μ ρ S σ H E W hb er sr tk h
  obtain ⟨pos, rfl⟩ := ckS_cnt ck
  exact GS.of ps_continue (h σ μ H .refl sr er)
theorem sndS_ret (e : Ex) : SndS T C k (.ret e) := by
  intro X st xo xs ck L μ ρ S σ H E W hb er sr tk h
  obtain ⟨v, pos, rfl, ck⟩ := ckS_ret ck
  refine GS.of (ps_ret (pe_GE (e := v))) ?_
  refine (sndAll e).e X v xo ck L μ ρ S σ H _ W hb er sr tk (PoS.bind er h fun d1 S1 v1 μ1 H1 _ w1 e1 s1 r1 h1 => ?_)
  exact h1 v1 μ1 H1 .refl s1 r1
theorem sndS_ex (e : Ex) : SndS T C k (.ex e) := by
  intro X st xo xs ck L μ ρ S σ H E W hb er sr tk h
  obtain ⟨v, pos, rfl, ck⟩ := ckS_ex ck
  obtain ⟨c1, c2⟩ := ba ck
  refine GS.of (ps_expr (pe_GE (e := v)) ?_) ?_
  · cases v <;> first | rfl | cases c2
  · refine (sndAll e).e X v xo c1 L μ ρ S σ H _ W hb er sr tk (PoS.bind er h fun d1 S1 v1 μ1 H1 _ w1 e1 s1 r1 h1 => ?_)
    exact h1 σ μ1 H1 .refl s1 (er.mono e1)
theorem lc_of {X : Cx} {e : Ex} {v : Expr} (il : isLc e = true) (xo : XOk T C k X) (ck : ckE T X.N e X.env.scope v = true) {L : Nat → Option Nat} {μ : List Addr} {ρ : Env} {S : Store} {σ : L2.St} {H : Hp} {Q : VK} {W : WX}
    (hb : ∀ n, C.base ≤ n → L n = none) (er : ER X.K μ H ρ σ) (sr : SR X.K L μ S H) (tk : Takes X W) (h : Po T.tb X L μ σ H Q W (ev C e ρ S)) :
    ∃ elt tg iter ifs scope pos l, v = .ListComp elt [⟨tg, iter, ifs, 0⟩] scope pos ∧ LcP X elt tg iter ifs scope l σ H fun v H' => Wf H' → Q v H' := by
  cases e <;> (try (cases il; done))
  · rename_i t own s c e
    exact lc_p t own s c e (sndAll s).i (sndAll c).t (sndAll e).e X v xo ck L μ ρ S σ H Q W hb er sr tk h.toN
  · rename_i a
    cases a <;> (try (cases il; done))
    rename_i t own s c e
    simp only [ckE] at ck
    exact lc_p t own s c e (sndAll s).i (sndAll c).t (sndAll e).e X v xo (ba ck).2 L μ ρ S σ H Q W hb er sr tk h.fr
theorem sndS_set (i : Nat) (e : Ex) : SndS T C k (.set i e) := by
  intro X st xo xs ck L μ ρ S σ H E W hb er sr tk h
  obtain ⟨x, p, v, pos, rfl, ck⟩ := ckS_set ck
  obtain ⟨c1, ck⟩ := ba ck
  obtain ⟨c2, ck⟩ := ba ck
  obtain ⟨c3, c4⟩ := ba ck
  have hi := of_decide_eq_true c1
  have fin : Po T.tb X L μ σ H (fun y H1 => gName i y σ H1 E.nx) W (ev C e ρ S) :=
    PoS.bind er h fun d1 S1 v1 μ1 H1 _ w1 e1 s1 r1 h1 => h1 _ μ1 H1 .refl s1 ((er.mono e1).set r1)
  refine GS.kind fun hk => ?_
  cases q : swB X.env.scope v (.Name x p) with
  | false =>
    refine GS.of (ps_set (i := i) (te := GE X v) xo.nd hi (loc_ok c2) pe_GE ?_ (fnl xs c2)) ?_
    · rw [swB_ok hk, q]
    · exact (sndAll e).e X v xo c3 L μ ρ S σ H _ W hb er sr tk fin
  | true =>
    rw [q] at c4
    obtain ⟨elt, tg, iter, ifs, scope, lpos, l, rfl, wi, g, tt, te, a1, a2, a3, a4, a5, a6, a7⟩ := lc_of c4 xo c3 hb er sr tk fin
    have hl : X.env.scope.names.lookup x = some .local := by
      have q' : (X.env.scope.names.lookup x == some .local && p.line == lpos.line && !(scope.names.any fun (n, k) => n == x && (k == .local || k == .cell))) = true := q
      exact eq_of_beq (ba (ba q').1).1
    intro pins s I
    have run := (ps_setLc (i := i) (spos := pos) (py := p) xo.calm xo.nd hi hl (by rw [swB_ok hk, q]) a1 a2 a3 a4 a5 a6).run pins s σ H { E with nx := fun σ H => Wf H → E.nx σ H } I a7
    exact thn run fun f s' q => by
      cases f with
      | next =>
        obtain ⟨σ', H', J, q⟩ := q
        exact ⟨σ', H', J, q ⟨_, _, _, J.hok⟩⟩
      | brk => exact q
      | cont => exact q
      | ret v => exact q
theorem ev_tu {as : Ex} {ρ : Env} {S : Store} : ev C (.tu as) ρ S = (evs C as ρ S).bind fun xs S1 => if xs.length ≤ lim then .ok (.tup xs) S1 else .fl := rfl
theorem PoS.tuA {X : Cx} {L : Nat → Option Nat} {μ : List Addr} {ρ : Env} {S : Store} {σ : L2.St} {H : Hp} {E : Ends} {W : WX} {as : Ex} {f : D → Store → RS} {Q1 : List V → Hp → Prop} (er : ER X.K μ H ρ σ) (h : PoS T.tb X L μ H E W ((ev C (.tu as) ρ S).then ρ f))
    (k : ∀ d S1 v μ1 H1, evs C as ρ S = .ok d S1 → Ext μ H μ1 H1 → SR X.K L μ1 S1 H1 → RDs X.K μ1 μ1 H1 d v → PoS T.tb X L μ1 H1 E W (f (.tup d) S1) → Q1 v H1) : PoA T.tb X L μ σ H Q1 W (evs C as ρ S) := by
  rw [ev_tu] at h
  generalize q : evs C as ρ S = r at h k
  cases r with
  | fl => exact h
  | er e S => exact fun c dd μ' H' e2 s2 q => h c dd σ μ' H' e2 s2 (er.mono e2) q
  | ok d S =>
    have h' : PoS T.tb X L μ H E W ((if d.length ≤ lim then (.ok (.tup d) S : R D) else .fl).then ρ f) := h
    by_cases hl : d.length ≤ lim
    · rw [if_pos hl] at h'
      exact fun v μ1 H1 w e s r => k d S v μ1 H1 rfl e s r (PoS.mono e h')
    · rw [if_neg hl] at h'
      exact False.elim h'
theorem bind2 {i j : Nat} {d : List D} {ρ ρ1 : Env} (h : bindT (.t (.cons (.v i) (.cons (.v j) .nil))) (.tup d) ρ = some ρ1) : ∃ a b, d = [a, b] ∧ ρ1 = (ρ.set i (some a)).set j (some b) := by
  rcases d with _ | ⟨a, _ | ⟨b, _ | ⟨c, d⟩⟩⟩ <;> simp [bindT] at h
  exact ⟨a, b, rfl, h.symm⟩
theorem bind3 {i j l : Nat} {d : List D} {ρ ρ1 : Env} (h : bindT (.t (.cons (.v i) (.cons (.v j) (.cons (.v l) .nil)))) (.tup d) ρ = some ρ1) : ∃ a b c, d = [a, b, c] ∧ ρ1 = ((ρ.set i (some a)).set j (some b)).set l (some c) := by
  rcases d with _ | ⟨a, _ | ⟨b, _ | ⟨c, _ | ⟨c2, d⟩⟩⟩⟩ <;> simp [bindT] at h
  exact ⟨a, b, c, rfl, h.symm⟩
theorem RDs.three {K : Fg} {ν μ : List Addr} {H : Hp} {d e f : D} {vs : List V} (h : RDs K ν μ H [d, e, f] vs) : ∃ v w u, vs = [v, w, u] ∧ RD K ν μ H d v ∧ RD K ν μ H e w ∧ RD K ν μ H f u := by
  simp only [RDs] at h
  obtain ⟨x, r, rfl, h1, y, r2, rfl, h2, z, r3, rfl, h3, rfl⟩ := h
  exact ⟨_, _, _, rfl, h1, h2, h3⟩
theorem sndS_asg (t : Tg) (e : Ex) : SndS T C k (.asg t e) := by
  intro X st xo xs ck L μ ρ S σ H E W hb er sr tk h
  obtain ⟨tg, v, pos, rfl, ck⟩ := ckS_asg ck
  obtain ⟨c1, ck⟩ := ba ck
  obtain ⟨c2, c3⟩ := ba ck
  refine GS.kind fun hk => ?_
  obtain ⟨ts, kt, pt, rfl, c4⟩ := stB_ok c3
  rcases c4 with ⟨vs, kv, pv, names, as, rfl, q, rfl, c5⟩ | hw
  · have hw := swM_ok hk (k1 := kt) (p1 := pt) (k2 := kv) (p2 := pv) q
    have c2 : ckL T X.N as X.env.scope vs = true := by simpa only [ckE] using c2
    have vlen : vs.length = ts.length ∧ (ts.length = 2 ∨ ts.length = 3) := by
      unfold swM at q
      split at q
      · cases q
      · rename_i hc
        simp only [Bool.or_eq_true, Bool.not_eq_true', not_or, Bool.not_eq_false, beq_iff_eq, bne_iff_ne, ne_eq, Decidable.not_not] at hc
        exact ⟨hc.2, by simpa using hc.1⟩
    rcases parB_ok c5 with ⟨i, j, x, px, y, py, _, _, rfl, e2, d1, d2, d3, d4, d5, rfl⟩ | ⟨i, j, l, x, px, y, py, z, pz, _, _, rfl, e2, d1, d2, d3, d4, d5, d6, d7, d8, d9, rfl⟩
    · cases e2
      have vl : ∃ a b, vs = [a, b] := by
        have := vlen.1
        rcases vs with _ | ⟨a, _ | ⟨b, _ | ⟨c, r⟩⟩⟩ <;> first | exact ⟨_, _, rfl⟩ | (simp at this)
      obtain ⟨a, b, rfl⟩ := vl
      refine GS.of (ps_par (i := i) (j := j) xo.calm xo.nd d2 d3 d1 d4 d5 (pa_GA (es := [a, b])) hw) ?_
      refine (sndAll as).l X [a, b] xo c2 L μ ρ S σ H _ W hb er sr tk (PoS.tuA er h fun d1 S1 v1 μ1 H1 _ e1 s1 r1 h1 => ?_)
      cases qb : bindT (.t (.cons (.v i) (.cons (.v j) .nil))) (.tup d1) ρ with
      | none => rw [qb] at h1; exact False.elim h1
      | some ρ1 =>
        rw [qb] at h1
        obtain ⟨x1, x2, rfl, rfl⟩ := bind2 qb
        obtain ⟨y1, y2, rfl, r2, r3⟩ := r1.two
        exact ⟨y1, y2, rfl, h1 _ μ1 H1 .refl s1 (((er.mono e1).set r2).set r3)⟩
    · cases e2
      have vl : ∃ a b c, vs = [a, b, c] := by
        have := vlen.1
        rcases vs with _ | ⟨a, _ | ⟨b, _ | ⟨c, _ | ⟨d, r⟩⟩⟩⟩ <;> first | exact ⟨_, _, _, rfl⟩ | (simp at this)
      obtain ⟨a, b, c, rfl⟩ := vl
      refine GS.of (ps_par3 (i := i) (j := j) (l := l) xo.calm xo.nd d4 d5 d6 d1 d2 d3 d7 d8 d9 (pa_GA (es := [a, b, c])) hw) ?_
      refine (sndAll as).l X [a, b, c] xo c2 L μ ρ S σ H _ W hb er sr tk (PoS.tuA er h fun d1 S1 v1 μ1 H1 _ e1 s1 r1 h1 => ?_)
      cases qb : bindT (.t (.cons (.v i) (.cons (.v j) (.cons (.v l) .nil)))) (.tup d1) ρ with
      | none => rw [qb] at h1; exact False.elim h1
      | some ρ1 =>
        rw [qb] at h1
        obtain ⟨x1, x2, x3, rfl, rfl⟩ := bind3 qb
        obtain ⟨y1, y2, y3, rfl, r2, r3, r4⟩ := RDs.three r1
        exact ⟨y1, y2, y3, rfl, h1 _ μ1 H1 .refl s1 ((((er.mono e1).set r2).set r3).set r4)⟩
  · refine GS.of (ps_asg (te := GE X v) pe_GE pg_GG (by show swapsWith v (some (.Tuple ts kt pt)) pos.line X.env = _; exact swT_ok v _) (hw _ rfl hk)) ?_
    refine (sndAll e).e X v xo c2 L μ ρ S σ H _ W hb er sr tk (PoS.bind er h fun d1 S1 v1 μ1 H1 _ w1 e1 s1 r1 h1 => ?_)
    cases q : bindT t d1 ρ with
    | none => rw [q] at h1; exact False.elim h1
    | some ρ1 =>
      rw [q] at h1
      exact snd_tg xo.nd xo.calm (fun x hx => ⟨loc_ok hx, fnl xs hx⟩) H1 (fun _ _ q => q) t (.Tuple ts kt pt) c1 d1 ρ ρ1 v1 σ μ1 _ q (er.mono e1) r1 fun σ1 er1 _ => h1 σ1 μ1 H1 .refl s1 er1
end
end EV
/-! EV17: op=, stores into cells, append, branches, loops. -/
namespace EV
open PySem PySem.Spec PyProof.Rows L2
def ipA : BO → TIp
  | .add => ipI fun i j => i + j
  | .sub => ipI fun i j => i - j
  | .mul => fun x y H Q => ∃ i j, x = .int i ∧ y = .int j ∧ CMulA i j ∧ Q (.int (i * j)) H
  | _ => fun _ _ _ _ => False
theorem imul_A {X : Cx} : OpR X (inplaceOp .Mult) (rI CMulA fun i j => .int (i * j)) := opI fun i j _ _ _ _ _ hc q => by
  have h : mulOk i j = true := hc
  unfold mulOk at h
  rw [Bool.or_eq_true, Bool.or_eq_true, decide_eq_true_eq] at h
  rcases h with (h | h) | h
  · exact imul_int q (CMul.ok (.inl (smallI_ok h)))
  · exact imul_int q (CMul.ok (.inr (smallI_ok h)))
  · exact imul_int q (CMulW.ok h)
theorem ip_A {X : Cx} : ∀ o : BO, PIp X (opOf o) (ipA o)
  | .add => ip_add
  | .sub => ip_sub
  | .mul => fun pins s σ H x y v u Q I r1 r2 h => by
    obtain ⟨i, j, h⟩ := h
    exact imul_A pins s σ H x y v u Q I r1 r2 ⟨i, j, h.1, h.2.1, h.2.2.1, h.2.2.2⟩
  | .mod => fun _ _ _ _ _ _ _ _ _ _ _ _ h => False.elim h
  | .fdiv => fun _ _ _ _ _ _ _ _ _ _ _ _ h => False.elim h
  | .pow => fun _ _ _ _ _ _ _ _ _ _ _ _ h => False.elim h
section
variable {T : Sta} {C : Cl} {k : Nat}
section
variable {N : List Str} {sc : Scope} {st : Stmt}
theorem ckS_aug {i : Nat} {o : BO} {e : Ex} (h : ckS T N (.aug i o e) sc st = true) : ∃ x px p v pos, st = .AugAssign (.Name x px) p v pos ∧ (decide (N[i]? = some x) && (locB sc x && (bopN p o && ckE T N e sc v))) = true := by
  unfold ckS at h
  split at h <;> first | (cases h; done) | skip
  all_goals (rename_i heq; cases heq <;> exact ⟨_, _, _, _, _, rfl, h⟩)
theorem ckS_sub {a i e : Ex} (h : ckS T N (.sub a i e) sc st = true) : ∃ o s p v pos, st = .Assign [.Subscript o s p] v pos ∧ (noSlice s && (ckE T N e sc v && (ckE T N a sc o && ckE T N i sc s))) = true := by
  unfold ckS at h
  split at h <;> first | (cases h; done) | skip
  all_goals (rename_i heq; cases heq <;> exact ⟨_, _, _, _, _, rfl, h⟩)
theorem ckS_sub2 {a i b j e : Ex} (h : ckS T N (.sub2 a i b j e) sc st = true) : ∃ o s p o2 s2 p2 kt pt v w kv pv pos, st = .Assign [.Tuple [.Subscript o s p, .Subscript o2 s2 p2] kt pt] (.Tuple [v, w] kv pv) pos ∧
    (noSlice s && (noSlice s2 && (noStar v && (noStar w && (ckE T N e sc (.Tuple [v, w] kv pv) && (ckE T N a sc o && (ckE T N i sc s && (ckE T N b sc o2 && ckE T N j sc s2)))))))) = true := by
  unfold ckS at h
  split at h <;> first | (cases h; done) | skip
  all_goals (rename_i heq; cases heq <;> exact ⟨_, _, _, _, _, _, _, _, _, _, _, _, _, rfl, h⟩)
theorem ckS_app {a e : Ex} (h : ckS T N (.app a e) sc st = true) : ∃ o m ap v cp pos, st = .Expr (.Call (.Attribute o m ap) [v] [] cp) pos ∧ (decide (m = ("append" : Str)) && (isName o && (ap.endLine == cp.line && (noStar v && (ckE T N a sc o && ckE T N e sc v))))) = true := by
  unfold ckS at h
  split at h <;> first | (cases h; done) | skip
  all_goals (rename_i heq; cases heq <;> exact ⟨_, _, _, _, _, _, rfl, h⟩)
theorem ckS_ite {c : Ex} {a b : Sm} (h : ckS T N (.ite c a b) sc st = true) : ∃ t x y pos, st = .If t x y pos ∧ (ckE T N c sc t && (ckSs T N a sc x && ckSs T N b sc y)) = true := by
  unfold ckS at h
  split at h <;> first | (cases h; done) | skip
  all_goals (rename_i heq; cases heq <;> exact ⟨_, _, _, _, rfl, h⟩)
theorem ckS_for {t : Tg} {s : Ex} {b : Sm} (h : ckS T N (.forr t s b) sc st = true) : ∃ tg iter body pos, st = .For tg iter body [] pos ∧ (ckT N sc t tg && (noSet iter && (ckTT s tg && (ckI T N s sc iter && ckSs T N b sc body)))) = true := by
  unfold ckS at h
  split at h <;> first | (cases h; done) | skip
  all_goals (rename_i heq; cases heq <;> exact ⟨_, _, _, _, rfl, h⟩)
theorem ckS_whil {c : Ex} {b : Sm} (h : ckS T N (.whil c b) sc st = true) : ∃ t body pos, st = .While t body [] pos ∧ (ckE T N c sc t && ckSs T N b sc body) = true := by
  unfold ckS at h
  split at h <;> first | (cases h; done) | skip
  all_goals (rename_i heq; cases heq <;> exact ⟨_, _, _, rfl, h⟩)
theorem ckSs_cons {s t : Sm} {sts : List Stmt} (h : ckSs T N (.cons s t) sc sts = true) : ∃ x r, sts = x :: r ∧ (ckS T N s sc x && ckSs T N t sc r) = true := by
  cases sts with
  | nil => simp only [ckSs, Bool.false_eq_true] at h
  | cons x r => exact ⟨x, r, rfl, by simpa only [ckSs] using h⟩
theorem ckSs_nil {sts : List Stmt} (h : ckSs T N .nil sc sts = true) : sts = [] := by
  cases sts with
  | nil => rfl
  | cons x r => simp only [ckSs, Bool.false_eq_true] at h
end
theorem sndSs_nil : SndSs T C k .nil := by
  intro X st xo xs ck L μ ρ S σ H E W hb er sr tk h
  obtain rfl := ckSs_nil ck
  exact GSs.of pss_nil (h σ μ H .refl sr er)
theorem sndSs_cons (s t : Sm) (is : SndS T C k s) (it : SndSs T C k t) : SndSs T C k (.cons s t) := by
  intro X st xo xs ck L μ ρ S σ H E W hb er sr tk h
  obtain ⟨x, r, rfl, ck⟩ := ckSs_cons ck
  obtain ⟨c1, c2⟩ := ba ck
  refine GSs.of (pss_cons (ps_GS (st := x)) (pss_GSs (st := r))) ?_
  refine is X x xo xs c1 L μ ρ S σ H _ W hb er sr tk ?_
  have h' : PoS T.tb X L μ H E W (match evS C s ρ S with | .nx ρ1 S1 => evS C t ρ1 S1 | r => r) := h
  generalize evS C s ρ S = r at h'
  cases r with
  | nx ρ1 S1 => exact fun σ1 μ1 H1 e1 s1 er1 => it X _ xo xs c2 L μ1 ρ1 S1 σ1 H1 E W hb er1 s1 tk (PoS.mono e1 h')
  | _ => exact h'
theorem sndS_aug (i : Nat) (o : BO) (e : Ex) : SndS T C k (.aug i o e) := by
  intro X st xo xs ck L μ ρ S σ H E W hb er sr tk h
  obtain ⟨x, px, p, v, pos, rfl, ck⟩ := ckS_aug ck
  obtain ⟨c1, ck⟩ := ba ck
  obtain ⟨c2, ck⟩ := ba ck
  obtain ⟨c3, c4⟩ := ba ck
  have ep : opOf o = p := of_decide_eq_true c3
  subst ep
  have h' : PoS T.tb X L μ H E W (match ρ.getD i none with
    | some x => (ev C e ρ S).then ρ fun d S1 => (match augI o x d with | some y => .nx (ρ.set i (some y)) S1 | none => .fl)
    | none => .fl) := h
  cases q : ρ.getD i none with
  | none => rw [q] at h'; exact False.elim h'
  | some d0 =>
    rw [q] at h'
    have e2 : ρ[i]? = some (some d0) := by
      rw [List.getD_eq_getElem?_getD] at q
      cases q2 : ρ[i]? with
      | none => rw [q2] at q; cases q
      | some o => rw [q2] at q; exact congrArg some q
    obtain ⟨v0, e3, r0⟩ := er.2 i d0 e2
    refine GS.of (ps_aug (i := i) (te := GE X v) xo.nd (of_decide_eq_true c1) (loc_ok c2) pe_GE (ip_A o) (fnl xs c2)) ⟨v0, e3, ?_⟩
    refine (sndAll e).e X v xo c4 L μ ρ S σ H _ W hb er sr tk (PoS.bind er h' fun d1 S1 v1 μ1 H1 _ w1 e1 s1 r1 h1 => ?_)
    have r0 := RD.mono e1 e1.pre _ _ r0
    cases qa : augI o d0 d1 with
    | none => rw [qa] at h1; exact False.elim h1
    | some y =>
      rw [qa] at h1
      cases o <;> cases d0 <;> cases d1 <;> simp only [augI, reduceCtorEq] at qa <;> simp only [RD] at r0 r1 <;> subst r0 r1
      · cases qa
        exact ⟨_, _, rfl, rfl, h1 _ μ1 H1 .refl s1 ((er.mono e1).set (.i _))⟩
      · cases qa
        exact ⟨_, _, rfl, rfl, h1 _ μ1 H1 .refl s1 ((er.mono e1).set (.i _))⟩
      · split at qa
        · rename_i hm
          cases qa
          exact ⟨_, _, rfl, rfl, hm, h1 _ μ1 H1 .refl s1 ((er.mono e1).set (.i _))⟩
        · cases qa
/-- a cell takes a new content -/
theorem put_ok {K : Fg} {L : Nat → Option Nat} {μ : List Addr} {H : Hp} {S S' : Store} {n : Nat} {a : Addr} {base : Nat} {d o : D} {v : V} {ho : HO} (hb : ∀ n, base ≤ n → L n = none) (s : SR K L μ S H) (e : putS base S n d o = some S') (ha : μ[n]? = some a) (r : RD K μ μ H d v)
    (new : ∀ H', Ext μ H μ H' → H' a = some ho → RD K (cutL L n μ) μ H' d v → CR_ K (fun _ => none) (cutL L n μ) μ H' a o) : SR K L μ S' (upd H a ho) ∧ Ext μ H μ (upd H a ho) := by
  unfold putS at e
  split at e
  · rename_i hc
    cases e
    obtain ⟨c1, c2⟩ := ba hc
    have m : a ∈ μ := List.mem_of_getElem? ha
    have ex : Ext μ H μ (upd H a ho) := .write m
    have r' : RD K (cutL L n μ) μ (upd H a ho) d v := by
      rw [Bool.or_eq_true] at c1
      rcases c1 with c1 | c1
      · exact RD.anyloc d v c1 (RD.mono ex ex.pre _ _ r)
      · have hl := hb n (of_decide_eq_true c1)
        unfold cutL
        rw [hl]
        exact RD.mono ex ex.pre _ _ r
    exact ⟨s.write ha (new _ ex upd_same r'), ex⟩
  · cases e
theorem SR.at_ {K : Fg} {L : Nat → Option Nat} {μ : List Addr} {H : Hp} {S : Store} (s : SR K L μ S H) {n : Nat} {a : Addr} (ha : μ[n]? = some a) : CR_ K (fun _ => none) (cutL L n μ) μ H a (S.getD n .non) := by
  have hn : n < S.length := by rw [← s.len]; exact (List.getElem?_eq_some_iff.mp ha).1
  have hs := List.getElem?_eq_getElem hn
  have c := s.cell n _ a hs ha
  rwa [List.getD_eq_getElem?_getD, hs]
theorem sub_ok {X : Cx} (hu : X.A.units + 65 < cLine) {E : Ends} {L : Nat → Option Nat} {μ : List Addr} {S S' : Store} {H : Hp} {σ : L2.St} {ρ : Env} {x y d : D} {vx vy vd : V} (hb : ∀ n, C.base ≤ n → L n = none) (s : SR X.K L μ S H) (er : ER X.K μ H ρ σ)
    (e : subS C.base S x y d = some S') (rx : RD X.K μ μ H x vx) (ry : RD X.K μ μ H y vy) (rd : RD X.K μ μ H d vd) (fin : ∀ H', Ext μ H μ H' → SR X.K L μ S' H' → E.nx σ H') : rSetL vx vy vd H (fun H' => E.nx σ H') ∨ rSetD vx vy vd H fun H' => E.nx σ H' := by
  unfold subS at e
  cases x <;> (try (cases e; done))
  rename_i n
  simp only [RD] at rx
  obtain ⟨a, rfl, ha⟩ := rx
  have c := s.at_ ha
  dsimp only at e
  generalize S.getD n .non = z at e c
  cases z <;> (try (cases e; done))
  · rename_i ds
    obtain ⟨vs, h1, h2⟩ := c
    cases y <;> (try (cases e; done))
    rename_i i
    simp only [RD] at ry
    subst ry
    rw [Option.bind_eq_some_iff] at e
    obtain ⟨j, e1, e2⟩ := e
    obtain ⟨s2, ex⟩ := put_ok (ho := .lst (vs.set j vd)) hb s e2 ha rd fun H' x1 x2 x3 => ⟨_, x2, RDs.set x3 j (RDs.mono x1 (fun _ _ h => h) _ _ h2)⟩
    exact .inl ⟨a, vs, i, j, rfl, rfl, h1, by rw [h2.length]; exact e1, fin _ ex s2⟩
  · rename_i kvs
    obtain ⟨ws, h1, h2⟩ := c
    have e' : ((keyOf y).bind fun k => if kvs.length < lim then putS C.base S n d (.dK (putG kvs k d)) else none) = some S' := by
      cases y <;> exact e
    rw [Option.bind_eq_some_iff] at e'
    obtain ⟨key, e1, e2⟩ := e'
    split at e2
    · rename_i hl
      obtain ⟨s2, ex⟩ := put_ok (ho := .dK (putK ws key vd)) hb s e2 ha rd fun H' x1 x2 x3 => ⟨_, x2, RDK.put x3 (RDK.mono x1 (fun _ _ h => h) _ _ h2)⟩
      refine .inr ⟨a, _, rfl, ?_, fin _ ex s2⟩
      rw [RD.key ry e1]
      exact DPut.k h1 (by rw [h2.length, ← lim_eq]; exact hl)
    · cases e2
  · rename_i kvs
    obtain ⟨ws, h1, h2⟩ := c
    cases y <;> (try (cases e; done))
    rename_i ks
    rw [Option.bind_eq_some_iff] at e
    obtain ⟨key, e1, e2⟩ := e
    split at e2
    · rename_i hl
      obtain ⟨s2, ex⟩ := put_ok (ho := .dT (putK ws key vd)) hb s e2 ha rd fun H' x1 x2 x3 => ⟨_, x2, RDT.put x3 (RDT.mono x1 (fun _ _ h => h) _ _ h2)⟩
      simp only [RD] at ry
      obtain ⟨b, xs, rfl, t, r⟩ := ry
      have ek := RDs.keys r e1
      subst ek
      exact .inr ⟨a, _, rfl, .inr ⟨ws, key, b, h1, rfl, t.1, by rw [h2.length, ← lim_eq]; exact hl, rfl⟩, fin _ ex s2⟩
    · cases e2
theorem sndS_sub (a i e : Ex) : SndS T C k (.sub a i e) := by
  intro X st xo xs ck L μ ρ S σ H E W hb er sr tk h
  obtain ⟨o, s, p, v, pos, rfl, ck⟩ := ckS_sub ck
  obtain ⟨c1, ck⟩ := ba ck
  obtain ⟨c2, ck⟩ := ba ck
  obtain ⟨c3, c4⟩ := ba ck
  have hu := xo.un
  have pg := pg_sub (pos := p) (pe_GE (X := X) (e := o)) (pe_GE (X := X) (e := s)) (PSet.or set_list (set_dict (X := X) (by omega))) (by
    intro v
    cases s <;> first | rfl | cases c1)
  refine GS.of (ps_asg (te := GE X v) pe_GE pg (by show swapsWith v (some (.Subscript o s p)) pos.line X.env = _; exact swS_ok v _) (by cases v <;> rfl)) ?_
  refine (sndAll e).e X v xo c2 L μ ρ S σ H _ W hb er sr tk (PoS.bind er h fun d1 S1 v1 μ1 H1 _ w1 e1 s1 r1 h1 => ?_)
  have er1 := er.mono e1
  refine (sndAll a).e X o xo c3 L μ1 ρ S1 σ H1 _ W hb er1 s1 tk (PoS.bind er1 h1 fun d2 S2 v2 μ2 H2 _ w2 e2 s2 r2 h2 => ?_)
  have er2 := er1.mono e2
  refine (sndAll i).e X s xo c4 L μ2 ρ S2 σ H2 _ W hb er2 s2 tk (PoS.bind er2 h2 fun d3 S3 v3 μ3 H3 _ w3 e3 s3 r3 h3 => ?_)
  have er3 := er2.mono e3
  cases q : subS C.base S3 d2 d3 d1 with
  | none => rw [q] at h3; exact False.elim h3
  | some S4 =>
    rw [q] at h3
    exact sub_ok (C := C) (E := E) hu hb s3 er3 q (RD.mono e3 e3.pre _ _ r2) r3 (RD.mono (e2.trans e3) (e2.trans e3).pre _ _ r1) fun H4 ex s4 => h3 σ μ3 H4 ex s4 (er3.mono ex)
theorem sndS_sub2 (a i b j e : Ex) : SndS T C k (.sub2 a i b j e) := by
  intro X st xo xs ck L μ ρ S σ H E W hb er sr tk h
  obtain ⟨o, s, p, o2, sB, p2, kt, pt, v, w, kv, pv, pos, rfl, ckN⟩ := ckS_sub2 ck
  simp only [Bool.and_eq_true] at ckN
  obtain ⟨c1, c2, c3, c4, c5, c6, c7, c8, c9⟩ := ckN
  have hu := xo.un
  have pgA := pg_sub (pos := p) (pe_GE (X := X) (e := o)) (pe_GE (X := X) (e := s)) (PSet.or set_list (set_dict (X := X) (by omega))) (fun v => by cases s <;> first | rfl | cases c1)
  have pgB := pg_sub (pos := p2) (pe_GE (X := X) (e := o2)) (pe_GE (X := X) (e := sB)) (PSet.or set_list (set_dict (X := X) (by omega))) (fun v => by cases sB <;> first | rfl | cases c2)
  have pgT := pg_tup (k := kt) (pos := pt) (n := 2) xo.calm (pgs_cons pgA (pgs_cons pgB (pgs_nil (X := X))))
  have sw : swM X.env.scope [.Subscript o s p, .Subscript o2 sB p2] [v, w] = some none := by
    unfold swM
    have s1 : ¬ (!([Expr.Subscript o s p, Expr.Subscript o2 sB p2].length == 2 || [Expr.Subscript o s p, Expr.Subscript o2 sB p2].length == 3) || [v, w].length != [Expr.Subscript o s p, Expr.Subscript o2 sB p2].length) = true := Bool.false_ne_true
    rw [if_neg s1, if_neg (by cases v <;> first | (cases c3; done) | (cases w <;> first | (cases c4; done) | exact Bool.false_ne_true))]
    rfl
  refine GS.kind fun hk => ?_
  refine GS.of (ps_asg (te := GE X (.Tuple [v, w] kv pv)) pe_GE pgT (swT_ok (env := X.env) (es := [.Subscript o s p, .Subscript o2 sB p2]) (kk := kt) (p := pt) (.Tuple [v, w] kv pv) pos.line) (swM_ok hk sw)) ?_
  refine (sndAll e).e X (.Tuple [v, w] kv pv) xo c5 L μ ρ S σ H _ W hb er sr tk (PoS.bind er h fun d1 S1 v1 μ1 H1 _ w1 e1 s1 r1 h1 => ?_)
  have er1 := er.mono e1
  by_cases ht : ∃ d d', d1 = .tup [d, d']
  · obtain ⟨d, d', rfl⟩ := ht
    simp only [RD] at r1
    obtain ⟨q, ws, rfl, t, rr⟩ := r1
    obtain ⟨w1, w2, rfl, ra, rb⟩ := rr.two
    refine ⟨q, [w1, w2], rfl, t.sq, rfl, w1, [w2], rfl, ?_⟩
    refine (sndAll a).e X o xo c6 L μ1 ρ S1 σ H1 _ W hb er1 s1 tk (PoS.bind er1 h1 fun d2 S2 v2 μ2 H2 _ _ e2 s2 r2 h2 => ?_)
    have er2 := er1.mono e2
    refine (sndAll i).e X s xo c7 L μ2 ρ S2 σ H2 _ W hb er2 s2 tk (PoS.bind er2 h2 fun d3 S3 v3 μ3 H3 _ _ e3 s3 r3 h3 => ?_)
    have er3 := er2.mono e3
    cases q : subS C.base S3 d2 d3 d with
    | none => rw [q] at h3; exact False.elim h3
    | some S4 =>
      rw [q] at h3
      refine sub_ok (C := C) (E := { E with nx := fun σ4 H4 => gCons (gSub (GE X o2) (GE X sB) (fun o i v H Q => rSetL o i v H Q ∨ rSetD o i v H Q)) gNil [w2] σ4 H4 E.nx }) hu hb s3 er3 q (RD.mono e3 e3.pre _ _ r2) r3 (RD.mono (e2.trans e3) (e2.trans e3).pre _ _ ra) fun H4 ex s4 => ?_
      have er4 := er3.mono ex
      refine ⟨w2, [], rfl, ?_⟩
      refine (sndAll b).e X o2 xo c8 L μ3 ρ S4 σ H4 _ W hb er4 s4 tk (PoS.bind er4 (PoS.mono ex h3) fun d5 S5 v5 μ5 H5 _ _ e5 s5 r5 h5 => ?_)
      have er5 := er4.mono e5
      refine (sndAll j).e X sB xo c9 L μ5 ρ S5 σ H5 _ W hb er5 s5 tk (PoS.bind er5 h5 fun d6 S6 v6 μ6 H6 _ _ e6 s6 r6 h6 => ?_)
      have er6 := er5.mono e6
      have all6 := (((e2.trans e3).trans ex).trans e5).trans e6
      cases q2 : subS C.base S6 d5 d6 d' with
      | none => rw [q2] at h6; exact False.elim h6
      | some S7 =>
        rw [q2] at h6
        refine sub_ok (C := C) (E := { E with nx := fun σ4 H4 => gNil [] σ4 H4 E.nx }) hu hb s6 er6 q2 (RD.mono e6 e6.pre _ _ r5) r6 (RD.mono all6 all6.pre _ _ rb) fun H7 ex7 s7 => ?_
        exact ⟨rfl, h6 σ μ6 H7 ex7 s7 (er6.mono ex7)⟩
  · exfalso
    revert h1
    rcases d1 with _ | _ | _ | _ | xs | _ | _ | _ | _ | _ | _ | _ <;> try exact id
    rcases xs with _ | ⟨x, _ | ⟨y, _ | ⟨_, _⟩⟩⟩ <;> try exact id
    exact absurd ⟨_, _, rfl⟩ ht
theorem sndS_app (a e : Ex) : SndS T C k (.app a e) := by
  intro X st xo xs ck L μ ρ S σ H E W hb er sr tk h
  obtain ⟨o, m, ap, v, cp, pos, rfl, ck⟩ := ckS_app ck
  obtain ⟨c1, ck⟩ := ba ck
  obtain ⟨c2, ck⟩ := ba ck
  obtain ⟨c3, ck⟩ := ba ck
  obtain ⟨c4, ck⟩ := ba ck
  obtain ⟨c5, c6⟩ := ba ck
  have em : m = "append" := of_decide_eq_true c1
  subst em
  have hat : attributeBase o "append" X.env (eval o X.env) = eval o X.env := by
    cases o <;> first | rfl | cases c2
  have hfew : ((backTo cp (starEach [v] X.env)).all (fun x => !x.1) && (backToKw cp (keywordEach [] X.env)).all (fun x => x.1.isSome)
      && decide ([v].length + ([] : List Keyword).length + (if ([] : List Keyword).isEmpty then 0 else 1) < 30)) = true := by
    rw [star_cons c4]; rfl
  refine GS.of (ps_expr (pe_bm PySem.F.plainAttrs_list PySem.F.slot_list_append PySem.F.type_list_append mt_append (pe_GE (e := o)) (pa_GA (es := [v])) hat hfew c3 (star_cons c4 _ _)) rfl) ?_
  refine (sndAll a).e X o xo c5 L μ ρ S σ H _ W hb er sr tk (PoS.bind er h fun d1 S1 v1 μ1 H1 _ w1 e1 s1 r1 h1 => ?_)
  have er1 := er.mono e1
  have h1' : PoS T.tb X L μ1 H1 E W (match dr S1 d1 with
    | .lst _ => (ev C e ρ S1).then ρ fun d S2 => match appS C.base S2 d1 d with | some S3 => .nx ρ S3 | none => .fl
    | _ => .fl) := h1
  generalize qd : dr S1 d1 = z at h1'
  cases z <;> (try exact False.elim h1')
  rename_i ds
  have l := (s1.look r1).1
  obtain ⟨p, vs, rfl, g1, g2⟩ := l _ qd
  refine ⟨.inl ⟨rfl, vs, .of g1⟩, ga_one c4 ?_⟩
  refine (sndAll e).e X v xo c6 L μ1 ρ S1 σ H1 _ W hb er1 s1 tk (PoS.bind er1 h1' fun d2 S2 v2 μ2 H2 _ w2 e2 s2 r2 h2 => ?_)
  have er2 := er1.mono e2
  have r1 := RD.mono e2 e2.pre _ _ r1
  cases q : appS C.base S2 d1 d2 with
  | none => rw [q] at h2; exact False.elim h2
  | some S3 =>
    rw [q] at h2
    unfold appS at q
    obtain ⟨n, rfl⟩ : ∃ n, d1 = .loc n := by cases d1 <;> first | exact ⟨_, rfl⟩ | cases q
    simp only [RD] at r1
    obtain ⟨a', e3, ha⟩ := r1
    cases e3
    have c := s2.at_ ha
    dsimp only at q
    generalize S2.getD n .non = z at q c
    cases z <;> (try (cases q; done))
    rename_i ds2
    obtain ⟨ws, k1, k2⟩ := c
    dsimp only at q
    split at q
    · rename_i hl
      obtain ⟨s3, ex⟩ := put_ok (ho := .lst (ws ++ [v2])) hb s2 q ha r2 fun H' x1 x2 x3 => ⟨_, x2, (RDs.mono x1 (fun _ _ h => h) _ _ k2).append (.cons x3 .nil)⟩
      exact ⟨p, ws, v2, rfl, rfl, k1, by rw [k2.length, ← lim_eq]; exact hl, h2 σ μ2 _ ex s3 (er2.mono ex)⟩
    · cases q
theorem sndS_ite (c : Ex) (a b : Sm) (ia : SndSs T C k a) (ib : SndSs T C k b) : SndS T C k (.ite c a b) := by
  intro X st xo xs ck L μ ρ S σ H E W hb er sr tk h
  obtain ⟨t, x, y, pos, rfl, ck⟩ := ckS_ite ck
  obtain ⟨c1, ck⟩ := ba ck
  obtain ⟨c2, c3⟩ := ba ck
  refine GS.of (ps_if (pt_GT (e := t)) (pss_GSs (st := x)) (pss_GSs (st := y))) ?_
  refine (sndAll c).t X t xo c1 L μ ρ S σ H _ W hb er sr tk (PoS.condT er h fun S1 μ1 H1 b' e1 s1 h1 => ?_)
  cases b' with
  | true => exact ia X x xo xs c2 L μ1 ρ S1 σ H1 E W hb (er.mono e1) s1 tk h1
  | false => exact ib X y xo xs c3 L μ1 ρ S1 σ H1 E W hb (er.mono e1) s1 tk h1
theorem sndS_while (c : Ex) (b : Sm) (ib : SndSs T C k b) : SndS T C k (.whil c b) := by
  intro X st xo xs ck L μ ρ S σ H E W hb er sr tk h
  obtain ⟨t, body, pos, rfl, ck⟩ := ckS_whil ck
  obtain ⟨c1, c2⟩ := ba ck
  refine GS.of (ps_while xs.po (pt_GT (e := t)) (pss_GSs (st := body))) ?_
  refine ⟨fun m σ1 H1 => ∃ μ1 ρ1 S1, Ext μ H μ1 H1 ∧ SR X.K L μ1 S1 H1 ∧ ER X.K μ1 H1 ρ1 σ1 ∧ PoS T.tb X L μ1 H1 E W (whileGo (ev C c) (evS C b) m ρ1 S1), ⟨C.W, μ, ρ, S, .refl, sr, er, h⟩, ?_⟩
  rintro m σ1 H1 ⟨μ1, ρ1, S1, e1, s1, er1, h1⟩
  cases m with
  | zero => exact False.elim h1
  | succ m =>
    have h2 : PoS T.tb X L μ1 H1 E W ((ev C c ρ1 S1).then ρ1 fun x S2 => match tru S2 x with
      | some true => (match evS C b ρ1 S2 with
        | .nx ρ2 S3 => whileGo (ev C c) (evS C b) m ρ2 S3
        | .ct ρ2 S3 => whileGo (ev C c) (evS C b) m ρ2 S3
        | .bk ρ2 S3 => .nx ρ2 S3
        | r => r)
      | some false => .nx ρ1 S2
      | none => .fl) := by
      have q : whileGo (ev C c) (evS C b) (m + 1) ρ1 S1 = (ev C c ρ1 S1).then ρ1 fun x S2 => match tru S2 x with
        | some true => (match evS C b ρ1 S2 with
          | .nx ρ2 S3 => whileGo (ev C c) (evS C b) m ρ2 S3
          | .ct ρ2 S3 => whileGo (ev C c) (evS C b) m ρ2 S3
          | .bk ρ2 S3 => .nx ρ2 S3
          | r => r)
        | some false => .nx ρ1 S2
        | none => .fl := by
        rw [whileGo]
        cases ev C c ρ1 S1 <;> rfl
      rw [← q]
      exact h1
    refine (sndAll c).t X t xo c1 L μ1 ρ1 S1 σ1 H1 _ W hb er1 s1 tk (PoS.condT er1 h2 fun S2 μ2 H2 b' e2 s2 h3 => ?_)
    have er2 := er1.mono e2
    cases b' with
    | false =>
      rw [if_neg Bool.false_ne_true]
      exact h3 σ1 μ2 H2 .refl s2 er2
    | true =>
      rw [if_pos rfl]
      refine ⟨fun σ3 H3 => ∃ μ3 ρ3 S3, Ext μ H μ3 H3 ∧ SR X.K L μ3 S3 H3 ∧ ER X.K μ3 H3 ρ3 σ3 ∧ PoS T.tb X L μ3 H3 E W (whileGo (ev C c) (evS C b) m ρ3 S3), fun σ3 H3 q => ⟨m, Nat.lt_succ_self _, q⟩, ?_⟩
      rw [if_pos rfl] at h3
      refine ib X body xo xs c2 L μ2 ρ1 S2 σ1 H2 _ W hb er2 s2 tk ?_
      generalize evS C b ρ1 S2 = r at h3
      cases r with
      | nx ρ3 S3 => exact fun σ3 μ3 H3 e3 s3 er3 => ⟨μ3, ρ3, S3, (e1.trans e2).trans e3, s3, er3, PoS.mono e3 h3⟩
      | ct ρ3 S3 => exact fun σ3 μ3 H3 e3 s3 er3 => ⟨μ3, ρ3, S3, (e1.trans e2).trans e3, s3, er3, PoS.mono e3 h3⟩
      | bk ρ3 S3 => exact h3
      | rt d ρ3 S3 => exact h3
      | er x ρ3 S3 => exact h3
      | fl => exact h3
theorem sndS_for (t : Tg) (s : Ex) (b : Sm) (ib : SndSs T C k b) : SndS T C k (.forr t s b) := by
  intro X st xo xs ck L μ ρ S σ H E W hb er sr tk h
  obtain ⟨tg, iter, body, pos, rfl, ck⟩ := ckS_for ck
  obtain ⟨c1, ck⟩ := ba ck
  obtain ⟨c2, ck⟩ := ba ck
  obtain ⟨c3, ck⟩ := ba ck
  obtain ⟨c4, c5⟩ := ba ck
  refine GS.of (ps_for (tg := tg) xs.po xo.calm (pi_GI (iter := iter)) (pg_GG (e := tg)) (pss_GSs (st := body)) (fold_no c2 _)) ?_
  refine (sndAll s).i X tg iter xo c4 c3 L μ ρ S σ H _ W hb er sr tk (PoS.bindI er h fun ds S1 J μ1 H1 _ e1 s1 j1 h1 => ?_)
  let P : Nat → L2.St → Hp → Prop := fun i σ2 H2 => ∃ μ2 ρ2 S2, Ext μ1 H1 μ2 H2 ∧ SR X.K L μ2 S2 H2 ∧ ER X.K μ2 H2 ρ2 σ2 ∧ PoS T.tb X L μ2 H2 E W (forGo (evS C b) t (ds.drop i) ρ2 S2)
  refine ⟨fun i m σ2 H2 => m = ds.length - i ∧ i ≤ ds.length ∧ P i σ2 H2, ⟨ds.length, rfl, Nat.zero_le _, μ1, ρ, S1, .refl, s1, er.mono e1, h1⟩, ?_⟩
  rintro i m σ2 H2 ⟨rfl, hi, μ2, ρ2, S2, e2, s2, er2, h2⟩
  obtain ⟨go, stop, yld⟩ := j1 μ2 H2 e2 i
  by_cases lt : i < ds.length
  · refine .inr ⟨go lt, P (i + 1), fun σ' H' q => ⟨ds.length - (i + 1), by omega, rfl, lt, q⟩, fun x H' y => ?_⟩
    have hd : ds[i]? = some ds[i] := List.getElem?_eq_getElem lt
    rw [List.drop_eq_getElem_cons lt] at h2
    generalize ds[i] = d at h2 hd
    obtain ⟨e3, s3, r3⟩ := (yld d x H' hd y).use e2 s2
    have h2 := PoS.mono e3 h2
    have er3 := er2.mono e3
    cases qb : bindT t d ρ2 with
    | none =>
      rw [show forGo (evS C b) t (d :: ds.drop (i + 1)) ρ2 S2 = .fl by rw [forGo, qb]] at h2
      exact False.elim h2
    | some ρ3 =>
      rw [show forGo (evS C b) t (d :: ds.drop (i + 1)) ρ2 S2 = (match evS C b ρ3 S2 with
        | .nx ρ2 S2 => forGo (evS C b) t (ds.drop (i + 1)) ρ2 S2
        | .ct ρ2 S2 => forGo (evS C b) t (ds.drop (i + 1)) ρ2 S2
        | .bk ρ2 S2 => .nx ρ2 S2
        | r => r) by (rw [forGo, qb]) <;> rfl] at h2
      refine snd_tg xo.nd xo.calm (fun x hx => ⟨loc_ok hx, fnl xs hx⟩) H' (fun _ _ q => q) t tg c1 d ρ2 ρ3 x σ2 μ2 _ qb er3 r3 fun σ3 er4 _ => ?_
      refine ib X body xo xs c5 L μ2 ρ3 S2 σ3 H' _ W hb er4 s3 tk ?_
      generalize evS C b ρ3 S2 = r at h2
      cases r with
      | nx ρ3 S3 => exact fun σ4 μ4 H4 e4 s4 er4 => ⟨μ4, ρ3, S3, (e2.trans e3).trans e4, s4, er4, PoS.mono e4 h2⟩
      | ct ρ3 S3 => exact fun σ4 μ4 H4 e4 s4 er4 => ⟨μ4, ρ3, S3, (e2.trans e3).trans e4, s4, er4, PoS.mono e4 h2⟩
      | bk ρ3 S3 => exact h2
      | rt d ρ3 S3 => exact h2
      | er x ρ3 S3 => exact h2
      | fl => exact h2
  · have ie : i = ds.length := by omega
    subst ie
    rw [List.drop_length] at h2
    exact .inl ⟨stop (Nat.le_refl _), h2 σ2 μ2 H2 .refl s2 er2⟩
end
end EV
/-! EV17b: raise X(), try .. except X as n. -/
namespace EV
open PySem PySem.Spec PyProof.Rows L2
section
variable {T : Sta} {C : Cl} {k : Nat}
section
variable {N : List Str} {sc : Scope} {st : Stmt}
theorem ckS_rais {c : Nat} (h : ckS T N (.rais c .nil) sc st = true) : ∃ x p pos pos', st = .Raise (some (.Call (.Name x p) [] [] pos)) none pos' ∧ (ckG sc x && (match T.tb c with
    | some (y, []) => decide (x = y)
    | _ => false)) = true := by
  unfold ckS at h
  split at h <;> first | (cases h; done) | skip
  all_goals (rename_i heq; cases heq <;> exact ⟨_, _, _, _, rfl, h⟩)
theorem ckS_tryy {b hs : Sm} (h : ckS T N (.tryy b hs) sc st = true) : ∃ body h0 hds pos, st = .Try body (h0 :: hds) [] [] pos ∧ (ckSs T N b sc body && ckH T N hs sc (h0 :: hds)) = true := by
  unfold ckS at h
  split at h <;> first | (cases h; done) | skip
  all_goals (rename_i heq; cases heq <;> exact ⟨_, _, _, _, rfl, h⟩)
end
theorem sndS_rais (c : Nat) : SndS T C k (.rais c .nil) := by
  intro X st xo xs ck L μ ρ S σ H E W hb er sr tk h
  obtain ⟨x, p, pos, pos', rfl, ck⟩ := ckS_rais ck
  obtain ⟨c1, c2⟩ := ba ck
  obtain ⟨g, n⟩ := ckG_ok c1
  split at c2
  · rename_i y q
    have e := of_decide_eq_true c2
    subst e
    obtain ⟨a, m, e⟩ := xo.hc.exc.one c x q
    refine GS.of (ps_raise xo.calm tk (pmk_own0 PySem.F.excBase_ValueError e.q m e.kp (raises_own e.sb e.ty) g (okN_ok n).1)) ?_
    exact h (.ref a) none σ μ H .refl sr er ⟨c, [], x, [], a, rfl, q, m, rfl, .inl ⟨rfl, rfl, rfl⟩⟩
  · cases c2
/-- an except suite's list -/
def suV (isi : D → List CR → Option Bool) (c : Nat) (vs : List D) : Ex → Option (List D)
  | .nil => some []
  | .cons (.k d) as => (suV isi c vs as).map (d :: ·)
  | .cons (.isi _ cs) as => match isi (.exc c vs) cs, suV isi c vs as with
    | some b, some l => some (.bl b :: l)
    | _, _ => none
  | _ => none
theorem su_ev {N : List Str} {sc : Scope} {i : Nat} {n : Str} {c : Nat} {vs : List D} {ρ : Env} {S : Store} (hi : i < ρ.length) : ∀ (es : Ex) (xs : List Expr), ckSu T N sc i n es xs = true →
    (∃ ds, evs C es (ρ.set i (some (.exc c vs))) S = .ok ds S ∧ suV C.isi c vs es = some ds ∧ ds.all isSc = true) ∨ evs C es (ρ.set i (some (.exc c vs))) S = .fl
  | .nil, xs, _ => .inl ⟨[], rfl, rfl, rfl⟩
  | .cons a as, xs, ck => by
    have step : ∀ (d : D) (r : List Expr), ev C a (ρ.set i (some (.exc c vs))) S = .ok d S → isSc d = true → (∀ l, suV C.isi c vs as = some l → suV C.isi c vs (.cons a as) = some (d :: l)) → ckSu T N sc i n as r = true →
        (∃ ds, evs C (.cons a as) (ρ.set i (some (.exc c vs))) S = .ok ds S ∧ suV C.isi c vs (.cons a as) = some ds ∧ ds.all isSc = true) ∨ evs C (.cons a as) (ρ.set i (some (.exc c vs))) S = .fl := by
      intro d r e1 e2 e3 ck
      have hx : evs C (.cons a as) (ρ.set i (some (.exc c vs))) S = (ev C a (ρ.set i (some (.exc c vs))) S).bind fun x S1 => (evs C as (ρ.set i (some (.exc c vs))) S1).bind fun xs S2 => .ok (x :: xs) S2 := rfl
      rcases su_ev hi as r ck with ⟨ds, h1, h2, h3⟩ | h1
      · refine .inl ⟨d :: ds, ?_, e3 ds h2, ?_⟩
        · rw [hx, e1]
          show (evs C as (ρ.set i (some (.exc c vs))) S).bind _ = _
          rw [h1]
          rfl
        · rw [List.all_cons, e2, h3]
          rfl
      · refine .inr ?_
        rw [hx, e1]
        show (evs C as (ρ.set i (some (.exc c vs))) S).bind _ = _
        rw [h1]
        rfl
    unfold ckSu at ck
    split at ck
    · rename_i heq; cases heq
    · rename_i d as' c' p1 p2 es' heq
      cases heq
      obtain ⟨c1, c2⟩ := ba ck
      have s : isSc d = true := by
        cases d <;> cases c' <;> simp only [ckC, reduceCtorEq, Bool.false_eq_true] at c1 <;> rfl
      exact step d es' rfl s (fun l hl => by unfold suV; rw [hl]; rfl) c2
    · rename_i i' t as' x p1 m p2 y p3 p4 es' heq
      cases heq
      obtain ⟨c1, ck⟩ := ba ck
      have e := of_decide_eq_true c1
      subst e
      have ck2 : ckSu T N sc i' n as es' = true := (ba (ba (ba (ba (ba (ba ck).2).2).2).2).2).2
      have hv : ev C (.isi (.v i') [.ty t]) (ρ.set i' (some (.exc c vs))) S = R.of ((C.isi (.exc c vs) [.ty t]).map .bl) S := by
        have e1 : ev C (.v i') (ρ.set i' (some (.exc c vs))) S = .ok (.exc c vs) S := by
          show R.of ((ρ.set i' (some (.exc c vs))).getD i' none) S = _
          rw [List.getD_eq_getElem?_getD, List.getElem?_set_self hi]
          rfl
        show (ev C (.v i') (ρ.set i' (some (.exc c vs))) S).bind _ = _
        rw [e1]
        rfl
      cases q : C.isi (.exc c vs) [.ty t] with
      | none =>
        refine .inr ?_
        show (ev C (.isi (.v i') [.ty t]) (ρ.set i' (some (.exc c vs))) S).bind _ = _
        rw [hv, q]
        rfl
      | some b =>
        exact step (.bl b) es' (by rw [hv, q]; rfl) rfl (fun l hl => by unfold suV; rw [q, hl]) ck2
    · cases ck
  | .v _, xs, ck | .k _, xs, ck | .gc _ _, xs, ck | .un _ _, xs, ck | .bi _ _ _, xs, ck | .cm _ _ _, xs, ck | .cm2 _ _ _ _ _, xs, ck | .cm3 _ _ _ _ _ _ _, xs, ck | .rgl _ _ _, xs, ck | .an _ _, xs, ck | .orr _ _, xs, ck | .ite _ _ _, xs, ck
  | .tu _, xs, ck | .li _, xs, ck | .star _ _, xs, ck | .ix _ _, xs, ck | .sl _ _ _, xs, ck | .no, xs, ck | .rv _, xs, ck | .cal _ _, xs, ck | .calz _ _, xs, ck | .calk _ _ _ _ _, xs, ck | .pr _ _, xs, ck | .isi _ _, xs, ck | .lc _ _ _ _ _, xs, ck
  | .rg1 _, xs, ck | .rg2 _ _, xs, ck | .rgd _ _, xs, ck | .pop _ _, xs, ck | .idf _ _ _, xs, ck | .rgt _ _, xs, ck | .en _, xs, ck | .zp _ _, xs, ck | .fr _, xs, ck | .bad, xs, ck | .it _, xs, ck | .yes, xs, ck => by simp only [ckSu, Bool.false_eq_true] at ck
theorem su_ga {X : Cx} (xo : XOk T C k X) {i : Nat} {n : Str} (hN : X.N[i]? = some n) (hln : knd X.env.scope n = some .local) {a A : Addr} {oe : Obj} {pn : List (Addr × Obj)} {c : Nat} {x1 : Str} (t1 : T.tb c = some (x1, [])) (m1 : X.mg x1 = some (.ref A))
    (hz : Zc (.ref A) none oe) (hf : ∃ vs, oe.data = .fields vs) : ∀ (es : Ex) (xs : List Expr) (ds : List D), ckSu T X.N X.env.scope i n es xs = true → suV C.isi c [] es = some ds →
    ∀ (σ : L2.St) (H : Hp) (Q : List V → Hp → Prop), σ[i]? = some (some (.ref a)) → Q (ds.map scV) H → GA (X.suite a ((a, oe) :: pn)) xs σ H Q := by
  obtain ⟨A', m2, eK⟩ := xo.hc.exc.one c x1 t1
  have eA : A' = A := by rw [m1] at m2; cases m2; rfl
  subst eA
  intro es
  induction es with
  | nil =>
    intro xs ds ck e σ H Q hs q
    cases xs <;> simp only [ckSu, Bool.false_eq_true] at ck
    cases e
    exact GA.of pa_nil q
  | cons a0 as _ ih =>
    intro xs ds ck e σ H Q hs q
    unfold ckSu at ck
    split at ck
    · rename_i heq; cases heq
    · rename_i d as' c' p1 p2 es' heq
      cases heq
      obtain ⟨c1, c2⟩ := ba ck
      unfold suV at e
      simp only [Option.map_eq_some_iff] at e
      obtain ⟨l, e1, rfl⟩ := e
      refine GA.of (pa_cons (ckC_ok c1).1 (pa_GA (es := es')) rfl) ?_
      exact ih es' l c2 e1 σ H _ hs q
    · rename_i i' t as' x p1 m p2 y p3 p4 es' heq
      cases heq
      obtain ⟨c1, ck⟩ := ba ck
      have ei := of_decide_eq_true c1
      subst ei
      obtain ⟨c2, ck⟩ := ba ck
      have em := of_decide_eq_true c2
      subst em
      obtain ⟨c3, ck⟩ := ba ck
      obtain ⟨c4, ck⟩ := ba ck
      obtain ⟨c5, ck⟩ := ba ck
      obtain ⟨c6, ck⟩ := ba ck
      obtain ⟨c7, c8⟩ := ba ck
      obtain ⟨_, g, nn, mm⟩ := ckB_ok xo c4
      obtain ⟨n1, _, n3⟩ := okN_ok nn
      obtain ⟨_, gy, ny, my⟩ := ckB_ok xo c6
      obtain ⟨ny1, _, ny3⟩ := okN_ok ny
      obtain ⟨nm1, nm2, _⟩ := okN_ok c3
      unfold suV at e
      cases q1 : C.isi (.exc c []) [.ty t] with
      | none => rw [q1] at e; cases e
      | some b =>
        cases q2 : suV C.isi c [] as with
        | none => rw [q1, q2] at e; cases e
        | some l =>
          rw [q1, q2] at e
          cases e
          have kit := kitOne_of (xo.hc.isi (.exc c []) [.ty t] b (.ref A') [.type t] q1 (by show (T.tb c).bind (fun p => X.mg p.1) = _; rw [t1]; exact m1) rfl)
          have vis : Vis X.env.scope m := .inl hln
          have p1 := pe_callB (X := X.suite a ((a, oe) :: pn)) (p := p1) (pos := p4) (call_isE eK.ex hz hf) g mm (bootB_ok c5)
            (pa_cons (pe_var (i := i') (pos := p2) hN vis nm1 nm2) (pa_cons (pe_bltn (v := .ty t) (pos := p3) gy my (bootB_ok c7) rfl ny3 ny1) pa_nil rfl) rfl) n3 n1 rfl rfl
          refine GA.of (pa_cons p1 (pa_GA (es := es')) rfl) ?_
          refine ⟨.ref a, hs, ?_⟩
          exact ⟨.ty t, .type t, b, rfl, fun u r => r, kit, ih es' l c8 q2 σ H _ hs q⟩
    · cases ck
  | _ => intro xs ds ck; simp only [ckSu, Bool.false_eq_true] at ck
theorem ckSui_ok {N : List Str} {sc : Scope} {i : Nat} {n : Str} {b : Sm} {body : List Stmt} (h : ckSui T N sc i n b body = true) :
    (∃ j es y py ys pl pa, b = .cons (.set j (.li es)) .nil ∧ body = [.Assign [.Name y py] (.List ys pl) pa] ∧ (decide (j ≠ i) && (decide (N[j]? = some y) && (locB sc y && ckSu T N sc i n es ys))) = true) ∨
    ∃ es ys pl pa, b = .cons (.ret (.li es)) .nil ∧ body = [.Return (some (.List ys pl)) pa] ∧ ckSu T N sc i n es ys = true := by
  unfold ckSui at h
  split at h
  · exact .inl ⟨_, _, _, _, _, _, _, rfl, rfl, h⟩
  · exact .inr ⟨_, _, _, _, rfl, rfl, h⟩
  · cases h
theorem set3 {α : Type} (l : List α) {i j : Nat} (h : j ≠ i) (a b c : α) : ((l.set i a).set j b).set i c = (l.set j b).set i c := by
  rw [List.set_comm a b (Ne.symm h), List.set_set]
theorem hds_ok {X : Cx} (xo : XOk T C k X) (xs : XS X) : ∀ (hs : Sm) (hds : List ExceptHandler), ckH T X.N hs X.env.scope hds = true → ∃ l : List HdA, HdsAs X hds l ∧ ∀ (E : Ends) (W : WX) (L : Nat → Option Nat) (μ : List Addr) (σ : L2.St) (H : Hp) (c : Nat) (vs : List D) (ρ : Env) (S : Store) (cc : Value) (dd : Option Addr),
    ER X.K μ H ρ σ → SR X.K L μ S H → ErR T.tb X.mg X.K (.exc c vs) cc dd H → PoS T.tb X L μ H E W (evH C hs c vs ρ S) → wManyA X.K W E l cc dd σ H := by
  intro hs
  induction hs with
  | nil =>
    intro hds ck
    cases hds with
    | nil => exact ⟨[], .nil, fun E W L μ σ H c vs ρ S cc dd er sr ee h => h cc dd σ μ H .refl sr er ee⟩
    | cons _ _ => simp only [ckH, Bool.false_eq_true] at ck
  | han cs i0 b more _ ihm =>
    intro hds ck
    unfold ckH at ck
    split at ck
    · rename_i heq; cases heq
    · rename_i c0 i b' more' x np n body pos' hds0 heq
      cases heq
      obtain ⟨c1, ck⟩ := ba ck
      obtain ⟨c2, ck⟩ := ba ck
      obtain ⟨c3, ck⟩ := ba ck
      obtain ⟨c4, ck⟩ := ba ck
      obtain ⟨c5, c6⟩ := ba ck
      obtain ⟨g, nn⟩ := ckG_ok c1
      have c3 := of_decide_eq_true c3
      have c4 : X.env.kindOf n = some .local := of_decide_eq_true c4
      obtain ⟨l, hl, hw⟩ := ihm hds0 c6
      split at c2
      · rename_i y q
        have e := of_decide_eq_true c2
        subst e
        obtain ⟨a0, m0, e0⟩ := xo.hc.exc.one c0 x q
        have nm : Names X x (.ref a0) := ⟨g, (okN_ok nn).1, .inl m0⟩
        rcases ckSui_ok c5 with ⟨j, es, y, py, ys, pl, pa, rfl, rfl, c5⟩ | ⟨es, ys, pl, pa, rfl, rfl, c5⟩
        · obtain ⟨d1, d⟩ := ba c5
          obtain ⟨d2, d⟩ := ba d
          obtain ⟨d3, d4⟩ := ba d
          have d1 := of_decide_eq_true d1
          have d2 := of_decide_eq_true d2
          refine ⟨(.ref a0, i, fun a cls d D' σ H => σ[i]? = some (some (.ref a)) ∧ d = none ∧ ∃ (c : Nat) (x1 : Str) (A : Addr) (ds : List D), cls = .ref A ∧ T.tb c = some (x1, []) ∧ X.mg x1 = some (.ref A) ∧ suV C.isi c [] es = some ds ∧ ds.length ≤ lim ∧
            ∀ p, H p = none → D'.nx (σ.set j (some (.ref p))) (upd H p (.lst (ds.map scV)))) :: l, .cons c3 c4 nm (fun a oe cls d pn hz hf => ⟨fun pins s σ H D I hh => ?_⟩) hl, ?_⟩
          · obtain ⟨h1, hd, c, x1, A, ds, ec, t1, m1, e1, hlen, q2⟩ := hh
            subst ec hd
            refine GSs.of (pss_cons (ps_set (X := X.suite a ((a, oe) :: pn)) (i := j) xo.nd d2 (loc_ok d3) (pe_lst (pa_GA (es := ys))) rfl (fnl xs d3)) pss_nil) ?_ pins s I
            exact su_ga xo c3 c4 t1 m1 hz hf es ys ds d4 e1 σ H _ h1 ⟨by rw [List.length_map, ← lim_eq]; exact hlen, q2⟩
          · intro E W L μ σ H c vs ρ S cc dd er sr ee h
            obtain ⟨c', vs', x1, fs, A, e1, t1, m1, rfl, ed⟩ := ee
            cases e1
            refine ⟨decide (c = c0), xo.hc.exc.two c c0 x1 x fs [] A a0 t1 q m1 m0, fun hb a na => ?_, fun hb => ?_⟩
            · have hc := of_decide_eq_true hb
              subst hc
              rw [q] at t1
              cases t1
              rcases ed with ⟨_, rfl, rfl⟩ | ⟨hne, _⟩
              · have hx : evH C (.han [c] (some i) (.cons (.set j (.li es)) .nil) more) c [] ρ S = if [c].contains c then (if i < ρ.length then (match evS C (.cons (.set j (.li es)) .nil) (ρ.set i (some (.exc c []))) S with
                  | .nx ρ1 S1 => .nx (ρ1.set i none) S1
                  | .rt d ρ1 S1 => .rt d (ρ1.set i none) S1
                  | _ => .fl) else .fl) else evH C more c [] ρ S := rfl
                rw [hx, if_pos (by simp)] at h
                by_cases hi : i < ρ.length
                · rw [if_pos hi] at h
                  have hs : evS C (.cons (.set j (.li es)) .nil) (ρ.set i (some (.exc c []))) S = match (R.then ((evs C es (ρ.set i (some (.exc c []))) S).bind fun xs S1 => if xs.length ≤ lim then .ok (.lst xs) S1 else .fl) (ρ.set i (some (.exc c []))) fun d S1 => RS.nx ((ρ.set i (some (.exc c []))).set j (some d)) S1) with | RS.nx ρ1 S1 => RS.nx ρ1 S1 | r => r := rfl
                  rw [hs] at h
                  rcases su_ev (T := T) (C := C) hi es ys d4 with ⟨ds, v1, v2, v3⟩ | v1
                  · rw [v1] at h
                    by_cases hlen : ds.length ≤ lim
                    · have h : PoS T.tb X L μ H E W (match (match (R.then (if ds.length ≤ lim then (.ok (.lst ds) S : R D) else .fl) (ρ.set i (some (.exc c []))) fun d S1 => RS.nx ((ρ.set i (some (.exc c []))).set j (some d)) S1) with | RS.nx ρ1 S1 => RS.nx ρ1 S1 | r => r) with
                        | .nx ρ1 S1 => .nx (ρ1.set i none) S1
                        | .rt d ρ1 S1 => .rt d (ρ1.set i none) S1
                        | _ => .fl) := h
                      rw [if_pos hlen] at h
                      have h : PoS T.tb X L μ H E W (.nx (((ρ.set i (some (.exc c []))).set j (some (.lst ds))).set i none) S) := h
                      refine ⟨List.getElem?_set_self (er.1 ▸ hi), rfl, c, x, A, ds, rfl, q, m1, v2, hlen, fun p np => ?_⟩
                      refine h _ μ (upd H p (.lst (ds.map scV))) (.laid np) (sr.laid np) ?_
                      rw [set3 ρ d1, set3 σ d1]
                      exact ((er.mono (.laid np)).set (.newL sr np (scs_ok v3))).unset i
                    · have h : PoS T.tb X L μ H E W (match (match (R.then (if ds.length ≤ lim then (.ok (.lst ds) S : R D) else .fl) (ρ.set i (some (.exc c []))) fun d S1 => RS.nx ((ρ.set i (some (.exc c []))).set j (some d)) S1) with | RS.nx ρ1 S1 => RS.nx ρ1 S1 | r => r) with
                        | .nx ρ1 S1 => .nx (ρ1.set i none) S1
                        | .rt d ρ1 S1 => .rt d (ρ1.set i none) S1
                        | _ => .fl) := h
                      rw [if_neg hlen] at h
                      exact False.elim h
                  · rw [v1] at h
                    exact False.elim h
                · rw [if_neg hi] at h
                  exact False.elim h
              · exact absurd rfl hne
            · have hc := of_decide_eq_false hb
              refine hw E W L μ σ H c vs ρ S _ dd er sr ⟨c, vs, x1, fs, A, rfl, t1, m1, rfl, ed⟩ ?_
              have hx : ∀ b i, evH C (.han [c0] (some i) b more) c vs ρ S = if [c0].contains c then (if i < ρ.length then (match evS C b (ρ.set i (some (.exc c vs))) S with
                  | .nx ρ1 S1 => .nx (ρ1.set i none) S1
                  | .rt d ρ1 S1 => .rt d (ρ1.set i none) S1
                  | _ => .fl) else .fl) else evH C more c vs ρ S := fun _ _ => rfl
              rw [hx, if_neg (by simpa using hc)] at h
              exact h
        · refine ⟨(.ref a0, i, fun a cls d D' σ H => σ[i]? = some (some (.ref a)) ∧ d = none ∧ ∃ (c : Nat) (x1 : Str) (A : Addr) (ds : List D), cls = .ref A ∧ T.tb c = some (x1, []) ∧ X.mg x1 = some (.ref A) ∧ suV C.isi c [] es = some ds ∧ ds.length ≤ lim ∧
            ∀ p, H p = none → D'.rt (.ref p) (upd H p (.lst (ds.map scV)))) :: l, .cons c3 c4 nm (fun a oe cls d pn hz hf => ⟨fun pins s σ H D I hh => ?_⟩) hl, ?_⟩
          · obtain ⟨h1, hd, c, x1, A, ds, ec, t1, m1, e1, hlen, q2⟩ := hh
            subst ec hd
            refine GSs.of (pss_cons (ps_ret (X := X.suite a ((a, oe) :: pn)) (pe_lst (pa_GA (es := ys)))) pss_nil) ?_ pins s I
            exact su_ga xo c3 c4 t1 m1 hz hf es ys ds c5 e1 σ H _ h1 ⟨by rw [List.length_map, ← lim_eq]; exact hlen, q2⟩
          · intro E W L μ σ H c vs ρ S cc dd er sr ee h
            obtain ⟨c', vs', x1, fs, A, e1, t1, m1, rfl, ed⟩ := ee
            cases e1
            refine ⟨decide (c = c0), xo.hc.exc.two c c0 x1 x fs [] A a0 t1 q m1 m0, fun hb a na => ?_, fun hb => ?_⟩
            · have hc := of_decide_eq_true hb
              subst hc
              rw [q] at t1
              cases t1
              rcases ed with ⟨_, rfl, rfl⟩ | ⟨hne, _⟩
              · have hx : evH C (.han [c] (some i) (.cons (.ret (.li es)) .nil) more) c [] ρ S = if [c].contains c then (if i < ρ.length then (match evS C (.cons (.ret (.li es)) .nil) (ρ.set i (some (.exc c []))) S with
                  | .nx ρ1 S1 => .nx (ρ1.set i none) S1
                  | .rt d ρ1 S1 => .rt d (ρ1.set i none) S1
                  | _ => .fl) else .fl) else evH C more c [] ρ S := rfl
                rw [hx, if_pos (by simp)] at h
                by_cases hi : i < ρ.length
                · rw [if_pos hi] at h
                  have hs : evS C (.cons (.ret (.li es)) .nil) (ρ.set i (some (.exc c []))) S = match (R.then ((evs C es (ρ.set i (some (.exc c []))) S).bind fun xs S1 => if xs.length ≤ lim then .ok (.lst xs) S1 else .fl) (ρ.set i (some (.exc c []))) fun d S1 => RS.rt d (ρ.set i (some (.exc c []))) S1) with | RS.nx ρ1 S1 => RS.nx ρ1 S1 | r => r := rfl
                  rw [hs] at h
                  rcases su_ev (T := T) (C := C) hi es ys c5 with ⟨ds, v1, v2, v3⟩ | v1
                  · rw [v1] at h
                    by_cases hlen : ds.length ≤ lim
                    · have h : PoS T.tb X L μ H E W (match (match (R.then (if ds.length ≤ lim then (.ok (.lst ds) S : R D) else .fl) (ρ.set i (some (.exc c []))) fun d S1 => RS.rt d (ρ.set i (some (.exc c []))) S1) with | RS.nx ρ1 S1 => RS.nx ρ1 S1 | r => r) with
                        | .nx ρ1 S1 => .nx (ρ1.set i none) S1
                        | .rt d ρ1 S1 => .rt d (ρ1.set i none) S1
                        | _ => .fl) := h
                      rw [if_pos hlen] at h
                      have h : PoS T.tb X L μ H E W (.rt (.lst ds) ((ρ.set i (some (.exc c []))).set i none) S) := h
                      refine ⟨List.getElem?_set_self (er.1 ▸ hi), rfl, c, x, A, ds, rfl, q, m1, v2, hlen, fun p np => ?_⟩
                      exact h _ μ (upd H p (.lst (ds.map scV))) (.laid np) (sr.laid np) (.newL sr np (scs_ok v3))
                    · have h : PoS T.tb X L μ H E W (match (match (R.then (if ds.length ≤ lim then (.ok (.lst ds) S : R D) else .fl) (ρ.set i (some (.exc c []))) fun d S1 => RS.rt d (ρ.set i (some (.exc c []))) S1) with | RS.nx ρ1 S1 => RS.nx ρ1 S1 | r => r) with
                        | .nx ρ1 S1 => .nx (ρ1.set i none) S1
                        | .rt d ρ1 S1 => .rt d (ρ1.set i none) S1
                        | _ => .fl) := h
                      rw [if_neg hlen] at h
                      exact False.elim h
                  · rw [v1] at h
                    exact False.elim h
                · rw [if_neg hi] at h
                  exact False.elim h
              · exact absurd rfl hne
            · have hc := of_decide_eq_false hb
              refine hw E W L μ σ H c vs ρ S _ dd er sr ⟨c, vs, x1, fs, A, rfl, t1, m1, rfl, ed⟩ ?_
              have hx : ∀ b i, evH C (.han [c0] (some i) b more) c vs ρ S = if [c0].contains c then (if i < ρ.length then (match evS C b (ρ.set i (some (.exc c vs))) S with
                  | .nx ρ1 S1 => .nx (ρ1.set i none) S1
                  | .rt d ρ1 S1 => .rt d (ρ1.set i none) S1
                  | _ => .fl) else .fl) else evH C more c vs ρ S := fun _ _ => rfl
              rw [hx, if_neg (by simpa using hc)] at h
              exact h
      · cases c2
    · cases ck
  | _ =>
    intro hds ck
    simp only [ckH, Bool.false_eq_true] at ck
theorem sndS_try (b hs : Sm) (ib : SndSs T C k b) : SndS T C k (.tryy b hs) := by
  intro X st xo xs ck L μ ρ S σ H E W hb er sr tk h
  obtain ⟨body, h0, hds, pos, rfl, ck⟩ := ckS_tryy ck
  obtain ⟨c1, c2⟩ := ba ck
  obtain ⟨l, hl, hw⟩ := hds_ok xo xs hs (h0 :: hds) c2
  refine GS.of (ps_try_asN xs.st xs.fr xo.nd tk (tb := fun W' D σ H => ∃ (L : Nat → Option Nat) (μ : List Addr) (ρ : Env) (S : Store), (∀ n, C.base ≤ n → L n = none) ∧ ER X.K μ H ρ σ ∧ SR X.K L μ S H ∧ PoS T.tb X L μ H D W' (evS C b ρ S))
    (fun W' pn xe tk' po => ⟨fun pins s σ H D I ⟨L, μ, ρ, S, hb, er, sr, h⟩ => ib (X.tr pn xe) body ⟨xo.calm, xo.nd, xo.room, xo.hc⟩ ⟨xs.fn, po, xs.st, xs.fr⟩ c1 L μ ρ S σ H D W' hb er sr tk' h pins s I⟩) hl) ?_
  refine ⟨L, μ, ρ, S, hb, er, sr, ?_⟩
  have h' : PoS T.tb X L μ H E W (match evS C b ρ S with | .er (.exc c vs) ρ1 S1 => evH C hs c vs ρ1 S1 | r => r) := h
  generalize evS C b ρ S = r at h'
  cases r with
  | er e ρ1 S1 =>
    intro cc dd σ' μ' H' e1 s1 er1 ee
    cases e with
    | exc c vs => exact hw E W L μ' σ' H' c vs ρ1 S1 cc dd er1 s1 ee (PoS.mono e1 h')
    | _ => obtain ⟨_, _, _, _, _, z, _⟩ := ee; cases z
  | _ => exact h'
end
end EV
/-! EV18: all statements. -/
namespace EV
open PySem PySem.Spec PyProof.Rows L2
structure AllS (T : Sta) (C : Cl) (k : Nat) (s : Sm) : Prop where
  st : SndS T C k s
  ss : SndSs T C k s
section
variable {T : Sta} {C : Cl} {k : Nat} {s : Sm}
theorem sndS_not (h : ∀ N sc st, ckS T N s sc st = false) : SndS T C k s := fun X st _ _ ck => by rw [h] at ck; cases ck
theorem sndSs_not (h : ∀ N sc st, ckSs T N s sc st = false) : SndSs T C k s := fun X st _ _ ck => by rw [h] at ck; cases ck
theorem AllS.of (h : SndS T C k s) (n : ∀ N sc st, ckSs T N s sc st = false) : AllS T C k s := ⟨h, sndSs_not n⟩
end
theorem sndAllS {T : Sta} {C : Cl} {k : Nat} : ∀ s : Sm, AllS T C k s
  | .nil => ⟨sndS_not fun _ _ _ => rfl, sndSs_nil⟩
  | .cons s t => ⟨sndS_not fun _ _ _ => rfl, sndSs_cons s t (sndAllS s).st (sndAllS t).ss⟩
  | .doc => .of sndS_doc fun _ _ _ => rfl
  | .set i e => .of (sndS_set i e) fun _ _ _ => rfl
  | .asg t e => .of (sndS_asg t e) fun _ _ _ => rfl
  | .aug i o e => .of (sndS_aug i o e) fun _ _ _ => rfl
  | .sub a i e => .of (sndS_sub a i e) fun _ _ _ => rfl
  | .sub2 a i b j e => .of (sndS_sub2 a i b j e) fun _ _ _ => rfl
  | .ex e => .of (sndS_ex e) fun _ _ _ => rfl
  | .app a e => .of (sndS_app a e) fun _ _ _ => rfl
  | .ret e => .of (sndS_ret e) fun _ _ _ => rfl
  | .ite c a b => .of (sndS_ite c a b (sndAllS a).ss (sndAllS b).ss) fun _ _ _ => rfl
  | .forr t s b => .of (sndS_for t s b (sndAllS b).ss) fun _ _ _ => rfl
  | .whil c b => .of (sndS_while c b (sndAllS b).ss) fun _ _ _ => rfl
  | .brk => .of sndS_brk fun _ _ _ => rfl
  | .cnt => .of sndS_cnt fun _ _ _ => rfl
  | .nev => .of sndS_nev fun _ _ _ => rfl
  | .rais c as => by
    cases as with
    | nil => exact .of (sndS_rais c) fun _ _ _ => rfl
    | _ => exact ⟨sndS_not fun _ _ st => by cases st <;> rfl, sndSs_not fun _ _ _ => rfl⟩
  | .tryy b hs => .of (sndS_try b hs (sndAllS b).ss) fun _ _ _ => rfl
  | .han _ _ _ _ => ⟨sndS_not fun _ _ _ => rfl, sndSs_not fun _ _ _ => rfl⟩
end EV
/-! EV19: a def's call is the evaluator's. -/
namespace EV
open PySem PySem.Spec PyProof.Rows L2
section
variable {K : Fg} {ν μ μ' : List Addr} {H : Hp}
theorem kp_less (h : ∀ a, a ∈ μ → a ∈ μ') : Kp μ' H μ H := fun a o q n => ⟨q, fun m => n (h a m)⟩
theorem pre_take {μ μ' : List Addr} (h : ∀ (n : Nat) a, μ[n]? = some a → μ'[n]? = some a) : μ'.take μ.length = μ := by
  refine List.ext_getElem? fun i => ?_
  rw [List.getElem?_take]
  by_cases hi : i < μ.length
  · rw [if_pos hi]
    have := h i _ (List.getElem?_eq_getElem hi)
    rw [this, List.getElem?_eq_getElem hi]
  · rw [if_neg hi, List.getElem?_eq_none (by omega)]
/-- what is handed out -/
theorem fz_ok {L : Nat → Option Nat} {S : Store} (s : SR K L μ' S H) (pre : ∀ (n : Nat) a, μ[n]? = some a → μ'[n]? = some a) (hL : ∀ n, μ.length ≤ n → L n = none) : ∀ (n : Nat) (d d' : D) (v : V), fz S μ.length n d = some d' → RD K μ' μ' H d v → RD K μ μ H d' v := by
  have sub : ∀ a, a ∈ μ → a ∈ μ' := fun a h => by
    obtain ⟨n, hn⟩ := List.getElem?_of_mem h
    exact List.mem_of_getElem? (pre n a hn)
  have fr : ∀ (d : D) (v : V), d.free = true → RD K μ' μ' H d v → RD K μ μ H d v := fun d v h r => RD.anyloc d v h (RD.monoK (kp_less sub) (fun _ _ h => h) _ _ r)
  -- a cell beyond is no cell below
  have out : ∀ m a, μ.length ≤ m → μ'[m]? = some a → a ∉ μ := fun m a hm ha hmem => by
    obtain ⟨n, hn⟩ := List.getElem?_of_mem hmem
    have h1 := pre n a hn
    have hlt := (List.getElem?_eq_some_iff.mp hn).1
    obtain ⟨i1, j1⟩ := List.getElem?_eq_some_iff.mp h1
    obtain ⟨i2, j2⟩ := List.getElem?_eq_some_iff.mp ha
    have := (List.getElem_inj s.nd).mp (j1.trans j2.symm)
    omega
  intro n
  induction n with
  | zero =>
    intro d d' v e r
    unfold fz at e
    split at e
    · rename_i hf
      cases e
      exact fr d v hf r
    · cases e
  | succ n ih =>
    intro d d' v e r
    unfold fz at e
    split at e
    · rename_i hf
      cases e
      exact fr d v hf r
    · split at e
      · rename_i m hnf
        simp only [RD] at r
        obtain ⟨a, rfl, ha⟩ := r
        split at e
        · rename_i hm
          cases e
          simp only [RD]
          refine ⟨a, rfl, ?_⟩
          have h1 := pre m _ (List.getElem?_eq_getElem hm)
          rw [ha] at h1
          cases h1
          exact List.getElem?_eq_getElem hm
        · rename_i hm
          have hm' : μ.length ≤ m := by omega
          have c := s.at_ ha
          unfold cutL at c
          rw [hL m hm'] at c
          dsimp only at c
          have na := out m a hm' ha
          generalize S.getD m .non = z at e c
          cases z <;> (try (cases e; done))
          · rename_i xs
            obtain ⟨vs, h1, h2⟩ := c
            simp only [Option.map_eq_some_iff] at e
            obtain ⟨ys, e1, rfl⟩ := e
            simp only [RD]
            exact ⟨a, vs, rfl, ⟨h1, na⟩, RDs.ofP (allM_ok ih e1 vs h2.paired)⟩
          · rename_i kvs
            obtain ⟨ws, h1, h2⟩ := c
            dsimp only at e
            split at e
            · rename_i hf
              cases e
              simp only [RD]
              exact ⟨a, ws, rfl, ⟨h1, na⟩, RDK.anyloc kvs ws hf (RDK.monoK (kp_less sub) (fun _ _ h => h) _ _ h2)⟩
            · cases e
          · rename_i kvs
            obtain ⟨ws, h1, h2⟩ := c
            dsimp only at e
            split at e
            · rename_i hf
              cases e
              simp only [RD]
              exact ⟨a, ws, rfl, ⟨h1, na⟩, RDT.anyloc kvs ws hf (RDT.monoK (kp_less sub) (fun _ _ h => h) _ _ h2)⟩
            · cases e
      · rename_i xs
        simp only [Option.map_eq_some_iff] at e
        obtain ⟨ys, e1, rfl⟩ := e
        simp only [RD] at r ⊢
        obtain ⟨a, vs, rfl, ⟨h1, h2⟩, r⟩ := r
        exact ⟨a, vs, rfl, ⟨h1, fun m => h2 (sub a m)⟩, RDs.ofP (allM_ok ih e1 vs r.paired)⟩
      · rename_i xs
        simp only [Option.map_eq_some_iff] at e
        obtain ⟨ys, e1, rfl⟩ := e
        simp only [RD] at r ⊢
        obtain ⟨a, vs, rfl, ⟨h1, h2⟩, r⟩ := r
        exact ⟨a, vs, rfl, ⟨h1, fun m => h2 (sub a m)⟩, RDs.ofP (allM_ok ih e1 vs r.paired)⟩
      · cases e
end
/-- the cells of before, locked in themselves -/
def Lb (L : Nat → Option Nat) (b : Nat) : Nat → Option Nat := fun n => if n < b then some (min ((L n).getD b) b) else none
section
variable {K : Fg} {L : Nat → Option Nat} {μ μ' : List Addr} {H H' : Hp} {S S' : Store}
theorem cut_lb (s : SR K L μ S H) {n : Nat} (hn : n < S.length) (pre : ∀ (n : Nat) a, μ[n]? = some a → μ'[n]? = some a) : cutL (Lb L S.length) n μ' = cutL L n μ := by
  unfold cutL Lb
  rw [if_pos hn]
  have ht : μ'.take S.length = μ := by rw [← s.len]; exact pre_take pre
  cases q : L n with
  | none =>
    simp only [Option.getD_none, Nat.min_self]
    exact ht
  | some m =>
    simp only [Option.getD_some]
    rw [← List.take_take, ht]
theorem SR.enter (s : SR K L μ S H) : SR K (Lb L S.length) μ S H := by
  refine ⟨s.len, s.nd, fun n d a h1 h2 => ?_, fun n hn => by unfold Lb; rw [if_neg (by omega)]⟩
  rw [cut_lb s (List.getElem?_eq_some_iff.mp h1).1 fun _ _ h => h]
  exact s.cell n d a h1 h2
theorem SR.leave (s : SR K L μ S H) (e : Ext μ H μ' H') (s' : SR K (Lb L S.length) μ' S' H') : SR K L μ (S'.take S.length) H' ∧ Ext μ H μ H' := by
  have sub : ∀ a, a ∈ μ → a ∈ μ' := fun a h => by
    obtain ⟨n, hn⟩ := List.getElem?_of_mem h
    exact List.mem_of_getElem? (e.pre n a hn)
  have hlen : S.length ≤ S'.length := by
    rw [← s.len, ← s'.len]
    have := congrArg List.length (pre_take e.pre)
    rw [List.length_take] at this
    omega
  refine ⟨⟨by rw [List.length_take, s.len]; omega, s.nd, fun n d a h1 h2 => ?_, fun n hn => s.top n (by rw [List.length_take] at hn; omega)⟩, fun _ _ h => h, fun a o q n => ⟨(e.keep a o q n).1, n⟩⟩
  rw [List.getElem?_take] at h1
  split at h1
  · rename_i hn
    have c := s'.cell n d a h1 (e.pre n a h2)
    rw [cut_lb s hn e.pre] at c
    have kp : Kp μ' H' μ H' := kp_less sub
    revert c
    cases d <;> intro c <;> first | exact False.elim c | skip
    · obtain ⟨xs, h3, h4⟩ := c
      exact ⟨xs, h3, RDs.monoK kp (fun _ _ h => h) _ _ h4⟩
    · obtain ⟨xs, h3, h4⟩ := c
      exact ⟨xs, h3, RDK.monoK kp (fun _ _ h => h) _ _ h4⟩
    · obtain ⟨xs, h3, h4⟩ := c
      exact ⟨xs, h3, RDT.monoK kp (fun _ _ h => h) _ _ h4⟩
  · cases h1
theorem er_start {K : Fg} {μ : List Addr} {H : Hp} {ds : List D} {vs : List V} (N : List Str) (r : RDs K μ μ H ds vs) : ER K μ H (startD N.length ds) (L2.start N vs) := by
  unfold startD L2.start
  rw [r.length]
  refine ⟨by simp [r.length], fun i d h => ?_⟩
  by_cases hi : i < ds.length
  · rw [List.getElem?_append_left (by simpa using hi)] at h
    simp only [List.getElem?_map, Option.map_eq_some_iff] at h
    obtain ⟨d', h1, h2⟩ := h
    cases h2
    obtain ⟨v, hv, rv⟩ := r.at_ h1
    exact ⟨v, by rw [List.getElem?_append_left (by simp [r.length, hi])]; simp [hv], rv⟩
  · rw [List.getElem?_append_right (by simpa using hi)] at h
    rw [List.getElem?_replicate] at h
    split at h <;> cases h
end
/-- the written scope of a def -/
def fnScB (N P : List Str) (sc : Scope) : Bool := decide (sc.kind = .function) && (!sc.isCoroutine && (!sc.isGenerator && (decide N.Nodup && (decide (N.take P.length = P) && (P.all (fun x => decide (sc.names.lookup x = some .local) || decide (sc.names.lookup x = some .cell)) && sc.names.all fun y => decide (y.2 ≠ .free))))))
theorem fnScB_ok {N P : List Str} {sc : Scope} (h : fnScB N P sc = true) : FnScope N P sc := by
  simp only [fnScB, Bool.and_eq_true, Bool.not_eq_true', decide_eq_true_eq, List.all_eq_true, Bool.or_eq_true] at h
  obtain ⟨h1, h2, h3, h4, h5, h6, h7⟩ := h
  exact ⟨h1, h2, h3, h4, h5, h6, h7⟩
/-- what is known of the module -/
structure ModOk (T : Sta) (K : Fg) (mg : Str → Option Value) (isi : D → List CR → Option Bool) : Prop where
  free : ∀ x ∈ T.free, mg x = none
  con : ∀ x d, T.con.lookup x = some d → isSc d = true ∧ ∃ u, mg x = some u ∧ RelV (scV d) u
  cls : ∀ c x fs, T.tb c = some (x, fs) → ∃ a, mg x = some (.ref a)
  isi : ∀ d cs b t us, isi d cs = some b → tyD mg T.tb d = some t → crVs mg T.tb cs = some us → PySem.W.kitAny K t us = some b
  exc : ExOk T.tb K mg
  fn : ∀ f fn, T.P f = some fn → ∃ ad fd qual params body scope, mg fn.name = some (.ref ad) ∧ FunD K fn.name qual params body scope (fn.dfl.map scV) [] ad fd ∧ fnScB fn.ns fn.ps scope = true ∧ ckSs T fn.ns fn.body scope body = true ∧
    (∀ n, n ≤ fn.ps.length → fn.ps.length ≤ n + fn.dfl.length → (dflOf T.P f n).all isSc = true ∧ (n + (dflOf T.P f n).length = fn.ps.length) ∧ ∃ ds, Vals ((dflOf T.P f n).map scV) ds ∧ Binds K fd fn.ps ds) ∧
    (∀ n ks perm, (f, n, ks, perm) ∈ T.kws → perm.length = fn.ps.length ∧ (dflOf T.P f 0).all isSc = true ∧ ∃ ds, Vals ((dflOf T.P f 0).map scV) ds ∧
      ∀ (s : Shared) (us ws : List Value), K.In s.heap → us.length = n → ws.length = ks.length → BindsTo s fd ⟨us, ks.zip ws⟩ (fn.ps.zip (perm.map fun i => (us ++ ws ++ ds).getD i .none)))
section
variable {T : Sta} {prog : Program} {w : World} {K : Fg} {mg : Str → Option Value} {base : Heap} {isi : D → List CR → Option Bool} (M : ModOk T K mg isi) (W : Nat)
include M
abbrev FnS (T : Sta) (prog : Program) (w : World) (K : Fg) (mg : Str → Option Value) (base : Heap) (call : CallF) (k : Nat) : Prop := ∀ f fn, T.P f = some fn → ∃ ad fd, mg fn.name = some (.ref ad) ∧ PySem.W.keepIn K (.ref ad) = true ∧
    (∀ n, n ≤ fn.ps.length → fn.ps.length ≤ n + fn.dfl.length → (dflOf T.P f n).all isSc = true ∧ (n + (dflOf T.P f n).length = fn.ps.length) ∧ ∃ ds, Vals ((dflOf T.P f n).map scV) ds ∧ Binds K fd fn.ps ds) ∧
    (∀ n ks perm, (f, n, ks, perm) ∈ T.kws → perm.length = fn.ps.length ∧ (dflOf T.P f 0).all isSc = true ∧ ∃ ds, Vals ((dflOf T.P f 0).map scV) ds ∧
      ∀ (s : Shared) (us ws : List Value), K.In s.heap → us.length = n → ws.length = ks.length → BindsTo s fd ⟨us, ks.zip ws⟩ (fn.ps.zip (perm.map fun i => (us ++ ws ++ ds).getD i .none))) ∧
    FnOk prog w K mg base (L2.CX prog w) k ad fd fn.ps (spF T.tb K mg call f fn.ps.length)
theorem fn_step (k : Nat) (ih : FnS T prog w K mg base (run T.P isi W k) k) {f : Nat} {fn : Fn} (e : T.P f = some fn) {ad : Addr} {fd : FuncData} {qual : Str} {params : Arguments} {body : List Stmt} {scope : Scope} {dvs : List V}
    (F : FunD K fn.name qual params body scope dvs [] ad fd) (sc : fnScB fn.ns fn.ps scope = true) (ck : ckSs T fn.ns fn.body scope body = true) : FnOk prog w K mg base (L2.CX prog w) (k + 1) ad fd fn.ps (spF T.tb K mg (run T.P isi W (k + 1)) f fn.ps.length) := by
    refine F.ok (k := k) (N := fn.ns) (fnScB_ok sc) (fun vs H Q E h => h.1) fun cdv A outer s H vs Q E hr hs => ?_
    obtain ⟨hlen, L, b, μ, S, ds, sr, hb, rds, h⟩ := hs
    generalize hX : cxOf (L2.CX prog w) prog w K mg base fn.ns qual scope ad cdv A outer s H E = X
    refine ⟨GSs X body, pss_GSs, ?_⟩
    have hds : ds.length = fn.ps.length := by rw [← rds.length]; exact hlen
    let b' := if fn.keep then b else S.length
    let C : Cl := { call := run T.P isi W k, base := b', isi := isi, W := W, dfl := dflOf T.P }
    have hrun : run T.P isi W (k + 1) b f ds S = endC fn.keep b' (evS C fn.body (startD fn.ns.length ds) S) := by
      show (match T.P f with | none => _ | some fn => _) = _
      rw [e]
      exact if_pos hds
    rw [hrun] at h
    have xo : XOk T C k X := by
      subst hX
      exact ⟨rfl, (fnScB_ok sc).nd, hr, ⟨rfl, M.free, M.con, M.cls, M.isi, M.exc, ih⟩⟩
    obtain ⟨E₁, hxe⟩ : ∃ E₁ : Value → Shared → Prop, X.xe = fun e s' => wpAny (model X.prog X.w) X.A (leaving X.env e) (fun _ s'' => L2.CX X.prog X.w X.outer X.H_0 X.s_0 E e s'') E₁ s' := by subst hX; exact ⟨_, rfl⟩
    have xs : XS X := by
      refine ⟨fun x hx => ?_, ?_, ?_, ?_⟩
      · subst hX; rfl
      · exact passes_of hxe
      · subst hX; rfl
      · subst hX; rfl
    have tk : Takes X fun c dd _ H => E c dd H := by
      subst hX
      exact takes_of rfl rfl rfl rfl
    have scp : X.env.scope = scope := by subst hX; rfl
    have nX : X.N = fn.ns := by subst hX; rfl
    have kX : X.K = K := by subst hX; rfl
    have mX : X.mg = mg := by subst hX; rfl
    have ck' : ckSs T X.N fn.body X.env.scope body = true := by rw [nX, scp]; exact ck
    have start_ : ER X.K μ H (startD fn.ns.length ds) (L2.start fn.ns vs) := by rw [kX]; exact er_start fn.ns rds
    cases qk : fn.keep with
    | true =>
      have eb : b' = b := by show (if fn.keep then b else S.length) = b; rw [qk]; rfl
      refine (sndAllS fn.body).ss X body xo xs ck' L μ _ S _ H _ (fun c dd _ H => E c dd H) (by show ∀ n, b' ≤ n → L n = none; rw [eb]; exact hb) start_ (by rw [kX]; exact sr) tk ?_
      rw [qk] at h
      generalize evS C fn.body (startD fn.ns.length ds) S = r at h
      cases r with
      | fl => exact h
      | bk ρ S1 => exact False.elim h
      | ct ρ S1 => exact False.elim h
      | nx ρ S1 => exact fun σ' μ' H' e1 s1 er1 => h .non μ' H' e1 (by rw [← kX]; exact s1) .n
      | rt d ρ S1 => exact fun v μ' H' e1 s1 r1 => h v μ' H' e1 (by rw [← kX]; exact s1) (by rw [← kX]; exact r1)
      | er x ρ S1 => exact fun c dd σ' μ' H' e1 s1 er1 q => h c dd μ' H' e1 (by rw [← kX]; exact s1) (by rw [← kX, ← mX]; exact q)
    | false =>
      have eb : b' = S.length := by show (if fn.keep then b else S.length) = S.length; rw [qk]; rfl
      refine (sndAllS fn.body).ss X body xo xs ck' (Lb L S.length) μ _ S _ H _ (fun c dd _ H => E c dd H) (by
        show ∀ n, b' ≤ n → Lb L S.length n = none
        intro n hn
        unfold Lb
        rw [if_neg (by omega)]) start_ (by rw [kX]; exact sr.enter) tk ?_
      rw [qk, eb] at h
      generalize evS C fn.body (startD fn.ns.length ds) S = r at h
      have frz : ∀ (d : D) (S1 : Store) (v : V) (μ' : List Addr) (H' : Hp), PoC T.tb K mg L μ H Q E (fin false S.length S1 d) → Ext μ H μ' H' → SR X.K (Lb L S.length) μ' S1 H' → RD X.K μ' μ' H' d v → Q v H' := by
        intro d S1 v μ' H' h e1 s1 r1
        rw [kX] at s1 r1
        have h' : PoC T.tb K mg L μ H Q E (match fz S1 S.length 8 d with | some d' => .ok d' (S1.take S.length) | none => .fl) := h
        cases q : fz S1 S.length 8 d with
        | none => rw [q] at h'; exact False.elim h'
        | some d' =>
          rw [q] at h'
          obtain ⟨s2, e2⟩ := sr.leave e1 s1
          have r2 := fz_ok s1 e1.pre (fun n hn => by unfold Lb; rw [if_neg (by rw [sr.len] at hn; omega)]) 8 d d' v (by rw [sr.len]; exact q) r1
          exact h' v μ H' e2 s2 r2
      cases r with
      | fl => exact h
      | bk ρ S1 => exact False.elim h
      | ct ρ S1 => exact False.elim h
      | nx ρ S1 => exact fun σ' μ' H' e1 s1 er1 => frz .non S1 .non μ' H' h e1 s1 .n
      | rt d ρ S1 => exact fun v μ' H' e1 s1 r1 => frz d S1 v μ' H' h e1 s1 r1
      | er x ρ S1 =>
        intro c dd σ' μ' H' e1 s1 er1 q
        have h' : PoC T.tb K mg L μ H Q E (if x.free then .er x (S1.take S.length) else .fl) := h
        split at h'
        · rw [kX] at s1
          obtain ⟨s2, e2⟩ := sr.leave e1 s1
          exact h' c dd μ H' e2 s2 (by rw [← kX, ← mX]; exact q)
        · exact False.elim h'
theorem fns_ok : ∀ k : Nat, FnS T prog w K mg base (run T.P isi W k) k := by
  intro k
  induction k with
  | zero =>
    intro f fn e
    obtain ⟨ad, fd, qual, params, body, scope, m, F, sc, ck, bd, kw⟩ := M.fn f fn e
    refine ⟨ad, fd, m, F.kp, bd, kw, fun vs H Q E h => h.1, fun A outer s H args us vs Q E hr he hb hv hs => ?_⟩
    obtain ⟨_, L, b, μ, S, ds, _, _, _, h⟩ := hs
    exact False.elim h
  | succ k ih =>
    intro f fn e
    obtain ⟨ad, fd, qual, params, body, scope, m, F, sc, ck, bd, kw⟩ := M.fn f fn e
    exact ⟨ad, fd, m, F.kp, bd, kw, fn_step M W k ih e F sc ck⟩
end
end EV
/-! EV20: types, the law's entry. -/
namespace EV
open PySem PySem.Spec PyProof.Rows L2
/-- isinstance of built-in types -/
def tyN : D → Option String
  | .non => some "NoneType" | .bl _ => some "bool" | .int _ => some "int" | .str _ => some "str" | .tup _ => some "tuple" | .lst _ => some "list" | .fzn _ => some "list" | .dK _ => some "dict" | .dT _ => some "dict"
  | _ => none
def tyL : List String := ["int", "bool", "tuple", "list", "str", "dict"]
def subT (t c : String) : Bool := t == c || (t == "bool" && c == "int")
/-- the built-in class of an own error, by its number in the program's errors -/
def excB (c : Nat) : String := if c < 4 then "LookupError" else "ValueError"
def isi0 (d : D) : List CR → Option Bool
  | [] => some false
  | .ty c :: cs => match tyN d with
    | some t => if tyL.contains c then (if subT t c then some true else isi0 d cs) else none
    | none => (match d with
      | .exc n _ => if excB n = c then some true else none
      | _ => none)
  | .own _ :: _ => none
theorem kit_ty (K : Fg) : ∀ t ∈ ["NoneType", "bool", "int", "str", "tuple", "list", "dict"], ∀ c ∈ tyL, PySem.W.kitOne K (.type t) (.type c) = some (subT t c) := by
  intro t ht c hc
  simp only [tyL, List.mem_cons, List.not_mem_nil, or_false] at ht hc
  rcases ht with rfl | rfl | rfl | rfl | rfl | rfl | rfl <;> rcases hc with rfl | rfl | rfl | rfl | rfl | rfl <;> rfl
theorem isi0_ok {K : Fg} {mg : Str → Option Value} {tb : Tab} (hE : ∀ c x fs t, tb c = some (x, fs) → mg x = some t → PySem.W.kitOne K t (.type (excB c)) = some true) : ∀ (d : D) (cs : List CR) (b : Bool) (t : Value) (us : List Value), isi0 d cs = some b → tyD mg tb d = some t → crVs mg tb cs = some us → PySem.W.kitAny K t us = some b := by
  intro d cs
  induction cs with
  | nil =>
    intro b t us h1 h2 h3
    cases h1
    cases h3
    rfl
  | cons c cs ih =>
    intro b t us h1 h2 h3
    cases c with
    | own c => cases h1
    | ty c =>
      unfold isi0 at h1
      cases q : tyN d with
      | none =>
        rw [q] at h1
        cases d <;> simp only [tyN, reduceCtorEq] at q h1
        rename_i n vs
        split at h1
        · rename_i hc
          cases h1
          subst hc
          simp only [tyD] at h2
          cases q2 : tb n with
          | none => rw [q2] at h2; cases h2
          | some p =>
            obtain ⟨x, fs⟩ := p
            rw [q2] at h2
            have k := hE n x fs t q2 h2
            unfold crVs at h3
            split at h3
            · rename_i v vs h4 h5
              cases h4
              cases h3
              unfold PySem.W.kitAny
              rw [k]
            · cases h3
        · cases h1
      | some tn =>
        rw [q] at h1
        dsimp only at h1
        split at h1
        · rename_i hc
          have et : t = .type tn ∧ tn ∈ ["NoneType", "bool", "int", "str", "tuple", "list", "dict"] := by
            cases d <;> simp only [tyN, reduceCtorEq, Option.some.injEq] at q <;> subst q <;> simp only [tyD, Option.some.injEq] at h2 <;> subst h2 <;> exact ⟨rfl, by decide⟩
          obtain ⟨rfl, ht⟩ := et
          have k := kit_ty K tn ht c (by simpa using hc)
          unfold crVs at h3
          split at h3
          · rename_i v vs h4 h5
            cases h4
            cases h3
            unfold PySem.W.kitAny
            rw [k]
            split at h1
            · rename_i hs
              rw [hs]
              exact h1
            · rename_i hs
              rw [Bool.not_eq_true] at hs
              rw [hs]
              exact ih b _ vs h1 h2 h5
          · cases h3
        · cases h1
/-- what is known of one def -/
def FnFact (T : Sta) (K : Fg) (mg : Str → Option Value) (f : Nat) (fn : Fn) : Prop := ∃ ad fd qual params body scope, mg fn.name = some (.ref ad) ∧ FunD K fn.name qual params body scope (fn.dfl.map scV) [] ad fd ∧ fnScB fn.ns fn.ps scope = true ∧ ckSs T fn.ns fn.body scope body = true ∧
    (∀ n, n ≤ fn.ps.length → fn.ps.length ≤ n + fn.dfl.length → (dflOf T.P f n).all isSc = true ∧ (n + (dflOf T.P f n).length = fn.ps.length) ∧ ∃ ds, Vals ((dflOf T.P f n).map scV) ds ∧ Binds K fd fn.ps ds) ∧
    (∀ n ks perm, (f, n, ks, perm) ∈ T.kws → perm.length = fn.ps.length ∧ (dflOf T.P f 0).all isSc = true ∧ ∃ ds, Vals ((dflOf T.P f 0).map scV) ds ∧
      ∀ (s : Shared) (us ws : List Value), K.In s.heap → us.length = n → ws.length = ks.length → BindsTo s fd ⟨us, ks.zip ws⟩ (fn.ps.zip (perm.map fun i => (us ++ ws ++ ds).getD i .none)))
theorem kb0 {K : Fg} {x qual : Str} {params : Arguments} {body : List Stmt} {scope : Scope} {kws : List (Str × V)} {f : Addr} {fd : FuncData} (F : FunD K x qual params body scope [] kws f fd) {n : Nat} {ks : List Str} {r : List Value → List Value → List (Str × Value)}
    (h : ∀ (kV doc pm : Value) (an : Option Addr) (cdv ct : Value) (us ws : List Value), us.length = n → ws.length = ks.length → bindArgs (PySem.W.fnOf x qual params body scope .none kV doc pm an cdv ct) ⟨us, ks.zip ws⟩ = pure (r us ws)) :
    ∀ (s : Shared) (us ws : List Value), K.In s.heap → us.length = n → ws.length = ks.length → BindsTo s fd ⟨us, ks.zip ws⟩ (r us ws) := fun s us ws _ h1 h2 => by
  obtain ⟨oc, od, dV, kV, doc, pm, an, cdv, ct, osl, rfl, lk, hcd, hD, hK⟩ := F.ex
  rcases hD with ⟨_, rfl⟩ | ⟨e, _⟩
  · exact .of_eq (h kV doc pm an cdv ct us ws h1 h2)
  · exact absurd rfl e
theorem kw_no {T : Sta} {j n : Nat} {ks : List Str} {perm : List Nat} (h : (T.kws.all fun q => q.1 != j) = true) : (j, n, ks, perm) ∉ T.kws := fun m => by
  have := List.all_eq_true.mp h _ m
  simp at this
/-- nothing gets out -/
def CXF : CXT := fun _ _ _ _ _ _ => False
section
variable {T : Sta} {prog : Program} {w : World} {K : Fg} {mg : Str → Option Value} {base : Heap} {isi : D → List CR → Option Bool} (M : ModOk T K mg isi) (W : Nat)
include M
/-- the law's def, from what the evaluator says -/
theorem law_fn {n : Nat} (k : Nat) {f : Nat} {fn : Fn} (e : T.P f = some fn) {x : Str} (hx : fn.ps = [x]) {ad : Addr} {fd : FuncData} {qual : Str} {params : Arguments} {body : List Stmt} {scope : Scope} {dvs : List V}
    (F : FunD K fn.name qual params body scope dvs [] ad fd) (sc : fnScB fn.ns fn.ps scope = true) (ck : ckSs T fn.ns fn.body scope body = true)
    (plain : ∀ ns : List Int, ns.length ≤ n → ∃ S, run T.P isi W (k + 1) 0 f [.fzn (dI ns)] [] = .ok (.bl true) S) :
    FnOk prog w K mg base CXF (k + 1) ad fd [x] fun vs H Q _ => ∃ (a : Addr) (ns : List Int), vs = [.ref a] ∧ ns.length ≤ n ∧ SqL K H a (ns.map V.int) ∧ ∀ H', Q (.bl true) H' := by
  have G := fn_step (prog := prog) (w := w) (base := base) M W k (fns_ok M W k) e F sc ck
  rw [hx] at G
  refine ⟨fun vs H Q E ⟨a, ns, h, _⟩ => by rw [h]; rfl, fun A outer s H args us vs Q E hr he hb hv hs => ?_⟩
  obtain ⟨a, ns, rfl, hl, hq, q⟩ := hs
  obtain ⟨S, hrun⟩ := plain ns hl
  refine codeAny_mono (G.run A outer s H args us [.ref a] Q (fun _ _ _ => False) hr he hb hv ⟨rfl, fun _ => none, 0, [], [], [.fzn (dI ns)], ⟨rfl, .nil, fun n d a h => by simp at h, fun _ _ => rfl⟩, fun _ _ => rfl, .cons ?_ .nil, ?_⟩) fun r s' h => ?_
  · simp only [RD]
    refine ⟨a, ns.map V.int, rfl, ?_, .of_ints⟩
    rcases hq with hq | hq
    · exact .inl ⟨hq, by simp⟩
    · exact .inr hq
  · rw [hrun]
    intro v μ' H' _ _ r
    simp only [RD] at r
    subst r
    exact q H'
  · cases r with
    | error e =>
      obtain ⟨_, _, _, _, _, _, _, _, _, _, _, _, z⟩ := h
      exact False.elim z
    | ok fl => cases fl <;> exact h
end
/-! ### defs -/
theorem ix_cons {Q : Nat → Fn → Prop} {x : Fn} {xs : List Fn} {n : Nat} (h0 : Q n x) (h : ∀ i fn, xs[i]? = some fn → Q (n + 1 + i) fn) : ∀ i fn, (x :: xs)[i]? = some fn → Q (n + i) fn
  | 0, fn, e => by
    simp only [List.getElem?_cons_zero, Option.some.injEq] at e
    subst e
    exact h0
  | i + 1, fn, e => by
    simp only [List.getElem?_cons_succ] at e
    have := h i fn e
    rwa [show n + 1 + i = n + (i + 1) by omega] at this
theorem ix_nil {Q : Nat → Fn → Prop} {n : Nat} : ∀ i fn, ([] : List Fn)[i]? = some fn → Q (n + i) fn := fun i fn e => by simp at e
theorem bd0 {P : Prg} {K : Fg} {f : Nat} {fn : Fn} {fd : FuncData} (e : P f = some fn) (hd : fn.dfl = []) (B : Binds K fd fn.ps []) : ∀ n, n ≤ fn.ps.length → fn.ps.length ≤ n + fn.dfl.length →
    (dflOf P f n).all isSc = true ∧ (n + (dflOf P f n).length = fn.ps.length) ∧ ∃ ds, Vals ((dflOf P f n).map scV) ds ∧ Binds K fd fn.ps ds := fun n h1 h2 => by
  have q : dflOf P f n = [] := by unfold dflOf; rw [e]; show fn.dfl.drop _ = []; rw [hd, List.drop_nil]
  rw [hd] at h2
  simp only [List.length_nil, Nat.add_zero] at h2
  rw [q]
  exact ⟨rfl, by simp; omega, [], .nil, B⟩
theorem dfl0 {P : Prg} {f : Nat} {fn : Fn} (e : P f = some fn) : dflOf P f 0 = fn.dfl := by
  unfold dflOf
  rw [e]
  show fn.dfl.drop (0 - _) = _
  rw [Nat.zero_sub, List.drop_zero]
/-! ### own errors -/
def errL : List Str := ["NoFactor", "NoJoin", "NoNumber", "NoName", "Unlike", "NotBehind", "NotOpen", "Crossed", "TooMany", "Taken", "LastOne", "BadText", "BadLine", "NothingDone", "Gainsaid"]
def exNum (x : Str) : Nat := errL.findIdx fun y => decide (y = x)
def exC (K : Fg) (x : Str) : Bool := He.eqO (PySem.W.nsIn K mainGlobals x) (some (some (.ref (He.ga K x)))) &&
  (PySem.W.excIn K (He.ga K x) [.type "ValueError", .type "Exception", .type "BaseException", .type "object"] "ValueError.__new__" && (PySem.W.keepIn K (.ref (He.ga K x)) &&
  (decide (PySem.W.subIn K (.ref (He.ga K x)) (.type "BaseException") = some true) && (decide (PySem.W.typeIn K (.ref (He.ga K x)) = some (.type "type")) &&
  (He.eqO (PySem.W.findIn K (.ref (He.ga K x)) "__getattribute__") (some (some (.builtin "BaseException.__getattribute__"))) && (He.eqO (PySem.W.findIn K (.ref (He.ga K x)) "__getattr__") (some none) &&
  (PySem.W.hasDictIn K (He.ga K x) && (He.eqO (PySem.W.findIn K (.ref (He.ga K x)) "__class__") (some (some (.builtin "object.__class__"))) &&
  (He.eqO (PySem.W.specialIn K (.builtin "object.__class__") "__get__") (some (some (.builtin "getset_descriptor.__get__"))) && (decide (PySem.W.takesIn K (.builtin "object.__class__") = some true) &&
  (decide (PySem.W.mroIn K (He.ga K x) (.type "object") = some true) && decide (PySem.W.kitOne K (.ref (He.ga K x)) (.type (excB (exNum x))) = some true))))))))))))
def exY (exs : List Str) (K : Fg) : Bool := (exs.all fun x => exC K x) && exs.all fun x => exs.all fun y => decide (PySem.W.exmOne K (.ref (He.ga K x)) (.ref (He.ga K y)) = some (decide (x = y)))
structure ExTab (tb : Tab) (K : Fg) (mg : Str → Option Value) : Prop where
  one : ∀ c x fs, tb c = some (x, fs) → fs = [] ∧ exNum x = c ∧ mg x = some (.ref (He.ga K x)) ∧ ExK K (He.ga K x) ∧ PySem.W.kitOne K (.ref (He.ga K x)) (.type (excB c)) = some true
  two : ∀ c d x y fs gs, tb c = some (x, fs) → tb d = some (y, gs) → PySem.W.exmOne K (.ref (He.ga K x)) (.ref (He.ga K y)) = some (decide (c = d))
theorem exTab_of {K : Fg} {h : Heap} {mg : Str → Option Value} {tb : Tab} {exs : List Str} (X : K.In h) (G : h.Ns mainGlobals mg) (cy : exY exs K = true) (ht : ∀ c x fs, tb c = some (x, fs) → x ∈ exs ∧ fs = [] ∧ exNum x = c) : ExTab tb K mg := by
  obtain ⟨c1, c2⟩ := ba cy
  refine ⟨fun c x fs e => ?_, fun c d x y fs gs e1 e2 => ?_⟩
  · obtain ⟨h1, h2, h3⟩ := ht c x fs e
    have q := List.all_eq_true.mp c1 x h1
    obtain ⟨q1, q⟩ := ba q
    obtain ⟨q2, q⟩ := ba q
    obtain ⟨q3, q⟩ := ba q
    obtain ⟨q4, q⟩ := ba q
    obtain ⟨q5, q⟩ := ba q
    obtain ⟨q6, q⟩ := ba q
    obtain ⟨q7, q⟩ := ba q
    obtain ⟨q8, q⟩ := ba q
    obtain ⟨q9, q⟩ := ba q
    obtain ⟨q10, q⟩ := ba q
    obtain ⟨q11, q⟩ := ba q
    obtain ⟨q12, q13⟩ := ba q
    have s4 := of_decide_eq_true q4
    refine ⟨h2, h3, PySem.W.mg_of X G (He.eqO_ok q1), ⟨q2, q3, s4, of_decide_eq_true q5, ⟨He.eqO_ok q6, He.eqO_ok q7, s4, q8, He.eqO_ok q9, He.eqO_ok q10, of_decide_eq_true q11, of_decide_eq_true q12⟩⟩, ?_⟩
    rw [← h3]
    exact of_decide_eq_true q13
  · obtain ⟨h1, h2, h3⟩ := ht c x fs e1
    obtain ⟨g1, g2, g3⟩ := ht d y gs e2
    have q := of_decide_eq_true (List.all_eq_true.mp (List.all_eq_true.mp c2 x h1) y g1)
    rw [q]
    congr 1
    by_cases hc : c = d
    · subst hc
      rw [e1] at e2
      cases e2
      simp
    · have : x ≠ y := fun e => hc (by rw [← h3, ← g3, e])
      simp [hc, this]
section
variable {K : Fg} {mg : Str → Option Value} {tb : Tab} (E : ExTab tb K mg)
include E
theorem tbl_cls {c : Nat} {x : Str} {fs : List Str} (e : tb c = some (x, fs)) : ∃ a, mg x = some (.ref a) := ⟨_, (E.one c x fs e).2.2.1⟩
theorem tbl_isi {c : Nat} {x : Str} {fs : List Str} {t : Value} (e : tb c = some (x, fs)) (m : mg x = some t) : PySem.W.kitOne K t (.type (excB c)) = some true := by
  obtain ⟨_, _, m2, _, q⟩ := E.one c x fs e
  rw [m] at m2
  cases m2
  exact q
theorem tbl_exc : ExOk tb K mg := by
  refine ⟨fun c x e => ⟨_, (E.one c x [] e).2.2.1, (E.one c x [] e).2.2.2.1⟩, fun c d x y fs gs a b e1 e2 m1 m2 => ?_⟩
  have n1 := (E.one c x fs e1).2.2.1
  have n2 := (E.one d y gs e2).2.2.1
  rw [m1] at n1
  rw [m2] at n2
  cases n1
  cases n2
  exact E.two c d x y fs gs e1 e2
end
abbrev AlY : Type := He.AlD × Bool
def obsYG (n : Nat) (fa : List He.Fa) (fn : List He.DefD) (exs : List Str) (g : Addr → Option Obj) : AlY := (He.obsD fa fn (He.frG g (He.asD g n)), exY exs (He.frG g (He.asD g n)))
def hookY (n : Nat) (fa : List He.Fa) (fn : List He.DefD) (exs : List Str) : PySem.W.Hook where
  α := AlY
  obs := fun s => obsYG n fa fn exs s.heap.get?
  val := fun _ => (He.valD fn, true)
  says := fun _ h => ∃ K : PySem.W.Frag, K.In h ∧ He.SaysD fa fn K ∧ exY exs K = true
  of := fun _ _ e => ⟨_, He.frG_in, congrArg (fun z : AlY => z.1) e, congrArg (fun z : AlY => z.2) e⟩
  keeps := fun _ _ _ ⟨K, hK, c⟩ k => ⟨K, PySem.W.Frag.In.keeps hK k, c⟩
theorem obsYG_eq {n : Nat} {fa : List He.Fa} {fn : List He.DefD} {exs : List Str} {g : Addr → Option Obj} {s : Shared} (h : ∀ a, g a = s.heap.get? a) : obsYG n fa fn exs g = (hookY n fa fn exs).obs s := by
  have e : g = s.heap.get? := funext h
  rw [e] <;> rfl
end EV
/-! EVq: the evaluator once more, put together of small parts: quick in the kernel. -/
namespace EV
open PySem L2
abbrev MD := Env → Store → R D
abbrev ML := Env → Store → R (List D)
section
variable (C : Cl)
def qv (i : Nat) : MD := fun ρ S => R.of (ρ.getD i none) S
def qk (d : D) : MD := fun _ S => .ok d S
def qun (o : UO) (a : MD) : MD := fun ρ S => (a ρ S).bind fun x S1 => R.of (uop o S1 x) S1
def qbi (o : BO) (a b : MD) : MD := fun ρ S => (a ρ S).bind fun x S1 => (b ρ S1).bind fun y S2 => R.of (bop o S2 x y) S2
def qcm (o : CO) (a b : MD) : MD := fun ρ S => (a ρ S).bind fun x S1 => (b ρ S1).bind fun y S2 => R.of ((cop o S2 x y).map .bl) S2
def qcm2 (o p : CO) (a b c : MD) : MD := fun ρ S => (a ρ S).bind fun x S1 => (b ρ S1).bind fun y S2 => match cop o S2 x y with
    | some true => (c ρ S2).bind fun z S3 => R.of ((cop p S3 y z).map .bl) S3
    | some false => .ok (.bl false) S2
    | none => .fl
def qpop (a i : MD) : MD := fun ρ S => (a ρ S).bind fun x S1 => match dr S1 x with
    | .lst _ => (i ρ S1).bind fun y S2 => popD x y S2
    | _ => .fl
def qidf (tp : Bool) (a i : MD) : MD := fun ρ S => (a ρ S).bind fun x S1 => if seqB tp (dr S1 x) then (i ρ S1).bind fun y S2 => R.of (idfD tp S2 x y) S2 else .fl
def qcm3 (o p q : CO) (a b c d : MD) : MD := fun ρ S => (a ρ S).bind fun x S1 => (b ρ S1).bind fun y S2 => match cop o S2 x y with
    | some true => (c ρ S2).bind fun z S3 => (match cop p S3 y z with
      | some true => (d ρ S3).bind fun u S4 => R.of ((cop q S4 z u).map .bl) S4
      | some false => .ok (.bl false) S3
      | none => .fl)
    | some false => .ok (.bl false) S2
    | none => .fl
def qrgl (tp one : Bool) (a b : MD) : MD := fun ρ S => (a ρ S).bind fun x S1 => (b ρ S1).bind fun y S2 => R.of (rglD tp one x y) S2
def qrgt (a b : MD) : MD := fun ρ S => (a ρ S).bind fun x S1 => (b ρ S1).bind fun y S2 => R.of (rgtD x y) S2
def qan (a b : MD) : MD := fun ρ S => (a ρ S).bind fun x S1 => match tru S1 x with
    | some true => b ρ S1
    | some false => .ok x S1
    | none => .fl
def qorr (a b : MD) : MD := fun ρ S => (a ρ S).bind fun x S1 => match tru S1 x with
    | some true => .ok x S1
    | some false => b ρ S1
    | none => .fl
def qite (c a b : MD) : MD := fun ρ S => (c ρ S).bind fun x S1 => match tru S1 x with
    | some true => a ρ S1
    | some false => b ρ S1
    | none => .fl
def qtu (as : ML) : MD := fun ρ S => (as ρ S).bind fun xs S1 => if xs.length ≤ lim then .ok (.tup xs) S1 else .fl
def qli (as : ML) : MD := fun ρ S => (as ρ S).bind fun xs S1 => if xs.length ≤ lim then .ok (.lst xs) S1 else .fl
def qix (a i : MD) : MD := fun ρ S => (a ρ S).bind fun x S1 => (i ρ S1).bind fun y S2 => R.of (idx S2 x y) S2
def qsl (nl nh : Bool) (a lo hi : MD) : MD := fun ρ S => (a ρ S).bind fun x S1 => (lo ρ S1).bind fun y S2 => match optI nl y with
    | some l => (hi ρ S2).bind fun z S3 => (match optI nh z with
      | some h => R.of (slc S3 x l h) S3
      | none => .fl)
    | none => .fl
def qrv (a : MD) : MD := fun ρ S => (a ρ S).bind fun x S1 => R.of (rvs S1 x) S1
def qcal (f : Nat) (as : ML) : MD := fun ρ S => (as ρ S).bind fun xs S1 => C.call C.base f (xs ++ C.dfl f xs.length) S1
def qcalz (f : Nat) (as : ML) : MD := fun ρ S => (as ρ S).bind fun xs S1 => match allM (fz S1 0 8) xs with
    | some ys => (match C.call 0 f (ys ++ C.dfl f xs.length) [] with
      | .ok d _ => if isSc d then .ok d S1 else .fl
      | _ => .fl)
    | none => .fl
def qcalk (f : Nat) (as ks : ML) (perm : List Nat) : MD := fun ρ S => (as ρ S).bind fun xs S1 => (ks ρ S1).bind fun ys S2 => C.call C.base f (pick (xs ++ ys ++ C.dfl f 0) perm) S2
def qpr (p : Pr) (as : ML) : MD := fun ρ S => (as ρ S).bind fun xs S1 => R.of (prim p S1 xs) S1
def qisi (a : MD) (cs : List CR) : MD := fun ρ S => (a ρ S).bind fun x S1 => R.of ((C.isi (dr S1 x) cs).map .bl) S1
def qlc (t : Tg) (own : List Nat) (s : ML) (c e : MD) : MD := fun ρ S => (s ρ S).bind fun xs S1 => (lcGo c e t own ρ xs [] S1).bind fun ys S2 => .ok (.lst ys) S2
def qfr (a : MD) : MD := fun ρ S => (a ρ S).bind fun x S1 => match x with
    | .lst xs => .ok (.loc S1.length) (S1 ++ [.lst xs])
    | .dK xs => .ok (.loc S1.length) (S1 ++ [.dK xs])
    | .dT xs => .ok (.loc S1.length) (S1 ++ [.dT xs])
    | _ => .fl
def qcons (a : MD) (as : ML) : ML := fun ρ S => (a ρ S).bind fun x S1 => (as ρ S1).bind fun xs S2 => .ok (x :: xs) S2
def qstar (a : MD) (as : ML) : ML := fun ρ S => (a ρ S).bind fun x S1 => match items S1 x with
    | some ys => (as ρ S1).bind fun xs S2 => .ok (ys ++ xs) S2
    | none => .fl
def qrg1 (a : MD) : ML := fun ρ S => (a ρ S).bind fun x S1 => match x with
    | .int j => if small62 j && decide (j ≤ lim) then .ok (rgD 0 j) S1 else .fl
    | _ => .fl
def qrg2 (a b : MD) : ML := fun ρ S => (a ρ S).bind fun x S1 => (b ρ S1).bind fun y S2 => match x, y with
    | .int i, .int j => if small62 i && small62 j && decide (j - i ≤ lim) then .ok (rgD i j) S2 else .fl
    | _, _ => .fl
def qrgd (a b : MD) : ML := fun ρ S => (a ρ S).bind fun x S1 => (b ρ S1).bind fun y S2 => match x, y with
    | .int i, .int j => if small62 i && small62 j && decide (i - j ≤ lim) then .ok (rgdD i j) S2 else .fl
    | _, _ => .fl
def qen (a : MD) : ML := fun ρ S => (a ρ S).bind fun x S1 => match x with
    | .lst xs => .ok (enD 0 xs) S1
    | .fzn xs => .ok (enD 0 xs) S1
    | .tup xs => .ok (enD 0 xs) S1
    | _ => .fl
def qzp (a b : MD) : ML := fun ρ S => (a ρ S).bind fun x S1 => (b ρ S1).bind fun y S2 => match x, y with
    | .lst xs, .lst ys => .ok (zpD xs ys) S2
    | .tup xs, .tup ys => .ok (zpD xs ys) S2
    | _, _ => .fl
def qit (a : MD) : ML := fun ρ S => (a ρ S).bind fun x S1 => match x with
    | .lst xs => .ok xs S1
    | .fzn xs => .ok xs S1
    | .tup xs => .ok xs S1
    | _ => .fl
def qfl : MD := fun _ _ => .fl
def qfls : ML := fun _ _ => .fl
def qnils : ML := fun _ S => .ok [] S
/-- the three readings of an expression -/
structure QE where
  v : MD
  l : ML
  i : ML
def onlyV (v : MD) : QE := ⟨v, qfls, qfls⟩
def onlyL (l : ML) : QE := ⟨qfl, l, qfls⟩
def onlyI (i : ML) : QE := ⟨qfl, qfls, i⟩
def qe : Ex → QE
  | .v i => onlyV (qv i)
  | .k d => onlyV (qk d)
  | .gc _ d => onlyV (qk d)
  | .un o a => onlyV (qun o (qe a).v)
  | .bi o a b => onlyV (qbi o (qe a).v (qe b).v)
  | .cm o a b => onlyV (qcm o (qe a).v (qe b).v)
  | .cm2 o p a b c => onlyV (qcm2 o p (qe a).v (qe b).v (qe c).v)
  | .cm3 o p q a b c d => onlyV (qcm3 o p q (qe a).v (qe b).v (qe c).v (qe d).v)
  | .rgl tp a b => onlyV (qrgl tp (isNo a) (qe a).v (qe b).v)
  | .rgt a b => onlyV (qrgt (qe a).v (qe b).v)
  | .an a b => onlyV (qan (qe a).v (qe b).v)
  | .orr a b => onlyV (qorr (qe a).v (qe b).v)
  | .ite c a b => onlyV (qite (qe c).v (qe a).v (qe b).v)
  | .tu as => onlyV (qtu (qe as).l)
  | .li as => onlyV (qli (qe as).l)
  | .nil => onlyL qnils
  | .cons a as => onlyL (qcons (qe a).v (qe as).l)
  | .star a as => onlyL (qstar (qe a).v (qe as).l)
  | .ix a i => onlyV (qix (qe a).v (qe i).v)
  | .sl a lo hi => onlyV (qsl (isNo lo) (isNo hi) (qe a).v (qe lo).v (qe hi).v)
  | .no => onlyV (qk .non)
  | .rv a => onlyV (qrv (qe a).v)
  | .cal f as => onlyV (qcal C f (qe as).l)
  | .calz f as => onlyV (qcalz C f (qe as).l)
  | .calk f as ks _ perm => onlyV (qcalk C f (qe as).l (qe ks).l perm)
  | .pr p as => onlyV (qpr p (qe as).l)
  | .isi a cs => onlyV (qisi C (qe a).v cs)
  | .lc t own s c e => onlyV (qlc t own (qe s).i (qe c).v (qe e).v)
  | .rg1 a => onlyI (qrg1 (qe a).v)
  | .rg2 a b => onlyI (qrg2 (qe a).v (qe b).v)
  | .rgd a b => onlyI (qrgd (qe a).v (qe b).v)
  | .pop a i => onlyV (qpop (qe a).v (qe i).v)
  | .idf tp a i => onlyV (qidf tp (qe a).v (qe i).v)
  | .en a => onlyI (qen (qe a).v)
  | .zp a b => onlyI (qzp (qe a).v (qe b).v)
  | .fr a => onlyV (qfr (qe a).v)
  | .bad => onlyV qfl
  | .it a => onlyI (qit (qe a).v)
  | .yes => onlyV (qk (.bl true))
theorem qe_eq (e : Ex) : qe C e = ⟨ev C e, evs C e, evi C e⟩ := by
  induction e <;> (unfold qe; (try simp only [*]); rfl)
abbrev MS := Env → Store → RS
def rset (i : Nat) (e : MD) : MS := fun ρ S => (e ρ S).then ρ fun d S1 => .nx (ρ.set i (some d)) S1
def rasg (t : Tg) (e : MD) : MS := fun ρ S => (e ρ S).then ρ fun d S1 => match bindT t d ρ with | some ρ1 => .nx ρ1 S1 | none => .fl
def raug (i : Nat) (o : BO) (e : MD) : MS := fun ρ S => (match ρ.getD i none with
    | some x => (e ρ S).then ρ fun d S1 => (match augI o x d with | some y => .nx (ρ.set i (some y)) S1 | none => .fl)
    | none => .fl)
def rsub (a i e : MD) : MS := fun ρ S => (e ρ S).then ρ fun d S1 => (a ρ S1).then ρ fun x S2 => (i ρ S2).then ρ fun y S3 => match subS C.base S3 x y d with | some S4 => .nx ρ S4 | none => .fl
def rsub2 (a i b j e : MD) : MS := fun ρ S => (e ρ S).then ρ fun t S2 => match t with
    | .tup [d, d'] => (a ρ S2).then ρ fun x S3 => (i ρ S3).then ρ fun y S4 => (match subS C.base S4 x y d with
      | some S5 => (b ρ S5).then ρ fun x' S6 => (j ρ S6).then ρ fun y' S7 => (match subS C.base S7 x' y' d' with | some S8 => .nx ρ S8 | none => .fl)
      | none => .fl)
    | _ => .fl
def rex (e : MD) : MS := fun ρ S => (e ρ S).then ρ fun _ S1 => .nx ρ S1
def rapp (a e : MD) : MS := fun ρ S => (a ρ S).then ρ fun x S1 => match dr S1 x with
    | .lst _ => (e ρ S1).then ρ fun d S2 => match appS C.base S2 x d with | some S3 => .nx ρ S3 | none => .fl
    | _ => .fl
def rret (e : MD) : MS := fun ρ S => (e ρ S).then ρ fun d S1 => .rt d ρ S1
def rite (c : MD) (a b : MS) : MS := fun ρ S => (c ρ S).then ρ fun x S1 => match tru S1 x with
    | some true => a ρ S1
    | some false => b ρ S1
    | none => .fl
def rfor (t : Tg) (s : ML) (b : MS) : MS := fun ρ S => (s ρ S).then ρ fun xs S1 => forGo b t xs ρ S1
def rwhil (c : MD) (b : MS) : MS := fun ρ S => whileGo c b C.W ρ S
def rnx : MS := fun ρ S => .nx ρ S
def rfl_ : MS := fun _ _ => .fl
def rbk : MS := fun ρ S => .bk ρ S
def rct : MS := fun ρ S => .ct ρ S
def rseq (s t : MS) : MS := fun ρ S => (match s ρ S with
    | .nx ρ1 S1 => t ρ1 S1
    | r => r)
def rrais (c : Nat) (as : ML) : MS := fun ρ S => (as ρ S).then ρ fun ds S1 => .er (.exc c ds) ρ S1
abbrev MH := Nat → List D → Env → Store → RS
def rtry (b : MS) (h : MH) : MS := fun ρ S => (match b ρ S with
    | .er (.exc c vs) ρ1 S1 => h c vs ρ1 S1
    | r => r)
def rhan (cs : List Nat) (i : Option Nat) (b : MS) (more : MH) : MH := fun c vs ρ S => if cs.contains c then
      (match i with
      | none => b ρ S
      | some i => if i < ρ.length then (match b (ρ.set i (some (.exc c vs))) S with
        | .nx ρ1 S1 => .nx (ρ1.set i none) S1
        | .rt d ρ1 S1 => .rt d (ρ1.set i none) S1
        | _ => .fl) else .fl)
    else more c vs ρ S
def rhnil : MH := fun c vs ρ S => .er (.exc c vs) ρ S
def rhfl : MH := fun _ _ _ _ => .fl
structure QS where
  s : MS
  h : MH
def onlyS (s : MS) : QS := ⟨s, rhfl⟩
def qs : Sm → QS
  | .nil => ⟨rnx, rhnil⟩
  | .cons s t => onlyS (rseq (qs s).s (qs t).s)
  | .doc => onlyS rnx
  | .set i e => onlyS (rset i (qe C e).v)
  | .asg t e => onlyS (rasg t (qe C e).v)
  | .aug i o e => onlyS (raug i o (qe C e).v)
  | .sub a i e => onlyS (rsub C (qe C a).v (qe C i).v (qe C e).v)
  | .sub2 a i b j e => onlyS (rsub2 C (qe C a).v (qe C i).v (qe C b).v (qe C j).v (qe C e).v)
  | .ex e => onlyS (rex (qe C e).v)
  | .app a e => onlyS (rapp C (qe C a).v (qe C e).v)
  | .ret e => onlyS (rret (qe C e).v)
  | .ite c a b => onlyS (rite (qe C c).v (qs a).s (qs b).s)
  | .forr t s b => onlyS (rfor t (qe C s).i (qs b).s)
  | .whil c b => onlyS (rwhil C (qe C c).v (qs b).s)
  | .brk => onlyS rbk
  | .cnt => onlyS rct
  | .nev => onlyS rfl_
  | .rais c as => onlyS (rrais c (qe C as).l)
  | .tryy b hs => onlyS (rtry (qs b).s (qs hs).h)
  | .han cs i b more => ⟨rfl_, rhan cs i (qs b).s (qs more).h⟩
theorem qs_eq (s : Sm) : qs C s = ⟨evS C s, evH C s⟩ := by
  induction s <;> (unfold qs; (try simp only [*, qe_eq]); rfl)
end
/-- what is known of a call ahead: depth, def, arguments -/
abbrev OvF := Nat → Nat → List D → Option D
def runq (ov : OvF) (P : Prg) (isi : D → List CR → Option Bool) (W : Nat) : Nat → CallF
  | 0 => fun _ _ _ _ => .fl
  | k + 1 => fun base f ds S => match ov k f ds with
    | some r => .ok r S
    | none => (match P f with
      | none => .fl
      | some fn => if ds.length = fn.ps.length then
          endC fn.keep (if fn.keep then base else S.length) ((qs { call := runq ov P isi W k, base := if fn.keep then base else S.length, isi := isi, W := W, dfl := dflOf P } fn.body).s (startD fn.ns.length ds) S)
        else .fl)
def OvOk (ov : OvF) (P : Prg) (isi : D → List CR → Option Bool) (W : Nat) : Prop := ∀ k f ds r, ov k f ds = some r → ∀ b S, run P isi W (k + 1) b f ds S = .ok r S
theorem runq_eq {ov : OvF} {P : Prg} {isi : D → List CR → Option Bool} {W : Nat} (h : OvOk ov P isi W) : ∀ k, runq ov P isi W k = run P isi W k
  | 0 => rfl
  | k + 1 => by
    funext base f ds S
    unfold runq
    split
    · rename_i r e
      exact (h k f ds r e base S).symm
    · unfold run
      rw [runq_eq h k]
      simp only [qs_eq]
      try rfl
end EV
/-! EVs: the same run with cells laid ahead of the store (shift). -/
namespace EV
open PySem L2
mutual
def D.sh (p : Nat) : D → D
  | .tup xs => .tup (shs p xs)
  | .lst xs => .lst (shs p xs)
  | .fzn xs => .fzn (shs p xs)
  | .loc n => .loc (p + n)
  | .dK kvs => .dK (shK p kvs)
  | .dT kvs => .dT (shT p kvs)
  | .exc c vs => .exc c (shs p vs)
  | .ins c fs => .ins c (shF p fs)
  | .non => .non
  | .bl b => .bl b
  | .int i => .int i
  | .str s => .str s
def shs (p : Nat) : List D → List D
  | [] => []
  | x :: xs => x.sh p :: shs p xs
def shK (p : Nat) : List (Key × D) → List (Key × D)
  | [] => []
  | (k, x) :: xs => (k, x.sh p) :: shK p xs
def shT (p : Nat) : List (List Key × D) → List (List Key × D)
  | [] => []
  | (k, x) :: xs => (k, x.sh p) :: shT p xs
def shF (p : Nat) : List (Str × D) → List (Str × D)
  | [] => []
  | (k, x) :: xs => (k, x.sh p) :: shF p xs
end
section
variable {p : Nat}
theorem shs_map : ∀ xs : List D, shs p xs = xs.map (D.sh p)
  | [] => rfl
  | x :: xs => by rw [shs, shs_map xs, List.map_cons]
theorem shs_length (xs : List D) : (shs p xs).length = xs.length := by rw [shs_map, List.length_map]
theorem shK_map : ∀ xs : List (Key × D), shK p xs = xs.map fun kv => (kv.1, kv.2.sh p)
  | [] => rfl
  | (k, x) :: xs => by rw [shK, shK_map xs, List.map_cons]
theorem shT_map : ∀ xs : List (List Key × D), shT p xs = xs.map fun kv => (kv.1, kv.2.sh p)
  | [] => rfl
  | (k, x) :: xs => by rw [shT, shT_map xs, List.map_cons]
theorem shs_append (xs ys : List D) : shs p (xs ++ ys) = shs p xs ++ shs p ys := by simp only [shs_map, List.map_append]
mutual
theorem free_sh : ∀ d : D, (d.sh p).free = d.free
  | .tup xs => by simp only [D.sh, D.free, frees_sh xs]
  | .lst xs => by simp only [D.sh, D.free, frees_sh xs]
  | .fzn xs => by simp only [D.sh, D.free, frees_sh xs]
  | .loc n => rfl
  | .dK kvs => by simp only [D.sh, D.free, freesK_sh kvs]
  | .dT kvs => by simp only [D.sh, D.free, freesT_sh kvs]
  | .exc c vs => by simp only [D.sh, D.free, frees_sh vs]
  | .ins c fs => by simp only [D.sh, D.free, freesF_sh fs]
  | .non => rfl
  | .bl b => rfl
  | .int i => rfl
  | .str s => rfl
theorem frees_sh : ∀ xs : List D, frees (shs p xs) = frees xs
  | [] => rfl
  | x :: xs => by simp only [shs, frees, free_sh x, frees_sh xs]
theorem freesK_sh : ∀ xs : List (Key × D), freesK (shK p xs) = freesK xs
  | [] => rfl
  | (k, x) :: xs => by simp only [shK, freesK, free_sh x, freesK_sh xs]
theorem freesT_sh : ∀ xs : List (List Key × D), freesT (shT p xs) = freesT xs
  | [] => rfl
  | (k, x) :: xs => by simp only [shT, freesT, free_sh x, freesT_sh xs]
theorem freesF_sh : ∀ xs : List (Str × D), freesF (shF p xs) = freesF xs
  | [] => rfl
  | (k, x) :: xs => by simp only [shF, freesF, free_sh x, freesF_sh xs]
end
mutual
theorem sh_free : ∀ d : D, d.free = true → d.sh p = d
  | .tup xs, h => by rw [D.sh, shs_free xs h]
  | .lst xs, h => by rw [D.sh, shs_free xs h]
  | .fzn xs, h => by rw [D.sh, shs_free xs h]
  | .loc n, h => by cases h
  | .dK kvs, h => by rw [D.sh, shK_free kvs h]
  | .dT kvs, h => by rw [D.sh, shT_free kvs h]
  | .exc c vs, h => by rw [D.sh, shs_free vs h]
  | .ins c fs, h => by rw [D.sh, shF_free fs h]
  | .non, _ => rfl
  | .bl b, _ => rfl
  | .int i, _ => rfl
  | .str s, _ => rfl
theorem shs_free : ∀ xs : List D, frees xs = true → shs p xs = xs
  | [], _ => rfl
  | x :: xs, h => by
    rw [frees, Bool.and_eq_true] at h
    rw [shs, sh_free x h.1, shs_free xs h.2]
theorem shK_free : ∀ xs : List (Key × D), freesK xs = true → shK p xs = xs
  | [], _ => rfl
  | (k, x) :: xs, h => by
    rw [freesK, Bool.and_eq_true] at h
    rw [shK, sh_free x h.1, shK_free xs h.2]
theorem shT_free : ∀ xs : List (List Key × D), freesT xs = true → shT p xs = xs
  | [], _ => rfl
  | (k, x) :: xs, h => by
    rw [freesT, Bool.and_eq_true] at h
    rw [shT, sh_free x h.1, shT_free xs h.2]
theorem shF_free : ∀ xs : List (Str × D), freesF xs = true → shF p xs = xs
  | [], _ => rfl
  | (k, x) :: xs, h => by
    rw [freesF, Bool.and_eq_true] at h
    rw [shF, sh_free x h.1, shF_free xs h.2]
end
mutual
theorem py_sh : ∀ d : D, (d.sh p).py = d.py
  | .tup xs => by simp only [D.sh, D.py, pys_sh xs]
  | .lst xs => by simp only [D.sh, D.py, pys_sh xs]
  | .fzn xs => rfl
  | .loc n => rfl
  | .dK kvs => rfl
  | .dT kvs => rfl
  | .exc c vs => rfl
  | .ins c fs => rfl
  | .non => rfl
  | .bl b => rfl
  | .int i => rfl
  | .str s => rfl
theorem pys_sh : ∀ xs : List D, pys (shs p xs) = pys xs
  | [] => rfl
  | x :: xs => by simp only [shs, pys, py_sh x, pys_sh xs]
end
end
/-- cells Q laid ahead -/
def shS (Q : Store) (S : Store) : Store := Q ++ S.map (D.sh Q.length)
def shR (Q : Store) : Env → Env := fun ρ => ρ.map (Option.map (D.sh Q.length))
def R.sh {α : Type} (g : α → α) (Q : Store) : R α → R α
  | .ok a S => .ok (g a) (shS Q S)
  | .er e S => .er (e.sh Q.length) (shS Q S)
  | .fl => .fl
def RS.sh (Q : Store) : RS → RS
  | .nx ρ S => .nx (shR Q ρ) (shS Q S)
  | .rt d ρ S => .rt (d.sh Q.length) (shR Q ρ) (shS Q S)
  | .bk ρ S => .bk (shR Q ρ) (shS Q S)
  | .ct ρ S => .ct (shR Q ρ) (shS Q S)
  | .er e ρ S => .er (e.sh Q.length) (shR Q ρ) (shS Q S)
  | .fl => .fl
section
variable {Q : Store}
theorem getD_sh (S : Store) (n : Nat) : (shS Q S).getD (Q.length + n) .non = (S.getD n .non).sh Q.length := by
  unfold shS
  rw [List.getD_eq_getElem?_getD, List.getD_eq_getElem?_getD, List.getElem?_append_right (by omega), Nat.add_sub_cancel_left, List.getElem?_map]
  cases S[n]? <;> rfl
theorem shS_length (S : Store) : (shS Q S).length = Q.length + S.length := by
  unfold shS
  rw [List.length_append, List.length_map]
theorem dr_sh (S : Store) (d : D) : dr (shS Q S) (d.sh Q.length) = (dr S d).sh Q.length := by
  cases d <;> first | rfl | exact getD_sh S _
theorem pyS_sh (S : Store) (d : D) : pyS (shS Q S) (d.sh Q.length) = pyS S d := by
  unfold pyS
  rw [dr_sh, py_sh]
theorem tru_sh (S : Store) (d : D) : tru (shS Q S) (d.sh Q.length) = tru S d := by
  unfold tru
  rw [dr_sh]
  have h : ∀ xs : List D, (shs Q.length xs).isEmpty = xs.isEmpty := fun xs => by cases xs <;> rfl
  cases dr S d <;> simp only [D.sh, h]
theorem intsD_sh : ∀ xs : List D, intsD (shs Q.length xs) = intsD xs
  | [] => rfl
  | x :: xs => by cases x <;> simp only [shs, D.sh, intsD, intsD_sh xs]
theorem boolsD_sh : ∀ xs : List D, boolsD (shs Q.length xs) = boolsD xs
  | [] => rfl
  | x :: xs => by cases x <;> simp only [shs, D.sh, boolsD, boolsD_sh xs]
theorem rowsD_sh : ∀ xs : List D, rowsD (shs Q.length xs) = rowsD xs
  | [] => rfl
  | x :: xs => by cases x <;> simp only [shs, D.sh, rowsD, rowsD_sh xs, intsD_sh]
theorem keyOf_sh (d : D) : keyOf (d.sh Q.length) = keyOf d := by cases d <;> rfl
theorem keysOf_sh : ∀ xs : List D, keysOf (shs Q.length xs) = keysOf xs
  | [] => rfl
  | x :: xs => by simp only [shs, keysOf, keyOf_sh, keysOf_sh xs]
theorem flat_sh (k : Nat) (xs : List D) : (List.replicate k (shs Q.length xs)).flatten = shs Q.length (List.replicate k xs).flatten := by
  simp only [shs_map, List.map_flatten, List.map_replicate]
theorem shs_nil (xs : List D) : (shs Q.length xs ≠ []) = (xs ≠ []) := by cases xs <;> simp [shs]
theorem bop_sh (o : BO) (S : Store) (a b : D) : bop o (shS Q S) (a.sh Q.length) (b.sh Q.length) = (bop o S a b).map (D.sh Q.length) := by
  unfold bop
  rw [dr_sh, dr_sh]
  cases o <;> cases dr S a <;> (try rfl) <;> cases dr S b <;> (try rfl) <;> simp only [D.sh, shs_length, ← shs_append, flat_sh, shs_nil] <;> (try split) <;> rfl
theorem uop_sh (o : UO) (S : Store) (a : D) : uop o (shS Q S) (a.sh Q.length) = (uop o S a).map (D.sh Q.length) := by
  unfold uop
  cases o
  · show (match dr (shS Q S) (a.sh Q.length) with | .int i => some (D.int (-i)) | _ => none) = _
    rw [dr_sh]
    cases dr S a <;> rfl
  · show (tru (shS Q S) (a.sh Q.length)).map (fun b => D.bl (!b)) = _
    rw [tru_sh]
    show _ = ((tru S a).map fun b => D.bl (!b)).map _
    cases tru S a <;> rfl
theorem getG_sh {κ : Type} [DecidableEq κ] (kvs : List (κ × D)) (k : κ) : getG (kvs.map fun kv => (kv.1, kv.2.sh Q.length)) k = (getG kvs k).map (D.sh Q.length) := by
  unfold getG
  induction kvs with
  | nil => rfl
  | cons x xs ih =>
    simp only [List.map_cons, List.find?_cons]
    by_cases h : x.1 = k
    · simp [h]
    · simp only [h, decide_false]
      exact ih
theorem getK_sh (kvs : List (Key × D)) (k : Key) : getG (shK Q.length kvs) k = (getG kvs k).map (D.sh Q.length) := by rw [shK_map, getG_sh]
theorem getT_sh (kvs : List (List Key × D)) (k : List Key) : getG (shT Q.length kvs) k = (getG kvs k).map (D.sh Q.length) := by rw [shT_map, getG_sh]
theorem isSome_sh (o : Option D) : (o.map (D.sh Q.length)).isSome = o.isSome := by cases o <;> rfl
theorem memD_sh (S : Store) (a b : D) : memD (shS Q S) (a.sh Q.length) (b.sh Q.length) = memD S a b := by
  unfold memD
  rw [dr_sh, pyS_sh, pyS_sh, keyOf_sh]
  cases dr S b <;> (try rfl) <;> simp only [D.sh, getK_sh, getT_sh, isSome_sh] <;> (try rfl) <;> cases a <;> simp only [D.sh, keysOf_sh]
theorem isNon_sh (d : D) : isNon (d.sh Q.length) = isNon d := by cases d <;> rfl
theorem cop_sh (o : CO) (S : Store) (a b : D) : cop o (shS Q S) (a.sh Q.length) (b.sh Q.length) = cop o S a b := by
  cases o
  · simp only [cop, pyS_sh]
  · simp only [cop, pyS_sh]
  · simp only [cop, dr_sh]
    cases dr S a <;> (try rfl) <;> cases dr S b <;> (try rfl) <;> simp only [D.sh, intsD_sh]
  · cases a <;> (try rfl) <;> cases b <;> rfl
  · cases a <;> (try rfl) <;> cases b <;> rfl
  · cases a <;> (try rfl) <;> cases b <;> rfl
  · simp only [cop]
    cases b <;> (try rfl)
    exact congrArg some (isNon_sh a)
  · simp only [cop]
    cases b <;> (try rfl)
    exact congrArg (fun x => some (!x)) (isNon_sh a)
  · exact memD_sh S a b
  · simp only [cop, memD_sh]
theorem dI_sh (ns : List Int) : shs Q.length (dI ns) = dI ns := by
  unfold dI
  induction ns with
  | nil => rfl
  | cons n ns ih => simp only [List.map_cons, shs, D.sh, ih]
theorem dR_sh (ls : List (List Int)) : shs Q.length (dR ls) = dR ls := by
  unfold dR
  induction ls with
  | nil => rfl
  | cons n ns ih => simp only [List.map_cons, shs, D.sh, ih, dI_sh]
end
end EV
namespace EV
open PySem L2
section
variable {Q : Store}
theorem shK_length (xs : List (Key × D)) : (shK Q.length xs).length = xs.length := by rw [shK_map, List.length_map]
theorem shT_length (xs : List (List Key × D)) : (shT Q.length xs).length = xs.length := by rw [shT_map, List.length_map]
theorem prim_sh (p : Pr) (S : Store) (ds : List D) : prim p (shS Q S) (shs Q.length ds) = (prim p S ds).map (D.sh Q.length) := by
  match ds with
  | [] => cases p <;> rfl
  | [d] =>
    cases p
    case len =>
      simp only [shs, prim, dr_sh]
      cases dr S d <;> simp only [D.sh, shs_length, shK_length, shT_length] <;> (try split) <;> rfl
    case abs => cases d <;> rfl
    case int => cases d <;> rfl
    case max1 =>
      simp only [shs, prim, dr_sh]
      cases dr S d <;> simp only [D.sh, intsD_sh] <;> (try rfl)
      all_goals (split <;> rfl)
    case min1 =>
      simp only [shs, prim, dr_sh]
      cases dr S d <;> simp only [D.sh, intsD_sh] <;> (try rfl)
      all_goals (split <;> rfl)
    case sum =>
      simp only [shs, prim, dr_sh]
      cases dr S d <;> simp only [D.sh, intsD_sh] <;> (try rfl)
      all_goals (rename_i xs; cases intsD xs <;> rfl)
    case all =>
      simp only [shs, prim, dr_sh]
      cases dr S d <;> simp only [D.sh, boolsD_sh] <;> (try rfl)
      rename_i xs
      cases boolsD xs <;> rfl
    case any =>
      simp only [shs, prim, dr_sh]
      cases dr S d <;> simp only [D.sh, boolsD_sh] <;> (try rfl)
      rename_i xs
      cases boolsD xs <;> rfl
    case tuple =>
      simp only [shs, prim, dr_sh]
      cases dr S d <;> simp only [D.sh] <;> rfl
    case list =>
      simp only [shs, prim, dr_sh]
      cases dr S d <;> simp only [D.sh] <;> rfl
    case sorted =>
      simp only [shs, prim, dr_sh]
      cases dr S d <;> simp only [D.sh, intsD_sh, rowsD_sh] <;> (try rfl)
      rename_i xs
      cases intsD xs with
      | some ns => simp only [Option.map_some, D.sh, dI_sh]
      | none =>
        cases rowsD xs with
        | none => rfl
        | some ls =>
          simp only
          split
          · simp only [Option.map_some, D.sh, dR_sh]
          · rfl
    all_goals first | rfl | (cases d <;> rfl)
  | [a, b] => cases p <;> (try rfl) <;> cases a <;> (try rfl) <;> cases b <;> rfl
  | a :: b :: _ :: _ => cases p <;> first | rfl | (cases a <;> first | rfl | (cases b <;> rfl))
theorem atI_sh (xs : List D) (i : Int) : atI (shs Q.length xs) i = (atI xs i).map (D.sh Q.length) := by
  unfold atI
  rw [shs_length, shs_map]
  cases ixN xs.length i with
  | none => rfl
  | some k =>
    show (xs.map (D.sh Q.length))[k]? = _
    rw [List.getElem?_map]
    rfl
theorem bind_map_getK (kvs : List (Key × D)) (k : Option Key) : (k.bind fun k => getG (shK Q.length kvs) k) = (k.bind fun k => getG kvs k).map (D.sh Q.length) := by
  cases k with
  | none => rfl
  | some k => exact getK_sh kvs k
theorem bind_map_getT (kvs : List (List Key × D)) (k : Option (List Key)) : (k.bind fun k => getG (shT Q.length kvs) k) = (k.bind fun k => getG kvs k).map (D.sh Q.length) := by
  cases k with
  | none => rfl
  | some k => exact getT_sh kvs k
theorem idx_sh (S : Store) (a i : D) : idx (shS Q S) (a.sh Q.length) (i.sh Q.length) = (idx S a i).map (D.sh Q.length) := by
  unfold idx
  rw [dr_sh]
  cases dr S a <;> simp only [D.sh] <;> (try rfl)
  case tup xs => cases i <;> simp only [D.sh] <;> (try rfl); exact atI_sh _ _
  case lst xs => cases i <;> simp only [D.sh] <;> (try rfl); exact atI_sh _ _
  case fzn xs => cases i <;> simp only [D.sh] <;> (try rfl); exact atI_sh _ _
  case dK kvs => rw [keyOf_sh]; exact bind_map_getK _ _
  case dT kvs => cases i <;> simp only [D.sh] <;> (try rfl); rw [keysOf_sh]; exact bind_map_getT _ _
theorem cutD_sh (xs : List D) (lo hi : Option Int) : cutD (shs Q.length xs) lo hi = shs Q.length (cutD xs lo hi) := by
  unfold cutD
  rw [shs_length, shs_map, shs_map, List.map_take, List.map_drop]
theorem slc_sh (S : Store) (a : D) (l h : Option Int) : slc (shS Q S) (a.sh Q.length) l h = (slc S a l h).map (D.sh Q.length) := by
  unfold slc
  rw [dr_sh]
  cases dr S a <;> simp only [D.sh, cutD_sh] <;> rfl
theorem rvs_sh (S : Store) (a : D) : rvs (shS Q S) (a.sh Q.length) = (rvs S a).map (D.sh Q.length) := by
  unfold rvs
  rw [dr_sh]
  cases dr S a <;> simp only [D.sh, shs_map, ← List.map_reverse] <;> (try rfl)
  all_goals simp only [Option.map_some, D.sh, shs_map]
theorem idfD_sh (tp : Bool) (S : Store) (x y : D) : idfD tp (shS Q S) (x.sh Q.length) (y.sh Q.length) = (idfD tp S x y).map (D.sh Q.length) := by
  unfold idfD
  rw [pyS_sh, pyS_sh]
  cases pyS S x with
  | none => rfl
  | some p =>
    cases p <;> (try rfl) <;> cases pyS S y <;> (try rfl) <;> cases tp <;> (try rfl)
    all_goals (simp only [if_true, Bool.false_eq_true, if_false]; cases firstEq _ _ <;> rfl)
theorem optI_sh (b : Bool) (d : D) : optI b (d.sh Q.length) = optI b d := by
  unfold optI
  cases d <;> rfl
theorem shR_set (ρ : Env) (i : Nat) (d : D) : shR Q (ρ.set i (some d)) = (shR Q ρ).set i (some (d.sh Q.length)) := by
  unfold shR
  rw [List.map_set]
  rfl
theorem shR_unset (ρ : Env) (i : Nat) : shR Q (ρ.set i none) = (shR Q ρ).set i none := by
  unfold shR
  rw [List.map_set]
  rfl
theorem shR_getD (ρ : Env) (i : Nat) : (shR Q ρ).getD i none = (ρ.getD i none).map (D.sh Q.length) := by
  unfold shR
  rw [List.getD_eq_getElem?_getD, List.getD_eq_getElem?_getD, List.getElem?_map]
  cases ρ[i]? <;> rfl
theorem bindT_sh : ∀ (t : Tg) (d : D) (ρ : Env), bindT t (d.sh Q.length) (shR Q ρ) = (bindT t d ρ).map (shR Q)
  | .v i, d, ρ => by simp only [bindT, Option.map_some, shR_set]
  | .t as, d, ρ => by
    cases d <;> simp only [D.sh, bindT] <;> (try rfl)
    rename_i ds
    exact bindT_sh as (.tup ds) ρ
  | .nil, d, ρ => by
    cases d <;> simp only [D.sh, bindT] <;> (try rfl)
    rename_i ds
    cases ds <;> rfl
  | .cons a as, d, ρ => by
    cases d <;> simp only [D.sh, bindT] <;> (try rfl)
    rename_i ds
    cases ds with
    | nil => rfl
    | cons d ds =>
      simp only [shs, bindT]
      rw [bindT_sh a d ρ]
      cases bindT a d ρ with
      | none => rfl
      | some ρ1 => exact bindT_sh as (.tup ds) ρ1
theorem wipeD_sh (ρ : Env) : ∀ vs : List Nat, wipeD (shR Q ρ) vs = shR Q (wipeD ρ vs)
  | [] => rfl
  | v :: vs => by rw [wipeD, wipeD, wipeD_sh ρ vs, shR_unset]
theorem getL_sh (S : Store) (n : Nat) : (shS Q S).getD (Q.length + n) .non = (S.getD n .non).sh Q.length := getD_sh S n
theorem items_sh (S : Store) (d : D) : items (shS Q S) (d.sh Q.length) = (items S d).map (shs Q.length) := by
  unfold items
  cases d <;> simp only [D.sh] <;> (try rfl)
  rw [getD_sh]
  cases S.getD _ D.non <;> rfl
theorem rgD_sh (i j : Int) : shs Q.length (rgD i j) = rgD i j := by
  unfold rgD
  rw [shs_map, List.map_map]
  rfl
theorem rgdD_sh (i j : Int) : shs Q.length (rgdD i j) = rgdD i j := by
  unfold rgdD
  rw [shs_map, List.map_map]
  rfl
theorem enD_sh : ∀ (xs : List D) (n : Int), shs Q.length (enD n xs) = enD n (shs Q.length xs)
  | [], _ => rfl
  | x :: xs, n => by simp only [enD, shs, D.sh, enD_sh xs]
theorem zpD_sh : ∀ xs ys : List D, shs Q.length (zpD xs ys) = zpD (shs Q.length xs) (shs Q.length ys)
  | [], ys => by cases ys <;> rfl
  | x :: xs, [] => rfl
  | x :: xs, y :: ys => by simp only [zpD, shs, D.sh, zpD_sh xs ys]
theorem rglD_sh (tp one : Bool) (x y : D) : rglD tp one (x.sh Q.length) (y.sh Q.length) = (rglD tp one x y).map (D.sh Q.length) := by
  unfold rglD
  cases one
  · cases x <;> (try rfl) <;> cases y <;> (try rfl)
    simp only [D.sh]
    simp only [Bool.false_eq_true, if_false]
    split
    · cases tp <;> simp [D.sh, rgD_sh]
    · rfl
  · cases y <;> (try rfl)
    simp only [D.sh]
    simp only [if_true]
    split
    · cases tp <;> simp [D.sh, rgD_sh]
    · rfl
theorem rgtD_sh (x y : D) : rgtD (x.sh Q.length) (y.sh Q.length) = (rgtD x y).map (D.sh Q.length) := by
  unfold rgtD
  cases x <;> (try rfl) <;> cases y <;> (try rfl)
  simp only [D.sh]
  split
  · simp [D.sh, rgdD_sh]
  · rfl
theorem pick_sh (ds : List D) (perm : List Nat) : pick (shs Q.length ds) perm = shs Q.length (pick ds perm) := by
  unfold pick
  rw [shs_map, shs_map, List.map_map]
  refine List.map_congr_left fun i _ => ?_
  show (ds.map (D.sh Q.length)).getD i .non = (ds.getD i .non).sh Q.length
  rw [List.getD_eq_getElem?_getD, List.getD_eq_getElem?_getD, List.getElem?_map]
  cases ds[i]? <;> rfl
theorem shS_set (S : Store) (n : Nat) (d : D) : shS Q (S.set n d) = (shS Q S).set (Q.length + n) (d.sh Q.length) := by
  unfold shS
  rw [List.set_append_right _ _ (by omega), Nat.add_sub_cancel_left, List.map_set]
theorem shS_append (S : Store) (d : D) : shS Q (S ++ [d]) = shS Q S ++ [d.sh Q.length] := by
  unfold shS
  rw [List.map_append, List.append_assoc]
  rfl
theorem shS_take (S : Store) (b : Nat) : shS Q (S.take b) = (shS Q S).take (Q.length + b) := by
  unfold shS
  rw [List.take_append, List.take_of_length_le (by omega : Q.length ≤ Q.length + b), Nat.add_sub_cancel_left, List.map_take]
theorem map_erase {α β : Type} (f : α → β) : ∀ (l : List α) (k : Nat), (l.map f).eraseIdx k = (l.eraseIdx k).map f
  | [], _ => rfl
  | _ :: _, 0 => rfl
  | x :: xs, k + 1 => by simp only [List.map_cons, List.eraseIdx_cons_succ, map_erase f xs k]
theorem popD_sh (x y : D) (S : Store) : popD (x.sh Q.length) (y.sh Q.length) (shS Q S) = R.sh (D.sh Q.length) Q (popD x y S) := by
  unfold popD
  cases x <;> (try rfl)
  cases y <;> (try rfl)
  simp only [D.sh, getD_sh]
  cases S.getD _ D.non <;> simp only [D.sh] <;> (try rfl)
  rename_i n j xs
  rw [shs_length]
  cases ixN xs.length j with
  | none => rfl
  | some k =>
    simp only [shs_map, List.getElem?_map]
    cases xs[k]? with
    | none => rfl
    | some d =>
      show R.ok (d.sh Q.length) _ = R.ok _ _
      rw [shS_set]
      simp only [D.sh, shs_map, map_erase]
theorem allM_sh {f g : D → Option D} (h : ∀ x, g (x.sh Q.length) = (f x).map (D.sh Q.length)) : ∀ xs : List D, allM g (shs Q.length xs) = (allM f xs).map (shs Q.length)
  | [] => rfl
  | x :: xs => by
    simp only [shs, allM, h, allM_sh h xs]
    cases f x <;> cases allM f xs <;> rfl
theorem fz_sh (S : Store) (b : Nat) : ∀ (n : Nat) (d : D), fz (shS Q S) (Q.length + b) n (d.sh Q.length) = (fz S b n d).map (D.sh Q.length)
  | 0, d => by
    unfold fz
    rw [free_sh]
    split <;> rfl
  | n + 1, d => by
    unfold fz
    rw [free_sh]
    by_cases hf : d.free = true
    · rw [if_pos hf, if_pos hf]
      rfl
    rw [if_neg hf, if_neg hf]
    cases d <;> simp only [D.sh] <;> (try rfl)
    case tup xs => rw [allM_sh (fz_sh S b n) xs]; cases allM (fz S b n) xs <;> rfl
    case lst xs => rw [allM_sh (fz_sh S b n) xs]; cases allM (fz S b n) xs <;> rfl
    case loc m =>
      by_cases hm : m < b
      · rw [if_pos hm, if_pos (by omega)]
        rfl
      · rw [if_neg hm, if_neg (by omega), getD_sh]
        generalize S.getD m .non = c
        cases c <;> simp only [D.sh] <;> (try rfl)
        case lst xs => rw [allM_sh (fz_sh S b n) xs]; cases allM (fz S b n) xs <;> rfl
        case dK kvs => rw [freesK_sh]; split <;> rfl
        case dT kvs => rw [freesT_sh]; split <;> rfl
theorem isSc_sh (d : D) : isSc (d.sh Q.length) = isSc d := by cases d <;> rfl
theorem augI_sh (o : BO) (a b : D) : augI o (a.sh Q.length) (b.sh Q.length) = (augI o a b).map (D.sh Q.length) := by
  unfold augI
  cases o <;> (try rfl) <;> cases a <;> (try rfl) <;> cases b <;> (try rfl)
  simp only [D.sh]
  split <;> rfl
theorem putS_sh (base : Nat) (S : Store) (n : Nat) (d o : D) : putS (Q.length + base) (shS Q S) (Q.length + n) (d.sh Q.length) (o.sh Q.length) = (putS base S n d o).map (shS Q) := by
  unfold putS
  rw [free_sh, shS_length]
  have h1 : decide (Q.length + base ≤ Q.length + n) = decide (base ≤ n) := by simp
  have h2 : decide (Q.length + n < Q.length + S.length) = decide (n < S.length) := by simp
  rw [h1, h2]
  split
  · rw [Option.map_some, shS_set]
  · rfl
theorem putG_sh {κ : Type} [DecidableEq κ] (kvs : List (κ × D)) (k : κ) (v : D) : putG (kvs.map fun kv => (kv.1, kv.2.sh Q.length)) k (v.sh Q.length) = (putG kvs k v).map fun kv => (kv.1, kv.2.sh Q.length) := by
  unfold putG
  have h : ((kvs.map fun kv => (kv.1, kv.2.sh Q.length)).any fun kv => decide (kv.1 = k)) = kvs.any fun kv => decide (kv.1 = k) := by
    rw [List.any_map]
    rfl
  rw [h]
  split
  · rw [List.map_map, List.map_map]
    refine List.map_congr_left fun x _ => ?_
    show (if x.1 = k then _ else _) = _
    by_cases q : x.1 = k <;> simp [q]
  · rw [List.map_append]
    rfl
theorem subS_sh (base : Nat) (S : Store) (a i d : D) : subS (Q.length + base) (shS Q S) (a.sh Q.length) (i.sh Q.length) (d.sh Q.length) = (subS base S a i d).map (shS Q) := by
  unfold subS
  cases a <;> (try rfl)
  rename_i n
  simp only [D.sh, getD_sh]
  generalize S.getD n .non = c
  cases c <;> simp only [D.sh] <;> (try rfl)
  case lst xs =>
    cases i <;> simp only [D.sh] <;> (try rfl)
    rename_i j
    rw [shs_length]
    cases ixN xs.length j with
    | none => rfl
    | some k =>
      have := putS_sh (Q := Q) base S n d (.lst (xs.set k d))
      show _ = Option.map (shS Q) (putS base S n d (.lst (xs.set k d)))
      rw [← this]
      simp only [Option.bind_some, D.sh, shs_map, List.map_set]
  case dK kvs =>
    rw [keyOf_sh]
    cases keyOf i with
    | none => rfl
    | some k =>
      simp only [Option.bind_some, shK_length]
      split
      · have := putS_sh (Q := Q) base S n d (.dK (putG kvs k d))
        rw [← this]
        simp only [D.sh, shK_map, putG_sh]
      · rfl
  case dT kvs =>
    cases i <;> simp only [D.sh] <;> (try rfl)
    rename_i ks
    rw [keysOf_sh]
    cases keysOf ks with
    | none => rfl
    | some k =>
      simp only [Option.bind_some, shT_length]
      split
      · have := putS_sh (Q := Q) base S n d (.dT (putG kvs k d))
        rw [← this]
        simp only [D.sh, shT_map, putG_sh]
      · rfl
theorem appS_sh (base : Nat) (S : Store) (a d : D) : appS (Q.length + base) (shS Q S) (a.sh Q.length) (d.sh Q.length) = (appS base S a d).map (shS Q) := by
  unfold appS
  cases a <;> (try rfl)
  rename_i n
  simp only [D.sh, getD_sh]
  generalize S.getD n .non = c
  cases c <;> simp only [D.sh] <;> (try rfl)
  rename_i xs
  rw [shs_length]
  split
  · have := putS_sh (Q := Q) base S n d (.lst (xs ++ [d]))
    rw [← this]
    simp only [D.sh, shs_append, shs]
  · rfl
end
end EV
namespace EV
open PySem L2
/-- all constants name no cells -/
def Ex.cf : Ex → Bool
  | .v _ => true
  | .k d => d.free
  | .gc _ d => d.free
  | .un _ a => a.cf
  | .bi _ a b => a.cf && b.cf
  | .cm _ a b => a.cf && b.cf
  | .cm2 _ _ a b c => a.cf && b.cf && c.cf
  | .cm3 _ _ _ a b c d => a.cf && b.cf && c.cf && d.cf
  | .rgl _ a b => a.cf && b.cf
  | .rgt a b => a.cf && b.cf
  | .an a b => a.cf && b.cf
  | .orr a b => a.cf && b.cf
  | .ite a b c => a.cf && b.cf && c.cf
  | .tu a => a.cf
  | .li a => a.cf
  | .nil => true
  | .cons a b => a.cf && b.cf
  | .star a b => a.cf && b.cf
  | .ix a b => a.cf && b.cf
  | .sl a b c => a.cf && b.cf && c.cf
  | .no => true
  | .rv a => a.cf
  | .cal _ a => a.cf
  | .calz _ a => a.cf
  | .calk _ a b _ _ => a.cf && b.cf
  | .pr _ a => a.cf
  | .isi a _ => a.cf
  | .lc _ _ s c e => s.cf && c.cf && e.cf
  | .rg1 a => a.cf
  | .rg2 a b => a.cf && b.cf
  | .rgd a b => a.cf && b.cf
  | .pop a b => a.cf && b.cf
  | .idf _ a b => a.cf && b.cf
  | .en a => a.cf
  | .zp a b => a.cf && b.cf
  | .fr a => a.cf
  | .bad => true
  | .it a => a.cf
  | .yes => true
def Sm.cf : Sm → Bool
  | .nil => true
  | .cons s t => s.cf && t.cf
  | .doc => true
  | .set _ e => e.cf
  | .asg _ e => e.cf
  | .aug _ _ e => e.cf
  | .sub a i e => a.cf && i.cf && e.cf
  | .sub2 a i b j e => a.cf && i.cf && b.cf && j.cf && e.cf
  | .ex e => e.cf
  | .app a e => a.cf && e.cf
  | .ret e => e.cf
  | .ite c a b => c.cf && a.cf && b.cf
  | .forr _ s b => s.cf && b.cf
  | .whil c b => c.cf && b.cf
  | .brk => true
  | .cnt => true
  | .nev => true
  | .rais _ as => as.cf
  | .tryy b h => b.cf && h.cf
  | .han _ _ b m => b.cf && m.cf
section
variable {Q : Store}
theorem bind_sh {α β : Type} {g : α → α} {h : β → β} {r r' : R α} {f f' : α → Store → R β} (hr : r' = R.sh g Q r) (hf : ∀ a S, f' (g a) (shS Q S) = R.sh h Q (f a S)) : r'.bind f' = R.sh h Q (r.bind f) := by
  subst hr
  cases r with
  | ok a S => exact hf a S
  | er e S => rfl
  | fl => rfl
theorem of_sh {g : D → D} {o o' : Option D} {S : Store} (h : o' = o.map g) : R.of o' (shS Q S) = R.sh g Q (R.of o S) := by
  subst h
  cases o <;> rfl
theorem then_sh {α : Type} {g : α → α} {r r' : R α} {ρ : Env} {f f' : α → Store → RS} (hr : r' = R.sh g Q r) (hf : ∀ a S, f' (g a) (shS Q S) = RS.sh Q (f a S)) : r'.then (shR Q ρ) f' = RS.sh Q (r.then ρ f) := by
  subst hr
  cases r with
  | ok a S => exact hf a S
  | er e S => rfl
  | fl => rfl
abbrev sD (Q : Store) : D → D := D.sh Q.length
abbrev sL (Q : Store) : List D → List D := shs Q.length
theorem lcGo_sh {c e c' e' : Env → Store → R D} (hc : ∀ ρ S, c' (shR Q ρ) (shS Q S) = R.sh (sD Q) Q (c ρ S)) (he : ∀ ρ S, e' (shR Q ρ) (shS Q S) = R.sh (sD Q) Q (e ρ S)) (t : Tg) (vs : List Nat) (ρ : Env) : ∀ (xs acc : List D) (S : Store),
    lcGo c' e' t vs (shR Q ρ) (sL Q xs) (sL Q acc) (shS Q S) = R.sh (sL Q) Q (lcGo c e t vs ρ xs acc S)
  | [], acc, S => by
    show R.ok (sL Q acc).reverse _ = R.ok (sL Q acc.reverse) _
    rw [sL, shs_map, shs_map, List.map_reverse]
  | x :: xs, acc, S => by
    show lcGo c' e' t vs (shR Q ρ) (sD Q x :: sL Q xs) (sL Q acc) (shS Q S) = _
    unfold lcGo
    rw [wipeD_sh, bindT_sh]
    cases bindT t x (wipeD ρ vs) with
    | none => rfl
    | some ρ1 =>
      simp only [Option.map_some, hc]
      cases c ρ1 S with
      | er e S => rfl
      | fl => rfl
      | ok b S1 =>
        simp only [R.sh, tru_sh]
        cases tru S1 b with
        | none => rfl
        | some b =>
          cases b with
          | false => exact lcGo_sh hc he t vs ρ xs acc S1
          | true =>
            simp only [he]
            cases e ρ1 S1 with
            | er e S => rfl
            | fl => rfl
            | ok d S2 => exact lcGo_sh hc he t vs ρ xs (d :: acc) S2
theorem forGo_sh {b b' : Env → Store → RS} (hb : ∀ ρ S, b' (shR Q ρ) (shS Q S) = RS.sh Q (b ρ S)) (t : Tg) : ∀ (xs : List D) (ρ : Env) (S : Store), forGo b' t (sL Q xs) (shR Q ρ) (shS Q S) = RS.sh Q (forGo b t xs ρ S)
  | [], ρ, S => rfl
  | x :: xs, ρ, S => by
    show forGo b' t (sD Q x :: sL Q xs) (shR Q ρ) (shS Q S) = _
    unfold forGo
    rw [bindT_sh]
    cases bindT t x ρ with
    | none => rfl
    | some ρ1 =>
      simp only [Option.map_some, hb]
      cases b ρ1 S with
      | nx ρ2 S2 => exact forGo_sh hb t xs ρ2 S2
      | ct ρ2 S2 => exact forGo_sh hb t xs ρ2 S2
      | _ => rfl
theorem whileGo_sh {c c' : Env → Store → R D} {b b' : Env → Store → RS} (hc : ∀ ρ S, c' (shR Q ρ) (shS Q S) = R.sh (sD Q) Q (c ρ S)) (hb : ∀ ρ S, b' (shR Q ρ) (shS Q S) = RS.sh Q (b ρ S)) : ∀ (n : Nat) (ρ : Env) (S : Store), whileGo c' b' n (shR Q ρ) (shS Q S) = RS.sh Q (whileGo c b n ρ S)
  | 0, ρ, S => rfl
  | n + 1, ρ, S => by
    unfold whileGo
    rw [hc]
    cases c ρ S with
    | er e S => rfl
    | fl => rfl
    | ok x S1 =>
      simp only [R.sh, tru_sh]
      cases tru S1 x with
      | none => rfl
      | some v =>
        cases v with
        | false => rfl
        | true =>
          simp only [hb]
          cases b ρ S1 with
          | nx ρ2 S2 => exact whileGo_sh hc hb n ρ2 S2
          | ct ρ2 S2 => exact whileGo_sh hc hb n ρ2 S2
          | _ => rfl
theorem fz0_sh (S : Store) : ∀ (n : Nat) (d : D), fz (shS Q S) 0 n (d.sh Q.length) = (fz S 0 n d).map (D.sh Q.length)
  | 0, d => by
    unfold fz
    rw [free_sh]
    split <;> rfl
  | n + 1, d => by
    unfold fz
    rw [free_sh]
    by_cases hf : d.free = true
    · rw [if_pos hf, if_pos hf]
      rfl
    rw [if_neg hf, if_neg hf]
    cases d <;> simp only [D.sh] <;> (try rfl)
    case tup xs => rw [allM_sh (fz0_sh S n) xs]; cases allM (fz S 0 n) xs <;> rfl
    case lst xs => rw [allM_sh (fz0_sh S n) xs]; cases allM (fz S 0 n) xs <;> rfl
    case loc m =>
      rw [if_neg (by omega), if_neg (by omega), getD_sh]
      generalize S.getD m .non = c
      cases c <;> simp only [D.sh] <;> (try rfl)
      case lst xs => rw [allM_sh (fz0_sh S n) xs]; cases allM (fz S 0 n) xs <;> rfl
      case dK kvs => rw [freesK_sh]; split <;> rfl
      case dT kvs => rw [freesT_sh]; split <;> rfl
theorem sh_allM_free {f : D → Option D} (h : ∀ x y, f x = some y → y.free = true) : ∀ (xs ys : List D), allM f xs = some ys → frees ys = true
  | [], ys, e => by cases e; rfl
  | x :: xs, ys, e => by
    unfold allM at e
    split at e
    · rename_i y ys' e1 e2
      cases e
      rw [frees, h x y e1, sh_allM_free h xs ys' e2]
      rfl
    · cases e
theorem fz0_free (S : Store) : ∀ (n : Nat) (d y : D), fz S 0 n d = some y → y.free = true
  | 0, d, y, e => by
    unfold fz at e
    split at e
    · cases e; assumption
    · cases e
  | n + 1, d, y, e => by
    unfold fz at e
    by_cases hf : d.free = true
    · rw [if_pos hf] at e
      cases e
      exact hf
    rw [if_neg hf] at e
    have ha : ∀ (xs : List D) (g : List D → D), (∀ zs, frees zs = true → (g zs).free = true) → (allM (fz S 0 n) xs).map g = some y → y.free = true := by
      intro xs g hg e
      cases q : allM (fz S 0 n) xs with
      | none => rw [q] at e; cases e
      | some zs =>
        rw [q] at e
        cases e
        exact hg zs (sh_allM_free (fz0_free S n) xs zs q)
    cases d <;> simp only at e <;> (try (cases e; done))
    case tup xs => exact ha xs D.tup (fun zs h => h) e
    case lst xs => exact ha xs D.lst (fun zs h => h) e
    case loc m =>
      rw [if_neg (by omega)] at e
      generalize S.getD m .non = c at e
      cases c <;> simp only at e <;> (try (cases e; done))
      case lst xs => exact ha xs D.lst (fun zs h => h) e
      case dK kvs => split at e <;> cases e; assumption
      case dT kvs => split at e <;> cases e; assumption
structure ShC (Q : Store) (C C' : Cl) : Prop where
  base : C'.base = Q.length + C.base
  call : C'.call = C.call
  isi : C'.isi = C.isi
  W : C'.W = C.W
  dfl : C'.dfl = C.dfl
  sh : ∀ b f ds S, C.call (Q.length + b) f (shs Q.length ds) (shS Q S) = R.sh (D.sh Q.length) Q (C.call b f ds S)
  isiSh : ∀ d cs, C.isi (d.sh Q.length) cs = C.isi d cs
  dflSh : ∀ f n, frees (C.dfl f n) = true
section
variable {C C' : Cl} (H : ShC Q C C')
include H
def shEx (Q : Store) (C C' : Cl) (e : Ex) : Prop := (∀ ρ S, ev C' e (shR Q ρ) (shS Q S) = R.sh (sD Q) Q (ev C e ρ S)) ∧ (∀ ρ S, evs C' e (shR Q ρ) (shS Q S) = R.sh (sL Q) Q (evs C e ρ S)) ∧ (∀ ρ S, evi C' e (shR Q ρ) (shS Q S) = R.sh (sL Q) Q (evi C e ρ S))
theorem dfl_app (f n : Nat) (xs : List D) : sL Q xs ++ C'.dfl f n = sL Q (xs ++ C.dfl f n) := by
  rw [H.dfl, sL, shs_append, shs_free _ (H.dflSh f n)]
theorem ev_sh : ∀ e : Ex, e.cf = true → shEx Q C C' e := by
  intro e
  induction e with
  | v i => exact fun _ => ⟨fun ρ S => of_sh (by rw [shR_getD]), fun _ _ => rfl, fun _ _ => rfl⟩
  | k d => exact fun h => ⟨fun ρ S => by show R.ok d _ = R.ok (d.sh Q.length) _; rw [sh_free d h], fun _ _ => rfl, fun _ _ => rfl⟩
  | gc x d => exact fun h => ⟨fun ρ S => by show R.ok d _ = R.ok (d.sh Q.length) _; rw [sh_free d h], fun _ _ => rfl, fun _ _ => rfl⟩
  | un o a ia => exact fun h => ⟨fun ρ S => bind_sh ((ia h).1 ρ S) fun x S1 => of_sh (uop_sh o S1 x), fun _ _ => rfl, fun _ _ => rfl⟩
  | bi o a b ia ib =>
    intro h
    obtain ⟨h1, h2⟩ := ba h
    exact ⟨fun ρ S => bind_sh ((ia h1).1 ρ S) fun x S1 => bind_sh ((ib h2).1 ρ S1) fun y S2 => of_sh (bop_sh o S2 x y), fun _ _ => rfl, fun _ _ => rfl⟩
  | cm o a b ia ib =>
    intro h
    obtain ⟨h1, h2⟩ := ba h
    exact ⟨fun ρ S => bind_sh ((ia h1).1 ρ S) fun x S1 => bind_sh ((ib h2).1 ρ S1) fun y S2 => of_sh (by rw [cop_sh]; cases cop o S2 x y <;> rfl), fun _ _ => rfl, fun _ _ => rfl⟩
  | cm2 o p a b c ia ib ic =>
    intro h
    obtain ⟨h, h3⟩ := ba h
    obtain ⟨h1, h2⟩ := ba h
    refine ⟨fun ρ S => bind_sh ((ia h1).1 ρ S) fun x S1 => bind_sh ((ib h2).1 ρ S1) fun y S2 => ?_, fun _ _ => rfl, fun _ _ => rfl⟩
    rw [cop_sh]
    cases cop o S2 x y with
    | none => rfl
    | some v =>
      cases v with
      | false => rfl
      | true => exact bind_sh ((ic h3).1 ρ S2) fun z S3 => of_sh (by rw [cop_sh]; cases cop p S3 y z <;> rfl)
  | cm3 o p q a b c d ia ib ic id =>
    intro h
    obtain ⟨h, h4⟩ := ba h
    obtain ⟨h, h3⟩ := ba h
    obtain ⟨h1, h2⟩ := ba h
    refine ⟨fun ρ S => bind_sh ((ia h1).1 ρ S) fun x S1 => bind_sh ((ib h2).1 ρ S1) fun y S2 => ?_, fun _ _ => rfl, fun _ _ => rfl⟩
    rw [cop_sh]
    cases cop o S2 x y with
    | none => rfl
    | some v =>
      cases v with
      | false => rfl
      | true =>
        refine bind_sh ((ic h3).1 ρ S2) fun z S3 => ?_
        rw [cop_sh]
        cases cop p S3 y z with
        | none => rfl
        | some v =>
          cases v with
          | false => rfl
          | true => exact bind_sh ((id h4).1 ρ S3) fun u S4 => of_sh (by rw [cop_sh]; cases cop q S4 z u <;> rfl)
  | rgl tp a b ia ib =>
    intro h
    obtain ⟨h1, h2⟩ := ba h
    exact ⟨fun ρ S => bind_sh ((ia h1).1 ρ S) fun x S1 => bind_sh ((ib h2).1 ρ S1) fun y S2 => of_sh (rglD_sh tp (isNo a) x y), fun _ _ => rfl, fun _ _ => rfl⟩
  | rgt a b ia ib =>
    intro h
    obtain ⟨h1, h2⟩ := ba h
    exact ⟨fun ρ S => bind_sh ((ia h1).1 ρ S) fun x S1 => bind_sh ((ib h2).1 ρ S1) fun y S2 => of_sh (rgtD_sh x y), fun _ _ => rfl, fun _ _ => rfl⟩
  | an a b ia ib =>
    intro h
    obtain ⟨h1, h2⟩ := ba h
    refine ⟨fun ρ S => bind_sh ((ia h1).1 ρ S) fun x S1 => ?_, fun _ _ => rfl, fun _ _ => rfl⟩
    rw [tru_sh]
    cases tru S1 x with
    | none => rfl
    | some v =>
      cases v with
      | false => rfl
      | true => exact (ib h2).1 ρ S1
  | orr a b ia ib =>
    intro h
    obtain ⟨h1, h2⟩ := ba h
    refine ⟨fun ρ S => bind_sh ((ia h1).1 ρ S) fun x S1 => ?_, fun _ _ => rfl, fun _ _ => rfl⟩
    rw [tru_sh]
    cases tru S1 x with
    | none => rfl
    | some v =>
      cases v with
      | true => rfl
      | false => exact (ib h2).1 ρ S1
  | ite c a b ic ia ib =>
    intro h
    obtain ⟨h, h3⟩ := ba h
    obtain ⟨h1, h2⟩ := ba h
    refine ⟨fun ρ S => bind_sh ((ic h1).1 ρ S) fun x S1 => ?_, fun _ _ => rfl, fun _ _ => rfl⟩
    rw [tru_sh]
    cases tru S1 x with
    | none => rfl
    | some v =>
      cases v with
      | true => exact (ia h2).1 ρ S1
      | false => exact (ib h3).1 ρ S1
  | tu as ia =>
    intro h
    refine ⟨fun ρ S => bind_sh ((ia h).2.1 ρ S) fun xs S1 => ?_, fun _ _ => rfl, fun _ _ => rfl⟩
    rw [sL, shs_length]
    split <;> rfl
  | li as ia =>
    intro h
    refine ⟨fun ρ S => bind_sh ((ia h).2.1 ρ S) fun xs S1 => ?_, fun _ _ => rfl, fun _ _ => rfl⟩
    rw [sL, shs_length]
    split <;> rfl
  | nil => exact fun _ => ⟨fun _ _ => rfl, fun _ _ => rfl, fun _ _ => rfl⟩
  | cons a as ia ias =>
    intro h
    obtain ⟨h1, h2⟩ := ba h
    exact ⟨fun _ _ => rfl, fun ρ S => bind_sh ((ia h1).1 ρ S) fun x S1 => bind_sh ((ias h2).2.1 ρ S1) fun xs S2 => rfl, fun _ _ => rfl⟩
  | star a as ia ias =>
    intro h
    obtain ⟨h1, h2⟩ := ba h
    refine ⟨fun _ _ => rfl, fun ρ S => bind_sh ((ia h1).1 ρ S) fun x S1 => ?_, fun _ _ => rfl⟩
    rw [items_sh]
    cases items S1 x with
    | none => rfl
    | some ys => exact bind_sh ((ias h2).2.1 ρ S1) fun xs S2 => by show R.ok (sL Q ys ++ sL Q xs) _ = R.ok (sL Q (ys ++ xs)) _; rw [sL, shs_append]
  | ix a i ia ii =>
    intro h
    obtain ⟨h1, h2⟩ := ba h
    exact ⟨fun ρ S => bind_sh ((ia h1).1 ρ S) fun x S1 => bind_sh ((ii h2).1 ρ S1) fun y S2 => of_sh (idx_sh S2 x y), fun _ _ => rfl, fun _ _ => rfl⟩
  | sl a lo hi ia il ih =>
    intro h
    obtain ⟨h, h3⟩ := ba h
    obtain ⟨h1, h2⟩ := ba h
    refine ⟨fun ρ S => bind_sh ((ia h1).1 ρ S) fun x S1 => bind_sh ((il h2).1 ρ S1) fun y S2 => ?_, fun _ _ => rfl, fun _ _ => rfl⟩
    rw [optI_sh]
    cases optI (isNo lo) y with
    | none => rfl
    | some l =>
      refine bind_sh ((ih h3).1 ρ S2) fun z S3 => ?_
      rw [optI_sh]
      cases optI (isNo hi) z with
      | none => rfl
      | some h => exact of_sh (slc_sh S3 x l h)
  | no => exact fun _ => ⟨fun _ _ => rfl, fun _ _ => rfl, fun _ _ => rfl⟩
  | rv a ia => exact fun h => ⟨fun ρ S => bind_sh ((ia h).1 ρ S) fun x S1 => of_sh (rvs_sh S1 x), fun _ _ => rfl, fun _ _ => rfl⟩
  | cal f as ia =>
    intro h
    refine ⟨fun ρ S => bind_sh ((ia h).2.1 ρ S) fun xs S1 => ?_, fun _ _ => rfl, fun _ _ => rfl⟩
    rw [H.base, H.call, dfl_app H, sL, shs_length]
    exact H.sh _ _ _ _
  | calz f as ia =>
    intro h
    refine ⟨fun ρ S => bind_sh ((ia h).2.1 ρ S) fun xs S1 => ?_, fun _ _ => rfl, fun _ _ => rfl⟩
    rw [H.call, sL, allM_sh (fz0_sh S1 8), shs_length, H.dfl]
    cases q : allM (fz S1 0 8) xs with
    | none => rfl
    | some ys =>
      show (match C.call 0 f (shs Q.length ys ++ C.dfl f xs.length) [] with | .ok d _ => _ | _ => R.fl) = R.sh (sD Q) Q (match C.call 0 f (ys ++ C.dfl f xs.length) [] with | .ok d _ => _ | _ => R.fl)
      rw [shs_free ys (sh_allM_free (fz0_free S1 8) xs ys q)]
      cases C.call 0 f (ys ++ C.dfl f xs.length) [] with
      | er e S => rfl
      | fl => rfl
      | ok d S =>
        simp only
        split
        · rename_i hs
          show R.ok d _ = R.ok (d.sh Q.length) _
          cases d <;> first | rfl | cases hs
        · rfl
  | calk f as ks ns perm ia ik =>
    intro h
    obtain ⟨h1, h2⟩ := ba h
    refine ⟨fun ρ S => bind_sh ((ia h1).2.1 ρ S) fun xs S1 => bind_sh ((ik h2).2.1 ρ S1) fun ys S2 => ?_, fun _ _ => rfl, fun _ _ => rfl⟩
    rw [H.base, H.call, sL, ← shs_append]
    have := dfl_app H f 0 (xs ++ ys)
    rw [sL] at this
    rw [this, pick_sh]
    exact H.sh _ _ _ _
  | pr p as ia => exact fun h => ⟨fun ρ S => bind_sh ((ia h).2.1 ρ S) fun xs S1 => of_sh (prim_sh p S1 xs), fun _ _ => rfl, fun _ _ => rfl⟩
  | isi a cs ia =>
    intro h
    refine ⟨fun ρ S => bind_sh ((ia h).1 ρ S) fun x S1 => of_sh ?_, fun _ _ => rfl, fun _ _ => rfl⟩
    rw [dr_sh, H.isi, H.isiSh]
    cases C.isi (dr S1 x) cs <;> rfl
  | lc t own s c e is ic ie =>
    intro h
    obtain ⟨h, h3⟩ := ba h
    obtain ⟨h1, h2⟩ := ba h
    exact ⟨fun ρ S => bind_sh ((is h1).2.2 ρ S) fun xs S1 => bind_sh (lcGo_sh (ic h2).1 (ie h3).1 t own ρ xs [] S1) fun ys S2 => rfl, fun _ _ => rfl, fun _ _ => rfl⟩
  | rg1 a ia =>
    intro h
    refine ⟨fun _ _ => rfl, fun _ _ => rfl, fun ρ S => bind_sh ((ia h).1 ρ S) fun x S1 => ?_⟩
    cases x <;> (try rfl)
    show (if _ then R.ok (rgD 0 _) _ else .fl) = R.sh (sL Q) Q (if _ then R.ok (rgD 0 _) _ else .fl)
    split
    · exact congrArg (fun l => R.ok l (shS Q S1)) (rgD_sh _ _).symm
    · rfl
  | rg2 a b ia ib =>
    intro h
    obtain ⟨h1, h2⟩ := ba h
    refine ⟨fun _ _ => rfl, fun _ _ => rfl, fun ρ S => bind_sh ((ia h1).1 ρ S) fun x S1 => bind_sh ((ib h2).1 ρ S1) fun y S2 => ?_⟩
    cases x <;> (try rfl) <;> cases y <;> (try rfl)
    show (if _ then R.ok (rgD _ _) _ else .fl) = R.sh (sL Q) Q (if _ then R.ok (rgD _ _) _ else .fl)
    split
    · exact congrArg (fun l => R.ok l (shS Q S2)) (rgD_sh _ _).symm
    · rfl
  | rgd a b ia ib =>
    intro h
    obtain ⟨h1, h2⟩ := ba h
    refine ⟨fun _ _ => rfl, fun _ _ => rfl, fun ρ S => bind_sh ((ia h1).1 ρ S) fun x S1 => bind_sh ((ib h2).1 ρ S1) fun y S2 => ?_⟩
    cases x <;> (try rfl) <;> cases y <;> (try rfl)
    show (if _ then R.ok (rgdD _ _) _ else .fl) = R.sh (sL Q) Q (if _ then R.ok (rgdD _ _) _ else .fl)
    split
    · exact congrArg (fun l => R.ok l (shS Q S2)) (rgdD_sh _ _).symm
    · rfl
  | pop a i ia ii =>
    intro h
    obtain ⟨h1, h2⟩ := ba h
    refine ⟨fun ρ S => bind_sh ((ia h1).1 ρ S) fun x S1 => ?_, fun _ _ => rfl, fun _ _ => rfl⟩
    rw [dr_sh]
    cases dr S1 x <;> (try rfl)
    exact bind_sh ((ii h2).1 ρ S1) fun y S2 => popD_sh x y S2
  | idf tp a b ia ib =>
    intro h
    obtain ⟨h1, h2⟩ := ba h
    refine ⟨fun ρ S => bind_sh ((ia h1).1 ρ S) fun x S1 => ?_, fun _ _ => rfl, fun _ _ => rfl⟩
    have q : seqB tp (dr (shS Q S1) (sD Q x)) = seqB tp (dr S1 x) := by
      rw [dr_sh]
      cases dr S1 x <;> rfl
    rw [q]
    split
    · exact bind_sh ((ib h2).1 ρ S1) fun y S2 => of_sh (idfD_sh tp S2 x y)
    · rfl
  | en a ia =>
    intro h
    refine ⟨fun _ _ => rfl, fun _ _ => rfl, fun ρ S => bind_sh ((ia h).1 ρ S) fun x S1 => ?_⟩
    cases x <;> (try rfl)
    all_goals exact congrArg (fun l => R.ok l (shS Q S1)) (enD_sh _ _).symm
  | zp a b ia ib =>
    intro h
    obtain ⟨h1, h2⟩ := ba h
    refine ⟨fun _ _ => rfl, fun _ _ => rfl, fun ρ S => bind_sh ((ia h1).1 ρ S) fun x S1 => bind_sh ((ib h2).1 ρ S1) fun y S2 => ?_⟩
    cases x <;> (try rfl) <;> cases y <;> (try rfl)
    all_goals exact congrArg (fun l => R.ok l (shS Q S2)) (zpD_sh _ _).symm
  | fr a ia =>
    intro h
    refine ⟨fun ρ S => bind_sh ((ia h).1 ρ S) fun x S1 => ?_, fun _ _ => rfl, fun _ _ => rfl⟩
    cases x <;> (try rfl)
    all_goals (show R.ok (.loc (shS Q S1).length) _ = R.ok (D.loc (Q.length + S1.length)) (shS Q (S1 ++ [_])); rw [shS_length, shS_append]; rfl)
  | bad => exact fun _ => ⟨fun _ _ => rfl, fun _ _ => rfl, fun _ _ => rfl⟩
  | it a ia =>
    intro h
    refine ⟨fun _ _ => rfl, fun _ _ => rfl, fun ρ S => bind_sh ((ia h).1 ρ S) fun x S1 => ?_⟩
    cases x <;> rfl
  | yes => exact fun _ => ⟨fun _ _ => rfl, fun _ _ => rfl, fun _ _ => rfl⟩
end
end
end EV
namespace EV
open PySem L2
section
variable {Q : Store} {C C' : Cl} (H : ShC Q C C')
include H
theorem ev_sh1 {e : Ex} (h : e.cf = true) (ρ : Env) (S : Store) : ev C' e (shR Q ρ) (shS Q S) = R.sh (sD Q) Q (ev C e ρ S) := (ev_sh H e h).1 ρ S
theorem evS_sh : ∀ s : Sm, s.cf = true → (∀ ρ S, evS C' s (shR Q ρ) (shS Q S) = RS.sh Q (evS C s ρ S)) ∧ (∀ c vs ρ S, evH C' s c (shs Q.length vs) (shR Q ρ) (shS Q S) = RS.sh Q (evH C s c vs ρ S)) := by
  intro s
  induction s with
  | nil => exact fun _ => ⟨fun _ _ => rfl, fun _ _ _ _ => rfl⟩
  | cons s t is it =>
    intro h
    obtain ⟨h1, h2⟩ := ba h
    refine ⟨fun ρ S => ?_, fun _ _ _ _ => rfl⟩
    show (match evS C' s (shR Q ρ) (shS Q S) with | .nx ρ1 S1 => evS C' t ρ1 S1 | r => r) = RS.sh Q (match evS C s ρ S with | .nx ρ1 S1 => evS C t ρ1 S1 | r => r)
    rw [(is h1).1]
    cases evS C s ρ S with
    | nx ρ1 S1 => exact (it h2).1 ρ1 S1
    | _ => rfl
  | doc => exact fun _ => ⟨fun _ _ => rfl, fun _ _ _ _ => rfl⟩
  | set i e => exact fun h => ⟨fun ρ S => then_sh (ev_sh1 H h ρ S) fun d S1 => by rw [← shR_set]; rfl, fun _ _ _ _ => rfl⟩
  | asg t e =>
    refine fun h => ⟨fun ρ S => then_sh (ev_sh1 H h ρ S) fun d S1 => ?_, fun _ _ _ _ => rfl⟩
    rw [bindT_sh]
    cases bindT t d ρ <;> rfl
  | aug i o e =>
    refine fun h => ⟨fun ρ S => ?_, fun _ _ _ _ => rfl⟩
    show (match (shR Q ρ).getD i none with | some x => _ | none => RS.fl) = RS.sh Q (match ρ.getD i none with | some x => _ | none => .fl)
    rw [shR_getD]
    cases ρ.getD i none with
    | none => rfl
    | some x =>
      refine then_sh (ev_sh1 H h ρ S) fun d S1 => ?_
      rw [augI_sh]
      cases augI o x d with
      | none => rfl
      | some y => show RS.nx _ _ = RS.nx _ _; rw [shR_set]
  | sub a i e =>
    intro h
    obtain ⟨h, h3⟩ := ba h
    obtain ⟨h1, h2⟩ := ba h
    refine ⟨fun ρ S => then_sh (ev_sh1 H h3 ρ S) fun d S1 => then_sh (ev_sh1 H h1 ρ S1) fun x S2 => then_sh (ev_sh1 H h2 ρ S2) fun y S3 => ?_, fun _ _ _ _ => rfl⟩
    rw [H.base, subS_sh]
    cases subS C.base S3 x y d <;> rfl
  | sub2 a i b j e =>
    intro h
    obtain ⟨h, h5⟩ := ba h
    obtain ⟨h, h4⟩ := ba h
    obtain ⟨h, h3⟩ := ba h
    obtain ⟨h1, h2⟩ := ba h
    refine ⟨fun ρ S => then_sh (ev_sh1 H h5 ρ S) fun t S2 => ?_, fun _ _ _ _ => rfl⟩
    cases t <;> (try rfl)
    rename_i xs
    match xs with
    | [] => rfl
    | [_] => rfl
    | _ :: _ :: _ :: _ => rfl
    | [d, d'] =>
      refine then_sh (ev_sh1 H h1 ρ S2) fun x S3 => then_sh (ev_sh1 H h2 ρ S3) fun y S4 => ?_
      rw [H.base, subS_sh]
      cases subS C.base S4 x y d with
      | none => rfl
      | some S5 =>
        refine then_sh (ev_sh1 H h3 ρ S5) fun x' S6 => then_sh (ev_sh1 H h4 ρ S6) fun y' S7 => ?_
        rw [subS_sh]
        cases subS C.base S7 x' y' d' <;> rfl
  | ex e => exact fun h => ⟨fun ρ S => then_sh (ev_sh1 H h ρ S) fun d S1 => rfl, fun _ _ _ _ => rfl⟩
  | app a e =>
    intro h
    obtain ⟨h1, h2⟩ := ba h
    refine ⟨fun ρ S => then_sh (ev_sh1 H h1 ρ S) fun x S1 => ?_, fun _ _ _ _ => rfl⟩
    rw [dr_sh]
    cases dr S1 x <;> (try rfl)
    refine then_sh (ev_sh1 H h2 ρ S1) fun d S2 => ?_
    rw [H.base, appS_sh]
    cases appS C.base S2 x d <;> rfl
  | ret e => exact fun h => ⟨fun ρ S => then_sh (ev_sh1 H h ρ S) fun d S1 => rfl, fun _ _ _ _ => rfl⟩
  | ite c a b ia ib =>
    intro h
    obtain ⟨h, h3⟩ := ba h
    obtain ⟨h1, h2⟩ := ba h
    refine ⟨fun ρ S => then_sh (ev_sh1 H h1 ρ S) fun x S1 => ?_, fun _ _ _ _ => rfl⟩
    rw [tru_sh]
    cases tru S1 x with
    | none => rfl
    | some v =>
      cases v with
      | true => exact (ia h2).1 ρ S1
      | false => exact (ib h3).1 ρ S1
  | forr t s b ib =>
    intro h
    obtain ⟨h1, h2⟩ := ba h
    exact ⟨fun ρ S => then_sh ((ev_sh H s h1).2.2 ρ S) fun xs S1 => forGo_sh (ib h2).1 t xs ρ S1, fun _ _ _ _ => rfl⟩
  | whil c b ib =>
    intro h
    obtain ⟨h1, h2⟩ := ba h
    refine ⟨fun ρ S => ?_, fun _ _ _ _ => rfl⟩
    show whileGo (ev C' c) (evS C' b) C'.W (shR Q ρ) (shS Q S) = _
    rw [H.W]
    exact whileGo_sh (ev_sh H c h1).1 (ib h2).1 _ ρ S
  | brk => exact fun _ => ⟨fun _ _ => rfl, fun _ _ _ _ => rfl⟩
  | cnt => exact fun _ => ⟨fun _ _ => rfl, fun _ _ _ _ => rfl⟩
  | nev => exact fun _ => ⟨fun _ _ => rfl, fun _ _ _ _ => rfl⟩
  | rais c as => exact fun h => ⟨fun ρ S => then_sh ((ev_sh H as h).2.1 ρ S) fun ds S1 => rfl, fun _ _ _ _ => rfl⟩
  | tryy b hs ib ih =>
    intro h
    obtain ⟨h1, h2⟩ := ba h
    refine ⟨fun ρ S => ?_, fun _ _ _ _ => rfl⟩
    show (match evS C' b (shR Q ρ) (shS Q S) with | .er (.exc c vs) ρ1 S1 => evH C' hs c vs ρ1 S1 | r => r) = RS.sh Q (match evS C b ρ S with | .er (.exc c vs) ρ1 S1 => evH C hs c vs ρ1 S1 | r => r)
    rw [(ib h1).1]
    cases evS C b ρ S with
    | er e ρ1 S1 =>
      cases e with
      | exc c vs => exact (ih h2).2 c vs ρ1 S1
      | _ => rfl
    | _ => rfl
  | han cs i b more ib im =>
    intro h
    obtain ⟨h1, h2⟩ := ba h
    refine ⟨fun _ _ => rfl, fun c vs ρ S => ?_⟩
    show (if cs.contains c = true then _ else evH C' more c (shs Q.length vs) (shR Q ρ) (shS Q S)) = RS.sh Q (if cs.contains c = true then _ else evH C more c vs ρ S)
    split
    · cases i with
      | none => exact (ib h1).1 ρ S
      | some i =>
        have hl : (shR Q ρ).length = ρ.length := by unfold shR; rw [List.length_map]
        simp only [hl]
        split
        · have := (ib h1).1 (ρ.set i (some (.exc c vs))) S
          rw [shR_set] at this
          have this : evS C' b ((shR Q ρ).set i (some (.exc c (shs Q.length vs)))) (shS Q S) = _ := this
          rw [this]
          cases evS C b (ρ.set i (some (.exc c vs))) S with
          | nx ρ1 S1 => show RS.nx _ _ = RS.nx _ _; rw [shR_unset]
          | rt d ρ1 S1 => show RS.rt _ _ _ = RS.rt _ _ _; rw [shR_unset]
          | _ => rfl
        · rfl
    · exact (im h2).2 c vs ρ S
end
theorem endC_sh {Q : Store} (keep : Bool) (b : Nat) (r : RS) : endC keep (Q.length + b) (RS.sh Q r) = R.sh (D.sh Q.length) Q (endC keep b r) := by
  have hf : ∀ d S, fin keep (Q.length + b) (shS Q S) (d.sh Q.length) = R.sh (D.sh Q.length) Q (fin keep b S d) := by
    intro d S
    unfold fin
    cases keep with
    | true => rfl
    | false =>
      simp only [Bool.false_eq_true, if_false]
      rw [fz_sh]
      cases fz S b 8 d with
      | none => rfl
      | some d' => show R.ok _ _ = R.ok _ _; rw [shS_take]
  cases r with
  | rt d ρ S => exact hf d S
  | nx ρ S => exact hf .non S
  | er e ρ S =>
    show (if keep = true then _ else if (e.sh Q.length).free = true then R.er (e.sh Q.length) ((shS Q S).take _) else .fl) = R.sh _ Q (if keep = true then _ else if e.free = true then R.er e (S.take b) else .fl)
    rw [free_sh]
    cases keep with
    | true => rfl
    | false =>
      simp only [Bool.false_eq_true, if_false]
      split
      · show R.er _ _ = R.er _ _; rw [shS_take]
      · rfl
  | _ => rfl
/-- no constant of the program names a cell -/
def PCf (P : Prg) : Prop := ∀ f fn, P f = some fn → fn.body.cf = true ∧ frees fn.dfl = true
theorem tyN_sh {p : Nat} (d : D) : tyN (d.sh p) = tyN d := by cases d <;> rfl
theorem isi0_sh {p : Nat} (d : D) : ∀ cs, isi0 (d.sh p) cs = isi0 d cs
  | [] => rfl
  | .own _ :: _ => rfl
  | .ty c :: cs => by
    unfold isi0
    rw [tyN_sh, isi0_sh d cs]
    cases d <;> rfl
theorem sh_frees_drop : ∀ (l : List D) (n : Nat), frees l = true → frees (l.drop n) = true
  | [], n, _ => by cases n <;> rfl
  | x :: xs, 0, h => h
  | x :: xs, n + 1, h => by
    rw [frees, Bool.and_eq_true] at h
    exact sh_frees_drop xs n h.2
theorem dflOf_free {P : Prg} (hP : PCf P) (f n : Nat) : frees (dflOf P f n) = true := by
  unfold dflOf
  split
  · rename_i fn e
    exact sh_frees_drop _ _ (hP f fn e).2
  · rfl
theorem startD_sh {Q : Store} (n : Nat) (ds : List D) : startD n (shs Q.length ds) = shR Q (startD n ds) := by
  unfold startD shR
  rw [shs_length, shs_map, List.map_append, List.map_map, List.map_replicate, List.map_map]
  rfl
theorem run_sh {P : Prg} (hP : PCf P) (W : Nat) (Q : Store) : ∀ (k b f : Nat) (ds : List D) (S : Store), run P isi0 W k (Q.length + b) f (shs Q.length ds) (shS Q S) = R.sh (D.sh Q.length) Q (run P isi0 W k b f ds S)
  | 0, _, _, _, _ => rfl
  | k + 1, b, f, ds, S => by
    unfold run
    cases q : P f with
    | none => rfl
    | some fn =>
      simp only [shs_length]
      split
      · cases hk : fn.keep with
        | true =>
          simp only [if_true]
          have H : ShC Q { call := run P isi0 W k, base := b, isi := isi0, W := W, dfl := dflOf P } { call := run P isi0 W k, base := Q.length + b, isi := isi0, W := W, dfl := dflOf P } := ⟨rfl, rfl, rfl, rfl, rfl, run_sh hP W Q k, isi0_sh, dflOf_free hP⟩
          rw [startD_sh, (evS_sh H fn.body (hP f fn q).1).1]
          exact endC_sh true b _
        | false =>
          simp only [Bool.false_eq_true, if_false, shS_length]
          have H : ShC Q { call := run P isi0 W k, base := S.length, isi := isi0, W := W, dfl := dflOf P } { call := run P isi0 W k, base := Q.length + S.length, isi := isi0, W := W, dfl := dflOf P } := ⟨rfl, rfl, rfl, rfl, rfl, run_sh hP W Q k, isi0_sh, dflOf_free hP⟩
          rw [startD_sh, (evS_sh H fn.body (hP f fn q).1).1]
          exact endC_sh false S.length _
      · rfl
/-- a def that keeps nothing does not look at its base -/
theorem run_base {P : Prg} {isi : D → List CR → Option Bool} {W k f : Nat} {fn : Fn} (e : P f = some fn) (hk : fn.keep = false) (b b' : Nat) (ds : List D) (S : Store) : run P isi W k b f ds S = run P isi W k b' f ds S := by
  cases k with
  | zero => rfl
  | succ k =>
    unfold run
    rw [e]
    simp only [hk, Bool.false_eq_true, if_false]
/-- what is reckoned at the empty store holds at every store -/
theorem at_any {P : Prg} (hP : PCf P) {W k f : Nat} {fn : Fn} (e : P f = some fn) (hk : fn.keep = false) {ds : List D} {r : D} (hd : frees ds = true) (hr : r.free = true) (h : run P isi0 W k 0 f ds [] = .ok r []) (b : Nat) (S : Store) : run P isi0 W k b f ds S = .ok r S := by
  have q := run_sh hP W S k 0 f ds []
  rw [h, shs_free ds hd] at q
  have q : run P isi0 W k (S.length + 0) f ds (S ++ []) = R.ok (r.sh S.length) (S ++ []) := q
  rw [List.append_nil, sh_free r hr] at q
  rw [run_base e hk b (S.length + 0)]
  exact q
theorem at_any_er {P : Prg} (hP : PCf P) {W k f : Nat} {fn : Fn} (e : P f = some fn) (hk : fn.keep = false) {ds : List D} {r : D} (hd : frees ds = true) (hr : r.free = true) (h : run P isi0 W k 0 f ds [] = .er r []) (b : Nat) (S : Store) : run P isi0 W k b f ds S = .er r S := by
  have q := run_sh hP W S k 0 f ds []
  rw [h, shs_free ds hd] at q
  have q : run P isi0 W k (S.length + 0) f ds (S ++ []) = R.er (r.sh S.length) (S ++ []) := q
  rw [List.append_nil, sh_free r hr] at q
  rw [run_base e hk b (S.length + 0)]
  exact q
/-- a look for PCf over a list of defs -/
def pcfB : List Fn → Bool
  | [] => true
  | fn :: r => fn.body.cf && frees fn.dfl && pcfB r
theorem pcf_of : ∀ {fns : List Fn}, pcfB fns = true → PCf fun i => fns[i]?
  | [], _, f, fn, e => by cases f <;> cases e
  | g :: r, h, f, fn, e => by
    unfold pcfB at h
    simp only [Bool.and_eq_true] at h
    cases f with
    | zero => cases e; exact h.1
    | succ f => exact pcf_of (fns := r) h.2 f fn e
end EV
/-! PL0: reckoning with the evaluator. -/
namespace EV
open L2 PySem
section
variable {P : Prg} {W : Nat}
abbrev cl (P : Prg) (W k b : Nat) : Cl := { call := run P isi0 W k, base := b, isi := isi0, W := W, dfl := dflOf P }
theorem run_nk {k b f : Nat} {fn : Fn} {ds : List D} {S : Store} (e : P f = some fn) (hk : fn.keep = false) (hl : ds.length = fn.ps.length) :
    run P isi0 W (k + 1) b f ds S = endC false S.length (evS (cl P W k S.length) fn.body (startD fn.ns.length ds) S) := by
  show (match P f with | none => R.fl | some fn => _) = _
  rw [e]
  show (if ds.length = fn.ps.length then _ else _) = _
  rw [if_pos hl, hk]
  rfl
theorem run_kp {k b f : Nat} {fn : Fn} {ds : List D} {S : Store} (e : P f = some fn) (hk : fn.keep = true) (hl : ds.length = fn.ps.length) :
    run P isi0 W (k + 1) b f ds S = endC true b (evS (cl P W k b) fn.body (startD fn.ns.length ds) S) := by
  show (match P f with | none => R.fl | some fn => _) = _
  rw [e]
  show (if ds.length = fn.ps.length then _ else _) = _
  rw [if_pos hl, hk]
  rfl
/-- a plain result -/
theorem fin_free {S : Store} {d : D} (h : d.free = true) : fin false S.length S d = .ok d S := by
  show (match fz S S.length 8 d with | some d' => R.ok d' (S.take S.length) | none => .fl) = _
  unfold fz
  rw [if_pos h, List.take_length]
theorem fin_free2 {S S' : Store} {d : D} (h : d.free = true) (hs : S'.length = S.length) : fin false S.length S' d = .ok d S' := by
  show (match fz S' S.length 8 d with | some d' => R.ok d' (S'.take S.length) | none => .fl) = _
  unfold fz
  rw [if_pos h, ← hs, List.take_length]
/-! ### groupings -/
inductive Tr where | lf (i : Int) | nd (a b : Tr)
  deriving DecidableEq
def Tr.d : Tr → D
  | .lf i => .int i
  | .nd a b => .tup [a.d, b.d]
def Tr.s : Tr → D
  | .lf i => .int i
  | .nd a b => .lst [a.s, b.s]
def Tr.dep : Tr → Nat
  | .lf _ => 0
  | .nd a b => 1 + max a.dep b.dep
def Tr.fst : Tr → Int
  | .lf i => i
  | .nd a _ => a.fst
def Tr.lst : Tr → Int
  | .lf i => i
  | .nd _ b => b.lst
/-- d is a grouping, of tuples and lists -/
inductive IsG : Tr → D → Prop where
  | lf (i : Int) : IsG (.lf i) (.int i)
  | tup {a b : Tr} {x y : D} : IsG a x → IsG b y → IsG (.nd a b) (.tup [x, y])
  | lst {a b : Tr} {x y : D} : IsG a x → IsG b y → IsG (.nd a b) (.lst [x, y])
theorem Tr.isd : ∀ t : Tr, IsG t t.d
  | .lf i => .lf i
  | .nd a b => .tup a.isd b.isd
theorem Tr.iss : ∀ t : Tr, IsG t t.s
  | .lf i => .lf i
  | .nd a b => .lst a.iss b.iss
theorem IsG.free {t : Tr} {d : D} (h : IsG t d) : d.free = true := by
  induction h with
  | lf i => rfl
  | tup _ _ a b => simp only [D.free, frees, a, b, Bool.and_self]
  | lst _ _ a b => simp only [D.free, frees, a, b, Bool.and_self]
end
end EV
namespace EV
open L2 PySem
section
variable {P : Prg} {W : Nat}
def F_is_number : Fn := { name := "is_number", ps := ["thing"], ns := ["thing"], body := (.cons (.ret (.an (.isi (.v 0) [.ty "int"]) (.un .not (.isi (.v 0) [.ty "bool"])))) .nil) }
def F_ends (i_is_number : Nat) : Fn := { name := "ends", ps := ["grouping"], ns := ["grouping", "one", "other"], body := (.cons (.asg (.t (.cons (.v 1) (.cons (.v 2) .nil))) (.tu (.cons (.v 0) (.cons (.v 0) .nil)))) (.cons (.whil (.un .not (.cal i_is_number (.cons (.v 1) .nil))) (.cons (.set 1 (.ix (.v 1) (.k (.int 0)))) .nil)) (.cons (.whil (.un .not (.cal i_is_number (.cons (.v 2) .nil))) (.cons (.set 2 (.ix (.v 2) (.k (.int 1)))) .nil)) (.cons (.ret (.tu (.cons (.v 1) (.cons (.v 2) .nil)))) .nil)))) }
theorem is_number_lf {n : Nat} (e : P n = some F_is_number) (k b : Nat) (S : Store) (i : Int) : run P isi0 W (k + 1) b n [.int i] S = .ok (.bl true) S := by
  rw [run_nk e rfl rfl]
  exact fin_free rfl
theorem is_number_nd {n : Nat} (e : P n = some F_is_number) (k b : Nat) (S : Store) (xs : List D) : run P isi0 W (k + 1) b n [.tup xs] S = .ok (.bl false) S := by
  rw [run_nk e rfl rfl]
  exact fin_free rfl
theorem is_number_ls {n : Nat} (e : P n = some F_is_number) (k b : Nat) (S : Store) (xs : List D) : run P isi0 W (k + 1) b n [.lst xs] S = .ok (.bl false) S := by
  rw [run_nk e rfl rfl]
  exact fin_free rfl
theorem dfl_nil {n m : Nat} {fn : Fn} (e : P n = some fn) (h : fn.dfl = []) : dflOf P n m = [] := by unfold dflOf; rw [e]; show fn.dfl.drop _ = []; rw [h, List.drop_nil]
end
end EV
namespace EV
open L2 PySem
section
variable {P : Prg} {W : Nat}
theorem bind_ok {α β : Type} {a : α} {S : Store} {f : α → Store → R β} : (R.ok a S).bind f = f a S := rfl
theorem then_ok {α : Type} {a : α} {S : Store} {ρ : Env} {f : α → Store → RS} : (R.ok a S).then ρ f = f a S := rfl
theorem ends_one {n : Nat} (e : P n = some F_is_number) (k b : Nat) (S : Store) (g o : Option D) {t : Tr} {d : D} (h : IsG t d) : ∀ m, t.dep < m →
    whileGo (ev (cl P W (k + 1) b) (.un .not (.cal n (.cons (.v 1) .nil)))) (evS (cl P W (k + 1) b) (.cons (.set 1 (.ix (.v 1) (.k (.int 0)))) .nil)) m [g, some d, o] S = .nx [g, some (.int t.fst), o] S := by
  have hc : ∀ d : D, ev (cl P W (k + 1) b) (.un .not (.cal n (.cons (.v 1) .nil))) [g, some d, o] S = (run P isi0 W (k + 1) b n [d] S).bind fun x S1 => R.of (uop .not S1 x) S1 := fun d => by
    show ((run P isi0 W (k + 1) b n ([d] ++ dflOf P n 1) S).bind _) = _
    rw [dfl_nil e rfl]
    rfl
  induction h with
  | lf i =>
    intro m hm
    cases m with
    | zero => omega
    | succ m =>
      rw [whileGo, hc, is_number_lf e]
      rfl
  | tup h1 h2 i1 i2 =>
    intro m hm
    cases m with
    | zero => omega
    | succ m =>
      rw [whileGo, hc, is_number_nd e]
      exact i1 m (by simp only [Tr.dep] at hm; omega)
  | lst h1 h2 i1 i2 =>
    intro m hm
    cases m with
    | zero => omega
    | succ m =>
      rw [whileGo, hc, is_number_ls e]
      exact i1 m (by simp only [Tr.dep] at hm; omega)
theorem ends_two {n : Nat} (e : P n = some F_is_number) (k b : Nat) (S : Store) (g o : Option D) {t : Tr} {d : D} (h : IsG t d) : ∀ m, t.dep < m →
    whileGo (ev (cl P W (k + 1) b) (.un .not (.cal n (.cons (.v 2) .nil)))) (evS (cl P W (k + 1) b) (.cons (.set 2 (.ix (.v 2) (.k (.int 1)))) .nil)) m [g, o, some d] S = .nx [g, o, some (.int t.lst)] S := by
  have hc : ∀ d : D, ev (cl P W (k + 1) b) (.un .not (.cal n (.cons (.v 2) .nil))) [g, o, some d] S = (run P isi0 W (k + 1) b n [d] S).bind fun x S1 => R.of (uop .not S1 x) S1 := fun d => by
    show ((run P isi0 W (k + 1) b n ([d] ++ dflOf P n 1) S).bind _) = _
    rw [dfl_nil e rfl]
    rfl
  induction h with
  | lf i =>
    intro m hm
    cases m with
    | zero => omega
    | succ m =>
      rw [whileGo, hc, is_number_lf e]
      rfl
  | tup h1 h2 i1 i2 =>
    intro m hm
    cases m with
    | zero => omega
    | succ m =>
      rw [whileGo, hc, is_number_nd e]
      exact i2 m (by simp only [Tr.dep] at hm; omega)
  | lst h1 h2 i1 i2 =>
    intro m hm
    cases m with
    | zero => omega
    | succ m =>
      rw [whileGo, hc, is_number_ls e]
      exact i2 m (by simp only [Tr.dep] at hm; omega)
theorem ends_ok {n f : Nat} (e : P n = some F_is_number) (e2 : P f = some (F_ends n)) (k b : Nat) (S : Store) {t : Tr} {d : D} (h : IsG t d) (hw : t.dep < W) : run P isi0 W (k + 2) b f [d] S = .ok (.tup [.int t.fst, .int t.lst]) S := by
  rw [run_nk e2 rfl rfl]
  show endC false S.length (match whileGo (ev (cl P W (k + 1) S.length) (.un .not (.cal n (.cons (.v 1) .nil)))) (evS (cl P W (k + 1) S.length) (.cons (.set 1 (.ix (.v 1) (.k (.int 0)))) .nil)) W [some d, some d, some d] S with | .nx ρ1 S1 => _ | r => r) = _
  rw [ends_one e k S.length S _ _ h W hw]
  show endC false S.length (match whileGo (ev (cl P W (k + 1) S.length) (.un .not (.cal n (.cons (.v 2) .nil)))) (evS (cl P W (k + 1) S.length) (.cons (.set 2 (.ix (.v 2) (.k (.int 1)))) .nil)) W [some d, some (.int t.fst), some d] S with | .nx ρ1 S1 => _ | r => r) = _
  rw [ends_two e k S.length S _ _ h W hw]
  exact fin_free rfl
end
end EV
/-! PLs: the evaluator's rows as rewriting rules. -/
namespace EV
open L2 PySem
section
variable {C : Cl} {ρ : Env} {S : Store}
@[simp] theorem s_bind {α β : Type} {a : α} {S : Store} {f : α → Store → R β} : (R.ok a S).bind f = f a S := rfl
@[simp] theorem s_then {α : Type} {a : α} {S : Store} {ρ : Env} {f : α → Store → RS} : (R.ok a S).then ρ f = f a S := rfl
@[simp] theorem s_of {α : Type} {a : α} {S : Store} : R.of (some a) S = .ok a S := rfl
@[simp] theorem s_v (i : Nat) : ev C (.v i) ρ S = R.of (ρ.getD i none) S := rfl
@[simp] theorem s_k (d : D) : ev C (.k d) ρ S = .ok d S := rfl
@[simp] theorem s_gc (x : PySem.Str) (d : D) : ev C (.gc x d) ρ S = .ok d S := rfl
@[simp] theorem s_un (o : UO) (a : Ex) : ev C (.un o a) ρ S = (ev C a ρ S).bind fun x S1 => R.of (uop o S1 x) S1 := rfl
@[simp] theorem s_bi (o : BO) (a b : Ex) : ev C (.bi o a b) ρ S = (ev C a ρ S).bind fun x S1 => (ev C b ρ S1).bind fun y S2 => R.of (bop o S2 x y) S2 := rfl
@[simp] theorem s_cm (o : CO) (a b : Ex) : ev C (.cm o a b) ρ S = (ev C a ρ S).bind fun x S1 => (ev C b ρ S1).bind fun y S2 => R.of ((cop o S2 x y).map .bl) S2 := rfl
@[simp] theorem s_cm2 (o p : CO) (a b c : Ex) : ev C (.cm2 o p a b c) ρ S = (ev C a ρ S).bind fun x S1 => (ev C b ρ S1).bind fun y S2 => match cop o S2 x y with
    | some true => (ev C c ρ S2).bind fun z S3 => R.of ((cop p S3 y z).map .bl) S3
    | some false => .ok (.bl false) S2
    | none => .fl := rfl
@[simp] theorem s_an (a b : Ex) : ev C (.an a b) ρ S = (ev C a ρ S).bind fun x S1 => match tru S1 x with
    | some true => ev C b ρ S1
    | some false => .ok x S1
    | none => .fl := rfl
@[simp] theorem s_orr (a b : Ex) : ev C (.orr a b) ρ S = (ev C a ρ S).bind fun x S1 => match tru S1 x with
    | some true => .ok x S1
    | some false => ev C b ρ S1
    | none => .fl := rfl
@[simp] theorem s_ite (c a b : Ex) : ev C (.ite c a b) ρ S = (ev C c ρ S).bind fun x S1 => match tru S1 x with
    | some true => ev C a ρ S1
    | some false => ev C b ρ S1
    | none => .fl := rfl
@[simp] theorem s_tu (as : Ex) : ev C (.tu as) ρ S = (evs C as ρ S).bind fun xs S1 => if xs.length ≤ lim then .ok (.tup xs) S1 else .fl := rfl
@[simp] theorem s_li (as : Ex) : ev C (.li as) ρ S = (evs C as ρ S).bind fun xs S1 => if xs.length ≤ lim then .ok (.lst xs) S1 else .fl := rfl
@[simp] theorem s_nil : evs C .nil ρ S = .ok [] S := rfl
@[simp] theorem s_cons (a as : Ex) : evs C (.cons a as) ρ S = (ev C a ρ S).bind fun x S1 => (evs C as ρ S1).bind fun xs S2 => .ok (x :: xs) S2 := rfl
@[simp] theorem s_star (a as : Ex) : evs C (.star a as) ρ S = (ev C a ρ S).bind fun x S1 => match items S1 x with
    | some ys => (evs C as ρ S1).bind fun xs S2 => .ok (ys ++ xs) S2
    | none => .fl := rfl
@[simp] theorem s_ix (a i : Ex) : ev C (.ix a i) ρ S = (ev C a ρ S).bind fun x S1 => (ev C i ρ S1).bind fun y S2 => R.of (idx S2 x y) S2 := rfl
@[simp] theorem s_rv (a : Ex) : ev C (.rv a) ρ S = (ev C a ρ S).bind fun x S1 => R.of (rvs S1 x) S1 := rfl
@[simp] theorem s_cal (f : Nat) (as : Ex) : ev C (.cal f as) ρ S = (evs C as ρ S).bind fun xs S1 => C.call C.base f (xs ++ C.dfl f xs.length) S1 := rfl
@[simp] theorem s_pr (p : Pr) (as : Ex) : ev C (.pr p as) ρ S = (evs C as ρ S).bind fun xs S1 => R.of (prim p S1 xs) S1 := rfl
@[simp] theorem s_isi (a : Ex) (cs : List CR) : ev C (.isi a cs) ρ S = (ev C a ρ S).bind fun x S1 => R.of ((C.isi (dr S1 x) cs).map .bl) S1 := rfl
@[simp] theorem s_lc (t : Tg) (own : List Nat) (s c e : Ex) : ev C (.lc t own s c e) ρ S = (evi C s ρ S).bind fun xs S1 => (lcGo (ev C c) (ev C e) t own ρ xs [] S1).bind fun ys S2 => .ok (.lst ys) S2 := rfl
@[simp] theorem s_yes : ev C .yes ρ S = .ok (.bl true) S := rfl
@[simp] theorem s_nil' : evS C .nil ρ S = .nx ρ S := rfl
@[simp] theorem s_seq (s t : Sm) : evS C (.cons s t) ρ S = (match evS C s ρ S with | .nx ρ1 S1 => evS C t ρ1 S1 | r => r) := rfl
@[simp] theorem s_doc : evS C .doc ρ S = .nx ρ S := rfl
@[simp] theorem s_set (i : Nat) (e : Ex) : evS C (.set i e) ρ S = (ev C e ρ S).then ρ fun d S1 => .nx (ρ.set i (some d)) S1 := rfl
@[simp] theorem s_asg (t : Tg) (e : Ex) : evS C (.asg t e) ρ S = (ev C e ρ S).then ρ fun d S1 => match bindT t d ρ with | some ρ1 => .nx ρ1 S1 | none => .fl := rfl
@[simp] theorem s_sub (a i e : Ex) : evS C (.sub a i e) ρ S = (ev C e ρ S).then ρ fun d S1 => (ev C a ρ S1).then ρ fun x S2 => (ev C i ρ S2).then ρ fun y S3 => match subS C.base S3 x y d with | some S4 => .nx ρ S4 | none => .fl := rfl
@[simp] theorem s_ret (e : Ex) : evS C (.ret e) ρ S = (ev C e ρ S).then ρ fun d S1 => .rt d ρ S1 := rfl
@[simp] theorem s_if (c : Ex) (a b : Sm) : evS C (.ite c a b) ρ S = (ev C c ρ S).then ρ fun x S1 => match tru S1 x with
    | some true => evS C a ρ S1
    | some false => evS C b ρ S1
    | none => .fl := rfl
@[simp] theorem s_for (t : Tg) (s : Ex) (b : Sm) : evS C (.forr t s b) ρ S = (evi C s ρ S).then ρ fun xs S1 => forGo (evS C b) t xs ρ S1 := rfl
@[simp] theorem s_fr (a : Ex) : ev C (.fr a) ρ S = (ev C a ρ S).bind fun x S1 => match x with
    | .lst xs => .ok (.loc S1.length) (S1 ++ [.lst xs])
    | .dK xs => .ok (.loc S1.length) (S1 ++ [.dK xs])
    | .dT xs => .ok (.loc S1.length) (S1 ++ [.dT xs])
    | _ => .fl := rfl
@[simp] theorem s_it (a : Ex) : evi C (.it a) ρ S = (ev C a ρ S).bind fun x S1 => match x with
    | .lst xs => .ok xs S1
    | .fzn xs => .ok xs S1
    | .tup xs => .ok xs S1
    | _ => .fl := rfl
variable {i j : Int} {b : Bool} {xs ys : List D} {n : Nat}
@[simp] theorem s_dri : dr S (.int i) = .int i := rfl
@[simp] theorem s_drb : dr S (.bl b) = .bl b := rfl
@[simp] theorem s_drt : dr S (.tup xs) = .tup xs := rfl
@[simp] theorem s_drl : dr S (.lst xs) = .lst xs := rfl
@[simp] theorem s_drf : dr S (.fzn xs) = .fzn xs := rfl
@[simp] theorem s_add : bop .add S (.int i) (.int j) = some (.int (i + j)) := rfl
@[simp] theorem s_subi : bop .sub S (.int i) (.int j) = some (.int (i - j)) := rfl
@[simp] theorem s_mul : bop .mul S (.int i) (.int j) = if mulOk i j then some (.int (i * j)) else none := rfl
@[simp] theorem s_mod : bop .mod S (.int i) (.int j) = if 0 < j then some (.int (i % j)) else none := rfl
@[simp] theorem s_div : bop .fdiv S (.int i) (.int j) = if 0 < j ∧ j.natAbs.log2 < 9000 then some (.int (i / j)) else none := rfl
@[simp] theorem s_t20 {x y : D} : idx S (.tup [x, y]) (.int 0) = some x := rfl
@[simp] theorem s_t21 {x y : D} : idx S (.tup [x, y]) (.int 1) = some y := rfl
@[simp] theorem s_l20 {x y : D} : idx S (.lst [x, y]) (.int 0) = some x := rfl
@[simp] theorem s_l21 {x y : D} : idx S (.lst [x, y]) (.int 1) = some y := rfl
@[simp] theorem s_t30 {x y z : D} : idx S (.tup [x, y, z]) (.int 0) = some x := rfl
@[simp] theorem s_t31 {x y z : D} : idx S (.tup [x, y, z]) (.int 1) = some y := rfl
@[simp] theorem s_t32 {x y z : D} : idx S (.tup [x, y, z]) (.int 2) = some z := rfl
@[simp] theorem s_iml : items S (.lst xs) = some xs := rfl
@[simp] theorem s_imt : items S (.tup xs) = some xs := rfl
@[simp] theorem s_l1 : 1 ≤ lim := by decide
@[simp] theorem s_l2 : 2 ≤ lim := by decide
@[simp] theorem s_l3 : 3 ≤ lim := by decide
@[simp] theorem s_tul : prim .tuple S [.lst xs] = some (.tup xs) := rfl
@[simp] theorem s_tut : prim .tuple S [.tup xs] = some (.tup xs) := rfl
@[simp] theorem s_rvl : rvs S (.lst xs) = some (.lst xs.reverse) := rfl
@[simp] theorem s_rvt : rvs S (.tup xs) = some (.tup xs.reverse) := rfl
@[simp] theorem s_log1 : Nat.log2 1000003 < 9000 := by decide
@[simp] theorem s_log2 : Nat.log2 64 < 9000 := by decide
@[simp] theorem s_gt : cop .gt S (.int i) (.int j) = some (decide (j < i)) := rfl
@[simp] theorem s_ge : cop .ge S (.int i) (.int j) = some (decide (j ≤ i)) := rfl
@[simp] theorem s_lt : cop .lt S (.int i) (.int j) = some (decide (i < j)) := rfl
@[simp] theorem s_le : cop .le S (.int i) (.int j) = some (decide (i ≤ j)) := rfl
@[simp] theorem s_eq : cop .eq S (.int i) (.int j) = some (decide (i = j)) := by
  show some (PySem.PyData.eqv (.int i) (.int j)) = _
  rw [PySem.PyData.eqv]
  by_cases h : i = j
  · simp [h]
  · simp [h]
@[simp] theorem s_ne : cop .ne S (.int i) (.int j) = some (!decide (i = j)) := by
  show some (!PySem.PyData.eqv (.int i) (.int j)) = _
  rw [PySem.PyData.eqv]
  by_cases h : i = j
  · simp [h]
  · simp [h]
@[simp] theorem s_trb : tru S (.bl b) = some b := rfl
@[simp] theorem s_int : prim .int S [.int i] = some (.int i) := rfl
@[simp] theorem s_intb : prim .int S [.bl b] = some (.int (if b then 1 else 0)) := rfl
@[simp] theorem s_abs : prim .abs S [.int i] = some (.int (if i < 0 then -i else i)) := rfl
@[simp] theorem s_lenl : prim .len S [.lst xs] = some (.int xs.length) := rfl
@[simp] theorem s_lent : prim .len S [.tup xs] = some (.int xs.length) := rfl
@[simp] theorem s_lenf : prim .len S [.fzn xs] = some (.int xs.length) := rfl
@[simp] theorem s_unn : uop .not S (.bl b) = some (.bl (!b)) := rfl
end
end EV
namespace EV
open L2 PySem
section
variable {P : Prg} {W : Nat}
def F_law_take : Fn := { name := "_law_take", ps := ["_law_box_here", "_law_below"], ns := ["_law_box_here", "_law_below", "_law_once", "_law_odd", "_law_twice", "_law_digit_so"], body := (.cons (.ite (.cm .gt (.ix (.v 0) (.k (.int 0))) (.k (.int 0))) (.cons (.set 5 (.bi .mod (.pr .int (.cons (.ix (.v 0) (.k (.int 0))) .nil)) (.v 1))) (.cons (.sub (.v 0) (.k (.int 0)) (.bi .fdiv (.ix (.v 0) (.k (.int 0))) (.v 1))) (.cons (.ret (.v 5)) .nil))) .nil) (.cons (.sub (.v 0) (.k (.int 2)) (.bi .add (.ix (.v 0) (.k (.int 2))) (.k (.int 1)))) (.cons (.set 2 (.bi .mod (.pr .int (.cons (.bi .mul (.bi .add (.ix (.v 0) (.k (.int 1))) (.bi .mul (.k (.int 48271)) (.ix (.v 0) (.k (.int 2))))) (.bi .add (.k (.int 39373)) (.ix (.v 0) (.k (.int 2))))) .nil)) (.k (.int 2147483647)))) (.cons (.set 3 (.bi .add (.bi .mod (.pr .int (.cons (.v 2) .nil)) (.k (.int 40009))) (.k (.int 7)))) (.cons (.set 4 (.bi .mod (.pr .int (.cons (.bi .mul (.bi .add (.bi .add (.v 2) (.ix (.v 0) (.k (.int 2)))) (.bi .fdiv (.ix (.v 0) (.k (.int 1))) (.k (.int 1000003)))) (.v 3)) .nil)) (.k (.int 2147483629)))) (.cons (.ret (.bi .mod (.pr .int (.cons (.bi .fdiv (.bi .mod (.pr .int (.cons (.bi .add (.bi .mul (.v 4) (.k (.int 48271))) (.v 2)) .nil)) (.k (.int 2147483587))) (.k (.int 64))) .nil)) (.v 1))) .nil)))))) }
/-- the box at b: its counter at most Z -/
def Box (S : Store) (b Z : Nat) : Prop := ∃ x y z : Int, S[b]? = some (.lst [.int x, .int y, .int z]) ∧ 0 ≤ y ∧ y < 2 ^ 62 ∧ 0 ≤ z ∧ z ≤ Z
theorem smallI_of {i : Int} (h1 : -(2 ^ 64) < i) (h2 : i < 2 ^ 64) : smallI i = true := by
  unfold smallI
  rw [decide_eq_true h1, decide_eq_true h2]
  rfl
theorem mulOk_l {i j : Int} (h : smallI i = true) : mulOk i j = true := by unfold mulOk; rw [h]; rfl
theorem mulOk_r {i j : Int} (h : smallI j = true) : mulOk i j = true := by unfold mulOk; rw [h]; simp
theorem box_ix {S : Store} {b : Nat} {x y z : Int} (h : S[b]? = some (.lst [.int x, .int y, .int z])) : idx S (.loc b) (.int 0) = some (.int x) ∧ idx S (.loc b) (.int 1) = some (.int y) ∧ idx S (.loc b) (.int 2) = some (.int z) := by
  have gS : dr S (.loc b) = .lst [.int x, .int y, .int z] := by show S.getD b .non = _; rw [List.getD_eq_getElem?_getD, h]; rfl
  unfold idx
  rw [gS]
  exact ⟨rfl, rfl, rfl⟩
theorem box_set {S : Store} {b base : Nat} {x y z v : Int} (h : S[b]? = some (.lst [.int x, .int y, .int z])) : subS base S (.loc b) (.int 0) (.int v) = some (S.set b (.lst [.int v, .int y, .int z])) ∧ subS base S (.loc b) (.int 2) (.int v) = some (S.set b (.lst [.int x, .int y, .int v])) := by
  have hlt : b < S.length := (List.getElem?_eq_some_iff.mp h).1
  have gS : S.getD b .non = .lst [.int x, .int y, .int z] := by rw [List.getD_eq_getElem?_getD, h]; rfl
  have pt : ∀ o, putS base S b (.int v) o = some (S.set b o) := fun o => by
    unfold putS
    rw [if_pos (by simp [D.free, hlt])]
  unfold subS
  dsimp only
  rw [gS]
  exact ⟨pt _, pt _⟩
theorem take_ok {f : Nat} (e : P f = some F_law_take) (k base : Nat) (S : Store) (b Z : Nat) (n : Int) (hn : 0 < n) (hn2 : n.natAbs.log2 < 9000) (hb : Box S b Z) (hZ : Z < 2 ^ 60) :
    ∃ (r : Int) (S' : Store), run P isi0 W (k + 1) base f [.loc b, .int n] S = .ok (.int r) S' ∧ 0 ≤ r ∧ r < n ∧ S'.length = S.length ∧ Box S' b (Z + 1) ∧ ∀ m, m ≠ b → S'[m]? = S[m]? := by
  obtain ⟨x, y, z, hS, hy0, hy1, hz0, hz1⟩ := hb
  have hlt : b < S.length := (List.getElem?_eq_some_iff.mp hS).1
  obtain ⟨i0, i1, i2⟩ := box_ix hS
  rw [run_nk e rfl rfl]
  by_cases hx : 0 < x
  · refine ⟨x % n, S.set b (.lst [.int (x / n), .int y, .int z]), ?_, Int.emod_nonneg _ (by omega), Int.emod_lt_of_pos _ hn, by simp, ⟨x / n, y, z, by rw [List.getElem?_set_self hlt], hy0, hy1, hz0, by omega⟩, fun m hm => List.getElem?_set_ne (Ne.symm hm)⟩
    simp [F_law_take, startD, i0, hx, hn, hn2, (box_set (base := S.length) (v := x / n) hS).1]
    exact fin_free2 rfl (by simp)
  · have hS2 : (S.set b (.lst [.int x, .int y, .int (z + 1)]))[b]? = some (.lst [.int x, .int y, .int (z + 1)]) := List.getElem?_set_self hlt
    obtain ⟨j0, j1, j2⟩ := box_ix hS2
    have m1 : mulOk 48271 (z + 1) = true := mulOk_l rfl
    have m2 : mulOk (y + 48271 * (z + 1)) (39373 + (z + 1)) = true := mulOk_r (smallI_of (by omega) (by omega))
    generalize ho : ((y + 48271 * (z + 1)) * (39373 + (z + 1))) % 2147483647 = once
    have o1 : 0 ≤ once := by omega
    have o2 : once < 2147483647 := by omega
    have m3 : mulOk (once + (z + 1) + y / 1000003) (once % 40009 + 7) = true := mulOk_r (smallI_of (by omega) (by omega))
    generalize ht : ((once + (z + 1) + y / 1000003) * (once % 40009 + 7)) % 2147483629 = twice
    have m4 : mulOk twice 48271 = true := mulOk_r rfl
    refine ⟨((twice * 48271 + once) % 2147483587 / 64) % n, S.set b (.lst [.int x, .int y, .int (z + 1)]), ?_, Int.emod_nonneg _ (by omega), Int.emod_lt_of_pos _ hn, by simp, ⟨x, y, z + 1, hS2, hy0, hy1, by omega, by omega⟩, fun m hm => List.getElem?_set_ne (Ne.symm hm)⟩
    simp [F_law_take, startD, i0, i2, hx, hn, hn2, (box_set (base := S.length) (v := z + 1) hS).2, j1, j2, m1, m2, ho, m3, ht, m4]
    exact fin_free2 rfl (by simp)
end
end EV
/-! PLd: groupings: ends, spans, reaches, starts, mirrored; the law's own. -/
namespace EV
open L2 PySem
/-- factors_in -/
def F_factors_in (i_ends : Nat) : Fn := { name := "factors_in", ps := ["grouping"], ns := ["grouping"], body := (.cons (.ret (.ix (.cal i_ends (.cons (.v 0) .nil)) (.k (.int 1)))) .nil) }
/-- spans -/
def F_spans (i_ends i_spans i_is_number : Nat) : Fn := { name := "spans", ps := ["grouping"], ns := ["grouping", "left", "right", "first", "join"], body := (.cons (.ite (.cal i_is_number (.cons (.v 0) .nil)) (.cons (.ret (.li .nil)) .nil) .nil) (.cons (.asg (.t (.cons (.v 1) (.cons (.v 2) .nil))) (.tu (.cons (.cal i_spans (.cons (.ix (.v 0) (.k (.int 0))) .nil)) (.cons (.cal i_spans (.cons (.ix (.v 0) (.k (.int 1))) .nil)) .nil)))) (.cons (.asg (.t (.cons (.v 3) (.cons (.v 4) .nil))) (.cal i_ends (.cons (.ix (.v 0) (.k (.int 0))) .nil))) (.cons (.ret (.li (.star (.v 1) (.cons (.tu (.cons (.v 3) (.cons (.v 4) (.cons (.ix (.cal i_ends (.cons (.ix (.v 0) (.k (.int 1))) .nil)) (.k (.int 1))) .nil)))) (.star (.v 2) .nil))))) .nil)))) }
/-- reaches -/
def F_reaches (i_spans : Nat) : Fn := { name := "reaches", ps := ["grouping"], ns := ["grouping", "first", "join", "last"], body := (.cons (.ret (.pr .tuple (.cons (.lc (.t (.cons (.v 1) (.cons (.v 2) (.cons (.v 3) .nil)))) [1, 2, 3] (.it (.cal i_spans (.cons (.v 0) .nil))) .yes (.v 3)) .nil))) .nil) }
/-- starts -/
def F_starts (i_spans : Nat) : Fn := { name := "starts", ps := ["grouping"], ns := ["grouping", "first", "join", "last"], body := (.cons (.ret (.pr .tuple (.cons (.lc (.t (.cons (.v 1) (.cons (.v 2) (.cons (.v 3) .nil)))) [1, 2, 3] (.it (.cal i_spans (.cons (.v 0) .nil))) .yes (.v 1)) .nil))) .nil) }
/-- shifted -/
def F_shifted (i_shifted i_is_number : Nat) : Fn := { name := "shifted", ps := ["grouping", "factors"], ns := ["grouping", "factors"], body := (.cons (.ite (.cal i_is_number (.cons (.v 0) .nil)) (.cons (.ret (.bi .sub (.bi .add (.v 1) (.k (.int 1))) (.v 0))) .nil) .nil) (.cons (.ret (.tu (.cons (.cal i_shifted (.cons (.ix (.v 0) (.k (.int 1))) (.cons (.v 1) .nil))) (.cons (.cal i_shifted (.cons (.ix (.v 0) (.k (.int 0))) (.cons (.v 1) .nil))) .nil)))) .nil)) }
/-- mirrored -/
def F_mirrored (i_shifted i_factors_in : Nat) : Fn := { name := "mirrored", ps := ["grouping"], ns := ["grouping"], body := (.cons (.ret (.cal i_shifted (.cons (.v 0) (.cons (.cal i_factors_in (.cons (.v 0) .nil)) .nil)))) .nil) }
/-- _law_same -/
def F_law_same (i_law_same : Nat) : Fn := { name := "_law_same", ps := ["_law_got", "_law_due"], ns := ["_law_got", "_law_due", "_law_mine", "_law_its"], body := (.cons (.ite (.isi (.v 1) [.ty "list", .ty "tuple"]) (.cons (.ite (.orr (.cm .ne (.isi (.v 0) [.ty "list"]) (.isi (.v 1) [.ty "list"])) (.cm .ne (.isi (.v 0) [.ty "tuple"]) (.isi (.v 1) [.ty "tuple"]))) (.cons (.ret (.k (.bl false))) .nil) .nil) (.cons (.ret (.an (.cm .eq (.pr .len (.cons (.v 0) .nil)) (.pr .len (.cons (.v 1) .nil))) (.pr .all (.cons (.lc (.t (.cons (.v 2) (.cons (.v 3) .nil))) [2, 3] (.zp (.v 0) (.v 1)) .yes (.cal i_law_same (.cons (.v 2) (.cons (.v 3) .nil)))) .nil)))) .nil)) .nil) (.cons (.ite (.orr (.cm .is (.v 1) (.k .non)) (.isi (.v 1) [.ty "bool", .ty "str"])) (.cons (.ret (.an (.cm .eq (.v 0) (.v 1)) (.an (.cm .eq (.isi (.v 0) [.ty "bool"]) (.isi (.v 1) [.ty "bool"])) (.cm .eq (.cm .is (.v 0) (.k .non)) (.cm .is (.v 1) (.k .non)))))) .nil) .nil) (.cons (.ret (.an (.isi (.v 0) [.ty "int"]) (.an (.un .not (.isi (.v 0) [.ty "bool"])) (.cm .eq (.v 0) (.v 1))))) .nil))) }
/-- _law_grouped -/
def F_law_grouped (i_law_grouped i_law_take : Nat) : Fn := { name := "_law_grouped", ps := ["_law_box_here", "_law_first_so", "_law_last_so"], ns := ["_law_box_here", "_law_first_so", "_law_last_so", "_law_way_so", "_law_cut_so"], body := (.cons (.ite (.cm .eq (.v 1) (.v 2)) (.cons (.ret (.v 1)) .nil) .nil) (.cons (.set 3 (.cal i_law_take (.cons (.v 0) (.cons (.k (.int 4)) .nil)))) (.cons (.set 4 (.bi .add (.v 1) (.cal i_law_take (.cons (.v 0) (.cons (.bi .sub (.v 2) (.v 1)) .nil))))) (.cons (.ite (.cm .eq (.v 3) (.k (.int 0))) (.cons (.set 4 (.bi .sub (.v 2) (.k (.int 1)))) .nil) .nil) (.cons (.ite (.cm .eq (.v 3) (.k (.int 1))) (.cons (.set 4 (.v 1)) .nil) .nil) (.cons (.ret (.tu (.cons (.cal i_law_grouped (.cons (.v 0) (.cons (.v 1) (.cons (.v 4) .nil)))) (.cons (.cal i_law_grouped (.cons (.v 0) (.cons (.bi .add (.v 4) (.k (.int 1))) (.cons (.v 2) .nil)))) .nil)))) .nil)))))) }
/-- _law_ends -/
def F_law_ends : Fn := { name := "_law_ends", ps := ["_law_tree_so"], ns := ["_law_tree_so", "_law_one_so", "_law_two_so"], body := (.cons (.asg (.t (.cons (.v 1) (.cons (.v 2) .nil))) (.tu (.cons (.v 0) (.cons (.v 0) .nil)))) (.cons (.whil (.isi (.v 1) [.ty "tuple"]) (.cons (.set 1 (.ix (.v 1) (.k (.int 0)))) .nil)) (.cons (.whil (.isi (.v 2) [.ty "tuple"]) (.cons (.set 2 (.ix (.v 2) (.k (.int 1)))) .nil)) (.cons (.ret (.tu (.cons (.v 1) (.cons (.v 2) .nil)))) .nil)))) }
/-- _law_pairs -/
def F_law_pairs (i_law_pairs i_law_ends : Nat) : Fn := { name := "_law_pairs", ps := ["_law_tree_so"], ns := ["_law_tree_so", "_law_first_so", "_law_cut_so"], body := (.cons (.ite (.un .not (.isi (.v 0) [.ty "tuple"])) (.cons (.ret (.li .nil)) .nil) .nil) (.cons (.asg (.t (.cons (.v 1) (.cons (.v 2) .nil))) (.cal i_law_ends (.cons (.ix (.v 0) (.k (.int 0))) .nil))) (.cons (.ret (.bi .add (.bi .add (.cal i_law_pairs (.cons (.ix (.v 0) (.k (.int 0))) .nil)) (.li (.cons (.tu (.cons (.v 1) (.cons (.v 2) (.cons (.ix (.cal i_law_ends (.cons (.ix (.v 0) (.k (.int 1))) .nil)) (.k (.int 1))) .nil)))) .nil))) (.cal i_law_pairs (.cons (.ix (.v 0) (.k (.int 1))) .nil)))) .nil))) }
/-- _law_arms -/
def F_law_arms (i_law_pairs : Nat) : Fn := { name := "_law_arms", ps := ["_law_tree_so"], ns := ["_law_tree_so", "_law_own"], body := (.cons (.ret (.pr .tuple (.cons (.lc (.v 1) [1] (.it (.cal i_law_pairs (.cons (.v 0) .nil))) .yes (.ix (.v 1) (.k (.int 2)))) .nil))) .nil) }
/-- _law_tails -/
def F_law_tails (i_law_pairs : Nat) : Fn := { name := "_law_tails", ps := ["_law_tree_so"], ns := ["_law_tree_so", "_law_own"], body := (.cons (.ret (.pr .tuple (.cons (.lc (.v 1) [1] (.it (.cal i_law_pairs (.cons (.v 0) .nil))) .yes (.ix (.v 1) (.k (.int 0)))) .nil))) .nil) }
/-- _law_soft -/
def F_law_soft (i_law_soft : Nat) : Fn := { name := "_law_soft", ps := ["_law_matter"], ns := ["_law_matter", "_law_own"], body := (.cons (.ret (.ite (.isi (.v 0) [.ty "list", .ty "tuple"]) (.lc (.v 1) [1] (.it (.v 0)) .yes (.cal i_law_soft (.cons (.v 1) .nil))) (.v 0))) .nil) }
/-- _law_behind -/
def F_law_behind (i_law_behind : Nat) : Fn := { name := "_law_behind", ps := ["_law_tree_so", "_law_size_so"], ns := ["_law_tree_so", "_law_size_so"], body := (.cons (.ite (.un .not (.isi (.v 0) [.ty "tuple"])) (.cons (.ret (.bi .sub (.bi .add (.v 1) (.k (.int 1))) (.v 0))) .nil) .nil) (.cons (.ret (.tu (.cons (.cal i_law_behind (.cons (.ix (.v 0) (.k (.int 1))) (.cons (.v 1) .nil))) (.cons (.cal i_law_behind (.cons (.ix (.v 0) (.k (.int 0))) (.cons (.v 1) .nil))) .nil)))) .nil)) }
theorem endC_rt {S : Store} {ρ : Env} {d : D} (h : d.free = true) : endC false S.length (.rt d ρ S) = .ok d S := fin_free h
@[simp] theorem s_dflcl {P : Prg} {W k b : Nat} : (cl P W k b).dfl = dflOf P := rfl
@[simp] theorem s_callcl {P : Prg} {W k b : Nat} : (cl P W k b).call = run P isi0 W k := rfl
@[simp] theorem s_basecl {P : Prg} {W k b : Nat} : (cl P W k b).base = b := rfl
@[simp] theorem s_isicl {P : Prg} {W k b : Nat} : (cl P W k b).isi = isi0 := rfl
/-- a comprehension that touches nothing -/
theorem lc_map {c e : Env → Store → R D} {t : Tg} {vs : List Nat} {ρ : Env} {S : Store} {f : D → D} : ∀ (xs acc : List D), (∀ x ∈ xs, ∃ ρ1, bindT t x (wipeD ρ vs) = some ρ1 ∧ c ρ1 S = .ok (.bl true) S ∧ e ρ1 S = .ok (f x) S) →
    lcGo c e t vs ρ xs acc S = .ok (acc.reverse ++ xs.map f) S
  | [], acc, _ => by rw [lcGo, List.map_nil, List.append_nil]
  | x :: xs, acc, h => by
    obtain ⟨ρ1, h1, h2, h3⟩ := h x List.mem_cons_self
    rw [lcGo, h1]
    simp only [h2, s_trb, h3]
    rw [lc_map xs (f x :: acc) fun y hy => h y (List.mem_cons_of_mem _ hy)]
    simp
def Tr.joins : Tr → Nat
  | .lf _ => 0
  | .nd a b => a.joins + 1 + b.joins
theorem Tr.dep_le : ∀ t : Tr, t.dep ≤ t.joins
  | .lf _ => Nat.le_refl _
  | .nd a b => by
    have := a.dep_le
    have := b.dep_le
    simp only [Tr.dep, Tr.joins]
    omega
def sp (x : Int × Int × Int) : D := .tup [.int x.1, .int x.2.1, .int x.2.2]
def Tr.spans : Tr → List (Int × Int × Int)
  | .lf _ => []
  | .nd a b => a.spans ++ (a.fst, a.lst, b.lst) :: b.spans
theorem Tr.spans_len : ∀ t : Tr, t.spans.length = t.joins
  | .lf _ => rfl
  | .nd a b => by simp only [Tr.spans, Tr.joins, List.length_append, List.length_cons, a.spans_len, b.spans_len]; omega
theorem sps_free (l : List (Int × Int × Int)) : frees (l.map sp) = true := by
  induction l with
  | nil => rfl
  | cons x l ih => simp only [List.map_cons, frees, ih, sp, D.free, Bool.and_self]
def Tr.shift (n : Int) : Tr → Tr
  | .lf i => .lf (n + 1 - i)
  | .nd a b => .nd (b.shift n) (a.shift n)
theorem Tr.shift_shift (n : Int) : ∀ t : Tr, (t.shift n).shift n = t
  | .lf i => by simp only [Tr.shift]; congr 1; omega
  | .nd a b => by simp only [Tr.shift, a.shift_shift n, b.shift_shift n]
theorem Tr.shift_fst (n : Int) : ∀ t : Tr, (t.shift n).fst = n + 1 - t.lst
  | .lf i => rfl
  | .nd a b => b.shift_fst n
theorem Tr.shift_lst (n : Int) : ∀ t : Tr, (t.shift n).lst = n + 1 - t.fst
  | .lf i => rfl
  | .nd a b => a.shift_lst n
theorem Tr.shift_joins (n : Int) : ∀ t : Tr, (t.shift n).joins = t.joins
  | .lf i => rfl
  | .nd a b => by simp only [Tr.shift, Tr.joins, a.shift_joins n, b.shift_joins n]; omega
theorem Tr.shift_third (n : Int) : ∀ t : Tr, (t.shift n).spans.map (·.2.2) = (t.spans.map (·.1)).reverse.map (fun i => n + 1 - i)
  | .lf i => rfl
  | .nd a b => by
    simp only [Tr.shift, Tr.spans, List.map_append, List.map_cons, List.reverse_append, List.reverse_cons, a.shift_third n, b.shift_third n, Tr.shift_lst, List.append_assoc, List.singleton_append, List.map_nil, List.nil_append]
theorem Tr.shift_first (n : Int) : ∀ t : Tr, (t.shift n).spans.map (·.1) = (t.spans.map (·.2.2)).reverse.map (fun i => n + 1 - i)
  | .lf i => rfl
  | .nd a b => by
    simp only [Tr.shift, Tr.spans, List.map_append, List.map_cons, List.reverse_append, List.reverse_cons, a.shift_first n, b.shift_first n, Tr.shift_fst, List.append_assoc, List.singleton_append, List.map_nil, List.nil_append]
section
variable {P : Prg} {W : Nat}
/-- a call without defaults -/
theorem cal_eq {C : Cl} {f m : Nat} {fn : Fn} {k b : Nat} {ρ : Env} {S : Store} {as : Ex} (e : P f = some fn) (h : fn.dfl = []) : ev (cl P W k b) (.cal f as) ρ S = (evs (cl P W k b) as ρ S).bind fun xs S1 => run P isi0 W k b f xs S1 := by
  show (evs (cl P W k b) as ρ S).bind (fun xs S1 => run P isi0 W k b f (xs ++ dflOf P f xs.length) S1) = _
  congr
  funext xs S1
  rw [dfl_nil e h, List.append_nil]
theorem factors_in_ok {i_n i_e f : Nat} (e : P i_n = some F_is_number) (e2 : P i_e = some (F_ends i_n)) (e3 : P f = some (F_factors_in i_e)) (k b : Nat) (S : Store) {t : Tr} {d : D} (h : IsG t d) (hw : t.dep < W) :
    run P isi0 W (k + 3) b f [d] S = .ok (.int t.lst) S := by
  rw [run_nk e3 rfl rfl]
  simp [F_factors_in, startD, dfl_nil e2 rfl, ends_ok e e2 k S.length S h hw]
  exact endC_rt rfl
theorem lim_le {n : Nat} (h : n ≤ 10000) : n ≤ lim := Nat.le_trans h (by decide)
theorem spans_ok {i_n i_e f : Nat} (e : P i_n = some F_is_number) (e2 : P i_e = some (F_ends i_n)) (e3 : P f = some (F_spans i_e f i_n)) {t : Tr} {d : D} (h : IsG t d) : ∀ (k b : Nat) (S : Store), t.joins < W → t.joins < 10000 → t.joins + 3 ≤ k →
    run P isi0 W k b f [d] S = .ok (.lst (t.spans.map sp)) S := by
  have main : ∀ (a c : Tr) (x y d : D) (k b : Nat) (S : Store), IsG a x → IsG c y → run P isi0 W (k + 2) S.length i_n [d] S = .ok (.bl false) S → idx S d (.int 0) = some x → idx S d (.int 1) = some y →
      run P isi0 W (k + 2) S.length f [x] S = .ok (.lst (a.spans.map sp)) S → run P isi0 W (k + 2) S.length f [y] S = .ok (.lst (c.spans.map sp)) S → (Tr.nd a c).joins < W → (Tr.nd a c).joins < 10000 →
      run P isi0 W (k + 3) b f [d] S = .ok (.lst ((Tr.nd a c).spans.map sp)) S := by
    intro a c x y d k b S ha hc hn i0 i1 ra rc hw hl
    simp only [Tr.joins] at hw hl
    have da := a.dep_le
    have dc := c.dep_le
    have la := a.spans_len
    have lc := c.spans_len
    rw [run_nk e3 rfl rfl]
    have hlim : a.spans.length + (c.spans.length + 1) ≤ lim := lim_le (by omega)
    simp [F_spans, startD, dfl_nil e rfl, dfl_nil e2 rfl, dfl_nil e3 rfl, hn, i0, i1, ra, rc, ends_ok (W := W) e e2 k S.length S ha (by omega), ends_ok (W := W) e e2 k S.length S hc (by omega), bindT]
    rw [if_pos hlim]
    have q : (Tr.nd a c).spans.map sp = a.spans.map sp ++ .tup [.int a.fst, .int a.lst, .int c.lst] :: c.spans.map sp := by simp [Tr.spans, sp]
    rw [q]
    refine endC_rt ?_
    rw [← q]
    exact sps_free _
  induction h with
  | lf i =>
    intro k b S hw hl hk
    obtain ⟨k, rfl⟩ : ∃ m, k = m + 3 := ⟨k - 3, by omega⟩
    rw [run_nk e3 rfl rfl]
    simp [F_spans, startD, dfl_nil e rfl, is_number_lf e]
    exact endC_rt rfl
  | tup ha hc ia ic =>
    intro k b S hw hl hk
    simp only [Tr.joins] at hw hl hk
    obtain ⟨k, rfl⟩ : ∃ m, k = m + 3 := ⟨k - 3, by omega⟩
    exact main _ _ _ _ _ k b S ha hc (is_number_nd e _ _ _ _) rfl rfl (ia _ _ _ (by omega) (by omega) (by omega)) (ic _ _ _ (by omega) (by omega) (by omega)) (by simp only [Tr.joins]; omega) (by simp only [Tr.joins]; omega)
  | lst ha hc ia ic =>
    intro k b S hw hl hk
    simp only [Tr.joins] at hw hl hk
    obtain ⟨k, rfl⟩ : ∃ m, k = m + 3 := ⟨k - 3, by omega⟩
    exact main _ _ _ _ _ k b S ha hc (is_number_ls e _ _ _ _) rfl rfl (ia _ _ _ (by omega) (by omega) (by omega)) (ic _ _ _ (by omega) (by omega) (by omega)) (by simp only [Tr.joins]; omega) (by simp only [Tr.joins]; omega)
theorem reaches_ok {i_n i_e i_s f : Nat} (e : P i_n = some F_is_number) (e2 : P i_e = some (F_ends i_n)) (e3 : P i_s = some (F_spans i_e i_s i_n)) (e4 : P f = some (F_reaches i_s)) {t : Tr} {d : D} (h : IsG t d) (k b : Nat) (S : Store) (hw : t.joins < W) (hl : t.joins < 10000) (hk : t.joins + 4 ≤ k) :
    run P isi0 W k b f [d] S = .ok (.tup ((t.spans.map (·.2.2)).map .int)) S := by
  obtain ⟨k, rfl⟩ : ∃ m, k = m + 1 := ⟨k - 1, by omega⟩
  rw [run_nk e4 rfl rfl]
  have sp_ := spans_ok e e2 e3 h k S.length S hw hl (by omega)
  have q := fun C : Cl => lc_map (c := ev C .yes) (e := ev C (.v 3)) (t := .t (.cons (.v 1) (.cons (.v 2) (.cons (.v 3) .nil)))) (vs := [1, 2, 3]) (ρ := [some d, none, none, none]) (S := S) (f := fun x => match x with | .tup [_, _, z] => z | _ => .non) (t.spans.map sp) [] (fun x hx => by
    obtain ⟨y, _, rfl⟩ := List.mem_map.mp hx
    exact ⟨[some d, some (.int y.1), some (.int y.2.1), some (.int y.2.2)], rfl, rfl, rfl⟩)
  simp [F_reaches, startD, dfl_nil e3 rfl, sp_, q]
  have q2 : (t.spans.map ((fun x => match x with | .tup [_, _, z] => z | _ => D.non) ∘ sp)) = t.spans.map (D.int ∘ fun x => x.2.2) := List.map_congr_left fun x _ => rfl
  rw [q2]
  refine endC_rt ?_
  show frees _ = true
  generalize t.spans = l
  induction l with
  | nil => rfl
  | cons x l ih => simp only [List.map_cons, frees, ih, Function.comp, D.free, Bool.and_self]
theorem starts_ok {i_n i_e i_s f : Nat} (e : P i_n = some F_is_number) (e2 : P i_e = some (F_ends i_n)) (e3 : P i_s = some (F_spans i_e i_s i_n)) (e4 : P f = some (F_starts i_s)) {t : Tr} {d : D} (h : IsG t d) (k b : Nat) (S : Store) (hw : t.joins < W) (hl : t.joins < 10000) (hk : t.joins + 4 ≤ k) :
    run P isi0 W k b f [d] S = .ok (.tup ((t.spans.map (·.1)).map .int)) S := by
  obtain ⟨k, rfl⟩ : ∃ m, k = m + 1 := ⟨k - 1, by omega⟩
  rw [run_nk e4 rfl rfl]
  have sp_ := spans_ok e e2 e3 h k S.length S hw hl (by omega)
  have q := fun C : Cl => lc_map (c := ev C .yes) (e := ev C (.v 1)) (t := .t (.cons (.v 1) (.cons (.v 2) (.cons (.v 3) .nil)))) (vs := [1, 2, 3]) (ρ := [some d, none, none, none]) (S := S) (f := fun x => match x with | .tup [z, _, _] => z | _ => .non) (t.spans.map sp) [] (fun x hx => by
    obtain ⟨y, _, rfl⟩ := List.mem_map.mp hx
    exact ⟨[some d, some (.int y.1), some (.int y.2.1), some (.int y.2.2)], rfl, rfl, rfl⟩)
  simp [F_starts, startD, dfl_nil e3 rfl, sp_, q]
  have q2 : (t.spans.map ((fun x => match x with | .tup [z, _, _] => z | _ => D.non) ∘ sp)) = t.spans.map (D.int ∘ fun x => x.1) := List.map_congr_left fun x _ => rfl
  rw [q2]
  refine endC_rt ?_
  show frees _ = true
  generalize t.spans = l
  induction l with
  | nil => rfl
  | cons x l ih => simp only [List.map_cons, frees, ih, Function.comp, D.free, Bool.and_self]
theorem shifted_ok {i_n f : Nat} (e : P i_n = some F_is_number) (e2 : P f = some (F_shifted f i_n)) (n : Int) {t : Tr} {d : D} (h : IsG t d) : ∀ (k b : Nat) (S : Store), t.joins + 2 ≤ k → run P isi0 W k b f [d, .int n] S = .ok (t.shift n).d S := by
  have main : ∀ (a c : Tr) (x y d : D) (k b : Nat) (S : Store), run P isi0 W (k + 1) S.length i_n [d] S = .ok (.bl false) S → idx S d (.int 0) = some x → idx S d (.int 1) = some y →
      run P isi0 W (k + 1) S.length f [x, .int n] S = .ok (a.shift n).d S → run P isi0 W (k + 1) S.length f [y, .int n] S = .ok (c.shift n).d S → run P isi0 W (k + 2) b f [d, .int n] S = .ok ((Tr.nd a c).shift n).d S := by
    intro a c x y d k b S hn i0 i1 ra rc
    rw [run_nk e2 rfl rfl]
    simp [F_shifted, startD, dfl_nil e rfl, dfl_nil e2 rfl, hn, i0, i1, ra, rc]
    exact endC_rt (Tr.isd ((Tr.nd a c).shift n)).free
  induction h with
  | lf i =>
    intro k b S hk
    obtain ⟨k, rfl⟩ : ∃ m, k = m + 2 := ⟨k - 2, by omega⟩
    rw [run_nk e2 rfl rfl]
    simp [F_shifted, startD, dfl_nil e rfl, is_number_lf e]
    exact endC_rt rfl
  | tup ha hc ia ic =>
    intro k b S hk
    simp only [Tr.joins] at hk
    obtain ⟨k, rfl⟩ : ∃ m, k = m + 2 := ⟨k - 2, by omega⟩
    exact main _ _ _ _ _ k b S (is_number_nd e _ _ _ _) rfl rfl (ia _ _ _ (by omega)) (ic _ _ _ (by omega))
  | lst ha hc ia ic =>
    intro k b S hk
    simp only [Tr.joins] at hk
    obtain ⟨k, rfl⟩ : ∃ m, k = m + 2 := ⟨k - 2, by omega⟩
    exact main _ _ _ _ _ k b S (is_number_ls e _ _ _ _) rfl rfl (ia _ _ _ (by omega)) (ic _ _ _ (by omega))
theorem mirrored_ok {i_n i_e i_f i_s f : Nat} (e : P i_n = some F_is_number) (e2 : P i_e = some (F_ends i_n)) (e3 : P i_f = some (F_factors_in i_e)) (e4 : P i_s = some (F_shifted i_s i_n)) (e5 : P f = some (F_mirrored i_s i_f)) {t : Tr} {d : D} (h : IsG t d) (k b : Nat) (S : Store)
    (hw : t.joins < W) (hk : t.joins + 4 ≤ k) : run P isi0 W k b f [d] S = .ok (t.shift t.lst).d S := by
  obtain ⟨k, rfl⟩ : ∃ m, k = m + 4 := ⟨k - 4, by omega⟩
  have := t.dep_le
  rw [run_nk e5 rfl rfl]
  simp [F_mirrored, startD, dfl_nil e3 rfl, dfl_nil e4 rfl, factors_in_ok (W := W) e e2 e3 k S.length S h (by omega), shifted_ok (W := W) e e4 t.lst h (k + 3) S.length S (by omega)]
  exact endC_rt (Tr.isd _).free
end
end EV
/-! PLe: the law's own reckoning. -/
namespace EV
open L2 PySem
section
variable {P : Prg} {W : Nat}
theorem isi_tup (xs : List D) (cs : List CR) : isi0 (.tup xs) cs = isi0 (.tup []) cs := by
  induction cs with
  | nil => rfl
  | cons c cs ih => cases c <;> simp only [isi0, tyN, ih]
theorem isi_lst (xs : List D) (cs : List CR) : isi0 (.lst xs) cs = isi0 (.lst []) cs := by
  induction cs with
  | nil => rfl
  | cons c cs ih => cases c <;> simp only [isi0, tyN, ih]
@[simp] theorem s_isit (xs : List D) : isi0 (.tup xs) [.ty "tuple"] = some true := rfl
@[simp] theorem s_isii (i : Int) : isi0 (.int i) [.ty "tuple"] = some false := rfl
@[simp] theorem s_isil (xs : List D) : isi0 (.lst xs) [.ty "tuple"] = some false := rfl
@[simp] theorem s_isit2 (xs : List D) : isi0 (.tup xs) [.ty "list", .ty "tuple"] = some true := rfl
@[simp] theorem s_isil2 (xs : List D) : isi0 (.lst xs) [.ty "list", .ty "tuple"] = some true := rfl
@[simp] theorem s_isii2 (i : Int) : isi0 (.int i) [.ty "list", .ty "tuple"] = some false := rfl
@[simp] theorem s_isit3 (xs : List D) : isi0 (.tup xs) [.ty "list"] = some false := rfl
@[simp] theorem s_isil3 (xs : List D) : isi0 (.lst xs) [.ty "list"] = some true := rfl
theorem lends_one (k b : Nat) (S : Store) (g o : Option D) : ∀ (t : Tr) (m : Nat), t.dep < m →
    whileGo (ev (cl P W k b) (.isi (.v 1) [.ty "tuple"])) (evS (cl P W k b) (.cons (.set 1 (.ix (.v 1) (.k (.int 0)))) .nil)) m [g, some t.d, o] S = .nx [g, some (.int t.fst), o] S
  | .lf i, 0, hm => by omega
  | .lf i, m + 1, _ => rfl
  | .nd x y, 0, hm => by omega
  | .nd x y, m + 1, hm => by
    rw [whileGo]
    exact lends_one k b S g o x m (by simp only [Tr.dep] at hm; omega)
theorem lends_two (k b : Nat) (S : Store) (g o : Option D) : ∀ (t : Tr) (m : Nat), t.dep < m →
    whileGo (ev (cl P W k b) (.isi (.v 2) [.ty "tuple"])) (evS (cl P W k b) (.cons (.set 2 (.ix (.v 2) (.k (.int 1)))) .nil)) m [g, o, some t.d] S = .nx [g, o, some (.int t.lst)] S
  | .lf i, 0, hm => by omega
  | .lf i, m + 1, _ => rfl
  | .nd x y, 0, hm => by omega
  | .nd x y, m + 1, hm => by
    rw [whileGo]
    exact lends_two k b S g o y m (by simp only [Tr.dep] at hm; omega)
theorem lends_ok {f : Nat} (e : P f = some F_law_ends) (k b : Nat) (S : Store) (t : Tr) (hw : t.dep < W) : run P isi0 W (k + 1) b f [t.d] S = .ok (.tup [.int t.fst, .int t.lst]) S := by
  rw [run_nk e rfl rfl]
  show endC false S.length (match whileGo (ev (cl P W k S.length) (.isi (.v 1) [.ty "tuple"])) (evS (cl P W k S.length) (.cons (.set 1 (.ix (.v 1) (.k (.int 0)))) .nil)) W [some t.d, some t.d, some t.d] S with | .nx ρ1 S1 => _ | r => r) = _
  rw [lends_one k S.length S _ _ t W hw]
  show endC false S.length (match whileGo (ev (cl P W k S.length) (.isi (.v 2) [.ty "tuple"])) (evS (cl P W k S.length) (.cons (.set 2 (.ix (.v 2) (.k (.int 1)))) .nil)) W [some t.d, some (.int t.fst), some t.d] S with | .nx ρ1 S1 => _ | r => r) = _
  rw [lends_two k S.length S _ _ t W hw]
  exact fin_free rfl
@[simp] theorem s_addl {S : Store} {xs ys : List D} : bop .add S (.lst xs) (.lst ys) = if xs.length + ys.length ≤ lim then some (.lst (xs ++ ys)) else none := rfl
@[simp] theorem s_tdn (a b : Tr) : (Tr.nd a b).d = .tup [a.d, b.d] := rfl
@[simp] theorem s_tdl (i : Int) : (Tr.lf i).d = .int i := rfl
theorem pairs_ok {i_e f : Nat} (e : P i_e = some F_law_ends) (e2 : P f = some (F_law_pairs f i_e)) : ∀ (t : Tr) (k b : Nat) (S : Store), t.joins < W → t.joins < 10000 → t.joins + 2 ≤ k → run P isi0 W k b f [t.d] S = .ok (.lst (t.spans.map sp)) S
  | .lf i, k, b, S, hw, hl, hk => by
    obtain ⟨k, rfl⟩ : ∃ m, k = m + 2 := ⟨k - 2, by omega⟩
    rw [run_nk e2 rfl rfl]
    simp [F_law_pairs, startD]
    exact endC_rt rfl
  | .nd x y, k, b, S, hw, hl, hk => by
    simp only [Tr.joins] at hw hl hk
    obtain ⟨k, rfl⟩ : ∃ m, k = m + 2 := ⟨k - 2, by omega⟩
    have dx := x.dep_le
    have dy := y.dep_le
    have lx := x.spans_len
    have ly := y.spans_len
    have ix := pairs_ok e e2 x (k + 1) S.length S (by omega) (by omega) (by omega)
    have iy := pairs_ok e e2 y (k + 1) S.length S (by omega) (by omega) (by omega)
    have l1 : x.spans.length + 1 ≤ lim := lim_le (by omega)
    have l2 : x.spans.length + (1 + y.spans.length) ≤ lim := lim_le (by omega)
    rw [run_nk e2 rfl rfl]
    simp [F_law_pairs, startD, dfl_nil e rfl, dfl_nil e2 rfl, ix, iy, lends_ok (W := W) e k S.length S x (by omega), lends_ok (W := W) e k S.length S y (by omega), bindT, l1, l2, Nat.add_assoc]
    have q : (Tr.nd x y).spans.map sp = x.spans.map sp ++ .tup [.int x.fst, .int x.lst, .int y.lst] :: y.spans.map sp := by simp [Tr.spans, sp]
    rw [q]
    refine endC_rt ?_
    rw [← q]
    exact sps_free _
theorem arms_ok {i_e i_p f : Nat} (e : P i_e = some F_law_ends) (e2 : P i_p = some (F_law_pairs i_p i_e)) (e3 : P f = some (F_law_arms i_p)) (t : Tr) (k b : Nat) (S : Store) (hw : t.joins < W) (hl : t.joins < 10000) (hk : t.joins + 3 ≤ k) :
    run P isi0 W k b f [t.d] S = .ok (.tup ((t.spans.map (·.2.2)).map .int)) S := by
  obtain ⟨k, rfl⟩ : ∃ m, k = m + 1 := ⟨k - 1, by omega⟩
  rw [run_nk e3 rfl rfl]
  have sp_ := pairs_ok e e2 t k S.length S hw hl (by omega)
  have q := fun C : Cl => lc_map (c := ev C .yes) (e := ev C (.ix (.v 1) (.k (.int 2)))) (t := .v 1) (vs := [1]) (ρ := [some t.d, none]) (S := S) (f := fun x => match x with | .tup [_, _, z] => z | _ => .non) (t.spans.map sp) [] (fun x hx => by
    obtain ⟨y, _, rfl⟩ := List.mem_map.mp hx
    exact ⟨_, rfl, rfl, rfl⟩)
  simp [F_law_arms, startD, dfl_nil e2 rfl, sp_, q]
  have q2 : (t.spans.map ((fun x => match x with | .tup [_, _, z] => z | _ => D.non) ∘ sp)) = t.spans.map (D.int ∘ fun x => x.2.2) := List.map_congr_left fun x _ => rfl
  rw [q2]
  refine endC_rt ?_
  show frees _ = true
  generalize t.spans = l
  induction l with
  | nil => rfl
  | cons x l ih => simp only [List.map_cons, frees, ih, Function.comp, D.free, Bool.and_self]
theorem tails_ok {i_e i_p f : Nat} (e : P i_e = some F_law_ends) (e2 : P i_p = some (F_law_pairs i_p i_e)) (e3 : P f = some (F_law_tails i_p)) (t : Tr) (k b : Nat) (S : Store) (hw : t.joins < W) (hl : t.joins < 10000) (hk : t.joins + 3 ≤ k) :
    run P isi0 W k b f [t.d] S = .ok (.tup ((t.spans.map (·.1)).map .int)) S := by
  obtain ⟨k, rfl⟩ : ∃ m, k = m + 1 := ⟨k - 1, by omega⟩
  rw [run_nk e3 rfl rfl]
  have sp_ := pairs_ok e e2 t k S.length S hw hl (by omega)
  have q := fun C : Cl => lc_map (c := ev C .yes) (e := ev C (.ix (.v 1) (.k (.int 0)))) (t := .v 1) (vs := [1]) (ρ := [some t.d, none]) (S := S) (f := fun x => match x with | .tup [z, _, _] => z | _ => .non) (t.spans.map sp) [] (fun x hx => by
    obtain ⟨y, _, rfl⟩ := List.mem_map.mp hx
    exact ⟨_, rfl, rfl, rfl⟩)
  simp [F_law_tails, startD, dfl_nil e2 rfl, sp_, q]
  have q2 : (t.spans.map ((fun x => match x with | .tup [z, _, _] => z | _ => D.non) ∘ sp)) = t.spans.map (D.int ∘ fun x => x.1) := List.map_congr_left fun x _ => rfl
  rw [q2]
  refine endC_rt ?_
  show frees _ = true
  generalize t.spans = l
  induction l with
  | nil => rfl
  | cons x l ih => simp only [List.map_cons, frees, ih, Function.comp, D.free, Bool.and_self]
theorem behind_ok {f : Nat} (e : P f = some (F_law_behind f)) (n : Int) : ∀ (t : Tr) (k b : Nat) (S : Store), t.joins + 1 ≤ k → run P isi0 W k b f [t.d, .int n] S = .ok (t.shift n).d S
  | .lf i, k, b, S, hk => by
    obtain ⟨k, rfl⟩ : ∃ m, k = m + 1 := ⟨k - 1, by omega⟩
    rw [run_nk e rfl rfl]
    simp [F_law_behind, startD]
    exact endC_rt rfl
  | .nd x y, k, b, S, hk => by
    simp only [Tr.joins] at hk
    obtain ⟨k, rfl⟩ : ∃ m, k = m + 1 := ⟨k - 1, by omega⟩
    have ix := behind_ok e n x k S.length S (by omega)
    have iy := behind_ok e n y k S.length S (by omega)
    rw [run_nk e rfl rfl]
    simp [F_law_behind, startD, dfl_nil e rfl, ix, iy]
    exact endC_rt (Tr.isd ((Tr.nd x y).shift n)).free
theorem soft_ok {f : Nat} (e : P f = some (F_law_soft f)) : ∀ (t : Tr) (k b : Nat) (S : Store), t.joins + 1 ≤ k → run P isi0 W k b f [t.d] S = .ok t.s S
  | .lf i, k, b, S, hk => by
    obtain ⟨k, rfl⟩ : ∃ m, k = m + 1 := ⟨k - 1, by omega⟩
    rw [run_nk e rfl rfl]
    simp [F_law_soft, startD]
    exact endC_rt rfl
  | .nd x y, k, b, S, hk => by
    simp only [Tr.joins] at hk
    obtain ⟨k, rfl⟩ : ∃ m, k = m + 1 := ⟨k - 1, by omega⟩
    have ix := soft_ok e x k S.length S (by omega)
    have iy := soft_ok e y k S.length S (by omega)
    rw [run_nk e rfl rfl]
    have q : lcGo (ev (cl P W k S.length) .yes) (ev (cl P W k S.length) (.cal f (.cons (.v 1) .nil))) (.v 1) [1] [some (.tup [x.d, y.d]), none] [x.d, y.d] [] S = .ok [x.s, y.s] S := by
      simp [lcGo, bindT, wipeD, dfl_nil e rfl, ix, iy]
    simp [F_law_soft, startD, q]
    exact endC_rt (Tr.iss (Tr.nd x y)).free
/-- data that may be told apart: their depth at most n -/
def Pl : Nat → D → Prop
  | _, .int _ => True
  | _, .bl _ => True
  | _, .non => True
  | _, .str x => PySem.SeqAt.shaped (.str x) = true
  | n + 1, .tup xs => xs.length ≤ lim ∧ ∀ x ∈ xs, Pl n x
  | n + 1, .lst xs => xs.length ≤ lim ∧ ∀ x ∈ xs, Pl n x
  | _, _ => False
theorem Pl.mono : ∀ {n m : Nat} {d : D}, Pl n d → n ≤ m → Pl m d
  | n, m, .int _, _, _ => by cases m <;> exact True.intro
  | n, m, .bl _, _, _ => by cases m <;> exact True.intro
  | n, m, .non, _, _ => by cases m <;> exact True.intro
  | n, m, .str _, h, _ => by cases m <;> (cases n <;> exact h)
  | n + 1, m + 1, .tup xs, h, hm => ⟨h.1, fun x hx => (h.2 x hx).mono (by omega)⟩
  | n + 1, m + 1, .lst xs, h, hm => ⟨h.1, fun x hx => (h.2 x hx).mono (by omega)⟩
  | n + 1, 0, .tup xs, h, hm => by omega
  | n + 1, 0, .lst xs, h, hm => by omega
  | 0, _, .tup xs, h, _ => False.elim h
  | 0, _, .lst xs, h, _ => False.elim h
  | 0, _, .fzn _, h, _ => False.elim h
  | n + 1, _, .fzn _, h, _ => False.elim h
  | 0, _, .loc _, h, _ => False.elim h
  | n + 1, _, .loc _, h, _ => False.elim h
  | 0, _, .dK _, h, _ => False.elim h
  | n + 1, _, .dK _, h, _ => False.elim h
  | 0, _, .dT _, h, _ => False.elim h
  | n + 1, _, .dT _, h, _ => False.elim h
  | 0, _, .exc _ _, h, _ => False.elim h
  | n + 1, _, .exc _ _, h, _ => False.elim h
  | 0, _, .ins _ _, h, _ => False.elim h
  | n + 1, _, .ins _ _, h, _ => False.elim h
theorem Tr.pl : ∀ t : Tr, Pl t.joins t.d
  | .lf i => True.intro
  | .nd a b => by
    refine Pl.mono (n := max a.joins b.joins + 1) ⟨by simp, fun x hx => ?_⟩ (by simp only [Tr.joins]; omega)
    simp only [List.mem_cons, List.not_mem_nil, or_false] at hx
    rcases hx with rfl | rfl
    · exact a.pl.mono (by omega)
    · exact b.pl.mono (by omega)
theorem pl_ints {l : List Int} (h : l.length ≤ lim) : Pl 1 (.tup (l.map .int)) := ⟨by simpa using h, fun x hx => by obtain ⟨i, _, rfl⟩ := List.mem_map.mp hx; exact True.intro⟩
theorem evi_zp {C : Cl} {a b : Ex} {ρ : Env} {S S1 S2 : Store} {xs ys : List D} (h1 : ev C a ρ S = .ok (.lst xs) S1) (h2 : ev C b ρ S1 = .ok (.lst ys) S2) : evi C (.zp a b) ρ S = .ok (zpD xs ys) S2 := by
  show (ev C a ρ S).bind _ = _
  rw [h1]
  show (ev C b ρ S1).bind _ = _
  rw [h2]
  rfl
theorem evi_zpt {C : Cl} {a b : Ex} {ρ : Env} {S S1 S2 : Store} {xs ys : List D} (h1 : ev C a ρ S = .ok (.tup xs) S1) (h2 : ev C b ρ S1 = .ok (.tup ys) S2) : evi C (.zp a b) ρ S = .ok (zpD xs ys) S2 := by
  show (ev C a ρ S).bind _ = _
  rw [h1]
  show (ev C b ρ S1).bind _ = _
  rw [h2]
  rfl
theorem zpD_self : ∀ xs : List D, zpD xs xs = xs.map fun x => .tup [x, x]
  | [] => rfl
  | x :: xs => by simp only [zpD, List.map_cons, zpD_self xs]
theorem all_true {S : Store} : ∀ xs : List D, prim .all S [.lst (xs.map fun _ => .bl true)] = some (.bl true) := by
  intro xs
  have q : ∀ ys : List D, boolsD (ys.map fun _ => D.bl true) = some (ys.map fun _ => true) := fun ys => by
    induction ys with
    | nil => rfl
    | cons y ys ih => simp only [List.map_cons, boolsD, ih, Option.map_some]
  show (boolsD (xs.map fun _ => D.bl true)).map _ = _
  rw [q]
  simp
@[simp] theorem s_cis {S : Store} {a : D} : cop .is S a .non = some (isNon a) := rfl
theorem same_seq {f : Nat} (e : P f = some (F_law_same f)) {k b : Nat} {S : Store} {xs : List D} (hl : xs.length ≤ lim) (ih : ∀ x ∈ xs, run P isi0 W k S.length f [x, x] S = .ok (.bl true) S) :
    run P isi0 W (k + 1) b f [.tup xs, .tup xs] S = .ok (.bl true) S ∧ run P isi0 W (k + 1) b f [.lst xs, .lst xs] S = .ok (.bl true) S := by
  have q : ∀ ρ : Env, ρ.length = 4 → lcGo (ev (cl P W k S.length) .yes) (ev (cl P W k S.length) (.cal f (.cons (.v 2) (.cons (.v 3) .nil)))) (.t (.cons (.v 2) (.cons (.v 3) .nil))) [2, 3] ρ (zpD xs xs) [] S = .ok (xs.map fun _ => .bl true) S := fun ρ hρ => by
    rw [zpD_self]
    have := lc_map (c := ev (cl P W k S.length) .yes) (e := ev (cl P W k S.length) (.cal f (.cons (.v 2) (.cons (.v 3) .nil)))) (t := .t (.cons (.v 2) (.cons (.v 3) .nil))) (vs := [2, 3]) (ρ := ρ) (S := S) (f := fun _ => .bl true) (xs.map fun x => .tup [x, x]) [] (fun y hy => by
      obtain ⟨x, hx, rfl⟩ := List.mem_map.mp hy
      match ρ, hρ with
      | [a, b, c, d], _ =>
        refine ⟨[a, b, some x, some x], rfl, rfl, ?_⟩
        simp [dfl_nil e rfl, ih x hx])
    rw [List.reverse_nil, List.nil_append, List.map_map] at this
    exact this
  refine ⟨?_, ?_⟩
  · rw [run_nk e rfl rfl]
    have z : evi (cl P W k S.length) (.zp (.v 0) (.v 1)) [some (.tup xs), some (.tup xs), none, none] S = .ok (zpD xs xs) S := evi_zpt rfl rfl
    simp [F_law_same, startD, z, q, all_true, cop, pyS, D.py, shapedD, PySem.SeqAt.shaped, PyData.eqv, PyData.canLay0, PyData.depth]
    exact endC_rt rfl
  · rw [run_nk e rfl rfl]
    have z : evi (cl P W k S.length) (.zp (.v 0) (.v 1)) [some (.lst xs), some (.lst xs), none, none] S = .ok (zpD xs xs) S := evi_zp rfl rfl
    simp [F_law_same, startD, z, q, all_true, cop, pyS, D.py, shapedD, PySem.SeqAt.shaped, PyData.eqv, PyData.canLay0, PyData.depth]
    exact endC_rt rfl
theorem same_sc {f : Nat} (e : P f = some (F_law_same f)) (k b : Nat) (S : Store) : (∀ i, run P isi0 W (k + 1) b f [.int i, .int i] S = .ok (.bl true) S) ∧ (∀ i, run P isi0 W (k + 1) b f [.bl i, .bl i] S = .ok (.bl true) S) ∧
    (run P isi0 W (k + 1) b f [.non, .non] S = .ok (.bl true) S) ∧ ∀ x, PySem.SeqAt.shaped (.str x) = true → run P isi0 W (k + 1) b f [.str x, .str x] S = .ok (.bl true) S := by
  refine ⟨fun i => ?_, fun i => ?_, ?_, fun x hx => ?_⟩
  · rw [run_nk e rfl rfl]
    simp [F_law_same, startD, isi0, tyN, tyL, subT, isNon, PyData.eqv]
    exact endC_rt rfl
  · rw [run_nk e rfl rfl]
    simp [F_law_same, startD, isi0, tyN, tyL, subT, isNon, cop, pyS, D.py, shapedD, PySem.SeqAt.shaped, PyData.eqv, PyData.canLay0, PyData.depth, dr]
    exact endC_rt rfl
  · rw [run_nk e rfl rfl]
    simp [F_law_same, startD, isi0, tyN, tyL, subT, isNon, cop, pyS, D.py, shapedD, PySem.SeqAt.shaped, PyData.eqv, PyData.canLay0, PyData.depth, dr]
    exact endC_rt rfl
  · rw [run_nk e rfl rfl]
    have h2 : PyData.canLay0 (.str x) = true := (Bool.and_eq_true_iff.mp hx).1
    simp [F_law_same, startD, isi0, tyN, tyL, subT, isNon, cop, pyS, D.py, shapedD, hx, PyData.eqv, dr]
    exact endC_rt rfl
theorem same_ok {f : Nat} (e : P f = some (F_law_same f)) : ∀ (n : Nat) (d : D) (k b : Nat) (S : Store), Pl n d → n + 1 ≤ k → run P isi0 W k b f [d, d] S = .ok (.bl true) S := by
  intro n
  induction n with
  | zero =>
    intro d k b S h hk
    obtain ⟨k, rfl⟩ : ∃ m, k = m + 1 := ⟨k - 1, by omega⟩
    obtain ⟨h1, h2, h3, h4⟩ := same_sc (W := W) e k b S
    cases d <;> first | exact False.elim h | exact h1 _ | exact h2 _ | exact h3 | exact h4 _ h
  | succ n ih =>
    intro d k b S h hk
    obtain ⟨k, rfl⟩ : ∃ m, k = m + 1 := ⟨k - 1, by omega⟩
    obtain ⟨h1, h2, h3, h4⟩ := same_sc (W := W) e k b S
    cases d <;> first | exact False.elim h | exact h1 _ | exact h2 _ | exact h3 | exact h4 _ h | skip
    · exact (same_seq e h.1 fun x hx => ih x k S.length S (h.2 x hx) (by omega)).1
    · exact (same_seq e h.1 fun x hx => ih x k S.length S (h.2 x hx) (by omega)).2
end
end EV
/-! PLf: what is drawn; the cells. -/
namespace EV
open L2 PySem
/-- _law_cells -/
def F_law_cells : Fn := { name := "_law_cells", ps := ["_law_script", "_law_most_so"], ns := ["_law_script", "_law_most_so", "_law_cells_here", "_law_k", "_law_cell", "_law_at_so"], body := (.cons (.set 2 (.orr (.fr (.pr .list (.cons (.sl (.v 0) .no (.v 1)) .nil))) (.fr (.li (.cons (.k (.int 0)) .nil))))) (.cons (.forr (.t (.cons (.v 3) (.cons (.v 4) .nil))) (.en (.sl (.v 0) (.v 1) (.k (.int 63)))) (.cons (.set 5 (.bi .mod (.pr .int (.cons (.v 3) .nil)) (.v 1))) (.cons (.sub (.v 2) (.v 5) (.bi .add (.ix (.v 2) (.v 5)) (.bi .mul (.v 4) (.bi .add (.v 3) (.k (.int 2)))))) .nil))) (.cons (.ret (.v 2)) .nil))) }
/-- _law_box -/
def F_law_box (seed : Int) : Fn := { name := "_law_box", ps := ["_law_script", "_law_k"], ns := ["_law_script", "_law_k", "_law_cell"], keep := true, body := (.cons (.set 2 (.ite (.cm .lt (.v 1) (.pr .len (.cons (.v 0) .nil))) (.ix (.v 0) (.v 1)) (.k (.int 0)))) (.cons (.ret (.fr (.li (.cons (.bi .mul (.pr .abs (.cons (.v 2) .nil)) (.pr .int (.cons (.cm .ge (.pr .abs (.cons (.v 2) .nil)) (.bi .pow (.k (.int 10)) (.k (.int 18)))) .nil))) (.cons (.bi .add (.bi .add (.bi .mod (.pr .int (.cons (.v 2) .nil)) (.k (.int 2305843009213693951))) (.bi .mul (.k (.int 39373)) (.v 1))) (.k (.int seed))) (.cons (.k (.int 0)) .nil)))))) .nil)) }
theorem endC_rt2 {S S' : Store} {ρ : Env} {d : D} (h : d.free = true) (hs : S'.length = S.length) : endC false S.length (.rt d ρ S') = .ok d S' := fin_free2 h hs
/-- the leaves are a, a + 1, .. b -/
inductive Nm : Tr → Int → Int → Prop where
  | lf (i : Int) : Nm (.lf i) i i
  | nd {x y : Tr} {a c b : Int} : Nm x a c → Nm y (c + 1) b → Nm (.nd x y) a b
theorem Nm.fst {t : Tr} {a b : Int} (h : Nm t a b) : t.fst = a := by
  induction h with
  | lf => rfl
  | nd _ _ i _ => exact i
theorem Nm.lst {t : Tr} {a b : Int} (h : Nm t a b) : t.lst = b := by
  induction h with
  | lf => rfl
  | nd _ _ _ i => exact i
theorem Tr.free (t : Tr) : t.d.free = true := t.isd.free
section
variable {P : Prg} {W : Nat}
theorem log_le {n : Nat} (h : n < 2 ^ 60) : n.log2 < 9000 := by
  by_cases h0 : n = 0
  · subst h0; decide
  · have : n.log2 < 60 := (Nat.log2_lt h0).mpr h
    omega
theorem grouped_ok {i_t f : Nat} (et : P i_t = some F_law_take) (e : P f = some (F_law_grouped f i_t)) : ∀ (n : Nat) (a l : Int) (k base : Nat) (S : Store) (b Z : Nat), l = a + n → Box S b Z → Z + 2 * n < 2 ^ 60 → n + 2 ≤ k →
    ∃ t S', run P isi0 W k base f [.loc b, .int a, .int l] S = .ok t.d S' ∧ Nm t a l ∧ t.joins = n ∧ S'.length = S.length ∧ Box S' b (Z + 2 * n) ∧ ∀ m, m ≠ b → S'[m]? = S[m]? := by
  intro n
  induction n using Nat.strongRecOn with
  | ind n ih =>
    intro a l k base S b Z hl hb hZ hk
    obtain ⟨k, rfl⟩ : ∃ m, k = m + 2 := ⟨k - 2, by omega⟩
    by_cases h0 : n = 0
    · subst h0
      have : l = a := by omega
      subst this
      refine ⟨.lf l, S, ?_, .lf l, rfl, rfl, hb, fun _ _ => rfl⟩
      rw [run_nk e rfl rfl]
      simp [F_law_grouped, startD, PyData.eqv]
      exact endC_rt rfl
    · have hne : ¬ a = l := by omega
      obtain ⟨r0, S1, t0, p0, q0, l0, b0, m0⟩ := take_ok (W := W) et k S.length S b Z 4 (by decide) (by decide) hb (by omega)
      obtain ⟨r1, S2, t1, p1, q1, l1, b1, m1⟩ := take_ok (W := W) et k S.length S1 b (Z + 1) (l - a) (by omega) (log_le (by omega)) b0 (by omega)
      have core : ∀ c : Int, a ≤ c → c < l → ∃ x y S3 S4, run P isi0 W (k + 1) S.length f [.loc b, .int a, .int c] S2 = .ok x.d S3 ∧ run P isi0 W (k + 1) S.length f [.loc b, .int (c + 1), .int l] S3 = .ok y.d S4 ∧
          Nm (.nd x y) a l ∧ (Tr.nd x y).joins = n ∧ S4.length = S.length ∧ Box S4 b (Z + 2 * n) ∧ ∀ m, m ≠ b → S4[m]? = S[m]? := by
        intro c h1 h2
        obtain ⟨x, S3, rx, nx, jx, lx, bx, mx⟩ := ih (c - a).toNat (by omega) a c (k + 1) S.length S2 b (Z + 1 + 1) (by omega) b1 (by omega) (by omega)
        obtain ⟨y, S4, ry, ny, jy, ly, by_, my⟩ := ih (l - (c + 1)).toNat (by omega) (c + 1) l (k + 1) S.length S3 b (Z + 1 + 1 + 2 * (c - a).toNat) (by omega) bx (by omega) (by omega)
        refine ⟨x, y, S3, S4, rx, ry, .nd nx ny, ?_, by omega, ?_, fun m hm => by rw [my m hm, mx m hm, m1 m hm, m0 m hm]⟩
        · simp only [Tr.joins, jx, jy]; omega
        · rwa [show Z + 1 + 1 + 2 * (c - a).toNat + 2 * (l - (c + 1)).toNat = Z + 2 * n by omega] at by_
      have fin : ∀ {x y : Tr} {S4 : Store} {ρ : Env}, S4.length = S.length → endC false S.length (.rt (.tup [x.d, y.d]) ρ S4) = .ok (Tr.nd x y).d S4 := fun {x y S4 ρ} h => endC_rt2 (Tr.free (.nd x y)) h
      by_cases h1 : r0 = 0
      · obtain ⟨x, y, S3, S4, rx, ry, nm, j, l4, b4, m4⟩ := core (l - 1) (by omega) (by omega)
        refine ⟨_, S4, ?_, nm, j, l4, b4, m4⟩
        rw [run_nk e rfl rfl]
        simp [F_law_grouped, startD, dfl_nil et rfl, dfl_nil e rfl, hne, t0, t1, h1, rx, ry, -Int.sub_add_cancel]
        exact fin l4
      · by_cases h2 : r0 = 1
        · obtain ⟨x, y, S3, S4, rx, ry, nm, j, l4, b4, m4⟩ := core a (by omega) (by omega)
          refine ⟨_, S4, ?_, nm, j, l4, b4, m4⟩
          rw [run_nk e rfl rfl]
          simp [F_law_grouped, startD, dfl_nil et rfl, dfl_nil e rfl, hne, t0, t1, h2, rx, ry]
          exact fin l4
        · obtain ⟨x, y, S3, S4, rx, ry, nm, j, l4, b4, m4⟩ := core (a + r1) (by omega) (by omega)
          refine ⟨_, S4, ?_, nm, j, l4, b4, m4⟩
          rw [run_nk e rfl rfl]
          simp [F_law_grouped, startD, dfl_nil et rfl, dfl_nil e rfl, hne, t0, t1, h1, h2, rx, ry]
          exact fin l4
theorem box_ok {seed : Int} {f : Nat} (e : P f = some (F_law_box seed)) (hs0 : 0 ≤ seed) (hs1 : seed < 2 ^ 40) (cs : List Int) (i : Nat) (hi : i < cs.length) (hi2 : cs.length < 2 ^ 20) (k base : Nat) (S : Store) :
    ∃ S', run P isi0 W (k + 1) base f [.lst (dI cs), .int i] S = .ok (.loc S.length) S' ∧ (∃ x, S' = S ++ [x]) ∧ Box S' S.length 0 := by
  have i0 : idx S (.lst (dI cs)) (.int i) = some (.int cs[i]) := by
    show atI (dI cs) i = _
    unfold atI ixN dI
    simp [hi]
  generalize cs[i] = c at i0
  have m0 : ∀ x : Int, ∀ p : Bool, mulOk x (if p = true then 1 else 0) = true := fun x p => mulOk_r (by cases p <;> rfl)
  have m1 : mulOk 39373 (i : Int) = true := mulOk_l rfl
  refine ⟨S ++ [.lst [.int ((if c < 0 then -c else c) * (if decide (10 ^ 18 ≤ (if c < 0 then -c else c)) = true then 1 else 0)), .int (c % 2305843009213693951 + 39373 * i + seed), .int 0]], ?_, ⟨_, rfl⟩, ?_⟩
  · rw [run_kp e rfl rfl]
    have hlt : decide ((i : Int) < ((dI cs).length : Int)) = true := by simp [dI]; omega
    have pw : bop .pow S (.int 10) (.int 18) = some (.int (10 ^ 18)) := rfl
    have m0' : ∀ x : Int, mulOk x (if 1000000000000000000 ≤ x then 1 else 0) = true := fun x => mulOk_r (by split <;> rfl)
    have hlt2 : (i : Int) < ((dI cs).length : Int) := of_decide_eq_true hlt
    simp [F_law_box, startD, i0, pw, m1, m0', hlt2]
    rfl
  · refine ⟨_, _, 0, by rw [List.getElem?_append_right (Nat.le_refl _), Nat.sub_self]; rfl, ?_, ?_, by decide, by decide⟩
    · have := Int.emod_nonneg c (show (2305843009213693951 : Int) ≠ 0 by decide)
      omega
    · have := Int.emod_lt_of_pos c (show (0 : Int) < 2305843009213693951 by decide)
      omega
theorem cell_ix {S : Store} {n : Nat} {xs : List D} (h : S[n]? = some (.lst xs)) (i : Nat) (hi : i < xs.length) : idx S (.loc n) (.int i) = some xs[i] := by
  have gS : dr S (.loc n) = .lst xs := by show S.getD n .non = _; rw [List.getD_eq_getElem?_getD, h]; rfl
  unfold idx
  rw [gS]
  show atI xs i = _
  unfold atI ixN
  simp [hi]
theorem cell_sub {S : Store} {n base : Nat} {xs : List D} {d : D} (h : S[n]? = some (.lst xs)) (i : Nat) (hi : i < xs.length) (hd : d.free = true) : subS base S (.loc n) (.int i) d = some (S.set n (.lst (xs.set i d))) := by
  have hlt : n < S.length := (List.getElem?_eq_some_iff.mp h).1
  have gS : S.getD n .non = .lst xs := by rw [List.getD_eq_getElem?_getD, h]; rfl
  unfold subS
  dsimp only
  rw [gS]
  show (ixN xs.length i).bind (fun k => putS base S n d (.lst (xs.set k d))) = _
  unfold ixN
  simp [hi, putS, hd, hlt]
theorem ints_free (cs : List Int) : frees (dI cs) = true := by
  induction cs with
  | nil => rfl
  | cons c cs ih =>
    show ((D.int c).free && frees (dI cs)) = true
    rw [ih]; rfl
theorem fz_ints {S' : Store} {b n : Nat} {cs : List Int} (h : S'[n]? = some (.lst (dI cs))) (hb : b ≤ n) : fz S' b 8 (.loc n) = some (.lst (dI cs)) := by
  have gS : S'.getD n .non = .lst (dI cs) := by rw [List.getD_eq_getElem?_getD, h]; rfl
  have q : ∀ ds : List Int, allM (fz S' b 7) (dI ds) = some (dI ds) := fun ds => by
    induction ds with
    | nil => rfl
    | cons c ds ih =>
      show (match fz S' b 7 (.int c), allM (fz S' b 7) (dI ds) with | some y, some ys => some (y :: ys) | _, _ => none) = _
      rw [ih]
      rfl
  unfold fz
  rw [if_neg (by simp [D.free])]
  dsimp only
  rw [if_neg (by omega), gS]
  show (allM (fz S' b 7) (dI cs)).map D.lst = _
  rw [q]
  rfl
theorem cut_ints (ns : List Int) (l h : Option Int) : ∃ ms : List Int, cutD (dI ns) l h = dI ms ∧ ms = (ns.drop (HT.sIx ns.length 0 l)).take (HT.sIx ns.length ns.length h - HT.sIx ns.length 0 l) := by
  refine ⟨_, ?_, rfl⟩
  unfold cutD dI
  simp [List.map_take, List.map_drop]
theorem enD_app (n : Int) (x : D) (xs : List D) : enD n (x :: xs) = .tup [.int n, x] :: enD (n + 1) xs := rfl
/-- the loop of _law_cells -/
theorem cells_go (M : Nat) (hM : 0 < M) (k b : Nat) (fz_ : D) (n : Nat) : ∀ (ms : List Int) (j : Nat) (S : Store) (cs : List Int) (a3 a4 a5 : Option D), S[n]? = some (.lst (dI cs)) → M = cs.length → j + ms.length < 2 ^ 60 →
    ∃ S' cs' b3 b4 b5, forGo (evS (cl P W k b) (.cons (.set 5 (.bi .mod (.pr .int (.cons (.v 3) .nil)) (.v 1))) (.cons (.sub (.v 2) (.v 5) (.bi .add (.ix (.v 2) (.v 5)) (.bi .mul (.v 4) (.bi .add (.v 3) (.k (.int 2)))))) .nil))) (.t (.cons (.v 3) (.cons (.v 4) .nil))) (enD j (dI ms))
      [some fz_, some (.int M), some (.loc n), a3, a4, a5] S = .nx [some fz_, some (.int M), some (.loc n), b3, b4, b5] S' ∧ S'.length = S.length ∧ (∀ m, m ≠ n → S'[m]? = S[m]?) ∧ S'[n]? = some (.lst (dI cs')) ∧ cs'.length = cs.length
  | [], j, S, cs, a3, a4, a5, h, hc, hj => ⟨S, cs, a3, a4, a5, rfl, rfl, fun _ _ => rfl, h, rfl⟩
  | m :: ms, j, S, cs, a3, a4, a5, h, hc, hj => by
    have hlt : n < S.length := (List.getElem?_eq_some_iff.mp h).1
    have hat : j % M < (dI cs).length := by simp only [dI, List.length_map]; rw [← hc]; exact Nat.mod_lt _ hM
    have i0 := cell_ix h (j % M) hat
    have hz : ∃ c, (dI cs)[j % M] = .int c := ⟨cs[j % M]'(by simpa [dI] using hat), by simp [dI]⟩
    obtain ⟨c, hc2⟩ := hz
    rw [hc2] at i0
    have mo : mulOk m ((j : Int) + 2) = true := mulOk_r (smallI_of (by omega) (by simp only [List.length_cons] at hj; omega))
    have st := cell_sub (base := b) (d := .int (c + m * ((j : Int) + 2))) h (j % M) hat rfl
    have hset : (dI cs).set (j % M) (.int (c + m * ((j : Int) + 2))) = dI (cs.set (j % M) (c + m * ((j : Int) + 2))) := by simp [dI, List.map_set]
    rw [hset] at st
    obtain ⟨S', cs', b3, b4, b5, r1, r2, r3, r4, r5⟩ := cells_go M hM k b fz_ n ms (j + 1) (S.set n (.lst (dI (cs.set (j % M) (c + m * ((j : Int) + 2)))))) (cs.set (j % M) (c + m * ((j : Int) + 2))) (some (.int j)) (some (.int m)) (some (.int ((j % M : Nat) : Int))) (List.getElem?_set_self hlt) (by simpa using hc) (by simp only [List.length_cons] at hj; omega)
    refine ⟨S', cs', b3, b4, b5, ?_, by simpa using r2, fun q hq => by rw [r3 q hq, List.getElem?_set_ne (Ne.symm hq)], r4, by simpa using r5⟩
    show forGo _ _ (.tup [.int j, .int m] :: enD ((j : Int) + 1) (dI ms)) _ _ = _
    rw [forGo]
    have hmod : ((j : Int) % (M : Int)) = ((j % M : Nat) : Int) := rfl
    have hM' : (0 : Int) < (M : Int) := by omega
    rw [← hmod] at i0 st r1
    rw [show (((j + 1 : Nat)) : Int) = (j : Int) + 1 from rfl] at r1
    simp [bindT, hM, i0, mo, st, r1]
theorem sIx_none (n d : Nat) : HT.sIx n d none = d := rfl
theorem sIx_nat (n d m : Nat) : HT.sIx n d (some (m : Int)) = min m n := by
  unfold HT.sIx
  simp
  try omega
/-- the rest of _law_cells, from its new list on -/
theorem cells_rest {f : Nat} (M : Nat) (hM : 0 < M) (hM2 : M < 63) (ns : List Int) (hn : ns.length ≤ 63) (k b0 : Nat) (S S1 : Store) (n : Nat) (cs : List Int) (h1 : S1[n]? = some (.lst (dI cs))) (hb : S.length ≤ n) (hS : S1.take S.length = S) (hl : S.length ≤ S1.length)
    (hc : ns.length ≤ M ∨ cs.length = M) (a3 a4 a5 : Option D) : ∃ cs' : List Int, cs'.length = cs.length ∧ endC false S.length (evS (cl P W k S.length) (.cons (.forr (.t (.cons (.v 3) (.cons (.v 4) .nil))) (.en (.sl (.v 0) (.v 1) (.k (.int 63)))) (.cons (.set 5 (.bi .mod (.pr .int (.cons (.v 3) .nil)) (.v 1))) (.cons (.sub (.v 2) (.v 5) (.bi .add (.ix (.v 2) (.v 5)) (.bi .mul (.v 4) (.bi .add (.v 3) (.k (.int 2)))))) .nil))) (.cons (.ret (.v 2)) .nil))
      [some (.fzn (dI ns)), some (.int M), some (.loc n), a3, a4, a5] S1) = .ok (.lst (dI cs')) S := by
  have hs : evi (cl P W k S.length) (.en (.sl (.v 0) (.v 1) (.k (.int 63)))) [some (.fzn (dI ns)), some (.int M), some (.loc n), a3, a4, a5] S1 = .ok (enD 0 (cutD (dI ns) (some M) (some 63))) S1 := rfl
  obtain ⟨ms, e1, e2⟩ := cut_ints ns (some (M : Int)) (some ((63 : Nat) : Int))
  rw [sIx_nat, sIx_nat] at e2
  have hms : ms.length ≤ 63 := by rw [e2, List.length_take]; omega
  have fin : ∀ (S' : Store) (cs' : List Int) (ρ : Env), S'.length = S1.length → (∀ m, m ≠ n → S'[m]? = S1[m]?) → S'[n]? = some (.lst (dI cs')) → endC false S.length (.rt (.loc n) ρ S') = .ok (.lst (dI cs')) S := by
    intro S' cs' ρ l1 l2 l3
    show (match fz S' S.length 8 (.loc n) with | some d' => R.ok d' (S'.take S.length) | none => .fl) = _
    rw [fz_ints l3 hb]
    have q : S'.take S.length = S1.take S.length := by
      refine List.ext_getElem? fun i => ?_
      rw [List.getElem?_take, List.getElem?_take]
      split
      · exact l2 i (by omega)
      · rfl
    rw [q, hS]
  by_cases hm0 : ms = []
  · subst hm0
    refine ⟨cs, rfl, ?_⟩
    rw [s_seq, s_for, hs, show ((63 : Nat) : Int) = 63 from rfl] at *
    rw [e1]
    exact fin S1 cs _ rfl (fun _ _ => rfl) h1
  · have hcl : M = cs.length := by
      rcases hc with hc | hc
      · exfalso
        apply hm0
        rw [e2]
        apply List.eq_nil_of_length_eq_zero
        rw [List.length_take, List.length_drop]
        omega
      · exact hc.symm
    obtain ⟨S', cs', b3, b4, b5, r1, r2, r3, r4, r5⟩ := cells_go (P := P) (W := W) M hM k S.length (.fzn (dI ns)) n ms 0 S1 cs a3 a4 a5 h1 hcl (by omega)
    refine ⟨cs', r5, ?_⟩
    rw [s_seq, s_for, hs]
    rw [show ((63 : Nat) : Int) = 63 from rfl] at e1
    rw [e1, s_then]
    rw [show ((0 : Nat) : Int) = 0 from rfl] at r1
    rw [r1]
    exact fin S' cs' _ r2 r3 r4
theorem cells_ok {f : Nat} (e : P f = some F_law_cells) (M : Nat) (hM : 0 < M) (hM2 : M < 63) (ns : List Int) (hn : ns.length ≤ 63) (k b : Nat) (S : Store) :
    ∃ cs : List Int, run P isi0 W (k + 1) b f [.fzn (dI ns), .int M] S = .ok (.lst (dI cs)) S ∧ cs ≠ [] ∧ cs.length ≤ M := by
  rw [run_nk e rfl rfl]
  obtain ⟨ms, e1, e2⟩ := cut_ints ns none (some (M : Int))
  rw [sIx_none, sIx_nat] at e2
  have hml : ms.length ≤ M := by rw [e2, List.length_take]; omega
  have hmc : ns.length ≤ M ∨ ms.length = M := by
    by_cases h : ns.length ≤ M
    · exact .inl h
    · refine .inr ?_
      rw [e2, List.length_take, List.length_drop]; omega
  cases ms with
  | nil =>
    obtain ⟨cs', l, r⟩ := cells_rest (P := P) (W := W) (f := f) M hM hM2 ns hn k 0 S (S ++ [.lst []] ++ [.lst (dI [0])]) (S.length + 1) [0] (by simp) (by omega) (by simp) (by simp) (hmc.imp id fun h => by simp at h; omega) none none none
    refine ⟨cs', ?_, by intro h; subst h; simp at l, by rw [l]; exact hM⟩
    rw [← r]
    have q : ev (cl P W k S.length) (.orr (.fr (.pr .list (.cons (.sl (.v 0) .no (.v 1)) .nil))) (.fr (.li (.cons (.k (.int 0)) .nil)))) [some (.fzn (dI ns)), some (.int M), none, none, none, none] S = .ok (.loc (S.length + 1)) (S ++ [.lst []] ++ [.lst (dI [0])]) := by
      have h1 : ev (cl P W k S.length) (.fr (.pr .list (.cons (.sl (.v 0) .no (.v 1)) .nil))) [some (.fzn (dI ns)), some (.int M), none, none, none, none] S = .ok (.loc S.length) (S ++ [.lst (cutD (dI ns) none (some (M : Int)))]) := rfl
      rw [e1] at h1
      have t : tru (S ++ [.lst (dI [])]) (.loc S.length) = some false := by
        unfold tru dr
        simp [dI]
      rw [s_orr, h1, s_bind, t]
      simp [dI]
    rw [show F_law_cells.body = .cons _ _ from rfl, s_seq, s_set]
    show endC false S.length (match (R.then (ev (cl P W k S.length) (.orr (.fr (.pr .list (.cons (.sl (.v 0) .no (.v 1)) .nil))) (.fr (.li (.cons (.k (.int 0)) .nil)))) [some (.fzn (dI ns)), some (.int M), none, none, none, none] S) _ _) with | .nx ρ1 S1 => _ | r => r) = _
    rw [q]
    rfl
  | cons m ms =>
    obtain ⟨cs', l, r⟩ := cells_rest (P := P) (W := W) (f := f) M hM hM2 ns hn k 0 S (S ++ [.lst (dI (m :: ms))]) S.length (m :: ms) (by simp) (Nat.le_refl _) (by simp) (by simp) hmc none none none
    refine ⟨cs', ?_, by intro h; subst h; simp at l, by rw [l]; exact hml⟩
    rw [← r]
    have q : ev (cl P W k S.length) (.orr (.fr (.pr .list (.cons (.sl (.v 0) .no (.v 1)) .nil))) (.fr (.li (.cons (.k (.int 0)) .nil)))) [some (.fzn (dI ns)), some (.int M), none, none, none, none] S = .ok (.loc S.length) (S ++ [.lst (dI (m :: ms))]) := by
      have h1 : ev (cl P W k S.length) (.fr (.pr .list (.cons (.sl (.v 0) .no (.v 1)) .nil))) [some (.fzn (dI ns)), some (.int M), none, none, none, none] S = .ok (.loc S.length) (S ++ [.lst (cutD (dI ns) none (some (M : Int)))]) := rfl
      rw [e1] at h1
      have t : tru (S ++ [.lst (dI (m :: ms))]) (.loc S.length) = some true := by
        unfold tru dr
        simp [dI]
      rw [s_orr, h1, s_bind, t]
    rw [show F_law_cells.body = .cons _ _ from rfl, s_seq, s_set]
    show endC false S.length (match (R.then (ev (cl P W k S.length) (.orr (.fr (.pr .list (.cons (.sl (.v 0) .no (.v 1)) .nil))) (.fr (.li (.cons (.k (.int 0)) .nil)))) [some (.fzn (dI ns)), some (.int M), none, none, none, none] S) _ _) with | .nx ρ1 S1 => _ | r => r) = _
    rw [q]
    rfl
end
end EV
/-! PLm: names in a def are no matter. -/
namespace EV
open L2 PySem
structure FnEq (a b : Fn) : Prop where
  body : a.body = b.body
  ps : a.ps.length = b.ps.length
  ns : a.ns.length = b.ns.length
  keep : a.keep = b.keep
  dfl : a.dfl = b.dfl
theorem FnEq.refl (a : Fn) : FnEq a a := ⟨rfl, rfl, rfl, rfl, rfl⟩
def PEq (P P' : Prg) : Prop := ∀ i, (P i = none ∧ P' i = none) ∨ ∃ a b, P i = some a ∧ P' i = some b ∧ FnEq a b
theorem dflOf_ren {P P' : Prg} (h : PEq P P') : dflOf P = dflOf P' := by
  funext f n
  unfold dflOf
  rcases h f with ⟨h1, h2⟩ | ⟨a, b, h1, h2, h3⟩
  · rw [h1, h2]
  · rw [h1, h2]
    show a.dfl.drop _ = b.dfl.drop _
    rw [h3.dfl, h3.ps]
theorem run_ren {P P' : Prg} (h : PEq P P') (isi : D → List CR → Option Bool) (W : Nat) : ∀ k, run P isi W k = run P' isi W k
  | 0 => rfl
  | k + 1 => by
    funext base f ds S
    unfold run
    rw [run_ren h isi W k, dflOf_ren h]
    rcases h f with ⟨h1, h2⟩ | ⟨a, b, h1, h2, h3⟩
    · rw [h1, h2]
    · rw [h1, h2]
      simp only [h3.body, h3.ps, h3.ns, h3.keep]
/-- one def with other names -/
def ren (P : Prg) (f : Nat) (g : Fn) : Prg := fun i => if i = f then some g else P i
theorem ren_eq {P : Prg} {f : Nat} {g a : Fn} (e : P f = some a) (h : FnEq a g) : PEq P (ren P f g) := by
  intro i
  unfold ren
  by_cases q : i = f
  · subst q
    rw [if_pos rfl]
    exact .inr ⟨a, g, e, rfl, h⟩
  · rw [if_neg q]
    cases hp : P i with
    | none => exact .inl ⟨rfl, rfl⟩
    | some x => exact .inr ⟨x, x, rfl, rfl, .refl x⟩
end EV
/-! PL03: law k03. -/
namespace EV
open L2 PySem
/-- _law_right -/
def F_law_right03 (i_law_same i_starts i_reaches i_law_arms i_law_tails i_law_soft i_mirrored i_law_behind i_law_grouped i_law_take : Nat) : Fn := { name := "_law_right", ps := ["_law_box_here"], ns := ["_law_box_here", "_law_turn", "_law_size_so", "_law_tree_so", "_law_soft_here", "_law_due", "_law_arms_so", "_law_tails_so", "_law_own"], body := (.cons (.forr (.v 1) (.rg1 (.k (.int 10))) (.cons (.set 2 (.bi .add (.k (.int 1)) (.cal i_law_take (.cons (.v 0) (.cons (.k (.int 16)) .nil))))) (.cons (.set 3 (.cal i_law_grouped (.cons (.v 0) (.cons (.k (.int 1)) (.cons (.v 2) .nil))))) (.cons (.asg (.t (.cons (.v 4) (.cons (.v 5) .nil))) (.tu (.cons (.cal i_law_soft (.cons (.v 3) .nil)) (.cons (.cal i_law_behind (.cons (.v 3) (.cons (.v 2) .nil))) .nil)))) (.cons (.ite (.un .not (.cal i_law_same (.cons (.li (.cons (.cal i_mirrored (.cons (.v 3) .nil)) (.cons (.cal i_mirrored (.cons (.v 4) .nil)) (.cons (.cal i_mirrored (.cons (.v 5) .nil)) .nil)))) (.cons (.li (.cons (.v 5) (.cons (.v 5) (.cons (.v 3) .nil)))) .nil)))) (.cons (.ret (.k (.bl false))) .nil) .nil) (.cons (.ite (.cm .ne (.v 4) (.cal i_law_soft (.cons (.v 3) .nil))) (.cons (.ret (.k (.bl false))) .nil) .nil) (.cons (.set 6 (.pr .tuple (.cons (.lc (.v 8) [8] (.it (.rv (.cal i_law_tails (.cons (.v 3) .nil)))) .yes (.bi .sub (.bi .add (.v 2) (.k (.int 1))) (.v 8))) .nil))) (.cons (.set 7 (.pr .tuple (.cons (.lc (.v 8) [8] (.it (.rv (.cal i_law_arms (.cons (.v 3) .nil)))) .yes (.bi .sub (.bi .add (.v 2) (.k (.int 1))) (.v 8))) .nil))) (.cons (.ite (.un .not (.cal i_law_same (.cons (.li (.cons (.cal i_reaches (.cons (.v 5) .nil)) (.cons (.cal i_starts (.cons (.v 5) .nil)) .nil))) (.cons (.li (.cons (.v 6) (.cons (.v 7) .nil))) .nil)))) (.cons (.ret (.k (.bl false))) .nil) .nil) .nil))))))))) (.cons (.ret (.k (.bl true))) .nil)) }
def Tr.ps : Tr → PyData
  | .lf i => .int i
  | .nd a b => .list [a.ps, b.ps]
theorem Tr.py_s : ∀ t : Tr, t.s.py = some t.ps
  | .lf i => rfl
  | .nd a b => by simp [Tr.s, D.py, pys, a.py_s, b.py_s, Tr.ps]
theorem Tr.ps_lay : ∀ t : Tr, t.ps.canLay0 = true
  | .lf i => rfl
  | .nd a b => by simp [Tr.ps, PyData.canLay0, PyData.canLayAll0, a.ps_lay, b.ps_lay]
theorem Tr.ps_dep : ∀ t : Tr, t.ps.depth = t.dep
  | .lf i => rfl
  | .nd a b => by simp [Tr.ps, PyData.depth, PyData.depthAll, a.ps_dep, b.ps_dep, Tr.dep]; omega
theorem Tr.s_free (t : Tr) : t.s.free = true := t.iss.free
theorem pyS_s (S : Store) (t : Tr) (h : t.joins ≤ 60) : pyS S t.s = some t.ps := by
  have hd := t.dep_le
  have e : dr S t.s = t.s := by cases t <;> rfl
  have sh : shapedD t.ps = true := by
    unfold shapedD PySem.SeqAt.shaped
    rw [t.ps_lay, t.ps_dep]
    simp; omega
  unfold pyS
  rw [e, t.py_s]
  simp [sh]
theorem ne_self {S : Store} {d : D} {p : PyData} (h : pyS S d = some p) : cop .ne S d d = some false := by
  have sh : PySem.SeqAt.shaped p = true := (pyS_ok h).2
  have q := PySem.SeqAt.eqv_refl p (PySem.SeqAt.canLay_of_shaped sh)
  unfold cop
  simp only [h, q]
  rfl
theorem eq_self {S : Store} {d : D} {p : PyData} (h : pyS S d = some p) : cop .eq S d d = some true := by
  have sh : PySem.SeqAt.shaped p = true := (pyS_ok h).2
  have q := PySem.SeqAt.eqv_refl p (PySem.SeqAt.canLay_of_shaped sh)
  unfold cop
  simp only [h, q]
/-- a loop with what stays true -/
theorem forGo_inv {b : Env → Store → RS} {t : Tg} (I : Nat → Env → Store → Prop) : ∀ (xs : List D) (i : Nat) (ρ : Env) (S : Store), I i ρ S → (∀ (j : Nat) x ρ S, xs[j]? = some x → I (i + j) ρ S → ∃ ρ1, bindT t x ρ = some ρ1 ∧ ∃ ρ' S', b ρ1 S = .nx ρ' S' ∧ I (i + j + 1) ρ' S') →
    ∃ ρ' S', forGo b t xs ρ S = .nx ρ' S' ∧ I (i + xs.length) ρ' S'
  | [], i, ρ, S, h, _ => ⟨ρ, S, rfl, h⟩
  | x :: xs, i, ρ, S, h, st => by
    obtain ⟨ρ1, b1, ρ', S', e, h'⟩ := st 0 x ρ S rfl h
    obtain ⟨ρ2, S2, e2, h2⟩ := forGo_inv I xs (i + 1) ρ' S' h' fun j y ρ S hj hI => by
      have := st (j + 1) y ρ S (by simpa using hj) (by rwa [show i + (j + 1) = i + 1 + j by omega])
      rwa [show i + (j + 1) + 1 = i + 1 + j + 1 by omega] at this
    refine ⟨ρ2, S2, ?_, by rwa [show i + (x :: xs).length = i + 1 + xs.length by simp; omega]⟩
    rw [forGo, b1]
    simp only [e, e2]
section
variable {P : Prg} {W : Nat} {i_same i_starts i_reaches i_arms i_tails i_soft i_mir i_beh i_grp i_take i_n i_e i_f i_sh i_sp i_le i_lp : Nat}
theorem right03_step (eN : P i_n = some F_is_number) (eE : P i_e = some (F_ends i_n)) (eF : P i_f = some (F_factors_in i_e)) (eSh : P i_sh = some (F_shifted i_sh i_n)) (eMi : P i_mir = some (F_mirrored i_sh i_f))
    (eSp : P i_sp = some (F_spans i_e i_sp i_n)) (eRe : P i_reaches = some (F_reaches i_sp)) (eSt : P i_starts = some (F_starts i_sp)) (eT : P i_take = some F_law_take) (eG : P i_grp = some (F_law_grouped i_grp i_take))
    (eLE : P i_le = some F_law_ends) (eLP : P i_lp = some (F_law_pairs i_lp i_le)) (eAr : P i_arms = some (F_law_arms i_lp)) (eTa : P i_tails = some (F_law_tails i_lp)) (eSo : P i_soft = some (F_law_soft i_soft)) (eBe : P i_beh = some (F_law_behind i_beh)) (eSa : P i_same = some (F_law_same i_same))
    (hW : 100 < W) (k : Nat) (hk : 40 ≤ k) (base : Nat) (S : Store) (b Z : Nat) (hb : Box S b Z) (hZ : Z < 2 ^ 50) (a1 a2 a3 a4 a5 a6 a7 a8 : Option D) :
    ∃ ρ' S', evS (cl P W k base) (match (F_law_right03 i_same i_starts i_reaches i_arms i_tails i_soft i_mir i_beh i_grp i_take).body with | .cons (.forr _ _ bd) _ => bd | _ => .nil) [some (.loc b), a1, a2, a3, a4, a5, a6, a7, a8] S = .nx ρ' S' ∧
      (∃ c1 c2 c3 c4 c5 c6 c7 c8, ρ' = [some (.loc b), c1, c2, c3, c4, c5, c6, c7, c8]) ∧ S'.length = S.length ∧ Box S' b (Z + 31) ∧ ∀ m, m ≠ b → S'[m]? = S[m]? := by
  obtain ⟨k, rfl⟩ : ∃ m, k = m + 1 := ⟨k - 1, by omega⟩
  obtain ⟨r, S1, t0, p0, q0, l0, b0, m0⟩ := take_ok (W := W) eT k base S b Z 16 (by decide) (by decide) hb (by omega)
  obtain ⟨t, S2, g, nm, tj, l1, b1, m1⟩ := grouped_ok (W := W) eT eG r.toNat 1 (1 + r) (k + 1) base S1 b (Z + 1) (by omega) b0 (by omega) (by omega)
  have hj : t.joins ≤ 15 := by omega
  have lst : t.lst = 1 + r := nm.lst
  have fst : t.fst = 1 := nm.fst
  have so := soft_ok (W := W) eSo t (k + 1) base S2 (by omega)
  have be := behind_ok (W := W) eBe (1 + r) t (k + 1) base S2 (by omega)
  have mi1 := mirrored_ok (W := W) eN eE eF eSh eMi t.isd (k + 1) base S2 (by omega) (by omega)
  have mi2 := mirrored_ok (W := W) eN eE eF eSh eMi t.iss (k + 1) base S2 (by omega) (by omega)
  have mi3 := mirrored_ok (W := W) eN eE eF eSh eMi (t.shift (1 + r)).isd (k + 1) base S2 (by rw [Tr.shift_joins]; omega) (by rw [Tr.shift_joins]; omega)
  rw [lst] at mi1 mi2
  rw [Tr.shift_lst, fst, show (1 : Int) + r + 1 - 1 = 1 + r by omega, Tr.shift_shift] at mi3
  have pls : Pl 15 (t.shift (1 + r)).d := (t.shift (1 + r)).pl.mono (by rw [Tr.shift_joins]; exact hj)
  have plt : Pl 15 t.d := t.pl.mono hj
  have sa1 := same_ok (W := W) eSa 16 (.lst [(t.shift (1 + r)).d, (t.shift (1 + r)).d, t.d]) (k + 1) base S2 ⟨by simp, fun x hx => by
    simp only [List.mem_cons, List.not_mem_nil, or_false] at hx
    rcases hx with rfl | rfl | rfl
    · exact pls
    · exact pls
    · exact plt⟩ (by omega)
  have ne := ne_self (pyS_s S2 t (by omega))
  have ta := tails_ok (W := W) eLE eLP eTa t (k + 1) base S2 (by omega) (by omega) (by omega)
  have ar := arms_ok (W := W) eLE eLP eAr t (k + 1) base S2 (by omega) (by omega) (by omega)
  have re := reaches_ok (W := W) eN eE eSp eRe (t.shift (1 + r)).isd (k + 1) base S2 (by rw [Tr.shift_joins]; omega) (by rw [Tr.shift_joins]; omega) (by rw [Tr.shift_joins]; omega)
  have st := starts_ok (W := W) eN eE eSp eSt (t.shift (1 + r)).isd (k + 1) base S2 (by rw [Tr.shift_joins]; omega) (by rw [Tr.shift_joins]; omega) (by rw [Tr.shift_joins]; omega)
  rw [Tr.shift_third] at re
  rw [Tr.shift_first] at st
  have lc : ∀ (xs : List Int) (z1 z2 z3 z4 z5 z6 z7 z8 : Option D), lcGo (ev (cl P W (k + 1) base) .yes) (ev (cl P W (k + 1) base) (.bi .sub (.bi .add (.v 2) (.k (.int 1))) (.v 8))) (.v 8) [8] [z1, z2, some (.int (1 + r)), z3, z4, z5, z6, z7, z8] (xs.map .int).reverse [] S2 = .ok ((xs.reverse.map fun i => 1 + r + 1 - i).map .int) S2 := by
    intro xs z1 z2 z3 z4 z5 z6 z7 z8
    rw [← List.map_reverse]
    rw [lc_map (f := fun x => match x with | .int i => .int (1 + r + 1 - i) | _ => .non) (xs.reverse.map .int) [] (fun x hx => by
      obtain ⟨i, _, rfl⟩ := List.mem_map.mp hx
      exact ⟨_, rfl, rfl, rfl⟩)]
    rw [List.reverse_nil, List.nil_append, List.map_map, List.map_map]
    rfl
  have len : t.spans.length ≤ lim := by rw [t.spans_len]; exact lim_le (by omega)
  have sa2 := same_ok (W := W) eSa 2 (.lst [.tup (((t.spans.map (·.1)).reverse.map fun i => 1 + r + 1 - i).map .int), .tup (((t.spans.map (·.2.2)).reverse.map fun i => 1 + r + 1 - i).map .int)]) (k + 1) base S2 ⟨by simp, fun x hx => by
    simp only [List.mem_cons, List.not_mem_nil, or_false] at hx
    rcases hx with rfl | rfl
    · exact pl_ints (by simpa using len)
    · exact pl_ints (by simpa using len)⟩ (by omega)
  have lx := lc (t.spans.map (·.1))
  have ly := lc (t.spans.map (·.2.2))
  clear lc
  generalize t.spans.map (·.1) = xs at ta re lx sa2
  generalize t.spans.map (·.2.2) = ys at ar st ly sa2
  generalize (xs.reverse.map fun i => 1 + r + 1 - i).map D.int = XA at re lx sa2
  generalize (ys.reverse.map fun i => 1 + r + 1 - i).map D.int = YA at st ly sa2
  refine ⟨[some (.loc b), a1, some (.int (1 + r)), some t.d, some t.s, some (t.shift (1 + r)).d, some (.tup XA), some (.tup YA), a8], S2, ?_,
    ⟨_, _, _, _, _, _, _, _, rfl⟩, by omega, ?_, fun m hm => by rw [m1 m hm, m0 m hm]⟩
  · simp [F_law_right03, dfl_nil eT rfl, dfl_nil eG rfl, dfl_nil eSo rfl, dfl_nil eBe rfl, dfl_nil eMi rfl, dfl_nil eSa rfl, dfl_nil eTa rfl, dfl_nil eAr rfl, dfl_nil eRe rfl, dfl_nil eSt rfl, t0, g, so, be, mi1, mi2, mi3, sa1, ne, ta, ar, re, st, lx, ly, sa2, bindT]
  · obtain ⟨x, y, z, e1, e2, e3, e4, e5⟩ := b1
    exact ⟨x, y, z, e1, e2, e3, e4, by omega⟩
theorem right03_ok {f : Nat} (eN : P i_n = some F_is_number) (eE : P i_e = some (F_ends i_n)) (eF : P i_f = some (F_factors_in i_e)) (eSh : P i_sh = some (F_shifted i_sh i_n)) (eMi : P i_mir = some (F_mirrored i_sh i_f))
    (eSp : P i_sp = some (F_spans i_e i_sp i_n)) (eRe : P i_reaches = some (F_reaches i_sp)) (eSt : P i_starts = some (F_starts i_sp)) (eT : P i_take = some F_law_take) (eG : P i_grp = some (F_law_grouped i_grp i_take))
    (eLE : P i_le = some F_law_ends) (eLP : P i_lp = some (F_law_pairs i_lp i_le)) (eAr : P i_arms = some (F_law_arms i_lp)) (eTa : P i_tails = some (F_law_tails i_lp)) (eSo : P i_soft = some (F_law_soft i_soft)) (eBe : P i_beh = some (F_law_behind i_beh)) (eSa : P i_same = some (F_law_same i_same))
    (eR : P f = some (F_law_right03 i_same i_starts i_reaches i_arms i_tails i_soft i_mir i_beh i_grp i_take)) (hW : 100 < W) (k : Nat) (hk : 41 ≤ k) (base : Nat) (S : Store) (b : Nat) (hb : Box S b 0) :
    ∃ S', run P isi0 W k base f [.loc b] S = .ok (.bl true) S' ∧ S'.length = S.length ∧ ∀ m, m ≠ b → S'[m]? = S[m]? := by
  obtain ⟨k, rfl⟩ : ∃ m, k = m + 1 := ⟨k - 1, by omega⟩
  rw [run_nk eR rfl rfl]
  obtain ⟨ρ', S', e, ⟨c, hc⟩, l, bx, m⟩ := forGo_inv (b := evS (cl P W k S.length) (match (F_law_right03 i_same i_starts i_reaches i_arms i_tails i_soft i_mir i_beh i_grp i_take).body with | .cons (.forr _ _ bd) _ => bd | _ => .nil)) (t := .v 1)
    (fun i ρ S' => (∃ c : Option D × Option D × Option D × Option D × Option D × Option D × Option D × Option D, ρ = [some (.loc b), c.1, c.2.1, c.2.2.1, c.2.2.2.1, c.2.2.2.2.1, c.2.2.2.2.2.1, c.2.2.2.2.2.2.1, c.2.2.2.2.2.2.2]) ∧ S'.length = S.length ∧ (i ≤ 10 → Box S' b (31 * i)) ∧ ∀ m, m ≠ b → S'[m]? = S[m]?)
    (rgD 0 10) 0 (startD 9 [.loc b]) S ⟨⟨(none, none, none, none, none, none, none, none), rfl⟩, rfl, fun _ => hb, fun _ _ => rfl⟩ (by
      rintro j x ρ S1 hx ⟨⟨c, rfl⟩, l, bx, m⟩
      have hj : j < 10 := (List.getElem?_eq_some_iff.mp hx).1
      refine ⟨_, rfl, ?_⟩
      obtain ⟨ρ', S2, e, ⟨c1, c2, c3, c4, c5, c6, c7, c8, hc⟩, l2, b2, m2⟩ := right03_step (W := W) eN eE eF eSh eMi eSp eRe eSt eT eG eLE eLP eAr eTa eSo eBe eSa hW k (by omega) S.length S1 b (31 * (0 + j)) (bx (by omega)) (by omega) (some x) c.2.1 c.2.2.1 c.2.2.2.1 c.2.2.2.2.1 c.2.2.2.2.2.1 c.2.2.2.2.2.2.1 c.2.2.2.2.2.2.2
      refine ⟨ρ', S2, e, ⟨(c1, c2, c3, c4, c5, c6, c7, c8), hc⟩, by omega, fun _ => ?_, fun q hq => by rw [m2 q hq, m q hq]⟩
      rwa [show 31 * (0 + j + 1) = 31 * (0 + j) + 31 by omega])
  refine ⟨S', ?_, l, m⟩
  refine Eq.trans (congrArg (fun r => endC false S.length (match r with | .nx ρ1 S1 => evS (cl P W k S.length) (.cons (.ret (.k (.bl true))) .nil) ρ1 S1 | r => r)) e) ?_
  exact endC_rt2 rfl l
end
end EV
/-! PLg: the law's entry: by hand, then a box a cell. -/
namespace EV
open L2 PySem
/-- law -/
def F_law_hand (M : Int) (i_law_right i_law_box i_law_cells i_law_by_hand_right : Nat) : Fn := { name := "law", ps := ["_law_script"], ns := ["_law_script", "_law_cells_here", "_law_k"], body := (.cons (.ite (.un .not (.cal i_law_by_hand_right .nil)) (.cons (.ret (.k (.bl false))) .nil) .nil) (.cons (.set 1 (.cal i_law_cells (.cons (.v 0) (.cons (.k (.int M)) .nil)))) (.cons (.ret (.pr .all (.cons (.lc (.v 2) [2] (.rg1 (.pr .len (.cons (.v 1) .nil))) .yes (.cal i_law_right (.cons (.cal i_law_box (.cons (.v 1) (.cons (.v 2) .nil))) .nil))) .nil))) .nil))) }
/-- a comprehension that moves the store -/
theorem lc_inv {c e : Env → Store → R D} {t : Tg} {vs : List Nat} {ρ : Env} {f : D → D} (I : Store → Prop) : ∀ (xs acc : List D) (S : Store), I S → (∀ x ∈ xs, ∀ S, I S → ∃ ρ1 S', bindT t x (wipeD ρ vs) = some ρ1 ∧ c ρ1 S = .ok (.bl true) S ∧ e ρ1 S = .ok (f x) S' ∧ I S') →
    ∃ S', lcGo c e t vs ρ xs acc S = .ok (acc.reverse ++ xs.map f) S' ∧ I S'
  | [], acc, S, h, _ => ⟨S, by rw [lcGo, List.map_nil, List.append_nil], h⟩
  | x :: xs, acc, S, h, st => by
    obtain ⟨ρ1, S1, h1, h2, h3, h4⟩ := st x List.mem_cons_self S h
    obtain ⟨S', e1, i1⟩ := lc_inv I xs (f x :: acc) S1 h4 fun y hy => st y (List.mem_cons_of_mem _ hy)
    refine ⟨S', ?_, i1⟩
    rw [lcGo, h1]
    simp only [h2, s_trb, h3]
    rw [e1]
    simp
theorem s_rg1 {C : Cl} {ρ : Env} {S : Store} (a : Ex) : evi C (.rg1 a) ρ S = (ev C a ρ S).bind fun x S1 => match x with
    | .int j => if small62 j && decide (j ≤ lim) then .ok (rgD 0 j) S1 else .fl
    | _ => .fl := rfl
theorem s_rg2 {C : Cl} {ρ : Env} {S : Store} (a b : Ex) : evi C (.rg2 a b) ρ S = (ev C a ρ S).bind fun x S1 => (ev C b ρ S1).bind fun y S2 => match x, y with
    | .int i, .int j => if small62 i && small62 j && decide (j - i ≤ lim) then .ok (rgD i j) S2 else .fl
    | _, _ => .fl := rfl
theorem rg_c {n : Nat} (h : n ≤ 10000) : small62 (n : Int) = true ∧ n ≤ lim := by
  refine ⟨?_, lim_le h⟩
  unfold small62
  rw [decide_eq_true (show -(2 ^ 62) ≤ (n : Int) by omega), decide_eq_true (show (n : Int) < 2 ^ 62 by omega)]
  rfl
section
variable {P : Prg} {W : Nat} {i_right i_box i_cells i_hand f : Nat}
theorem law_hand_ok (M : Nat) (seed : Int) (e : P f = some (F_law_hand M i_right i_box i_cells i_hand)) (eB : P i_box = some (F_law_box seed)) (hs0 : 0 ≤ seed) (hs1 : seed < 2 ^ 40) (eC : P i_cells = some F_law_cells) (hM : 0 < M) (hM2 : M < 63)
    {gr gh : Fn} (eR : P i_right = some gr) (hr : gr.dfl = []) (eH : P i_hand = some gh) (hh : gh.dfl = []) (k : Nat) (hk : 2 ≤ k) (hand : run P isi0 W k 0 i_hand [] [] = .ok (.bl true) [])
    (right : ∀ (S : Store) (b : Nat), Box S b 0 → ∃ S', run P isi0 W k 0 i_right [.loc b] S = .ok (.bl true) S') (ns : List Int) (hn : ns.length ≤ 63) :
    ∃ S, run P isi0 W (k + 1) 0 f [.fzn (dI ns)] [] = .ok (.bl true) S := by
  obtain ⟨k, rfl⟩ : ∃ m, k = m + 2 := ⟨k - 2, by omega⟩
  obtain ⟨cs, c1, c2, c3⟩ := cells_ok (W := W) eC M hM hM2 ns hn (k + 1) 0 []
  have hb : Box [] 0 0 ∨ True := .inr trivial
  rw [run_nk e rfl rfl]
  obtain ⟨S', l1, _⟩ := lc_inv (c := ev (cl P W (k + 2) 0) .yes) (e := ev (cl P W (k + 2) 0) (.cal i_right (.cons (.cal i_box (.cons (.v 1) (.cons (.v 2) .nil))) .nil))) (t := .v 2) (vs := [2]) (ρ := [some (.fzn (dI ns)), some (.lst (dI cs)), none]) (f := fun _ => .bl true) (fun _ => True)
    (rgD 0 cs.length) [] [] trivial (fun x hx S _ => by
      unfold rgD at hx
      obtain ⟨i, hi, rfl⟩ := List.mem_map.mp hx
      have hi2 : i < cs.length := by simpa using hi
      obtain ⟨S1, b1, ⟨y, hy⟩, b2⟩ := box_ok (W := W) eB hs0 hs1 cs i hi2 (by omega) (k + 1) 0 S
      obtain ⟨S2, r2⟩ := right S1 S.length b2
      refine ⟨[some (.fzn (dI ns)), some (.lst (dI cs)), some (.int (0 + i))], S2, rfl, rfl, ?_, trivial⟩
      simp [dfl_nil eB rfl, dfl_nil eR hr, b1, r2])
  refine ⟨S'.take 0, ?_⟩
  have rg : evi (cl P W (k + 2) 0) (.rg1 (.pr .len (.cons (.v 1) .nil))) [some (.fzn (dI ns)), some (.lst (dI cs)), none] [] = .ok (rgD 0 cs.length) [] := by
    have hl : (dI cs).length = cs.length := by simp [dI]
    rw [s_rg1]
    have q := rg_c (show cs.length ≤ 10000 by omega)
    simp -implicitDefEqProofs [hl]
    exact q
  simp only [List.reverse_nil, List.nil_append] at l1
  have al := all_true (S := S') (rgD 0 cs.length)
  generalize rgD 0 (cs.length : Int) = xs at rg l1 al
  simp -implicitDefEqProofs [F_law_hand, startD, dfl_nil eH hh, dfl_nil eC rfl, hand, c1, rg, l1, al]
  rfl
end
end EV
/-! PLh: the drawn turns of a law; filtered comprehensions; rows of ints. -/
namespace EV
open L2 PySem
@[simp] theorem s_lim4 : 4 ≤ lim := by decide
@[simp] theorem s_lim5 : 5 ≤ lim := by decide
@[simp] theorem s_lim6 : 6 ≤ lim := by decide
@[simp] theorem s_lim7 : 7 ≤ lim := by decide
@[simp] theorem s_lim8 : 8 ≤ lim := by decide
@[simp] theorem s_lim9 : 9 ≤ lim := by decide
@[simp] theorem s_lim10 : 10 ≤ lim := by decide
@[simp] theorem s_lim11 : 11 ≤ lim := by decide
@[simp] theorem s_lim12 : 12 ≤ lim := by decide
@[simp] theorem s_lim13 : 13 ≤ lim := by decide
@[simp] theorem s_lim14 : 14 ≤ lim := by decide
@[simp] theorem s_lim15 : 15 ≤ lim := by decide
@[simp] theorem s_lim16 : 16 ≤ lim := by decide
@[simp] theorem s_lim17 : 17 ≤ lim := by decide
@[simp] theorem s_lim18 : 18 ≤ lim := by decide
@[simp] theorem s_lim19 : 19 ≤ lim := by decide
@[simp] theorem s_lim20 : 20 ≤ lim := by decide
@[simp] theorem s_lim21 : 21 ≤ lim := by decide
@[simp] theorem s_lim22 : 22 ≤ lim := by decide
@[simp] theorem s_lim23 : 23 ≤ lim := by decide
@[simp] theorem s_lim24 : 24 ≤ lim := by decide
@[simp] theorem s_lim25 : 25 ≤ lim := by decide
@[simp] theorem s_lim26 : 26 ≤ lim := by decide
@[simp] theorem s_lim27 : 27 ≤ lim := by decide
@[simp] theorem s_lim28 : 28 ≤ lim := by decide
@[simp] theorem s_lim29 : 29 ≤ lim := by decide
@[simp] theorem s_lim30 : 30 ≤ lim := by decide
@[simp] theorem s_lim31 : 31 ≤ lim := by decide
@[simp] theorem s_lim32 : 32 ≤ lim := by decide
@[simp] theorem s_lim33 : 33 ≤ lim := by decide
@[simp] theorem s_lim34 : 34 ≤ lim := by decide
@[simp] theorem s_lim35 : 35 ≤ lim := by decide
@[simp] theorem s_lim36 : 36 ≤ lim := by decide
@[simp] theorem s_lim37 : 37 ≤ lim := by decide
@[simp] theorem s_lim38 : 38 ≤ lim := by decide
@[simp] theorem s_lim39 : 39 ≤ lim := by decide
theorem env_of (L : Nat) (ρ : Env) (h : ρ.length = L) : ∃ g : Nat → Option D, ρ = (List.range L).map g ∧ ∀ i, g i = ρ.getD i none := by
  refine ⟨fun i => ρ.getD i none, List.ext_getElem (by simp [h]) fun i h1 h2 => ?_, fun _ => rfl⟩
  simp [List.getD_eq_getElem?_getD, h1]
/-- a comprehension with a test that touches nothing -/
theorem lc_filter {c e : Env → Store → R D} {t : Tg} {vs : List Nat} {ρ : Env} {S : Store} {f : D → D} {p : D → Bool} : ∀ (xs acc : List D), (∀ x ∈ xs, ∃ ρ1, bindT t x (wipeD ρ vs) = some ρ1 ∧ c ρ1 S = .ok (.bl (p x)) S ∧ (p x = true → e ρ1 S = .ok (f x) S)) →
    lcGo c e t vs ρ xs acc S = .ok (acc.reverse ++ (xs.filter p).map f) S
  | [], acc, _ => by rw [lcGo, List.filter_nil, List.map_nil, List.append_nil]
  | x :: xs, acc, h => by
    obtain ⟨ρ1, h1, h2, h3⟩ := h x List.mem_cons_self
    rw [lcGo, h1]
    simp only [h2]
    cases q : p x with
    | true =>
      simp only [s_trb, h3 q]
      rw [lc_filter xs (f x :: acc) fun y hy => h y (List.mem_cons_of_mem _ hy)]
      simp [q]
    | false =>
      simp only [s_trb]
      rw [lc_filter xs acc fun y hy => h y (List.mem_cons_of_mem _ hy)]
      simp [q]
theorem dI_free (l : List Int) : frees (l.map D.int) = true := by
  induction l with
  | nil => rfl
  | cons x l ih => simp only [List.map_cons, frees, ih, D.free, Bool.and_self]
theorem ix_ints {S : Store} (R : List Int) (n : Nat) (hn : n < R.length) : idx S (.tup (R.map .int)) (.int n) = some (.int R[n]) ∧ idx S (.lst (R.map .int)) (.int n) = some (.int R[n]) := by
  have q : atI (R.map D.int) (n : Int) = some (.int R[n]) := by
    unfold atI ixN
    simp [hn]
  exact ⟨q, q⟩
theorem rgD_split (a c l : Int) (h1 : a ≤ c) (h2 : c < l) : rgD a l = rgD a c ++ .int c :: rgD (c + 1) l := by
  unfold rgD
  obtain ⟨n, rfl⟩ : ∃ n : Nat, c = a + n := ⟨(c - a).toNat, by omega⟩
  obtain ⟨m, rfl⟩ : ∃ m : Nat, l = a + n + 1 + m := ⟨(l - (a + n) - 1).toNat, by omega⟩
  have e1 : (a + (n : Int) + 1 + (m : Int) - a).toNat = n + (m + 1) := by omega
  have e2 : (a + (n : Int) - a).toNat = n := by omega
  have e3 : (a + (n : Int) + 1 + (m : Int) - (a + (n : Int) + 1)).toNat = m := by omega
  rw [e1, e2, e3, List.range_add, List.map_append, List.range_succ_eq_map]
  simp only [List.map_map, List.map_cons]
  congr 1
  congr 1
  · simp
    intro x _
    omega
theorem mem_rgD {a l : Int} {x : D} (h : x ∈ rgD a l) : ∃ i : Int, x = .int i ∧ a ≤ i ∧ i < l := by
  unfold rgD at h
  obtain ⟨n, h1, rfl⟩ := List.mem_map.mp h
  rw [List.mem_range] at h1
  exact ⟨_, rfl, by omega, by omega⟩
section
variable {P : Prg} {W : Nat}
theorem rg1_k (N : Nat) (hN : N ≤ 10000) {C : Cl} {ρ : Env} {S : Store} : evi C (.rg1 (.k (.int (N : Int)))) ρ S = .ok (rgD 0 N) S := by
  rw [s_rg1]
  have q := rg_c hN
  simp -implicitDefEqProofs
  exact q
/-- the loop over drawn turns, and True behind it -/
theorem turns_ok {f : Nat} {fn : Fn} {N c L : Nat} {bd : Sm} (e : P f = some fn) (hk : fn.keep = false) (hp : fn.ps.length = 1) (hn : fn.ns.length = L) (hL : 1 < L) (hN : N ≤ 1000) (hc : c ≤ 1000)
    (hb : fn.body = .cons (.forr (.v 1) (.rg1 (.k (.int N))) bd) (.cons (.ret (.k (.bl true))) .nil)) (k base : Nat) (S : Store) (b : Nat) (bx : Box S b 0)
    (step : ∀ (g : Nat → Option D) (S' : Store) (Z : Nat), g 0 = some (.loc b) → S'.length = S.length → Box S' b Z → Z < 2 ^ 50 →
      ∃ ρ' S2, evS (cl P W k S.length) bd ((List.range L).map g) S' = .nx ρ' S2 ∧ ρ'.length = L ∧ ρ'.getD 0 none = some (.loc b) ∧ S2.length = S'.length ∧ Box S2 b (Z + c) ∧ ∀ m, m ≠ b → S2[m]? = S'[m]?) :
    ∃ S', run P isi0 W (k + 1) base f [.loc b] S = .ok (.bl true) S' ∧ S'.length = S.length ∧ ∀ m, m ≠ b → S'[m]? = S[m]? := by
  rw [run_nk e hk (show [D.loc b].length = _ from hp.symm), hb, hn]
  obtain ⟨ρ', S', e1, hρ, _, l1, bx1, m1⟩ := forGo_inv (b := evS (cl P W k S.length) bd) (t := .v 1)
    (fun i ρ S' => ρ.length = L ∧ ρ.getD 0 none = some (.loc b) ∧ S'.length = S.length ∧ (i ≤ N → Box S' b (c * i)) ∧ ∀ m, m ≠ b → S'[m]? = S[m]?)
    (rgD 0 N) 0 (startD L [.loc b]) S ⟨by simp [startD]; omega, by simp [startD], rfl, fun _ => bx, fun _ _ => rfl⟩ (by
      rintro j x ρ S1 hx ⟨h1, h2, h3, h4, h5⟩
      have hj : j < N := by
        have := (List.getElem?_eq_some_iff.mp hx).1
        simpa [rgD] using this
      refine ⟨ρ.set 1 (some x), rfl, ?_⟩
      obtain ⟨g, q1, q2⟩ := env_of L (ρ.set 1 (some x)) (by simpa using h1)
      have q0 : g 0 = some (.loc b) := by
        rw [q2, ← h2]
        simp [List.getD_eq_getElem?_getD, List.getElem?_set]
      have hz : c * (0 + j) < 2 ^ 50 := by
        have : c * (0 + j) ≤ 1000 * 1000 := Nat.mul_le_mul hc (by omega)
        omega
      obtain ⟨ρ', S2, r1, r2, r3, r4, r5, r6⟩ := step g S1 (c * (0 + j)) q0 h3 (h4 (by omega)) hz
      refine ⟨ρ', S2, by rw [q1]; exact r1, r2, r3, by omega, fun _ => ?_, fun m hm => by rw [r6 m hm, h5 m hm]⟩
      rw [show c * (0 + j + 1) = c * (0 + j) + c by rw [Nat.mul_add, Nat.mul_one]]
      exact r5)
  refine ⟨S', ?_, l1, m1⟩
  have hev : evi (cl P W k S.length) (.rg1 (.k (.int (N : Int)))) (startD L [.loc b]) S = .ok (rgD 0 N) S := rg1_k N (by omega)
  generalize startD L [.loc b] = ρ0 at hev e1
  generalize rgD 0 (N : Int) = xs at hev e1
  rw [s_seq, s_for, hev, s_then, e1]
  exact endC_rt2 rfl l1
end
end EV
/-! PLr: tidy, part_by, of_reaches, of_starts, brackets. -/
namespace EV
open L2 PySem
/-- tidy -/
def F_tidy (i_tidy : Nat) : Fn := { name := "tidy", ps := ["thing"], ns := ["thing", "part"], body := (.cons (.ite (.isi (.v 0) [.ty "list", .ty "tuple"]) (.cons (.ret (.pr .tuple (.cons (.lc (.v 1) [1] (.it (.v 0)) .yes (.cal i_tidy (.cons (.v 1) .nil))) .nil))) .nil) .nil) (.cons (.ret (.v 0)) .nil)) }
/-- brackets -/
def F_brackets (i_spans : Nat) : Fn := { name := "brackets", ps := ["grouping"], ns := ["grouping", "first", "join", "last"], body := (.cons (.ret (.pr .tuple (.cons (.pr .sorted (.cons (.lc (.t (.cons (.v 1) (.cons (.v 2) (.cons (.v 3) .nil)))) [1, 2, 3] (.it (.cal i_spans (.cons (.v 0) .nil))) .yes (.tu (.cons (.v 1) (.cons (.v 3) .nil)))) .nil)) .nil))) .nil) }
/-- part_by -/
def F_part_by (i_part_by : Nat) : Fn := { name := "part_by", ps := ["rows", "first", "last"], ns := ["rows", "first", "last", "join", "place"], body := (.cons (.ite (.cm .eq (.v 1) (.v 2)) (.cons (.ret (.v 1)) .nil) .nil) (.cons (.set 3 (.ix (.lc (.v 4) [4] (.rg2 (.v 1) (.v 2)) (.cm .ge (.ix (.v 0) (.bi .sub (.v 4) (.k (.int 1)))) (.v 2)) (.v 4)) (.k (.int 0)))) (.cons (.ret (.tu (.cons (.cal i_part_by (.cons (.v 0) (.cons (.v 1) (.cons (.v 3) .nil)))) (.cons (.cal i_part_by (.cons (.v 0) (.cons (.bi .add (.v 3) (.k (.int 1))) (.cons (.v 2) .nil)))) .nil)))) .nil))) }
/-- of_reaches -/
def F_of_reaches (i_part_by i_tidy : Nat) : Fn := { name := "of_reaches", ps := ["rows"], ns := ["rows"], body := (.cons (.ret (.cal i_part_by (.cons (.cal i_tidy (.cons (.v 0) .nil)) (.cons (.k (.int 1)) (.cons (.bi .add (.pr .len (.cons (.v 0) .nil)) (.k (.int 1))) .nil))))) .nil) }
/-- of_starts -/
def F_of_starts (i_mirrored i_of_reaches i_tidy : Nat) : Fn := { name := "of_starts", ps := ["rows"], ns := ["rows", "own"], body := (.cons (.ret (.cal i_mirrored (.cons (.cal i_of_reaches (.cons (.lc (.v 1) [1] (.it (.rv (.cal i_tidy (.cons (.v 0) .nil)))) .yes (.bi .sub (.bi .add (.pr .len (.cons (.v 0) .nil)) (.k (.int 2))) (.v 1))) .nil)) .nil))) .nil) }
/-- the reaches of a part -/
def Tr.rch (t : Tr) : List Int := t.spans.map (·.2.2)
def Tr.sts (t : Tr) : List Int := t.spans.map (·.1)
theorem Tr.rch_len (t : Tr) : t.rch.length = t.joins := by rw [Tr.rch, List.length_map, t.spans_len]
theorem Tr.sts_len (t : Tr) : t.sts.length = t.joins := by rw [Tr.sts, List.length_map, t.spans_len]
theorem Tr.rch_nd (a b : Tr) : (Tr.nd a b).rch = a.rch ++ b.lst :: b.rch := by simp [Tr.rch, Tr.spans]
theorem Nm.joins {t : Tr} {a b : Int} (h : Nm t a b) : b = a + t.joins := by
  induction h with
  | lf i => simp [Tr.joins]
  | nd _ _ h1 h2 => simp only [Tr.joins]; omega
theorem Nm.rch_le {t : Tr} {a b : Int} (h : Nm t a b) : ∀ r ∈ t.rch, a + 1 ≤ r ∧ r ≤ b := by
  induction h with
  | lf i => intro r hr; cases hr
  | @nd x y a c b hx hy h1 h2 =>
    have jx := hx.joins
    have jy := hy.joins
    intro r hr
    rw [Tr.rch_nd] at hr
    rcases List.mem_append.mp hr with hr | hr
    · have := h1 r hr; omega
    · rcases List.mem_cons.mp hr with rfl | hr
      · rw [hy.lst]; omega
      · have := h2 r hr; omega
theorem Nm.shift {t : Tr} {a b : Int} (n : Int) (h : Nm t a b) : Nm (t.shift n) (n + 1 - b) (n + 1 - a) := by
  induction h with
  | lf i => exact .lf _
  | @nd x y a c b hx hy h1 h2 =>
    have : n + 1 - (c + 1) + 1 = n + 1 - c := by omega
    refine .nd h2 ?_
    rw [this]
    exact h1
section
variable {P : Prg} {W : Nat}
theorem tidy_lf {f : Nat} (e : P f = some (F_tidy f)) (k b : Nat) (S : Store) (i : Int) : run P isi0 W (k + 1) b f [.int i] S = .ok (.int i) S := by
  rw [run_nk e rfl rfl]
  simp [F_tidy, startD]
  exact endC_rt rfl
theorem tidy_ints {f : Nat} (e : P f = some (F_tidy f)) (k b : Nat) (S : Store) (l : List Int) : run P isi0 W (k + 2) b f [.tup (l.map .int)] S = .ok (.tup (l.map .int)) S ∧ run P isi0 W (k + 2) b f [.lst (l.map .int)] S = .ok (.tup (l.map .int)) S := by
  have q : ∀ d : D, lcGo (ev (cl P W (k + 1) S.length) .yes) (ev (cl P W (k + 1) S.length) (.cal f (.cons (.v 1) .nil))) (.v 1) [1] [some d, none] (l.map .int) [] S = .ok (l.map .int) S := fun d => by
    have := lc_map (c := ev (cl P W (k + 1) S.length) .yes) (e := ev (cl P W (k + 1) S.length) (.cal f (.cons (.v 1) .nil))) (t := .v 1) (vs := [1]) (ρ := [some d, none]) (S := S) (f := fun x => x) (l.map .int) [] (fun x hx => by
      obtain ⟨i, _, rfl⟩ := List.mem_map.mp hx
      refine ⟨[some d, some (.int i)], rfl, rfl, ?_⟩
      simp [dfl_nil e rfl, tidy_lf e])
    rw [List.map_map] at this
    exact this
  refine ⟨?_, ?_⟩
  · rw [run_nk e rfl rfl]
    simp [F_tidy, startD, q, prim]
    exact endC_rt (dI_free l)
  · rw [run_nk e rfl rfl]
    simp [F_tidy, startD, q, prim]
    exact endC_rt (dI_free l)
theorem part_by_ok {f : Nat} (e : P f = some (F_part_by f)) (rs : List Int) (hR : rs.length ≤ 5000) {t : Tr} {a l : Int} (h : Nm t a l) : ∀ (pre post : List Int) (k b : Nat) (S : Store), rs = pre ++ (t.rch ++ post) → (pre.length : Int) + 1 = a → t.joins + 1 ≤ k →
    run P isi0 W k b f [.tup (rs.map .int), .int a, .int l] S = .ok t.d S := by
  induction h with
  | lf i =>
    intro pre post k b S hr hp hk
    obtain ⟨k, rfl⟩ : ∃ m, k = m + 1 := ⟨k - 1, by omega⟩
    rw [run_nk e rfl rfl]
    simp [F_part_by, startD, cop, pyS, D.py, dr, shapedD, PySem.SeqAt.shaped, PyData.eqv, PyData.canLay0, PyData.depth]
    exact endC_rt rfl
  | @nd x y a c l hx hy h1 h2 =>
    intro pre post k b S hr hp hk
    have jx := hx.joins
    have jy := hy.joins
    simp only [Tr.joins] at hk
    obtain ⟨k, rfl⟩ : ∃ m, k = m + 1 := ⟨k - 1, by omega⟩
    rw [Tr.rch_nd, List.append_assoc, List.cons_append] at hr
    have hyl := hy.lst
    rw [hyl] at hr
    have i1 := h1 pre (l :: (y.rch ++ post)) k S.length S hr hp (by omega)
    have i2 := h2 (pre ++ (x.rch ++ [l])) post k S.length S (by rw [hr]; simp) (by simp [Tr.rch_len]; omega) (by omega)
    have hlen : rs.length = pre.length + x.joins + 1 + y.joins + post.length := by rw [hr]; simp [Tr.rch_len]; omega
    -- the item at a place
    have at_ : ∀ i : Int, a ≤ i → i < l → ∃ hn : i.toNat - 1 < rs.length, ∀ S : Store, idx S (.tup (rs.map .int)) (.int (i - 1)) = some (.int rs[i.toNat - 1]) := fun i h1 h2 => by
      have hn : i.toNat - 1 < rs.length := by omega
      refine ⟨hn, fun S => ?_⟩
      have := (ix_ints (S := S) rs (i.toNat - 1) hn).1
      rwa [show ((i.toNat - 1 : Nat) : Int) = i - 1 by omega] at this
    have lc := lc_filter (c := ev (cl P W k S.length) (.cm .ge (.ix (.v 0) (.bi .sub (.v 4) (.k (.int 1)))) (.v 2))) (e := ev (cl P W k S.length) (.v 4)) (t := .v 4) (vs := [4]) (ρ := [some (.tup (rs.map .int)), some (.int a), some (.int l), none, none]) (S := S) (f := fun x => x)
      (p := fun x => match x with | .int i => decide (l ≤ rs[i.toNat - 1]?.getD 0) | _ => false) (rgD a l) [] (fun z hz => by
        obtain ⟨i, rfl, b1, b2⟩ := mem_rgD hz
        obtain ⟨hn, hi⟩ := at_ i b1 b2
        refine ⟨[some (.tup (rs.map .int)), some (.int a), some (.int l), none, some (.int i)], rfl, ?_, fun _ => rfl⟩
        simp [hi, cop, hn])
    have f1 : (rgD a c).filter (fun x => match x with | .int i => decide (l ≤ rs[i.toNat - 1]?.getD 0) | _ => false) = [] := by
      refine List.filter_eq_nil_iff.mpr fun z hz => ?_
      obtain ⟨i, rfl, b1, b2⟩ := mem_rgD hz
      have hl := x.rch_len
      have hj : i.toNat - 1 - pre.length < x.rch.length := by omega
      have q : rs[i.toNat - 1]? = some x.rch[i.toNat - 1 - pre.length] := by
        rw [hr, List.getElem?_append_right (by omega), List.getElem?_append_left hj, List.getElem?_eq_getElem hj]
      have := (hx.rch_le _ (List.getElem_mem hj)).2
      simp only [q, Option.getD_some, decide_eq_true_eq]
      omega
    have f2 : rs[c.toNat - 1]? = some l := by
      have hl := x.rch_len
      rw [hr, List.getElem?_append_right (by omega), List.getElem?_append_right (by omega), show c.toNat - 1 - pre.length - x.rch.length = 0 by omega]
      rfl
    rw [rgD_split a c l (by omega) (by omega), List.filter_append, f1, List.nil_append, List.filter_cons, if_pos (by simp only [f2, Option.getD_some]; exact decide_eq_true (Int.le_refl _)), List.map_cons, List.reverse_nil, List.nil_append, ← rgD_split a c l (by omega) (by omega)] at lc
    rw [run_nk e rfl rfl]
    have ne : cop .eq S (.int a) (.int l) = some false := by
      simp [cop, pyS, D.py, dr, shapedD, PySem.SeqAt.shaped, PyData.eqv, PyData.canLay0, PyData.depth]
      omega
    have rg : ∀ ρ : Env, ρ.getD 1 none = some (.int a) → ρ.getD 2 none = some (.int l) → evi (cl P W k S.length) (.rg2 (.v 1) (.v 2)) ρ S = .ok (rgD a l) S := fun ρ r1 r2 => by
      rw [s_rg2]
      simp only [s_v, r1, r2, s_of, s_bind]
      have hc : (small62 a && small62 l && decide (l - a ≤ lim)) = true := by
        have h1 := rg_c (show a.toNat ≤ 10000 by omega)
        have h2 := rg_c (show l.toNat ≤ 10000 by omega)
        have h3 := rg_c (show (l - a).toNat ≤ 10000 by omega)
        rw [show ((a.toNat : Nat) : Int) = a by omega] at h1
        rw [show ((l.toNat : Nat) : Int) = l by omega] at h2
        rw [h1.1, h2.1]
        simp only [Bool.true_and, decide_eq_true_eq]
        have := h3.2
        omega
      rw [if_pos hc]
    have rg0 := rg [some (.tup (rs.map .int)), some (.int a), some (.int l), none, none] rfl rfl
    generalize rgD a l = zs at rg0 lc
    generalize rs.map D.int = RR at rg0 lc i1 i2
    simp -implicitDefEqProofs [F_part_by, startD, ne, rg0, lc, dfl_nil e rfl, i1, i2, idx, atI, ixN]
    exact endC_rt (Tr.isd (Tr.nd x y)).free
theorem of_reaches_ok {i_p i_t f : Nat} (e : P i_t = some (F_tidy i_t)) (e1 : P i_p = some (F_part_by i_p)) (e2 : P f = some (F_of_reaches i_p i_t)) {t : Tr} {n : Int} (h : Nm t 1 n) (hj : t.joins ≤ 4000) (k b : Nat) (S : Store) (hk : t.joins + 3 ≤ k) :
    run P isi0 W k b f [.tup (t.rch.map .int)] S = .ok t.d S ∧ run P isi0 W k b f [.lst (t.rch.map .int)] S = .ok t.d S := by
  obtain ⟨k, rfl⟩ : ∃ m, k = m + 3 := ⟨k - 3, by omega⟩
  have jn := h.joins
  have hl := t.rch_len
  have ti := tidy_ints (W := W) e k S.length S t.rch
  have pb := part_by_ok (W := W) e1 t.rch (by omega) h [] [] (k + 2) S.length S (by simp) rfl (by omega)
  have hn : ((t.rch.map D.int).length : Int) + 1 = n := by simp [hl]; omega
  generalize t.rch.map D.int = l at ti pb hn
  refine ⟨?_, ?_⟩
  · rw [run_nk e2 rfl rfl]
    simp [F_of_reaches, startD, dfl_nil e rfl, dfl_nil e1 rfl, ti.1, hn, pb]
    exact endC_rt t.isd.free
  · rw [run_nk e2 rfl rfl]
    simp [F_of_reaches, startD, dfl_nil e rfl, dfl_nil e1 rfl, ti.2, hn, pb]
    exact endC_rt t.isd.free
theorem Tr.shift_rch (n : Int) (t : Tr) : (t.shift n).rch = t.sts.reverse.map fun i => n + 1 - i := Tr.shift_third n t
theorem of_starts_ok {i_n i_e i_f i_sh i_m i_p i_t i_o f : Nat} (eN : P i_n = some F_is_number) (eE : P i_e = some (F_ends i_n)) (eF : P i_f = some (F_factors_in i_e)) (eS : P i_sh = some (F_shifted i_sh i_n)) (eM : P i_m = some (F_mirrored i_sh i_f))
    (e : P i_t = some (F_tidy i_t)) (e1 : P i_p = some (F_part_by i_p)) (e2 : P i_o = some (F_of_reaches i_p i_t)) (e3 : P f = some (F_of_starts i_m i_o i_t)) {t : Tr} {n : Int} (h : Nm t 1 n) (hj : t.joins ≤ 4000) (hw : t.joins < W) (k b : Nat) (S : Store) (hk : t.joins + 5 ≤ k) :
    run P isi0 W k b f [.tup (t.sts.map .int)] S = .ok t.d S ∧ run P isi0 W k b f [.lst (t.sts.map .int)] S = .ok t.d S := by
  obtain ⟨k, rfl⟩ : ∃ m, k = m + 5 := ⟨k - 5, by omega⟩
  have jn := h.joins
  have hl := t.sts_len
  have sj := t.shift_joins n
  have hs := h.shift n
  rw [show n + 1 - n = 1 by omega, show n + 1 - 1 = n by omega] at hs
  have ti := tidy_ints (W := W) e (k + 2) S.length S t.sts
  have orr := (of_reaches_ok (W := W) e e1 e2 hs (by omega) (k + 4) S.length S (by omega)).2
  have mi := mirrored_ok (W := W) eN eE eF eS eM (t.shift n).isd (k + 4) S.length S (by omega) (by omega)
  rw [Tr.shift_lst, h.fst, show n + 1 - 1 = n by omega, Tr.shift_shift] at mi
  rw [Tr.shift_rch] at orr
  have lc : ∀ (d : D) (m : Nat), prim .len S [d] = some (.int m) → (m : Int) + 2 = n + 1 → lcGo (ev (cl P W (k + 4) S.length) .yes) (ev (cl P W (k + 4) S.length) (.bi .sub (.bi .add (.pr .len (.cons (.v 0) .nil)) (.k (.int 2))) (.v 1))) (.v 1) [1] [some d, none] (t.sts.map .int).reverse [] S = .ok ((t.sts.reverse.map fun i => n + 1 - i).map .int) S := by
    intro d m hm hmn
    rw [← List.map_reverse]
    rw [lc_map (f := fun x => match x with | .int i => .int (n + 1 - i) | _ => .non) (t.sts.reverse.map .int) [] (fun x hx => by
      obtain ⟨i, _, rfl⟩ := List.mem_map.mp hx
      refine ⟨[some d, some (.int i)], rfl, rfl, ?_⟩
      simp [hm, hmn])]
    rw [List.reverse_nil, List.nil_append, List.map_map, List.map_map]
    rfl
  have hlen : ((t.sts.map D.int).length : Int) + 2 = n + 1 := by simp [hl]; omega
  have lc1 := lc (.tup (t.sts.map .int)) _ rfl hlen
  have lc2 := lc (.lst (t.sts.map .int)) _ rfl hlen
  clear lc
  generalize (t.sts.reverse.map fun i => n + 1 - i).map D.int = l2 at lc1 lc2 orr
  generalize t.sts.map D.int = l at ti lc1 lc2
  refine ⟨?_, ?_⟩
  · rw [run_nk e3 rfl rfl]
    simp [F_of_starts, startD, dfl_nil e rfl, dfl_nil e2 rfl, dfl_nil eM rfl, ti.1, rvs, lc1, orr, mi]
    exact endC_rt t.isd.free
  · rw [run_nk e3 rfl rfl]
    simp [F_of_starts, startD, dfl_nil e rfl, dfl_nil e2 rfl, dfl_nil eM rfl, ti.2, rvs, lc2, orr, mi]
    exact endC_rt t.isd.free
theorem intsD_dI : ∀ ns : List Int, intsD (dI ns) = some ns
  | [] => rfl
  | n :: ns => by show (intsD (dI ns)).map (n :: ·) = _; rw [intsD_dI ns]; rfl
theorem rowsD_dR : ∀ ls : List (List Int), rowsD (dR ls) = some ls
  | [] => rfl
  | l :: ls => by
    show (match intsD (dI l), rowsD (dR ls) with | some ns, some l => some (ns :: l) | _, _ => none) = _
    rw [intsD_dI, rowsD_dR ls]
theorem sorted_dR {S : Store} (ls : List (List Int)) (h : ∀ l ∈ ls, l.length = 2) : prim .sorted S [.lst (dR ls)] = some (.lst (dR (sortT ls))) := by
  cases ls with
  | nil => rfl
  | cons l ls =>
    have q : (l :: ls).all (fun l => l.length == 2) = true := List.all_eq_true.mpr fun x hx => by simp [h x hx]
    have q1 : intsD (dR (l :: ls)) = none := rfl
    have q2 := rowsD_dR (l :: ls)
    generalize l :: ls = rs at *
    unfold prim
    simp only [s_drl, q1, q2, q, if_true]
theorem dR_free : ∀ ls : List (List Int), frees (dR ls) = true
  | [] => rfl
  | l :: ls => by
    show (frees (l.map D.int) && frees (dR ls)) = true
    rw [dI_free, dR_free ls]
    rfl
/-- the brackets, ascending -/
def Tr.brk (t : Tr) : List (List Int) := sortT (t.spans.map fun x => [x.1, x.2.2])
theorem brk_l (t : Tr) : t.spans.map (fun x => D.tup [.int x.1, .int x.2.2]) = dR (t.spans.map fun x => [x.1, x.2.2]) := by
  unfold dR
  rw [List.map_map]
  rfl
theorem brk_s {S : Store} (t : Tr) : prim .sorted S [.lst (t.spans.map fun x => D.tup [.int x.1, .int x.2.2])] = some (.lst (dR t.brk)) := by
  rw [brk_l]
  exact sorted_dR _ fun l hl => by
    obtain ⟨x, _, rfl⟩ := List.mem_map.mp hl
    rfl
theorem brackets_ok {i_n i_e i_s f : Nat} (e : P i_n = some F_is_number) (e2 : P i_e = some (F_ends i_n)) (e3 : P i_s = some (F_spans i_e i_s i_n)) (e4 : P f = some (F_brackets i_s)) {t : Tr} {d : D} (h : IsG t d) (k b : Nat) (S : Store) (hw : t.joins < W) (hl : t.joins < 10000) (hk : t.joins + 4 ≤ k) :
    run P isi0 W k b f [d] S = .ok (.tup (dR t.brk)) S := by
  obtain ⟨k, rfl⟩ : ∃ m, k = m + 1 := ⟨k - 1, by omega⟩
  rw [run_nk e4 rfl rfl]
  have sp_ := spans_ok e e2 e3 h k S.length S hw hl (by omega)
  have q := lc_map (c := ev (cl P W k S.length) .yes) (e := ev (cl P W k S.length) (.tu (.cons (.v 1) (.cons (.v 3) .nil)))) (t := .t (.cons (.v 1) (.cons (.v 2) (.cons (.v 3) .nil)))) (vs := [1, 2, 3]) (ρ := [some d, none, none, none]) (S := S) (f := fun x => match x with | .tup [y, _, z] => .tup [y, z] | _ => .non) (t.spans.map sp) [] (fun x hx => by
    obtain ⟨y, _, rfl⟩ := List.mem_map.mp hx
    exact ⟨[some d, some (.int y.1), some (.int y.2.1), some (.int y.2.2)], rfl, rfl, rfl⟩)
  rw [List.reverse_nil, List.nil_append, List.map_map] at q
  have q2 : t.spans.map ((fun x => match x with | .tup [y, _, z] => .tup [y, z] | _ => D.non) ∘ sp) = t.spans.map fun x => D.tup [.int x.1, .int x.2.2] := List.map_congr_left fun x _ => rfl
  rw [q2] at q
  have bs := brk_s (S := S) t
  generalize t.spans.map (fun x => D.tup [.int x.1, .int x.2.2]) = l at q bs
  simp [F_brackets, startD, dfl_nil e3 rfl, sp_, q, bs]
  exact endC_rt (dR_free _)
end
end EV
/-! PLo: calls known ahead, for quick reckoning. -/
namespace EV
open L2 PySem
def trF : Nat → D → Option Tr
  | 0, _ => none
  | n + 1, d => match d with
    | .int i => some (.lf i)
    | .tup [a, b] => (trF n a).bind fun x => (trF n b).map fun y => .nd x y
    | .lst [a, b] => (trF n a).bind fun x => (trF n b).map fun y => .nd x y
    | _ => none
theorem trF_ok : ∀ {n : Nat} {d : D} {t : Tr}, trF n d = some t → IsG t d
  | 0, _, _, h => by cases h
  | n + 1, d, t, h => by
    unfold trF at h
    split at h
    · cases h; exact .lf _
    · simp only [Option.bind_eq_some_iff, Option.map_eq_some_iff] at h
      obtain ⟨x, hx, y, hy, rfl⟩ := h
      exact .tup (trF_ok hx) (trF_ok hy)
    · simp only [Option.bind_eq_some_iff, Option.map_eq_some_iff] at h
      obtain ⟨x, hx, y, hy, rfl⟩ := h
      exact .lst (trF_ok hx) (trF_ok hy)
    · cases h
/-- of tuples alone -/
def trT : Nat → D → Option Tr
  | 0, _ => none
  | n + 1, d => match d with
    | .int i => some (.lf i)
    | .tup [a, b] => (trT n a).bind fun x => (trT n b).map fun y => .nd x y
    | _ => none
theorem trT_ok : ∀ {n : Nat} {d : D} {t : Tr}, trT n d = some t → d = t.d
  | 0, _, _, h => by cases h
  | n + 1, d, t, h => by
    unfold trT at h
    split at h
    · cases h; rfl
    · simp only [Option.bind_eq_some_iff, Option.map_eq_some_iff] at h
      obtain ⟨x, hx, y, hy, rfl⟩ := h
      rw [trT_ok hx, trT_ok hy]
      rfl
    · cases h
/-- an override of a call by a grouping -/
def ovG (c : Nat) (W : Nat) (g : Tr → D) : Nat → List D → Option D := fun k ds => match ds with
  | [d] => (match trF 70 d with
    | some t => if t.joins + c ≤ k && decide (t.joins < W) && decide (t.joins < 5000) && decide (t.dep < W) then some (g t) else none
    | none => none)
  | _ => none
theorem ovG_ok {c W k : Nat} {g : Tr → D} {ds : List D} {r : D} (h : ovG c W g k ds = some r) : ∃ t d, ds = [d] ∧ IsG t d ∧ r = g t ∧ t.joins + c ≤ k ∧ t.joins < W ∧ t.joins < 5000 ∧ t.dep < W := by
  match ds, h with
  | [d], h =>
    cases e : trF 70 d with
    | none =>
      simp only [ovG, e] at h
      cases h
    | some t =>
      simp only [ovG, e] at h
      split at h
      · rename_i q
        simp only [Bool.and_eq_true, decide_eq_true_eq] at q
        cases h
        exact ⟨t, d, rfl, trF_ok e, rfl, q.1.1.1, q.1.1.2, q.1.2, q.2⟩
      · cases h
  | [], h => cases h
  | _ :: _ :: _, h => cases h
def ovT (c : Nat) (W : Nat) (g : Tr → D) : Nat → List D → Option D := fun k ds => match ds with
  | [d] => (match trT 70 d with
    | some t => if t.joins + c ≤ k && decide (t.joins < W) && decide (t.joins < 5000) && decide (t.dep < W) then some (g t) else none
    | none => none)
  | _ => none
theorem ovT_ok {c W k : Nat} {g : Tr → D} {ds : List D} {r : D} (h : ovT c W g k ds = some r) : ∃ t, ds = [t.d] ∧ r = g t ∧ t.joins + c ≤ k ∧ t.joins < W ∧ t.joins < 5000 ∧ t.dep < W := by
  match ds, h with
  | [d], h =>
    cases e : trT 70 d with
    | none =>
      simp only [ovT, e] at h
      cases h
    | some t =>
      simp only [ovT, e] at h
      split at h
      · rename_i q
        simp only [Bool.and_eq_true, decide_eq_true_eq] at q
        cases h
        exact ⟨t, by rw [trT_ok e], rfl, q.1.1.1, q.1.1.2, q.1.2, q.2⟩
      · cases h
  | [], h => cases h
  | _ :: _ :: _, h => cases h
def noOv : OvF := fun _ _ _ => none
theorem noOv_ok {P : Prg} {W : Nat} : OvOk noOv P isi0 W := fun _ _ _ _ h => by cases h
/-- one more -/
def ovc (i : Nat) (g : Nat → List D → Option D) (r : OvF) : OvF := fun k f ds => if f = i then g k ds else r k f ds
theorem ovc_ok {P : Prg} {W i : Nat} {g : Nat → List D → Option D} {r : OvF} (h : ∀ k ds d, g k ds = some d → ∀ b S, run P isi0 W (k + 1) b i ds S = .ok d S) (hr : OvOk r P isi0 W) : OvOk (ovc i g r) P isi0 W := by
  intro k f ds d e b S
  unfold ovc at e
  split at e
  · rename_i q
    subst q
    exact h k ds d e b S
  · exact hr k f ds d e b S
section
variable {P : Prg} {W : Nat}
def gReaches (t : Tr) : D := .tup (t.rch.map .int)
def gStarts (t : Tr) : D := .tup (t.sts.map .int)
theorem ov_reaches {i_n i_e i_s f : Nat} (e : P i_n = some F_is_number) (e2 : P i_e = some (F_ends i_n)) (e3 : P i_s = some (F_spans i_e i_s i_n)) (e4 : P f = some (F_reaches i_s)) : ∀ k ds d, ovG 3 W gReaches k ds = some d → ∀ b S, run P isi0 W (k + 1) b f ds S = .ok d S := by
  intro k ds d h b S
  obtain ⟨t, x, rfl, gt, rfl, h1, h2, h3, _⟩ := ovG_ok h
  exact reaches_ok e e2 e3 e4 gt (k + 1) b S h2 (by omega) (by omega)
theorem ov_starts {i_n i_e i_s f : Nat} (e : P i_n = some F_is_number) (e2 : P i_e = some (F_ends i_n)) (e3 : P i_s = some (F_spans i_e i_s i_n)) (e4 : P f = some (F_starts i_s)) : ∀ k ds d, ovG 3 W gStarts k ds = some d → ∀ b S, run P isi0 W (k + 1) b f ds S = .ok d S := by
  intro k ds d h b S
  obtain ⟨t, x, rfl, gt, rfl, h1, h2, h3, _⟩ := ovG_ok h
  exact starts_ok e e2 e3 e4 gt (k + 1) b S h2 (by omega) (by omega)
theorem ov_arms {i_e i_p f : Nat} (e : P i_e = some F_law_ends) (e2 : P i_p = some (F_law_pairs i_p i_e)) (e3 : P f = some (F_law_arms i_p)) : ∀ k ds d, ovT 2 W gReaches k ds = some d → ∀ b S, run P isi0 W (k + 1) b f ds S = .ok d S := by
  intro k ds d h b S
  obtain ⟨t, rfl, rfl, h1, h2, h3, _⟩ := ovT_ok h
  exact arms_ok e e2 e3 t (k + 1) b S h2 (by omega) (by omega)
theorem ov_tails {i_e i_p f : Nat} (e : P i_e = some F_law_ends) (e2 : P i_p = some (F_law_pairs i_p i_e)) (e3 : P f = some (F_law_tails i_p)) : ∀ k ds d, ovT 2 W gStarts k ds = some d → ∀ b S, run P isi0 W (k + 1) b f ds S = .ok d S := by
  intro k ds d h b S
  obtain ⟨t, rfl, rfl, h1, h2, h3, _⟩ := ovT_ok h
  exact tails_ok e e2 e3 t (k + 1) b S h2 (by omega) (by omega)
end
end EV
/-! PLn: the numbers of groupings; spec functions with guards: where they give a number, the defs give it. -/
namespace EV
open L2 PySem
/-- chosen -/
def F_chosen : Fn := { name := "chosen", ps := ["many", "few"], ns := ["many", "few", "found", "step"], body := (.cons (.set 2 (.ite (.cm2 .le .le (.k (.int 0)) (.v 1) (.v 0)) (.k (.int 1)) (.k (.int 0)))) (.cons (.forr (.v 3) (.rg1 (.v 1)) (.cons (.set 2 (.bi .fdiv (.bi .mul (.v 2) (.bi .sub (.v 0) (.v 3))) (.bi .add (.v 3) (.k (.int 1))))) .nil)) (.cons (.ret (.v 2)) .nil))) }
/-- product -/
def F_product : Fn := { name := "product", ps := ["high"], ns := ["high", "found", "number"], body := (.cons (.set 1 (.k (.int 1))) (.cons (.forr (.v 2) (.rg2 (.k (.int 2)) (.bi .add (.v 0) (.k (.int 1)))) (.cons (.aug 1 .mul (.v 2)) .nil)) (.cons (.ret (.v 1)) .nil))) }
/-- with_joins -/
def F_with_joins (i_chosen : Nat) : Fn := { name := "with_joins", ps := ["joins"], ns := ["joins"], body := (.cons (.ret (.bi .fdiv (.cal i_chosen (.cons (.bi .mul (.k (.int 2)) (.v 0)) (.cons (.v 0) .nil))) (.bi .add (.v 0) (.k (.int 1))))) .nil) }
/-- how_many -/
def F_how_many (i_with_joins : Nat) : Fn := { name := "how_many", ps := ["factors"], ns := ["factors"], body := (.cons (.ret (.cal i_with_joins (.cons (.bi .sub (.v 0) (.k (.int 1))) .nil))) .nil) }
/-- with_first_reach -/
def F_with_first_reach (i_with_joins : Nat) : Fn := { name := "with_first_reach", ps := ["factors", "goal"], ns := ["factors", "goal"], body := (.cons (.ret (.ite (.cm2 .le .le (.k (.int 2)) (.v 1) (.v 0)) (.bi .mul (.cal i_with_joins (.cons (.bi .sub (.v 1) (.k (.int 2))) .nil)) (.cal i_with_joins (.cons (.bi .sub (.v 0) (.v 1)) .nil))) (.k (.int 0)))) .nil) }
/-- with_last_join -/
def F_with_last_join (i_with_joins : Nat) : Fn := { name := "with_last_join", ps := ["factors", "join"], ns := ["factors", "join"], body := (.cons (.ret (.ite (.cm2 .le .lt (.k (.int 1)) (.v 1) (.v 0)) (.bi .mul (.cal i_with_joins (.cons (.bi .sub (.v 1) (.k (.int 1))) .nil)) (.cal i_with_joins (.cons (.bi .sub (.bi .sub (.v 0) (.v 1)) (.k (.int 1))) .nil))) (.k (.int 0)))) .nil) }
/-- with_one_bracket -/
def F_with_one_bracket (i_with_joins : Nat) : Fn := { name := "with_one_bracket", ps := ["factors", "first", "last"], ns := ["factors", "first", "last"], body := (.cons (.ite (.un .not (.cm3 .le .lt .le (.k (.int 1)) (.v 1) (.v 2) (.v 0))) (.cons (.ret (.k (.int 0))) .nil) .nil) (.cons (.ret (.bi .mul (.cal i_with_joins (.cons (.bi .sub (.v 2) (.v 1)) .nil)) (.cal i_with_joins (.cons (.bi .add (.bi .sub (.bi .sub (.v 0) (.k (.int 1))) (.v 2)) (.v 1)) .nil)))) .nil)) }
/-- with_open_joins -/
def F_with_open_joins (i_chosen : Nat) : Fn := { name := "with_open_joins", ps := ["factors", "many"], ns := ["factors", "many", "joins"], body := (.cons (.set 2 (.bi .sub (.v 0) (.k (.int 1)))) (.cons (.ite (.cm .eq (.v 2) (.k (.int 0))) (.cons (.ret (.ite (.cm .eq (.v 1) (.k (.int 0))) (.k (.int 1)) (.k (.int 0)))) .nil) .nil) (.cons (.ret (.ite (.cm2 .le .lt (.k (.int 0)) (.v 1) (.v 2)) (.bi .fdiv (.bi .mul (.cal i_chosen (.cons (.v 2) (.cons (.bi .add (.v 1) (.k (.int 1))) .nil))) (.cal i_chosen (.cons (.v 2) (.cons (.v 1) .nil)))) (.v 2)) (.k (.int 0)))) .nil))) }
/-- with_joins_from_one -/
def F_with_joins_from_one (i_chosen : Nat) : Fn := { name := "with_joins_from_one", ps := ["factors", "many"], ns := ["factors", "many", "joins", "twice"], body := (.cons (.set 2 (.bi .sub (.v 0) (.k (.int 1)))) (.cons (.ite (.cm .eq (.v 2) (.k (.int 0))) (.cons (.ret (.ite (.cm .eq (.v 1) (.k (.int 0))) (.k (.int 1)) (.k (.int 0)))) .nil) .nil) (.cons (.set 3 (.bi .sub (.bi .mul (.k (.int 2)) (.v 2)) (.v 1))) (.cons (.ret (.ite (.cm2 .le .le (.k (.int 1)) (.v 1) (.v 2)) (.bi .fdiv (.bi .mul (.v 1) (.cal i_chosen (.cons (.v 3) (.cons (.v 2) .nil)))) (.v 3)) (.k (.int 0)))) .nil)))) }
/-- steps_in_all -/
def F_steps_in_all (i_how_many : Nat) : Fn := { name := "steps_in_all", ps := ["factors"], ns := ["factors"], body := (.cons (.ret (.ite (.cm .gt (.v 0) (.k (.int 1))) (.bi .fdiv (.bi .mul (.bi .sub (.v 0) (.k (.int 2))) (.cal i_how_many (.cons (.v 0) .nil))) (.k (.int 2))) (.k (.int 0)))) .nil) }
/-- leading_pairs -/
def F_leading_pairs (i_product : Nat) : Fn := { name := "leading_pairs", ps := ["factors"], ns := ["factors", "joins"], body := (.cons (.set 1 (.bi .sub (.v 0) (.k (.int 1)))) (.cons (.ret (.bi .fdiv (.bi .mul (.k (.int 2)) (.cal i_product (.cons (.bi .add (.bi .mul (.k (.int 4)) (.v 1)) (.k (.int 1))) .nil))) (.bi .mul (.cal i_product (.cons (.bi .add (.v 1) (.k (.int 1))) .nil)) (.cal i_product (.cons (.bi .add (.bi .mul (.k (.int 3)) (.v 1)) (.k (.int 2))) .nil))))) .nil)) }
/-- _law_all -/
def F_law_all : Fn := { name := "_law_all", ps := ["_law_size_so"], ns := ["_law_size_so", "_law_much", "_law_k"], body := (.cons (.set 1 (.k (.int 1))) (.cons (.forr (.v 2) (.rg2 (.k (.int 1)) (.v 0)) (.cons (.set 1 (.bi .fdiv (.bi .mul (.bi .mul (.v 1) (.k (.int 2))) (.bi .sub (.bi .mul (.k (.int 2)) (.v 2)) (.k (.int 1)))) (.bi .add (.v 2) (.k (.int 1))))) .nil)) (.cons (.ret (.v 1)) .nil))) }
/-- _law_pairs_in_all -/
def F_law_pairs_in_all : Fn := { name := "_law_pairs_in_all", ps := ["_law_size_so"], ns := ["_law_size_so", "_law_much", "_law_by", "_law_k"], body := (.cons (.asg (.t (.cons (.v 1) (.cons (.v 2) .nil))) (.tu (.cons (.k (.int 2)) (.cons (.k (.int 1)) .nil)))) (.cons (.forr (.v 3) (.rg2 (.k (.int 1)) (.bi .sub (.bi .mul (.k (.int 4)) (.v 0)) (.k (.int 2)))) (.cons (.set 1 (.bi .mul (.v 1) (.v 3))) .nil)) (.cons (.forr (.v 3) (.it (.bi .add (.rgl false (.k (.int 1)) (.bi .add (.v 0) (.k (.int 1)))) (.rgl false (.k (.int 1)) (.bi .mul (.k (.int 3)) (.v 0))))) (.cons (.set 2 (.bi .mul (.v 2) (.v 3))) .nil)) (.cons (.ret (.bi .fdiv (.v 1) (.v 2))) .nil)))) }
def mulO (i j : Int) : Option Int := if i.natAbs.log2 + j.natAbs.log2 < 100000 then some (i * j) else none
def divO (i j : Int) : Option Int := if 0 < j ∧ j.natAbs.log2 < 9000 then some (i / j) else none
theorem mulO_ok {i j x : Int} (h : mulO i j = some x) : mulOk i j = true ∧ x = i * j := by
  unfold mulO at h
  split at h
  · rename_i hl
    cases h
    refine ⟨?_, rfl⟩
    unfold mulOk
    rw [decide_eq_true (show i.natAbs.log2 + j.natAbs.log2 < 1000000 by omega)]
    simp
  · cases h
theorem divO_ok {i j x : Int} (h : divO i j = some x) : (0 < j ∧ j.natAbs.log2 < 9000) ∧ x = i / j := by
  unfold divO at h
  split at h
  · rename_i hl
    cases h
    exact ⟨hl, rfl⟩
  · cases h
def chL (m : Int) : Nat → Int → Int → Option Int
  | 0, _, acc => some acc
  | n + 1, s, acc => (mulO acc (m - s)).bind fun x => (divO x (s + 1)).bind fun y => chL m n (s + 1) y
def chO (m n : Int) : Option Int := if -1000 ≤ n ∧ n ≤ 1000 then chL m n.toNat 0 (if 0 ≤ n ∧ n ≤ m then 1 else 0) else none
def prL : Nat → Int → Int → Option Int
  | 0, _, acc => some acc
  | n + 1, s, acc => (mulO acc s).bind fun x => prL n (s + 1) x
def prO (h : Int) : Option Int := if -1000 ≤ h ∧ h ≤ 1000 then prL (h + 1 - 2).toNat 2 1 else none
def wjO (j : Int) : Option Int := (chO (2 * j) j).bind fun x => divO x (j + 1)
def hmO (s : Int) : Option Int := wjO (s - 1)
def frO (s g : Int) : Option Int := if 2 ≤ g ∧ g ≤ s then (wjO (g - 2)).bind fun x => (wjO (s - g)).bind fun y => mulO x y else some 0
def ljO (s j : Int) : Option Int := if 1 ≤ j ∧ j < s then (wjO (j - 1)).bind fun x => (wjO (s - j - 1)).bind fun y => mulO x y else some 0
def obO (s f l : Int) : Option Int := if 1 ≤ f ∧ f < l ∧ l ≤ s then (wjO (l - f)).bind fun x => (wjO (s - 1 - l + f)).bind fun y => mulO x y else some 0
def ojO (s m : Int) : Option Int := if s - 1 = 0 then some (if m = 0 then 1 else 0) else if 0 ≤ m ∧ m < s - 1 then (chO (s - 1) (m + 1)).bind fun x => (chO (s - 1) m).bind fun y => (mulO x y).bind fun z => divO z (s - 1) else some 0
def jfO (s m : Int) : Option Int := if s - 1 = 0 then some (if m = 0 then 1 else 0) else if 1 ≤ m ∧ m ≤ s - 1 then (chO (2 * (s - 1) - m) (s - 1)).bind fun x => (mulO m x).bind fun z => divO z (2 * (s - 1) - m) else some 0
def saO (s : Int) : Option Int := if 1 < s then (hmO s).bind fun x => (mulO (s - 2) x).bind fun z => divO z 2 else some 0
def lpO (s : Int) : Option Int := (prO (4 * (s - 1) + 1)).bind fun a => (mulO 2 a).bind fun a2 => (prO (s - 1 + 1)).bind fun b => (prO (3 * (s - 1) + 2)).bind fun c => (mulO b c).bind fun d => divO a2 d
def laL : Nat → Int → Int → Option Int
  | 0, _, acc => some acc
  | n + 1, k, acc => (mulO acc 2).bind fun x => (mulO x (2 * k - 1)).bind fun y => (divO y (k + 1)).bind fun z => laL n (k + 1) z
def laO (s : Int) : Option Int := if -1000 ≤ s ∧ s ≤ 1000 then laL (s - 1).toNat 1 1 else none
def piO (s : Int) : Option Int := if 1 ≤ s ∧ s ≤ 1000 then (prL (4 * s - 2 - 1).toNat 1 2).bind fun a => (prL (s + 1 - 1).toNat 1 1).bind fun b => (prL (3 * s - 1).toNat 1 b).bind fun c => divO a c else none
theorem rg_cons (s : Int) (n : Nat) : ((List.range (n + 1)).map fun (i : Nat) => D.int (s + (i : Int))) = .int s :: (List.range n).map fun (i : Nat) => D.int (s + 1 + (i : Int)) := by
  rw [List.range_succ_eq_map, List.map_cons, List.map_map]
  congr 1
  · simp
  · refine List.map_congr_left fun x _ => ?_
    simp only [Function.comp]
    congr 1
    omega
theorem rg_ok (i j : Int) (h1 : -10000 ≤ i) (h2 : i ≤ 10000) (h3 : -10000 ≤ j) (h4 : j ≤ 10000) : (small62 i && small62 j && decide (j - i ≤ lim)) = true := by
  have a : small62 i = true := by
    unfold small62
    rw [decide_eq_true (show -(2 ^ 62) ≤ i by omega), decide_eq_true (show i < 2 ^ 62 by omega)]
    rfl
  have b : small62 j = true := by
    unfold small62
    rw [decide_eq_true (show -(2 ^ 62) ≤ j by omega), decide_eq_true (show j < 2 ^ 62 by omega)]
    rfl
  have c : (j - i ≤ lim) := by
    have : ((20000 : Nat) : Int) ≤ (lim : Int) := by exact Int.ofNat_le.mpr (by decide)
    omega
  rw [a, b, decide_eq_true c]
  rfl
theorem rg1_ok (j : Int) (h3 : -10000 ≤ j) (h4 : j ≤ 10000) : (small62 j && decide (j ≤ lim)) = true := by
  have := rg_ok 0 j (by omega) (by omega) h3 h4
  rw [Int.sub_zero] at this
  obtain ⟨h1, h2⟩ := ba this
  obtain ⟨h5, h6⟩ := ba h1
  rw [h6, h2]
  rfl
theorem bd {α β : Type} {o : Option α} {f : α → Option β} {y : β} (h : o.bind f = some y) : ∃ x, o = some x ∧ f x = some y := Option.bind_eq_some_iff.mp h
section
variable {P : Prg} {W : Nat}
theorem ch_go (C : Cl) (m nn : Int) (S : Store) : ∀ (n : Nat) (s acc v : Int) (a3 : Option D), chL m n s acc = some v →
    ∃ b3, forGo (evS C (.cons (.set 2 (.bi .fdiv (.bi .mul (.v 2) (.bi .sub (.v 0) (.v 3))) (.bi .add (.v 3) (.k (.int 1))))) .nil)) (.v 3) ((List.range n).map fun (i : Nat) => D.int (s + (i : Int))) [some (.int m), some (.int nn), some (.int acc), a3] S = .nx [some (.int m), some (.int nn), some (.int v), b3] S
  | 0, s, acc, v, a3, h => by
    cases h
    exact ⟨a3, rfl⟩
  | n + 1, s, acc, v, a3, h => by
    rw [rg_cons]
    unfold chL at h
    obtain ⟨x, h1, h⟩ := bd h
    obtain ⟨y, h2, h⟩ := bd h
    obtain ⟨e1, rfl⟩ := mulO_ok h1
    obtain ⟨e2, rfl⟩ := divO_ok h2
    obtain ⟨b3, ih⟩ := ch_go C m nn S n (s + 1) _ v (some (.int s)) h
    refine ⟨b3, ?_⟩
    rw [forGo, ← ih]
    simp [bindT, e1, e2.1, e2.2]
theorem chosen_ok {f : Nat} (e : P f = some F_chosen) {m n v : Int} (h : chO m n = some v) (k b : Nat) (S : Store) : run P isi0 W (k + 1) b f [.int m, .int n] S = .ok (.int v) S := by
  unfold chO at h
  split at h
  · rename_i hn
    obtain ⟨b3, g⟩ := ch_go (cl P W k S.length) m n S n.toNat 0 _ v none h
    have rg : evi (cl P W k S.length) (.rg1 (.v 1)) [some (.int m), some (.int n), some (.int (if 0 ≤ n ∧ n ≤ m then 1 else 0)), none] S = .ok ((List.range n.toNat).map fun (i : Nat) => D.int (0 + (i : Int))) S := by
      rw [s_rg1]
      have q := rg1_ok n (by omega) (by omega)
      show (if (small62 n && decide (n ≤ lim)) = true then R.ok (rgD 0 n) S else .fl) = _
      rw [if_pos q]
      unfold rgD
      rw [Int.sub_zero]
    generalize (List.range n.toNat).map (fun (i : Nat) => D.int (0 + (i : Int))) = xs at rg g
    rw [run_nk e rfl rfl]
    have i1 : ev (cl P W k S.length) (.ite (.cm2 .le .le (.k (.int 0)) (.v 1) (.v 0)) (.k (.int 1)) (.k (.int 0))) [some (.int m), some (.int n), none, none] S = .ok (.int (if 0 ≤ n ∧ n ≤ m then 1 else 0)) S := by
      by_cases h1 : 0 ≤ n <;> by_cases h2 : n ≤ m <;> simp [h1, h2]
    generalize (if 0 ≤ n ∧ n ≤ m then (1 : Int) else 0) = z at i1 rg g
    rw [show F_chosen.body = .cons (.set 2 (.ite (.cm2 .le .le (.k (.int 0)) (.v 1) (.v 0)) (.k (.int 1)) (.k (.int 0)))) (.cons (.forr (.v 3) (.rg1 (.v 1)) (.cons (.set 2 (.bi .fdiv (.bi .mul (.v 2) (.bi .sub (.v 0) (.v 3))) (.bi .add (.v 3) (.k (.int 1))))) .nil)) (.cons (.ret (.v 2)) .nil)) from rfl,
      show startD F_chosen.ns.length [.int m, .int n] = [some (.int m), some (.int n), none, none] from rfl, s_seq, s_set, i1, s_then]
    show endC false S.length (evS (cl P W k S.length) (.cons (.forr (.v 3) (.rg1 (.v 1)) _) _) [some (.int m), some (.int n), some (.int z), none] S) = _
    rw [s_seq, s_for, rg, s_then, g]
    exact endC_rt rfl
  · cases h
theorem pr_go (C : Cl) (d0 : Option D) (S : Store) : ∀ (n : Nat) (s acc v : Int) (a3 : Option D), prL n s acc = some v →
    ∃ b3, forGo (evS C (.cons (.aug 1 .mul (.v 2)) .nil)) (.v 2) ((List.range n).map fun (i : Nat) => D.int (s + (i : Int))) [d0, some (.int acc), a3] S = .nx [d0, some (.int v), b3] S
  | 0, s, acc, v, a3, h => by
    cases h
    exact ⟨a3, rfl⟩
  | n + 1, s, acc, v, a3, h => by
    rw [rg_cons]
    unfold prL at h
    obtain ⟨x, h1, h⟩ := bd h
    obtain ⟨e1, rfl⟩ := mulO_ok h1
    obtain ⟨b3, ih⟩ := pr_go C d0 S n (s + 1) _ v (some (.int s)) h
    refine ⟨b3, ?_⟩
    rw [forGo, ← ih]
    have q : evS C (.cons (.aug 1 .mul (.v 2)) .nil) [d0, some (.int acc), some (.int s)] S = .nx [d0, some (.int (acc * s)), some (.int s)] S := by
      rw [s_seq]
      have q2 : evS C (.aug 1 .mul (.v 2)) [d0, some (.int acc), some (.int s)] S = (match (if mulOk acc s then some (D.int (acc * s)) else none) with | some y => .nx [d0, some y, some (.int s)] S | none => .fl) := rfl
      rw [q2, if_pos e1]
      rfl
    show (match evS C (.cons (.aug 1 .mul (.v 2)) .nil) [d0, some (.int acc), some (.int s)] S with | .nx ρ2 S2 => _ | .ct ρ2 S2 => _ | .bk ρ2 S2 => _ | r => r) = _
    rw [q]
theorem rg2_l {C : Cl} {ρ : Env} {S : Store} {a b : Ex} {i j : Int} (h1 : ev C a ρ S = .ok (.int i) S) (h2 : ev C b ρ S = .ok (.int j) S) (b1 : -10000 ≤ i) (b2 : i ≤ 10000) (b3 : -10000 ≤ j) (b4 : j ≤ 10000) :
    evi C (.rg2 a b) ρ S = .ok ((List.range (j - i).toNat).map fun (n : Nat) => D.int (i + (n : Int))) S := by
  rw [s_rg2, h1, s_bind, h2, s_bind]
  have q := rg_ok i j b1 b2 b3 b4
  show (if (small62 i && small62 j && decide (j - i ≤ lim)) = true then R.ok (rgD i j) S else .fl) = _
  rw [if_pos q]
  rfl
theorem product_ok {f : Nat} (e : P f = some F_product) {n v : Int} (h : prO n = some v) (k b : Nat) (S : Store) : run P isi0 W (k + 1) b f [.int n] S = .ok (.int v) S := by
  unfold prO at h
  split at h
  · rename_i hn
    obtain ⟨b3, g⟩ := pr_go (cl P W k S.length) (some (.int n)) S (n + 1 - 2).toNat 2 1 v none h
    have rg := rg2_l (C := cl P W k S.length) (a := .k (.int 2)) (b := .bi .add (.v 0) (.k (.int 1))) (ρ := [some (.int n), some (.int 1), none]) (S := S) (i := 2) (j := n + 1) rfl rfl (by omega) (by omega) (by omega) (by omega)
    generalize (List.range (n + 1 - 2).toNat).map (fun (i : Nat) => D.int (2 + (i : Int))) = xs at rg g
    rw [run_nk e rfl rfl]
    rw [show F_product.body = .cons (.set 1 (.k (.int 1))) (.cons (.forr (.v 2) (.rg2 (.k (.int 2)) (.bi .add (.v 0) (.k (.int 1)))) (.cons (.aug 1 .mul (.v 2)) .nil)) (.cons (.ret (.v 1)) .nil)) from rfl, s_seq]
    show endC false S.length (evS (cl P W k S.length) (.cons (.forr (.v 2) (.rg2 (.k (.int 2)) (.bi .add (.v 0) (.k (.int 1)))) _) _) [some (.int n), some (.int 1), none] S) = _
    rw [s_seq, s_for, rg, s_then, g]
    exact endC_rt rfl
  · cases h
theorem smI {i : Int} (h1 : -100000 ≤ i) (h2 : i ≤ 100000) : smallI i = true := smallI_of (by omega) (by omega)
theorem wj_ok {i_c f : Nat} (e0 : P i_c = some F_chosen) (e : P f = some (F_with_joins i_c)) {j v : Int} (h : wjO j = some v) (k b : Nat) (S : Store) : run P isi0 W (k + 2) b f [.int j] S = .ok (.int v) S := by
  unfold wjO at h
  obtain ⟨x, h1, h⟩ := bd h
  obtain ⟨e2, rfl⟩ := divO_ok h
  have c := chosen_ok (W := W) e0 h1 k S.length S
  have m : mulOk 2 j = true := mulOk_l rfl
  rw [run_nk e rfl rfl]
  simp [F_with_joins, startD, dfl_nil e0 rfl, m, c, e2.1, e2.2]
  exact endC_rt rfl
theorem hm_ok {i_c i_w f : Nat} (e0 : P i_c = some F_chosen) (e1 : P i_w = some (F_with_joins i_c)) (e : P f = some (F_how_many i_w)) {s v : Int} (h : hmO s = some v) (k b : Nat) (S : Store) : run P isi0 W (k + 3) b f [.int s] S = .ok (.int v) S := by
  have c := wj_ok (W := W) e0 e1 h k S.length S
  rw [run_nk e rfl rfl]
  simp [F_how_many, startD, dfl_nil e1 rfl, c]
  exact endC_rt rfl
theorem fr_ok {i_c i_w f : Nat} (e0 : P i_c = some F_chosen) (e1 : P i_w = some (F_with_joins i_c)) (e : P f = some (F_with_first_reach i_w)) {s g v : Int} (h : frO s g = some v) (k b : Nat) (S : Store) : run P isi0 W (k + 3) b f [.int s, .int g] S = .ok (.int v) S := by
  unfold frO at h
  rw [run_nk e rfl rfl]
  split at h
  · rename_i hc
    obtain ⟨x, h1, h⟩ := bd h
    obtain ⟨y, h2, h⟩ := bd h
    obtain ⟨m, rfl⟩ := mulO_ok h
    have c1 := wj_ok (W := W) e0 e1 h1 k S.length S
    have c2 := wj_ok (W := W) e0 e1 h2 k S.length S
    simp [F_with_first_reach, startD, dfl_nil e1 rfl, c1, c2, hc.1, hc.2, m]
    exact endC_rt rfl
  · rename_i hc
    cases h
    by_cases q : 2 ≤ g
    · have : ¬ g ≤ s := fun z => hc ⟨q, z⟩
      simp [F_with_first_reach, startD, q, this]
      exact endC_rt rfl
    · simp [F_with_first_reach, startD, q]
      exact endC_rt rfl
theorem lj_ok {i_c i_w f : Nat} (e0 : P i_c = some F_chosen) (e1 : P i_w = some (F_with_joins i_c)) (e : P f = some (F_with_last_join i_w)) {s g v : Int} (h : ljO s g = some v) (k b : Nat) (S : Store) : run P isi0 W (k + 3) b f [.int s, .int g] S = .ok (.int v) S := by
  unfold ljO at h
  rw [run_nk e rfl rfl]
  split at h
  · rename_i hc
    obtain ⟨x, h1, h⟩ := bd h
    obtain ⟨y, h2, h⟩ := bd h
    obtain ⟨m, rfl⟩ := mulO_ok h
    have c1 := wj_ok (W := W) e0 e1 h1 k S.length S
    have c2 := wj_ok (W := W) e0 e1 h2 k S.length S
    simp [F_with_last_join, startD, dfl_nil e1 rfl, c1, c2, hc.1, hc.2, m]
    exact endC_rt rfl
  · rename_i hc
    cases h
    by_cases q : 1 ≤ g
    · have : ¬ g < s := fun z => hc ⟨q, z⟩
      simp [F_with_last_join, startD, q, this]
      exact endC_rt rfl
    · simp [F_with_last_join, startD, q]
      exact endC_rt rfl
@[simp] theorem s_cm3 {C : Cl} {ρ : Env} {S : Store} (o p q : CO) (a b c d : Ex) : ev C (.cm3 o p q a b c d) ρ S = (ev C a ρ S).bind fun x S1 => (ev C b ρ S1).bind fun y S2 => match cop o S2 x y with
    | some true => (ev C c ρ S2).bind fun z S3 => (match cop p S3 y z with
      | some true => (ev C d ρ S3).bind fun u S4 => R.of ((cop q S4 z u).map .bl) S4
      | some false => .ok (.bl false) S3
      | none => .fl)
    | some false => .ok (.bl false) S2
    | none => .fl := rfl
theorem ob_ok {i_c i_w f : Nat} (e0 : P i_c = some F_chosen) (e1 : P i_w = some (F_with_joins i_c)) (e : P f = some (F_with_one_bracket i_w)) {s g l v : Int} (h : obO s g l = some v) (k b : Nat) (S : Store) : run P isi0 W (k + 3) b f [.int s, .int g, .int l] S = .ok (.int v) S := by
  unfold obO at h
  rw [run_nk e rfl rfl]
  split at h
  · rename_i hc
    obtain ⟨x, h1, h⟩ := bd h
    obtain ⟨y, h2, h⟩ := bd h
    obtain ⟨m, rfl⟩ := mulO_ok h
    have c1 := wj_ok (W := W) e0 e1 h1 k S.length S
    have c2 := wj_ok (W := W) e0 e1 h2 k S.length S
    simp [F_with_one_bracket, startD, dfl_nil e1 rfl, c1, c2, hc.1, hc.2.1, hc.2.2, m]
    exact endC_rt rfl
  · rename_i hc
    cases h
    by_cases q : 1 ≤ g
    · by_cases q2 : g < l
      · have : ¬ l ≤ s := fun z => hc ⟨q, q2, z⟩
        simp [F_with_one_bracket, startD, q, q2, this]
        exact endC_rt rfl
      · simp [F_with_one_bracket, startD, q, q2]
        exact endC_rt rfl
    · simp [F_with_one_bracket, startD, q]
      exact endC_rt rfl
theorem oj_ok {i_c f : Nat} (e0 : P i_c = some F_chosen) (e : P f = some (F_with_open_joins i_c)) {s m v : Int} (h : ojO s m = some v) (k b : Nat) (S : Store) : run P isi0 W (k + 2) b f [.int s, .int m] S = .ok (.int v) S := by
  unfold ojO at h
  rw [run_nk e rfl rfl]
  split at h
  · rename_i hs
    cases h
    by_cases q : m = 0
    · simp [F_with_open_joins, startD, hs, q]
      exact endC_rt rfl
    · simp [F_with_open_joins, startD, hs, q]
      exact endC_rt rfl
  · rename_i hs
    split at h
    · rename_i hc
      obtain ⟨x, h1, h⟩ := bd h
      obtain ⟨y, h2, h⟩ := bd h
      obtain ⟨z, h3, h⟩ := bd h
      obtain ⟨mo, rfl⟩ := mulO_ok h3
      obtain ⟨d, rfl⟩ := divO_ok h
      have c1 := chosen_ok (W := W) e0 h1 k S.length S
      have c2 := chosen_ok (W := W) e0 h2 k S.length S
      have d1 : 1 < s := by have := d.1; omega
      simp [F_with_open_joins, startD, dfl_nil e0 rfl, hs, c1, c2, hc.1, hc.2, mo, d.1, d.2, d1]
      exact endC_rt rfl
    · rename_i hc
      cases h
      by_cases q : 0 ≤ m
      · have : ¬ m < s - 1 := fun z => hc ⟨q, z⟩
        simp [F_with_open_joins, startD, hs, q, this]
        exact endC_rt rfl
      · simp [F_with_open_joins, startD, hs, q]
        exact endC_rt rfl
theorem jf_ok {i_c f : Nat} (e0 : P i_c = some F_chosen) (e : P f = some (F_with_joins_from_one i_c)) {s m v : Int} (h : jfO s m = some v) (k b : Nat) (S : Store) : run P isi0 W (k + 2) b f [.int s, .int m] S = .ok (.int v) S := by
  unfold jfO at h
  rw [run_nk e rfl rfl]
  have m2 : mulOk 2 (s - 1) = true := mulOk_l rfl
  split at h
  · rename_i hs
    cases h
    by_cases q : m = 0
    · simp [F_with_joins_from_one, startD, hs, q]
      exact endC_rt rfl
    · simp [F_with_joins_from_one, startD, hs, q]
      exact endC_rt rfl
  · rename_i hs
    split at h
    · rename_i hc
      obtain ⟨x, h1, h⟩ := bd h
      obtain ⟨z, h3, h⟩ := bd h
      obtain ⟨mo, rfl⟩ := mulO_ok h3
      obtain ⟨d, rfl⟩ := divO_ok h
      have c1 := chosen_ok (W := W) e0 h1 k S.length S
      have d1 : m < 2 * (s - 1) := by have := d.1; omega
      simp [F_with_joins_from_one, startD, dfl_nil e0 rfl, hs, m2, c1, hc.1, hc.2, mo, d.1, d.2, d1]
      exact endC_rt rfl
    · rename_i hc
      cases h
      by_cases q : 1 ≤ m
      · have : ¬ m ≤ s - 1 := fun z => hc ⟨q, z⟩
        simp [F_with_joins_from_one, startD, hs, m2, q, this]
        exact endC_rt rfl
      · simp [F_with_joins_from_one, startD, hs, m2, q]
        exact endC_rt rfl
theorem sa_ok {i_c i_w i_h f : Nat} (e0 : P i_c = some F_chosen) (e1 : P i_w = some (F_with_joins i_c)) (e2 : P i_h = some (F_how_many i_w)) (e : P f = some (F_steps_in_all i_h)) {s v : Int} (h : saO s = some v) (k b : Nat) (S : Store) : run P isi0 W (k + 4) b f [.int s] S = .ok (.int v) S := by
  unfold saO at h
  rw [run_nk e rfl rfl]
  split at h
  · rename_i hs
    obtain ⟨x, h1, h⟩ := bd h
    obtain ⟨z, h3, h⟩ := bd h
    obtain ⟨mo, rfl⟩ := mulO_ok h3
    obtain ⟨d, rfl⟩ := divO_ok h
    have c1 := hm_ok (W := W) e0 e1 e2 h1 k S.length S
    simp [F_steps_in_all, startD, dfl_nil e2 rfl, hs, c1, mo, d.1, d.2]
    exact endC_rt rfl
  · rename_i hs
    cases h
    simp [F_steps_in_all, startD, hs]
    exact endC_rt rfl
theorem lp_ok {i_p f : Nat} (e0 : P i_p = some F_product) (e : P f = some (F_leading_pairs i_p)) {s v : Int} (h : lpO s = some v) (k b : Nat) (S : Store) : run P isi0 W (k + 2) b f [.int s] S = .ok (.int v) S := by
  unfold lpO at h
  obtain ⟨x1, h1, h⟩ := bd h
  obtain ⟨x2, h2, h⟩ := bd h
  obtain ⟨x3, h3, h⟩ := bd h
  obtain ⟨x4, h4, h⟩ := bd h
  obtain ⟨x5, h5, h⟩ := bd h
  obtain ⟨m1, rfl⟩ := mulO_ok h2
  obtain ⟨m2, rfl⟩ := mulO_ok h5
  obtain ⟨d, rfl⟩ := divO_ok h
  have c1 := product_ok (W := W) e0 h1 k S.length S
  have c3 := product_ok (W := W) e0 h3 k S.length S
  have c4 := product_ok (W := W) e0 h4 k S.length S
  have m3 : mulOk 4 (s - 1) = true := mulOk_l rfl
  have m4 : mulOk 3 (s - 1) = true := mulOk_l rfl
  simp only [Int.sub_add_cancel] at c3
  rw [run_nk e rfl rfl]
  simp [F_leading_pairs, startD, dfl_nil e0 rfl, m3, m4, c1, m1, c3, c4, m2, d.1, d.2]
  exact endC_rt rfl
theorem la_go (C : Cl) (d0 : Option D) (S : Store) : ∀ (n : Nat) (s acc v : Int) (a3 : Option D), laL n s acc = some v →
    ∃ b3, forGo (evS C (.cons (.set 1 (.bi .fdiv (.bi .mul (.bi .mul (.v 1) (.k (.int 2))) (.bi .sub (.bi .mul (.k (.int 2)) (.v 2)) (.k (.int 1)))) (.bi .add (.v 2) (.k (.int 1))))) .nil)) (.v 2) ((List.range n).map fun (i : Nat) => D.int (s + (i : Int))) [d0, some (.int acc), a3] S = .nx [d0, some (.int v), b3] S
  | 0, s, acc, v, a3, h => by
    cases h
    exact ⟨a3, rfl⟩
  | n + 1, s, acc, v, a3, h => by
    rw [rg_cons]
    unfold laL at h
    obtain ⟨x, h1, h⟩ := bd h
    obtain ⟨y, h2, h⟩ := bd h
    obtain ⟨z, h3, h⟩ := bd h
    obtain ⟨e1, rfl⟩ := mulO_ok h1
    obtain ⟨e2, rfl⟩ := mulO_ok h2
    obtain ⟨e3, rfl⟩ := divO_ok h3
    obtain ⟨b3, ih⟩ := la_go C d0 S n (s + 1) _ v (some (.int s)) h
    refine ⟨b3, ?_⟩
    have m2 : mulOk 2 s = true := mulOk_l rfl
    rw [forGo, ← ih]
    simp [bindT, e1, e2, m2, e3.1, e3.2]
theorem la_ok {f : Nat} (e : P f = some F_law_all) {s v : Int} (h : laO s = some v) (k b : Nat) (S : Store) : run P isi0 W (k + 1) b f [.int s] S = .ok (.int v) S := by
  unfold laO at h
  split at h
  · rename_i hn
    obtain ⟨b3, g⟩ := la_go (cl P W k S.length) (some (.int s)) S (s - 1).toNat 1 1 v none h
    have rg := rg2_l (C := cl P W k S.length) (a := .k (.int 1)) (b := .v 0) (ρ := [some (.int s), some (.int 1), none]) (S := S) (i := 1) (j := s) rfl rfl (by omega) (by omega) (by omega) (by omega)
    generalize (List.range (s - 1).toNat).map (fun (i : Nat) => D.int (1 + (i : Int))) = xs at rg g
    rw [run_nk e rfl rfl]
    rw [show F_law_all.body = .cons (.set 1 (.k (.int 1))) (.cons (.forr (.v 2) (.rg2 (.k (.int 1)) (.v 0)) (.cons (.set 1 (.bi .fdiv (.bi .mul (.bi .mul (.v 1) (.k (.int 2))) (.bi .sub (.bi .mul (.k (.int 2)) (.v 2)) (.k (.int 1)))) (.bi .add (.v 2) (.k (.int 1))))) .nil)) (.cons (.ret (.v 1)) .nil)) from rfl, s_seq]
    show endC false S.length (evS (cl P W k S.length) (.cons (.forr (.v 2) (.rg2 (.k (.int 1)) (.v 0)) _) _) [some (.int s), some (.int 1), none] S) = _
    rw [s_seq, s_for, rg, s_then, g]
    exact endC_rt rfl
  · cases h
theorem pi_go (C : Cl) (d0 d2 : Option D) (S : Store) : ∀ (n : Nat) (s acc v : Int) (a3 : Option D), prL n s acc = some v →
    ∃ b3, forGo (evS C (.cons (.set 1 (.bi .mul (.v 1) (.v 3))) .nil)) (.v 3) ((List.range n).map fun (i : Nat) => D.int (s + (i : Int))) [d0, some (.int acc), d2, a3] S = .nx [d0, some (.int v), d2, b3] S
  | 0, s, acc, v, a3, h => by
    cases h
    exact ⟨a3, rfl⟩
  | n + 1, s, acc, v, a3, h => by
    rw [rg_cons]
    unfold prL at h
    obtain ⟨x, h1, h⟩ := bd h
    obtain ⟨e1, rfl⟩ := mulO_ok h1
    obtain ⟨b3, ih⟩ := pi_go C d0 d2 S n (s + 1) _ v (some (.int s)) h
    refine ⟨b3, ?_⟩
    rw [forGo, ← ih]
    simp [bindT, e1]
theorem pi_go2 (C : Cl) (d0 d1 : Option D) (S : Store) : ∀ (n : Nat) (s acc v : Int) (a3 : Option D) (more : List D), prL n s acc = some v →
    ∃ b3, forGo (evS C (.cons (.set 2 (.bi .mul (.v 2) (.v 3))) .nil)) (.v 3) (((List.range n).map fun (i : Nat) => D.int (s + (i : Int))) ++ more) [d0, d1, some (.int acc), a3] S = forGo (evS C (.cons (.set 2 (.bi .mul (.v 2) (.v 3))) .nil)) (.v 3) more [d0, d1, some (.int v), b3] S
  | 0, s, acc, v, a3, more, h => by
    cases h
    exact ⟨a3, rfl⟩
  | n + 1, s, acc, v, a3, more, h => by
    rw [rg_cons]
    unfold prL at h
    obtain ⟨x, h1, h⟩ := bd h
    obtain ⟨e1, rfl⟩ := mulO_ok h1
    obtain ⟨b3, ih⟩ := pi_go2 C d0 d1 S n (s + 1) _ v (some (.int s)) more h
    refine ⟨b3, ?_⟩
    rw [List.cons_append, forGo, ← ih]
    simp [bindT, e1]
theorem s_rgl {C : Cl} {ρ : Env} {S : Store} (tp : Bool) (a b : Ex) : ev C (.rgl tp a b) ρ S = (ev C a ρ S).bind fun x S1 => (ev C b ρ S1).bind fun y S2 => R.of (rglD tp (isNo a) x y) S2 := rfl
theorem rgl_l {C : Cl} {ρ : Env} {S : Store} {a b : Ex} {i j : Int} (tp : Bool) (hn : isNo a = false) (h1 : ev C a ρ S = .ok (.int i) S) (h2 : ev C b ρ S = .ok (.int j) S) (b1 : -10000 ≤ i) (b2 : i ≤ 10000) (b3 : -10000 ≤ j) (b4 : j ≤ 10000) :
    ev C (.rgl tp a b) ρ S = .ok (if tp then .tup ((List.range (j - i).toNat).map fun (n : Nat) => D.int (i + (n : Int))) else .lst ((List.range (j - i).toNat).map fun (n : Nat) => D.int (i + (n : Int)))) S := by
  rw [s_rgl, h1, s_bind, h2, s_bind, hn]
  have q := rg_ok i j b1 b2 b3 b4
  show R.of (if (small62 i && small62 j && decide (j - i ≤ lim)) = true then some (if tp then D.tup (rgD i j) else .lst (rgD i j)) else none) S = _
  rw [if_pos q]
  rfl
theorem pi_ok {f : Nat} (e : P f = some F_law_pairs_in_all) {s v : Int} (h : piO s = some v) (k b : Nat) (S : Store) : run P isi0 W (k + 1) b f [.int s] S = .ok (.int v) S := by
  unfold piO at h
  split at h
  · rename_i hn
    obtain ⟨x1, h1, h⟩ := bd h
    obtain ⟨x2, h2, h⟩ := bd h
    obtain ⟨x3, h3, h⟩ := bd h
    obtain ⟨d, rfl⟩ := divO_ok h
    obtain ⟨c1, g1⟩ := pi_go (cl P W k S.length) (some (.int s)) (some (.int 1)) S _ 1 2 x1 none h1
    obtain ⟨c3, g3⟩ := pi_go2 (cl P W k S.length) (some (.int s)) (some (.int x1)) S _ 1 x2 x3 none [] h3
    have m4 : mulOk 4 s = true := mulOk_l rfl
    have m3 : mulOk 3 s = true := mulOk_l rfl
    have rg1 := rg2_l (C := cl P W k S.length) (a := .k (.int 1)) (b := .bi .sub (.bi .mul (.k (.int 4)) (.v 0)) (.k (.int 2))) (ρ := [some (.int s), some (.int 2), some (.int 1), none]) (S := S) (i := 1) (j := 4 * s - 2) rfl (by simp [m4]) (by omega) (by omega) (by omega) (by omega)
    have ra : ∀ y : Option D, ev (cl P W k S.length) (.rgl false (.k (.int 1)) (.bi .add (.v 0) (.k (.int 1)))) [some (.int s), some (.int x1), some (.int 1), y] S = _ := fun y => rgl_l false rfl (i := 1) (j := s + 1) rfl (by simp) (by omega) (by omega) (by omega) (by omega)
    have rb : ∀ y : Option D, ev (cl P W k S.length) (.rgl false (.k (.int 1)) (.bi .mul (.k (.int 3)) (.v 0))) [some (.int s), some (.int x1), some (.int 1), y] S = _ := fun y => rgl_l false rfl (i := 1) (j := 3 * s) rfl (by simp [m3]) (by omega) (by omega) (by omega) (by omega)
    have la : ((List.range (s + 1 - 1).toNat).map fun (i : Nat) => D.int (1 + (i : Int))).length + ((List.range (3 * s - 1).toNat).map fun (i : Nat) => D.int (1 + (i : Int))).length ≤ lim := by
      simp only [List.length_map, List.length_range]
      exact lim_le (by omega)
    obtain ⟨c2, g2⟩ := pi_go2 (cl P W k S.length) (some (.int s)) (some (.int x1)) S _ 1 1 x2 c1 ((List.range (3 * s - 1).toNat).map fun (i : Nat) => D.int (1 + (i : Int))) h2
    obtain ⟨c3, g3⟩ := pi_go2 (cl P W k S.length) (some (.int s)) (some (.int x1)) S _ 1 x2 x3 c2 [] h3
    rw [List.append_nil] at g3
    simp only [Bool.false_eq_true, if_false] at ra rb
    generalize (List.range (4 * s - 2 - 1).toNat).map (fun (i : Nat) => D.int (1 + (i : Int))) = z1 at rg1 g1
    generalize (List.range (s + 1 - 1).toNat).map (fun (i : Nat) => D.int (1 + (i : Int))) = z2 at ra g2 la
    generalize (List.range (3 * s - 1).toNat).map (fun (i : Nat) => D.int (1 + (i : Int))) = z3 at rb g2 g3 la
    rw [run_nk e rfl rfl]
    rw [show F_law_pairs_in_all.body = .cons (.asg (.t (.cons (.v 1) (.cons (.v 2) .nil))) (.tu (.cons (.k (.int 2)) (.cons (.k (.int 1)) .nil)))) (.cons (.forr (.v 3) (.rg2 (.k (.int 1)) (.bi .sub (.bi .mul (.k (.int 4)) (.v 0)) (.k (.int 2)))) (.cons (.set 1 (.bi .mul (.v 1) (.v 3))) .nil)) (.cons (.forr (.v 3) (.it (.bi .add (.rgl false (.k (.int 1)) (.bi .add (.v 0) (.k (.int 1)))) (.rgl false (.k (.int 1)) (.bi .mul (.k (.int 3)) (.v 0))))) (.cons (.set 2 (.bi .mul (.v 2) (.v 3))) .nil)) (.cons (.ret (.bi .fdiv (.v 1) (.v 2))) .nil))) from rfl, s_seq]
    show endC false S.length (evS (cl P W k S.length) (.cons (.forr (.v 3) (.rg2 (.k (.int 1)) (.bi .sub (.bi .mul (.k (.int 4)) (.v 0)) (.k (.int 2)))) _) _) [some (.int s), some (.int 2), some (.int 1), none] S) = _
    rw [s_seq, s_for, rg1, s_then, g1]
    show endC false S.length (evS (cl P W k S.length) (.cons (.forr (.v 3) (.it (.bi .add _ _)) _) _) [some (.int s), some (.int x1), some (.int 1), c1] S) = _
    have it : evi (cl P W k S.length) (.it (.bi .add (.rgl false (.k (.int 1)) (.bi .add (.v 0) (.k (.int 1)))) (.rgl false (.k (.int 1)) (.bi .mul (.k (.int 3)) (.v 0))))) [some (.int s), some (.int x1), some (.int 1), c1] S = .ok (z2 ++ z3) S := by
      rw [s_it, s_bi, ra, s_bind, rb, s_bind, s_addl, if_pos la]
      rfl
    rw [s_seq, s_for, it, s_then, g2, g3]
    show endC false S.length (evS (cl P W k S.length) (.cons (.ret (.bi .fdiv (.v 1) (.v 2))) .nil) [some (.int s), some (.int x1), some (.int x3), c3] S) = _
    simp [d.1, d.2]
    exact endC_rt rfl
  · cases h
end
end EV
/-! PLi: more of stores: a growing store in the turns, a last cell, lists of ints. -/
namespace EV
open L2 PySem
theorem seq_nx {C : Cl} {s t : Sm} {ρ ρ1 : Env} {S S1 : Store} (h : evS C s ρ S = .nx ρ1 S1) : evS C (.cons s t) ρ S = evS C t ρ1 S1 := by rw [s_seq, h]
theorem getD_last (S : Store) (x : D) : (S ++ [x]).getD S.length .non = x := by
  rw [List.getD_eq_getElem?_getD, List.getElem?_append_right (Nat.le_refl _)]
  simp
theorem dr_last (S : Store) (x : D) : dr (S ++ [x]) (.loc S.length) = x := getD_last S x
theorem app_last {base : Nat} (S : Store) (xs : List D) (d : D) (hd : d.free = true) (hl : xs.length < lim) : appS base (S ++ [.lst xs]) (.loc S.length) d = some (S ++ [.lst (xs ++ [d])]) := by
  unfold appS
  dsimp only
  rw [getD_last]
  dsimp only
  rw [if_pos hl]
  unfold putS
  rw [hd, Bool.true_or, Bool.true_and, if_pos (by simp)]
  simp [List.set_append]
@[simp] theorem s_app {C : Cl} {ρ : Env} {S : Store} (a e : Ex) : evS C (.app a e) ρ S = (ev C a ρ S).then ρ fun x S1 => match dr S1 x with
    | .lst _ => (ev C e ρ S1).then ρ fun d S2 => match appS C.base S2 x d with | some S3 => .nx ρ S3 | none => .fl
    | _ => .fl := rfl
theorem s_mull {S : Store} {xs : List D} {k : Int} : bop .mul S (.lst xs) (.int k) = if 0 ≤ k ∧ k < 2 ^ 62 ∧ xs.length * k.toNat ≤ lim then some (.lst (List.replicate k.toNat xs).flatten) else none := rfl
theorem sum_ints {S : Store} (l : List Int) : prim .sum S [.lst (l.map .int)] = some (.int l.sum) := by
  show (intsD (dI l)).map _ = _
  rw [intsD_dI]
  rfl
theorem pys_ints (l : List Int) : pys (l.map .int) = some (l.map .int) := by
  induction l with
  | nil => rfl
  | cons x l ih => simp only [List.map_cons, pys, D.py, ih]
theorem lay_ints (l : List Int) : PyData.canLayAll0 (l.map PyData.int) = true ∧ PyData.depthAll (l.map PyData.int) = 0 := by
  induction l with
  | nil => exact ⟨rfl, rfl⟩
  | cons x l ih => simp [PyData.canLayAll0, PyData.depthAll, PyData.canLay0, PyData.depth, ih.1, ih.2]
theorem pyS_ints {S : Store} (l : List Int) : pyS S (.lst (l.map .int)) = some (.list (l.map .int)) ∧ pyS S (.tup (l.map .int)) = some (.tuple (l.map .int)) := by
  have h := lay_ints l
  have s1 : shapedD (.list (l.map .int)) = true := by
    unfold shapedD PySem.SeqAt.shaped
    simp [PyData.canLay0, PyData.depth, h.1, h.2]
  have s2 : shapedD (.tuple (l.map .int)) = true := by
    unfold shapedD PySem.SeqAt.shaped
    simp [PyData.canLay0, PyData.depth, h.1, h.2]
  refine ⟨?_, ?_⟩
  · unfold pyS
    simp [D.py, pys_ints, s1]
  · unfold pyS
    simp [D.py, pys_ints, s2]
theorem pyS_dr {S : Store} {a b : D} (h : dr S a = b) (hb : dr S b = b) : pyS S a = pyS S b := by
  unfold pyS
  rw [h, hb]
theorem ne_same {S : Store} {a b : D} {p : PyData} (h1 : pyS S a = some p) (h2 : pyS S b = some p) : cop .ne S a b = some false := by
  have sh : PySem.SeqAt.shaped p = true := (pyS_ok h1).2
  have q := PySem.SeqAt.eqv_refl p (PySem.SeqAt.canLay_of_shaped sh)
  unfold cop
  simp only [h1, h2, q]
  rfl
theorem rg1_e {C : Cl} {ρ : Env} {S : Store} {a : Ex} {j : Int} (N : Nat) (hN : N ≤ 9000) (h : ev C a ρ S = .ok (.int j) S) (hj : j.toNat = N) (h0 : -9000 ≤ j) (h1 : j ≤ 9000) : evi C (.rg1 a) ρ S = .ok ((List.range N).map fun (i : Nat) => D.int (i : Int)) S := by
  rw [s_rg1, h, s_bind]
  have q := rg1_ok j (by omega) (by omega)
  show (if (small62 j && decide (j ≤ lim)) = true then R.ok (rgD 0 j) S else .fl) = _
  rw [if_pos q]
  unfold rgD
  rw [Int.sub_zero, hj]
  simp
section
variable {P : Prg} {W : Nat}
/-- the loop over drawn turns with a store that may grow, and True behind it -/
theorem turns_ok2 {f : Nat} {fn : Fn} {N c L : Nat} {bd : Sm} (e : P f = some fn) (hk : fn.keep = false) (hp : fn.ps.length = 1) (hn : fn.ns.length = L) (hL : 1 < L) (hN : N ≤ 1000) (hc : c ≤ 1000)
    (hb : fn.body = .cons (.forr (.v 1) (.rg1 (.k (.int N))) bd) (.cons (.ret (.k (.bl true))) .nil)) (k base : Nat) (S : Store) (b : Nat) (bx : Box S b 0)
    (step : ∀ (g : Nat → Option D) (S' : Store) (Z : Nat), g 0 = some (.loc b) → S.length ≤ S'.length → Box S' b Z → Z < 2 ^ 50 →
      ∃ ρ' S2, evS (cl P W k S.length) bd ((List.range L).map g) S' = .nx ρ' S2 ∧ ρ'.length = L ∧ ρ'.getD 0 none = some (.loc b) ∧ S.length ≤ S2.length ∧ Box S2 b (Z + c)) :
    ∃ S', run P isi0 W (k + 1) base f [.loc b] S = .ok (.bl true) S' := by
  rw [run_nk e hk (show [D.loc b].length = _ from hp.symm), hb, hn]
  obtain ⟨ρ', S', e1, hρ, _, l1, bx1⟩ := forGo_inv (b := evS (cl P W k S.length) bd) (t := .v 1)
    (fun i ρ S' => ρ.length = L ∧ ρ.getD 0 none = some (.loc b) ∧ S.length ≤ S'.length ∧ (i ≤ N → Box S' b (c * i)))
    (rgD 0 N) 0 (startD L [.loc b]) S ⟨by simp [startD]; omega, by simp [startD], Nat.le_refl _, fun _ => bx⟩ (by
      rintro j x ρ S1 hx ⟨h1, h2, h3, h4⟩
      have hj : j < N := by
        have := (List.getElem?_eq_some_iff.mp hx).1
        simpa [rgD] using this
      refine ⟨ρ.set 1 (some x), rfl, ?_⟩
      obtain ⟨g, q1, q2⟩ := env_of L (ρ.set 1 (some x)) (by simpa using h1)
      have q0 : g 0 = some (.loc b) := by
        rw [q2, ← h2]
        simp [List.getD_eq_getElem?_getD, List.getElem?_set]
      have hz : c * (0 + j) < 2 ^ 50 := by
        have : c * (0 + j) ≤ 1000 * 1000 := Nat.mul_le_mul hc (by omega)
        omega
      obtain ⟨ρ', S2, r1, r2, r3, r4, r5⟩ := step g S1 (c * (0 + j)) q0 h3 (h4 (by omega)) hz
      refine ⟨ρ', S2, by rw [q1]; exact r1, r2, r3, r4, fun _ => ?_⟩
      rw [show c * (0 + j + 1) = c * (0 + j) + c by rw [Nat.mul_add, Nat.mul_one]]
      exact r5)
  refine ⟨S'.take S.length, ?_⟩
  have hev : evi (cl P W k S.length) (.rg1 (.k (.int (N : Int)))) (startD L [.loc b]) S = .ok (rgD 0 N) S := rg1_k N (by omega)
  generalize startD L [.loc b] = ρ0 at hev e1
  generalize rgD 0 (N : Int) = xs at hev e1
  rw [s_seq, s_for, hev, s_then, e1]
  rfl
end
end EV
/-! PLt: _law_after, _law_every. -/
namespace EV
open L2 PySem
/-- _law_after -/
def F_law_after (i_law_after : Nat) : Fn := { name := "_law_after", ps := ["_law_tree_so"], ns := ["_law_tree_so", "_law_mine", "_law_its", "_law_found", "_law_own"], body := (.cons (.ite (.un .not (.isi (.v 0) [.ty "tuple"])) (.cons (.ret (.fr (.li .nil))) .nil) .nil) (.cons (.asg (.t (.cons (.v 1) (.cons (.v 2) .nil))) (.v 0)) (.cons (.set 3 (.fr (.bi .add (.lc (.v 4) [4] (.it (.cal i_law_after (.cons (.v 1) .nil))) .yes (.tu (.cons (.v 4) (.cons (.v 2) .nil)))) (.lc (.v 4) [4] (.it (.cal i_law_after (.cons (.v 2) .nil))) .yes (.tu (.cons (.v 1) (.cons (.v 4) .nil))))))) (.cons (.ite (.isi (.v 1) [.ty "tuple"]) (.cons (.app (.v 3) (.tu (.cons (.ix (.v 1) (.k (.int 0))) (.cons (.tu (.cons (.ix (.v 1) (.k (.int 1))) (.cons (.v 2) .nil))) .nil)))) .nil) .nil) (.cons (.ret (.v 3)) .nil))))) }
/-- _law_every -/
def F_law_every (i_law_every : Nat) : Fn := { name := "_law_every", ps := ["_law_first_so", "_law_last_so"], ns := ["_law_first_so", "_law_last_so", "_law_found", "_law_cut_so", "_law_its", "_law_own", "_law_far"], body := (.cons (.ite (.cm .eq (.v 0) (.v 1)) (.cons (.ret (.li (.cons (.v 0) .nil))) .nil) .nil) (.cons (.set 2 (.li .nil)) (.cons (.forr (.v 3) (.rg2 (.v 0) (.v 1)) (.cons (.set 4 (.cal i_law_every (.cons (.bi .add (.v 3) (.k (.int 1))) (.cons (.v 1) .nil)))) (.cons (.forr (.v 5) (.it (.cal i_law_every (.cons (.v 0) (.cons (.v 3) .nil)))) (.cons (.set 2 (.bi .add (.v 2) (.lc (.v 6) [6] (.it (.v 4)) .yes (.tu (.cons (.v 5) (.cons (.v 6) .nil)))))) .nil)) .nil))) (.cons (.ret (.v 2)) .nil)))) }
def Tr.top : Tr → Tr → List Tr
  | .nd x y, b => [.nd x (.nd y b)]
  | .lf _, _ => []
/-- all groupings one step later -/
def Tr.after : Tr → List Tr
  | .lf _ => []
  | .nd a b => a.after.map (fun x => .nd x b) ++ b.after.map (fun y => .nd a y) ++ Tr.top a b
theorem Tr.after_len : ∀ t : Tr, t.after.length ≤ t.joins
  | .lf _ => Nat.le_refl _
  | .nd a b => by
    have ha := a.after_len
    have hb := b.after_len
    simp only [Tr.after, Tr.joins, List.length_append, List.length_map]
    cases a with
    | lf i => simp only [Tr.top, Tr.joins, Tr.after, List.length_nil] at *; omega
    | nd x y => simp only [Tr.top, Tr.joins, List.length_cons, List.length_nil] at *; omega
theorem frees_map (l : List Tr) : frees (l.map Tr.d) = true := by
  induction l with
  | nil => rfl
  | cons x l ih => simp only [List.map_cons, frees, ih, x.free, Bool.and_self]
theorem fz_free {S : Store} {b n : Nat} {d : D} (h : d.free = true) : fz S b n d = some d := by cases n <;> (unfold fz; rw [if_pos h])
theorem allM_free {S : Store} {b n : Nat} : ∀ {xs : List D}, frees xs = true → allM (fz S b n) xs = some xs
  | [], _ => rfl
  | x :: xs, h => by
    simp only [frees, Bool.and_eq_true] at h
    unfold allM
    rw [fz_free h.1, allM_free h.2]
/-- a new list handed out -/
theorem fin_last {S : Store} {xs : List D} (h : frees xs = true) {ρ : Env} : endC false S.length (.rt (.loc S.length) ρ (S ++ [D.lst xs])) = .ok (.lst xs) S := by
  show (match fz (S ++ [D.lst xs]) S.length 8 (.loc S.length) with | some d' => R.ok d' ((S ++ [D.lst xs]).take S.length) | none => .fl) = _
  have q : fz (S ++ [D.lst xs]) S.length 8 (.loc S.length) = some (.lst xs) := by
    unfold fz
    rw [if_neg (by simp [D.free])]
    dsimp only
    rw [if_neg (Nat.lt_irrefl _), getD_last]
    dsimp only
    rw [allM_free h]
    rfl
  rw [q]
  simp
section
variable {P : Prg} {W : Nat}
theorem after_ok {f : Nat} (e : P f = some (F_law_after f)) : ∀ (t : Tr) (k b : Nat) (S : Store), t.joins ≤ 5000 → t.joins + 1 ≤ k → run P isi0 W k b f [t.d] S = .ok (.lst (t.after.map Tr.d)) S
  | .lf i, k, b, S, hl, hk => by
    obtain ⟨k, rfl⟩ : ∃ m, k = m + 1 := ⟨k - 1, by omega⟩
    rw [run_nk e rfl rfl]
    simp [F_law_after, startD]
    exact fin_last (xs := []) rfl
  | .nd x y, k, b, S, hl, hk => by
    simp only [Tr.joins] at hl hk
    obtain ⟨k, rfl⟩ : ∃ m, k = m + 1 := ⟨k - 1, by omega⟩
    have ix := after_ok e x k S.length S (by omega) (by omega)
    have iy := after_ok e y k S.length S (by omega) (by omega)
    have hx := x.after_len
    have hy := y.after_len
    have c1 : lcGo (ev (cl P W k S.length) .yes) (ev (cl P W k S.length) (.tu (.cons (.v 4) (.cons (.v 2) .nil)))) (.v 4) [4] [some (.tup [x.d, y.d]), some x.d, some y.d, none, none] (x.after.map Tr.d) [] S = .ok ((x.after.map fun z => Tr.nd z y).map Tr.d) S := by
      rw [lc_map (f := fun z => .tup [z, y.d]) _ [] (fun z hz => ⟨[some (.tup [x.d, y.d]), some x.d, some y.d, none, some z], rfl, rfl, by simp⟩)]
      rw [List.reverse_nil, List.nil_append, List.map_map, List.map_map]
      rfl
    have c2 : lcGo (ev (cl P W k S.length) .yes) (ev (cl P W k S.length) (.tu (.cons (.v 1) (.cons (.v 4) .nil)))) (.v 4) [4] [some (.tup [x.d, y.d]), some x.d, some y.d, none, none] (y.after.map Tr.d) [] S = .ok ((y.after.map fun z => Tr.nd x z).map Tr.d) S := by
      rw [lc_map (f := fun z => .tup [x.d, z]) _ [] (fun z hz => ⟨[some (.tup [x.d, y.d]), some x.d, some y.d, none, some z], rfl, rfl, by simp⟩)]
      rw [List.reverse_nil, List.nil_append, List.map_map, List.map_map]
      rfl
    have hlen : (x.after.map fun z => Tr.nd z y).length + (y.after.map fun z => Tr.nd x z).length ≤ lim := by
      rw [List.length_map, List.length_map]
      exact lim_le (by omega)
    have hl2 : (x.after.map fun z => Tr.nd z y).length + (y.after.map fun z => Tr.nd x z).length < lim := by
      rw [List.length_map, List.length_map]
      exact Nat.lt_of_lt_of_le (show _ < 10001 by omega) (by decide)
    have fin_ : ∀ zs : List Tr, (Tr.nd x y).after = zs → ∀ ρ : Env, endC false S.length (.rt (.loc S.length) ρ (S ++ [.lst (zs.map Tr.d)])) = .ok (.lst ((Tr.nd x y).after.map Tr.d)) S := fun zs hz ρ => by
      rw [hz]
      exact fin_last (frees_map zs)
    have ea : (Tr.nd x y).after = (x.after.map fun z => Tr.nd z y) ++ (y.after.map fun z => Tr.nd x z) ++ Tr.top x y := rfl
    generalize x.after.map (fun z => Tr.nd z y) = A at c1 hlen hl2 ea
    generalize y.after.map (fun z => Tr.nd x z) = B at c2 hlen hl2 ea
    generalize x.after.map Tr.d = A0 at ix c1
    generalize y.after.map Tr.d = B0 at iy c2
    rw [run_nk e rfl rfl]
    cases x with
    | lf i =>
      have ea' : (Tr.nd (.lf i) y).after = A ++ B := by rw [ea]; exact List.append_nil _
      have := fin_ (A ++ B) ea' [some (Tr.nd (.lf i) y).d, some (.int i), some y.d, some (.loc S.length), none]
      simp only [s_tdl] at ix c1 c2
      simp [F_law_after, startD, bindT, dfl_nil e rfl, ix, iy, c1, c2]
      rw [if_pos (by simpa using hlen)]
      simpa using this
    | nd x1 x2 =>
      have ea' : (Tr.nd (.nd x1 x2) y).after = A ++ B ++ [.nd x1 (.nd x2 y)] := ea
      have := fin_ (A ++ B ++ [.nd x1 (.nd x2 y)]) ea' [some (Tr.nd (.nd x1 x2) y).d, some (Tr.nd x1 x2).d, some y.d, some (.loc S.length), none]
      have ap := app_last (base := S.length) S (A.map Tr.d ++ B.map Tr.d) (.tup [x1.d, .tup [x2.d, y.d]]) (Tr.nd x1 (.nd x2 y)).free (by simpa using hl2)
      have dl := dr_last S (.lst (A.map Tr.d ++ B.map Tr.d))
      simp only [s_tdn] at ix c1 c2
      simp [F_law_after, startD, bindT, dfl_nil e rfl, ix, iy, c1, c2]
      rw [if_pos (by simpa using hlen)]
      simp [dl, ap]
      simpa using this
def Tr.everyF : Nat → Nat → Int → List Tr
  | 0, _, _ => []
  | _ + 1, 0, a => [.lf a]
  | F + 1, n + 1, a => (List.range (n + 1)).flatMap fun (i : Nat) => (Tr.everyF F i a).flatMap fun x => (Tr.everyF F (n - i) (a + (i : Int) + 1)).map fun y => .nd x y
def cntF : Nat → Nat → Nat
  | 0, _ => 0
  | _ + 1, 0 => 1
  | F + 1, n + 1 => ((List.range (n + 1)).map fun (i : Nat) => cntF F i * cntF F (n - i)).sum
theorem flat_len (X : List Tr) (Y : List Tr) : (X.flatMap fun x => Y.map fun y => Tr.nd x y).length = X.length * Y.length := by
  induction X with
  | nil => simp
  | cons x X ih =>
    rw [List.flatMap_cons, List.length_append, ih, List.length_map, List.length_cons, Nat.add_mul, Nat.one_mul, Nat.add_comm]
theorem every_len : ∀ (F n : Nat) (a : Int), (Tr.everyF F n a).length = cntF F n
  | 0, _, _ => rfl
  | _ + 1, 0, _ => rfl
  | F + 1, n + 1, a => by
    have q : ∀ l : List Nat, (l.flatMap fun (i : Nat) => (Tr.everyF F i a).flatMap fun x => (Tr.everyF F (n - i) (a + (i : Int) + 1)).map fun y => Tr.nd x y).length = (l.map fun (i : Nat) => cntF F i * cntF F (n - i)).sum := by
      intro l
      induction l with
      | nil => rfl
      | cons i l ih =>
        rw [List.flatMap_cons, List.length_append, ih, flat_len, every_len F i a, every_len F (n - i) _, List.map_cons, List.sum_cons]
    exact q _
theorem cnt_b : ∀ F < 10, ∀ n < 9, cntF F n ≤ 1430 := by decide +kernel
theorem in_go (C : Cl) (S : Store) (Y : List Tr) (hY : Y.length ≤ 2000) (a0 a1 a3 a6 : Option D) : ∀ (X A : List Tr) (a5 : Option D), A.length + X.length * Y.length ≤ 9000 →
    ∃ b5, forGo (evS C (.cons (.set 2 (.bi .add (.v 2) (.lc (.v 6) [6] (.it (.v 4)) .yes (.tu (.cons (.v 5) (.cons (.v 6) .nil)))))) .nil)) (.v 5) (X.map Tr.d) [a0, a1, some (.lst (A.map Tr.d)), a3, some (.lst (Y.map Tr.d)), a5, a6] S =
      .nx [a0, a1, some (.lst ((A ++ X.flatMap fun x => Y.map fun y => Tr.nd x y).map Tr.d)), a3, some (.lst (Y.map Tr.d)), b5, a6] S
  | [], A, a5, _ => ⟨a5, by rw [List.flatMap_nil, List.append_nil]; rfl⟩
  | x :: X, A, a5, h => by
    rw [List.length_cons, Nat.add_mul, Nat.one_mul] at h
    obtain ⟨b5, ih⟩ := in_go C S Y hY a0 a1 a3 a6 X (A ++ Y.map fun y => Tr.nd x y) (some x.d) (by rw [List.length_append, List.length_map]; omega)
    refine ⟨b5, ?_⟩
    have lc : lcGo (ev C .yes) (ev C (.tu (.cons (.v 5) (.cons (.v 6) .nil)))) (.v 6) [6] [a0, a1, some (.lst (A.map Tr.d)), a3, some (.lst (Y.map Tr.d)), some x.d, a6] (Y.map Tr.d) [] S = .ok ((Y.map fun y => Tr.nd x y).map Tr.d) S := by
      rw [lc_map (f := fun z => .tup [x.d, z]) _ [] (fun z hz => ⟨[a0, a1, some (.lst (A.map Tr.d)), a3, some (.lst (Y.map Tr.d)), some x.d, some z], rfl, rfl, by simp⟩)]
      rw [List.reverse_nil, List.nil_append, List.map_map, List.map_map]
      rfl
    have st : evS C (.cons (.set 2 (.bi .add (.v 2) (.lc (.v 6) [6] (.it (.v 4)) .yes (.tu (.cons (.v 5) (.cons (.v 6) .nil)))))) .nil) [a0, a1, some (.lst (A.map Tr.d)), a3, some (.lst (Y.map Tr.d)), some x.d, a6] S = .nx [a0, a1, some (.lst ((A ++ Y.map fun y => Tr.nd x y).map Tr.d)), a3, some (.lst (Y.map Tr.d)), some x.d, a6] S := by
      have hl : (A.map Tr.d).length + ((Y.map fun y => Tr.nd x y).map Tr.d).length ≤ lim := by
        simp only [List.length_map]
        exact lim_le (by omega)
      have ad := s_addl (S := S) (xs := A.map Tr.d) (ys := (Y.map fun y => Tr.nd x y).map Tr.d)
      rw [if_pos hl] at ad
      rw [List.map_append]
      generalize (Y.map fun y => Tr.nd x y).map Tr.d = B1 at lc ad
      generalize Y.map Tr.d = Y1 at lc
      generalize A.map Tr.d = A1 at lc ad
      have e1 : ev C (.bi .add (.v 2) (.lc (.v 6) [6] (.it (.v 4)) .yes (.tu (.cons (.v 5) (.cons (.v 6) .nil))))) [a0, a1, some (.lst A1), a3, some (.lst Y1), some x.d, a6] S = .ok (.lst (A1 ++ B1)) S := by
        rw [s_bi]
        show (ev C (.lc (.v 6) [6] (.it (.v 4)) .yes (.tu (.cons (.v 5) (.cons (.v 6) .nil)))) [a0, a1, some (.lst A1), a3, some (.lst Y1), some x.d, a6] S).bind _ = _
        rw [s_lc]
        show ((lcGo (ev C .yes) (ev C (.tu (.cons (.v 5) (.cons (.v 6) .nil)))) (.v 6) [6] [a0, a1, some (.lst A1), a3, some (.lst Y1), some x.d, a6] Y1 [] S).bind _).bind _ = _
        rw [lc, s_bind, s_bind, ad]
        rfl
      rw [s_seq, s_set, e1]
      rfl
    rw [List.map_cons, forGo]
    show (match evS C (.cons (.set 2 (.bi .add (.v 2) (.lc (.v 6) [6] (.it (.v 4)) .yes (.tu (.cons (.v 5) (.cons (.v 6) .nil)))))) .nil) [a0, a1, some (.lst (A.map Tr.d)), a3, some (.lst (Y.map Tr.d)), some x.d, a6] S with | .nx ρ2 S2 => _ | .ct ρ2 S2 => _ | .bk ρ2 S2 => _ | r => r) = _
    rw [st]
    dsimp only
    rw [ih, List.flatMap_cons, List.append_assoc]
/-- what one cut gives -/
def Tr.cutF (F n : Nat) (a : Int) (i : Nat) : List Tr := (Tr.everyF F i a).flatMap fun x => (Tr.everyF F (n - i) (a + (i : Int) + 1)).map fun y => .nd x y
theorem cut_len (F n : Nat) (a : Int) (i : Nat) : (Tr.cutF F n a i).length = cntF F i * cntF F (n - i) := by
  unfold Tr.cutF
  rw [flat_len, every_len, every_len]
def B_every (i_law_every : Nat) : Sm := .cons (.set 4 (.cal i_law_every (.cons (.bi .add (.v 3) (.k (.int 1))) (.cons (.v 1) .nil)))) (.cons (.forr (.v 5) (.it (.cal i_law_every (.cons (.v 0) (.cons (.v 3) .nil)))) (.cons (.set 2 (.bi .add (.v 2) (.lc (.v 6) [6] (.it (.v 4)) .yes (.tu (.cons (.v 5) (.cons (.v 6) .nil)))))) .nil)) .nil)
theorem out_go {f : Nat} (e : P f = some (F_law_every f)) (F n k b : Nat) (a : Int) (S : Store) (c1 : ∀ i ≤ n, cntF F i ≤ 2000)
    (ih : ∀ (m : Nat) (c : Int), m ≤ n → a ≤ c → c + m ≤ a + n + 1 → run P isi0 W k b f [.int c, .int (c + (m : Int))] S = .ok (.lst ((Tr.everyF F m c).map Tr.d)) S) : ∀ (is : List Nat) (A : List Tr) (a3 a4 a5 a6 : Option D), (∀ i ∈ is, i ≤ n) → A.length + (is.flatMap (Tr.cutF F n a)).length ≤ 9000 →
    ∃ b3 b4 b5 b6, forGo (evS (cl P W k b) (B_every f)) (.v 3) (is.map fun (i : Nat) => D.int (a + (i : Int))) [some (.int a), some (.int (a + ((n + 1 : Nat) : Int))), some (.lst (A.map Tr.d)), a3, a4, a5, a6] S =
      .nx [some (.int a), some (.int (a + ((n + 1 : Nat) : Int))), some (.lst ((A ++ is.flatMap (Tr.cutF F n a)).map Tr.d)), b3, b4, b5, b6] S
  | [], A, a3, a4, a5, a6, _, _ => ⟨a3, a4, a5, a6, by rw [List.flatMap_nil, List.append_nil]; rfl⟩
  | i :: is, A, a3, a4, a5, a6, hi, hl => by
    rw [List.flatMap_cons, List.length_append] at hl
    have hin := hi i List.mem_cons_self
    have ry := ih (n - i) (a + (i : Int) + 1) (by omega) (by omega) (by omega)
    rw [show a + (i : Int) + 1 + ((n - i : Nat) : Int) = a + ((n + 1 : Nat) : Int) by omega] at ry
    have rx := ih i a hin (by omega) (by omega)
    have ly : (Tr.everyF F (n - i) (a + (i : Int) + 1)).length ≤ 2000 := by rw [every_len]; exact c1 _ (by omega)
    have hcl := cut_len F n a i
    obtain ⟨b5, ig⟩ := in_go (cl P W k b) S (Tr.everyF F (n - i) (a + (i : Int) + 1)) ly (some (.int a)) (some (.int (a + ((n + 1 : Nat) : Int)))) (some (.int (a + (i : Int)))) a6 (Tr.everyF F i a) A a5 (by rw [every_len, every_len, ← hcl]; omega)
    obtain ⟨c3, c4, c5, c6, og⟩ := out_go e F n k b a S c1 ih is (A ++ Tr.cutF F n a i) (some (.int (a + (i : Int)))) (some (.lst ((Tr.everyF F (n - i) (a + (i : Int) + 1)).map Tr.d))) b5 a6 (fun j hj => hi j (List.mem_cons_of_mem _ hj)) (by rw [List.length_append]; omega)
    refine ⟨c3, c4, c5, c6, ?_⟩
    have st : evS (cl P W k b) (B_every f) [some (.int a), some (.int (a + ((n + 1 : Nat) : Int))), some (.lst (A.map Tr.d)), some (.int (a + (i : Int))), a4, a5, a6] S = .nx [some (.int a), some (.int (a + ((n + 1 : Nat) : Int))), some (.lst ((A ++ Tr.cutF F n a i).map Tr.d)), some (.int (a + (i : Int))), some (.lst ((Tr.everyF F (n - i) (a + (i : Int) + 1)).map Tr.d)), b5, a6] S := by
      unfold B_every
      refine (seq_nx (ρ1 := [some (.int a), some (.int (a + ((n + 1 : Nat) : Int))), some (.lst (A.map Tr.d)), some (.int (a + (i : Int))), some (.lst ((Tr.everyF F (n - i) (a + (i : Int) + 1)).map Tr.d)), a5, a6]) (S1 := S) ?_).trans ?_
      · generalize a + ((n + 1 : Nat) : Int) = l at ry
        simp [dfl_nil e rfl, ry]
      refine (seq_nx (ρ1 := [some (.int a), some (.int (a + ((n + 1 : Nat) : Int))), some (.lst ((A ++ Tr.cutF F n a i).map Tr.d)), some (.int (a + (i : Int))), some (.lst ((Tr.everyF F (n - i) (a + (i : Int) + 1)).map Tr.d)), b5, a6]) (S1 := S) ?_).trans rfl
      have it : ∀ z1 z2 z4 z5 z6 : Option D, evi (cl P W k b) (.it (.cal f (.cons (.v 0) (.cons (.v 3) .nil)))) [some (.int a), z1, z2, some (.int (a + (i : Int))), z4, z5, z6] S = .ok ((Tr.everyF F i a).map Tr.d) S := fun z1 z2 z4 z5 z6 => by
        simp [dfl_nil e rfl, rx]
      rw [s_for, it, s_then]
      exact ig
    rw [List.map_cons, forGo]
    show (match evS (cl P W k b) (B_every f) [some (.int a), some (.int (a + ((n + 1 : Nat) : Int))), some (.lst (A.map Tr.d)), some (.int (a + (i : Int))), a4, a5, a6] S with | .nx ρ2 S2 => _ | .ct ρ2 S2 => _ | .bk ρ2 S2 => _ | r => r) = _
    rw [st]
    dsimp only
    rw [og, List.flatMap_cons, List.append_assoc]
theorem every_ok {f : Nat} (e : P f = some (F_law_every f)) : ∀ (F n : Nat) (a : Int) (k b : Nat) (S : Store), F < 10 → n < F → n ≤ 8 → -5000 ≤ a → a + n ≤ 5000 → n + 1 ≤ k → run P isi0 W k b f [.int a, .int (a + (n : Int))] S = .ok (.lst ((Tr.everyF F n a).map Tr.d)) S
  | 0, n, a, k, b, S, _, h, _, _, _, _ => by omega
  | F + 1, 0, a, k, b, S, _, _, _, _, _, hk => by
    obtain ⟨k, rfl⟩ : ∃ m, k = m + 1 := ⟨k - 1, by omega⟩
    rw [run_nk e rfl rfl]
    have e0 : a + ((0 : Nat) : Int) = a := by omega
    rw [e0]
    simp [F_law_every, startD]
    exact endC_rt rfl
  | F + 1, n + 1, a, k, b, S, hF, hn, hn8, ha1, ha2, hk => by
    obtain ⟨k, rfl⟩ : ∃ m, k = m + 1 := ⟨k - 1, by omega⟩
    have cb := fun (i : Nat) (hi : i ≤ n) => cnt_b F (by omega) i (by omega)
    have tot : ((List.range (n + 1)).flatMap (Tr.cutF F n a)).length = cntF (F + 1) (n + 1) := every_len (F + 1) (n + 1) a
    have cb2 := cnt_b (F + 1) hF (n + 1) (by omega)
    obtain ⟨b3, b4, b5, b6, og⟩ := out_go e F n k S.length a S (fun i hi => Nat.le_trans (cb i hi) (by decide)) (fun m c h1 h2 h3 => by
      by_cases hmF : m < F
      · exact every_ok e F m c k S.length S (by omega) hmF (by omega) (by omega) (by omega) (by omega)
      · omega) (List.range (n + 1)) [] none none none none (fun i hi => by have := List.mem_range.mp hi; omega) (by rw [tot]; simp; omega)
    have rg := rg2_l (C := cl P W k S.length) (a := .v 0) (b := .v 1) (ρ := [some (.int a), some (.int (a + ((n + 1 : Nat) : Int))), some (.lst []), none, none, none, none]) (S := S) (i := a) (j := a + ((n + 1 : Nat) : Int)) rfl rfl (by omega) (by omega) (by omega) (by omega)
    rw [show (a + ((n + 1 : Nat) : Int) - a).toNat = n + 1 by omega] at rg
    have ne : (a = a + ((n + 1 : Nat) : Int)) = False := by simp; omega
    rw [run_nk e rfl rfl]
    rw [show (F_law_every f).body = .cons (.ite (.cm .eq (.v 0) (.v 1)) (.cons (.ret (.li (.cons (.v 0) .nil))) .nil) .nil) (.cons (.set 2 (.li .nil)) (.cons (.forr (.v 3) (.rg2 (.v 0) (.v 1)) (B_every f)) (.cons (.ret (.v 2)) .nil))) from rfl,
      show startD (F_law_every f).ns.length [.int a, .int (a + ((n + 1 : Nat) : Int))] = [some (.int a), some (.int (a + ((n + 1 : Nat) : Int))), none, none, none, none, none] from rfl]
    have main : evS (cl P W k S.length) (.cons (.ite (.cm .eq (.v 0) (.v 1)) (.cons (.ret (.li (.cons (.v 0) .nil))) .nil) .nil) (.cons (.set 2 (.li .nil)) (.cons (.forr (.v 3) (.rg2 (.v 0) (.v 1)) (B_every f)) (.cons (.ret (.v 2)) .nil)))) [some (.int a), some (.int (a + ((n + 1 : Nat) : Int))), none, none, none, none, none] S =
        .rt (.lst ((Tr.everyF (F + 1) (n + 1) a).map Tr.d)) [some (.int a), some (.int (a + ((n + 1 : Nat) : Int))), some (.lst ((Tr.everyF (F + 1) (n + 1) a).map Tr.d)), b3, b4, b5, b6] S := by
      refine (seq_nx (ρ1 := [some (.int a), some (.int (a + ((n + 1 : Nat) : Int))), none, none, none, none, none]) (S1 := S) ?_).trans ?_
      · generalize a + ((n + 1 : Nat) : Int) = l at ne
        simp [ne]
      refine (seq_nx (ρ1 := [some (.int a), some (.int (a + ((n + 1 : Nat) : Int))), some (.lst []), none, none, none, none]) (S1 := S) ?_).trans ?_
      · simp
      refine (seq_nx (ρ1 := [some (.int a), some (.int (a + ((n + 1 : Nat) : Int))), some (.lst ((Tr.everyF (F + 1) (n + 1) a).map Tr.d)), b3, b4, b5, b6]) (S1 := S) ?_).trans rfl
      rw [s_for, rg, s_then]
      exact og
    rw [main]
    exact endC_rt (frees_map _)
end
end EV
/-! PLv: the order of groupings: steps lead exactly where no reach is lesser. -/
namespace EV
open L2 PySem
/-- join i's reach -/
def Tr.rc : Tr → Int → Int
  | .lf i, _ => i
  | .nd a b, i => if i < a.lst then a.rc i else if i = a.lst then b.lst else b.rc i
theorem Tr.rc_nd (a b : Tr) (i : Int) : (Tr.nd a b).rc i = if i < a.lst then a.rc i else if i = a.lst then b.lst else b.rc i := rfl
/-- no reach is beyond R -/
def Tr.Le : Tr → (Int → Int) → Prop
  | .lf _, _ => True
  | .nd a b, R => a.Le R ∧ b.lst ≤ R a.lst ∧ b.Le R
/-- the reaches are R -/
def Tr.Eq : Tr → (Int → Int) → Prop
  | .lf _, _ => True
  | .nd a b, R => a.Eq R ∧ R a.lst = b.lst ∧ b.Eq R
/-- some join's reach is the end, R has more -/
def Tr.Bnd : Tr → (Int → Int) → Prop
  | .lf _, _ => False
  | .nd a b, R => b.lst < R a.lst ∨ b.Bnd R
/-- nested -/
def Nest (p q : Int) (R : Int → Int) : Prop := ∀ i j, p ≤ i → i < j → j < R i → j < q → R j ≤ R i
theorem Nm.le {t : Tr} {p q : Int} (h : Nm t p q) : p ≤ q := by
  induction h with
  | lf => exact Int.le_refl _
  | nd _ _ a b => omega
theorem Tr.Bnd_ex {t : Tr} {p q : Int} (h : Nm t p q) {R : Int → Int} (hb : t.Bnd R) (hl : t.Le R) : ∃ i, p ≤ i ∧ i < q ∧ q < R i := by
  induction h with
  | lf => exact hb.elim
  | @nd x y p c q hx hy ihx ihy =>
    have h1 := hx.le
    have h2 := hy.le
    have ex := hx.lst
    have ey := hy.lst
    rcases hb with hb | hb
    · rw [ex, ey] at hb
      exact ⟨c, h1, by omega, hb⟩
    · obtain ⟨i, a1, a2, a3⟩ := ihy hb hl.2.2
      exact ⟨i, by omega, a2, a3⟩
theorem after_nm {t : Tr} {p q : Int} (h : Nm t p q) : ∀ t' ∈ t.after, Nm t' p q := by
  induction h with
  | lf i => intro t' h; simp [Tr.after] at h
  | @nd x y p c q hx hy ihx ihy =>
    intro t' h
    simp only [Tr.after, List.mem_append, List.mem_map] at h
    rcases h with (⟨x', m, rfl⟩ | ⟨y', m, rfl⟩) | m
    · exact .nd (ihx x' m) hy
    · exact .nd hx (ihy y' m)
    · cases hx with
      | lf i => simp [Tr.top] at m
      | @nd x1 x2 _ c1 _ hx1 hx2 =>
        simp only [Tr.top, List.mem_singleton] at m
        subst m
        exact .nd hx1 (.nd hx2 hy)
/-- a step below R, or all is R, or the end is too near -/
theorem order_one {t : Tr} {p q : Int} (h : Nm t p q) (R : Int → Int) (hn : ∀ i j, p ≤ i → i < j → j < R i → j < q → R j ≤ R i) (hl : t.Le R) : (∃ t' ∈ t.after, Tr.Le t' R) ∨ t.Eq R ∨ t.Bnd R := by
  induction h with
  | lf i => exact .inr (.inl trivial)
  | @nd x y p c q hx hy ihx ihy =>
    have h1 := hx.le
    have h2 := hy.le
    have ex := hx.lst
    have ey := hy.lst
    obtain ⟨l1, l2, l3⟩ := hl
    rcases ihy (fun i j a1 a2 a3 a4 => hn i j (by omega) a2 a3 a4) l3 with ⟨y', m, hy'⟩ | e2 | b2
    · refine .inl ⟨.nd x y', ?_, l1, ?_, hy'⟩
      · simp only [Tr.after, List.mem_append, List.mem_map]
        exact .inl (.inr ⟨y', m, rfl⟩)
      · rw [(after_nm hy y' m).lst]
        rw [ey] at l2
        exact l2
    · by_cases hc : R x.lst = y.lst
      · rcases ihx (fun i j a1 a2 a3 a4 => hn i j a1 a2 a3 (by omega)) l1 with ⟨x', m, hx'⟩ | e1 | b1
        · refine .inl ⟨.nd x' y, ?_, hx', ?_, l3⟩
          · simp only [Tr.after, List.mem_append, List.mem_map]
            exact .inl (.inl ⟨x', m, rfl⟩)
          · rw [(after_nm hx x' m).lst, ← ex]
            exact l2
        · exact .inr (.inl ⟨e1, hc, e2⟩)
        · -- turn the top
          cases hx with
          | lf i => exact b1.elim
          | @nd x1 x2 _ c1 _ hx1 hx2 =>
            have g1 := hx1.le
            have g2 := hx2.le
            have ex1 := hx1.lst
            have ex2 := hx2.lst
            obtain ⟨i, a1, a2, a3⟩ : ∃ i, c1 ≤ i ∧ i < c ∧ c < R i := by
              rcases b1 with b1 | b1
              · rw [ex1, ex2] at b1
                exact ⟨c1, Int.le_refl _, by omega, b1⟩
              · obtain ⟨i, q1, q2, q3⟩ := Tr.Bnd_ex hx2 b1 l1.2.2
                exact ⟨i, by omega, q2, q3⟩
            obtain ⟨m1, m2, m3⟩ := l1
            have ec : (Tr.nd x1 x2).lst = c := ex
            rw [ec] at hc l2
            rw [ex1, ex2] at m2
            rw [ey] at hc l2
            -- the top join of the left part reaches beyond c, so up to q
            have k1 : c < R c1 := by
              by_cases hi2 : i = c1
              · subst hi2; exact a3
              · have := hn c1 i g1 (by omega) (by omega) (by omega)
                omega
            have k2 := hn c1 c g1 (by omega) k1 (by omega)
            refine .inl ⟨.nd x1 (.nd x2 y), ?_, m1, ?_, m3, ?_, l3⟩
            · simp [Tr.after, Tr.top]
            · show y.lst ≤ R x1.lst
              rw [ex1, ey]
              omega
            · rw [ex2, ey]
              omega
      · exact .inr (.inr (.inl (by omega)))
    · exact .inr (.inr (.inr b2))
theorem Le_iff {t : Tr} {p q : Int} (h : Nm t p q) (R : Int → Int) : t.Le R ↔ ∀ i, p ≤ i → i < q → t.rc i ≤ R i := by
  induction h with
  | lf i => exact ⟨fun _ j h1 h2 => by omega, fun _ => trivial⟩
  | @nd x y p c q hx hy ihx ihy =>
    have h1 := hx.le
    have h2 := hy.le
    have ex := hx.lst
    have ey := hy.lst
    refine ⟨fun ⟨l1, l2, l3⟩ i a1 a2 => ?_, fun hh => ⟨ihx.mpr fun i a1 a2 => ?_, ?_, ihy.mpr fun i a1 a2 => ?_⟩⟩
    · rw [Tr.rc_nd, ex]
      by_cases c1 : i < c
      · rw [if_pos c1]
        exact ihx.mp l1 i a1 c1
      · rw [if_neg c1]
        by_cases c2 : i = c
        · rw [if_pos c2, c2, ← ex]
          exact l2
        · rw [if_neg c2]
          exact ihy.mp l3 i (by omega) a2
    · have := hh i a1 (by omega)
      rwa [Tr.rc_nd, ex, if_pos a2] at this
    · have := hh c h1 (by omega)
      rw [Tr.rc_nd, ex, if_neg (Int.lt_irrefl _), if_pos rfl] at this
      rw [ex]
      exact this
    · have := hh i (by omega) a2
      rwa [Tr.rc_nd, ex, if_neg (by omega), if_neg (by omega)] at this
theorem Eq_iff {t : Tr} {p q : Int} (h : Nm t p q) (R : Int → Int) : t.Eq R → ∀ i, p ≤ i → i < q → R i = t.rc i := by
  induction h with
  | lf i => exact fun _ j h1 h2 => by omega
  | @nd x y p c q hx hy ihx ihy =>
    have h1 := hx.le
    have h2 := hy.le
    have ex := hx.lst
    have ey := hy.lst
    rintro ⟨l1, l2, l3⟩ i a1 a2
    rw [Tr.rc_nd, ex]
    by_cases c1 : i < c
    · rw [if_pos c1]
      exact ihx l1 i a1 c1
    · rw [if_neg c1]
      by_cases c2 : i = c
      · rw [if_pos c2, c2, ← ex]
        exact l2
      · rw [if_neg c2]
        exact ihy l3 i (by omega) a2
/-- a reach is beyond its join, at most the end; reaches are nested -/
theorem rc_ok {t : Tr} {p q : Int} (h : Nm t p q) : (∀ i, p ≤ i → i < q → i < t.rc i ∧ t.rc i ≤ q) ∧ ∀ i j, p ≤ i → i < j → j < t.rc i → j < q → t.rc j ≤ t.rc i := by
  induction h with
  | lf i => exact ⟨fun j h1 h2 => by omega, fun j k h1 h2 h3 h4 => by omega⟩
  | @nd x y p c q hx hy ihx ihy =>
    have h1 := hx.le
    have h2 := hy.le
    have ex := hx.lst
    have ey := hy.lst
    obtain ⟨x1, x2⟩ := ihx
    obtain ⟨y1, y2⟩ := ihy
    have vx : ∀ i, i < c → (Tr.nd x y).rc i = x.rc i := fun i h => by rw [Tr.rc_nd, ex, if_pos h]
    have vc : (Tr.nd x y).rc c = q := by rw [Tr.rc_nd, ex, if_neg (Int.lt_irrefl _), if_pos rfl, ey]
    have vy : ∀ i, c < i → (Tr.nd x y).rc i = y.rc i := fun i h => by rw [Tr.rc_nd, ex, if_neg (by omega), if_neg (by omega)]
    have bd : ∀ i, p ≤ i → i < q → i < (Tr.nd x y).rc i ∧ (Tr.nd x y).rc i ≤ q := fun i a1 a2 => by
      rcases Int.lt_trichotomy i c with g | g | g
      · rw [vx i g]
        have := x1 i a1 g
        omega
      · subst g
        rw [vc]
        omega
      · rw [vy i g]
        exact y1 i (by omega) a2
    refine ⟨bd, fun i j a1 a2 a3 a4 => ?_⟩
    rcases Int.lt_trichotomy i c with g | g | g
    · have b1 := x1 i a1 g
      rw [vx i g] at a3 ⊢
      have gj : j < c := by omega
      rw [vx j gj]
      exact x2 i j a1 a2 a3 gj
    · subst g
      rw [vc]
      exact (bd j (by omega) a4).2
    · rw [vy i g] at a3 ⊢
      rw [vy j (by omega)]
      exact y2 i j (by omega) a2 a3 a4
/-- the same reaches: the same grouping -/
theorem rc_inj : ∀ {t u : Tr} {p q : Int}, Nm t p q → Nm u p q → (∀ i, p ≤ i → i < q → t.rc i = u.rc i) → t = u
  | .lf i, .lf j, p, q, h1, h2, _ => by cases h1; cases h2; rfl
  | .lf i, .nd u1 u2, p, q, h1, h2, _ => by
    cases h1
    cases h2 with
    | nd k1 k2 =>
      have := k1.le
      have := k2.le
      omega
  | .nd t1 t2, .lf j, p, q, h1, h2, _ => by
    cases h2
    cases h1 with
    | nd k1 k2 =>
      have := k1.le
      have := k2.le
      omega
  | .nd t1 t2, .nd u1 u2, p, q, h1, h2, h => by
    obtain ⟨c, k1, k2⟩ : ∃ c, Nm t1 p c ∧ Nm t2 (c + 1) q := by cases h1; exact ⟨_, by assumption, by assumption⟩
    obtain ⟨d, l1, l2⟩ : ∃ c, Nm u1 p c ∧ Nm u2 (c + 1) q := by cases h2; exact ⟨_, by assumption, by assumption⟩
    have a1 := k1.le
    have a2 := k2.le
    have a3 := l1.le
    have a4 := l2.le
    have e1 := k1.lst
    have e2 := k2.lst
    have e3 := l1.lst
    have e4 := l2.lst
    have tc : (Tr.nd t1 t2).rc c = q := by rw [Tr.rc_nd, e1, if_neg (Int.lt_irrefl _), if_pos rfl, e2]
    have ud : (Tr.nd u1 u2).rc d = q := by rw [Tr.rc_nd, e3, if_neg (Int.lt_irrefl _), if_pos rfl, e4]
    have hcd : c = d := by
      rcases Int.lt_trichotomy c d with g | g | g
      · have := h c a1 (by omega)
        rw [tc] at this
        rw [Tr.rc_nd, e3, if_pos g] at this
        have := ((rc_ok l1).1 c a1 g).2
        omega
      · exact g
      · have := h d a3 (by omega)
        rw [ud] at this
        rw [Tr.rc_nd, e1, if_pos g] at this
        have := ((rc_ok k1).1 d a3 g).2
        omega
    subst hcd
    have q1 : t1 = u1 := rc_inj k1 l1 fun i b1 b2 => by
      have := h i b1 (by omega)
      rwa [Tr.rc_nd, Tr.rc_nd, e1, e3, if_pos b2, if_pos b2] at this
    have q2 : t2 = u2 := rc_inj k2 l2 fun i b1 b2 => by
      have := h i (by omega) b2
      rwa [Tr.rc_nd, Tr.rc_nd, e1, e3, if_neg (by omega), if_neg (by omega), if_neg (by omega), if_neg (by omega)] at this
    rw [q1, q2]
/-- some steps lead from one to the other -/
inductive Rt : Tr → Tr → Prop where
  | refl (t : Tr) : Rt t t
  | step {t t' u : Tr} : t' ∈ t.after → Rt t' u → Rt t u
theorem Rt.snoc {t u v : Tr} (h : Rt t u) (m : v ∈ u.after) : Rt t v := by
  induction h with
  | refl t => exact .step m (.refl v)
  | step a _ ih => exact .step a (ih m)
theorem Rt.nm {t u : Tr} {p q : Int} (h : Rt t u) (n : Nm t p q) : Nm u p q := by
  induction h with
  | refl t => exact n
  | step a _ ih => exact ih (after_nm n _ a)
/-- a step raises -/
theorem after_le {t : Tr} {p q : Int} (h : Nm t p q) (R : Int → Int) : ∀ t' ∈ t.after, t'.Le R → t.Le R := by
  induction h with
  | lf i => intro t' h; simp [Tr.after] at h
  | @nd x y p c q hx hy ihx ihy =>
    have h2 := hy.le
    have ex := hx.lst
    have ey := hy.lst
    intro t' h hl
    simp only [Tr.after, List.mem_append, List.mem_map] at h
    rcases h with (⟨x', m, rfl⟩ | ⟨y', m, rfl⟩) | m
    · refine ⟨ihx x' m hl.1, ?_, hl.2.2⟩
      have := hl.2.1
      rw [(after_nm hx x' m).lst] at this
      rw [ex]
      exact this
    · refine ⟨hl.1, ?_, ihy y' m hl.2.2⟩
      have := hl.2.1
      rw [(after_nm hy y' m).lst] at this
      rw [ey]
      exact this
    · cases hx with
      | lf i => simp [Tr.top] at m
      | @nd x1 x2 _ c1 _ hx1 hx2 =>
        simp only [Tr.top, List.mem_singleton] at m
        subst m
        obtain ⟨l1, l2, l3, l4, l5⟩ := hl
        have ex2 := hx2.lst
        refine ⟨⟨l1, ?_, l3⟩, l4, l5⟩
        have l2' : y.lst ≤ R x1.lst := l2
        rw [ex2]
        rw [ey] at l2'
        omega
theorem Rt.le {t u : Tr} {p q : Int} (h : Rt t u) (n : Nm t p q) : ∀ i, p ≤ i → i < q → t.rc i ≤ u.rc i := by
  induction h with
  | refl t => exact fun i _ _ => Int.le_refl _
  | @step t t' u a _ ih =>
    have n' := after_nm n _ a
    have l := (Le_iff n' u.rc).mpr (ih n')
    exact (Le_iff n u.rc).mp (after_le n u.rc _ a l)
/-! ### as lists -/
theorem rch_get {t : Tr} {p q : Int} (h : Nm t p q) : ∀ k : Nat, k < t.joins → t.rch[k]? = some (t.rc (p + (k : Int))) := by
  induction h with
  | lf i => intro k hk; exact absurd hk (Nat.not_lt_zero _)
  | @nd x y p c q hx hy ihx ihy =>
    intro k hk
    have jx := hx.joins
    have ex := hx.lst
    have lx := x.rch_len
    simp only [Tr.joins] at hk
    rw [Tr.rch_nd, Tr.rc_nd, ex]
    rcases Nat.lt_trichotomy k x.joins with g | g | g
    · rw [if_pos (by omega), List.getElem?_append_left (by omega)]
      exact ihx k g
    · rw [if_neg (by omega), if_pos (by omega), List.getElem?_append_right (by omega), show k - x.rch.length = 0 by omega]
      rfl
    · rw [if_neg (by omega), if_neg (by omega), List.getElem?_append_right (by omega), show k - x.rch.length = (k - x.joins - 1) + 1 by omega, List.getElem?_cons_succ, ihy (k - x.joins - 1) (by omega)]
      congr 2
      omega
def leL : List Int → List Int → Bool
  | a :: as, b :: bs => decide (a ≤ b) && leL as bs
  | _, _ => true
theorem leL_iff : ∀ (as bs : List Int), as.length = bs.length → (leL as bs = true ↔ ∀ k : Nat, ∀ a b, as[k]? = some a → bs[k]? = some b → a ≤ b)
  | [], [], _ => ⟨fun _ k a b h => by simp at h, fun _ => rfl⟩
  | [], _ :: _, h => by simp at h
  | _ :: _, [], h => by simp at h
  | a :: as, b :: bs, h => by
    have ih := leL_iff as bs (by simpa using h)
    simp only [leL, Bool.and_eq_true, decide_eq_true_eq, ih]
    refine ⟨fun ⟨h1, h2⟩ k x y hx hy => ?_, fun hh => ⟨hh 0 a b rfl rfl, fun k x y hx hy => hh (k + 1) x y (by simpa using hx) (by simpa using hy)⟩⟩
    cases k with
    | zero =>
      simp at hx hy
      omega
    | succ k => exact h2 k x y (by simpa using hx) (by simpa using hy)
theorem leL_rch {t u : Tr} {p q : Int} (h : Nm t p q) (g : Nm u p q) : leL t.rch u.rch = true ↔ ∀ i, p ≤ i → i < q → t.rc i ≤ u.rc i := by
  have j1 := h.joins
  have j2 := g.joins
  have l1 := t.rch_len
  have l2 := u.rch_len
  rw [leL_iff _ _ (by omega)]
  refine ⟨fun hh i a1 a2 => ?_, fun hh k a b ha hb => ?_⟩
  · have r1 := rch_get h (i - p).toNat (by omega)
    have r2 := rch_get g (i - p).toNat (by omega)
    rw [show p + (((i - p).toNat : Nat) : Int) = i by omega] at r1 r2
    exact hh _ _ _ r1 r2
  · have k1 : k < t.joins := by rw [← l1]; exact (List.getElem?_eq_some_iff.mp ha).1
    rw [rch_get h k k1] at ha
    rw [rch_get g k (by omega)] at hb
    cases ha
    cases hb
    exact hh _ (by omega) (by omega)
theorem leL_sum : ∀ (as bs : List Int), as.length = bs.length → leL as bs = true → as.sum ≤ bs.sum
  | [], [], _, _ => Int.le_refl _
  | [], _ :: _, h, _ => by simp at h
  | _ :: _, [], h, _ => by simp at h
  | a :: as, b :: bs, h, hl => by
    simp only [leL, Bool.and_eq_true, decide_eq_true_eq] at hl
    have := leL_sum as bs (by simpa using h) hl.2
    simp only [List.sum_cons]
    omega
theorem after_sum {t : Tr} {p q : Int} (h : Nm t p q) : ∀ t' ∈ t.after, t.rch.sum < t'.rch.sum := by
  induction h with
  | lf i => intro t' h; simp [Tr.after] at h
  | @nd x y p c q hx hy ihx ihy =>
    have h2 := hy.le
    have ex := hx.lst
    have ey := hy.lst
    intro t' h
    simp only [Tr.after, List.mem_append, List.mem_map] at h
    rcases h with (⟨x', m, rfl⟩ | ⟨y', m, rfl⟩) | m
    · have := ihx x' m
      simp only [Tr.rch_nd, List.sum_append, List.sum_cons]
      omega
    · have := ihy y' m
      have e := (after_nm hy y' m).lst
      simp only [Tr.rch_nd, List.sum_append, List.sum_cons, e, ey]
      omega
    · cases hx with
      | lf i => simp [Tr.top] at m
      | @nd x1 x2 _ c1 _ hx1 hx2 =>
        simp only [Tr.top, List.mem_singleton] at m
        subst m
        have ex2 := hx2.lst
        have e3 : (Tr.nd x2 y).lst = y.lst := rfl
        simp only [Tr.rch_nd, List.sum_append, List.sum_cons, e3, ey, ex2]
        omega
theorem le_reach {u : Tr} {p q : Int} (g : Nm u p q) : ∀ (n : Nat) (t : Tr), Nm t p q → u.rch.sum - t.rch.sum ≤ n → (∀ i, p ≤ i → i < q → t.rc i ≤ u.rc i) → Rt t u
  | n, t, h, hs, hl => by
    have hR := rc_ok g
    rcases order_one h u.rc hR.2 ((Le_iff h u.rc).mpr hl) with ⟨t', m, l'⟩ | e | b
    · have h' := after_nm h t' m
      have s' := after_sum h t' m
      have l2 := (Le_iff h' u.rc).mp l'
      have le' := (leL_rch h' g).mpr l2
      have s2 := leL_sum _ _ (by rw [Tr.rch_len, Tr.rch_len]; have := h'.joins; have := g.joins; omega) le'
      cases n with
      | zero => omega
      | succ n => exact .step m (le_reach g n t' h' (by omega) l2)
    · have := rc_inj h g fun i a1 a2 => (Eq_iff h u.rc e i a1 a2).symm
      subst this
      exact .refl t
    · obtain ⟨i, a1, a2, a3⟩ := Tr.Bnd_ex h b ((Le_iff h u.rc).mpr hl)
      have := (hR.1 i a1 a2).2
      omega
/-- steps lead there exactly where no reach is lesser -/
theorem reach_iff {t u : Tr} {p q : Int} (h : Nm t p q) (g : Nm u p q) : Rt t u ↔ leL t.rch u.rch = true :=
  ⟨fun r => (leL_rch h g).mpr (r.le h), fun l => le_reach g (u.rch.sum - t.rch.sum).toNat t h (by omega) ((leL_rch h g).mp l)⟩
/-! ### from behind -/
theorem after_shift (n : Int) : ∀ (t t' : Tr), t' ∈ t.after → t.shift n ∈ (t'.shift n).after
  | .lf i, t', h => by simp [Tr.after] at h
  | .nd x y, t', h => by
    simp only [Tr.after, List.mem_append, List.mem_map] at h
    rcases h with (⟨x', m, rfl⟩ | ⟨y', m, rfl⟩) | m
    · have := after_shift n x x' m
      simp only [Tr.shift, Tr.after, List.mem_append, List.mem_map]
      exact .inl (.inr ⟨_, this, rfl⟩)
    · have := after_shift n y y' m
      simp only [Tr.shift, Tr.after, List.mem_append, List.mem_map]
      exact .inl (.inl ⟨_, this, rfl⟩)
    · cases x with
      | lf i => simp [Tr.top] at m
      | nd x1 x2 =>
        simp only [Tr.top, List.mem_singleton] at m
        subst m
        simp [Tr.shift, Tr.after, Tr.top]
theorem Rt.shift {t u : Tr} (n : Int) (h : Rt t u) : Rt (u.shift n) (t.shift n) := by
  induction h with
  | refl t => exact .refl _
  | step a _ ih => exact ih.snoc (after_shift n _ _ a)
theorem leL_app : ∀ (as bs cs ds : List Int), as.length = bs.length → leL (as ++ cs) (bs ++ ds) = (leL as bs && leL cs ds)
  | [], [], cs, ds, _ => by simp [leL]
  | [], _ :: _, _, _, h => by simp at h
  | _ :: _, [], _, _, h => by simp at h
  | a :: as, b :: bs, cs, ds, h => by
    have := leL_app as bs cs ds (by simpa using h)
    simp only [List.cons_append, leL, this, Bool.and_assoc]
theorem leL_rev (n : Int) : ∀ (as bs : List Int), as.length = bs.length → leL (bs.reverse.map fun i => n - i) (as.reverse.map fun i => n - i) = leL as bs
  | [], [], _ => rfl
  | [], _ :: _, h => by simp at h
  | _ :: _, [], h => by simp at h
  | a :: as, b :: bs, h => by
    have ih := leL_rev n as bs (by simpa using h)
    simp only [List.reverse_cons, List.map_append, List.map_cons, List.map_nil]
    rw [leL_app _ _ _ _ (by simpa using h.symm), ih]
    simp only [leL, Bool.and_true]
    rw [Bool.and_comm]
    congr 1
    exact decide_eq_decide.mpr (by omega)
theorem starts_iff {t u : Tr} {n : Int} (h : Nm t 1 n) (g : Nm u 1 n) : leL t.sts u.sts = leL t.rch u.rch := by
  have hs := h.shift n
  have gs := g.shift n
  have e1 : leL t.sts u.sts = leL (u.shift n).rch (t.shift n).rch := by
    rw [Tr.shift_rch, Tr.shift_rch]
    exact (leL_rev (n + 1) _ _ (by rw [Tr.sts_len, Tr.sts_len]; have := h.joins; have := g.joins; omega)).symm
  rw [e1, Bool.eq_iff_iff, ← reach_iff gs hs, ← reach_iff h g]
  refine ⟨fun r => ?_, fun r => r.shift n⟩
  have := r.shift n
  rwa [Tr.shift_shift, Tr.shift_shift] at this
end EV
/-! PLw: lists of groupings: equality, all of a size, what steps make of one. -/
namespace EV
open L2 PySem
/-! ### equality -/
def Tr.pt : Tr → PyData
  | .lf i => .int i
  | .nd a b => .tuple [a.pt, b.pt]
theorem Tr.py_d : ∀ t : Tr, t.d.py = some t.pt
  | .lf i => rfl
  | .nd a b => by simp [Tr.d, D.py, pys, a.py_d, b.py_d, Tr.pt]
theorem Tr.pt_lay : ∀ t : Tr, t.pt.canLay0 = true
  | .lf i => rfl
  | .nd a b => by simp [Tr.pt, PyData.canLay0, PyData.canLayAll0, a.pt_lay, b.pt_lay]
theorem Tr.pt_dep : ∀ t : Tr, t.pt.depth = t.dep
  | .lf i => rfl
  | .nd a b => by simp [Tr.pt, PyData.depth, PyData.depthAll, a.pt_dep, b.pt_dep, Tr.dep]; omega
theorem Tr.eqv_pt : ∀ t u : Tr, PyData.eqv t.pt u.pt = decide (t = u)
  | .lf i, .lf j => by simp only [Tr.pt, PyData.eqv, Tr.lf.injEq]; congr
  | .lf i, .nd a b => by simp [Tr.pt, PyData.eqv]
  | .nd a b, .lf j => by simp [Tr.pt, PyData.eqv]
  | .nd a b, .nd c d => by
    simp only [Tr.pt, PyData.eqv, PyData.eqvAll, a.eqv_pt c, b.eqv_pt d, Bool.and_true, Tr.nd.injEq]
    by_cases h1 : a = c <;> by_cases h2 : b = d <;> simp [h1, h2]
theorem pyS_d (S : Store) (t : Tr) (h : t.joins ≤ 60) : pyS S t.d = some t.pt := by
  have hd := t.dep_le
  have e : dr S t.d = t.d := by cases t <;> rfl
  have sh : shapedD t.pt = true := by
    unfold shapedD PySem.SeqAt.shaped
    rw [t.pt_lay, t.pt_dep]
    simp; omega
  unfold pyS
  rw [e, t.py_d]
  simp [sh]
theorem pys_d : ∀ L : List Tr, pys (L.map Tr.d) = some (L.map Tr.pt)
  | [] => rfl
  | x :: L => by simp only [List.map_cons, pys, pys_d L, x.py_d]
theorem lay_d (n : Nat) : ∀ L : List Tr, (∀ t ∈ L, t.joins ≤ n) → PyData.canLayAll0 (L.map Tr.pt) = true ∧ PyData.depthAll (L.map Tr.pt) ≤ n
  | [], _ => ⟨rfl, Nat.zero_le _⟩
  | x :: L, h => by
    obtain ⟨h1, h2⟩ := lay_d n L fun t ht => h t (List.mem_cons_of_mem _ ht)
    have h3 := h x List.mem_cons_self
    have h4 := x.dep_le
    refine ⟨by simp [PyData.canLayAll0, x.pt_lay, h1], ?_⟩
    simp only [List.map_cons, PyData.depthAll, x.pt_dep]
    omega
theorem pyS_ds (S : Store) (L : List Tr) (h : ∀ t ∈ L, t.joins ≤ 50) : pyS S (.lst (L.map Tr.d)) = some (.list (L.map Tr.pt)) := by
  obtain ⟨h1, h2⟩ := lay_d 50 L h
  have s1 : shapedD (.list (L.map Tr.pt)) = true := by
    unfold shapedD PySem.SeqAt.shaped
    simp [PyData.canLay0, PyData.depth, h1]
    omega
  unfold pyS
  simp [D.py, pys_d, s1]
theorem mem_d (S : Store) (t : Tr) (L : List Tr) (ht : t.joins ≤ 50) (h : ∀ t ∈ L, t.joins ≤ 50) : cop .mem S t.d (.lst (L.map Tr.d)) = some (decide (t ∈ L)) := by
  unfold cop memD
  rw [s_drl]
  dsimp only
  rw [pyS_d S t (by omega), pyS_ds S L h]
  dsimp only
  congr 1
  rw [List.any_map]
  induction L with
  | nil => rfl
  | cons x L ih =>
    rw [List.any_cons, ih fun t ht => h t (List.mem_cons_of_mem _ ht)]
    simp only [Function.comp, Tr.eqv_pt, List.mem_cons]
    by_cases h1 : x = t
    · simp [h1]
    · have : ¬ t = x := fun e => h1 e.symm
      simp [h1, this]
theorem nmem_d (S : Store) (t : Tr) (L : List Tr) (ht : t.joins ≤ 50) (h : ∀ t ∈ L, t.joins ≤ 50) : cop .nmem S t.d (.lst (L.map Tr.d)) = some (!decide (t ∈ L)) := by
  have := mem_d S t L ht h
  unfold cop at this ⊢
  dsimp only at this ⊢
  rw [this]
  rfl
theorem ne_nil_d (S : Store) (L : List Tr) (h : ∀ t ∈ L, t.joins ≤ 50) : cop .ne S (.lst (L.map Tr.d)) (.lst []) = some (!L.isEmpty) := by
  unfold cop
  dsimp only
  rw [pyS_ds S L h, pyS_nil0]
  cases L with
  | nil => rfl
  | cons x L => cases x <;> simp [PyData.eqv, PyData.eqvAll]
where pyS_nil0 {S : Store} : pyS S (.lst []) = some (.list []) := rfl
/-! ### all groupings of a size -/
theorem every_nm : ∀ (F n : Nat) (a : Int), ∀ t ∈ Tr.everyF F n a, Nm t a (a + n)
  | 0, _, _, t, h => by simp [Tr.everyF] at h
  | F + 1, 0, a, t, h => by
    simp only [Tr.everyF, List.mem_singleton] at h
    subst h
    have : a + ((0 : Nat) : Int) = a := by omega
    rw [this]
    exact .lf a
  | F + 1, n + 1, a, t, h => by
    simp only [Tr.everyF] at h
    obtain ⟨i, h1, h⟩ := List.mem_flatMap.mp h
    obtain ⟨x, h2, h⟩ := List.mem_flatMap.mp h
    obtain ⟨y, h3, rfl⟩ := List.mem_map.mp h
    have := List.mem_range.mp h1
    have e1 := every_nm F i a x h2
    have e2 := every_nm F (n - i) _ y h3
    rw [show a + (i : Int) + 1 + ((n - i : Nat) : Int) = a + ((n + 1 : Nat) : Int) by omega] at e2
    exact .nd e1 e2
theorem every_mem {t : Tr} {p q : Int} (h : Nm t p q) : ∀ (F n : Nat), n < F → q = p + n → t ∈ Tr.everyF F n p := by
  induction h with
  | lf i =>
    intro F n hF hq
    have : n = 0 := by omega
    subst this
    obtain ⟨F, rfl⟩ : ∃ m, F = m + 1 := ⟨F - 1, by omega⟩
    simp [Tr.everyF]
  | @nd x y p c q hx hy ihx ihy =>
    intro F n hF hq
    have h1 := hx.le
    have h2 := hy.le
    obtain ⟨n, rfl⟩ : ∃ m, n = m + 1 := ⟨n - 1, by omega⟩
    obtain ⟨F, rfl⟩ : ∃ m, F = m + 1 := ⟨F - 1, by omega⟩
    obtain ⟨i, rfl⟩ : ∃ i : Nat, c = p + i := ⟨(c - p).toNat, by omega⟩
    simp only [Tr.everyF]
    refine List.mem_flatMap.mpr ⟨i, List.mem_range.mpr (by omega), List.mem_flatMap.mpr ⟨x, ihx F i (by omega) rfl, List.mem_map.mpr ⟨y, ihy F (n - i) (by omega) (by omega), rfl⟩⟩⟩
/-! ### no doubles -/
theorem after_nodup {t : Tr} {p q : Int} (h : Nm t p q) : t.after.Nodup := by
  induction h with
  | lf i => exact List.nodup_nil
  | @nd x y p c q hx hy ihx ihy =>
    have nx : ∀ x' ∈ x.after, x' ≠ x := fun x' m e => by
      have := after_sum hx x' m
      rw [e] at this
      omega
    have ny : ∀ y' ∈ y.after, y' ≠ y := fun y' m e => by
      have := after_sum hy y' m
      rw [e] at this
      omega
    unfold Tr.after
    refine List.nodup_append.mpr ⟨List.nodup_append.mpr ⟨?_, ?_, ?_⟩, ?_, ?_⟩
    · exact List.Pairwise.map _ (fun a b h e => h (Tr.nd.inj e).1) ihx
    · exact List.Pairwise.map _ (fun a b h e => h (Tr.nd.inj e).2) ihy
    · intro a ha b hb e
      obtain ⟨x', m1, rfl⟩ := List.mem_map.mp ha
      obtain ⟨y', m2, rfl⟩ := List.mem_map.mp hb
      exact nx x' m1 (Tr.nd.inj e).1
    · cases x with
      | lf i => exact List.nodup_nil
      | nd x1 x2 => simp [Tr.top]
    · intro a ha b hb e
      cases x with
      | lf i => simp [Tr.top] at hb
      | nd x1 x2 =>
        simp only [Tr.top, List.mem_singleton] at hb
        subst hb
        have jj : ∀ z : Tr, Tr.nd z y ≠ Tr.nd x1 (Tr.nd x2 y) := fun z e2 => by
          have := congrArg Tr.joins (Tr.nd.inj e2).2
          simp only [Tr.joins] at this
          omega
        rcases List.mem_append.mp ha with ha | ha
        · obtain ⟨x', m1, rfl⟩ := List.mem_map.mp ha
          exact jj x' e
        · obtain ⟨y', m2, rfl⟩ := List.mem_map.mp ha
          have := congrArg Tr.joins (Tr.nd.inj e).1
          simp only [Tr.joins] at this
          omega
theorem nodup_len {α : Type} [DecidableEq α] : ∀ (A B : List α), A.Nodup → (∀ x ∈ A, x ∈ B) → A.length ≤ B.length
  | [], B, _, _ => Nat.zero_le _
  | a :: A, B, h, hs => by
    have h1 := List.nodup_cons.mp h
    have ha := hs a List.mem_cons_self
    have := nodup_len A (B.erase a) h1.2 fun x hx => by
      have : x ≠ a := fun e => h1.1 (e ▸ hx)
      exact (List.mem_erase_of_ne this).mpr (hs x (List.mem_cons_of_mem _ hx))
    rw [List.length_erase_of_mem ha] at this
    have hp : 0 < B.length := List.length_pos_of_mem ha
    simp only [List.length_cons]
    omega
end EV
/-! PLx: _law_reached: all that steps make of a grouping. -/
namespace EV
open L2 PySem
/-- _law_reached -/
def F_law_reached (i_law_after : Nat) : Fn := { name := "_law_reached", ps := ["_law_tree_so"], ns := ["_law_tree_so", "_law_found", "_law_edge_so", "_law_fresh", "_law_own", "_law_far"], body := (.cons (.asg (.t (.cons (.v 1) (.cons (.v 2) .nil))) (.tu (.cons (.li (.cons (.v 0) .nil)) (.cons (.li (.cons (.v 0) .nil)) .nil)))) (.cons (.whil (.cm .ne (.v 2) (.li .nil)) (.cons (.set 3 (.li .nil)) (.cons (.forr (.v 4) (.it (.v 2)) (.cons (.set 3 (.bi .add (.v 3) (.lc (.v 5) [5] (.it (.cal i_law_after (.cons (.v 4) .nil))) (.an (.cm .nmem (.v 5) (.v 1)) (.cm .nmem (.v 5) (.v 3))) (.v 5)))) .nil)) (.cons (.asg (.t (.cons (.v 1) (.cons (.v 2) .nil))) (.tu (.cons (.bi .add (.v 1) (.v 3)) (.cons (.v 3) .nil)))) .nil)))) (.cons (.ret (.v 1)) .nil))) }
def B_fr (i_law_after : Nat) : Sm := .cons (.set 3 (.bi .add (.v 3) (.lc (.v 5) [5] (.it (.cal i_law_after (.cons (.v 4) .nil))) (.an (.cm .nmem (.v 5) (.v 1)) (.cm .nmem (.v 5) (.v 3))) (.v 5)))) .nil
def addF (found : List Tr) (fr : List Tr) (own : Tr) : List Tr := fr ++ own.after.filter fun x => !decide (x ∈ found) && !decide (x ∈ fr)
/-- what holds of fresh ones -/
structure Fr (t : Tr) (p q : Int) (found fr : List Tr) : Prop where
  nd : (found ++ fr).Nodup
  nm : ∀ u ∈ fr, Nm u p q ∧ Rt t u
theorem Fr.add {t : Tr} {p q : Int} {found fr : List Tr} (h : Fr t p q found fr) {own : Tr} (n : Nm own p q) (r : Rt t own) : Fr t p q found (addF found fr own) ∧ (∀ u ∈ fr, u ∈ addF found fr own) ∧ ∀ v ∈ own.after, v ∈ found ++ addF found fr own := by
  refine ⟨⟨?_, fun u hu => ?_⟩, fun u hu => List.mem_append_left _ hu, fun v hv => ?_⟩
  · unfold addF
    rw [← List.append_assoc]
    refine List.nodup_append.mpr ⟨h.nd, (after_nodup n).filter _, fun a ha b hb e => ?_⟩
    subst e
    have hb := (List.mem_filter.mp hb).2
    simp only [Bool.and_eq_true, Bool.not_eq_true', decide_eq_false_iff_not] at hb
    rcases List.mem_append.mp ha with ha | ha
    · exact hb.1 ha
    · exact hb.2 ha
  · rcases List.mem_append.mp hu with hu | hu
    · exact h.nm u hu
    · have hu := (List.mem_filter.mp hu).1
      exact ⟨after_nm n u hu, r.snoc hu⟩
  · by_cases h1 : v ∈ found
    · exact List.mem_append_left _ h1
    · refine List.mem_append_right _ ?_
      by_cases h2 : v ∈ fr
      · exact List.mem_append_left _ h2
      · exact List.mem_append_right _ (List.mem_filter.mpr ⟨hv, by simp [h1, h2]⟩)
theorem Fr.fold {t : Tr} {p q : Int} {found : List Tr} : ∀ (E fr : List Tr), Fr t p q found fr → (∀ u ∈ E, Nm u p q ∧ Rt t u) → Fr t p q found (E.foldl (addF found) fr) ∧ (∀ u ∈ fr, u ∈ E.foldl (addF found) fr) ∧ ∀ own ∈ E, ∀ v ∈ own.after, v ∈ found ++ E.foldl (addF found) fr
  | [], fr, h, _ => ⟨h, fun u hu => hu, fun own ho => by cases ho⟩
  | e :: E, fr, h, he => by
    obtain ⟨n, r⟩ := he e List.mem_cons_self
    obtain ⟨h1, h2, h3⟩ := h.add n r
    obtain ⟨g1, g2, g3⟩ := Fr.fold E (addF found fr e) h1 fun u hu => he u (List.mem_cons_of_mem _ hu)
    refine ⟨g1, fun u hu => g2 u (h2 u hu), fun own ho v hv => ?_⟩
    rcases List.mem_cons.mp ho with rfl | ho
    · rcases List.mem_append.mp (h3 v hv) with m | m
      · exact List.mem_append_left _ m
      · exact List.mem_append_right _ (g2 v m)
    · exact g3 own ho v hv
structure Rc (t : Tr) (p q : Int) (found edge : List Tr) : Prop where
  nd : found.Nodup
  nm : ∀ u ∈ found, Nm u p q ∧ Rt t u
  me : t ∈ found
  ed : ∀ u ∈ edge, u ∈ found
  cl : ∀ u ∈ found, u ∉ edge → ∀ v ∈ u.after, v ∈ found
theorem Rc.next {t : Tr} {p q : Int} {found edge : List Tr} (h : Rc t p q found edge) : Rc t p q (found ++ edge.foldl (addF found) []) (edge.foldl (addF found) []) ∧ Fr t p q found (edge.foldl (addF found) []) := by
  obtain ⟨g1, _, g3⟩ := Fr.fold (t := t) (p := p) (q := q) (found := found) edge [] ⟨by rw [List.append_nil]; exact h.nd, fun u hu => by cases hu⟩ fun u hu => h.nm u (h.ed u hu)
  refine ⟨⟨g1.nd, fun u hu => ?_, List.mem_append_left _ h.me, fun u hu => List.mem_append_right _ hu, fun u hu hn v hv => ?_⟩, g1⟩
  · rcases List.mem_append.mp hu with m | m
    · exact h.nm u m
    · exact g1.nm u m
  · rcases List.mem_append.mp hu with m | m
    · by_cases he : u ∈ edge
      · exact g3 u he v hv
      · exact List.mem_append_left _ (h.cl u m he v hv)
    · exact absurd m hn
theorem cl_rt {found : List Tr} (hc : ∀ u ∈ found, ∀ v ∈ u.after, v ∈ found) {a u : Tr} (r : Rt a u) : a ∈ found → u ∈ found := by
  induction r with
  | refl t => exact id
  | step m _ ih => exact fun ha => ih (hc _ ha _ m)
theorem Rc.all {t : Tr} {p q : Int} {found : List Tr} (h : Rc t p q found []) : ∀ u, u ∈ found ↔ Rt t u :=
  fun u => ⟨fun m => (h.nm u m).2, fun r => cl_rt (fun u hu v hv => h.cl u hu (by simp) v hv) r h.me⟩
theorem lc_cnt {α : Type} {S : Store} {c e : Env → Store → R D} {t : Tg} {vs : List Nat} {ρ : Env} {g : α → D} {p : α → Bool} : ∀ (l : List α) (acc : List D), (∀ a ∈ l, ∃ ρ1, bindT t (g a) (wipeD ρ vs) = some ρ1 ∧ c ρ1 S = .ok (.bl (p a)) S ∧ e ρ1 S = .ok (g a) S) →
    lcGo c e t vs ρ (l.map g) acc S = .ok (acc.reverse ++ (l.filter p).map g) S
  | [], acc, _ => by rw [List.map_nil, lcGo, List.filter_nil, List.map_nil, List.append_nil]
  | x :: xs, acc, h => by
    obtain ⟨ρ1, h1, h2, h3⟩ := h x List.mem_cons_self
    rw [List.map_cons, lcGo, h1]
    simp only [h2]
    cases q : p x with
    | true =>
      simp only [s_trb, h3]
      rw [lc_cnt xs (g x :: acc) fun y hy => h y (List.mem_cons_of_mem _ hy)]
      simp [q]
    | false =>
      simp only [s_trb]
      rw [lc_cnt xs acc fun y hy => h y (List.mem_cons_of_mem _ hy)]
      simp [q]
theorem len_b {p q : Int} {L : List Tr} (h : L.Nodup) (hn : ∀ u ∈ L, Nm u p q) (n : Nat) (hq : q = p + n) (h8 : n ≤ 8) : L.length ≤ 1430 := by
  have := nodup_len L (Tr.everyF 9 n p) h fun u hu => every_mem (hn u hu) 9 n (by omega) hq
  rw [every_len] at this
  exact Nat.le_trans this (cnt_b 9 (by decide) n (by omega))
section
variable {P : Prg} {W : Nat}
theorem fr_go {f : Nat} (e : P f = some (F_law_after f)) (k b : Nat) (S : Store) (t : Tr) (p q : Int) (n : Nat) (hq : q = p + n) (h8 : n ≤ 8) (hk : 20 ≤ k) (found : List Tr) (hf : ∀ u ∈ found, Nm u p q) (a0 a2 : Option D) : ∀ (E fr : List Tr) (a4 a5 : Option D), Fr t p q found fr → (∀ u ∈ E, Nm u p q ∧ Rt t u) →
    ∃ b4 b5, forGo (evS (cl P W k b) (B_fr f)) (.v 4) (E.map Tr.d) [a0, some (.lst (found.map Tr.d)), a2, some (.lst (fr.map Tr.d)), a4, a5] S = .nx [a0, some (.lst (found.map Tr.d)), a2, some (.lst ((E.foldl (addF found) fr).map Tr.d)), b4, b5] S
  | [], fr, a4, a5, _, _ => ⟨a4, a5, rfl⟩
  | o :: E, fr, a4, a5, h, he => by
    obtain ⟨no, ro⟩ := he o List.mem_cons_self
    have jn : ∀ u : Tr, Nm u p q → u.joins = n := fun u hu => by have := hu.joins; omega
    obtain ⟨h1, _, _⟩ := h.add no ro
    obtain ⟨b4, b5, ih⟩ := fr_go e k b S t p q n hq h8 hk found hf a0 a2 E (addF found fr o) (some o.d) a5 h1 fun u hu => he u (List.mem_cons_of_mem _ hu)
    refine ⟨b4, b5, ?_⟩
    have jo := jn o no
    have af := after_ok (W := W) e o k b S (by omega) (by omega)
    have f50 : ∀ u ∈ found, u.joins ≤ 50 := fun u hu => by have := jn u (hf u hu); omega
    have r50 : ∀ u ∈ fr, u.joins ≤ 50 := fun u hu => by have := jn u (h.nm u hu).1; omega
    have lc := lc_cnt (S := S) (c := ev (cl P W k b) (.an (.cm .nmem (.v 5) (.v 1)) (.cm .nmem (.v 5) (.v 3)))) (e := ev (cl P W k b) (.v 5)) (t := .v 5) (vs := [5]) (ρ := [a0, some (.lst (found.map Tr.d)), a2, some (.lst (fr.map Tr.d)), some o.d, a5]) (g := Tr.d) (p := fun x => !decide (x ∈ found) && !decide (x ∈ fr)) o.after [] (fun x hx => by
      refine ⟨[a0, some (.lst (found.map Tr.d)), a2, some (.lst (fr.map Tr.d)), some o.d, some x.d], rfl, ?_, rfl⟩
      have jx := jn x (after_nm no x hx)
      have m1 := nmem_d S x found (by omega) f50
      have m2 := nmem_d S x fr (by omega) r50
      have c1 : ev (cl P W k b) (.cm .nmem (.v 5) (.v 1)) [a0, some (.lst (found.map Tr.d)), a2, some (.lst (fr.map Tr.d)), some o.d, some x.d] S = .ok (.bl (!decide (x ∈ found))) S := by
        rw [s_cm]
        show R.of ((cop .nmem S x.d (.lst (found.map Tr.d))).map D.bl) S = _
        rw [m1]
        rfl
      have c2 : ev (cl P W k b) (.cm .nmem (.v 5) (.v 3)) [a0, some (.lst (found.map Tr.d)), a2, some (.lst (fr.map Tr.d)), some o.d, some x.d] S = .ok (.bl (!decide (x ∈ fr))) S := by
        rw [s_cm]
        show R.of ((cop .nmem S x.d (.lst (fr.map Tr.d))).map D.bl) S = _
        rw [m2]
        rfl
      rw [s_an, c1, s_bind, s_trb]
      cases hd : (!decide (x ∈ found)) with
      | true =>
        dsimp only
        rw [c2, Bool.true_and]
      | false => rfl)
    rw [List.reverse_nil, List.nil_append] at lc
    have hl : (fr.map Tr.d).length + ((o.after.filter fun x => !decide (x ∈ found) && !decide (x ∈ fr)).map Tr.d).length ≤ lim := by
      have := len_b h1.nd (fun u hu => by
        rcases List.mem_append.mp hu with m | m
        · exact hf u m
        · exact (h1.nm u m).1) n hq h8
      rw [List.length_append] at this
      unfold addF at this
      rw [List.length_append] at this
      simp only [List.length_map]
      exact lim_le (by omega)
    have st : evS (cl P W k b) (B_fr f) [a0, some (.lst (found.map Tr.d)), a2, some (.lst (fr.map Tr.d)), some o.d, a5] S = .nx [a0, some (.lst (found.map Tr.d)), a2, some (.lst ((addF found fr o).map Tr.d)), some o.d, a5] S := by
      have ad := s_addl (S := S) (xs := fr.map Tr.d) (ys := (o.after.filter fun x => !decide (x ∈ found) && !decide (x ∈ fr)).map Tr.d)
      rw [if_pos hl, ← List.map_append] at ad
      have ea : fr ++ (o.after.filter fun x => !decide (x ∈ found) && !decide (x ∈ fr)) = addF found fr o := rfl
      rw [ea] at ad
      generalize (o.after.filter fun x => !decide (x ∈ found) && !decide (x ∈ fr)).map Tr.d = NW at lc ad
      have it : evi (cl P W k b) (.it (.cal f (.cons (.v 4) .nil))) [a0, some (.lst (found.map Tr.d)), a2, some (.lst (fr.map Tr.d)), some o.d, a5] S = .ok (o.after.map Tr.d) S := by
        simp [dfl_nil e rfl, af]
      unfold B_fr
      have e1 : ev (cl P W k b) (.bi .add (.v 3) (.lc (.v 5) [5] (.it (.cal f (.cons (.v 4) .nil))) (.an (.cm .nmem (.v 5) (.v 1)) (.cm .nmem (.v 5) (.v 3))) (.v 5))) [a0, some (.lst (found.map Tr.d)), a2, some (.lst (fr.map Tr.d)), some o.d, a5] S = .ok (.lst ((addF found fr o).map Tr.d)) S := by
        rw [s_bi]
        show (ev (cl P W k b) (.lc (.v 5) [5] (.it (.cal f (.cons (.v 4) .nil))) (.an (.cm .nmem (.v 5) (.v 1)) (.cm .nmem (.v 5) (.v 3))) (.v 5)) [a0, some (.lst (found.map Tr.d)), a2, some (.lst (fr.map Tr.d)), some o.d, a5] S).bind _ = _
        rw [s_lc, it, s_bind, lc, s_bind, s_bind, ad]
        rfl
      rw [s_seq, s_set, e1]
      rfl
    rw [List.map_cons, forGo]
    show (match evS (cl P W k b) (B_fr f) [a0, some (.lst (found.map Tr.d)), a2, some (.lst (fr.map Tr.d)), some o.d, a5] S with | .nx ρ2 S2 => _ | .ct ρ2 S2 => _ | .bk ρ2 S2 => _ | r => r) = _
    rw [st]
    exact ih
def B_wh (f : Nat) : Sm := .cons (.set 3 (.li .nil)) (.cons (.forr (.v 4) (.it (.v 2)) (B_fr f)) (.cons (.asg (.t (.cons (.v 1) (.cons (.v 2) .nil))) (.tu (.cons (.bi .add (.v 1) (.v 3)) (.cons (.v 3) .nil)))) .nil))
@[simp] theorem s_whil {C : Cl} {ρ : Env} {S : Store} (c : Ex) (b : Sm) : evS C (.whil c b) ρ S = whileGo (ev C c) (evS C b) C.W ρ S := rfl
theorem wh_go {f : Nat} (e : P f = some (F_law_after f)) (k b : Nat) (S : Store) (t : Tr) (p q : Int) (n : Nat) (hq : q = p + n) (h8 : n ≤ 8) (hk : 20 ≤ k) (a0 : Option D) : ∀ (m : Nat) (found edge : List Tr) (a3 a4 a5 : Option D), Rc t p q found edge → ((edge = [] ∧ 1 ≤ m) ∨ 1432 ≤ found.length + m) →
    ∃ (M : List Tr) (b3 b4 b5 : Option D), whileGo (ev (cl P W k b) (.cm .ne (.v 2) (.li .nil))) (evS (cl P W k b) (B_wh f)) m [a0, some (.lst (found.map Tr.d)), some (.lst (edge.map Tr.d)), a3, a4, a5] S = .nx [a0, some (.lst (M.map Tr.d)), some (.lst []), b3, b4, b5] S ∧ Rc t p q M []
  | 0, found, edge, a3, a4, a5, h, hm => by
    exfalso
    have := len_b h.nd (fun u hu => (h.nm u hu).1) n hq h8
    rcases hm with hm | hm <;> omega
  | m + 1, found, edge, a3, a4, a5, h, hm => by
    have jn : ∀ u : Tr, Nm u p q → u.joins = n := fun u hu => by have := hu.joins; omega
    have e50 : ∀ u ∈ edge, u.joins ≤ 50 := fun u hu => by have := jn u (h.nm u (h.ed u hu)).1; omega
    have cnd : ev (cl P W k b) (.cm .ne (.v 2) (.li .nil)) [a0, some (.lst (found.map Tr.d)), some (.lst (edge.map Tr.d)), a3, a4, a5] S = .ok (.bl (!edge.isEmpty)) S := by
      rw [s_cm]
      show R.of ((cop .ne S (.lst (edge.map Tr.d)) (.lst [])).map D.bl) S = _
      rw [ne_nil_d S edge e50]
      rfl
    rw [whileGo, cnd]
    cases edge with
    | nil => exact ⟨found, a3, a4, a5, rfl, h⟩
    | cons o E =>
      obtain ⟨h', hf⟩ := h.next
      have hb := len_b h'.nd (fun u hu => (h'.nm u hu).1) n hq h8
      rw [List.length_append] at hb
      obtain ⟨b4, b5, fg⟩ := fr_go (W := W) e k b S t p q n hq h8 hk found (fun u hu => (h.nm u hu).1) a0 (some (.lst ((o :: E).map Tr.d))) (o :: E) [] a4 a5 ⟨by rw [List.append_nil]; exact h.nd, fun u hu => by cases hu⟩ fun u hu => h.nm u (h.ed u hu)
      generalize (o :: E).foldl (addF found) [] = fresh at h' hf hb fg
      have hl : (found.map Tr.d).length + (fresh.map Tr.d).length ≤ lim := by
        simp only [List.length_map]
        exact lim_le (by omega)
      have ad := s_addl (S := S) (xs := found.map Tr.d) (ys := fresh.map Tr.d)
      rw [if_pos hl, ← List.map_append] at ad
      have bd : evS (cl P W k b) (B_wh f) [a0, some (.lst (found.map Tr.d)), some (.lst ((o :: E).map Tr.d)), a3, a4, a5] S = .nx [a0, some (.lst ((found ++ fresh).map Tr.d)), some (.lst (fresh.map Tr.d)), some (.lst (fresh.map Tr.d)), b4, b5] S := by
        unfold B_wh
        refine (seq_nx (ρ1 := [a0, some (.lst (found.map Tr.d)), some (.lst ((o :: E).map Tr.d)), some (.lst []), a4, a5]) (S1 := S) ?_).trans ?_
        · simp
        refine (seq_nx (ρ1 := [a0, some (.lst (found.map Tr.d)), some (.lst ((o :: E).map Tr.d)), some (.lst (fresh.map Tr.d)), b4, b5]) (S1 := S) ?_).trans ?_
        · have it : evi (cl P W k b) (.it (.v 2)) [a0, some (.lst (found.map Tr.d)), some (.lst ((o :: E).map Tr.d)), some (.lst []), a4, a5] S = .ok ((o :: E).map Tr.d) S := rfl
          rw [s_for, it, s_then]
          exact fg
        refine (seq_nx (ρ1 := [a0, some (.lst ((found ++ fresh).map Tr.d)), some (.lst (fresh.map Tr.d)), some (.lst (fresh.map Tr.d)), b4, b5]) (S1 := S) ?_).trans rfl
        have tu : ev (cl P W k b) (.tu (.cons (.bi .add (.v 1) (.v 3)) (.cons (.v 3) .nil))) [a0, some (.lst (found.map Tr.d)), some (.lst ((o :: E).map Tr.d)), some (.lst (fresh.map Tr.d)), b4, b5] S = .ok (.tup [.lst ((found ++ fresh).map Tr.d), .lst (fresh.map Tr.d)]) S := by
          rw [s_tu, s_cons, s_bi]
          show ((R.of (bop .add S (.lst (found.map Tr.d)) (.lst (fresh.map Tr.d))) S).bind _).bind _ = _
          rw [ad]
          rfl
        rw [s_asg, tu, s_then]
        rfl
      obtain ⟨M, c3, c4, c5, ih, hM⟩ := wh_go e k b S t p q n hq h8 hk a0 m (found ++ fresh) fresh (some (.lst (fresh.map Tr.d))) b4 b5 h' (by
        rcases hm with hm | hm
        · cases hm.1
        · cases fresh with
          | nil =>
            simp only [List.length_nil] at hb
            exact .inl ⟨rfl, by omega⟩
          | cons x fs =>
            simp only [List.length_append, List.length_cons]
            exact .inr (by omega))
      refine ⟨M, c3, c4, c5, ?_, hM⟩
      rw [show (!(o :: E).isEmpty) = true from rfl]
      simp only [s_trb, bd]
      exact ih
theorem reached_ok {i_a f : Nat} (e : P i_a = some (F_law_after i_a)) (e2 : P f = some (F_law_reached i_a)) (hW : 1432 ≤ W) (k b : Nat) (S : Store) (t : Tr) (p q : Int) (n : Nat) (hq : q = p + n) (h8 : n ≤ 8) (hk : 20 ≤ k) (ht : Nm t p q) :
    ∃ M : List Tr, run P isi0 W (k + 1) b f [t.d] S = .ok (.lst (M.map Tr.d)) S ∧ (∀ u, u ∈ M ↔ Rt t u) ∧ ∀ u ∈ M, u.joins = n := by
  have h0 : Rc t p q [t] [t] := ⟨by simp, fun u hu => by
    have := List.mem_singleton.mp hu
    subst this
    exact ⟨ht, .refl _⟩, List.mem_singleton.mpr rfl, fun u hu => hu, fun u hu hn => absurd hu hn⟩
  obtain ⟨M, b3, b4, b5, wg, hM⟩ := wh_go (W := W) e k S.length S t p q n hq h8 hk (some t.d) W [t] [t] none none none h0 (.inr (by simp; omega))
  refine ⟨M, ?_, hM.all, fun u hu => by have := (hM.nm u hu).1.joins; omega⟩
  rw [run_nk e2 rfl rfl]
  have main : evS (cl P W k S.length) (F_law_reached i_a).body [some t.d, none, none, none, none, none] S = .rt (.lst (M.map Tr.d)) [some t.d, some (.lst (M.map Tr.d)), some (.lst []), b3, b4, b5] S := by
    unfold F_law_reached
    refine (seq_nx (ρ1 := [some t.d, some (.lst [t.d]), some (.lst [t.d]), none, none, none]) (S1 := S) ?_).trans ?_
    · simp [bindT]
    refine (seq_nx (ρ1 := [some t.d, some (.lst (M.map Tr.d)), some (.lst []), b3, b4, b5]) (S1 := S) ?_).trans rfl
    exact wg
  show endC false S.length (evS (cl P W k S.length) (F_law_reached i_a).body [some t.d, none, none, none, none, none] S) = _
  rw [main]
  exact endC_rt (frees_map M)
end
end EV
/-! PLy: check_alike, why_not, leads_to. -/
namespace EV
open L2 PySem
/-- check_alike -/
def F_check_alikeR (rs : Sm) (i_reaches : Nat) : Fn := { name := "check_alike", ps := ["groupings"], ns := ["groupings", "sizes", "grouping", "size"], body := (.cons (.set 1 (.lc (.v 2) [2] (.it (.v 0)) .yes (.pr .len (.cons (.cal i_reaches (.cons (.v 2) .nil)) .nil)))) (.cons (.ite (.pr .any (.cons (.lc (.v 3) [3] (.it (.v 1)) .yes (.cm .ne (.v 3) (.ix (.v 1) (.k (.int 0))))) .nil)) (.cons rs .nil) .nil) .nil)) }
abbrev F_check_alike (i_reaches : Nat) : Fn := F_check_alikeR .nev i_reaches
/-- why_not -/
def F_why_not (i_reaches i_check_alike : Nat) : Fn := { name := "why_not", ps := ["one", "other"], ns := ["one", "other", "far", "place", "reach"], body := (.cons (.ex (.cal i_check_alike (.cons (.tu (.cons (.v 0) (.cons (.v 1) .nil))) .nil))) (.cons (.set 2 (.cal i_reaches (.cons (.v 1) .nil))) (.cons (.forr (.t (.cons (.v 3) (.cons (.v 4) .nil))) (.en (.cal i_reaches (.cons (.v 0) .nil))) (.cons (.ite (.cm .gt (.v 4) (.ix (.v 2) (.v 3))) (.cons (.ret (.bi .add (.v 3) (.k (.int 1)))) .nil) .nil) .nil)) (.cons (.ret (.k .non)) .nil)))) }
/-- leads_to -/
def F_leads_to (i_why_not : Nat) : Fn := { name := "leads_to", ps := ["one", "other"], ns := ["one", "other"], body := (.cons (.ret (.cm .is (.cal i_why_not (.cons (.v 0) (.cons (.v 1) .nil))) (.k .non))) .nil) }
@[simp] theorem s_exs {C : Cl} {ρ : Env} {S : Store} (e : Ex) : evS C (.ex e) ρ S = (ev C e ρ S).then ρ fun _ S1 => .nx ρ S1 := rfl
theorem any_false {S : Store} : ∀ xs : List D, prim .any S [.lst (xs.map fun _ => .bl false)] = some (.bl false) := by
  intro xs
  have q : ∀ ys : List D, boolsD (ys.map fun _ => D.bl false) = some (ys.map fun _ => false) := fun ys => by
    induction ys with
    | nil => rfl
    | cons y ys ih => simp only [List.map_cons, boolsD, ih, Option.map_some]
  show (boolsD (xs.map fun _ => D.bl false)).map _ = _
  rw [q]
  simp
/-- the first place where a is more than b -/
def wn : Int → List Int → List Int → Option Int
  | k, a :: as, b :: bs => if b < a then some (k + 1) else wn (k + 1) as bs
  | _, _, _ => none
def wnD : Option Int → D
  | some i => .int i
  | none => .non
theorem wn_leL : ∀ (as bs : List Int) (k : Int), (wn k as bs).isNone = leL as bs
  | [], _, _ => rfl
  | _ :: _, [], _ => rfl
  | a :: as, b :: bs, k => by
    unfold wn leL
    by_cases h : b < a
    · rw [if_pos h, decide_eq_false (by omega)]
      rfl
    · rw [if_neg h, decide_eq_true (by omega), Bool.true_and]
      exact wn_leL as bs (k + 1)
section
variable {P : Prg} {W : Nat}
theorem check_alike_ok {rs : Sm} {i_n i_e i_s i_r f : Nat} (e : P i_n = some F_is_number) (e2 : P i_e = some (F_ends i_n)) (e3 : P i_s = some (F_spans i_e i_s i_n)) (e4 : P i_r = some (F_reaches i_s)) (e5 : P f = some (F_check_alikeR rs i_r)) (n : Nat) (hw : n < W) (hn : n < 9000) (k b : Nat) (S : Store) (hk : n + 5 ≤ k)
    (xs : List D) (h : ∀ x ∈ xs, ∃ t, IsG t x ∧ t.joins = n) : run P isi0 W k b f [.tup xs] S = .ok .non S ∧ run P isi0 W k b f [.lst xs] S = .ok .non S := by
  obtain ⟨k, rfl⟩ : ∃ m, k = m + 1 := ⟨k - 1, by omega⟩
  have c1 : ∀ d : D, lcGo (ev (cl P W k S.length) .yes) (ev (cl P W k S.length) (.pr .len (.cons (.cal i_r (.cons (.v 2) .nil)) .nil))) (.v 2) [2] [some d, none, none, none] xs [] S = .ok (xs.map fun _ => .int n) S := fun d => by
    rw [lc_map (f := fun _ => .int n) xs [] (fun x hx => by
      obtain ⟨t, g, ht⟩ := h x hx
      refine ⟨[some d, none, some x, none], rfl, rfl, ?_⟩
      have := reaches_ok (W := W) e e2 e3 e4 g k S.length S (by omega) (by omega) (by omega)
      simp [dfl_nil e4 rfl, this, t.spans_len, ht])]
    rw [List.reverse_nil, List.nil_append]
  have c2 : ∀ d : D, lcGo (ev (cl P W k S.length) .yes) (ev (cl P W k S.length) (.cm .ne (.v 3) (.ix (.v 1) (.k (.int 0))))) (.v 3) [3] [some d, some (.lst (xs.map fun _ => D.int n)), none, none] (xs.map fun _ => D.int n) [] S = .ok (xs.map fun _ => .bl false) S := fun d => by
    rw [lc_map (f := fun _ => .bl false) _ [] (fun x hx => by
      obtain ⟨y, hy, rfl⟩ := List.mem_map.mp hx
      refine ⟨[some d, some (.lst (xs.map fun _ => D.int n)), none, some (.int n)], rfl, rfl, ?_⟩
      cases xs with
      | nil => cases hy
      | cons z zs => simp [idx, atI, ixN])]
    rw [List.reverse_nil, List.nil_append, List.map_map]
    rfl
  have af := any_false (S := S) xs
  generalize xs.map (fun _ => D.int n) = SZ at c1 c2
  generalize xs.map (fun _ => D.bl false) = BF at c2 af
  refine ⟨?_, ?_⟩
  · rw [run_nk e5 rfl rfl]
    simp [F_check_alikeR, startD, c1, c2, af]
    exact fin_free rfl
  · rw [run_nk e5 rfl rfl]
    simp [F_check_alikeR, startD, c1, c2, af]
    exact fin_free rfl
theorem wn_go (C : Cl) (S : Store) (a0 a1 : Option D) (F : List Int) : ∀ (as bs : List Int) (k : Nat) (a3 a4 : Option D), F.drop k = bs → as.length ≤ bs.length →
    (∃ b3 b4, forGo (evS C (.cons (.ite (.cm .gt (.v 4) (.ix (.v 2) (.v 3))) (.cons (.ret (.bi .add (.v 3) (.k (.int 1)))) .nil) .nil) .nil)) (.t (.cons (.v 3) (.cons (.v 4) .nil))) (enD (k : Int) (as.map .int)) [a0, a1, some (.tup (F.map .int)), a3, a4] S =
      (match wn k as bs with | none => .nx [a0, a1, some (.tup (F.map .int)), b3, b4] S | some i => .rt (.int i) [a0, a1, some (.tup (F.map .int)), b3, b4] S))
  | [], bs, k, a3, a4, _, _ => ⟨a3, a4, by cases bs <;> rfl⟩
  | a :: as, [], k, a3, a4, _, h => by simp at h
  | a :: as, b :: bs, k, a3, a4, hd, hl => by
    have hk : F[k]? = some b := by
      rw [← List.head?_drop, hd]
      rfl
    have hkl := (List.getElem?_eq_some_iff.mp hk).1
    have ix : idx S (.tup (F.map .int)) (.int (k : Int)) = some (.int b) := by
      have := (ix_ints (S := S) F k hkl).1
      rw [this]
      congr 2
      exact (List.getElem?_eq_some_iff.mp hk).2
    have bd : evS C (.cons (.ite (.cm .gt (.v 4) (.ix (.v 2) (.v 3))) (.cons (.ret (.bi .add (.v 3) (.k (.int 1)))) .nil) .nil) .nil) [a0, a1, some (.tup (F.map .int)), some (.int (k : Int)), some (.int a)] S =
        if b < a then .rt (.int ((k : Int) + 1)) [a0, a1, some (.tup (F.map .int)), some (.int (k : Int)), some (.int a)] S else .nx [a0, a1, some (.tup (F.map .int)), some (.int (k : Int)), some (.int a)] S := by
      generalize F.map D.int = FF at ix
      by_cases h : b < a <;> simp [ix, h]
    rw [List.map_cons, enD, forGo]
    have hb : bindT (.t (.cons (.v 3) (.cons (.v 4) .nil))) (.tup [.int (k : Int), .int a]) [a0, a1, some (.tup (F.map .int)), a3, a4] = some [a0, a1, some (.tup (F.map .int)), some (.int (k : Int)), some (.int a)] := rfl
    rw [hb]
    simp only [bd]
    unfold wn
    by_cases h : b < a
    · rw [if_pos h, if_pos h]
      exact ⟨_, _, rfl⟩
    · rw [if_neg h, if_neg h]
      have hd2 : F.drop (k + 1) = bs := by
        rw [← List.drop_drop, hd]
        rfl
      obtain ⟨b3, b4, ih⟩ := wn_go C S a0 a1 F as bs (k + 1) (some (.int (k : Int))) (some (.int a)) hd2 (by simpa using hl)
      rw [show ((k + 1 : Nat) : Int) = (k : Int) + 1 by omega] at ih
      exact ⟨b3, b4, ih⟩
theorem why_not_ok {rs : Sm} {i_n i_e i_s i_r i_c f : Nat} (e : P i_n = some F_is_number) (e2 : P i_e = some (F_ends i_n)) (e3 : P i_s = some (F_spans i_e i_s i_n)) (e4 : P i_r = some (F_reaches i_s)) (e5 : P i_c = some (F_check_alikeR rs i_r)) (e6 : P f = some (F_why_not i_r i_c)) {t u : Tr} {x y : D} (gt : IsG t x) (gu : IsG u y) (hj : t.joins = u.joins)
    (hw : t.joins < W) (hn : t.joins < 9000) (k b : Nat) (S : Store) (hk : t.joins + 6 ≤ k) : run P isi0 W k b f [x, y] S = .ok (wnD (wn 0 t.rch u.rch)) S := by
  obtain ⟨k, rfl⟩ : ∃ m, k = m + 1 := ⟨k - 1, by omega⟩
  have ca := (check_alike_ok (W := W) e e2 e3 e4 e5 t.joins hw hn k S.length S (by omega) [x, y] (fun z hz => by
    simp only [List.mem_cons, List.not_mem_nil, or_false] at hz
    rcases hz with rfl | rfl
    · exact ⟨t, gt, rfl⟩
    · exact ⟨u, gu, hj.symm⟩)).1
  have rt := reaches_ok (W := W) e e2 e3 e4 gt k S.length S (by omega) (by omega) (by omega)
  have ru := reaches_ok (W := W) e e2 e3 e4 gu k S.length S (by omega) (by omega) (by omega)
  have er : t.spans.map (·.2.2) = t.rch := rfl
  have eu : u.spans.map (·.2.2) = u.rch := rfl
  rw [er] at rt
  rw [eu] at ru
  obtain ⟨b3, b4, wg⟩ := wn_go (cl P W k S.length) S (some x) (some y) u.rch t.rch u.rch 0 none none rfl (by rw [Tr.rch_len, Tr.rch_len, hj]; exact Nat.le_refl _)
  rw [run_nk e6 rfl rfl]
  have s1 : evS (cl P W k S.length) (.ex (.cal i_c (.cons (.tu (.cons (.v 0) (.cons (.v 1) .nil))) .nil))) [some x, some y, none, none, none] S = .nx [some x, some y, none, none, none] S := by
    simp [dfl_nil e5 rfl, ca]
  have s2 : evS (cl P W k S.length) (.set 2 (.cal i_r (.cons (.v 1) .nil))) [some x, some y, none, none, none] S = .nx [some x, some y, some (.tup (u.rch.map .int)), none, none] S := by
    simp [dfl_nil e4 rfl, ru]
  have it : evi (cl P W k S.length) (.en (.cal i_r (.cons (.v 0) .nil))) [some x, some y, some (.tup (u.rch.map .int)), none, none] S = .ok (enD 0 (t.rch.map .int)) S := by
    show (ev (cl P W k S.length) (.cal i_r (.cons (.v 0) .nil)) [some x, some y, some (.tup (u.rch.map .int)), none, none] S).bind _ = _
    have : ev (cl P W k S.length) (.cal i_r (.cons (.v 0) .nil)) [some x, some y, some (.tup (u.rch.map .int)), none, none] S = .ok (.tup (t.rch.map .int)) S := by
      simp [dfl_nil e4 rfl, rt]
    rw [this]
    rfl
  show endC false S.length (evS (cl P W k S.length) (F_why_not i_r i_c).body [some x, some y, none, none, none] S) = _
  unfold F_why_not
  rw [seq_nx s1, seq_nx s2]
  rw [s_seq, s_for, it, s_then]
  have wg' := wg
  rw [Int.natCast_zero] at wg'
  rw [wg']
  cases wn 0 t.rch u.rch with
  | none => exact endC_rt rfl
  | some i => exact endC_rt rfl
theorem leads_to_ok {rs : Sm} {i_n i_e i_s i_r i_c i_w f : Nat} (e : P i_n = some F_is_number) (e2 : P i_e = some (F_ends i_n)) (e3 : P i_s = some (F_spans i_e i_s i_n)) (e4 : P i_r = some (F_reaches i_s)) (e5 : P i_c = some (F_check_alikeR rs i_r)) (e6 : P i_w = some (F_why_not i_r i_c)) (e7 : P f = some (F_leads_to i_w)) {t u : Tr} {x y : D} (gt : IsG t x) (gu : IsG u y) (hj : t.joins = u.joins)
    (hw : t.joins < W) (hn : t.joins < 9000) (k b : Nat) (S : Store) (hk : t.joins + 7 ≤ k) : run P isi0 W k b f [x, y] S = .ok (.bl (leL t.rch u.rch)) S := by
  obtain ⟨k, rfl⟩ : ∃ m, k = m + 1 := ⟨k - 1, by omega⟩
  have wo := why_not_ok (W := W) e e2 e3 e4 e5 e6 gt gu hj hw hn k S.length S (by omega)
  rw [run_nk e7 rfl rfl, ← wn_leL t.rch u.rch 0]
  cases hq : wn 0 t.rch u.rch with
  | none =>
    rw [hq] at wo
    simp [F_leads_to, startD, dfl_nil e6 rfl, wo, wnD, isNon]
    exact endC_rt rfl
  | some i =>
    rw [hq] at wo
    simp [F_leads_to, startD, dfl_nil e6 rfl, wo, wnD, isNon]
    exact endC_rt rfl
end
end EV
/-! PLz: raise Unlike; is_between, stand_of, unlike_joins; _law_of, _law_mixed, _law_goes, _law_pushed. -/
namespace EV
open L2 PySem
@[simp] theorem s_binde {α β : Type} {e : D} {S : Store} {f : α → Store → R β} : (R.er e S : R α).bind f = .er e S := rfl
@[simp] theorem s_thene {α : Type} {e : D} {S : Store} {ρ : Env} {f : α → Store → RS} : (R.er e S : R α).then ρ f = .er e ρ S := rfl
@[simp] theorem s_rais {C : Cl} {ρ : Env} {S : Store} (c : Nat) : evS C (.rais c .nil) ρ S = .er (.exc c []) ρ S := rfl
theorem s_try {C : Cl} {ρ : Env} {S : Store} (b hs : Sm) : evS C (.tryy b hs) ρ S = (match evS C b ρ S with
    | .er (.exc c vs) ρ1 S1 => evH C hs c vs ρ1 S1
    | r => r) := rfl
theorem s_callk {C : Cl} {ρ : Env} {S : Store} (f : Nat) (as ks : Ex) (ns : List PySem.Str) (perm : List Nat) : ev C (.calk f as ks ns perm) ρ S = (evs C as ρ S).bind fun xs S1 => (evs C ks ρ S1).bind fun ys S2 => C.call C.base f (pick (xs ++ ys ++ C.dfl f 0) perm) S2 := rfl
theorem Box.mono {S : Store} {b Z Z' : Nat} (h : Box S b Z) (hz : Z ≤ Z') : Box S b Z' := by
  obtain ⟨x, y, z, h1, h2, h3, h4, h5⟩ := h
  exact ⟨x, y, z, h1, h2, h3, h4, by omega⟩
/-- raise Unlike() -/
abbrev rUn : Sm := .rais 4 .nil
abbrev eUn : D := .exc 4 []
theorem endC_er {ρ : Env} {S : Store} : endC false S.length (.er eUn ρ S) = .er eUn S := by
  show (if true = true then R.er eUn (S.take S.length) else .fl) = _
  rw [if_pos rfl, List.take_length]
theorem any_map {α : Type} {S : Store} (q : α → Bool) (l : List α) : prim .any S [.lst (l.map fun a => .bl (q a))] = some (.bl (l.any q)) := by
  have h : ∀ l : List α, boolsD (l.map fun a => D.bl (q a)) = some (l.map q) := fun l => by
    induction l with
    | nil => rfl
    | cons y ys ih => simp only [List.map_cons, boolsD, ih, Option.map_some]
  show (boolsD (l.map fun a => D.bl (q a))).map _ = _
  rw [h]
  simp
theorem lc_mapz {α : Type} {c e : Env → Store → R D} {t : Tg} {vs : List Nat} {ρ : Env} {S : Store} {g h : α → D} : ∀ (l : List α) (acc : List D), (∀ a ∈ l, ∃ ρ1, bindT t (g a) (wipeD ρ vs) = some ρ1 ∧ c ρ1 S = .ok (.bl true) S ∧ e ρ1 S = .ok (h a) S) →
    lcGo c e t vs ρ (l.map g) acc S = .ok (acc.reverse ++ l.map h) S
  | [], acc, _ => by rw [List.map_nil, lcGo, List.map_nil, List.append_nil]
  | x :: xs, acc, hh => by
    obtain ⟨ρ1, h1, h2, h3⟩ := hh x List.mem_cons_self
    rw [List.map_cons, lcGo, h1]
    simp only [h2, s_trb, h3]
    rw [lc_mapz xs (h x :: acc) fun y hy => hh y (List.mem_cons_of_mem _ hy)]
    simp
/-- is_between -/
def F_is_between (i_leads_to i_check_alike : Nat) : Fn := { name := "is_between", ps := ["low", "grouping", "high"], ns := ["low", "grouping", "high"], body := (.cons (.ex (.cal i_check_alike (.cons (.tu (.cons (.v 0) (.cons (.v 1) (.cons (.v 2) .nil)))) .nil))) (.cons (.ret (.an (.cal i_leads_to (.cons (.v 0) (.cons (.v 1) .nil))) (.cal i_leads_to (.cons (.v 1) (.cons (.v 2) .nil))))) .nil)) }
/-- stand_of -/
def F_stand_of (i_leads_to : Nat) : Fn := { name := "stand_of", ps := ["one", "other"], ns := ["one", "other", "ahead", "behind"], body := (.cons (.asg (.t (.cons (.v 2) (.cons (.v 3) .nil))) (.tu (.cons (.cal i_leads_to (.cons (.v 0) (.cons (.v 1) .nil))) (.cons (.cal i_leads_to (.cons (.v 1) (.cons (.v 0) .nil))) .nil)))) (.cons (.ite (.v 2) (.cons (.ret (.ite (.v 3) (.k (.str "same")) (.k (.str "ahead")))) .nil) .nil) (.cons (.ret (.ite (.v 3) (.k (.str "behind")) (.k (.str "apart")))) .nil))) }
/-- unlike_joins -/
def F_unlike_joins (i_reaches i_check_alike : Nat) : Fn := { name := "unlike_joins", ps := ["one", "other"], ns := ["one", "other", "far", "place", "reach"], body := (.cons (.ex (.cal i_check_alike (.cons (.tu (.cons (.v 0) (.cons (.v 1) .nil))) .nil))) (.cons (.set 2 (.cal i_reaches (.cons (.v 1) .nil))) (.cons (.ret (.pr .tuple (.cons (.lc (.t (.cons (.v 3) (.cons (.v 4) .nil))) [3, 4] (.en (.cal i_reaches (.cons (.v 0) .nil))) (.cm .ne (.v 4) (.ix (.v 2) (.v 3))) (.bi .add (.v 3) (.k (.int 1)))) .nil))) .nil))) }
/-- _law_of -/
def F_law_of (i_law_take : Nat) : Fn := { name := "_law_of", ps := ["_law_box_here", "_law_some"], ns := ["_law_box_here", "_law_some"], body := (.cons (.ret (.ix (.v 1) (.cal i_law_take (.cons (.v 0) (.cons (.pr .len (.cons (.v 1) .nil)) .nil))))) .nil) }
/-- _law_mixed -/
def F_law_mixed (i_law_take i_law_mixed : Nat) : Fn := { name := "_law_mixed", ps := ["_law_box_here", "_law_matter"], ns := ["_law_box_here", "_law_matter", "_law_bits", "_law_bit"], body := (.cons (.ite (.un .not (.isi (.v 1) [.ty "list", .ty "tuple"])) (.cons (.ret (.v 1)) .nil) .nil) (.cons (.set 2 (.lc (.v 3) [3] (.it (.v 1)) .yes (.cal i_law_mixed (.cons (.v 0) (.cons (.v 3) .nil))))) (.cons (.ret (.ite (.cm .eq (.cal i_law_take (.cons (.v 0) (.cons (.k (.int 2)) .nil))) (.k (.int 0))) (.v 2) (.pr .tuple (.cons (.v 2) .nil)))) .nil))) }
/-- _law_goes -/
def F_law_goes (i_law_arms : Nat) : Fn := { name := "_law_goes", ps := ["_law_one_so", "_law_far_so"], ns := ["_law_one_so", "_law_far_so", "_law_mine", "_law_its"], body := (.cons (.ret (.pr .all (.cons (.lc (.t (.cons (.v 2) (.cons (.v 3) .nil))) [2, 3] (.zp (.cal i_law_arms (.cons (.v 0) .nil)) (.cal i_law_arms (.cons (.v 1) .nil))) .yes (.cm .le (.v 2) (.v 3))) .nil))) .nil) }
/-- _law_pushed -/
def F_law_pushed (i_law_take i_law_of i_law_after : Nat) : Fn := { name := "_law_pushed", ps := ["_law_box_here", "_law_tree_so", "_law_most_so"], ns := ["_law_box_here", "_law_tree_so", "_law_most_so", "_law_here", "_law_lap", "_law_nexts_so"], body := (.cons (.set 3 (.v 1)) (.cons (.forr (.v 4) (.rg1 (.cal i_law_take (.cons (.v 0) (.cons (.bi .add (.v 2) (.k (.int 1))) .nil)))) (.cons (.set 5 (.cal i_law_after (.cons (.v 3) .nil))) (.cons (.set 3 (.ite (.cm .ne (.v 5) (.li .nil)) (.cal i_law_of (.cons (.v 0) (.cons (.v 5) .nil))) (.v 3))) .nil))) (.cons (.ret (.v 3)) .nil))) }
def leB : List Int → List Int → List D
  | a :: as, b :: bs => .bl (decide (a ≤ b)) :: leB as bs
  | _, _ => []
theorem leB_all {S : Store} : ∀ as bs : List Int, prim .all S [.lst (leB as bs)] = some (.bl (leL as bs)) := by
  have q : ∀ as bs : List Int, ∃ l : List Bool, boolsD (leB as bs) = some l ∧ l.all id = leL as bs := by
    intro as
    induction as with
    | nil => exact fun bs => ⟨[], rfl, rfl⟩
    | cons a as ih =>
      intro bs
      cases bs with
      | nil => exact ⟨[], rfl, rfl⟩
      | cons b bs =>
        obtain ⟨l, h1, h2⟩ := ih bs
        refine ⟨decide (a ≤ b) :: l, ?_, ?_⟩
        · simp only [leB, boolsD, h1, Option.map_some]
        · simp only [List.all_cons, h2, leL, id]
  intro as bs
  obtain ⟨l, h1, h2⟩ := q as bs
  show (boolsD (leB as bs)).map _ = _
  rw [h1, ← h2]
  rfl
section
variable {P : Prg} {W : Nat} {i_n i_e i_s i_r i_c i_w i_lt f : Nat}
theorem check_alike_er (e : P i_n = some F_is_number) (e2 : P i_e = some (F_ends i_n)) (e3 : P i_s = some (F_spans i_e i_s i_n)) (e4 : P i_r = some (F_reaches i_s)) (e5 : P f = some (F_check_alikeR rUn i_r)) (N : Nat) (hw : N < W) (hn : N < 9000) (k b : Nat) (S : Store) (hk : N + 5 ≤ k)
    (p0 : Tr × D) (ps : List (Tr × D)) (h : ∀ p ∈ p0 :: ps, IsG p.1 p.2 ∧ p.1.joins ≤ N) (hne : ∃ p ∈ ps, p.1.joins ≠ p0.1.joins) : run P isi0 W k b f [.tup ((p0 :: ps).map (·.2))] S = .er eUn S := by
  obtain ⟨k, rfl⟩ : ∃ m, k = m + 1 := ⟨k - 1, by omega⟩
  have c1 : ∀ d : D, lcGo (ev (cl P W k S.length) .yes) (ev (cl P W k S.length) (.pr .len (.cons (.cal i_r (.cons (.v 2) .nil)) .nil))) (.v 2) [2] [some d, none, none, none] ((p0 :: ps).map (·.2)) [] S = .ok ((p0 :: ps).map fun p => .int p.1.joins) S := fun d => by
    rw [lc_mapz (h := fun p => D.int p.1.joins) (p0 :: ps) [] (fun p hp => by
      obtain ⟨g, ht⟩ := h p hp
      refine ⟨[some d, none, some p.2, none], rfl, rfl, ?_⟩
      have := reaches_ok (W := W) e e2 e3 e4 g k S.length S (by omega) (by omega) (by omega)
      simp [dfl_nil e4 rfl, this, p.1.spans_len])]
    rw [List.reverse_nil, List.nil_append]
  have c2 : ∀ d : D, lcGo (ev (cl P W k S.length) .yes) (ev (cl P W k S.length) (.cm .ne (.v 3) (.ix (.v 1) (.k (.int 0))))) (.v 3) [3] [some d, some (.lst ((p0 :: ps).map fun p => D.int p.1.joins)), none, none] ((p0 :: ps).map fun p => D.int p.1.joins) [] S = .ok ((p0 :: ps).map fun p => .bl (!decide ((p.1.joins : Int) = p0.1.joins))) S := fun d => by
    rw [lc_mapz (h := fun p => D.bl (!decide ((p.1.joins : Int) = p0.1.joins))) (p0 :: ps) [] (fun p hp => by
      refine ⟨[some d, some (.lst ((p0 :: ps).map fun p => D.int p.1.joins)), none, some (.int p.1.joins)], rfl, rfl, ?_⟩
      have ix : idx S (.lst ((p0 :: ps).map fun p => D.int p.1.joins)) (.int 0) = some (.int p0.1.joins) := by simp [idx, atI, ixN]
      generalize (p0 :: ps).map (fun p => D.int p.1.joins) = L at ix
      simp [ix])]
    rw [List.reverse_nil, List.nil_append]
  have af := any_map (S := S) (fun p : Tr × D => !decide ((p.1.joins : Int) = p0.1.joins)) (p0 :: ps)
  have at_ : (p0 :: ps).any (fun p : Tr × D => !decide ((p.1.joins : Int) = p0.1.joins)) = true := by
    obtain ⟨p, hp, hj⟩ := hne
    refine List.any_eq_true.mpr ⟨p, List.mem_cons_of_mem _ hp, ?_⟩
    have : ¬ ((p.1.joins : Int) = p0.1.joins) := by omega
    rw [decide_eq_false this]
    rfl
  rw [at_] at af
  generalize (p0 :: ps).map (fun p => D.bl (!decide ((p.1.joins : Int) = p0.1.joins))) = BF at c2 af
  generalize (p0 :: ps).map (fun p => D.int p.1.joins) = SZ at c1 c2
  generalize (p0 :: ps).map (·.2) = XS at c1
  rw [run_nk e5 rfl rfl]
  simp [F_check_alikeR, startD, c1, c2, af]
  exact endC_er
section
variable (e : P i_n = some F_is_number) (e2 : P i_e = some (F_ends i_n)) (e3 : P i_s = some (F_spans i_e i_s i_n)) (e4 : P i_r = some (F_reaches i_s)) (e5 : P i_c = some (F_check_alikeR rUn i_r))
include e e2 e3 e4 e5
theorem alike2_er {t u : Tr} {x y : D} (gt : IsG t x) (gu : IsG u y) (hj : t.joins ≠ u.joins) (N : Nat) (h1 : t.joins ≤ N) (h2 : u.joins ≤ N) (hw : N < W) (hn : N < 9000) (k b : Nat) (S : Store) (hk : N + 5 ≤ k) : run P isi0 W k b i_c [.tup [x, y]] S = .er eUn S :=
  check_alike_er e e2 e3 e4 e5 N hw hn k b S hk (t, x) [(u, y)] (fun p hp => by
    simp only [List.mem_cons, List.not_mem_nil, or_false] at hp
    rcases hp with rfl | rfl
    · exact ⟨gt, h1⟩
    · exact ⟨gu, h2⟩) ⟨(u, y), List.mem_cons_self, Ne.symm hj⟩
theorem why_not_er (e6 : P i_w = some (F_why_not i_r i_c)) {t u : Tr} {x y : D} (gt : IsG t x) (gu : IsG u y) (hj : t.joins ≠ u.joins) (N : Nat) (h1 : t.joins ≤ N) (h2 : u.joins ≤ N) (hw : N < W) (hn : N < 9000) (k b : Nat) (S : Store) (hk : N + 6 ≤ k) :
    run P isi0 W k b i_w [x, y] S = .er eUn S := by
  obtain ⟨k, rfl⟩ : ∃ m, k = m + 1 := ⟨k - 1, by omega⟩
  have ca := alike2_er e e2 e3 e4 e5 gt gu hj N h1 h2 hw hn k S.length S (by omega)
  rw [run_nk e6 rfl rfl]
  have s1 : evS (cl P W k S.length) (.ex (.cal i_c (.cons (.tu (.cons (.v 0) (.cons (.v 1) .nil))) .nil))) [some x, some y, none, none, none] S = .er eUn [some x, some y, none, none, none] S := by
    simp [dfl_nil e5 rfl, ca]
  show endC false S.length (evS (cl P W k S.length) (F_why_not i_r i_c).body [some x, some y, none, none, none] S) = _
  unfold F_why_not
  rw [s_seq, s1]
  exact endC_er
theorem leads_to_er (e6 : P i_w = some (F_why_not i_r i_c)) (e7 : P i_lt = some (F_leads_to i_w)) {t u : Tr} {x y : D} (gt : IsG t x) (gu : IsG u y) (hj : t.joins ≠ u.joins) (N : Nat) (h1 : t.joins ≤ N) (h2 : u.joins ≤ N) (hw : N < W) (hn : N < 9000) (k b : Nat) (S : Store) (hk : N + 7 ≤ k) :
    run P isi0 W k b i_lt [x, y] S = .er eUn S := by
  obtain ⟨k, rfl⟩ : ∃ m, k = m + 1 := ⟨k - 1, by omega⟩
  have wn := why_not_er e e2 e3 e4 e5 e6 gt gu hj N h1 h2 hw hn k S.length S (by omega)
  rw [run_nk e7 rfl rfl]
  simp [F_leads_to, startD, dfl_nil e6 rfl, wn]
  exact endC_er
theorem is_between_ok (e6 : P i_w = some (F_why_not i_r i_c)) (e7 : P i_lt = some (F_leads_to i_w)) (e8 : P f = some (F_is_between i_lt i_c)) {t u v : Tr} {x y z : D} (gt : IsG t x) (gu : IsG u y) (gv : IsG v z) (n : Nat) (h1 : t.joins = n) (h2 : u.joins = n) (h3 : v.joins = n) (hw : n < W) (hn : n < 9000) (k b : Nat) (S : Store) (hk : n + 8 ≤ k) :
    run P isi0 W k b f [x, y, z] S = .ok (.bl (leL t.rch u.rch && leL u.rch v.rch)) S := by
  obtain ⟨k, rfl⟩ : ∃ m, k = m + 1 := ⟨k - 1, by omega⟩
  have ca := (check_alike_ok (W := W) e e2 e3 e4 e5 n hw hn k S.length S (by omega) [x, y, z] (fun a ha => by
    simp only [List.mem_cons, List.not_mem_nil, or_false] at ha
    rcases ha with rfl | rfl | rfl
    · exact ⟨t, gt, h1⟩
    · exact ⟨u, gu, h2⟩
    · exact ⟨v, gv, h3⟩)).1
  have l1 := leads_to_ok (W := W) e e2 e3 e4 e5 e6 e7 gt gu (by omega) (by omega) (by omega) k S.length S (by omega)
  have l2 := leads_to_ok (W := W) e e2 e3 e4 e5 e6 e7 gu gv (by omega) (by omega) (by omega) k S.length S (by omega)
  rw [run_nk e8 rfl rfl]
  cases q : leL t.rch u.rch with
  | true =>
    rw [q] at l1
    simp [F_is_between, startD, dfl_nil e5 rfl, dfl_nil e7 rfl, ca, l1, l2]
    exact endC_rt rfl
  | false =>
    rw [q] at l1
    simp [F_is_between, startD, dfl_nil e5 rfl, dfl_nil e7 rfl, ca, l1]
    exact endC_rt rfl
theorem is_between_er (e8 : P f = some (F_is_between i_lt i_c)) {t u v : Tr} {x y z : D} (gt : IsG t x) (gu : IsG u y) (gv : IsG v z) (hj : t.joins ≠ u.joins) (N : Nat) (h1 : t.joins ≤ N) (h2 : u.joins ≤ N) (h3 : v.joins ≤ N) (hw : N < W) (hn : N < 9000) (k b : Nat) (S : Store) (hk : N + 6 ≤ k) :
    run P isi0 W k b f [x, y, z] S = .er eUn S := by
  obtain ⟨k, rfl⟩ : ∃ m, k = m + 1 := ⟨k - 1, by omega⟩
  have ca : run P isi0 W k S.length i_c [.tup [x, y, z]] S = .er eUn S := check_alike_er e e2 e3 e4 e5 N hw hn k S.length S (by omega) (t, x) [(u, y), (v, z)] (fun p hp => by
    simp only [List.mem_cons, List.not_mem_nil, or_false] at hp
    rcases hp with rfl | rfl | rfl
    · exact ⟨gt, h1⟩
    · exact ⟨gu, h2⟩
    · exact ⟨gv, h3⟩) ⟨(u, y), List.mem_cons_self, Ne.symm hj⟩
  rw [run_nk e8 rfl rfl]
  have s1 : evS (cl P W k S.length) (.ex (.cal i_c (.cons (.tu (.cons (.v 0) (.cons (.v 1) (.cons (.v 2) .nil)))) .nil))) [some x, some y, some z] S = .er eUn [some x, some y, some z] S := by
    simp [dfl_nil e5 rfl, ca]
  show endC false S.length (evS (cl P W k S.length) (F_is_between i_lt i_c).body [some x, some y, some z] S) = _
  unfold F_is_between
  rw [s_seq, s1]
  exact endC_er
def standS (a b : Bool) : PySem.Str := if a then (if b then "same" else "ahead") else (if b then "behind" else "apart")
theorem stand_of_ok (e6 : P i_w = some (F_why_not i_r i_c)) (e7 : P i_lt = some (F_leads_to i_w)) (e8 : P f = some (F_stand_of i_lt)) {t u : Tr} {x y : D} (gt : IsG t x) (gu : IsG u y) (n : Nat) (h1 : t.joins = n) (h2 : u.joins = n) (hw : n < W) (hn : n < 9000) (k b : Nat) (S : Store) (hk : n + 8 ≤ k) :
    run P isi0 W k b f [x, y] S = .ok (.str (standS (leL t.rch u.rch) (leL u.rch t.rch))) S := by
  obtain ⟨k, rfl⟩ : ∃ m, k = m + 1 := ⟨k - 1, by omega⟩
  have l1 := leads_to_ok (W := W) e e2 e3 e4 e5 e6 e7 gt gu (by omega) (by omega) (by omega) k S.length S (by omega)
  have l2 := leads_to_ok (W := W) e e2 e3 e4 e5 e6 e7 gu gt (by omega) (by omega) (by omega) k S.length S (by omega)
  rw [run_nk e8 rfl rfl]
  cases q : leL t.rch u.rch <;> cases q2 : leL u.rch t.rch <;> (
    rw [q] at l1
    rw [q2] at l2
    simp [F_stand_of, startD, dfl_nil e7 rfl, l1, l2, bindT, standS]
    exact endC_rt rfl)
theorem stand_of_er (e6 : P i_w = some (F_why_not i_r i_c)) (e7 : P i_lt = some (F_leads_to i_w)) (e8 : P f = some (F_stand_of i_lt)) {t u : Tr} {x y : D} (gt : IsG t x) (gu : IsG u y) (hj : t.joins ≠ u.joins) (N : Nat) (h1 : t.joins ≤ N) (h2 : u.joins ≤ N) (hw : N < W) (hn : N < 9000) (k b : Nat) (S : Store) (hk : N + 8 ≤ k) :
    run P isi0 W k b f [x, y] S = .er eUn S := by
  obtain ⟨k, rfl⟩ : ∃ m, k = m + 1 := ⟨k - 1, by omega⟩
  have l1 := leads_to_er e e2 e3 e4 e5 e6 e7 gt gu hj N h1 h2 hw hn k S.length S (by omega)
  rw [run_nk e8 rfl rfl]
  simp [F_stand_of, startD, dfl_nil e7 rfl, l1]
  exact endC_er
/-- the places where both differ -/
def uj : Int → List Int → List Int → List Int
  | k, a :: as, b :: bs => if a = b then uj (k + 1) as bs else (k + 1) :: uj (k + 1) as bs
  | _, _, _ => []
omit e e2 e3 e4 e5 in
theorem uj_go (C : Cl) (S : Store) (a0 a1 : Option D) (F : List Int) : ∀ (as bs : List Int) (k : Nat) (acc : List D), F.drop k = bs → as.length ≤ bs.length →
    lcGo (ev C (.cm .ne (.v 4) (.ix (.v 2) (.v 3)))) (ev C (.bi .add (.v 3) (.k (.int 1)))) (.t (.cons (.v 3) (.cons (.v 4) .nil))) [3, 4] [a0, a1, some (.tup (F.map .int)), none, none] (enD (k : Int) (as.map .int)) acc S = .ok (acc.reverse ++ (uj k as bs).map .int) S
  | [], bs, k, acc, _, _ => by
    cases bs <;> (show R.ok acc.reverse S = _; simp [uj])
  | a :: as, [], k, acc, _, h => by simp at h
  | a :: as, b :: bs, k, acc, hd, hl => by
    have hk : F[k]? = some b := by
      rw [← List.head?_drop, hd]
      rfl
    have hkl := (List.getElem?_eq_some_iff.mp hk).1
    have ix : idx S (.tup (F.map .int)) (.int (k : Int)) = some (.int b) := by
      have := (ix_ints (S := S) F k hkl).1
      rw [this]
      congr 2
      exact (List.getElem?_eq_some_iff.mp hk).2
    have hd2 : F.drop (k + 1) = bs := by
      rw [← List.drop_drop, hd]
      rfl
    have ih := fun acc => uj_go C S a0 a1 F as bs (k + 1) acc hd2 (by simpa using hl)
    have ek : ((k + 1 : Nat) : Int) = (k : Int) + 1 := by omega
    rw [ek] at ih
    rw [List.map_cons, enD, lcGo]
    have hb : bindT (.t (.cons (.v 3) (.cons (.v 4) .nil))) (.tup [.int (k : Int), .int a]) (wipeD [a0, a1, some (.tup (F.map .int)), none, none] [3, 4]) = some [a0, a1, some (.tup (F.map .int)), some (.int (k : Int)), some (.int a)] := rfl
    rw [hb]
    have ce : ev C (.cm .ne (.v 4) (.ix (.v 2) (.v 3))) [a0, a1, some (.tup (F.map .int)), some (.int (k : Int)), some (.int a)] S = .ok (.bl (!decide (a = b))) S := by
      generalize F.map D.int = FF at ix
      simp [ix]
    have ve : ev C (.bi .add (.v 3) (.k (.int 1))) [a0, a1, some (.tup (F.map .int)), some (.int (k : Int)), some (.int a)] S = .ok (.int ((k : Int) + 1)) S := rfl
    simp only [ce, s_trb, ve]
    unfold uj
    by_cases h : a = b
    · rw [if_pos h, decide_eq_true h]
      exact ih acc
    · rw [if_neg h, decide_eq_false h]
      simp only [Bool.not_false]
      rw [ih]
      simp
theorem unlike_joins_ok (e8 : P f = some (F_unlike_joins i_r i_c)) {t u : Tr} {x y : D} (gt : IsG t x) (gu : IsG u y) (n : Nat) (h1 : t.joins = n) (h2 : u.joins = n) (hw : n < W) (hn : n < 9000) (k b : Nat) (S : Store) (hk : n + 6 ≤ k) :
    run P isi0 W k b f [x, y] S = .ok (.tup ((uj 0 t.rch u.rch).map .int)) S := by
  obtain ⟨k, rfl⟩ : ∃ m, k = m + 1 := ⟨k - 1, by omega⟩
  have ca := (check_alike_ok (W := W) e e2 e3 e4 e5 n hw hn k S.length S (by omega) [x, y] (fun z hz => by
    simp only [List.mem_cons, List.not_mem_nil, or_false] at hz
    rcases hz with rfl | rfl
    · exact ⟨t, gt, h1⟩
    · exact ⟨u, gu, h2⟩)).1
  have rt := reaches_ok (W := W) e e2 e3 e4 gt k S.length S (by omega) (by omega) (by omega)
  have ru := reaches_ok (W := W) e e2 e3 e4 gu k S.length S (by omega) (by omega) (by omega)
  have er : t.spans.map (·.2.2) = t.rch := rfl
  have eu : u.spans.map (·.2.2) = u.rch := rfl
  rw [er] at rt
  rw [eu] at ru
  have lg := uj_go (cl P W k S.length) S (some x) (some y) u.rch t.rch u.rch 0 [] rfl (by rw [Tr.rch_len, Tr.rch_len]; omega)
  rw [run_nk e8 rfl rfl]
  have s1 : evS (cl P W k S.length) (.ex (.cal i_c (.cons (.tu (.cons (.v 0) (.cons (.v 1) .nil))) .nil))) [some x, some y, none, none, none] S = .nx [some x, some y, none, none, none] S := by
    simp [dfl_nil e5 rfl, ca]
  have s2 : evS (cl P W k S.length) (.set 2 (.cal i_r (.cons (.v 1) .nil))) [some x, some y, none, none, none] S = .nx [some x, some y, some (.tup (u.rch.map .int)), none, none] S := by
    simp [dfl_nil e4 rfl, ru]
  have it : evi (cl P W k S.length) (.en (.cal i_r (.cons (.v 0) .nil))) [some x, some y, some (.tup (u.rch.map .int)), none, none] S = .ok (enD 0 (t.rch.map .int)) S := by
    show (ev (cl P W k S.length) (.cal i_r (.cons (.v 0) .nil)) [some x, some y, some (.tup (u.rch.map .int)), none, none] S).bind _ = _
    have : ev (cl P W k S.length) (.cal i_r (.cons (.v 0) .nil)) [some x, some y, some (.tup (u.rch.map .int)), none, none] S = .ok (.tup (t.rch.map .int)) S := by
      simp [dfl_nil e4 rfl, rt]
    rw [this]
    rfl
  show endC false S.length (evS (cl P W k S.length) (F_unlike_joins i_r i_c).body [some x, some y, none, none, none] S) = _
  unfold F_unlike_joins
  rw [seq_nx s1, seq_nx s2]
  rw [Int.natCast_zero] at lg
  rw [s_seq, s_ret, s_pr, s_cons, s_lc, it, s_bind, lg, s_bind, s_bind, s_nil, s_bind, s_bind, s_tul, s_of, s_then]
  exact endC_rt (dI_free _)
theorem unlike_joins_er (e8 : P f = some (F_unlike_joins i_r i_c)) {t u : Tr} {x y : D} (gt : IsG t x) (gu : IsG u y) (hj : t.joins ≠ u.joins) (N : Nat) (h1 : t.joins ≤ N) (h2 : u.joins ≤ N) (hw : N < W) (hn : N < 9000) (k b : Nat) (S : Store) (hk : N + 6 ≤ k) :
    run P isi0 W k b f [x, y] S = .er eUn S := by
  obtain ⟨k, rfl⟩ : ∃ m, k = m + 1 := ⟨k - 1, by omega⟩
  have ca := alike2_er e e2 e3 e4 e5 gt gu hj N h1 h2 hw hn k S.length S (by omega)
  rw [run_nk e8 rfl rfl]
  have s1 : evS (cl P W k S.length) (.ex (.cal i_c (.cons (.tu (.cons (.v 0) (.cons (.v 1) .nil))) .nil))) [some x, some y, none, none, none] S = .er eUn [some x, some y, none, none, none] S := by
    simp [dfl_nil e5 rfl, ca]
  show endC false S.length (evS (cl P W k S.length) (F_unlike_joins i_r i_c).body [some x, some y, none, none, none] S) = _
  unfold F_unlike_joins
  rw [s_seq, s1]
  exact endC_er
end
theorem goes_ok {i_le i_lp i_ar : Nat} (eLE : P i_le = some F_law_ends) (eLP : P i_lp = some (F_law_pairs i_lp i_le)) (eAr : P i_ar = some (F_law_arms i_lp)) (eG : P f = some (F_law_goes i_ar)) (t u : Tr) (k b : Nat) (S : Store) (n : Nat) (h1 : t.joins ≤ n) (h2 : u.joins ≤ n) (hw : n < W) (hn : n < 9000) (hk : n + 5 ≤ k) :
    run P isi0 W k b f [t.d, u.d] S = .ok (.bl (leL t.rch u.rch)) S := by
  obtain ⟨k, rfl⟩ : ∃ m, k = m + 1 := ⟨k - 1, by omega⟩
  have at_ := arms_ok (W := W) eLE eLP eAr t k S.length S (by omega) (by omega) (by omega)
  have au := arms_ok (W := W) eLE eLP eAr u k S.length S (by omega) (by omega) (by omega)
  have er : t.spans.map (·.2.2) = t.rch := rfl
  have eu : u.spans.map (·.2.2) = u.rch := rfl
  rw [er] at at_
  rw [eu] at au
  have z : evi (cl P W k S.length) (.zp (.cal i_ar (.cons (.v 0) .nil)) (.cal i_ar (.cons (.v 1) .nil))) [some t.d, some u.d, none, none] S = .ok (zpD (t.rch.map .int) (u.rch.map .int)) S := evi_zpt (S1 := S) (by simp [dfl_nil eAr rfl, at_]) (by simp [dfl_nil eAr rfl, au])
  have lg : ∀ (as bs : List Int) (acc : List D), lcGo (ev (cl P W k S.length) .yes) (ev (cl P W k S.length) (.cm .le (.v 2) (.v 3))) (.t (.cons (.v 2) (.cons (.v 3) .nil))) [2, 3] [some t.d, some u.d, none, none] (zpD (as.map .int) (bs.map .int)) acc S = .ok (acc.reverse ++ leB as bs) S := by
    intro as
    induction as with
    | nil => intro bs acc; show R.ok acc.reverse S = _; simp [leB]
    | cons a as ih =>
      intro bs acc
      cases bs with
      | nil => show R.ok acc.reverse S = _; simp [leB]
      | cons b bs =>
        rw [List.map_cons, List.map_cons, zpD, lcGo]
        have hb : bindT (.t (.cons (.v 2) (.cons (.v 3) .nil))) (.tup [.int a, .int b]) (wipeD [some t.d, some u.d, none, none] [2, 3]) = some [some t.d, some u.d, some (.int a), some (.int b)] := rfl
        have he : ev (cl P W k S.length) (.cm .le (.v 2) (.v 3)) [some t.d, some u.d, some (.int a), some (.int b)] S = .ok (.bl (decide (a ≤ b))) S := rfl
        rw [hb]
        simp only [s_yes, s_trb, he]
        rw [ih]
        simp [leB]
  rw [run_nk eG rfl rfl]
  show endC false S.length (evS (cl P W k S.length) (F_law_goes i_ar).body [some t.d, some u.d, none, none] S) = _
  unfold F_law_goes
  rw [s_seq, s_ret, s_pr, s_cons, s_lc, z, s_bind, lg, s_bind, s_bind, s_nil, s_bind, s_bind, List.reverse_nil, List.nil_append, leB_all, s_of, s_then]
  exact endC_rt rfl
/-- a list, a tuple at each depth, drawn -/
theorem mixed_ok {i_t : Nat} (et : P i_t = some F_law_take) (e : P f = some (F_law_mixed i_t f)) : ∀ (t : Tr) (k base : Nat) (S : Store) (b Z : Nat), Box S b Z → Z + t.joins < 2 ^ 60 → t.joins + 2 ≤ k →
    ∃ d S', run P isi0 W k base f [.loc b, t.d] S = .ok d S' ∧ IsG t d ∧ S'.length = S.length ∧ Box S' b (Z + t.joins) ∧ ∀ m, m ≠ b → S'[m]? = S[m]?
  | .lf i, k, base, S, b, Z, bx, hZ, hk => by
    obtain ⟨k, rfl⟩ : ∃ m, k = m + 1 := ⟨k - 1, by omega⟩
    refine ⟨.int i, S, ?_, .lf i, rfl, bx, fun _ _ => rfl⟩
    rw [run_nk e rfl rfl]
    simp [F_law_mixed, startD, Tr.d]
    exact endC_rt rfl
  | .nd x y, k, base, S, b, Z, bx, hZ, hk => by
    simp only [Tr.joins] at hZ hk
    obtain ⟨k, rfl⟩ : ∃ m, k = m + 1 := ⟨k - 1, by omega⟩
    obtain ⟨dx, S1, r1, g1, l1, b1, m1⟩ := mixed_ok et e x k S.length S b Z bx (by omega) (by omega)
    obtain ⟨dy, S2, r2, g2, l2, b2, m2⟩ := mixed_ok et e y k S.length S1 b (Z + x.joins) b1 (by omega) (by omega)
    obtain ⟨k, rfl⟩ : ∃ m, k = m + 1 := ⟨k - 1, by omega⟩
    obtain ⟨r, S3, t3, p3, q3, l3, b3, m3⟩ := take_ok (W := W) et k S.length S2 b (Z + x.joins + y.joins) 2 (by decide) (by decide) b2 (by omega)
    have lc : lcGo (ev (cl P W (k + 1) S.length) .yes) (ev (cl P W (k + 1) S.length) (.cal f (.cons (.v 0) (.cons (.v 3) .nil)))) (.v 3) [3] [some (.loc b), some (.tup [x.d, y.d]), none, none] [x.d, y.d] [] S = .ok [dx, dy] S2 := by
      have h1 : ev (cl P W (k + 1) S.length) (.cal f (.cons (.v 0) (.cons (.v 3) .nil))) [some (.loc b), some (.tup [x.d, y.d]), none, some x.d] S = .ok dx S1 := by simp [dfl_nil e rfl, r1]
      have h2 : ev (cl P W (k + 1) S.length) (.cal f (.cons (.v 0) (.cons (.v 3) .nil))) [some (.loc b), some (.tup [x.d, y.d]), none, some y.d] S1 = .ok dy S2 := by simp [dfl_nil e rfl, r2]
      rw [lcGo]
      have hb : ∀ d : D, bindT (.v 3) d (wipeD [some (.loc b), some (.tup [x.d, y.d]), none, none] [3]) = some [some (.loc b), some (.tup [x.d, y.d]), none, some d] := fun _ => rfl
      rw [hb]
      simp only [s_yes, s_trb, h1]
      rw [lcGo, hb]
      simp only [s_yes, s_trb, h2]
      rfl
    by_cases h0 : r = 0
    · refine ⟨.lst [dx, dy], S3, ?_, .lst g1 g2, by omega, b3.mono (by simp only [Tr.joins]; omega), fun m hm => by rw [m3 m hm, m2 m hm, m1 m hm]⟩
      rw [run_nk e rfl rfl]
      subst h0
      simp [F_law_mixed, startD, Tr.d, lc, dfl_nil et rfl, t3]
      exact endC_rt2 (IsG.lst g1 g2).free (by omega)
    · refine ⟨.tup [dx, dy], S3, ?_, .tup g1 g2, by omega, b3.mono (by simp only [Tr.joins]; omega), fun m hm => by rw [m3 m hm, m2 m hm, m1 m hm]⟩
      rw [run_nk e rfl rfl]
      simp [F_law_mixed, startD, Tr.d, lc, dfl_nil et rfl, t3, h0]
      exact endC_rt2 (IsG.tup g1 g2).free (by omega)
theorem of_ok {i_t : Nat} (et : P i_t = some F_law_take) (e : P f = some (F_law_of i_t)) (L : List Tr) (hL : L ≠ []) (hl : L.length ≤ 5000) (k base : Nat) (S : Store) (b Z : Nat) (bx : Box S b Z) (hZ : Z < 2 ^ 60) :
    ∃ u ∈ L, ∃ S', run P isi0 W (k + 2) base f [.loc b, .lst (L.map Tr.d)] S = .ok u.d S' ∧ S'.length = S.length ∧ Box S' b (Z + 1) ∧ ∀ m, m ≠ b → S'[m]? = S[m]? := by
  have hpos : 0 < L.length := List.length_pos_iff.mpr hL
  obtain ⟨r, S1, t1, p1, q1, l1, b1, m1⟩ := take_ok (W := W) et k S.length S b Z (L.length : Int) (by omega) (log_le (by omega)) bx hZ
  obtain ⟨r, rfl⟩ : ∃ n : Nat, r = n := ⟨r.toNat, by omega⟩
  have hr : r < L.length := by omega
  refine ⟨L[r], List.getElem_mem hr, S1, ?_, l1, b1, m1⟩
  have ix : idx S1 (.lst (L.map Tr.d)) (.int (r : Int)) = some L[r].d := by
    show atI (L.map Tr.d) (r : Int) = _
    unfold atI ixN
    simp [hr]
  have hd : (L.map Tr.d).length = L.length := List.length_map _
  rw [run_nk e rfl rfl]
  generalize L.map Tr.d = LD at ix hd
  simp [F_law_of, startD, dfl_nil et rfl, hd, t1, ix]
  exact endC_rt2 (Tr.isd _).free l1
theorem pushed_ok {i_t i_o i_a : Nat} (et : P i_t = some F_law_take) (eo : P i_o = some (F_law_of i_t)) (ea : P i_a = some (F_law_after i_a)) (e : P f = some (F_law_pushed i_t i_o i_a)) (t : Tr) (p q : Int) (hn : Nm t p q) (hj : t.joins ≤ 40) (mo : Nat) (hm : mo ≤ 100) (k base : Nat) (S : Store) (b Z : Nat) (bx : Box S b Z) (hZ : Z + 200 < 2 ^ 60) (hk : 50 ≤ k) :
    ∃ u S', run P isi0 W k base f [.loc b, t.d, .int (mo : Int)] S = .ok u.d S' ∧ Rt t u ∧ S'.length = S.length ∧ Box S' b (Z + 1 + mo) ∧ ∀ m, m ≠ b → S'[m]? = S[m]? := by
  obtain ⟨k, rfl⟩ : ∃ m, k = m + 3 := ⟨k - 3, by omega⟩
  obtain ⟨r, S1, t1, p1, q1, l1, b1, m1⟩ := take_ok (W := W) et (k + 1) S.length S b Z ((mo : Int) + 1) (by omega) (log_le (by omega)) bx (by omega)
  obtain ⟨r, rfl⟩ : ∃ n : Nat, r = n := ⟨r.toNat, by omega⟩
  have hj2 : ∀ u : Tr, Rt t u → u.joins = t.joins := fun u hu => by
    have a1 := (hu.nm hn).joins
    have a2 := hn.joins
    omega
  obtain ⟨ρ', S', lg, u, z4, z5, rfl, hu, l2, b2, m2⟩ := forGo_inv (b := evS (cl P W (k + 2) S.length) (.cons (.set 5 (.cal i_a (.cons (.v 3) .nil))) (.cons (.set 3 (.ite (.cm .ne (.v 5) (.li .nil)) (.cal i_o (.cons (.v 0) (.cons (.v 5) .nil))) (.v 3))) .nil))) (t := .v 4)
    (fun i ρ S' => ∃ (u : Tr) (z4 z5 : Option D), ρ = [some (.loc b), some t.d, some (.int (mo : Int)), some u.d, z4, z5] ∧ Rt t u ∧ S'.length = S.length ∧ Box S' b (Z + 1 + i) ∧ ∀ m, m ≠ b → S'[m]? = S[m]?)
    ((List.range r).map fun (i : Nat) => D.int (i : Int)) 0 [some (.loc b), some t.d, some (.int (mo : Int)), some t.d, none, none] S1 ⟨t, none, none, rfl, .refl t, l1, b1, m1⟩ (by
      rintro j x ρ S2 hx ⟨u, z4, z5, rfl, hu, l2, b2, m2⟩
      have hjr : j < r := by
        have := (List.getElem?_eq_some_iff.mp hx).1
        simpa using this
      refine ⟨[some (.loc b), some t.d, some (.int (mo : Int)), some u.d, some x, z5], rfl, ?_⟩
      have ju := hj2 u hu
      have af := after_ok (W := W) ea u (k + 2) S.length S2 (by omega) (by omega)
      have nn := ne_nil_d S2 u.after (fun v hv => by
        have a1 := (after_nm (hu.nm hn) v hv).joins
        have a2 := (hu.nm hn).joins
        omega)
      have s1 : evS (cl P W (k + 2) S.length) (.set 5 (.cal i_a (.cons (.v 3) .nil))) [some (.loc b), some t.d, some (.int (mo : Int)), some u.d, some x, z5] S2 = .nx [some (.loc b), some t.d, some (.int (mo : Int)), some u.d, some x, some (.lst (u.after.map Tr.d))] S2 := by
        simp [dfl_nil ea rfl, af]
      by_cases hnil : u.after = []
      · refine ⟨[some (.loc b), some t.d, some (.int (mo : Int)), some u.d, some x, some (.lst (u.after.map Tr.d))], S2, ?_, u, some x, _, rfl, hu, l2, b2.mono (by omega), m2⟩
        rw [hnil] at nn
        have nn : cop .ne S2 (.lst (u.after.map Tr.d)) (.lst []) = some false := by rw [hnil]; exact nn
        generalize u.after.map Tr.d = L at s1 nn
        rw [seq_nx s1]
        simp [nn]
      · obtain ⟨v, hv, S3, o1, l3, b3, m3⟩ := of_ok (W := W) et eo u.after hnil (by have := u.after_len; omega) k S.length S2 b (Z + 1 + (0 + j)) b2 (by omega)
        refine ⟨[some (.loc b), some t.d, some (.int (mo : Int)), some v.d, some x, some (.lst (u.after.map Tr.d))], S3, ?_, v, some x, _, rfl, hu.snoc hv, by omega, b3.mono (by omega), fun m hm => by rw [m3 m hm, m2 m hm]⟩
        have ne : u.after.isEmpty = false := by
          cases h : u.after with
          | nil => exact absurd h hnil
          | cons _ _ => rfl
        rw [ne] at nn
        generalize u.after.map Tr.d = L at s1 nn o1
        rw [seq_nx s1]
        simp [nn, dfl_nil eo rfl, o1])
  refine ⟨u, S', ?_, hu, l2, b2.mono (by simp; omega), m2⟩
  rw [run_nk e rfl rfl]
  have main : evS (cl P W (k + 2) S.length) (F_law_pushed i_t i_o i_a).body [some (.loc b), some t.d, some (.int (mo : Int)), none, none, none] S = .rt u.d [some (.loc b), some t.d, some (.int (mo : Int)), some u.d, z4, z5] S' := by
    unfold F_law_pushed
    refine (seq_nx (ρ1 := [some (.loc b), some t.d, some (.int (mo : Int)), some t.d, none, none]) (S1 := S) rfl).trans ?_
    refine (seq_nx (ρ1 := [some (.loc b), some t.d, some (.int (mo : Int)), some u.d, z4, z5]) (S1 := S') ?_).trans rfl
    have h1 : ev (cl P W (k + 2) S.length) (.cal i_t (.cons (.v 0) (.cons (.bi .add (.v 2) (.k (.int 1))) .nil))) [some (.loc b), some t.d, some (.int (mo : Int)), some t.d, none, none] S = .ok (.int (r : Int)) S1 := by simp [dfl_nil et rfl, t1]
    have it : evi (cl P W (k + 2) S.length) (.rg1 (.cal i_t (.cons (.v 0) (.cons (.bi .add (.v 2) (.k (.int 1))) .nil)))) [some (.loc b), some t.d, some (.int (mo : Int)), some t.d, none, none] S = .ok ((List.range r).map fun (i : Nat) => D.int (i : Int)) S1 := by
      rw [s_rg1, h1, s_bind]
      have q := rg1_ok (r : Int) (by omega) (by omega)
      show (if (small62 (r : Int) && decide ((r : Int) ≤ lim)) = true then R.ok (rgD 0 (r : Int)) S1 else .fl) = _
      rw [if_pos q]
      unfold rgD
      rw [Int.sub_zero]
      simp
    rw [s_for, it, s_then]
    exact lg
  show endC false S.length (evS (cl P W (k + 2) S.length) (F_law_pushed i_t i_o i_a).body [some (.loc b), some t.d, some (.int (mo : Int)), none, none, none] S) = _
  rw [main]
  exact endC_rt2 (Tr.isd _).free l2
end
end EV
/-! PLp: more calls known ahead; what is reckoned at the empty store. -/
namespace EV
open L2 PySem
/-- two groupings of tuples -/
def ovTT (c : Nat) (W : Nat) (g : Tr → Tr → D) : Nat → List D → Option D := fun k ds => match ds with
  | [d, e] => (match trT 70 d, trT 70 e with
    | some t, some u => if t.joins + c ≤ k && decide (t.joins < W) && decide (t.joins < 5000) && u.joins + c ≤ k && decide (u.joins < W) && decide (u.joins < 5000) then some (g t u) else none
    | _, _ => none)
  | _ => none
theorem ovTT_ok {c W k : Nat} {g : Tr → Tr → D} {ds : List D} {r : D} (h : ovTT c W g k ds = some r) : ∃ t u, ds = [t.d, u.d] ∧ r = g t u ∧ t.joins + c ≤ k ∧ t.joins < W ∧ t.joins < 5000 ∧ u.joins + c ≤ k ∧ u.joins < W ∧ u.joins < 5000 := by
  match ds, h with
  | [d, e], h =>
    cases e1 : trT 70 d with
    | none => simp only [ovTT, e1] at h; cases h
    | some t =>
      cases e2 : trT 70 e with
      | none => simp only [ovTT, e1, e2] at h; cases h
      | some u =>
        simp only [ovTT, e1, e2] at h
        split at h
        · rename_i q
          simp only [Bool.and_eq_true, decide_eq_true_eq] at q
          obtain ⟨⟨⟨⟨⟨q1, q2⟩, q3⟩, q4⟩, q5⟩, q6⟩ := q
          cases h
          exact ⟨t, u, by rw [trT_ok e1, trT_ok e2], rfl, q1, q2, q3, q4, q5, q6⟩
        · cases h
  | [], h => cases h
  | [_], h => cases h
  | _ :: _ :: _ :: _, h => cases h
section
variable {P : Prg} {W : Nat}
def gAfter (t : Tr) : D := .lst (t.after.map Tr.d)
theorem ov_after {f : Nat} (e : P f = some (F_law_after f)) : ∀ k ds d, ovT 0 W gAfter k ds = some d → ∀ b S, run P isi0 W (k + 1) b f ds S = .ok d S := by
  intro k ds d h b S
  obtain ⟨t, rfl, rfl, h1, h2, h3, _⟩ := ovT_ok h
  exact after_ok e t (k + 1) b S (by omega) (by omega)
def gGoes (t u : Tr) : D := .bl (leL t.rch u.rch)
theorem ov_goes {i_le i_lp i_ar f : Nat} (eLE : P i_le = some F_law_ends) (eLP : P i_lp = some (F_law_pairs i_lp i_le)) (eAr : P i_ar = some (F_law_arms i_lp)) (eG : P f = some (F_law_goes i_ar)) : ∀ k ds d, ovTT 4 W gGoes k ds = some d → ∀ b S, run P isi0 W (k + 1) b f ds S = .ok d S := by
  intro k ds d h b S
  obtain ⟨t, u, rfl, rfl, h1, h2, h3, h4, h5, h6⟩ := ovTT_ok h
  exact goes_ok eLE eLP eAr eG t u (k + 1) b S (max t.joins u.joins) (Nat.le_max_left _ _) (Nat.le_max_right _ _) (by omega) (by omega) (by omega)
end
/-- a value reckoned at the empty store -/
def vq (ov : OvF) (P : Prg) (W k f : Nat) (ds : List D) : Option D := match runq ov P isi0 W k 0 f ds [] with
  | .ok d [] => if d.free then some d else none
  | _ => none
theorem vq_any {ov : OvF} {P : Prg} {W k f : Nat} {fn : Fn} (hov : OvOk ov P isi0 W) (hP : PCf P) (e : P f = some fn) (hk : fn.keep = false) {ds : List D} {d : D} (hd : frees ds = true) (h : vq ov P W k f ds = some d) (b : Nat) (S : Store) : run P isi0 W k b f ds S = .ok d S := by
  unfold vq at h
  rw [runq_eq hov] at h
  split at h
  · rename_i d' q
    split at h
    · rename_i hf
      cases h
      exact at_any hP e hk hd hf q b S
    · cases h
  · cases h
end EV
/-! PLq: rows of steps: orbit, hops_in, hops, fewest_steps, most_steps, on_fewest, on_most. -/
namespace EV
open L2 PySem
/-- the defs of the order -/
structure Ord (P : Prg) where
  n : Nat
  e : Nat
  s : Nat
  r : Nat
  c : Nat
  w : Nat
  lt : Nat
  hn : P n = some F_is_number
  he : P e = some (F_ends n)
  hs : P s = some (F_spans e s n)
  hr : P r = some (F_reaches s)
  hc : P c = some (F_check_alikeR rUn r)
  hw : P w = some (F_why_not r c)
  hlt : P lt = some (F_leads_to w)
section
variable {P : Prg} {W : Nat}
/-- reaches as a value -/
abbrev rD (t : Tr) : D := .tup (t.rch.map .int)
theorem Ord.reaches (O : Ord P) (hW : 100 < W) {t : Tr} {x : D} (g : IsG t x) (h : t.joins ≤ 40) (k b : Nat) (S : Store) (hk : 50 ≤ k) : run P isi0 W k b O.r [x] S = .ok (rD t) S :=
  reaches_ok O.hn O.he O.hs O.hr g k b S (by omega) (by omega) (by omega)
theorem Ord.leads (O : Ord P) (hW : 100 < W) {t u : Tr} {x y : D} (g : IsG t x) (g2 : IsG u y) (hj : t.joins = u.joins) (h : t.joins ≤ 40) (k b : Nat) (S : Store) (hk : 50 ≤ k) : run P isi0 W k b O.lt [x, y] S = .ok (.bl (leL t.rch u.rch)) S :=
  leads_to_ok O.hn O.he O.hs O.hr O.hc O.hw O.hlt g g2 hj (by omega) (by omega) k b S (by omega)
theorem Ord.leads_er (O : Ord P) (hW : 100 < W) {t u : Tr} {x y : D} (g : IsG t x) (g2 : IsG u y) (hj : t.joins ≠ u.joins) (h : t.joins ≤ 40) (h2 : u.joins ≤ 40) (k b : Nat) (S : Store) (hk : 50 ≤ k) : run P isi0 W k b O.lt [x, y] S = .er eUn S :=
  leads_to_er O.hn O.he O.hs O.hr O.hc O.hw O.hlt g g2 hj 40 h h2 (by omega) (by omega) k b S (by omega)
theorem Ord.alike (O : Ord P) (hW : 100 < W) (n : Nat) (h : n ≤ 40) (xs : List D) (hx : ∀ x ∈ xs, ∃ t, IsG t x ∧ t.joins = n) (k b : Nat) (S : Store) (hk : 50 ≤ k) : run P isi0 W k b O.c [.tup xs] S = .ok .non S :=
  (check_alike_ok (W := W) O.hn O.he O.hs O.hr O.hc n (by omega) (by omega) k b S (by omega) xs hx).1
/-- the reaches from s to e, each the reach of the one ahead of it -/
def orbF : Nat → List Int → Int → Int → Option (List Int)
  | 0, _, _, _ => none
  | n + 1, row, s, e => if s = e then some [s] else if 1 ≤ s then (match row[(s - 1).toNat]? with | some v => (orbF n row v e).map (s :: ·) | none => none) else none
/-- orbit -/
def F_orbit : Fn := { name := "orbit", ps := ["row", "start", "end"], ns := ["row", "start", "end", "found"], body := (.cons (.set 3 (.fr (.li (.cons (.v 1) .nil)))) (.cons (.whil (.cm .ne (.ix (.v 3) (.un .neg (.k (.int 1)))) (.v 2)) (.cons (.app (.v 3) (.ix (.v 0) (.bi .sub (.ix (.v 3) (.un .neg (.k (.int 1)))) (.k (.int 1))))) .nil)) (.cons (.ret (.pr .tuple (.cons (.v 3) .nil))) .nil))) }
theorem ix_last {S : Store} (acc : List D) (d : D) : idx (S ++ [.lst (acc ++ [d])]) (.loc S.length) (.int (-1)) = some d := by
  unfold idx
  rw [dr_last]
  show atI (acc ++ [d]) (-1) = some d
  unfold atI ixN
  have h1 : (-1 + ((acc.length : Int) + 1)).toNat = acc.length := by omega
  have h2 : (1 : Int) ≤ (acc.length : Int) + 1 := by omega
  simp [h1, h2]
theorem ix_row {S : Store} {row : List Int} {s v : Int} (h : 1 ≤ s) (e : row[(s - 1).toNat]? = some v) : idx S (.tup (row.map .int)) (.int (s - 1)) = some (.int v) := by
  obtain ⟨m, hm⟩ : ∃ m : Nat, s - 1 = m := ⟨(s - 1).toNat, by omega⟩
  have e' : row[m]? = some v := by
    rw [← e]
    congr 1
    omega
  show atI (row.map D.int) (s - 1) = some (.int v)
  rw [hm]
  unfold atI ixN
  obtain ⟨hl, hv⟩ := List.getElem?_eq_some_iff.mp e'
  have hl' : (m : Int) < (row.map D.int).length := by simpa using hl
  have h0 : (0 : Int) ≤ m := by omega
  simp [hl, hv]
theorem orbit_ok {f : Nat} (e : P f = some F_orbit) (row : List Int) (en : Int) : ∀ (n : Nat) (s : Int) (l : List Int), orbF n row s en = some l → n < W → n ≤ 9000 → ∀ (k b : Nat) (S : Store), run P isi0 W (k + 1) b f [.tup (row.map .int), .int s, .int en] S = .ok (.tup (l.map .int)) S := by
  intro n s l h hW hn k b S
  rw [run_nk e rfl rfl]
  show endC false S.length (evS (cl P W k S.length) F_orbit.body [some (.tup (row.map .int)), some (.int s), some (.int en), none] S) = _
  unfold F_orbit
  refine (congrArg (endC false S.length) (seq_nx (ρ1 := [some (.tup (row.map .int)), some (.int s), some (.int en), some (.loc S.length)]) (S1 := S ++ [.lst [.int s]]) ?_)).trans ?_
  · simp
  have loop : ∀ (s' : Int) (n : Nat) (s : Int) (l : List Int) (acc : List Int) (w : Nat), orbF n row s en = some l → n ≤ w → acc.length + n ≤ 9001 →
      whileGo (ev (cl P W k S.length) (.cm .ne (.ix (.v 3) (.un .neg (.k (.int 1)))) (.v 2))) (evS (cl P W k S.length) (.cons (.app (.v 3) (.ix (.v 0) (.bi .sub (.ix (.v 3) (.un .neg (.k (.int 1)))) (.k (.int 1))))) .nil)) w
        [some (.tup (row.map .int)), some (.int s'), some (.int en), some (.loc S.length)] (S ++ [.lst (acc.map .int ++ [.int s])]) = .nx [some (.tup (row.map .int)), some (.int s'), some (.int en), some (.loc S.length)] (S ++ [.lst ((acc ++ l).map .int)]) := by
    intro s' n
    induction n with
    | zero => intro s l acc w h; cases h
    | succ n ih =>
      intro s l acc w h hw ha
      obtain ⟨w, rfl⟩ : ∃ m, w = m + 1 := ⟨w - 1, by omega⟩
      unfold orbF at h
      unfold whileGo
      have u1 : ∀ S : Store, uop .neg S (.int 1) = some (.int (-1)) := fun _ => rfl
      by_cases q : s = en
      · rw [if_pos q] at h
        cases h
        simp [u1, ix_last, q]
      · rw [if_neg q] at h
        by_cases q2 : 1 ≤ s
        · rw [if_pos q2] at h
          cases q3 : row[(s - 1).toNat]? with
          | none => rw [q3] at h; cases h
          | some v =>
            rw [q3] at h
            simp only [Option.map_eq_some_iff] at h
            obtain ⟨l', h1, rfl⟩ := h
            have hx := ix_row (S := S ++ [.lst (acc.map .int ++ [.int s])]) q2 q3
            have ha2 := app_last (base := S.length) S (acc.map .int ++ [.int s]) (.int v) rfl (by simp; exact Nat.lt_of_le_of_lt (m := 9001) (by omega) (by decide))
            have := ih v l' (acc ++ [s]) w h1 (by omega) (by simp; omega)
            simp only [List.map_append, List.map_cons, List.map_nil, List.append_assoc, List.cons_append, List.nil_append] at this ha2
            simp [u1, ix_last, q, hx, dr_last, ha2]
            simpa using this
        · rw [if_neg q2] at h
          cases h
  have := loop s n s l [] W h (by omega) (by simp; omega)
  simp only [List.map_nil, List.nil_append] at this
  refine (congrArg (endC false S.length) (seq_nx (show evS (cl P W k S.length) (.whil (.cm .ne (.ix (.v 3) (.un .neg (.k (.int 1)))) (.v 2)) (.cons (.app (.v 3) (.ix (.v 0) (.bi .sub (.ix (.v 3) (.un .neg (.k (.int 1)))) (.k (.int 1))))) .nil)) _ _ = _ from this))).trans ?_
  have fr : (D.tup (l.map .int)).free = true := dI_free l
  have pt : prim .tuple (S ++ [.lst (l.map .int)]) [.loc S.length] = some (.tup (l.map .int)) := by
    show (match dr (S ++ [.lst (l.map .int)]) (.loc S.length) with | .lst xs => some (D.tup xs) | .tup xs => some (.tup xs) | _ => none) = _
    rw [dr_last]
  simp [pt]
  show fin false S.length (S ++ [.lst (l.map .int)]) (.tup (l.map .int)) = _
  unfold fin fz
  simp [fr]
/-- how often each join is raised from one row to another, along the reaches of a row -/
def hopL (row : List Int) : List Int → List Int → Option (List Int)
  | a :: as, b :: bs => match orbF 100 row a b, hopL row as bs with
    | some l, some r => some (((l.length : Int) - 1) :: r)
    | _, _ => none
  | [], _ => some []
  | _ :: _, [] => none
/-- hops_in -/
def F_hops_in (i_orbit : Nat) : Fn := { name := "hops_in", ps := ["mine", "its"], ns := ["mine", "its", "few", "place", "reach"], body := (.cons (.set 2 (.pr .tuple (.cons (.lc (.t (.cons (.v 3) (.cons (.v 4) .nil))) [3, 4] (.en (.v 0)) .yes (.bi .sub (.pr .len (.cons (.cal i_orbit (.cons (.v 1) (.cons (.v 4) (.cons (.ix (.v 1) (.v 3)) .nil)))) .nil)) (.k (.int 1)))) .nil))) (.cons (.ret (.tu (.cons (.v 2) (.cons (.pr .tuple (.cons (.lc (.t (.cons (.v 3) (.cons (.v 4) .nil))) [3, 4] (.en (.v 0)) .yes (.bi .sub (.pr .len (.cons (.cal i_orbit (.cons (.v 0) (.cons (.v 4) (.cons (.ix (.v 1) (.v 3)) .nil)))) .nil)) (.k (.int 1)))) .nil)) .nil)))) .nil)) }
/-- a comprehension over enumerate -/
theorem lc_en {c e : Env → Store → R D} {t : Tg} {vs : List Nat} {ρ : Env} {S : Store} : ∀ (as vals : List D) (n : Int) (acc : List D), as.length = vals.length →
    (∀ (i : Nat) a v, as[i]? = some a → vals[i]? = some v → ∃ ρ1, bindT t (.tup [.int (n + i), a]) (wipeD ρ vs) = some ρ1 ∧ c ρ1 S = .ok (.bl true) S ∧ e ρ1 S = .ok v S) → lcGo c e t vs ρ (enD n as) acc S = .ok (acc.reverse ++ vals) S
  | [], vals, n, acc, hl, _ => by
    cases vals with
    | nil => rw [enD, lcGo, List.append_nil]
    | cons _ _ => cases hl
  | a :: as, vals, n, acc, hl, h => by
    cases vals with
    | nil => cases hl
    | cons v vals =>
      obtain ⟨ρ1, h1, h2, h3⟩ := h 0 a v rfl rfl
      rw [show (n + ((0 : Nat) : Int)) = n by omega] at h1
      rw [enD, lcGo, h1]
      simp only [h2, s_trb, h3]
      rw [lc_en as vals (n + 1) (v :: acc) (by simpa using hl) fun i a' v' q1 q2 => by
        obtain ⟨ρ2, g1, g2, g3⟩ := h (i + 1) a' v' q1 q2
        exact ⟨ρ2, by rw [show n + 1 + (i : Int) = n + ((i + 1 : Nat) : Int) by omega]; exact g1, g2, g3⟩]
      simp
theorem hopL_len {row : List Int} : ∀ {as bs vs : List Int}, hopL row as bs = some vs → as.length = vs.length
  | [], bs, vs, h => by
    cases bs <;> (cases h; rfl)
  | a :: as, [], vs, h => by cases h
  | a :: as, b :: bs, vs, h => by
    unfold hopL at h
    split at h
    · rename_i l r h1 h2
      cases h
      simp [hopL_len h2]
    · cases h
theorem hopL_get {row : List Int} : ∀ {as bs vs : List Int} (i : Nat) (a v : Int), hopL row as bs = some vs → as[i]? = some a → vs[i]? = some v → ∃ b l, bs[i]? = some b ∧ orbF 100 row a b = some l ∧ v = (l.length : Int) - 1
  | [], bs, vs, i, a, v, h, h1, _ => by cases h1
  | a' :: as, [], vs, _, _, _, h, _, _ => by cases h
  | a' :: as, b :: bs, vs, i, a, v, h, h1, h2 => by
    unfold hopL at h
    split at h
    · rename_i l r q1 q2
      cases h
      cases i with
      | zero => cases h1; cases h2; exact ⟨b, l, rfl, q1, rfl⟩
      | succ i => exact hopL_get i a v q2 h1 h2
    · cases h
theorem ix_at {S : Store} {row : List Int} {i : Nat} {v : Int} (e : row[i]? = some v) : idx S (.tup (row.map .int)) (.int (i : Int)) = some (.int v) := by
  obtain ⟨hl, hv⟩ := List.getElem?_eq_some_iff.mp e
  show atI (row.map D.int) (i : Int) = some (.int v)
  unfold atI ixN
  have hl' : (i : Int) < (row.map D.int).length := by simpa using hl
  have h0 : (0 : Int) ≤ i := by omega
  simp [hl, hv]
theorem s_en {C : Cl} {ρ : Env} {S : Store} (a : Ex) : evi C (.en a) ρ S = (ev C a ρ S).bind fun x S1 => match x with
    | .lst xs => .ok (enD 0 xs) S1
    | .fzn xs => .ok (enD 0 xs) S1
    | .tup xs => .ok (enD 0 xs) S1
    | _ => .fl := rfl
theorem hops_in_ok {i_o f : Nat} (eO : P i_o = some F_orbit) (e : P f = some (F_hops_in i_o)) (hW : 100 < W) {mine its few much : List Int} (h1 : hopL its mine its = some few) (h2 : hopL mine mine its = some much) (k b : Nat) (S : Store) :
    run P isi0 W (k + 2) b f [.tup (mine.map .int), .tup (its.map .int)] S = .ok (.tup [.tup (few.map .int), .tup (much.map .int)]) S := by
  rw [run_nk e rfl rfl]
  have go : ∀ (row vals : List Int) (v2 : Option D) (ie : Ex), hopL row mine its = some vals → (∀ ρ3 ρ4, ev (cl P W (k + 1) S.length) ie [some (.tup (mine.map .int)), some (.tup (its.map .int)), v2, ρ3, ρ4] S = .ok (.tup (row.map .int)) S) →
      ev (cl P W (k + 1) S.length) (.lc (.t (.cons (.v 3) (.cons (.v 4) .nil))) [3, 4] (.en (.v 0)) .yes (.bi .sub (.pr .len (.cons (.cal i_o (.cons ie (.cons (.v 4) (.cons (.ix (.v 1) (.v 3)) .nil)))) .nil)) (.k (.int 1)))) [some (.tup (mine.map .int)), some (.tup (its.map .int)), v2, none, none] S = .ok (.lst (vals.map .int)) S := by
    intro row vals v2 ie hv hie
    rw [s_lc, s_en]
    have := lc_en (c := ev (cl P W (k + 1) S.length) .yes) (e := ev (cl P W (k + 1) S.length) (.bi .sub (.pr .len (.cons (.cal i_o (.cons ie (.cons (.v 4) (.cons (.ix (.v 1) (.v 3)) .nil)))) .nil)) (.k (.int 1)))) (t := .t (.cons (.v 3) (.cons (.v 4) .nil))) (vs := [3, 4]) (ρ := [some (.tup (mine.map .int)), some (.tup (its.map .int)), v2, none, none]) (S := S)
      (mine.map .int) (vals.map .int) 0 [] (by simpa using hopL_len hv) (fun i a v q1 q2 => by
        simp only [List.getElem?_map, Option.map_eq_some_iff] at q1 q2
        obtain ⟨a, q1, rfl⟩ := q1
        obtain ⟨v, q2, rfl⟩ := q2
        obtain ⟨b', l, g1, g2, rfl⟩ := hopL_get i a v hv q1 q2
        refine ⟨[some (.tup (mine.map .int)), some (.tup (its.map .int)), v2, some (.int (i : Int)), some (.int a)], by simp [bindT, wipeD], rfl, ?_⟩
        have ob := orbit_ok (W := W) eO row b' 100 a l g2 hW (by omega) k S.length S
        simp [hie, ix_at g1, dfl_nil eO rfl, ob])
    simp [this]
  have g1 := go its few none (.v 1) h1 (fun _ _ => rfl)
  have g2 := go mine much (some (.tup (few.map .int))) (.v 0) h2 (fun _ _ => rfl)
  show endC false S.length (evS (cl P W (k + 1) S.length) (F_hops_in i_o).body [some (.tup (mine.map .int)), some (.tup (its.map .int)), none, none, none] S) = _
  unfold F_hops_in
  refine (congrArg (endC false S.length) (seq_nx (ρ1 := [some (.tup (mine.map .int)), some (.tup (its.map .int)), some (.tup (few.map .int)), none, none]) (S1 := S) ?_)).trans ?_
  · rw [s_set, s_pr, s_cons, g1]
    simp
  simp [g2, -s_lc]
  refine endC_rt ?_
  simp [D.free, frees, dI_free]
end
end EV
/-! PLq2: hops, fewest_steps, most_steps, on_fewest, on_most. -/
namespace EV
open L2 PySem
/-- hops -/
def F_hops (i_hops_in i_reaches i_check_behind : Nat) : Fn := { name := "hops", ps := ["one", "other"], ns := ["one", "other"], body := (.cons (.ex (.cal i_check_behind (.cons (.v 0) (.cons (.v 1) .nil)))) (.cons (.ret (.cal i_hops_in (.cons (.cal i_reaches (.cons (.v 0) .nil)) (.cons (.cal i_reaches (.cons (.v 1) .nil)) .nil)))) .nil)) }
/-- fewest_steps -/
def F_fewest_steps (i_leads_to i_hops : Nat) : Fn := { name := "fewest_steps", ps := ["one", "other"], ns := ["one", "other"], body := (.cons (.ret (.ite (.cal i_leads_to (.cons (.v 0) (.cons (.v 1) .nil))) (.pr .sum (.cons (.ix (.cal i_hops (.cons (.v 0) (.cons (.v 1) .nil))) (.k (.int 0))) .nil)) (.k .non))) .nil) }
/-- most_steps -/
def F_most_steps (i_leads_to i_hops : Nat) : Fn := { name := "most_steps", ps := ["one", "other"], ns := ["one", "other"], body := (.cons (.ret (.ite (.cal i_leads_to (.cons (.v 0) (.cons (.v 1) .nil))) (.pr .sum (.cons (.ix (.cal i_hops (.cons (.v 0) (.cons (.v 1) .nil))) (.k (.int 1))) .nil)) (.k .non))) .nil) }
/-- check_behind -/
def F_check_behind (i_leads_to : Nat) : Fn := { name := "check_behind", ps := ["one", "other"], ns := ["one", "other"], body := (.cons (.ite (.un .not (.cal i_leads_to (.cons (.v 0) (.cons (.v 1) .nil)))) (.cons (.rais 5 .nil) .nil) .nil) .nil) }
/-- on_fewest -/
def F_on_fewest (i_fewest_steps i_leads_to i_check_behind i_check_alike : Nat) : Fn := { name := "on_fewest", ps := ["one", "grouping", "other"], ns := ["one", "grouping", "other"], body := (.cons (.ex (.cal i_check_alike (.cons (.tu (.cons (.v 0) (.cons (.v 1) (.cons (.v 2) .nil)))) .nil))) (.cons (.ex (.cal i_check_behind (.cons (.v 0) (.cons (.v 2) .nil)))) (.cons (.ite (.orr (.un .not (.cal i_leads_to (.cons (.v 0) (.cons (.v 1) .nil)))) (.un .not (.cal i_leads_to (.cons (.v 1) (.cons (.v 2) .nil))))) (.cons (.ret (.k (.bl false))) .nil) .nil) (.cons (.ret (.cm .eq (.bi .add (.cal i_fewest_steps (.cons (.v 0) (.cons (.v 1) .nil))) (.cal i_fewest_steps (.cons (.v 1) (.cons (.v 2) .nil)))) (.cal i_fewest_steps (.cons (.v 0) (.cons (.v 2) .nil))))) .nil)))) }
/-- on_most -/
def F_on_most (i_most_steps i_leads_to i_check_behind i_check_alike : Nat) : Fn := { name := "on_most", ps := ["one", "grouping", "other"], ns := ["one", "grouping", "other"], body := (.cons (.ex (.cal i_check_alike (.cons (.tu (.cons (.v 0) (.cons (.v 1) (.cons (.v 2) .nil)))) .nil))) (.cons (.ex (.cal i_check_behind (.cons (.v 0) (.cons (.v 2) .nil)))) (.cons (.ite (.orr (.un .not (.cal i_leads_to (.cons (.v 0) (.cons (.v 1) .nil)))) (.un .not (.cal i_leads_to (.cons (.v 1) (.cons (.v 2) .nil))))) (.cons (.ret (.k (.bl false))) .nil) .nil) (.cons (.ret (.cm .eq (.bi .add (.cal i_most_steps (.cons (.v 0) (.cons (.v 1) .nil))) (.cal i_most_steps (.cons (.v 1) (.cons (.v 2) .nil)))) (.cal i_most_steps (.cons (.v 0) (.cons (.v 2) .nil))))) .nil)))) }
abbrev eNb : D := .exc 5 []
theorem endC_er5 {ρ : Env} {S : Store} : endC false S.length (.er eNb ρ S) = .er eNb S := by
  show (if true = true then R.er eNb (S.take S.length) else .fl) = _
  rw [if_pos rfl, List.take_length]
structure Stp (P : Prg) (O : Ord P) where
  o : Nat
  hi : Nat
  cb : Nat
  h : Nat
  fs : Nat
  ms : Nat
  ho : P o = some F_orbit
  hhi : P hi = some (F_hops_in o)
  hcb : P cb = some (F_check_behind O.lt)
  hh : P h = some (F_hops hi O.r cb)
  hfs : P fs = some (F_fewest_steps O.lt h)
  hms : P ms = some (F_most_steps O.lt h)
structure Hop (t u : Tr) (few much : List Int) : Prop where
  h1 : hopL u.rch t.rch u.rch = some few
  h2 : hopL t.rch t.rch u.rch = some much
@[simp] theorem s_ex {C : Cl} {ρ : Env} {S : Store} (e : Ex) : evS C (.ex e) ρ S = (ev C e ρ S).then ρ fun _ S1 => .nx ρ S1 := rfl
theorem sum_intsT {S : Store} (l : List Int) : prim .sum S [.tup (l.map .int)] = some (.int l.sum) := by
  show (intsD (dI l)).map _ = _
  rw [intsD_dI]
  rfl
section
variable {P : Prg} {W : Nat} {O : Ord P} (G : Stp P O) (hW : 100 < W)
include hW
variable {t u v : Tr} {x y z : D}
theorem Stp.behind (g : IsG t x) (g2 : IsG u y) (hj : t.joins = u.joins) (h : t.joins ≤ 40) (k b : Nat) (S : Store) (hk : 51 ≤ k) :
    run P isi0 W k b G.cb [x, y] S = if leL t.rch u.rch then .ok .non S else .er eNb S := by
  obtain ⟨k, rfl⟩ : ∃ m, k = m + 1 := ⟨k - 1, by omega⟩
  have l1 := O.leads hW g g2 hj h k S.length S (by omega)
  rw [run_nk G.hcb rfl rfl]
  cases q : leL t.rch u.rch with
  | true =>
    rw [q] at l1
    simp [F_check_behind, startD, dfl_nil O.hlt rfl, l1]
    exact fin_free rfl
  | false =>
    rw [q] at l1
    simp [F_check_behind, startD, dfl_nil O.hlt rfl, l1]
    exact endC_er5
theorem Stp.behind_er (g : IsG t x) (g2 : IsG u y) (hj : t.joins ≠ u.joins) (h : t.joins ≤ 40) (h2 : u.joins ≤ 40) (k b : Nat) (S : Store) (hk : 51 ≤ k) :
    run P isi0 W k b G.cb [x, y] S = .er eUn S := by
  obtain ⟨k, rfl⟩ : ∃ m, k = m + 1 := ⟨k - 1, by omega⟩
  have l1 := O.leads_er hW g g2 hj h h2 k S.length S (by omega)
  rw [run_nk G.hcb rfl rfl]
  simp [F_check_behind, startD, dfl_nil O.hlt rfl, l1]
  exact endC_er
theorem Stp.hops (g : IsG t x) (g2 : IsG u y) (hj : t.joins = u.joins) (h : t.joins ≤ 40) {few much : List Int} (hp : leL t.rch u.rch = true → Hop t u few much) (k b : Nat) (S : Store) (hk : 52 ≤ k) :
    run P isi0 W k b G.h [x, y] S = if leL t.rch u.rch then .ok (.tup [.tup (few.map .int), .tup (much.map .int)]) S else .er eNb S := by
  obtain ⟨k, rfl⟩ : ∃ m, k = m + 2 := ⟨k - 2, by omega⟩
  have l1 := G.behind hW g g2 hj h (k + 1) S.length S (by omega)
  rw [run_nk G.hh rfl rfl]
  cases q : leL t.rch u.rch with
  | true =>
    rw [q] at l1
    have r1 := O.reaches hW g h (k + 1) S.length S (by omega)
    have r2 := O.reaches hW g2 (by omega) (k + 1) S.length S (by omega)
    obtain ⟨k, rfl⟩ : ∃ m, k = m + 1 := ⟨k - 1, by omega⟩
    have hi := hops_in_ok (W := W) G.ho G.hhi hW (hp q).h1 (hp q).h2 k S.length S
    simp [F_hops, startD, dfl_nil G.hcb rfl, dfl_nil O.hr rfl, dfl_nil G.hhi rfl, l1, r1, r2, hi]
    refine endC_rt ?_
    simp [D.free, frees, dI_free]
  | false =>
    rw [q] at l1
    simp [F_hops, startD, dfl_nil G.hcb rfl, l1]
    exact endC_er5
theorem Stp.hops_er (g : IsG t x) (g2 : IsG u y) (hj : t.joins ≠ u.joins) (h : t.joins ≤ 40) (h2 : u.joins ≤ 40) (k b : Nat) (S : Store) (hk : 52 ≤ k) :
    run P isi0 W k b G.h [x, y] S = .er eUn S := by
  obtain ⟨k, rfl⟩ : ∃ m, k = m + 1 := ⟨k - 1, by omega⟩
  have l1 := G.behind_er hW g g2 hj h h2 k S.length S (by omega)
  rw [run_nk G.hh rfl rfl]
  simp [F_hops, startD, dfl_nil G.hcb rfl, l1]
  exact endC_er
theorem Stp.fewest (g : IsG t x) (g2 : IsG u y) (hj : t.joins = u.joins) (h : t.joins ≤ 40) {few much : List Int} (hp : leL t.rch u.rch = true → Hop t u few much) (k b : Nat) (S : Store) (hk : 53 ≤ k) :
    run P isi0 W k b G.fs [x, y] S = .ok (if leL t.rch u.rch then .int few.sum else .non) S := by
  obtain ⟨k, rfl⟩ : ∃ m, k = m + 1 := ⟨k - 1, by omega⟩
  have l1 := O.leads hW g g2 hj h k S.length S (by omega)
  have l2 := G.hops hW g g2 hj h hp k S.length S (by omega)
  rw [run_nk G.hfs rfl rfl]
  cases q : leL t.rch u.rch with
  | true =>
    rw [q] at l1 l2
    simp [F_fewest_steps, startD, dfl_nil O.hlt rfl, dfl_nil G.hh rfl, l1, l2, sum_intsT]
    exact endC_rt rfl
  | false =>
    rw [q] at l1
    simp [F_fewest_steps, startD, dfl_nil O.hlt rfl, l1]
    exact endC_rt rfl
theorem Stp.most (g : IsG t x) (g2 : IsG u y) (hj : t.joins = u.joins) (h : t.joins ≤ 40) {few much : List Int} (hp : leL t.rch u.rch = true → Hop t u few much) (k b : Nat) (S : Store) (hk : 53 ≤ k) :
    run P isi0 W k b G.ms [x, y] S = .ok (if leL t.rch u.rch then .int much.sum else .non) S := by
  obtain ⟨k, rfl⟩ : ∃ m, k = m + 1 := ⟨k - 1, by omega⟩
  have l1 := O.leads hW g g2 hj h k S.length S (by omega)
  have l2 := G.hops hW g g2 hj h hp k S.length S (by omega)
  rw [run_nk G.hms rfl rfl]
  cases q : leL t.rch u.rch with
  | true =>
    rw [q] at l1 l2
    simp [F_most_steps, startD, dfl_nil O.hlt rfl, dfl_nil G.hh rfl, l1, l2, sum_intsT]
    exact endC_rt rfl
  | false =>
    rw [q] at l1
    simp [F_most_steps, startD, dfl_nil O.hlt rfl, l1]
    exact endC_rt rfl
theorem Stp.fewest_er (g : IsG t x) (g2 : IsG u y) (hj : t.joins ≠ u.joins) (h : t.joins ≤ 40) (h2 : u.joins ≤ 40) (k b : Nat) (S : Store) (hk : 53 ≤ k) : run P isi0 W k b G.fs [x, y] S = .er eUn S := by
  obtain ⟨k, rfl⟩ : ∃ m, k = m + 1 := ⟨k - 1, by omega⟩
  have l1 := O.leads_er hW g g2 hj h h2 k S.length S (by omega)
  rw [run_nk G.hfs rfl rfl]
  simp [F_fewest_steps, startD, dfl_nil O.hlt rfl, l1]
  exact endC_er
theorem Stp.most_er (g : IsG t x) (g2 : IsG u y) (hj : t.joins ≠ u.joins) (h : t.joins ≤ 40) (h2 : u.joins ≤ 40) (k b : Nat) (S : Store) (hk : 53 ≤ k) : run P isi0 W k b G.ms [x, y] S = .er eUn S := by
  obtain ⟨k, rfl⟩ : ∃ m, k = m + 1 := ⟨k - 1, by omega⟩
  have l1 := O.leads_er hW g g2 hj h h2 k S.length S (by omega)
  rw [run_nk G.hms rfl rfl]
  simp [F_most_steps, startD, dfl_nil O.hlt rfl, l1]
  exact endC_er
/-- the value of on_fewest, on_most -/
def onV (t u v : Tr) (a b c : List Int) : Bool := leL t.rch u.rch && leL u.rch v.rch && decide (a.sum + b.sum = c.sum)
theorem Stp.on_fewest {f : Nat} (eF : P f = some (F_on_fewest G.fs O.lt G.cb O.c)) (g : IsG t x) (g2 : IsG u y) (g3 : IsG v z) (hj : t.joins = u.joins) (hj2 : u.joins = v.joins) (h : t.joins ≤ 40) {a b c a' b' c' : List Int}
    (pa : leL t.rch u.rch = true → Hop t u a a') (pb : leL u.rch v.rch = true → Hop u v b b') (pc : leL t.rch v.rch = true → Hop t v c c') (k base : Nat) (S : Store) (hk : 54 ≤ k) :
    run P isi0 W k base f [x, y, z] S = if leL t.rch v.rch then .ok (.bl (onV t u v a b c)) S else .er eNb S := by
  obtain ⟨k, rfl⟩ : ∃ m, k = m + 1 := ⟨k - 1, by omega⟩
  have al := O.alike hW t.joins h [x, y, z] (fun w hw => by
    simp only [List.mem_cons, List.not_mem_nil, or_false] at hw
    rcases hw with rfl | rfl | rfl
    · exact ⟨t, g, rfl⟩
    · exact ⟨u, g2, hj.symm⟩
    · exact ⟨v, g3, by omega⟩) k S.length S (by omega)
  have bh := G.behind hW g g3 (by omega) h k S.length S (by omega)
  have l1 := O.leads hW g g2 hj h k S.length S (by omega)
  have l2 := O.leads hW g2 g3 hj2 (by omega) k S.length S (by omega)
  have f1 := G.fewest hW g g2 hj h pa k S.length S (by omega)
  have f2 := G.fewest hW g2 g3 hj2 (by omega) pb k S.length S (by omega)
  have f3 := G.fewest hW g g3 (by omega) h pc k S.length S (by omega)
  rw [run_nk eF rfl rfl]
  cases q3 : leL t.rch v.rch with
  | false =>
    rw [q3] at bh
    simp [F_on_fewest, startD, dfl_nil O.hc rfl, dfl_nil G.hcb rfl, al, bh]
    exact endC_er5
  | true =>
    rw [q3] at bh f3
    cases q1 : leL t.rch u.rch <;> cases q2 : leL u.rch v.rch <;> rw [q1] at l1 f1 <;> rw [q2] at l2 f2 <;>
      simp [F_on_fewest, startD, dfl_nil O.hc rfl, dfl_nil G.hcb rfl, dfl_nil O.hlt rfl, dfl_nil G.hfs rfl, al, bh, l1, l2, f1, f2, f3, onV, q1, q2] <;> exact endC_rt rfl
theorem Stp.on_most {f : Nat} (eF : P f = some (F_on_most G.ms O.lt G.cb O.c)) (g : IsG t x) (g2 : IsG u y) (g3 : IsG v z) (hj : t.joins = u.joins) (hj2 : u.joins = v.joins) (h : t.joins ≤ 40) {a b c a' b' c' : List Int}
    (pa : leL t.rch u.rch = true → Hop t u a' a) (pb : leL u.rch v.rch = true → Hop u v b' b) (pc : leL t.rch v.rch = true → Hop t v c' c) (k base : Nat) (S : Store) (hk : 54 ≤ k) :
    run P isi0 W k base f [x, y, z] S = if leL t.rch v.rch then .ok (.bl (onV t u v a b c)) S else .er eNb S := by
  obtain ⟨k, rfl⟩ : ∃ m, k = m + 1 := ⟨k - 1, by omega⟩
  have al := O.alike hW t.joins h [x, y, z] (fun w hw => by
    simp only [List.mem_cons, List.not_mem_nil, or_false] at hw
    rcases hw with rfl | rfl | rfl
    · exact ⟨t, g, rfl⟩
    · exact ⟨u, g2, hj.symm⟩
    · exact ⟨v, g3, by omega⟩) k S.length S (by omega)
  have bh := G.behind hW g g3 (by omega) h k S.length S (by omega)
  have l1 := O.leads hW g g2 hj h k S.length S (by omega)
  have l2 := O.leads hW g2 g3 hj2 (by omega) k S.length S (by omega)
  have f1 := G.most hW g g2 hj h pa k S.length S (by omega)
  have f2 := G.most hW g2 g3 hj2 (by omega) pb k S.length S (by omega)
  have f3 := G.most hW g g3 (by omega) h pc k S.length S (by omega)
  rw [run_nk eF rfl rfl]
  cases q3 : leL t.rch v.rch with
  | false =>
    rw [q3] at bh
    simp [F_on_most, startD, dfl_nil O.hc rfl, dfl_nil G.hcb rfl, al, bh]
    exact endC_er5
  | true =>
    rw [q3] at bh f3
    cases q1 : leL t.rch u.rch <;> cases q2 : leL u.rch v.rch <;> rw [q1] at l1 f1 <;> rw [q2] at l2 f2 <;>
      simp [F_on_most, startD, dfl_nil O.hc rfl, dfl_nil G.hcb rfl, dfl_nil O.hlt rfl, dfl_nil G.hms rfl, al, bh, l1, l2, f1, f2, f3, onV, q1, q2] <;> exact endC_rt rfl
end
theorem intsD_map : ∀ {xs : List D} {ns : List Int}, intsD xs = some ns → xs = ns.map .int
  | [], ns, h => by cases h; rfl
  | x :: xs, ns, h => by
    cases x <;> simp only [intsD, reduceCtorEq, Option.map_eq_some_iff] at h
    obtain ⟨l, h1, rfl⟩ := h
    rw [List.map_cons, intsD_map h1]
/-- hops_in known ahead -/
def gHops : Nat → List D → Option D := fun k ds => match ds with
  | [.tup a, .tup b] => (match intsD a, intsD b with
    | some x, some y => (match hopL y x y, hopL x x y with
      | some p, some q => if 1 ≤ k then some (.tup [.tup (p.map .int), .tup (q.map .int)]) else none
      | _, _ => none)
    | _, _ => none)
  | _ => none
theorem ov_hops {P : Prg} {W i_o f : Nat} (eO : P i_o = some F_orbit) (e : P f = some (F_hops_in i_o)) (hW : 100 < W) : ∀ k ds d, gHops k ds = some d → ∀ b S, run P isi0 W (k + 1) b f ds S = .ok d S := by
  intro k ds d h b S
  unfold gHops at h
  split at h
  · rename_i a b'
    split at h
    · rename_i x y h1 h2
      split at h
      · rename_i p q h3 h4
        split at h
        · rename_i hk
          cases h
          obtain ⟨k, rfl⟩ : ∃ m, k = m + 1 := ⟨k - 1, by omega⟩
          rw [intsD_map h1, intsD_map h2]
          exact hops_in_ok eO e hW h3 h4 k b S
        · cases h
      · cases h
    · cases h
  · cases h
end EV
/-! PLq3: all rows of steps by the law's own hand. -/
namespace EV
open L2 PySem
def Tr.stepsTo (t u : Tr) : List Tr := t.after.filter fun x => leL x.rch u.rch
def Tr.waysF : Nat → Tr → Tr → List (List Tr)
  | 0, _, _ => []
  | n + 1, t, u => if t = u then [[t]] else (Tr.stepsTo t u).flatMap fun x => (Tr.waysF n x u).map (t :: ·)
/-- so many laps are enough, there are not too many rows -/
def Tr.waysB : Nat → Tr → Tr → Bool
  | 0, _, _ => false
  | n + 1, t, u => decide ((Tr.waysF (n + 1) t u).length ≤ 5000) && (decide (t = u) || (Tr.stepsTo t u).all fun x => Tr.waysB n x u)
/-- _law_steps_on -/
def F_law_steps_on (i_law_after i_law_goes : Nat) : Fn := { name := "_law_steps_on", ps := ["_law_tree_so", "_law_far_so"], ns := ["_law_tree_so", "_law_far_so", "_law_own"], body := (.cons (.ret (.lc (.v 2) [2] (.it (.cal i_law_after (.cons (.v 0) .nil))) (.cal i_law_goes (.cons (.v 2) (.cons (.v 1) .nil))) (.v 2))) .nil) }
/-- _law_ways_on -/
def F_law_ways_on (i_law_steps_on i_law_ways_on : Nat) : Fn := { name := "_law_ways_on", ps := ["_law_tree_so", "_law_far_so"], ns := ["_law_tree_so", "_law_far_so", "_law_found", "_law_own", "_law_row_so"], body := (.cons (.ite (.cm .eq (.v 0) (.v 1)) (.cons (.ret (.li (.cons (.li (.cons (.v 0) .nil)) .nil))) .nil) .nil) (.cons (.set 2 (.li .nil)) (.cons (.forr (.v 3) (.it (.cal i_law_steps_on (.cons (.v 0) (.cons (.v 1) .nil)))) (.cons (.set 2 (.bi .add (.v 2) (.lc (.v 4) [4] (.it (.cal i_law_ways_on (.cons (.v 3) (.cons (.v 1) .nil)))) .yes (.bi .add (.li (.cons (.v 0) .nil)) (.v 4))))) .nil)) (.cons (.ret (.v 2)) .nil)))) }
/-- a comprehension over things that stand for others, with a test -/
theorem lc_fm {α : Type} {c e : Env → Store → R D} {t : Tg} {vs : List Nat} {ρ : Env} {S : Store} {g h : α → D} {p : α → Bool} : ∀ (l : List α) (acc : List D), (∀ a ∈ l, ∃ ρ1, bindT t (g a) (wipeD ρ vs) = some ρ1 ∧ c ρ1 S = .ok (.bl (p a)) S ∧ (p a = true → e ρ1 S = .ok (h a) S)) →
    lcGo c e t vs ρ (l.map g) acc S = .ok (acc.reverse ++ (l.filter p).map h) S
  | [], acc, _ => by rw [List.map_nil, lcGo, List.filter_nil, List.map_nil, List.append_nil]
  | x :: xs, acc, hh => by
    obtain ⟨ρ1, h1, h2, h3⟩ := hh x List.mem_cons_self
    rw [List.map_cons, lcGo, h1]
    simp only [h2, s_trb]
    cases q : p x with
    | true =>
      simp only [h3 q]
      rw [lc_fm xs (h x :: acc) fun y hy => hh y (List.mem_cons_of_mem _ hy)]
      simp [q]
    | false =>
      simp only
      rw [lc_fm xs acc fun y hy => hh y (List.mem_cons_of_mem _ hy)]
      simp [q]
def rowD (r : List Tr) : D := .lst (r.map Tr.d)
def waysD (ws : List (List Tr)) : D := .lst (ws.map rowD)
theorem rowD_free (r : List Tr) : (rowD r).free = true := frees_map r
theorem waysD_free (ws : List (List Tr)) : (waysD ws).free = true := by
  show frees (ws.map rowD) = true
  induction ws with
  | nil => rfl
  | cons r ws ih => rw [List.map_cons, frees, rowD_free, ih]; rfl
theorem eq_tr (S : Store) (t u : Tr) (h : t.joins ≤ 60) (h2 : u.joins ≤ 60) : cop .eq S t.d u.d = some (decide (t = u)) := by
  show (match pyS S t.d, pyS S u.d with | some x, some y => some (PyData.eqv x y) | _, _ => none) = _
  rw [pyS_d S t h, pyS_d S u h2]
  exact congrArg some (t.eqv_pt u)
/-- the law's own steps -/
structure Lst (P : Prg) where
  le : Nat
  lp : Nat
  ar : Nat
  go : Nat
  af : Nat
  hle : P le = some F_law_ends
  hlp : P lp = some (F_law_pairs lp le)
  har : P ar = some (F_law_arms lp)
  hgo : P go = some (F_law_goes ar)
  haf : P af = some (F_law_after af)
structure LstW (P : Prg) extends Lst P where
  so : Nat
  wo : Nat
  hso : P so = some (F_law_steps_on af go)
  hwo : P wo = some (F_law_ways_on so wo)
section
variable {P : Prg} {W : Nat} (A : Lst P) (hW : 100 < W)
include hW
theorem Lst.arms (t : Tr) (h : t.joins ≤ 40) (k b : Nat) (S : Store) (hk : 50 ≤ k) : run P isi0 W k b A.ar [t.d] S = .ok (rD t) S :=
  arms_ok A.hle A.hlp A.har t k b S (by omega) (by omega) (by omega)
theorem Lst.goes (t u : Tr) (h : t.joins ≤ 40) (h2 : u.joins ≤ 40) (k b : Nat) (S : Store) (hk : 50 ≤ k) : run P isi0 W k b A.go [t.d, u.d] S = .ok (.bl (leL t.rch u.rch)) S :=
  goes_ok A.hle A.hlp A.har A.hgo t u k b S 40 h h2 (by omega) (by omega) (by omega)
end
section
variable {P : Prg} {W : Nat} (A : LstW P) (hW : 100 < W)
include hW
theorem LstW.stepsOn (t u : Tr) {p q : Int} (nt : Nm t p q) (h : t.joins ≤ 40) (h2 : u.joins ≤ 40) (k b : Nat) (S : Store) (hk : 51 ≤ k) : run P isi0 W k b A.so [t.d, u.d] S = .ok (.lst ((Tr.stepsTo t u).map Tr.d)) S := by
  obtain ⟨k, rfl⟩ : ∃ m, k = m + 1 := ⟨k - 1, by omega⟩
  have a1 := after_ok (W := W) A.haf t k S.length S (by omega) (by omega)
  have lg := lc_fm (c := ev (cl P W k S.length) (.cal A.go (.cons (.v 2) (.cons (.v 1) .nil)))) (e := ev (cl P W k S.length) (.v 2)) (t := .v 2) (vs := [2]) (ρ := [some t.d, some u.d, none]) (S := S) (g := Tr.d) (h := Tr.d) (p := fun x => leL x.rch u.rch) t.after [] (fun x hx => by
    have jx := (after_nm nt x hx).joins
    have jt := nt.joins
    have g1 := A.goes hW x u (by omega) h2 k S.length S (by omega)
    exact ⟨[some t.d, some u.d, some x.d], rfl, by simp [dfl_nil A.hgo rfl, g1], fun _ => rfl⟩)
  rw [run_nk A.hso rfl rfl]
  simp [F_law_steps_on, startD, dfl_nil A.haf rfl, a1, lg]
  exact endC_rt (frees_map _)
theorem LstW.ways (u : Tr) (h2 : u.joins ≤ 40) : ∀ (n : Nat) (t : Tr) {p q : Int}, Nm t p q → t.joins ≤ 40 → Tr.waysB n t u = true → n ≤ 1000 → ∀ (k b : Nat) (S : Store), 52 + n ≤ k → run P isi0 W k b A.wo [t.d, u.d] S = .ok (waysD (Tr.waysF n t u)) S := by
  intro n
  induction n with
  | zero => intro t p q _ _ hb; cases hb
  | succ n ih =>
    intro t p q nt h hb hn k b S hk
    obtain ⟨k, rfl⟩ : ∃ m, k = m + 1 := ⟨k - 1, by omega⟩
    unfold Tr.waysB at hb
    simp only [Bool.and_eq_true, decide_eq_true_eq, Bool.or_eq_true, List.all_eq_true] at hb
    obtain ⟨hl, hb⟩ := hb
    have eqt := eq_tr S t u (by omega) (by omega)
    rw [run_nk A.hwo rfl rfl]
    show endC false S.length (evS (cl P W k S.length) (F_law_ways_on A.so A.wo).body [some t.d, some u.d, none, none, none] S) = _
    unfold F_law_ways_on
    by_cases q1 : t = u
    · subst q1
      have e1 : Tr.waysF (n + 1) t t = [[t]] := by unfold Tr.waysF; rw [if_pos rfl]
      rw [e1]
      rw [decide_eq_true rfl] at eqt
      simp [eqt, waysD, rowD]
      refine endC_rt ?_
      simp [D.free, frees, Tr.free]
    · rw [decide_eq_false q1] at eqt
      have hb := hb.resolve_left q1
      have e1 : Tr.waysF (n + 1) t u = (Tr.stepsTo t u).flatMap fun x => (Tr.waysF n x u).map (t :: ·) := by
        conv => lhs; unfold Tr.waysF
        rw [if_neg q1]
      rw [e1] at hl ⊢
      have so := A.stepsOn hW t u nt h h2 k S.length S (by omega)
      have jt := nt.joins
      have loop : ∀ (l : List Tr) (acc : List (List Tr)) (d3 : Option D), (∀ x ∈ l, x ∈ Tr.stepsTo t u) → (acc ++ l.flatMap fun x => (Tr.waysF n x u).map (t :: ·)).length ≤ 5000 →
          ∃ d3', forGo (evS (cl P W k S.length) (.cons (.set 2 (.bi .add (.v 2) (.lc (.v 4) [4] (.it (.cal A.wo (.cons (.v 3) (.cons (.v 1) .nil)))) .yes (.bi .add (.li (.cons (.v 0) .nil)) (.v 4))))) .nil)) (.v 3) (l.map Tr.d) [some t.d, some u.d, some (waysD acc), d3, none] S
            = .nx [some t.d, some u.d, some (waysD (acc ++ l.flatMap fun x => (Tr.waysF n x u).map (t :: ·))), d3', none] S := by
        intro l
        induction l with
        | nil => intro acc d3 _ _; exact ⟨d3, by simp [forGo]⟩
        | cons x l il =>
          intro acc d3 hm hlen
          have hx := hm x List.mem_cons_self
          have hxa : x ∈ t.after := (List.mem_filter.mp hx).1
          have nx := after_nm nt x hxa
          have jx := nx.joins
          have w1 := ih x nx (by omega) (hb x hx) (by omega) k S.length S (by omega)
          have lg := lc_mapz (c := ev (cl P W k S.length) .yes) (e := ev (cl P W k S.length) (.bi .add (.li (.cons (.v 0) .nil)) (.v 4))) (t := .v 4) (vs := [4]) (ρ := [some t.d, some u.d, some (waysD acc), some x.d, none]) (S := S) (g := rowD) (h := fun r => rowD (t :: r)) (Tr.waysF n x u) [] (fun r hr => by
            refine ⟨[some t.d, some u.d, some (waysD acc), some x.d, some (rowD r)], rfl, rfl, ?_⟩
            have hr' : (r.length : Nat) + 1 ≤ lim := by
              have : ∀ (n : Nat) (x : Tr), ∀ r ∈ Tr.waysF n x u, r.length ≤ n := by
                intro n
                induction n with
                | zero => intro x r hr; cases hr
                | succ n ih2 =>
                  intro x r hr
                  unfold Tr.waysF at hr
                  split at hr
                  · simp only [List.mem_cons, List.not_mem_nil, or_false] at hr; subst hr; simp
                  · obtain ⟨y, _, hy⟩ := List.mem_flatMap.mp hr
                    obtain ⟨r', hr', rfl⟩ := List.mem_map.mp hy
                    have := ih2 y r' hr'
                    simp; omega
              have h1 := this n x r hr
              exact Nat.le_trans (m := 2000) (by omega) (by decide)
            have ad : bop .add S (.lst [t.d]) (rowD r) = some (rowD (t :: r)) := by
              show (if ([t.d] : List D).length + (r.map Tr.d).length ≤ lim then some (D.lst ([t.d] ++ r.map Tr.d)) else none) = _
              rw [if_pos (by simp; omega)]
              rfl
            simp [ad])
          obtain ⟨d3', hr⟩ := il (acc ++ (Tr.waysF n x u).map (t :: ·)) (some x.d) (fun y hy => hm y (List.mem_cons_of_mem _ hy)) (by simpa [List.append_assoc] using hlen)
          refine ⟨d3', ?_⟩
          have ad : bop .add S (waysD acc) (.lst ((Tr.waysF n x u).map fun r => rowD (t :: r))) = some (waysD (acc ++ (Tr.waysF n x u).map (t :: ·))) := by
            show (if (acc.map rowD).length + ((Tr.waysF n x u).map fun r => rowD (t :: r)).length ≤ lim then some (D.lst (acc.map rowD ++ (Tr.waysF n x u).map fun r => rowD (t :: r))) else none) = _
            rw [if_pos]
            · simp [waysD]
            · refine Nat.le_trans (m := 5000) ?_ (by decide)
              simp only [List.length_append, List.length_map, List.flatMap_cons] at hlen ⊢
              omega
          rw [List.map_cons, forGo]
          have st : evS (cl P W k S.length) (.cons (.set 2 (.bi .add (.v 2) (.lc (.v 4) [4] (.it (.cal A.wo (.cons (.v 3) (.cons (.v 1) .nil)))) .yes (.bi .add (.li (.cons (.v 0) .nil)) (.v 4))))) .nil) [some t.d, some u.d, some (waysD acc), some x.d, none] S = .nx [some t.d, some u.d, some (waysD (acc ++ (Tr.waysF n x u).map (t :: ·))), some x.d, none] S := by
            have w1' : run P isi0 W k S.length A.wo [x.d, u.d] S = .ok (.lst ((Tr.waysF n x u).map rowD)) S := w1
            simp [dfl_nil A.hwo rfl, w1', lg, ad]
          simp only [bindT, List.set_cons_succ, List.set_cons_zero]
          rw [st]
          simp only
          rw [hr]
          simp [List.append_assoc]
      obtain ⟨d3, hloop⟩ := loop (Tr.stepsTo t u) [] none (fun _ h => h) (by simpa using hl)
      refine (congrArg (endC false S.length) (seq_nx (ρ1 := [some t.d, some u.d, none, none, none]) (S1 := S) ?_)).trans ?_
      · simp [eqt]
      refine (congrArg (endC false S.length) (seq_nx (ρ1 := [some t.d, some u.d, some (waysD []), none, none]) (S1 := S) ?_)).trans ?_
      · simp [waysD]
      refine (congrArg (endC false S.length) (seq_nx (ρ1 := [some t.d, some u.d, some (waysD ((Tr.stepsTo t u).flatMap fun x => (Tr.waysF n x u).map (t :: ·))), d3, none]) (S1 := S) ?_)).trans ?_
      · rw [s_for, s_it, s_cal]
        simp [dfl_nil A.hso rfl, so]
        simpa using hloop
      simp
      exact endC_rt (waysD_free _)
end
end EV
/-! PLq4: the draws; rows of rows. -/
namespace EV
open L2 PySem
/-- the draws -/
structure Drw (P : Prg) (A : Lst P) where
  t : Nat
  g : Nat
  of : Nat
  pu : Nat
  mx : Nat
  sa : Nat
  ht : P t = some F_law_take
  hg : P g = some (F_law_grouped g t)
  hof : P of = some (F_law_of t)
  hpu : P pu = some (F_law_pushed t of A.af)
  hmx : P mx = some (F_law_mixed t mx)
  hsa : P sa = some (F_law_same sa)
structure DrwS (P : Prg) (A : Lst P) extends Drw P A where
  sf : Nat
  hsf : P sf = some (F_law_soft sf)
abbrev notD : D := .lst [.str "not", .bl true]
abbrev unlD : D := .lst [.str "unlike", .bl true]
theorem pl_not : Pl 1 notD := ⟨by decide, fun x hx => by
  simp only [List.mem_cons, List.not_mem_nil, or_false] at hx
  rcases hx with rfl | rfl
  · show PySem.SeqAt.shaped (.str "not") = true
    decide +kernel
  · exact True.intro⟩
def fewV (t u : Tr) : List Int := (hopL u.rch t.rch u.rch).getD []
def muchV (t u : Tr) : List Int := (hopL t.rch t.rch u.rch).getD []
def hopO (t u : Tr) : Bool := (hopL u.rch t.rch u.rch).isSome && (hopL t.rch t.rch u.rch).isSome
theorem hop_of {t u : Tr} (h : hopO t u = true) : Hop t u (fewV t u) (muchV t u) := by
  unfold hopO at h
  obtain ⟨h1, h2⟩ := ba h
  obtain ⟨a, ha⟩ := Option.isSome_iff_exists.mp h1
  obtain ⟨b, hb⟩ := Option.isSome_iff_exists.mp h2
  refine ⟨?_, ?_⟩
  · unfold fewV; rw [ha]; rfl
  · unfold muchV; rw [hb]; rfl
theorem s_calz {C : Cl} {ρ : Env} {S : Store} (f : Nat) (as : Ex) : ev C (.calz f as) ρ S = (evs C as ρ S).bind fun xs S1 => match allM (fz S1 0 8) xs with
    | some ys => (match C.call 0 f (ys ++ C.dfl f xs.length) [] with
      | .ok d _ => if isSc d then .ok d S1 else .fl
      | _ => .fl)
    | none => .fl := rfl
theorem pyS_rows (S : Store) (L : List (List Tr)) (h : ∀ r ∈ L, ∀ t ∈ r, t.joins ≤ 40) : ∃ ys, ys.length = L.length ∧ pyS S (.lst (L.map rowD)) = some (.list ys) := by
  have q : ∀ L : List (List Tr), (∀ r ∈ L, ∀ t ∈ r, t.joins ≤ 40) → ∃ ys : List PyData, ys.length = L.length ∧ pys (L.map rowD) = some ys ∧ PyData.canLayAll0 ys = true ∧ PyData.depthAll ys ≤ 41 := by
    intro L
    induction L with
    | nil => exact fun _ => ⟨[], rfl, rfl, by simp [PyData.canLayAll0], by simp [PyData.depthAll]⟩
    | cons r L ih =>
      intro h
      obtain ⟨ys, h1, h2, h3, h4⟩ := ih fun r hr => h r (List.mem_cons_of_mem _ hr)
      obtain ⟨g1, g2⟩ := lay_d 40 r (h r List.mem_cons_self)
      refine ⟨.list (r.map Tr.pt) :: ys, by simp [h1], ?_, ?_, ?_⟩
      · simp [pys, h2, rowD, D.py, pys_d]
      · simp [PyData.canLayAll0, PyData.canLay0, g1, h3]
      · simp only [PyData.depthAll, PyData.depth]
        omega
  obtain ⟨ys, h1, h2, h3, h4⟩ := q L h
  have sh : shapedD (.list ys) = true := by
    unfold shapedD PySem.SeqAt.shaped
    simp [PyData.canLay0, PyData.depth, h3]
    omega
  refine ⟨ys, h1, ?_⟩
  unfold pyS
  simp [D.py, h2, sh]
theorem ne_nil (S : Store) (L : List (List Tr)) (h : ∀ r ∈ L, ∀ t ∈ r, t.joins ≤ 40) : cop .ne S (.lst (L.map rowD)) (.lst []) = some (!L.isEmpty) := by
  obtain ⟨ys, h1, h2⟩ := pyS_rows S L h
  have h3 : pyS S (.lst []) = some (.list []) := rfl
  show (match pyS S (.lst (L.map rowD)), pyS S (.lst []) with | some x, some y => some (!PyData.eqv x y) | _, _ => none) = _
  rw [h2, h3]
  cases ys with
  | nil =>
    cases L with
    | nil => simp [PyData.eqv, PyData.eqvAll]
    | cons _ _ => cases h1
  | cons y ys =>
    cases L with
    | nil => cases h1
    | cons r L => simp [PyData.eqv, PyData.eqvAll]
theorem ways_mem (n : Nat) : ∀ (t u : Tr) {p q : Int}, Nm t p q → ∀ r ∈ Tr.waysF n t u, r.length ≤ n ∧ ∀ x ∈ r, Nm x p q := by
  induction n with
  | zero => intro t u p q _ r hr; cases hr
  | succ n ih =>
    intro t u p q nt r hr
    unfold Tr.waysF at hr
    split at hr
    · simp only [List.mem_cons, List.not_mem_nil, or_false] at hr
      subst hr
      exact ⟨by simp, fun x hx => by simp only [List.mem_cons, List.not_mem_nil, or_false] at hx; subst hx; exact nt⟩
    · obtain ⟨y, hy, hr⟩ := List.mem_flatMap.mp hr
      obtain ⟨r', hr', rfl⟩ := List.mem_map.mp hr
      have ny := after_nm nt y (List.mem_filter.mp hy).1
      obtain ⟨h1, h2⟩ := ih y u ny r' hr'
      refine ⟨by simp; omega, fun x hx => ?_⟩
      rcases List.mem_cons.mp hx with rfl | hx
      · exact nt
      · exact h2 x hx
/-- all pairs of a size -/
def allB (n : Nat) (p : List Tr → Tr → Tr → Bool) : Bool := let E := Tr.everyF 9 n 1; E.all fun t => E.all fun u => p E t u
theorem allB_ok {n : Nat} {p : List Tr → Tr → Tr → Bool} (h : allB n p = true) : ∀ a ∈ Tr.everyF 9 n 1, ∀ b ∈ Tr.everyF 9 n 1, p (Tr.everyF 9 n 1) a b = true := by
  unfold allB at h
  simp only [List.all_eq_true] at h
  exact h
end EV
/-! PL22: law k22: rises, heard, the turns. -/
namespace EV
open L2 PySem
def F_law_rises (i_law_arms : Nat) : Fn := { name := "_law_rises", ps := ["_law_rows_so", "_law_size_so"], ns := ["_law_rows_so", "_law_size_so", "_law_found", "_law_k", "_law_mine", "_law_its", "_law_j"], body := (.cons (.set 2 (.bi .mul (.li (.cons (.k (.int 0)) .nil)) (.v 1))) (.cons (.forr (.v 3) (.rg2 (.k (.int 1)) (.pr .len (.cons (.v 0) .nil))) (.cons (.asg (.t (.cons (.v 4) (.cons (.v 5) .nil))) (.tu (.cons (.cal i_law_arms (.cons (.ix (.v 0) (.bi .sub (.v 3) (.k (.int 1)))) .nil)) (.cons (.cal i_law_arms (.cons (.ix (.v 0) (.v 3)) .nil)) .nil)))) (.cons (.set 2 (.lc (.v 6) [6] (.rg1 (.v 1)) .yes (.bi .add (.ix (.v 2) (.v 6)) (.pr .int (.cons (.cm .ne (.ix (.v 4) (.v 6)) (.ix (.v 5) (.v 6))) .nil))))) .nil))) (.cons (.ret (.v 2)) .nil))) }
def F_law_due22 (i_law_rises i_law_arms i_law_ways_on i_law_goes : Nat) : Fn := { name := "_law_due", ps := ["_law_mine", "_law_its"], ns := ["_law_mine", "_law_its", "_law_rows_so", "_law_size_so", "_law_sizes_so", "_law_rises_so", "_law_few", "_law_much", "_law_own", "_law_j"], body := (.cons (.ite (.un .not (.cal i_law_goes (.cons (.v 0) (.cons (.v 1) .nil)))) (.cons (.ret (.li (.cons (.k .non) (.cons (.k .non) (.cons (.li (.cons (.k (.str "not")) (.cons (.k (.bl true)) .nil))) .nil))))) .nil) .nil) (.cons (.asg (.t (.cons (.v 2) (.cons (.v 3) .nil))) (.tu (.cons (.cal i_law_ways_on (.cons (.v 0) (.cons (.v 1) .nil))) (.cons (.pr .len (.cons (.cal i_law_arms (.cons (.v 0) .nil)) .nil)) .nil)))) (.cons (.set 4 (.lc (.v 8) [8] (.it (.v 2)) .yes (.bi .sub (.pr .len (.cons (.v 8) .nil)) (.k (.int 1))))) (.cons (.set 5 (.lc (.v 8) [8] (.it (.v 2)) .yes (.cal i_law_rises (.cons (.v 8) (.cons (.v 3) .nil))))) (.cons (.set 6 (.pr .tuple (.cons (.lc (.v 9) [9] (.rg1 (.v 3)) .yes (.pr .min1 (.cons (.lc (.v 8) [8] (.it (.v 5)) .yes (.ix (.v 8) (.v 9))) .nil))) .nil))) (.cons (.set 7 (.pr .tuple (.cons (.lc (.v 9) [9] (.rg1 (.v 3)) .yes (.pr .max1 (.cons (.lc (.v 8) [8] (.it (.v 5)) .yes (.ix (.v 8) (.v 9))) .nil))) .nil))) (.cons (.ret (.li (.cons (.pr .min1 (.cons (.v 4) .nil)) (.cons (.pr .max1 (.cons (.v 4) .nil)) (.cons (.tu (.cons (.v 6) (.cons (.v 7) .nil))) .nil))))) .nil))))))) }
def F_law_heard22 (i_fewest_steps i_most_steps i_hops : Nat) : Fn := { name := "_law_heard", ps := ["_law_door", "_law_mine", "_law_its"], ns := ["_law_door", "_law_mine", "_law_its", "_law_found", "error"], body := (.cons (.set 3 (.k .non)) (.cons (.tryy (.cons (.ite (.cm .eq (.v 0) (.k (.int 0))) (.cons (.set 3 (.cal i_fewest_steps (.cons (.v 1) (.cons (.v 2) .nil)))) .nil) (.cons (.ite (.cm .eq (.v 0) (.k (.int 1))) (.cons (.set 3 (.cal i_most_steps (.cons (.v 1) (.cons (.v 2) .nil)))) .nil) (.cons (.set 3 (.cal i_hops (.cons (.v 1) (.cons (.v 2) .nil)))) .nil)) .nil)) .nil) (.han [5] (some 4) (.cons (.set 3 (.li (.cons (.k (.str "not")) (.cons (.isi (.v 4) [.ty "ValueError"]) .nil)))) .nil) (.han [4] (some 4) (.cons (.set 3 (.li (.cons (.k (.str "unlike")) (.cons (.isi (.v 4) [.ty "ValueError"]) .nil)))) .nil) .nil))) (.cons (.ret (.v 3)) .nil))) }
def F_law_right22 (i_law_same i_most_steps i_fewest_steps i_law_heard i_law_mixed i_law_due i_law_take i_law_pushed i_law_grouped : Nat) : Fn := { name := "_law_right", ps := ["_law_box_here"], ns := ["_law_box_here", "_law_turn", "_law_size_so", "_law_mine", "_law_its", "_law_due_here", "_law_soft", "_law_door"], body := (.cons (.forr (.v 1) (.rg1 (.k (.int 8))) (.cons (.set 2 (.bi .add (.k (.int 1)) (.cal i_law_take (.cons (.v 0) (.cons (.k (.int 6)) .nil))))) (.cons (.set 3 (.cal i_law_grouped (.cons (.v 0) (.cons (.k (.int 1)) (.cons (.v 2) .nil))))) (.cons (.set 4 (.ite (.cm .gt (.cal i_law_take (.cons (.v 0) (.cons (.k (.int 3)) .nil))) (.k (.int 0))) (.cal i_law_pushed (.cons (.v 0) (.cons (.v 3) (.cons (.k (.int 5)) .nil)))) (.cal i_law_grouped (.cons (.v 0) (.cons (.k (.int 1)) (.cons (.v 2) .nil)))))) (.cons (.asg (.t (.cons (.v 5) (.cons (.v 6) .nil))) (.tu (.cons (.cal i_law_due (.cons (.v 3) (.cons (.v 4) .nil))) (.cons (.li (.cons (.cal i_law_mixed (.cons (.v 0) (.cons (.v 3) .nil))) (.cons (.cal i_law_mixed (.cons (.v 0) (.cons (.v 4) .nil))) .nil))) .nil)))) (.cons (.ite (.un .not (.cal i_law_same (.cons (.lc (.v 7) [7] (.rg1 (.k (.int 3))) .yes (.cal i_law_heard (.cons (.v 7) (.cons (.ix (.v 6) (.k (.int 0))) (.cons (.ix (.v 6) (.k (.int 1))) .nil))))) (.cons (.v 5) .nil)))) (.cons (.ret (.k (.bl false))) .nil) .nil) (.cons (.ite (.un .not (.cal i_law_same (.cons (.li (.cons (.calk i_fewest_steps .nil (.cons (.v 4) (.cons (.v 3) .nil)) ["other", "one"] [1, 0]) (.cons (.calk i_most_steps .nil (.cons (.v 4) (.cons (.v 3) .nil)) ["other", "one"] [1, 0]) .nil))) (.cons (.sl (.v 5) .no (.k (.int 2))) .nil)))) (.cons (.ret (.k (.bl false))) .nil) .nil) .nil))))))) (.cons (.ret (.k (.bl true))) .nil)) }
def stepR (n : Nat) (acc : List Int) (a b : Tr) : List Int := (List.range n).map fun j => acc.getD j 0 + (if a.rch.getD j 0 = b.rch.getD j 0 then 0 else 1)
def riseF (n : Nat) : List Int → List Tr → List Int
  | acc, a :: b :: r => riseF n (stepR n acc a b) (b :: r)
  | acc, _ => acc
theorem rgD_cons {a l : Int} (h : a < l) : rgD a l = .int a :: rgD (a + 1) l := by
  have := rgD_split a a l (by omega) h
  have e : rgD a a = [] := by simp [rgD]
  rw [e] at this
  exact this
theorem ix_d {S : Store} {row : List Tr} {i : Nat} {x : Tr} (e : row[i]? = some x) : idx S (rowD row) (.int (i : Int)) = some x.d := by
  obtain ⟨hl, hv⟩ := List.getElem?_eq_some_iff.mp e
  show atI (row.map Tr.d) (i : Int) = some x.d
  unfold atI ixN
  have hl' : (i : Int) < (row.map Tr.d).length := by simpa using hl
  simp [hl, hv]
theorem ix_l {S : Store} {row : List Int} {i : Nat} (h : i < row.length) : idx S (.lst (row.map .int)) (.int (i : Int)) = some (.int (row.getD i 0)) ∧ idx S (.tup (row.map .int)) (.int (i : Int)) = some (.int (row.getD i 0)) := by
  have q : atI (row.map D.int) (i : Int) = some (.int (row.getD i 0)) := by
    unfold atI ixN
    have hl' : (i : Int) < (row.map D.int).length := by simpa using h
    simp [h]
  exact ⟨q, q⟩
theorem rch_len (t : Tr) : t.rch.length = t.joins := by
  unfold Tr.rch
  rw [List.length_map, t.spans_len]
section
variable {P : Prg} {W : Nat} (A : Lst P) (hW : 100 < W)
include hW
theorem rises_ok {f : Nat} (eR : P f = some (F_law_rises A.ar)) (n : Nat) (hn : n ≤ 40) (rows : List Tr) (hr : ∀ x ∈ rows, x.joins = n) (hl : rows.length ≤ 1000) (k b : Nat) (S : Store) (hk : 52 ≤ k) :
    run P isi0 W k b f [rowD rows, .int (n : Int)] S = .ok (.lst ((riseF n (List.replicate n 0) rows).map .int)) S := by
  obtain ⟨k, rfl⟩ : ∃ m, k = m + 1 := ⟨k - 1, by omega⟩
  rw [run_nk eR rfl rfl]
  show endC false S.length (evS (cl P W k S.length) (F_law_rises A.ar).body [some (rowD rows), some (.int (n : Int)), none, none, none, none, none] S) = _
  unfold F_law_rises
  have fl : (List.replicate n [D.int 0]).flatten = (List.replicate n (0 : Int)).map .int := by simp
  refine (congrArg (endC false S.length) (seq_nx (ρ1 := [some (rowD rows), some (.int (n : Int)), some (.lst ((List.replicate n (0 : Int)).map .int)), none, none, none, none]) (S1 := S) ?_)).trans ?_
  · have : (0 : Int) ≤ n ∧ (n : Int) < 2 ^ 62 ∧ ([D.int 0] : List D).length * (n : Int).toNat ≤ lim := ⟨by omega, by omega, Nat.le_trans (m := 40) (by simp; omega) (by decide)⟩
    have mu : bop .mul S (.lst [.int 0]) (.int (n : Int)) = some (.lst ((List.replicate n (0 : Int)).map .int)) := by
      rw [s_mull, if_pos this, Int.toNat_natCast, fl]
    have l1 : ∀ ρ, ev (cl P W k S.length) (.li (.cons (.k (.int 0)) .nil)) ρ S = .ok (.lst [.int 0]) S := fun _ => rfl
    rw [s_set, s_bi, l1]
    simp -implicitDefEqProofs only [s_bind, s_v, List.getD_cons_succ, List.getD_cons_zero, s_of, mu, s_then, List.set_cons_succ, List.set_cons_zero]
  have loop : ∀ (suf : List Tr) (a : Tr) (pre : List Tr) (acc : List Int) (d3 d4 d5 : Option D), rows = pre ++ a :: suf → acc.length = n →
      ∃ d3' d4' d5', forGo (evS (cl P W k S.length) (.cons (.asg (.t (.cons (.v 4) (.cons (.v 5) .nil))) (.tu (.cons (.cal A.ar (.cons (.ix (.v 0) (.bi .sub (.v 3) (.k (.int 1)))) .nil)) (.cons (.cal A.ar (.cons (.ix (.v 0) (.v 3)) .nil)) .nil)))) (.cons (.set 2 (.lc (.v 6) [6] (.rg1 (.v 1)) .yes (.bi .add (.ix (.v 2) (.v 6)) (.pr .int (.cons (.cm .ne (.ix (.v 4) (.v 6)) (.ix (.v 5) (.v 6))) .nil))))) .nil))) (.v 3) (rgD ((pre.length : Int) + 1) rows.length) [some (rowD rows), some (.int (n : Int)), some (.lst (acc.map .int)), d3, d4, d5, none] S
        = .nx [some (rowD rows), some (.int (n : Int)), some (.lst ((riseF n acc (a :: suf)).map .int)), d3', d4', d5', none] S := by
    intro suf
    induction suf with
    | nil =>
      intro a pre acc d3 d4 d5 e _
      have : rgD ((pre.length : Int) + 1) rows.length = [] := by rw [e]; simp [rgD]
      rw [this]
      exact ⟨d3, d4, d5, rfl⟩
    | cons x suf ih =>
      intro a pre acc d3 d4 d5 e ha
      have hx : x ∈ rows := by rw [e]; simp
      have hA : a ∈ rows := by rw [e]; simp
      have r1 := A.arms hW a (by rw [hr a hA]; omega) k S.length S (by omega)
      have r2 := A.arms hW x (by rw [hr x hx]; omega) k S.length S (by omega)
      obtain ⟨d3', d4', d5', hh⟩ := ih x (pre ++ [a]) (stepR n acc a x) (some (.int ((pre.length : Int) + 1))) (some (rD a)) (some (rD x)) (by rw [e]; simp) (by simp [stepR])
      refine ⟨d3', d4', d5', ?_⟩
      have g1 : rows[pre.length]? = some a := by rw [e]; simp
      have g2 : rows[pre.length + 1]? = some x := by rw [e, List.getElem?_append_right (by omega)]; simp
      have i1 := ix_d (S := S) g1
      have i2 := ix_d (S := S) g2
      have hlt : ((pre.length : Int) + 1) < rows.length := by rw [e]; simp; omega
      rw [rgD_cons hlt, forGo]
      simp only [bindT, List.set_cons_succ, List.set_cons_zero]
      have st : evS (cl P W k S.length) (.cons (.asg (.t (.cons (.v 4) (.cons (.v 5) .nil))) (.tu (.cons (.cal A.ar (.cons (.ix (.v 0) (.bi .sub (.v 3) (.k (.int 1)))) .nil)) (.cons (.cal A.ar (.cons (.ix (.v 0) (.v 3)) .nil)) .nil)))) (.cons (.set 2 (.lc (.v 6) [6] (.rg1 (.v 1)) .yes (.bi .add (.ix (.v 2) (.v 6)) (.pr .int (.cons (.cm .ne (.ix (.v 4) (.v 6)) (.ix (.v 5) (.v 6))) .nil))))) .nil)) [some (rowD rows), some (.int (n : Int)), some (.lst (acc.map .int)), some (.int ((pre.length : Int) + 1)), d4, d5, none] S
          = .nx [some (rowD rows), some (.int (n : Int)), some (.lst ((stepR n acc a x).map .int)), some (.int ((pre.length : Int) + 1)), some (rD a), some (rD x), none] S := by
        refine (seq_nx (ρ1 := [some (rowD rows), some (.int (n : Int)), some (.lst (acc.map .int)), some (.int ((pre.length : Int) + 1)), some (rD a), some (rD x), none]) (S1 := S) ?_).trans ?_
        · have e1 : ((pre.length : Int) + 1 - 1) = (pre.length : Int) := by omega
          have i2' : idx S (rowD rows) (.int ((pre.length : Int) + 1)) = some x.d := i2
          simp [e1, i1, i2', dfl_nil A.har rfl, r1, r2, bindT]
        have lg := lc_mapz (c := ev (cl P W k S.length) .yes) (e := ev (cl P W k S.length) (.bi .add (.ix (.v 2) (.v 6)) (.pr .int (.cons (.cm .ne (.ix (.v 4) (.v 6)) (.ix (.v 5) (.v 6))) .nil)))) (t := .v 6) (vs := [6]) (ρ := [some (rowD rows), some (.int (n : Int)), some (.lst (acc.map .int)), some (.int ((pre.length : Int) + 1)), some (rD a), some (rD x), none]) (S := S)
          (g := fun j : Nat => D.int (0 + (j : Int))) (h := fun j : Nat => D.int (acc.getD j 0 + (if a.rch.getD j 0 = x.rch.getD j 0 then 0 else 1))) (List.range n) [] (fun j hj => by
            have hj := List.mem_range.mp hj
            refine ⟨[some (rowD rows), some (.int (n : Int)), some (.lst (acc.map .int)), some (.int ((pre.length : Int) + 1)), some (rD a), some (rD x), some (.int (0 + (j : Int)))], rfl, rfl, ?_⟩
            have j1 := (ix_l (S := S) (row := acc) (i := j) (by omega)).1
            have j2 := (ix_l (S := S) (row := a.rch) (i := j) (by rw [rch_len, hr a hA]; omega)).2
            have j3 := (ix_l (S := S) (row := x.rch) (i := j) (by rw [rch_len, hr x hx]; omega)).2
            have z : (0 : Int) + (j : Int) = j := by omega
            rw [z]
            by_cases q : a.rch.getD j 0 = x.rch.getD j 0 <;> simp [j1, j2, j3, q])
        have it : evi (cl P W k S.length) (.rg1 (.v 1)) [some (rowD rows), some (.int (n : Int)), some (.lst (acc.map .int)), some (.int ((pre.length : Int) + 1)), some (rD a), some (rD x), none] S = .ok ((List.range n).map fun j : Nat => D.int (0 + (j : Int))) S := by
          rw [s_rg1]
          obtain ⟨q1, q2⟩ := rg_c (n := n) (by omega)
          have : (n : Int) ≤ lim := by omega
          simp -implicitDefEqProofs only [s_v, List.getD_cons_succ, List.getD_cons_zero, s_of, s_bind, q1, this, decide_true, Bool.and_self, if_true]
          unfold rgD
          rw [Int.sub_zero, Int.toNat_natCast]
        rw [s_seq, s_set, s_lc, it]
        simp only [s_bind]
        rw [lg]
        simp [stepR]
      rw [st]
      simp only
      have e2 : ((pre ++ [a]).length : Int) + 1 = (pre.length : Int) + 1 + 1 := by simp
      rw [e2] at hh
      rw [hh]
      rfl
  have it : evi (cl P W k S.length) (.rg2 (.k (.int 1)) (.pr .len (.cons (.v 0) .nil))) [some (rowD rows), some (.int (n : Int)), some (.lst ((List.replicate n (0 : Int)).map .int)), none, none, none, none] S = .ok (rgD 1 rows.length) S := by
    rw [s_rg2]
    obtain ⟨q1, q2⟩ := rg_c (n := rows.length) (by omega)
    have : (rows.length : Int) - 1 ≤ lim := by omega
    have q0 : small62 1 = true := by decide
    have le : prim .len S [rowD rows] = some (.int (rows.length : Int)) := by
      show some (D.int ((rows.map Tr.d).length : Nat)) = _
      rw [List.length_map]
    simp -implicitDefEqProofs only [s_k, s_pr, s_cons, s_nil, s_v, List.getD_cons_zero, s_of, s_bind, le, q0, q1, this, decide_true, Bool.and_self, if_true]
  cases hrows : rows with
  | nil =>
    subst hrows
    have e0 : riseF n (List.replicate n 0) [] = List.replicate n 0 := rfl
    rw [e0]
    have r0 : rgD 1 (([] : List Tr).length : Int) = [] := rfl
    rw [r0] at it
    generalize (List.replicate n (0 : Int)) = z at it ⊢
    rw [s_seq, s_for, it]
    simp [forGo]
    exact endC_rt (dI_free _)
  | cons a suf =>
    obtain ⟨d3', d4', d5', hh⟩ := loop suf a [] (List.replicate n 0) none none none hrows (by simp)
    rw [← hrows]
    rw [← hrows] at hh
    rw [s_seq, s_for, it]
    simp only [s_then]
    have e0 : (([] : List Tr).length : Int) + 1 = 1 := rfl
    rw [e0] at hh
    rw [hh]
    simp
    exact endC_rt (dI_free _)
end
end EV
/-! PL22b: law k22: the turns. -/
namespace EV
open L2 PySem
def dueD (t u : Tr) : D := if leL t.rch u.rch then .lst [.int (fewV t u).sum, .int (muchV t u).sum, .tup [.tup ((fewV t u).map .int), .tup ((muchV t u).map .int)]] else .lst [.non, .non, notD]
theorem pl_ints22 (l : List Int) (h : l.length ≤ 5000) : Pl 1 (.tup (l.map .int)) := ⟨by rw [List.length_map]; exact Nat.le_trans h (by decide), fun x hx => by
  obtain ⟨i, _, rfl⟩ := List.mem_map.mp hx
  exact True.intro⟩
section
variable {P : Prg} {W : Nat} {O : Ord P} (G : Stp P O) (A : Lst P) (R : Drw P A) (hW : 100 < W)
include hW
theorem heard22_ok {i_h : Nat} (eH : P i_h = some (F_law_heard22 G.fs G.ms G.h)) {t u : Tr} {x y : D} (g : IsG t x) (g2 : IsG u y) (hj : t.joins = u.joins) (h : t.joins ≤ 40) (pa : leL t.rch u.rch = true → hopO t u = true) (k base : Nat) (S : Store) (hk : 55 ≤ k) :
    run P isi0 W k base i_h [.int 0, x, y] S = .ok (if leL t.rch u.rch then .int (fewV t u).sum else .non) S ∧ run P isi0 W k base i_h [.int 1, x, y] S = .ok (if leL t.rch u.rch then .int (muchV t u).sum else .non) S ∧
    run P isi0 W k base i_h [.int 2, x, y] S = .ok (if leL t.rch u.rch then .tup [.tup ((fewV t u).map .int), .tup ((muchV t u).map .int)] else notD) S := by
  obtain ⟨k, rfl⟩ : ∃ m, k = m + 1 := ⟨k - 1, by omega⟩
  have r1 := G.fewest hW g g2 hj h (fun q => hop_of (pa q)) k S.length S (by omega)
  have r2 := G.most hW g g2 hj h (fun q => hop_of (pa q)) k S.length S (by omega)
  have r3 := G.hops hW g g2 hj h (fun q => hop_of (pa q)) k S.length S (by omega)
  refine ⟨?_, ?_, ?_⟩ <;> rw [run_nk eH rfl rfl] <;> cases q : leL t.rch u.rch <;> rw [q] at r1 r2 r3 <;>
    simp [F_law_heard22, startD, s_try, dfl_nil G.hfs rfl, dfl_nil G.hms rfl, dfl_nil G.hh rfl, r1, r2, r3] <;> first | exact endC_rt rfl | (refine endC_rt ?_; simp [D.free, frees, dI_free])
theorem hopO_len {t u : Tr} (h : hopO t u = true) : (fewV t u).length = t.joins ∧ (muchV t u).length = t.joins := by
  have hp := hop_of h
  refine ⟨?_, ?_⟩
  · rw [← hopL_len hp.h1, rch_len]
  · rw [← hopL_len hp.h2, rch_len]
theorem right22_ok {i_h i_d f : Nat} (eH : P i_h = some (F_law_heard22 G.fs G.ms G.h)) {gd : Fn} (eD : P i_d = some gd) (hgd : gd.dfl = [])
    (hop : ∀ r : Nat, r ≤ 5 → ∀ t u, Nm t 1 (1 + (r : Int)) → Nm u 1 (1 + (r : Int)) → leL t.rch u.rch = true → hopO t u = true)
    (eR : P f = some (F_law_right22 R.sa G.ms G.fs i_h R.mx i_d R.t R.pu R.g)) (k base : Nat) (hk : 150 ≤ k)
    (due : ∀ r : Nat, r ≤ 5 → ∀ t u, Nm t 1 (1 + (r : Int)) → Nm u 1 (1 + (r : Int)) → ∀ b S, run P isi0 W k b i_d [t.d, u.d] S = .ok (dueD t u) S) (S : Store) (b : Nat) (bx : Box S b 0) :
    ∃ S', run P isi0 W (k + 1) base f [.loc b] S = .ok (.bl true) S' ∧ S'.length = S.length ∧ ∀ m, m ≠ b → S'[m]? = S[m]? := by
  refine turns_ok (N := 8) (c := 100) (L := 8) eR rfl rfl rfl (by decide) (by decide) (by decide) rfl k base S b bx ?_
  intro g S0 Z g0 l0 b0 hZ
  generalize S.length = bs
  obtain ⟨k, rfl⟩ : ∃ m, k = m + 2 := ⟨k - 2, by omega⟩
  obtain ⟨r, S1, t1, p1, q1, l1, b1, m1⟩ := take_ok (W := W) R.ht (k + 1) bs S0 b Z 6 (by decide) (by decide) b0 (by omega)
  obtain ⟨r, rfl⟩ : ∃ n : Nat, r = n := ⟨r.toNat, by omega⟩
  have hr : r ≤ 5 := by omega
  obtain ⟨t, S2, gt, nt, jt, l2, b2, m2⟩ := grouped_ok (W := W) R.ht R.hg r 1 (1 + (r : Int)) (k + 2) bs S1 b (Z + 1) rfl b1 (by omega) (by omega)
  obtain ⟨w, S3, t3, p3, q3, l3, b3, m3⟩ := take_ok (W := W) R.ht (k + 1) bs S2 b (Z + 1 + 2 * r) 3 (by decide) (by decide) b2 (by omega)
  obtain ⟨u, S4, hu, nu, l4, b4, m4⟩ : ∃ u S4, (∀ ρ2 ρ4 ρ5 ρ6 ρ7, ev (cl P W (k + 2) bs) (.ite (.cm .gt (.cal R.t (.cons (.v 0) (.cons (.k (.int 3)) .nil))) (.k (.int 0))) (.cal R.pu (.cons (.v 0) (.cons (.v 3) (.cons (.k (.int 5)) .nil)))) (.cal R.g (.cons (.v 0) (.cons (.k (.int 1)) (.cons (.v 2) .nil))))) [some (.loc b), ρ2, some (.int (1 + (r : Int))), some t.d, ρ4, ρ5, ρ6, ρ7] S2 = .ok u.d S4) ∧ Nm u 1 (1 + (r : Int)) ∧ S4.length = S3.length ∧ Box S4 b (Z + 1 + 2 * r + 1 + 10) ∧ ∀ m, m ≠ b → S4[m]? = S3[m]? := by
    by_cases hw : 0 < w
    · obtain ⟨u, S4, h1, h2, h3, h4, h5⟩ := pushed_ok (W := W) R.ht R.hof A.haf R.hpu t 1 (1 + (r : Int)) nt (by omega) 5 (by omega) (k + 2) bs S3 b _ b3 (by omega) (by omega)
      have h1 : run P isi0 W (k + 2) bs R.pu [.loc b, t.d, .int 5] S3 = .ok u.d S4 := h1
      refine ⟨u, S4, fun ρ2 ρ4 ρ5 ρ6 ρ7 => ?_, h2.nm nt, h3, h4.mono (by omega), h5⟩
      simp [dfl_nil R.ht rfl, dfl_nil R.hpu rfl, t3, hw, h1]
    · obtain ⟨u, S4, h1, h2, h3, h4, h5, h6⟩ := grouped_ok (W := W) R.ht R.hg r 1 (1 + (r : Int)) (k + 2) bs S3 b _ rfl b3 (by omega) (by omega)
      refine ⟨u, S4, fun ρ2 ρ4 ρ5 ρ6 ρ7 => ?_, h2, h4, h5.mono (by omega), h6⟩
      simp [dfl_nil R.ht rfl, dfl_nil R.hg rfl, t3, hw, h1]
  have ju := nu.joins
  have dv := due r hr t u nt nu bs S4
  obtain ⟨mx, S5, x5, g5, l5, b5, m5⟩ := mixed_ok (W := W) R.ht R.hmx t (k + 2) bs S4 b _ b4 (by omega) (by omega)
  obtain ⟨my, S6, x6, g6, l6, b6, m6⟩ := mixed_ok (W := W) R.ht R.hmx u (k + 2) bs S5 b _ b5 (by omega) (by omega)
  have hop_ := hop r hr t u nt nu
  obtain ⟨h0, h1, h2⟩ := heard22_ok G hW eH g5 g6 (by omega) (by omega) hop_ (k + 2) bs S6 (by omega)
  have f1 := G.fewest hW t.isd u.isd (by omega) (by omega) (fun q => hop_of (hop_ q)) (k + 2) bs S6 (by omega)
  have f2 := G.most hW t.isd u.isd (by omega) (by omega) (fun q => hop_of (hop_ q)) (k + 2) bs S6 (by omega)
  -- the list that is told
  have lg : ev (cl P W (k + 2) bs) (.lc (.v 7) [7] (.rg1 (.k (.int 3))) .yes (.cal i_h (.cons (.v 7) (.cons (.ix (.v 6) (.k (.int 0))) (.cons (.ix (.v 6) (.k (.int 1))) .nil))))) [some (.loc b), g 1, some (.int (1 + (r : Int))), some t.d, some u.d, some (dueD t u), some (.lst [mx, my]), g 7] S6 = .ok (dueD t u) S6 := by
    have lg := lc_mapz (c := ev (cl P W (k + 2) bs) .yes) (e := ev (cl P W (k + 2) bs) (.cal i_h (.cons (.v 7) (.cons (.ix (.v 6) (.k (.int 0))) (.cons (.ix (.v 6) (.k (.int 1))) .nil))))) (t := .v 7) (vs := [7]) (ρ := [some (.loc b), g 1, some (.int (1 + (r : Int))), some t.d, some u.d, some (dueD t u), some (.lst [mx, my]), g 7]) (S := S6) (g := Prod.fst) (h := Prod.snd)
      [(D.int 0, if leL t.rch u.rch then D.int (fewV t u).sum else .non), (D.int 1, if leL t.rch u.rch then D.int (muchV t u).sum else .non), (D.int 2, if leL t.rch u.rch then D.tup [.tup ((fewV t u).map .int), .tup ((muchV t u).map .int)] else notD)] [] (fun p hp => by
        refine ⟨[some (.loc b), g 1, some (.int (1 + (r : Int))), some t.d, some u.d, some (dueD t u), some (.lst [mx, my]), some p.1], rfl, rfl, ?_⟩
        simp only [List.mem_cons, List.not_mem_nil, or_false] at hp
        rcases hp with rfl | rfl | rfl <;> simp [dfl_nil eH rfl, h0, h1, h2])
    have it : ∀ ρ, evi (cl P W (k + 2) bs) (.rg1 (.k (.int 3))) ρ S6 = .ok ([(D.int 0, if leL t.rch u.rch then D.int (fewV t u).sum else .non), (D.int 1, if leL t.rch u.rch then D.int (muchV t u).sum else .non), (D.int 2, if leL t.rch u.rch then D.tup [.tup ((fewV t u).map .int), .tup ((muchV t u).map .int)] else notD)].map Prod.fst) S6 := fun _ => rfl
    rw [s_lc, it, s_bind, lg]
    unfold dueD
    cases leL t.rch u.rch <;> rfl
  have plD : Pl 3 (dueD t u) := by
    unfold dueD
    cases q : leL t.rch u.rch with
    | false =>
      refine ⟨by simp, fun x hx => ?_⟩
      simp only [List.mem_cons, List.not_mem_nil, or_false] at hx
      rcases hx with rfl | rfl | rfl
      · exact True.intro
      · exact True.intro
      · exact Pl.mono (n := 1) (m := 2) pl_not (by decide)
    | true =>
      obtain ⟨e1, e2⟩ := hopO_len hW (hop_ q)
      refine ⟨by simp, fun x hx => ?_⟩
      simp only [List.mem_cons, List.not_mem_nil, or_false] at hx
      rcases hx with rfl | rfl | rfl
      · exact True.intro
      · exact True.intro
      · refine ⟨by simp, fun x hx => ?_⟩
        simp only [List.mem_cons, List.not_mem_nil, or_false] at hx
        rcases hx with rfl | rfl
        · exact pl_ints22 _ (by omega)
        · exact pl_ints22 _ (by omega)
  have sa1 := same_ok (W := W) R.hsa 3 (dueD t u) (k + 2) bs S6 plD (by omega)
  have sl : slc S6 (dueD t u) none (some 2) = some (.lst [if leL t.rch u.rch then .int (fewV t u).sum else .non, if leL t.rch u.rch then .int (muchV t u).sum else .non]) := by
    unfold dueD
    cases leL t.rch u.rch <;> rfl
  have sa2 := same_ok (W := W) R.hsa 1 (.lst [if leL t.rch u.rch then .int (fewV t u).sum else .non, if leL t.rch u.rch then .int (muchV t u).sum else .non]) (k + 2) bs S6 ⟨by simp, fun x hx => by
    simp only [List.mem_cons, List.not_mem_nil, or_false] at hx
    rcases hx with rfl | rfl <;> cases leL t.rch u.rch <;> exact True.intro⟩ (by omega)
  show ∃ ρ' S9, evS (cl P W (k + 2) bs) (match (F_law_right22 R.sa G.ms G.fs i_h R.mx i_d R.t R.pu R.g).body with | .cons (.forr _ _ bd) _ => bd | _ => .nil) [g 0, g 1, g 2, g 3, g 4, g 5, g 6, g 7] S0 = .nx ρ' S9 ∧ _
  rw [g0]
  refine ⟨[some (.loc b), g 1, some (.int (1 + (r : Int))), some t.d, some u.d, some (dueD t u), some (.lst [mx, my]), g 7], S6, ?_, rfl, rfl, by omega, b6.mono (by omega), fun m hm => by rw [m6 m hm, m5 m hm, m4 m hm, m3 m hm, m2 m hm, m1 m hm]⟩
  unfold F_law_right22
  dsimp only
  refine (seq_nx (ρ1 := [some (.loc b), g 1, some (.int (1 + (r : Int))), g 3, g 4, g 5, g 6, g 7]) (S1 := S1) (by simp [dfl_nil R.ht rfl, t1])).trans ?_
  refine (seq_nx (ρ1 := [some (.loc b), g 1, some (.int (1 + (r : Int))), some t.d, g 4, g 5, g 6, g 7]) (S1 := S2) (by simp [dfl_nil R.hg rfl, gt])).trans ?_
  refine (seq_nx (ρ1 := [some (.loc b), g 1, some (.int (1 + (r : Int))), some t.d, some u.d, g 5, g 6, g 7]) (S1 := S4) (by rw [s_set, hu]; rfl)).trans ?_
  refine (seq_nx (ρ1 := [some (.loc b), g 1, some (.int (1 + (r : Int))), some t.d, some u.d, some (dueD t u), some (.lst [mx, my]), g 7]) (S1 := S6) (by simp [dfl_nil eD hgd, dv, dfl_nil R.hmx rfl, x5, x6, bindT])).trans ?_
  refine (seq_nx (ρ1 := [some (.loc b), g 1, some (.int (1 + (r : Int))), some t.d, some u.d, some (dueD t u), some (.lst [mx, my]), g 7]) (S1 := S6) (by simp [lg, -s_lc, dfl_nil R.hsa rfl, sa1])).trans ?_
  have sle : ev (cl P W (k + 2) bs) (.sl (.v 5) .no (.k (.int 2))) [some (.loc b), g 1, some (.int (1 + (r : Int))), some t.d, some u.d, some (dueD t u), some (.lst [mx, my]), g 7] S6 = .ok (.lst [if leL t.rch u.rch then .int (fewV t u).sum else .non, if leL t.rch u.rch then .int (muchV t u).sum else .non]) S6 := by
    show EV.R.of (slc S6 (dueD t u) none (some 2)) S6 = _
    rw [sl]
    rfl
  simp [s_callk, pick, dfl_nil G.hfs rfl, dfl_nil G.hms rfl, f1, f2, sle, dfl_nil R.hsa rfl, sa2]
end
end EV
/-! PLq5: more calls known ahead: rows of steps, rises; equal plain data. -/
namespace EV
open L2 PySem
def beqF : Nat → D → D → Bool
  | 0, _, _ => false
  | n + 1, a, b => match a with
    | .int i => (match b with | .int j => decide (i = j) | _ => false)
    | .bl i => (match b with | .bl j => i == j | _ => false)
    | .non => (match b with | .non => true | _ => false)
    | .str x => (match b with | .str y => decide (x = y) | _ => false)
    | .tup xs => (match b with | .tup ys => beqL (beqF n) xs ys | _ => false)
    | .lst xs => (match b with | .lst ys => beqL (beqF n) xs ys | _ => false)
    | _ => false
where beqL (f : D → D → Bool) : List D → List D → Bool
  | [], [] => true
  | x :: xs, y :: ys => f x y && beqL f xs ys
  | _, _ => false
theorem beqL_ok {f : D → D → Bool} (h : ∀ a b, f a b = true → a = b) : ∀ xs ys, beqF.beqL f xs ys = true → xs = ys
  | [], [], _ => rfl
  | [], _ :: _, q => by cases q
  | _ :: _, [], q => by cases q
  | x :: xs, y :: ys, q => by
    unfold beqF.beqL at q
    rw [Bool.and_eq_true] at q
    rw [h x y q.1, beqL_ok h xs ys q.2]
theorem beqF_ok : ∀ (n : Nat) (a b : D), beqF n a b = true → a = b
  | 0, _, _, h => by cases h
  | n + 1, a, b, h => by
    unfold beqF at h
    cases a <;> simp only at h <;> (try (cases h; done)) <;> cases b <;> simp only at h <;> (try (cases h; done))
    case non.non => rfl
    case bl.bl => rw [eq_of_beq h]
    case int.int => rw [of_decide_eq_true h]
    case str.str => rw [of_decide_eq_true h]
    case tup.tup => rw [beqL_ok (beqF_ok n) _ _ h]
    case lst.lst => rw [beqL_ok (beqF_ok n) _ _ h]
def Tr.nmF : Tr → Int → Option Int
  | .lf i, a => if i = a then some a else none
  | .nd x y, a => match x.nmF a with
    | some c => y.nmF (c + 1)
    | none => none
theorem Tr.nmF_ok : ∀ {t : Tr} {a b : Int}, t.nmF a = some b → Nm t a b
  | .lf i, a, b, h => by
    unfold Tr.nmF at h
    split at h
    · rename_i q; cases h; subst q; exact .lf _
    · cases h
  | .nd x y, a, b, h => by
    unfold Tr.nmF at h
    split at h
    · rename_i c q
      exact .nd (Tr.nmF_ok q) (Tr.nmF_ok h)
    · cases h
/-- all rows of steps, known ahead -/
def gWays : Nat → List D → Option D := fun k ds => match ds with
  | [d, e] => (match trT 70 d, trT 70 e with
    | some t, some u => if (t.nmF t.fst).isSome && decide (t.joins ≤ 40) && decide (u.joins ≤ 40) && Tr.waysB 12 t u && decide (64 ≤ k) then some (waysD (Tr.waysF 12 t u)) else none
    | _, _ => none)
  | _ => none
theorem ov_ways {P : Prg} {W : Nat} (A : LstW P) (hW : 100 < W) : ∀ k ds d, gWays k ds = some d → ∀ b S, run P isi0 W (k + 1) b A.wo ds S = .ok d S := by
  intro k ds d h b S
  unfold gWays at h
  split at h
  · rename_i x y
    split at h
    · rename_i t u h1 h2
      split at h
      · rename_i q
        simp only [Bool.and_eq_true, decide_eq_true_eq] at q
        obtain ⟨⟨⟨⟨q1, q2⟩, q3⟩, q4⟩, q5⟩ := q
        cases h
        obtain ⟨c, hc⟩ := Option.isSome_iff_exists.mp q1
        rw [trT_ok h1, trT_ok h2]
        exact A.ways hW u q3 12 t (Tr.nmF_ok hc) q2 q4 (by omega) (k + 1) b S (by omega)
      · cases h
    · cases h
  · cases h
def trsT : List D → Option (List Tr)
  | [] => some []
  | d :: ds => match trT 70 d, trsT ds with
    | some t, some l => some (t :: l)
    | _, _ => none
theorem trsT_ok : ∀ {ds : List D} {l : List Tr}, trsT ds = some l → ds = l.map Tr.d
  | [], l, h => by cases h; rfl
  | d :: ds, l, h => by
    unfold trsT at h
    split at h
    · rename_i t l' h1 h2
      cases h
      rw [List.map_cons, ← trT_ok h1, ← trsT_ok h2]
    · cases h
def gRises : Nat → List D → Option D := fun k ds => match ds with
  | [.lst rs, .int i] => (match trsT rs with
    | some l => if decide (0 ≤ i) && decide (i ≤ 40) && (l.all fun x => decide (x.joins = i.toNat)) && decide (l.length ≤ 1000) && decide (51 ≤ k) then some (.lst ((riseF i.toNat (List.replicate i.toNat 0) l).map .int)) else none
    | none => none)
  | _ => none
theorem ov_rises {P : Prg} {W f : Nat} (A : Lst P) (hW : 100 < W) (eR : P f = some (F_law_rises A.ar)) : ∀ k ds d, gRises k ds = some d → ∀ b S, run P isi0 W (k + 1) b f ds S = .ok d S := by
  intro k ds d h b S
  unfold gRises at h
  split at h
  · rename_i rs i
    split at h
    · rename_i l h1
      split at h
      · rename_i q
        simp only [Bool.and_eq_true, decide_eq_true_eq, List.all_eq_true] at q
        obtain ⟨⟨⟨⟨q1, q2⟩, q3⟩, q4⟩, q5⟩ := q
        cases h
        obtain ⟨n, rfl⟩ : ∃ n : Nat, i = n := ⟨i.toNat, by omega⟩
        rw [trsT_ok h1]
        have := rises_ok A hW eR n (by omega) l (fun x hx => by have := q3 x hx; omega) q4 (k + 1) b S (by omega)
        rw [Int.toNat_natCast]
        exact this
      · cases h
    · cases h
  · cases h
end EV
namespace EV.K22
open PySem PySem.Spec PyProof.Rows L2
/-- is_number -/
def g0 : Fn := { name := "is_number", ps := ["thing"], ns := ["thing"], body := (.cons (.ret (.an (.isi (.v 0) [.ty "int"]) (.un .not (.isi (.v 0) [.ty "bool"])))) .nil) }
/-- ends -/
def g1 : Fn := { name := "ends", ps := ["grouping"], ns := ["grouping", "one", "other"], body := (.cons (.asg (.t (.cons (.v 1) (.cons (.v 2) .nil))) (.tu (.cons (.v 0) (.cons (.v 0) .nil)))) (.cons (.whil (.un .not (.cal 0 (.cons (.v 1) .nil))) (.cons (.set 1 (.ix (.v 1) (.k (.int 0)))) .nil)) (.cons (.whil (.un .not (.cal 0 (.cons (.v 2) .nil))) (.cons (.set 2 (.ix (.v 2) (.k (.int 1)))) .nil)) (.cons (.ret (.tu (.cons (.v 1) (.cons (.v 2) .nil)))) .nil)))) }
/-- spans -/
def g2 : Fn := { name := "spans", ps := ["grouping"], ns := ["grouping", "left", "right", "first", "join"], body := (.cons (.ite (.cal 0 (.cons (.v 0) .nil)) (.cons (.ret (.li .nil)) .nil) .nil) (.cons (.asg (.t (.cons (.v 1) (.cons (.v 2) .nil))) (.tu (.cons (.cal 2 (.cons (.ix (.v 0) (.k (.int 0))) .nil)) (.cons (.cal 2 (.cons (.ix (.v 0) (.k (.int 1))) .nil)) .nil)))) (.cons (.asg (.t (.cons (.v 3) (.cons (.v 4) .nil))) (.cal 1 (.cons (.ix (.v 0) (.k (.int 0))) .nil))) (.cons (.ret (.li (.star (.v 1) (.cons (.tu (.cons (.v 3) (.cons (.v 4) (.cons (.ix (.cal 1 (.cons (.ix (.v 0) (.k (.int 1))) .nil)) (.k (.int 1))) .nil)))) (.star (.v 2) .nil))))) .nil)))) }
/-- reaches -/
def g3 : Fn := { name := "reaches", ps := ["grouping"], ns := ["grouping", "first", "join", "last"], body := (.cons (.ret (.pr .tuple (.cons (.lc (.t (.cons (.v 1) (.cons (.v 2) (.cons (.v 3) .nil)))) [1, 2, 3] (.it (.cal 2 (.cons (.v 0) .nil))) .yes (.v 3)) .nil))) .nil) }
/-- check_alike -/
def g4 : Fn := { name := "check_alike", ps := ["groupings"], ns := ["groupings", "sizes", "grouping", "size"], body := (.cons (.set 1 (.lc (.v 2) [2] (.it (.v 0)) .yes (.pr .len (.cons (.cal 3 (.cons (.v 2) .nil)) .nil)))) (.cons (.ite (.pr .any (.cons (.lc (.v 3) [3] (.it (.v 1)) .yes (.cm .ne (.v 3) (.ix (.v 1) (.k (.int 0))))) .nil)) (.cons (.rais 4 .nil) .nil) .nil) .nil)) }
/-- why_not -/
def g5 : Fn := { name := "why_not", ps := ["one", "other"], ns := ["one", "other", "far", "place", "reach"], body := (.cons (.ex (.cal 4 (.cons (.tu (.cons (.v 0) (.cons (.v 1) .nil))) .nil))) (.cons (.set 2 (.cal 3 (.cons (.v 1) .nil))) (.cons (.forr (.t (.cons (.v 3) (.cons (.v 4) .nil))) (.en (.cal 3 (.cons (.v 0) .nil))) (.cons (.ite (.cm .gt (.v 4) (.ix (.v 2) (.v 3))) (.cons (.ret (.bi .add (.v 3) (.k (.int 1)))) .nil) .nil) .nil)) (.cons (.ret (.k .non)) .nil)))) }
/-- leads_to -/
def g6 : Fn := { name := "leads_to", ps := ["one", "other"], ns := ["one", "other"], body := (.cons (.ret (.cm .is (.cal 5 (.cons (.v 0) (.cons (.v 1) .nil))) (.k .non))) .nil) }
/-- check_behind -/
def g7 : Fn := { name := "check_behind", ps := ["one", "other"], ns := ["one", "other"], body := (.cons (.ite (.un .not (.cal 6 (.cons (.v 0) (.cons (.v 1) .nil)))) (.cons (.rais 5 .nil) .nil) .nil) .nil) }
/-- orbit -/
def g8 : Fn := { name := "orbit", ps := ["row", "start", "end"], ns := ["row", "start", "end", "found"], body := (.cons (.set 3 (.fr (.li (.cons (.v 1) .nil)))) (.cons (.whil (.cm .ne (.ix (.v 3) (.un .neg (.k (.int 1)))) (.v 2)) (.cons (.app (.v 3) (.ix (.v 0) (.bi .sub (.ix (.v 3) (.un .neg (.k (.int 1)))) (.k (.int 1))))) .nil)) (.cons (.ret (.pr .tuple (.cons (.v 3) .nil))) .nil))) }
/-- hops_in -/
def g9 : Fn := { name := "hops_in", ps := ["mine", "its"], ns := ["mine", "its", "few", "place", "reach"], body := (.cons (.set 2 (.pr .tuple (.cons (.lc (.t (.cons (.v 3) (.cons (.v 4) .nil))) [3, 4] (.en (.v 0)) .yes (.bi .sub (.pr .len (.cons (.cal 8 (.cons (.v 1) (.cons (.v 4) (.cons (.ix (.v 1) (.v 3)) .nil)))) .nil)) (.k (.int 1)))) .nil))) (.cons (.ret (.tu (.cons (.v 2) (.cons (.pr .tuple (.cons (.lc (.t (.cons (.v 3) (.cons (.v 4) .nil))) [3, 4] (.en (.v 0)) .yes (.bi .sub (.pr .len (.cons (.cal 8 (.cons (.v 0) (.cons (.v 4) (.cons (.ix (.v 1) (.v 3)) .nil)))) .nil)) (.k (.int 1)))) .nil)) .nil)))) .nil)) }
/-- hops -/
def g10 : Fn := { name := "hops", ps := ["one", "other"], ns := ["one", "other"], body := (.cons (.ex (.cal 7 (.cons (.v 0) (.cons (.v 1) .nil)))) (.cons (.ret (.cal 9 (.cons (.cal 3 (.cons (.v 0) .nil)) (.cons (.cal 3 (.cons (.v 1) .nil)) .nil)))) .nil)) }
/-- fewest_steps -/
def g11 : Fn := { name := "fewest_steps", ps := ["one", "other"], ns := ["one", "other"], body := (.cons (.ret (.ite (.cal 6 (.cons (.v 0) (.cons (.v 1) .nil))) (.pr .sum (.cons (.ix (.cal 10 (.cons (.v 0) (.cons (.v 1) .nil))) (.k (.int 0))) .nil)) (.k .non))) .nil) }
/-- most_steps -/
def g12 : Fn := { name := "most_steps", ps := ["one", "other"], ns := ["one", "other"], body := (.cons (.ret (.ite (.cal 6 (.cons (.v 0) (.cons (.v 1) .nil))) (.pr .sum (.cons (.ix (.cal 10 (.cons (.v 0) (.cons (.v 1) .nil))) (.k (.int 1))) .nil)) (.k .non))) .nil) }
/-- _law_box -/
def g13 : Fn := { name := "_law_box", ps := ["_law_script", "_law_k"], ns := ["_law_script", "_law_k", "_law_cell"], keep := true, body := (.cons (.set 2 (.ite (.cm .lt (.v 1) (.pr .len (.cons (.v 0) .nil))) (.ix (.v 0) (.v 1)) (.k (.int 0)))) (.cons (.ret (.fr (.li (.cons (.bi .mul (.pr .abs (.cons (.v 2) .nil)) (.pr .int (.cons (.cm .ge (.pr .abs (.cons (.v 2) .nil)) (.bi .pow (.k (.int 10)) (.k (.int 18)))) .nil))) (.cons (.bi .add (.bi .add (.bi .mod (.pr .int (.cons (.v 2) .nil)) (.k (.int 2305843009213693951))) (.bi .mul (.k (.int 39373)) (.v 1))) (.k (.int 86262))) (.cons (.k (.int 0)) .nil)))))) .nil)) }
/-- _law_take -/
def g14 : Fn := { name := "_law_take", ps := ["_law_box_here", "_law_below"], ns := ["_law_box_here", "_law_below", "_law_once", "_law_odd", "_law_twice", "_law_digit_so"], body := (.cons (.ite (.cm .gt (.ix (.v 0) (.k (.int 0))) (.k (.int 0))) (.cons (.set 5 (.bi .mod (.pr .int (.cons (.ix (.v 0) (.k (.int 0))) .nil)) (.v 1))) (.cons (.sub (.v 0) (.k (.int 0)) (.bi .fdiv (.ix (.v 0) (.k (.int 0))) (.v 1))) (.cons (.ret (.v 5)) .nil))) .nil) (.cons (.sub (.v 0) (.k (.int 2)) (.bi .add (.ix (.v 0) (.k (.int 2))) (.k (.int 1)))) (.cons (.set 2 (.bi .mod (.pr .int (.cons (.bi .mul (.bi .add (.ix (.v 0) (.k (.int 1))) (.bi .mul (.k (.int 48271)) (.ix (.v 0) (.k (.int 2))))) (.bi .add (.k (.int 39373)) (.ix (.v 0) (.k (.int 2))))) .nil)) (.k (.int 2147483647)))) (.cons (.set 3 (.bi .add (.bi .mod (.pr .int (.cons (.v 2) .nil)) (.k (.int 40009))) (.k (.int 7)))) (.cons (.set 4 (.bi .mod (.pr .int (.cons (.bi .mul (.bi .add (.bi .add (.v 2) (.ix (.v 0) (.k (.int 2)))) (.bi .fdiv (.ix (.v 0) (.k (.int 1))) (.k (.int 1000003)))) (.v 3)) .nil)) (.k (.int 2147483629)))) (.cons (.ret (.bi .mod (.pr .int (.cons (.bi .fdiv (.bi .mod (.pr .int (.cons (.bi .add (.bi .mul (.v 4) (.k (.int 48271))) (.v 2)) .nil)) (.k (.int 2147483587))) (.k (.int 64))) .nil)) (.v 1))) .nil)))))) }
/-- _law_cells -/
def g15 : Fn := { name := "_law_cells", ps := ["_law_script", "_law_most_so"], ns := ["_law_script", "_law_most_so", "_law_cells_here", "_law_k", "_law_cell", "_law_at_so"], body := (.cons (.set 2 (.orr (.fr (.pr .list (.cons (.sl (.v 0) .no (.v 1)) .nil))) (.fr (.li (.cons (.k (.int 0)) .nil))))) (.cons (.forr (.t (.cons (.v 3) (.cons (.v 4) .nil))) (.en (.sl (.v 0) (.v 1) (.k (.int 63)))) (.cons (.set 5 (.bi .mod (.pr .int (.cons (.v 3) .nil)) (.v 1))) (.cons (.sub (.v 2) (.v 5) (.bi .add (.ix (.v 2) (.v 5)) (.bi .mul (.v 4) (.bi .add (.v 3) (.k (.int 2)))))) .nil))) (.cons (.ret (.v 2)) .nil))) }
/-- _law_of -/
def g16 : Fn := { name := "_law_of", ps := ["_law_box_here", "_law_some"], ns := ["_law_box_here", "_law_some"], body := (.cons (.ret (.ix (.v 1) (.cal 14 (.cons (.v 0) (.cons (.pr .len (.cons (.v 1) .nil)) .nil))))) .nil) }
/-- _law_mixed -/
def g17 : Fn := { name := "_law_mixed", ps := ["_law_box_here", "_law_matter"], ns := ["_law_box_here", "_law_matter", "_law_bits", "_law_bit"], body := (.cons (.ite (.un .not (.isi (.v 1) [.ty "list", .ty "tuple"])) (.cons (.ret (.v 1)) .nil) .nil) (.cons (.set 2 (.lc (.v 3) [3] (.it (.v 1)) .yes (.cal 17 (.cons (.v 0) (.cons (.v 3) .nil))))) (.cons (.ret (.ite (.cm .eq (.cal 14 (.cons (.v 0) (.cons (.k (.int 2)) .nil))) (.k (.int 0))) (.v 2) (.pr .tuple (.cons (.v 2) .nil)))) .nil))) }
/-- _law_same -/
def g18 : Fn := { name := "_law_same", ps := ["_law_got", "_law_due_here"], ns := ["_law_got", "_law_due_here", "_law_mine", "_law_its"], body := (.cons (.ite (.isi (.v 1) [.ty "list", .ty "tuple"]) (.cons (.ite (.orr (.cm .ne (.isi (.v 0) [.ty "list"]) (.isi (.v 1) [.ty "list"])) (.cm .ne (.isi (.v 0) [.ty "tuple"]) (.isi (.v 1) [.ty "tuple"]))) (.cons (.ret (.k (.bl false))) .nil) .nil) (.cons (.ret (.an (.cm .eq (.pr .len (.cons (.v 0) .nil)) (.pr .len (.cons (.v 1) .nil))) (.pr .all (.cons (.lc (.t (.cons (.v 2) (.cons (.v 3) .nil))) [2, 3] (.zp (.v 0) (.v 1)) .yes (.cal 18 (.cons (.v 2) (.cons (.v 3) .nil)))) .nil)))) .nil)) .nil) (.cons (.ite (.orr (.cm .is (.v 1) (.k .non)) (.isi (.v 1) [.ty "bool", .ty "str"])) (.cons (.ret (.an (.cm .eq (.v 0) (.v 1)) (.an (.cm .eq (.isi (.v 0) [.ty "bool"]) (.isi (.v 1) [.ty "bool"])) (.cm .eq (.cm .is (.v 0) (.k .non)) (.cm .is (.v 1) (.k .non)))))) .nil) .nil) (.cons (.ret (.an (.isi (.v 0) [.ty "int"]) (.an (.un .not (.isi (.v 0) [.ty "bool"])) (.cm .eq (.v 0) (.v 1))))) .nil))) }
/-- _law_grouped -/
def g19 : Fn := { name := "_law_grouped", ps := ["_law_box_here", "_law_first_so", "_law_last_so"], ns := ["_law_box_here", "_law_first_so", "_law_last_so", "_law_way_so", "_law_cut_so"], body := (.cons (.ite (.cm .eq (.v 1) (.v 2)) (.cons (.ret (.v 1)) .nil) .nil) (.cons (.set 3 (.cal 14 (.cons (.v 0) (.cons (.k (.int 4)) .nil)))) (.cons (.set 4 (.bi .add (.v 1) (.cal 14 (.cons (.v 0) (.cons (.bi .sub (.v 2) (.v 1)) .nil))))) (.cons (.ite (.cm .eq (.v 3) (.k (.int 0))) (.cons (.set 4 (.bi .sub (.v 2) (.k (.int 1)))) .nil) .nil) (.cons (.ite (.cm .eq (.v 3) (.k (.int 1))) (.cons (.set 4 (.v 1)) .nil) .nil) (.cons (.ret (.tu (.cons (.cal 19 (.cons (.v 0) (.cons (.v 1) (.cons (.v 4) .nil)))) (.cons (.cal 19 (.cons (.v 0) (.cons (.bi .add (.v 4) (.k (.int 1))) (.cons (.v 2) .nil)))) .nil)))) .nil)))))) }
/-- _law_ends -/
def g20 : Fn := { name := "_law_ends", ps := ["_law_tree_so"], ns := ["_law_tree_so", "_law_one_so", "_law_two_so"], body := (.cons (.asg (.t (.cons (.v 1) (.cons (.v 2) .nil))) (.tu (.cons (.v 0) (.cons (.v 0) .nil)))) (.cons (.whil (.isi (.v 1) [.ty "tuple"]) (.cons (.set 1 (.ix (.v 1) (.k (.int 0)))) .nil)) (.cons (.whil (.isi (.v 2) [.ty "tuple"]) (.cons (.set 2 (.ix (.v 2) (.k (.int 1)))) .nil)) (.cons (.ret (.tu (.cons (.v 1) (.cons (.v 2) .nil)))) .nil)))) }
/-- _law_pairs -/
def g21 : Fn := { name := "_law_pairs", ps := ["_law_tree_so"], ns := ["_law_tree_so", "_law_first_so", "_law_cut_so"], body := (.cons (.ite (.un .not (.isi (.v 0) [.ty "tuple"])) (.cons (.ret (.li .nil)) .nil) .nil) (.cons (.asg (.t (.cons (.v 1) (.cons (.v 2) .nil))) (.cal 20 (.cons (.ix (.v 0) (.k (.int 0))) .nil))) (.cons (.ret (.bi .add (.bi .add (.cal 21 (.cons (.ix (.v 0) (.k (.int 0))) .nil)) (.li (.cons (.tu (.cons (.v 1) (.cons (.v 2) (.cons (.ix (.cal 20 (.cons (.ix (.v 0) (.k (.int 1))) .nil)) (.k (.int 1))) .nil)))) .nil))) (.cal 21 (.cons (.ix (.v 0) (.k (.int 1))) .nil)))) .nil))) }
/-- _law_arms -/
def g22 : Fn := { name := "_law_arms", ps := ["_law_tree_so"], ns := ["_law_tree_so", "_law_own"], body := (.cons (.ret (.pr .tuple (.cons (.lc (.v 1) [1] (.it (.cal 21 (.cons (.v 0) .nil))) .yes (.ix (.v 1) (.k (.int 2)))) .nil))) .nil) }
/-- _law_after -/
def g23 : Fn := { name := "_law_after", ps := ["_law_tree_so"], ns := ["_law_tree_so", "_law_mine", "_law_its", "_law_found", "_law_own"], body := (.cons (.ite (.un .not (.isi (.v 0) [.ty "tuple"])) (.cons (.ret (.fr (.li .nil))) .nil) .nil) (.cons (.asg (.t (.cons (.v 1) (.cons (.v 2) .nil))) (.v 0)) (.cons (.set 3 (.fr (.bi .add (.lc (.v 4) [4] (.it (.cal 23 (.cons (.v 1) .nil))) .yes (.tu (.cons (.v 4) (.cons (.v 2) .nil)))) (.lc (.v 4) [4] (.it (.cal 23 (.cons (.v 2) .nil))) .yes (.tu (.cons (.v 1) (.cons (.v 4) .nil))))))) (.cons (.ite (.isi (.v 1) [.ty "tuple"]) (.cons (.app (.v 3) (.tu (.cons (.ix (.v 1) (.k (.int 0))) (.cons (.tu (.cons (.ix (.v 1) (.k (.int 1))) (.cons (.v 2) .nil))) .nil)))) .nil) .nil) (.cons (.ret (.v 3)) .nil))))) }
/-- _law_goes -/
def g24 : Fn := { name := "_law_goes", ps := ["_law_one_so", "_law_far_so"], ns := ["_law_one_so", "_law_far_so", "_law_mine", "_law_its"], body := (.cons (.ret (.pr .all (.cons (.lc (.t (.cons (.v 2) (.cons (.v 3) .nil))) [2, 3] (.zp (.cal 22 (.cons (.v 0) .nil)) (.cal 22 (.cons (.v 1) .nil))) .yes (.cm .le (.v 2) (.v 3))) .nil))) .nil) }
/-- _law_steps_on -/
def g25 : Fn := { name := "_law_steps_on", ps := ["_law_tree_so", "_law_far_so"], ns := ["_law_tree_so", "_law_far_so", "_law_own"], body := (.cons (.ret (.lc (.v 2) [2] (.it (.cal 23 (.cons (.v 0) .nil))) (.cal 24 (.cons (.v 2) (.cons (.v 1) .nil))) (.v 2))) .nil) }
/-- _law_ways_on -/
def g26 : Fn := { name := "_law_ways_on", ps := ["_law_tree_so", "_law_far_so"], ns := ["_law_tree_so", "_law_far_so", "_law_found", "_law_own", "_law_row_so"], body := (.cons (.ite (.cm .eq (.v 0) (.v 1)) (.cons (.ret (.li (.cons (.li (.cons (.v 0) .nil)) .nil))) .nil) .nil) (.cons (.set 2 (.li .nil)) (.cons (.forr (.v 3) (.it (.cal 25 (.cons (.v 0) (.cons (.v 1) .nil)))) (.cons (.set 2 (.bi .add (.v 2) (.lc (.v 4) [4] (.it (.cal 26 (.cons (.v 3) (.cons (.v 1) .nil)))) .yes (.bi .add (.li (.cons (.v 0) .nil)) (.v 4))))) .nil)) (.cons (.ret (.v 2)) .nil)))) }
/-- _law_pushed -/
def g27 : Fn := { name := "_law_pushed", ps := ["_law_box_here", "_law_tree_so", "_law_most_so"], ns := ["_law_box_here", "_law_tree_so", "_law_most_so", "_law_here", "_law_lap", "_law_nexts_so"], body := (.cons (.set 3 (.v 1)) (.cons (.forr (.v 4) (.rg1 (.cal 14 (.cons (.v 0) (.cons (.bi .add (.v 2) (.k (.int 1))) .nil)))) (.cons (.set 5 (.cal 23 (.cons (.v 3) .nil))) (.cons (.set 3 (.ite (.cm .ne (.v 5) (.li .nil)) (.cal 16 (.cons (.v 0) (.cons (.v 5) .nil))) (.v 3))) .nil))) (.cons (.ret (.v 3)) .nil))) }
/-- _law_heard -/
def g28 : Fn := { name := "_law_heard", ps := ["_law_door", "_law_mine", "_law_its"], ns := ["_law_door", "_law_mine", "_law_its", "_law_found", "error"], body := (.cons (.set 3 (.k .non)) (.cons (.tryy (.cons (.ite (.cm .eq (.v 0) (.k (.int 0))) (.cons (.set 3 (.cal 11 (.cons (.v 1) (.cons (.v 2) .nil)))) .nil) (.cons (.ite (.cm .eq (.v 0) (.k (.int 1))) (.cons (.set 3 (.cal 12 (.cons (.v 1) (.cons (.v 2) .nil)))) .nil) (.cons (.set 3 (.cal 10 (.cons (.v 1) (.cons (.v 2) .nil)))) .nil)) .nil)) .nil) (.han [5] (some 4) (.cons (.set 3 (.li (.cons (.k (.str "not")) (.cons (.isi (.v 4) [.ty "ValueError"]) .nil)))) .nil) (.han [4] (some 4) (.cons (.set 3 (.li (.cons (.k (.str "unlike")) (.cons (.isi (.v 4) [.ty "ValueError"]) .nil)))) .nil) .nil))) (.cons (.ret (.v 3)) .nil))) }
/-- _law_rises -/
def g29 : Fn := { name := "_law_rises", ps := ["_law_rows_so", "_law_size_so"], ns := ["_law_rows_so", "_law_size_so", "_law_found", "_law_k", "_law_mine", "_law_its", "_law_j"], body := (.cons (.set 2 (.bi .mul (.li (.cons (.k (.int 0)) .nil)) (.v 1))) (.cons (.forr (.v 3) (.rg2 (.k (.int 1)) (.pr .len (.cons (.v 0) .nil))) (.cons (.asg (.t (.cons (.v 4) (.cons (.v 5) .nil))) (.tu (.cons (.cal 22 (.cons (.ix (.v 0) (.bi .sub (.v 3) (.k (.int 1)))) .nil)) (.cons (.cal 22 (.cons (.ix (.v 0) (.v 3)) .nil)) .nil)))) (.cons (.set 2 (.lc (.v 6) [6] (.rg1 (.v 1)) .yes (.bi .add (.ix (.v 2) (.v 6)) (.pr .int (.cons (.cm .ne (.ix (.v 4) (.v 6)) (.ix (.v 5) (.v 6))) .nil))))) .nil))) (.cons (.ret (.v 2)) .nil))) }
/-- _law_due -/
def g30 : Fn := { name := "_law_due", ps := ["_law_mine", "_law_its"], ns := ["_law_mine", "_law_its", "_law_rows_so", "_law_size_so", "_law_sizes_so", "_law_rises_so", "_law_few", "_law_much", "_law_own", "_law_j"], body := (.cons (.ite (.un .not (.cal 24 (.cons (.v 0) (.cons (.v 1) .nil)))) (.cons (.ret (.li (.cons (.k .non) (.cons (.k .non) (.cons (.li (.cons (.k (.str "not")) (.cons (.k (.bl true)) .nil))) .nil))))) .nil) .nil) (.cons (.asg (.t (.cons (.v 2) (.cons (.v 3) .nil))) (.tu (.cons (.cal 26 (.cons (.v 0) (.cons (.v 1) .nil))) (.cons (.pr .len (.cons (.cal 22 (.cons (.v 0) .nil)) .nil)) .nil)))) (.cons (.set 4 (.lc (.v 8) [8] (.it (.v 2)) .yes (.bi .sub (.pr .len (.cons (.v 8) .nil)) (.k (.int 1))))) (.cons (.set 5 (.lc (.v 8) [8] (.it (.v 2)) .yes (.cal 29 (.cons (.v 8) (.cons (.v 3) .nil))))) (.cons (.set 6 (.pr .tuple (.cons (.lc (.v 9) [9] (.rg1 (.v 3)) .yes (.pr .min1 (.cons (.lc (.v 8) [8] (.it (.v 5)) .yes (.ix (.v 8) (.v 9))) .nil))) .nil))) (.cons (.set 7 (.pr .tuple (.cons (.lc (.v 9) [9] (.rg1 (.v 3)) .yes (.pr .max1 (.cons (.lc (.v 8) [8] (.it (.v 5)) .yes (.ix (.v 8) (.v 9))) .nil))) .nil))) (.cons (.ret (.li (.cons (.pr .min1 (.cons (.v 4) .nil)) (.cons (.pr .max1 (.cons (.v 4) .nil)) (.cons (.tu (.cons (.v 6) (.cons (.v 7) .nil))) .nil))))) .nil))))))) }
/-- _law_by_hand_right -/
def g31 : Fn := { name := "_law_by_hand_right", ps := [], ns := ["_law_left_so", "_law_right_so", "_law_twos", "_law_near", "_law_far", "_law_some", "_law_told", "_law_door", "_law_due_here", "_law_wide_so", "_law_rest", "_law_k", "_law_own"], body := (.cons (.asg (.t (.cons (.v 0) (.cons (.v 1) (.cons (.v 2) .nil)))) (.tu (.cons (.tu (.cons (.tu (.cons (.tu (.cons (.k (.int 1)) (.cons (.k (.int 2)) .nil))) (.cons (.k (.int 3)) .nil))) (.cons (.k (.int 4)) .nil))) (.cons (.tu (.cons (.k (.int 1)) (.cons (.tu (.cons (.k (.int 2)) (.cons (.tu (.cons (.k (.int 3)) (.cons (.k (.int 4)) .nil))) .nil))) .nil))) (.cons (.tu (.cons (.tu (.cons (.k (.int 1)) (.cons (.k (.int 2)) .nil))) (.cons (.tu (.cons (.k (.int 3)) (.cons (.k (.int 4)) .nil))) .nil))) .nil))))) (.cons (.asg (.t (.cons (.v 3) (.cons (.v 4) .nil))) (.tu (.cons (.tu (.cons (.tu (.cons (.k (.int 1)) (.cons (.tu (.cons (.k (.int 2)) (.cons (.k (.int 3)) .nil))) .nil))) (.cons (.k (.int 4)) .nil))) (.cons (.tu (.cons (.k (.int 1)) (.cons (.tu (.cons (.tu (.cons (.k (.int 2)) (.cons (.k (.int 3)) .nil))) (.cons (.k (.int 4)) .nil))) .nil))) .nil)))) (.cons (.set 5 (.li (.cons (.tu (.cons (.v 0) (.cons (.v 1) .nil))) (.cons (.tu (.cons (.v 3) (.cons (.v 1) .nil))) (.cons (.tu (.cons (.v 0) (.cons (.v 4) .nil))) (.cons (.tu (.cons (.v 4) (.cons (.v 4) .nil))) (.cons (.tu (.cons (.v 3) (.cons (.v 2) .nil))) (.cons (.tu (.cons (.v 1) (.cons (.v 0) .nil))) (.cons (.tu (.cons (.k (.int 1)) (.cons (.k (.int 1)) .nil))) .nil))))))))) (.cons (.set 6 (.li .nil)) (.cons (.forr (.v 7) (.rg1 (.k (.int 3))) (.cons (.set 6 (.bi .add (.v 6) (.lc (.v 12) [12] (.it (.v 5)) .yes (.cal 28 (.cons (.v 7) (.cons (.ix (.v 12) (.k (.int 0))) (.cons (.ix (.v 12) (.k (.int 1))) .nil))))))) .nil)) (.cons (.set 8 (.bi .add (.li (.cons (.k (.int 2)) (.cons (.k (.int 2)) (.cons (.k (.int 2)) (.cons (.k (.int 0)) (.cons (.k .non) (.cons (.k .non) (.cons (.k (.int 0)) .nil)))))))) (.li (.cons (.k (.int 3)) (.cons (.k (.int 2)) (.cons (.k (.int 2)) (.cons (.k (.int 0)) (.cons (.k .non) (.cons (.k .non) (.cons (.k (.int 0)) .nil)))))))))) (.cons (.set 8 (.bi .add (.v 8) (.li (.cons (.tu (.cons (.tu (.cons (.k (.int 1)) (.cons (.k (.int 1)) (.cons (.k (.int 0)) .nil)))) (.cons (.tu (.cons (.k (.int 2)) (.cons (.k (.int 1)) (.cons (.k (.int 0)) .nil)))) .nil))) (.cons (.tu (.cons (.tu (.cons (.k (.int 1)) (.cons (.k (.int 1)) (.cons (.k (.int 0)) .nil)))) (.cons (.tu (.cons (.k (.int 1)) (.cons (.k (.int 1)) (.cons (.k (.int 0)) .nil)))) .nil))) (.cons (.tu (.cons (.tu (.cons (.k (.int 2)) (.cons (.k (.int 0)) (.cons (.k (.int 0)) .nil)))) (.cons (.tu (.cons (.k (.int 2)) (.cons (.k (.int 0)) (.cons (.k (.int 0)) .nil)))) .nil))) (.cons (.tu (.cons (.tu (.cons (.k (.int 0)) (.cons (.k (.int 0)) (.cons (.k (.int 0)) .nil)))) (.cons (.tu (.cons (.k (.int 0)) (.cons (.k (.int 0)) (.cons (.k (.int 0)) .nil)))) .nil))) .nil))))))) (.cons (.set 8 (.bi .add (.v 8) (.li (.cons (.li (.cons (.k (.str "not")) (.cons (.k (.bl true)) .nil))) (.cons (.li (.cons (.k (.str "not")) (.cons (.k (.bl true)) .nil))) (.cons (.tu (.cons (.tu .nil) (.cons (.tu .nil) .nil))) .nil)))))) (.cons (.set 6 (.bi .add (.bi .add (.v 6) (.lc (.v 7) [7] (.rg1 (.k (.int 3))) .yes (.cal 28 (.cons (.v 7) (.cons (.tu (.cons (.k (.int 1)) (.cons (.k (.int 2)) .nil))) (.cons (.k (.int 1)) .nil)))))) (.li (.cons (.calk 10 .nil (.cons (.v 1) (.cons (.v 0) .nil)) ["other", "one"] [1, 0]) .nil)))) (.cons (.set 8 (.bi .add (.bi .add (.v 8) (.bi .mul (.li (.cons (.li (.cons (.k (.str "unlike")) (.cons (.k (.bl true)) .nil))) .nil)) (.k (.int 3)))) (.li (.cons (.tu (.cons (.tu (.cons (.k (.int 1)) (.cons (.k (.int 1)) (.cons (.k (.int 0)) .nil)))) (.cons (.tu (.cons (.k (.int 2)) (.cons (.k (.int 1)) (.cons (.k (.int 0)) .nil)))) .nil))) .nil)))) (.cons (.set 6 (.bi .add (.v 6) (.lc (.v 7) [7] (.rg1 (.k (.int 3))) .yes (.cal 28 (.cons (.v 7) (.cons (.v 2) (.cons (.v 1) .nil))))))) (.cons (.set 8 (.bi .add (.v 8) (.li (.cons (.k (.int 1)) (.cons (.k (.int 1)) (.cons (.tu (.cons (.tu (.cons (.k (.int 1)) (.cons (.k (.int 0)) (.cons (.k (.int 0)) .nil)))) (.cons (.tu (.cons (.k (.int 1)) (.cons (.k (.int 0)) (.cons (.k (.int 0)) .nil)))) .nil))) .nil)))))) (.cons (.asg (.t (.cons (.v 9) (.cons (.v 10) .nil))) (.tu (.cons (.k (.int 1)) (.cons (.k (.int 30)) .nil)))) (.cons (.forr (.v 11) (.rg2 (.k (.int 2)) (.k (.int 31))) (.cons (.asg (.t (.cons (.v 9) (.cons (.v 10) .nil))) (.tu (.cons (.tu (.cons (.v 9) (.cons (.v 11) .nil))) (.cons (.tu (.cons (.bi .sub (.k (.int 31)) (.v 11)) (.cons (.v 10) .nil))) .nil)))) .nil)) (.cons (.set 6 (.bi .add (.v 6) (.li (.cons (.cal 11 (.cons (.v 9) (.cons (.v 10) .nil))) (.cons (.cal 12 (.cons (.v 9) (.cons (.v 10) .nil))) (.cons (.cal 10 (.cons (.v 9) (.cons (.v 10) .nil))) .nil)))))) (.cons (.set 8 (.bi .add (.v 8) (.li (.cons (.k (.int 28)) (.cons (.k (.int 406)) (.cons (.tu (.cons (.bi .add (.bi .mul (.tu (.cons (.k (.int 1)) .nil)) (.k (.int 28))) (.tu (.cons (.k (.int 0)) .nil))) (.cons (.rgt (.k (.int 28)) (.un .neg (.k (.int 1)))) .nil))) .nil)))))) (.cons (.ret (.cal 18 (.cons (.v 6) (.cons (.v 8) .nil)))) .nil))))))))))))))))) }
/-- _law_right -/
def g32 : Fn := { name := "_law_right", ps := ["_law_box_here"], ns := ["_law_box_here", "_law_turn", "_law_size_so", "_law_mine", "_law_its", "_law_due_here", "_law_soft", "_law_door"], body := (.cons (.forr (.v 1) (.rg1 (.k (.int 8))) (.cons (.set 2 (.bi .add (.k (.int 1)) (.cal 14 (.cons (.v 0) (.cons (.k (.int 6)) .nil))))) (.cons (.set 3 (.cal 19 (.cons (.v 0) (.cons (.k (.int 1)) (.cons (.v 2) .nil))))) (.cons (.set 4 (.ite (.cm .gt (.cal 14 (.cons (.v 0) (.cons (.k (.int 3)) .nil))) (.k (.int 0))) (.cal 27 (.cons (.v 0) (.cons (.v 3) (.cons (.k (.int 5)) .nil)))) (.cal 19 (.cons (.v 0) (.cons (.k (.int 1)) (.cons (.v 2) .nil)))))) (.cons (.asg (.t (.cons (.v 5) (.cons (.v 6) .nil))) (.tu (.cons (.cal 30 (.cons (.v 3) (.cons (.v 4) .nil))) (.cons (.li (.cons (.cal 17 (.cons (.v 0) (.cons (.v 3) .nil))) (.cons (.cal 17 (.cons (.v 0) (.cons (.v 4) .nil))) .nil))) .nil)))) (.cons (.ite (.un .not (.cal 18 (.cons (.lc (.v 7) [7] (.rg1 (.k (.int 3))) .yes (.cal 28 (.cons (.v 7) (.cons (.ix (.v 6) (.k (.int 0))) (.cons (.ix (.v 6) (.k (.int 1))) .nil))))) (.cons (.v 5) .nil)))) (.cons (.ret (.k (.bl false))) .nil) .nil) (.cons (.ite (.un .not (.cal 18 (.cons (.li (.cons (.calk 11 .nil (.cons (.v 4) (.cons (.v 3) .nil)) ["other", "one"] [1, 0]) (.cons (.calk 12 .nil (.cons (.v 4) (.cons (.v 3) .nil)) ["other", "one"] [1, 0]) .nil))) (.cons (.sl (.v 5) .no (.k (.int 2))) .nil)))) (.cons (.ret (.k (.bl false))) .nil) .nil) .nil))))))) (.cons (.ret (.k (.bl true))) .nil)) }
/-- law -/
def g33 : Fn := { name := "law", ps := ["_law_script"], ns := ["_law_script", "_law_cells_here", "_law_k"], body := (.cons (.ite (.un .not (.cal 31 .nil)) (.cons (.ret (.k (.bl false))) .nil) .nil) (.cons (.set 1 (.cal 15 (.cons (.v 0) (.cons (.k (.int 3)) .nil)))) (.cons (.ret (.pr .all (.cons (.lc (.v 2) [2] (.rg1 (.pr .len (.cons (.v 1) .nil))) .yes (.cal 32 (.cons (.cal 13 (.cons (.v 1) (.cons (.v 2) .nil))) .nil))) .nil))) .nil))) }
def fns : List Fn := [g0, g1, g2, g3, g4, g5, g6, g7, g8, g9, g10, g11, g12, g13, g14, g15, g16, g17, g18, g19, g20, g21, g22, g23, g24, g25, g26, g27, g28, g29, g30, g31, g32, g33]
def P : Prg := fun i => fns[i]?
def T : Sta := { P := P, tb := fun c => if c = 5 then some ("NotBehind", []) else if c = 4 then some ("Unlike", []) else none, con := [], free := ["ValueError", "abs", "all", "any", "bool", "enumerate", "int", "isinstance", "len", "list", "max", "min", "range", "str", "sum", "tuple", "zip"], kws := [(10, 0, ["other", "one"], [1, 0]), (12, 0, ["other", "one"], [1, 0]), (11, 0, ["other", "one"], [1, 0])] }
def lawId : Nat := 33
def WW : Nat := 3000
def top (i : Nat) : Stmt := PySem.Challenge.pw_regroups_k22_fewest_and_most_steps.main.body.getD i (.Pass ⟨0, 0, 0, 0⟩)
def d0 : He.DefD := ⟨("is_number", none), "is_number", "is_number", defArgs (top 4), defBody (top 4), defScope (top 4), [], []⟩
def d1 : He.DefD := ⟨("ends", none), "ends", "ends", defArgs (top 6), defBody (top 6), defScope (top 6), [], []⟩
def d2 : He.DefD := ⟨("spans", none), "spans", "spans", defArgs (top 7), defBody (top 7), defScope (top 7), [], []⟩
def d3 : He.DefD := ⟨("reaches", none), "reaches", "reaches", defArgs (top 8), defBody (top 8), defScope (top 8), [], []⟩
def d4 : He.DefD := ⟨("check_alike", none), "check_alike", "check_alike", defArgs (top 10), defBody (top 10), defScope (top 10), [], []⟩
def d5 : He.DefD := ⟨("why_not", none), "why_not", "why_not", defArgs (top 11), defBody (top 11), defScope (top 11), [], []⟩
def d6 : He.DefD := ⟨("leads_to", none), "leads_to", "leads_to", defArgs (top 12), defBody (top 12), defScope (top 12), [], []⟩
def d7 : He.DefD := ⟨("check_behind", none), "check_behind", "check_behind", defArgs (top 13), defBody (top 13), defScope (top 13), [], []⟩
def d8 : He.DefD := ⟨("orbit", none), "orbit", "orbit", defArgs (top 15), defBody (top 15), defScope (top 15), [], []⟩
def d9 : He.DefD := ⟨("hops_in", none), "hops_in", "hops_in", defArgs (top 16), defBody (top 16), defScope (top 16), [], []⟩
def d10 : He.DefD := ⟨("hops", none), "hops", "hops", defArgs (top 17), defBody (top 17), defScope (top 17), [], []⟩
def d11 : He.DefD := ⟨("fewest_steps", none), "fewest_steps", "fewest_steps", defArgs (top 18), defBody (top 18), defScope (top 18), [], []⟩
def d12 : He.DefD := ⟨("most_steps", none), "most_steps", "most_steps", defArgs (top 19), defBody (top 19), defScope (top 19), [], []⟩
def d13 : He.DefD := ⟨("_law_box", none), "_law_box", "_law_box", defArgs (top 21), defBody (top 21), defScope (top 21), [], []⟩
def d14 : He.DefD := ⟨("_law_take", none), "_law_take", "_law_take", defArgs (top 22), defBody (top 22), defScope (top 22), [], []⟩
def d15 : He.DefD := ⟨("_law_cells", none), "_law_cells", "_law_cells", defArgs (top 23), defBody (top 23), defScope (top 23), [], []⟩
def d16 : He.DefD := ⟨("_law_of", none), "_law_of", "_law_of", defArgs (top 24), defBody (top 24), defScope (top 24), [], []⟩
def d17 : He.DefD := ⟨("_law_mixed", none), "_law_mixed", "_law_mixed", defArgs (top 25), defBody (top 25), defScope (top 25), [], []⟩
def d18 : He.DefD := ⟨("_law_same", none), "_law_same", "_law_same", defArgs (top 26), defBody (top 26), defScope (top 26), [], []⟩
def d19 : He.DefD := ⟨("_law_grouped", none), "_law_grouped", "_law_grouped", defArgs (top 27), defBody (top 27), defScope (top 27), [], []⟩
def d20 : He.DefD := ⟨("_law_ends", none), "_law_ends", "_law_ends", defArgs (top 28), defBody (top 28), defScope (top 28), [], []⟩
def d21 : He.DefD := ⟨("_law_pairs", none), "_law_pairs", "_law_pairs", defArgs (top 29), defBody (top 29), defScope (top 29), [], []⟩
def d22 : He.DefD := ⟨("_law_arms", none), "_law_arms", "_law_arms", defArgs (top 30), defBody (top 30), defScope (top 30), [], []⟩
def d23 : He.DefD := ⟨("_law_after", none), "_law_after", "_law_after", defArgs (top 31), defBody (top 31), defScope (top 31), [], []⟩
def d24 : He.DefD := ⟨("_law_goes", none), "_law_goes", "_law_goes", defArgs (top 32), defBody (top 32), defScope (top 32), [], []⟩
def d25 : He.DefD := ⟨("_law_steps_on", none), "_law_steps_on", "_law_steps_on", defArgs (top 33), defBody (top 33), defScope (top 33), [], []⟩
def d26 : He.DefD := ⟨("_law_ways_on", none), "_law_ways_on", "_law_ways_on", defArgs (top 34), defBody (top 34), defScope (top 34), [], []⟩
def d27 : He.DefD := ⟨("_law_pushed", none), "_law_pushed", "_law_pushed", defArgs (top 35), defBody (top 35), defScope (top 35), [], []⟩
def d28 : He.DefD := ⟨("_law_heard", none), "_law_heard", "_law_heard", defArgs (top 36), defBody (top 36), defScope (top 36), [], []⟩
def d29 : He.DefD := ⟨("_law_rises", none), "_law_rises", "_law_rises", defArgs (top 37), defBody (top 37), defScope (top 37), [], []⟩
def d30 : He.DefD := ⟨("_law_due", none), "_law_due", "_law_due", defArgs (top 38), defBody (top 38), defScope (top 38), [], []⟩
def d31 : He.DefD := ⟨("_law_by_hand_right", none), "_law_by_hand_right", "_law_by_hand_right", defArgs (top 39), defBody (top 39), defScope (top 39), [], []⟩
def d32 : He.DefD := ⟨("_law_right", none), "_law_right", "_law_right", defArgs (top 40), defBody (top 40), defScope (top 40), [], []⟩
def d33 : He.DefD := ⟨("law", none), "law", "law", defArgs (top 41), defBody (top 41), defScope (top 41), [], []⟩
def dd : List He.DefD := [d0, d1, d2, d3, d4, d5, d6, d7, d8, d9, d10, d11, d12, d13, d14, d15, d16, d17, d18, d19, d20, d21, d22, d23, d24, d25, d26, d27, d28, d29, d30, d31, d32, d33]
def fa : List He.Fa := [.glo "is_number", .glo "ends", .glo "spans", .glo "reaches", .glo "check_alike", .glo "why_not", .glo "leads_to", .glo "check_behind", .glo "orbit", .glo "hops_in", .glo "hops", .glo "fewest_steps", .glo "most_steps", .glo "_law_box", .glo "_law_take", .glo "_law_cells", .glo "_law_of", .glo "_law_mixed", .glo "_law_same", .glo "_law_grouped", .glo "_law_ends", .glo "_law_pairs", .glo "_law_arms", .glo "_law_after", .glo "_law_goes", .glo "_law_steps_on", .glo "_law_ways_on", .glo "_law_pushed", .glo "_law_heard", .glo "_law_rises", .glo "_law_due", .glo "_law_by_hand_right", .glo "_law_right", .glo "law", .free "ValueError", .free "abs", .free "all", .free "any", .free "bool", .free "enumerate", .free "int", .free "isinstance", .free "len", .free "list", .free "max", .free "min", .free "range", .free "str", .free "sum", .free "tuple", .free "zip"]
abbrev R : PySem.W.OpenRow := PySem.W.OpenLaw.row PySem.Challenge.rw_regroups_k22_fewest_and_most_steps
def exs : List Str := ["NotBehind", "Unlike"]
abbrev hk : PySem.W.Hook := hookY 4 fa dd exs
def ob (s : PySem.W.SharedT) : AlY := obsYG 4 fa dd exs (HandSHeadRun.getT s)
theorem ob_eq (s : PySem.W.SharedT) : ob s = hk.obs s.abs := obsYG_eq (HandSHeadRun.getT_eq s)
def names : List PySem.Str := (["Unlike", "NotBehind", "is_number", "ends", "spans", "reaches", "check_alike", "why_not", "leads_to", "check_behind", "orbit", "hops_in", "hops", "fewest_steps", "most_steps", "_law_box", "_law_take", "_law_cells", "_law_of", "_law_mixed", "_law_same", "_law_grouped", "_law_ends", "_law_pairs", "_law_arms", "_law_after", "_law_goes", "_law_steps_on", "_law_ways_on", "_law_pushed"] : List PySem.Str) ++ (["_law_heard", "_law_rises", "_law_due", "_law_by_hand_right", "_law_right"] : List PySem.Str)
theorem run_head (w : World) : HandSHeadRun.RunEq R (PySem.W.view R.prog [41]) hk ob 3000 names w := by
  intro os
  kernel_rfl
theorem sc0 : fnScB g0.ns g0.ps d0.scope = true := by decide +kernel
theorem ck0 : ckSs T g0.ns g0.body d0.scope d0.body = true := by decide +kernel
theorem sc1 : fnScB g1.ns g1.ps d1.scope = true := by decide +kernel
theorem ck1 : ckSs T g1.ns g1.body d1.scope d1.body = true := by decide +kernel
theorem sc2 : fnScB g2.ns g2.ps d2.scope = true := by decide +kernel
theorem ck2 : ckSs T g2.ns g2.body d2.scope d2.body = true := by decide +kernel
theorem sc3 : fnScB g3.ns g3.ps d3.scope = true := by decide +kernel
theorem ck3 : ckSs T g3.ns g3.body d3.scope d3.body = true := by decide +kernel
theorem sc4 : fnScB g4.ns g4.ps d4.scope = true := by decide +kernel
theorem ck4 : ckSs T g4.ns g4.body d4.scope d4.body = true := by decide +kernel
theorem sc5 : fnScB g5.ns g5.ps d5.scope = true := by decide +kernel
theorem ck5 : ckSs T g5.ns g5.body d5.scope d5.body = true := by decide +kernel
theorem sc6 : fnScB g6.ns g6.ps d6.scope = true := by decide +kernel
theorem ck6 : ckSs T g6.ns g6.body d6.scope d6.body = true := by decide +kernel
theorem sc7 : fnScB g7.ns g7.ps d7.scope = true := by decide +kernel
theorem ck7 : ckSs T g7.ns g7.body d7.scope d7.body = true := by decide +kernel
theorem sc8 : fnScB g8.ns g8.ps d8.scope = true := by decide +kernel
theorem ck8 : ckSs T g8.ns g8.body d8.scope d8.body = true := by decide +kernel
theorem sc9 : fnScB g9.ns g9.ps d9.scope = true := by decide +kernel
theorem ck9 : ckSs T g9.ns g9.body d9.scope d9.body = true := by decide +kernel
theorem sc10 : fnScB g10.ns g10.ps d10.scope = true := by decide +kernel
theorem ck10 : ckSs T g10.ns g10.body d10.scope d10.body = true := by decide +kernel
theorem sc11 : fnScB g11.ns g11.ps d11.scope = true := by decide +kernel
theorem ck11 : ckSs T g11.ns g11.body d11.scope d11.body = true := by decide +kernel
theorem sc12 : fnScB g12.ns g12.ps d12.scope = true := by decide +kernel
theorem ck12 : ckSs T g12.ns g12.body d12.scope d12.body = true := by decide +kernel
theorem sc13 : fnScB g13.ns g13.ps d13.scope = true := by decide +kernel
theorem ck13 : ckSs T g13.ns g13.body d13.scope d13.body = true := by decide +kernel
theorem sc14 : fnScB g14.ns g14.ps d14.scope = true := by decide +kernel
theorem ck14 : ckSs T g14.ns g14.body d14.scope d14.body = true := by decide +kernel
theorem sc15 : fnScB g15.ns g15.ps d15.scope = true := by decide +kernel
theorem ck15 : ckSs T g15.ns g15.body d15.scope d15.body = true := by decide +kernel
theorem sc16 : fnScB g16.ns g16.ps d16.scope = true := by decide +kernel
theorem ck16 : ckSs T g16.ns g16.body d16.scope d16.body = true := by decide +kernel
theorem sc17 : fnScB g17.ns g17.ps d17.scope = true := by decide +kernel
theorem ck17 : ckSs T g17.ns g17.body d17.scope d17.body = true := by decide +kernel
theorem sc18 : fnScB g18.ns g18.ps d18.scope = true := by decide +kernel
theorem ck18 : ckSs T g18.ns g18.body d18.scope d18.body = true := by decide +kernel
theorem sc19 : fnScB g19.ns g19.ps d19.scope = true := by decide +kernel
theorem ck19 : ckSs T g19.ns g19.body d19.scope d19.body = true := by decide +kernel
theorem sc20 : fnScB g20.ns g20.ps d20.scope = true := by decide +kernel
theorem ck20 : ckSs T g20.ns g20.body d20.scope d20.body = true := by decide +kernel
theorem sc21 : fnScB g21.ns g21.ps d21.scope = true := by decide +kernel
theorem ck21 : ckSs T g21.ns g21.body d21.scope d21.body = true := by decide +kernel
theorem sc22 : fnScB g22.ns g22.ps d22.scope = true := by decide +kernel
theorem ck22 : ckSs T g22.ns g22.body d22.scope d22.body = true := by decide +kernel
theorem sc23 : fnScB g23.ns g23.ps d23.scope = true := by decide +kernel
theorem ck23 : ckSs T g23.ns g23.body d23.scope d23.body = true := by decide +kernel
theorem sc24 : fnScB g24.ns g24.ps d24.scope = true := by decide +kernel
theorem ck24 : ckSs T g24.ns g24.body d24.scope d24.body = true := by decide +kernel
theorem sc25 : fnScB g25.ns g25.ps d25.scope = true := by decide +kernel
theorem ck25 : ckSs T g25.ns g25.body d25.scope d25.body = true := by decide +kernel
theorem sc26 : fnScB g26.ns g26.ps d26.scope = true := by decide +kernel
theorem ck26 : ckSs T g26.ns g26.body d26.scope d26.body = true := by decide +kernel
theorem sc27 : fnScB g27.ns g27.ps d27.scope = true := by decide +kernel
theorem ck27 : ckSs T g27.ns g27.body d27.scope d27.body = true := by decide +kernel
theorem sc28 : fnScB g28.ns g28.ps d28.scope = true := by decide +kernel
theorem ck28 : ckSs T g28.ns g28.body d28.scope d28.body = true := by decide +kernel
theorem sc29 : fnScB g29.ns g29.ps d29.scope = true := by decide +kernel
theorem ck29 : ckSs T g29.ns g29.body d29.scope d29.body = true := by decide +kernel
theorem sc30 : fnScB g30.ns g30.ps d30.scope = true := by decide +kernel
theorem ck30 : ckSs T g30.ns g30.body d30.scope d30.body = true := by decide +kernel
theorem sc31 : fnScB g31.ns g31.ps d31.scope = true := by decide +kernel
theorem ck31 : ckSs T g31.ns g31.body d31.scope d31.body = true := by decide +kernel
theorem sc32 : fnScB g32.ns g32.ps d32.scope = true := by decide +kernel
theorem ck32 : ckSs T g32.ns g32.body d32.scope d32.body = true := by decide +kernel
theorem sc33 : fnScB g33.ns g33.ps d33.scope = true := by decide +kernel
theorem ck33 : ckSs T g33.ns g33.body d33.scope d33.body = true := by decide +kernel
section
variable {K : Fg} {h : Heap} {mg : Str → Option Value} (X : K.In h) (G : h.Ns mainGlobals mg) (c : He.SaysD fa dd K)
include X G c
theorem m0 : FnFact T K mg 0 g0 := by
  obtain ⟨fd, F⟩ := c.def_ 0 (d := d0) rfl
  refine ⟨_, fd, _, _, _, _, He.glo_ok X G (c.fact 0 (f := .glo "is_number") rfl), F, sc0, ck0, ?_, ?_⟩
  · exact bd0 (P := P) (f := 0) (fn := g0) rfl rfl (FunD.bindsN F fun _ _ _ _ _ _ us hl => match us, hl with | [_], _ => rfl)
  · intro n ks perm hm
    exact absurd hm (kw_no (by decide +kernel))
theorem m1 : FnFact T K mg 1 g1 := by
  obtain ⟨fd, F⟩ := c.def_ 1 (d := d1) rfl
  refine ⟨_, fd, _, _, _, _, He.glo_ok X G (c.fact 1 (f := .glo "ends") rfl), F, sc1, ck1, ?_, ?_⟩
  · exact bd0 (P := P) (f := 1) (fn := g1) rfl rfl (FunD.bindsN F fun _ _ _ _ _ _ us hl => match us, hl with | [_], _ => rfl)
  · intro n ks perm hm
    exact absurd hm (kw_no (by decide +kernel))
theorem m2 : FnFact T K mg 2 g2 := by
  obtain ⟨fd, F⟩ := c.def_ 2 (d := d2) rfl
  refine ⟨_, fd, _, _, _, _, He.glo_ok X G (c.fact 2 (f := .glo "spans") rfl), F, sc2, ck2, ?_, ?_⟩
  · exact bd0 (P := P) (f := 2) (fn := g2) rfl rfl (FunD.bindsN F fun _ _ _ _ _ _ us hl => match us, hl with | [_], _ => rfl)
  · intro n ks perm hm
    exact absurd hm (kw_no (by decide +kernel))
theorem m3 : FnFact T K mg 3 g3 := by
  obtain ⟨fd, F⟩ := c.def_ 3 (d := d3) rfl
  refine ⟨_, fd, _, _, _, _, He.glo_ok X G (c.fact 3 (f := .glo "reaches") rfl), F, sc3, ck3, ?_, ?_⟩
  · exact bd0 (P := P) (f := 3) (fn := g3) rfl rfl (FunD.bindsN F fun _ _ _ _ _ _ us hl => match us, hl with | [_], _ => rfl)
  · intro n ks perm hm
    exact absurd hm (kw_no (by decide +kernel))
theorem m4 : FnFact T K mg 4 g4 := by
  obtain ⟨fd, F⟩ := c.def_ 4 (d := d4) rfl
  refine ⟨_, fd, _, _, _, _, He.glo_ok X G (c.fact 4 (f := .glo "check_alike") rfl), F, sc4, ck4, ?_, ?_⟩
  · exact bd0 (P := P) (f := 4) (fn := g4) rfl rfl (FunD.bindsN F fun _ _ _ _ _ _ us hl => match us, hl with | [_], _ => rfl)
  · intro n ks perm hm
    exact absurd hm (kw_no (by decide +kernel))
theorem m5 : FnFact T K mg 5 g5 := by
  obtain ⟨fd, F⟩ := c.def_ 5 (d := d5) rfl
  refine ⟨_, fd, _, _, _, _, He.glo_ok X G (c.fact 5 (f := .glo "why_not") rfl), F, sc5, ck5, ?_, ?_⟩
  · exact bd0 (P := P) (f := 5) (fn := g5) rfl rfl (FunD.bindsN F fun _ _ _ _ _ _ us hl => match us, hl with | [_, _], _ => rfl)
  · intro n ks perm hm
    exact absurd hm (kw_no (by decide +kernel))
theorem m6 : FnFact T K mg 6 g6 := by
  obtain ⟨fd, F⟩ := c.def_ 6 (d := d6) rfl
  refine ⟨_, fd, _, _, _, _, He.glo_ok X G (c.fact 6 (f := .glo "leads_to") rfl), F, sc6, ck6, ?_, ?_⟩
  · exact bd0 (P := P) (f := 6) (fn := g6) rfl rfl (FunD.bindsN F fun _ _ _ _ _ _ us hl => match us, hl with | [_, _], _ => rfl)
  · intro n ks perm hm
    exact absurd hm (kw_no (by decide +kernel))
theorem m7 : FnFact T K mg 7 g7 := by
  obtain ⟨fd, F⟩ := c.def_ 7 (d := d7) rfl
  refine ⟨_, fd, _, _, _, _, He.glo_ok X G (c.fact 7 (f := .glo "check_behind") rfl), F, sc7, ck7, ?_, ?_⟩
  · exact bd0 (P := P) (f := 7) (fn := g7) rfl rfl (FunD.bindsN F fun _ _ _ _ _ _ us hl => match us, hl with | [_, _], _ => rfl)
  · intro n ks perm hm
    exact absurd hm (kw_no (by decide +kernel))
theorem m8 : FnFact T K mg 8 g8 := by
  obtain ⟨fd, F⟩ := c.def_ 8 (d := d8) rfl
  refine ⟨_, fd, _, _, _, _, He.glo_ok X G (c.fact 8 (f := .glo "orbit") rfl), F, sc8, ck8, ?_, ?_⟩
  · exact bd0 (P := P) (f := 8) (fn := g8) rfl rfl (FunD.bindsN F fun _ _ _ _ _ _ us hl => match us, hl with | [_, _, _], _ => rfl)
  · intro n ks perm hm
    exact absurd hm (kw_no (by decide +kernel))
theorem m9 : FnFact T K mg 9 g9 := by
  obtain ⟨fd, F⟩ := c.def_ 9 (d := d9) rfl
  refine ⟨_, fd, _, _, _, _, He.glo_ok X G (c.fact 9 (f := .glo "hops_in") rfl), F, sc9, ck9, ?_, ?_⟩
  · exact bd0 (P := P) (f := 9) (fn := g9) rfl rfl (FunD.bindsN F fun _ _ _ _ _ _ us hl => match us, hl with | [_, _], _ => rfl)
  · intro n ks perm hm
    exact absurd hm (kw_no (by decide +kernel))
theorem m10 : FnFact T K mg 10 g10 := by
  obtain ⟨fd, F⟩ := c.def_ 10 (d := d10) rfl
  refine ⟨_, fd, _, _, _, _, He.glo_ok X G (c.fact 10 (f := .glo "hops") rfl), F, sc10, ck10, ?_, ?_⟩
  · exact bd0 (P := P) (f := 10) (fn := g10) rfl rfl (FunD.bindsN F fun _ _ _ _ _ _ us hl => match us, hl with | [_, _], _ => rfl)
  · intro n ks perm hm
    have hm2 : (10, n, ks, perm) ∈ ([(10, 0, ["other", "one"], [1, 0]), (12, 0, ["other", "one"], [1, 0]), (11, 0, ["other", "one"], [1, 0])] : List (Nat × Nat × List Str × List Nat)) := hm
    simp only [List.mem_cons, List.not_mem_nil, or_false, Prod.mk.injEq, true_and, false_and, false_or, Nat.reduceEqDiff, reduceCtorEq] at hm2
    rcases hm2 with ⟨rfl, rfl, rfl⟩
    · exact ⟨rfl, rfl, [], .nil, kb0 F fun _ _ _ _ _ _ us ws h1 h2 => match us, ws, h1, h2 with | [], [_, _], _, _ => rfl⟩
theorem m11 : FnFact T K mg 11 g11 := by
  obtain ⟨fd, F⟩ := c.def_ 11 (d := d11) rfl
  refine ⟨_, fd, _, _, _, _, He.glo_ok X G (c.fact 11 (f := .glo "fewest_steps") rfl), F, sc11, ck11, ?_, ?_⟩
  · exact bd0 (P := P) (f := 11) (fn := g11) rfl rfl (FunD.bindsN F fun _ _ _ _ _ _ us hl => match us, hl with | [_, _], _ => rfl)
  · intro n ks perm hm
    have hm2 : (11, n, ks, perm) ∈ ([(10, 0, ["other", "one"], [1, 0]), (12, 0, ["other", "one"], [1, 0]), (11, 0, ["other", "one"], [1, 0])] : List (Nat × Nat × List Str × List Nat)) := hm
    simp only [List.mem_cons, List.not_mem_nil, or_false, Prod.mk.injEq, true_and, false_and, false_or, Nat.reduceEqDiff, reduceCtorEq] at hm2
    rcases hm2 with ⟨rfl, rfl, rfl⟩
    · exact ⟨rfl, rfl, [], .nil, kb0 F fun _ _ _ _ _ _ us ws h1 h2 => match us, ws, h1, h2 with | [], [_, _], _, _ => rfl⟩
theorem m12 : FnFact T K mg 12 g12 := by
  obtain ⟨fd, F⟩ := c.def_ 12 (d := d12) rfl
  refine ⟨_, fd, _, _, _, _, He.glo_ok X G (c.fact 12 (f := .glo "most_steps") rfl), F, sc12, ck12, ?_, ?_⟩
  · exact bd0 (P := P) (f := 12) (fn := g12) rfl rfl (FunD.bindsN F fun _ _ _ _ _ _ us hl => match us, hl with | [_, _], _ => rfl)
  · intro n ks perm hm
    have hm2 : (12, n, ks, perm) ∈ ([(10, 0, ["other", "one"], [1, 0]), (12, 0, ["other", "one"], [1, 0]), (11, 0, ["other", "one"], [1, 0])] : List (Nat × Nat × List Str × List Nat)) := hm
    simp only [List.mem_cons, List.not_mem_nil, or_false, Prod.mk.injEq, true_and, false_and, false_or, Nat.reduceEqDiff, reduceCtorEq] at hm2
    rcases hm2 with ⟨rfl, rfl, rfl⟩
    · exact ⟨rfl, rfl, [], .nil, kb0 F fun _ _ _ _ _ _ us ws h1 h2 => match us, ws, h1, h2 with | [], [_, _], _, _ => rfl⟩
theorem m13 : FnFact T K mg 13 g13 := by
  obtain ⟨fd, F⟩ := c.def_ 13 (d := d13) rfl
  refine ⟨_, fd, _, _, _, _, He.glo_ok X G (c.fact 13 (f := .glo "_law_box") rfl), F, sc13, ck13, ?_, ?_⟩
  · exact bd0 (P := P) (f := 13) (fn := g13) rfl rfl (FunD.bindsN F fun _ _ _ _ _ _ us hl => match us, hl with | [_, _], _ => rfl)
  · intro n ks perm hm
    exact absurd hm (kw_no (by decide +kernel))
theorem m14 : FnFact T K mg 14 g14 := by
  obtain ⟨fd, F⟩ := c.def_ 14 (d := d14) rfl
  refine ⟨_, fd, _, _, _, _, He.glo_ok X G (c.fact 14 (f := .glo "_law_take") rfl), F, sc14, ck14, ?_, ?_⟩
  · exact bd0 (P := P) (f := 14) (fn := g14) rfl rfl (FunD.bindsN F fun _ _ _ _ _ _ us hl => match us, hl with | [_, _], _ => rfl)
  · intro n ks perm hm
    exact absurd hm (kw_no (by decide +kernel))
theorem m15 : FnFact T K mg 15 g15 := by
  obtain ⟨fd, F⟩ := c.def_ 15 (d := d15) rfl
  refine ⟨_, fd, _, _, _, _, He.glo_ok X G (c.fact 15 (f := .glo "_law_cells") rfl), F, sc15, ck15, ?_, ?_⟩
  · exact bd0 (P := P) (f := 15) (fn := g15) rfl rfl (FunD.bindsN F fun _ _ _ _ _ _ us hl => match us, hl with | [_, _], _ => rfl)
  · intro n ks perm hm
    exact absurd hm (kw_no (by decide +kernel))
theorem m16 : FnFact T K mg 16 g16 := by
  obtain ⟨fd, F⟩ := c.def_ 16 (d := d16) rfl
  refine ⟨_, fd, _, _, _, _, He.glo_ok X G (c.fact 16 (f := .glo "_law_of") rfl), F, sc16, ck16, ?_, ?_⟩
  · exact bd0 (P := P) (f := 16) (fn := g16) rfl rfl (FunD.bindsN F fun _ _ _ _ _ _ us hl => match us, hl with | [_, _], _ => rfl)
  · intro n ks perm hm
    exact absurd hm (kw_no (by decide +kernel))
theorem m17 : FnFact T K mg 17 g17 := by
  obtain ⟨fd, F⟩ := c.def_ 17 (d := d17) rfl
  refine ⟨_, fd, _, _, _, _, He.glo_ok X G (c.fact 17 (f := .glo "_law_mixed") rfl), F, sc17, ck17, ?_, ?_⟩
  · exact bd0 (P := P) (f := 17) (fn := g17) rfl rfl (FunD.bindsN F fun _ _ _ _ _ _ us hl => match us, hl with | [_, _], _ => rfl)
  · intro n ks perm hm
    exact absurd hm (kw_no (by decide +kernel))
theorem m18 : FnFact T K mg 18 g18 := by
  obtain ⟨fd, F⟩ := c.def_ 18 (d := d18) rfl
  refine ⟨_, fd, _, _, _, _, He.glo_ok X G (c.fact 18 (f := .glo "_law_same") rfl), F, sc18, ck18, ?_, ?_⟩
  · exact bd0 (P := P) (f := 18) (fn := g18) rfl rfl (FunD.bindsN F fun _ _ _ _ _ _ us hl => match us, hl with | [_, _], _ => rfl)
  · intro n ks perm hm
    exact absurd hm (kw_no (by decide +kernel))
theorem m19 : FnFact T K mg 19 g19 := by
  obtain ⟨fd, F⟩ := c.def_ 19 (d := d19) rfl
  refine ⟨_, fd, _, _, _, _, He.glo_ok X G (c.fact 19 (f := .glo "_law_grouped") rfl), F, sc19, ck19, ?_, ?_⟩
  · exact bd0 (P := P) (f := 19) (fn := g19) rfl rfl (FunD.bindsN F fun _ _ _ _ _ _ us hl => match us, hl with | [_, _, _], _ => rfl)
  · intro n ks perm hm
    exact absurd hm (kw_no (by decide +kernel))
theorem m20 : FnFact T K mg 20 g20 := by
  obtain ⟨fd, F⟩ := c.def_ 20 (d := d20) rfl
  refine ⟨_, fd, _, _, _, _, He.glo_ok X G (c.fact 20 (f := .glo "_law_ends") rfl), F, sc20, ck20, ?_, ?_⟩
  · exact bd0 (P := P) (f := 20) (fn := g20) rfl rfl (FunD.bindsN F fun _ _ _ _ _ _ us hl => match us, hl with | [_], _ => rfl)
  · intro n ks perm hm
    exact absurd hm (kw_no (by decide +kernel))
theorem m21 : FnFact T K mg 21 g21 := by
  obtain ⟨fd, F⟩ := c.def_ 21 (d := d21) rfl
  refine ⟨_, fd, _, _, _, _, He.glo_ok X G (c.fact 21 (f := .glo "_law_pairs") rfl), F, sc21, ck21, ?_, ?_⟩
  · exact bd0 (P := P) (f := 21) (fn := g21) rfl rfl (FunD.bindsN F fun _ _ _ _ _ _ us hl => match us, hl with | [_], _ => rfl)
  · intro n ks perm hm
    exact absurd hm (kw_no (by decide +kernel))
theorem m22 : FnFact T K mg 22 g22 := by
  obtain ⟨fd, F⟩ := c.def_ 22 (d := d22) rfl
  refine ⟨_, fd, _, _, _, _, He.glo_ok X G (c.fact 22 (f := .glo "_law_arms") rfl), F, sc22, ck22, ?_, ?_⟩
  · exact bd0 (P := P) (f := 22) (fn := g22) rfl rfl (FunD.bindsN F fun _ _ _ _ _ _ us hl => match us, hl with | [_], _ => rfl)
  · intro n ks perm hm
    exact absurd hm (kw_no (by decide +kernel))
theorem m23 : FnFact T K mg 23 g23 := by
  obtain ⟨fd, F⟩ := c.def_ 23 (d := d23) rfl
  refine ⟨_, fd, _, _, _, _, He.glo_ok X G (c.fact 23 (f := .glo "_law_after") rfl), F, sc23, ck23, ?_, ?_⟩
  · exact bd0 (P := P) (f := 23) (fn := g23) rfl rfl (FunD.bindsN F fun _ _ _ _ _ _ us hl => match us, hl with | [_], _ => rfl)
  · intro n ks perm hm
    exact absurd hm (kw_no (by decide +kernel))
theorem m24 : FnFact T K mg 24 g24 := by
  obtain ⟨fd, F⟩ := c.def_ 24 (d := d24) rfl
  refine ⟨_, fd, _, _, _, _, He.glo_ok X G (c.fact 24 (f := .glo "_law_goes") rfl), F, sc24, ck24, ?_, ?_⟩
  · exact bd0 (P := P) (f := 24) (fn := g24) rfl rfl (FunD.bindsN F fun _ _ _ _ _ _ us hl => match us, hl with | [_, _], _ => rfl)
  · intro n ks perm hm
    exact absurd hm (kw_no (by decide +kernel))
theorem m25 : FnFact T K mg 25 g25 := by
  obtain ⟨fd, F⟩ := c.def_ 25 (d := d25) rfl
  refine ⟨_, fd, _, _, _, _, He.glo_ok X G (c.fact 25 (f := .glo "_law_steps_on") rfl), F, sc25, ck25, ?_, ?_⟩
  · exact bd0 (P := P) (f := 25) (fn := g25) rfl rfl (FunD.bindsN F fun _ _ _ _ _ _ us hl => match us, hl with | [_, _], _ => rfl)
  · intro n ks perm hm
    exact absurd hm (kw_no (by decide +kernel))
theorem m26 : FnFact T K mg 26 g26 := by
  obtain ⟨fd, F⟩ := c.def_ 26 (d := d26) rfl
  refine ⟨_, fd, _, _, _, _, He.glo_ok X G (c.fact 26 (f := .glo "_law_ways_on") rfl), F, sc26, ck26, ?_, ?_⟩
  · exact bd0 (P := P) (f := 26) (fn := g26) rfl rfl (FunD.bindsN F fun _ _ _ _ _ _ us hl => match us, hl with | [_, _], _ => rfl)
  · intro n ks perm hm
    exact absurd hm (kw_no (by decide +kernel))
theorem m27 : FnFact T K mg 27 g27 := by
  obtain ⟨fd, F⟩ := c.def_ 27 (d := d27) rfl
  refine ⟨_, fd, _, _, _, _, He.glo_ok X G (c.fact 27 (f := .glo "_law_pushed") rfl), F, sc27, ck27, ?_, ?_⟩
  · exact bd0 (P := P) (f := 27) (fn := g27) rfl rfl (FunD.bindsN F fun _ _ _ _ _ _ us hl => match us, hl with | [_, _, _], _ => rfl)
  · intro n ks perm hm
    exact absurd hm (kw_no (by decide +kernel))
theorem m28 : FnFact T K mg 28 g28 := by
  obtain ⟨fd, F⟩ := c.def_ 28 (d := d28) rfl
  refine ⟨_, fd, _, _, _, _, He.glo_ok X G (c.fact 28 (f := .glo "_law_heard") rfl), F, sc28, ck28, ?_, ?_⟩
  · exact bd0 (P := P) (f := 28) (fn := g28) rfl rfl (FunD.bindsN F fun _ _ _ _ _ _ us hl => match us, hl with | [_, _, _], _ => rfl)
  · intro n ks perm hm
    exact absurd hm (kw_no (by decide +kernel))
theorem m29 : FnFact T K mg 29 g29 := by
  obtain ⟨fd, F⟩ := c.def_ 29 (d := d29) rfl
  refine ⟨_, fd, _, _, _, _, He.glo_ok X G (c.fact 29 (f := .glo "_law_rises") rfl), F, sc29, ck29, ?_, ?_⟩
  · exact bd0 (P := P) (f := 29) (fn := g29) rfl rfl (FunD.bindsN F fun _ _ _ _ _ _ us hl => match us, hl with | [_, _], _ => rfl)
  · intro n ks perm hm
    exact absurd hm (kw_no (by decide +kernel))
theorem m30 : FnFact T K mg 30 g30 := by
  obtain ⟨fd, F⟩ := c.def_ 30 (d := d30) rfl
  refine ⟨_, fd, _, _, _, _, He.glo_ok X G (c.fact 30 (f := .glo "_law_due") rfl), F, sc30, ck30, ?_, ?_⟩
  · exact bd0 (P := P) (f := 30) (fn := g30) rfl rfl (FunD.bindsN F fun _ _ _ _ _ _ us hl => match us, hl with | [_, _], _ => rfl)
  · intro n ks perm hm
    exact absurd hm (kw_no (by decide +kernel))
theorem m31 : FnFact T K mg 31 g31 := by
  obtain ⟨fd, F⟩ := c.def_ 31 (d := d31) rfl
  refine ⟨_, fd, _, _, _, _, He.glo_ok X G (c.fact 31 (f := .glo "_law_by_hand_right") rfl), F, sc31, ck31, ?_, ?_⟩
  · exact bd0 (P := P) (f := 31) (fn := g31) rfl rfl (FunD.bindsN F fun _ _ _ _ _ _ us hl => match us, hl with | [], _ => rfl)
  · intro n ks perm hm
    exact absurd hm (kw_no (by decide +kernel))
theorem m32 : FnFact T K mg 32 g32 := by
  obtain ⟨fd, F⟩ := c.def_ 32 (d := d32) rfl
  refine ⟨_, fd, _, _, _, _, He.glo_ok X G (c.fact 32 (f := .glo "_law_right") rfl), F, sc32, ck32, ?_, ?_⟩
  · exact bd0 (P := P) (f := 32) (fn := g32) rfl rfl (FunD.bindsN F fun _ _ _ _ _ _ us hl => match us, hl with | [_], _ => rfl)
  · intro n ks perm hm
    exact absurd hm (kw_no (by decide +kernel))
theorem m33 : FnFact T K mg 33 g33 := by
  obtain ⟨fd, F⟩ := c.def_ 33 (d := d33) rfl
  refine ⟨_, fd, _, _, _, _, He.glo_ok X G (c.fact 33 (f := .glo "law") rfl), F, sc33, ck33, ?_, ?_⟩
  · exact bd0 (P := P) (f := 33) (fn := g33) rfl rfl (FunD.bindsN F fun _ _ _ _ _ _ us hl => match us, hl with | [_], _ => rfl)
  · intro n ks perm hm
    exact absurd hm (kw_no (by decide +kernel))
variable (cy : exY exs K = true)
include cy
theorem exE : ExTab T.tb K mg := by
  have tb : ∀ c x fs, T.tb c = some (x, fs) → x ∈ exs ∧ fs = [] ∧ exNum x = c := by
    intro c x fs e
    simp only [T] at e
    repeat (split at e; · (rename_i hc; cases e; subst hc; exact ⟨by decide, rfl, by decide⟩))
    cases e
  exact exTab_of X G cy tb
theorem modOk : ModOk T K mg isi0 where
  free := fun x hx => by
    simp only [T, List.mem_cons, List.not_mem_nil, or_false] at hx
    rcases hx with rfl | rfl | rfl | rfl | rfl | rfl | rfl | rfl | rfl | rfl | rfl | rfl | rfl | rfl | rfl | rfl | rfl
    · exact He.free_ok X G (c.fact 34 (f := .free "ValueError") rfl)
    · exact He.free_ok X G (c.fact 35 (f := .free "abs") rfl)
    · exact He.free_ok X G (c.fact 36 (f := .free "all") rfl)
    · exact He.free_ok X G (c.fact 37 (f := .free "any") rfl)
    · exact He.free_ok X G (c.fact 38 (f := .free "bool") rfl)
    · exact He.free_ok X G (c.fact 39 (f := .free "enumerate") rfl)
    · exact He.free_ok X G (c.fact 40 (f := .free "int") rfl)
    · exact He.free_ok X G (c.fact 41 (f := .free "isinstance") rfl)
    · exact He.free_ok X G (c.fact 42 (f := .free "len") rfl)
    · exact He.free_ok X G (c.fact 43 (f := .free "list") rfl)
    · exact He.free_ok X G (c.fact 44 (f := .free "max") rfl)
    · exact He.free_ok X G (c.fact 45 (f := .free "min") rfl)
    · exact He.free_ok X G (c.fact 46 (f := .free "range") rfl)
    · exact He.free_ok X G (c.fact 47 (f := .free "str") rfl)
    · exact He.free_ok X G (c.fact 48 (f := .free "sum") rfl)
    · exact He.free_ok X G (c.fact 49 (f := .free "tuple") rfl)
    · exact He.free_ok X G (c.fact 50 (f := .free "zip") rfl)
  con := fun x d e => by cases e
  cls := fun _ x fs e => tbl_cls (exE X G c cy) e
  isi := isi0_ok fun _ x fs t e => tbl_isi (exE X G c cy) e
  exc := tbl_exc (exE X G c cy)
  fn := fun f fn e => by
    have e2 : fns[f]? = some fn := e
    have q : ∀ i fn, fns[i]? = some fn → FnFact T K mg (0 + i) fn := by
      unfold fns
      refine ix_cons (m0 X G c) ?_
      refine ix_cons (m1 X G c) ?_
      refine ix_cons (m2 X G c) ?_
      refine ix_cons (m3 X G c) ?_
      refine ix_cons (m4 X G c) ?_
      refine ix_cons (m5 X G c) ?_
      refine ix_cons (m6 X G c) ?_
      refine ix_cons (m7 X G c) ?_
      refine ix_cons (m8 X G c) ?_
      refine ix_cons (m9 X G c) ?_
      refine ix_cons (m10 X G c) ?_
      refine ix_cons (m11 X G c) ?_
      refine ix_cons (m12 X G c) ?_
      refine ix_cons (m13 X G c) ?_
      refine ix_cons (m14 X G c) ?_
      refine ix_cons (m15 X G c) ?_
      refine ix_cons (m16 X G c) ?_
      refine ix_cons (m17 X G c) ?_
      refine ix_cons (m18 X G c) ?_
      refine ix_cons (m19 X G c) ?_
      refine ix_cons (m20 X G c) ?_
      refine ix_cons (m21 X G c) ?_
      refine ix_cons (m22 X G c) ?_
      refine ix_cons (m23 X G c) ?_
      refine ix_cons (m24 X G c) ?_
      refine ix_cons (m25 X G c) ?_
      refine ix_cons (m26 X G c) ?_
      refine ix_cons (m27 X G c) ?_
      refine ix_cons (m28 X G c) ?_
      refine ix_cons (m29 X G c) ?_
      refine ix_cons (m30 X G c) ?_
      refine ix_cons (m31 X G c) ?_
      refine ix_cons (m32 X G c) ?_
      refine ix_cons (m33 X G c) ?_
      exact ix_nil
    have q2 := q f fn e2
    rw [Nat.zero_add] at q2
    exact q2
end
section
variable {lv : Nat} (plain : ∀ ns : List Int, ns.length ≤ 63 → ∃ S, run P isi0 WW (lv + 1) 0 lawId [.fzn (dI ns)] [] = .ok (.bl true) S)
include plain
theorem facts {prog : Program} {w : World} {K : Fg} {h : Heap} {mg : Str → Option Value} {f : Addr} (X : K.In h) (G : h.Ns mainGlobals mg) (hfa : mg ("law" : Str) = some (.ref f)) (c : He.SaysD fa dd K) (cy : exY exs K = true) :
    ∃ fd : FuncData, (∀ (s : Shared) (v : Value), BindsTo s fd ⟨[v], []⟩ [("_law_script", v)]) ∧ ∀ base : Heap, FnOk prog w K mg base CXF (lv + 1) f fd ["_law_script"] fun vs H Q _ => ∃ (a : Addr) (ns : List Int), vs = [.ref a] ∧ ns.length ≤ 63 ∧ SqL K H a (ns.map V.int) ∧ ∀ H', Q (.bl true) H' := by
  obtain ⟨fd, F⟩ := c.def_ 33 (d := d33) rfl
  have e := hfa.symm.trans (He.glo_ok X G (c.fact 33 (f := .glo "law") rfl))
  cases e
  have b := FunD.bindsA (ps := ["_law_script"]) F fun _ _ _ _ _ _ us hl => match us, hl with | [_], _ => rfl
  exact ⟨fd, fun s v => b s [v] rfl, fun base => law_fn (modOk X G c cy) WW lv (T := T) (f := lawId) (fn := g33) rfl rfl F sc33 ck33 plain⟩
end
end EV.K22
namespace EV.K22
open PySem L2 EV
def lv : Nat := 199
/-- _law_same with the names of other laws -/
def P2 : Prg := ren P 18 (F_law_same 18)
theorem p2 : PEq P P2 := ren_eq (a := g18) rfl ⟨rfl, rfl, rfl, rfl, rfl⟩
def oO : Ord P2 := { n := 0, e := 1, s := 2, r := 3, c := 4, w := 5, lt := 6, hn := rfl, he := rfl, hs := rfl, hr := rfl, hc := rfl, hw := rfl, hlt := rfl }
def oG : Stp P2 oO := { cb := 7, o := 8, hi := 9, h := 10, fs := 11, ms := 12, ho := rfl, hhi := rfl, hcb := rfl, hh := rfl, hfs := rfl, hms := rfl }
def oA : LstW P2 := { le := 20, lp := 21, ar := 22, af := 23, go := 24, so := 25, wo := 26, hle := rfl, hlp := rfl, har := rfl, haf := rfl, hgo := rfl, hso := rfl, hwo := rfl }
def ov : OvF := ovc 3 (ovG 3 WW gReaches) (ovc 9 gHops noOv)
theorem ov_ok : OvOk ov P isi0 WW := ovc_ok (ov_reaches (i_n := 0) (i_e := 1) (i_s := 2) rfl rfl rfl rfl) (ovc_ok (ov_hops (i_o := 8) rfl rfl (by decide)) noOv_ok)
theorem hand_okq : runq ov P isi0 WW lv 0 31 [] [] = .ok (.bl true) [] := by kernel_rfl
theorem hand_ok : run P isi0 WW lv 0 31 [] [] = .ok (.bl true) [] := (congrFun (congrFun (congrFun (congrFun (runq_eq ov_ok lv) 0) 31) []) []).symm.trans hand_okq
def oR : Drw P2 oA.toLst := { t := 14, of := 16, mx := 17, sa := 18, g := 19, pu := 27, ht := rfl, hg := rfl, hof := rfl, hpu := rfl, hmx := rfl, hsa := rfl }
/-! all pairs -/
def ov2 : OvF := ovc 26 gWays (ovc 29 gRises (ovc 24 (ovTT 4 WW gGoes) (ovc 22 (ovT 2 WW gReaches) noOv)))
theorem ov2_ok : OvOk ov2 P2 isi0 WW := ovc_ok (ov_ways oA (by decide)) (ovc_ok (ov_rises oA.toLst (by decide) rfl) (ovc_ok (ov_goes (i_le := 20) (i_lp := 21) (i_ar := 22) rfl rfl rfl rfl) (ovc_ok (ov_arms (i_e := 20) (i_p := 21) rfl rfl rfl) noOv_ok)))
theorem pcf : PCf P2 := by
  intro f fn e
  unfold P2 ren at e
  split at e
  · cases e
    exact ⟨by decide +kernel, rfl⟩
  · exact pcf_of (fns := fns) (by decide +kernel) f fn e
def chk (t u : Tr) : Bool := (!leL t.rch u.rch || hopO t u) && (match vq ov2 P2 WW 198 30 [t.d, u.d] with
  | some d => beqF 4 d (dueD t u)
  | none => false)
theorem c0 : allB 0 (fun _ => chk) = true := by decide +kernel
theorem c1 : allB 1 (fun _ => chk) = true := by decide +kernel
theorem c2 : allB 2 (fun _ => chk) = true := by decide +kernel
theorem c3 : allB 3 (fun _ => chk) = true := by decide +kernel
theorem c4 : allB 4 (fun _ => chk) = true := by decide +kernel
def part5 (i : Nat) : Bool := let E := Tr.everyF 9 5 1; ((E.drop i).take 2).all fun t => E.all fun u => chk t u
theorem c5_0 : part5 0 = true := by decide +kernel
theorem c5_2 : part5 2 = true := by decide +kernel
theorem c5_4 : part5 4 = true := by decide +kernel
theorem c5_6 : part5 6 = true := by decide +kernel
theorem c5_8 : part5 8 = true := by decide +kernel
theorem c5_10 : part5 10 = true := by decide +kernel
theorem c5_12 : part5 12 = true := by decide +kernel
theorem c5_14 : part5 14 = true := by decide +kernel
theorem c5_16 : part5 16 = true := by decide +kernel
theorem c5_18 : part5 18 = true := by decide +kernel
theorem c5_20 : part5 20 = true := by decide +kernel
theorem c5_22 : part5 22 = true := by decide +kernel
theorem c5_24 : part5 24 = true := by decide +kernel
theorem c5_26 : part5 26 = true := by decide +kernel
theorem c5_28 : part5 28 = true := by decide +kernel
theorem c5_30 : part5 30 = true := by decide +kernel
theorem c5_32 : part5 32 = true := by decide +kernel
theorem c5_34 : part5 34 = true := by decide +kernel
theorem c5_36 : part5 36 = true := by decide +kernel
theorem c5_38 : part5 38 = true := by decide +kernel
theorem c5_40 : part5 40 = true := by decide +kernel
theorem len5 : (Tr.everyF 9 5 1).length = 42 := by rw [every_len]; decide +kernel
theorem in_part {α : Type} : ∀ (l : List α) (x : α), x ∈ l → l.length = 42 → ∃ j, j < 21 ∧ x ∈ (l.drop (2 * j)).take 2 := by
  intro l x hx hl
  obtain ⟨n, hn, e⟩ := List.mem_iff_getElem.mp hx
  refine ⟨n / 2, by omega, ?_⟩
  rw [List.mem_iff_getElem]
  refine ⟨n % 2, ?_, ?_⟩
  · rw [List.length_take, List.length_drop]; omega
  · rw [List.getElem_take, List.getElem_drop, ← e]
    congr 1
    omega
theorem c5_all : ∀ j, j < 21 → part5 (2 * j) = true
  | 0, _ => c5_0
  | 1, _ => c5_2
  | 2, _ => c5_4
  | 3, _ => c5_6
  | 4, _ => c5_8
  | 5, _ => c5_10
  | 6, _ => c5_12
  | 7, _ => c5_14
  | 8, _ => c5_16
  | 9, _ => c5_18
  | 10, _ => c5_20
  | 11, _ => c5_22
  | 12, _ => c5_24
  | 13, _ => c5_26
  | 14, _ => c5_28
  | 15, _ => c5_30
  | 16, _ => c5_32
  | 17, _ => c5_34
  | 18, _ => c5_36
  | 19, _ => c5_38
  | 20, _ => c5_40
  | j + 21, h => by omega
theorem c5 : allB 5 (fun _ => chk) = true := by
  unfold allB
  simp only [List.all_eq_true]
  intro t ht u hu
  obtain ⟨j, hj, hm⟩ := in_part _ t ht len5
  have := c5_all j hj
  unfold part5 at this
  simp only [List.all_eq_true] at this
  exact this t hm u hu
theorem chk_ok (r : Nat) (hr : r ≤ 5) (t u : Tr) (nt : Nm t 1 (1 + (r : Int))) (nu : Nm u 1 (1 + (r : Int))) : chk t u = true := by
  have ht : t ∈ Tr.everyF 9 r 1 := every_mem nt 9 r (by omega) (by omega)
  have hu : u ∈ Tr.everyF 9 r 1 := every_mem nu 9 r (by omega) (by omega)
  obtain rfl | rfl | rfl | rfl | rfl | rfl : r = 0 ∨ r = 1 ∨ r = 2 ∨ r = 3 ∨ r = 4 ∨ r = 5 := by omega
  · exact allB_ok c0 t ht u hu
  · exact allB_ok c1 t ht u hu
  · exact allB_ok c2 t ht u hu
  · exact allB_ok c3 t ht u hu
  · exact allB_ok c4 t ht u hu
  · exact allB_ok c5 t ht u hu
theorem hop_ (r : Nat) (hr : r ≤ 5) (t u : Tr) (nt : Nm t 1 (1 + (r : Int))) (nu : Nm u 1 (1 + (r : Int))) (q : leL t.rch u.rch = true) : hopO t u = true := by
  have := (ba (chk_ok r hr t u nt nu)).1
  rw [q] at this
  exact this
theorem due_ (r : Nat) (hr : r ≤ 5) (t u : Tr) (nt : Nm t 1 (1 + (r : Int))) (nu : Nm u 1 (1 + (r : Int))) (b : Nat) (S : Store) : run P2 isi0 WW 198 b 30 [t.d, u.d] S = .ok (dueD t u) S := by
  have := (ba (chk_ok r hr t u nt nu)).2
  split at this
  · rename_i d q
    have e := beqF_ok 4 _ _ this
    subst e
    exact vq_any ov2_ok pcf (fn := g30) rfl rfl (by simp [frees, Tr.free]) q b S
  · cases this
theorem plain (ns : List Int) (hn : ns.length ≤ 63) : ∃ S, run P isi0 WW (lv + 1) 0 lawId [.fzn (dI ns)] [] = .ok (.bl true) S := by
  refine law_hand_ok (P := P) (W := WW) (i_right := 32) (i_box := 13) (i_cells := 15) (i_hand := 31) (f := lawId) 3 86262 rfl rfl (by decide) (by decide) rfl (by decide) (by decide) (gr := g32) (gh := g31) rfl rfl rfl rfl lv (by decide) hand_ok (fun S b hb => ?_) ns hn
  rw [run_ren p2]
  obtain ⟨S', h, _⟩ := right22_ok oG oA.toLst oR (W := WW) (by decide) (i_h := 28) (i_d := 30) (f := 32) rfl (gd := g30) rfl rfl hop_ rfl 198 0 (by decide) due_ S b hb
  exact ⟨S', h⟩
end EV.K22
open PySem PySem.W PySem.Calls PyProof.Rows
theorem PySem.Challenge.cw_regroups_k22_fewest_and_most_steps_holds : PySem.Challenge.rw_regroups_k22_fewest_and_most_steps.Holds := by
  w_on; o_law
  refine HandSHeadRun.head_any (r := OpenLaw.row PySem.Challenge.rw_regroups_k22_fewest_and_most_steps) (q := view (OpenLaw.row PySem.Challenge.rw_regroups_k22_fewest_and_most_steps).prog [41]) (H := EV.K22.hk) (ob := EV.K22.ob) (M := 3000) (loose := EV.K22.names) (d := HandSHeadRun.topDef (OpenLaw.row PySem.Challenge.rw_regroups_k22_fewest_and_most_steps).prog 41) (kwd := []) EV.K22.ob_eq
    (by kernel_rfl) (fun s => by kernel_rfl) EV.K22.run_head (by kernel_rfl) (by kernel_rfl) (by kernel_rfl) (by rfl) (by first | assumption | decide +kernel) (by decide +kernel) ⟨rfl, rfl, rfl, rfl, rfl, by decide +kernel⟩ ?hw ?hc
  case hw => w_witness2
  case hc =>
    refine L2.walk_ofE (l := PySem.Challenge.rw_regroups_k22_fewest_and_most_steps) (n := 63) (k := EV.K22.lv + 1) (x := "_law_script") (CX := EV.CXF) rfl (by decide) (by kernel_rfl) ⟨rfl, by decide, by decide⟩ ?F (fun _ _ _ _ z => z)
    intro w mg fa h Y G hmg0
    obtain ⟨K, KX, c, cy⟩ := Y
    have hmg : mg ("law" : PySem.Str) = some (.ref fa) := by
      have e : (HandSHeadRun.topDef (OpenLaw.row PySem.Challenge.rw_regroups_k22_fewest_and_most_steps).prog 41).name = ("law" : PySem.Str) := by kernel_rfl
      rw [← e]
      exact hmg0
    obtain ⟨fd, hb, hF⟩ := EV.K22.facts EV.K22.plain (prog := (PySem.Challenge.rw_regroups_k22_fewest_and_most_steps).prog) (w := w) KX G hmg c cy
    exact ⟨K, fd, _, KX, hb, fun H a ns hl _ hS => ⟨a, ns, rfl, hl, hS, fun _ => rfl⟩, fun base _ _ => hF base⟩
