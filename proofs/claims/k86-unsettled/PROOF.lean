import PyProof.Rows.All
import Wide.All
import OpenK.AllK
import Wide.FinOn
import HandS.Base
import HandS.Text
import HandS.StrMore
import HandS.SortOrd
import KE.IntTextLaws
import KE.KIntText
import PyProof.EqAt
import PyProof.EqKinds
import PyProof.TupleCall
import HandS.Call
import HandS.Comp
import HandS.Exc
import HandS.ExcOwn
import HandS.TryMany
import HandS.ExcCtx
import HandS.List
import HandS.Ends
import HandS.TryOnly
import HandS.Hot
import HandS.HotCalls
import HandS.SuiteRaise
import HandS.RaiseFrom
import HandS.ExcInit
import PyProof.Rows.SortShell
import PyProof.Rows.SortRev
import PyProof.Rows.CallKwBuiltin
import PyProof.Rows.CallKw2
import PyProof.Rows.SortKeyStr
import PyProof.Rows.SortStr
import KE.KSortTup
import KE.KSortKey
import KE.KLam
import HandS.Dict
import HandS.Sort
import HandS.SortRule
import HandS.SortInts
import HandS.SortKw
import HandS.Lambda
import HandS.Words
import KE.GoesEnum
import HandS.ForMost
import HandS.Walk
import HandS.Defaults
import HandS.IsInst
import HandS.TupAny
import HandS.Conv
import HandS.More
import HandS.MakeKwOnly
import PyProof.StrLawsAffix
import PyProof.Rows.StrAscii
import HandS.Zip
import HandS.ClsMeth
import HandS.Head0
import HandS.Head1
import HandS.Head2
import HandS.HeadEnd
import HandS.HeadHook1
import HandS.HeadHook2
import HandS.HeadHook3
import HandS.HeadHook4
import HandS.HeadWalk
import HandS.EndTab
import HandS.ExcField
import Wide.Once
import Lean
import HandS.SetKeys
import HandS.ExcInitHot
import HandS.WordsExc
import HandS.Wide
import PySem.Challenge.RW_keysthroughtext_k86_whole_unsettled
set_option Elab.async false
set_option linter.all false
set_option autoImplicit false
set_option maxRecDepth 100000
set_option maxHeartbeats 0
/-! K86Math: what the program computes, as plain functions (the mirror). -/
namespace K86
open PySem L2

/-- a value -/
inductive PV where
  | non | bl (b : Bool) | int (i : Int) | str (x : Str)
  | row (t : Bool) (xs : List PV)
  | tab (es : List (Key × PV))
/-- a raw value -/
inductive RV where
  | non | bl (b : Bool) | int (i : Int) | str (x : Str)
  | row (xs : List RV)
  | tab (ps : List (Str × RV))

/-- the ten options, as texts -/
structure Opt where
  nk : Str
  tu : Str
  nu : Str
  dk : Str
  od : Str
  ln : Str
  sk : Str
  dn : Str
  li : Str
  ni : Str

abbrev txt (i : Int) : Str := Str.ofString (toString i)
def longI (i : Int) : Bool := decide (15 < (txt (if i < 0 then -i else i)).length)
def keyText : Key → Str
  | .inl i => txt i
  | .inr x => x
def isIntK : Key → Bool
  | .inl _ => true
  | .inr _ => false
def headC (x : Str) : Nat := x.cps.toList.headD 0
/-- is_digit_key of a text -/
def isDig (x : Str) : Bool :=
  (Txt.isdigit (Txt.removeprefix x "-") && decide ((Txt.removeprefix x "-").length ≤ 30)) &&
    (decide (x = "0") || decide (headC (Txt.removeprefix x "-") ≠ 48))
def builtKey (o : Opt) (x : Str) : Key := if (decide (o.dn = "number") && isDig x) = true then .inl ((intText? x).getD 0) else .inr x
def isNon : PV → Bool
  | .non => true
  | _ => false

/-! ### the writer -/
def keptL (o : Opt) : List (Key × PV) → Option (List (Key × PV))
  | [] => some []
  | (k, v) :: r =>
    if (isNon v && decide (o.nu = "skip")) = true then keptL o r
    else if (isIntK k && decide (o.nk = "refuse")) = true then none
    else if (!isIntK k || decide (o.nk = "text")) = true then (keptL o r).map fun l => (k, v) :: l
    else keptL o r
def ltT (x y : Str) : Bool := decide (x.cps.toList < y.cps.toList)
def ltE {α : Type} (p q : Key × α) : Bool := ltT (keyText p.1) (keyText q.1)
def ins {α : Type} (lt : α → α → Bool) (x : α) : List α → List α
  | [] => [x]
  | y :: r => if lt y x = true then y :: ins lt x r else x :: y :: r
def isort {α : Type} (lt : α → α → Bool) : List α → List α
  | [] => []
  | x :: r => ins lt x (isort lt r)
def keptM (o : Opt) (es : List (Key × PV)) : Option (List (Key × PV)) :=
  (keptL o es).map fun l => if o.od = "rising" then isort ltE l else l
def pairsM (f : PV → Option RV) (o : Opt) : List (Key × PV) → List Str → Option (List (Str × RV))
  | [], _ => some []
  | (k, v) :: r, seen =>
    if (decide (keyText k ∈ seen) && decide (o.dk = "refuse")) = true then none
    else match f v with
      | none => none
      | some rv => (pairsM f o r (keyText k :: seen)).map fun l => (keyText k, rv) :: l
def rowM {α β : Type} (f : α → Option β) : List α → Option (List β)
  | [] => some []
  | x :: r => match f x with
    | none => none
    | some y => (rowM f r).map fun l => y :: l
def rawM (o : Opt) : Nat → PV → Option RV
  | _, .non => some .non
  | _, .bl b => some (.bl b)
  | _, .str x => some (.str x)
  | _, .int i => if (longI i && !decide (o.ln = "keep")) = true then (if o.ln = "refuse" then none else some (.str (txt i))) else some (.int i)
  | 0, _ => none
  | n + 1, .row t xs => if (t && decide (o.tu = "refuse")) = true then none else (rowM (rawM o n) xs).map .row
  | n + 1, .tab es => (keptM o es).bind fun l => (pairsM (rawM o n) o l []).map .tab
/-! ### the reader -/
def hasK {α β : Type} [DecidableEq α] (l : List (α × β)) (k : α) : Bool := l.any fun p => decide (p.1 = k)
def putP {α β : Type} [DecidableEq α] (l : List (α × β)) (k : α) (v : β) : List (α × β) :=
  if hasK l k = true then l.map (fun p => if p.1 = k then (p.1, v) else p) else l ++ [(k, v)]
def foundM (f : RV → Option PV) (o : Opt) : List (Str × RV) → List (Str × PV) → Option (List (Str × PV))
  | [], acc => some acc
  | (nm, r) :: ps, acc =>
    if (hasK acc nm && decide (o.sk = "refuse")) = true then none
    else match f r with
      | none => none
      | some v => foundM f o ps (if (!hasK acc nm || decide (o.sk = "last")) = true then putP acc nm v else acc)
def tabOf (o : Opt) (found : List (Str × PV)) : List (Key × PV) :=
  (found.filter fun p => !isNon p.2 || decide (o.ni = "keep")).map fun p => (builtKey o p.1, p.2)
def buildM (o : Opt) : Nat → RV → Option PV
  | _, .non => some .non
  | _, .bl b => some (.bl b)
  | _, .str x => some (.str x)
  | _, .int i => some (.int i)
  | 0, _ => none
  | n + 1, .row xs => (rowM (buildM o n) xs).map (.row (decide (o.li = "tuple")))
  | n + 1, .tab ps => (foundM (buildM o n) o ps []).map fun l => .tab (tabOf o l)
def carryM (o : Opt) (n : Nat) (v : PV) : Option PV := (rawM o n v).bind (buildM o n)
/-- carried once more, it is refused or another -/
def changesM (o : Opt) (n : Nat) (v : PV) : Prop := ∃ w, carryM o n v = some w ∧ carryM o n w ≠ some w
/-! ### bounds -/
def ascii (x : Str) : Prop := ∀ c ∈ x.cps.toList, c < 128
def okT (x : Str) : Prop := ascii x ∧ x.length ≤ 300
def okI (i : Int) : Prop := i.natAbs < 10 ^ 40
def okK : Key → Prop
  | .inl i => okI i
  | .inr x => okT x
def okV : Nat → PV → Prop
  | _, .non => True
  | _, .bl _ => True
  | _, .int i => okI i
  | _, .str x => okT x
  | 0, _ => False
  | n + 1, .row _ xs => xs.length ≤ 60 ∧ ∀ x ∈ xs, okV n x
  | n + 1, .tab es => es.length ≤ 60 ∧ (es.map (·.1)).Nodup ∧ ∀ p ∈ es, okK p.1 ∧ okV n p.2
def okR : Nat → RV → Prop
  | _, .non => True
  | _, .bl _ => True
  | _, .int i => okI i
  | _, .str x => okT x
  | 0, _ => False
  | n + 1, .row xs => xs.length ≤ 60 ∧ ∀ x ∈ xs, okR n x
  | n + 1, .tab ps => ps.length ≤ 60 ∧ ∀ p ∈ ps, okT p.1 ∧ okR n p.2
mutual
def partsV : PV → Nat
  | .row _ xs => 1 + partsL xs
  | .tab es => 1 + partsE es
  | _ => 1
def partsL : List PV → Nat
  | [] => 0
  | x :: r => partsV x + partsL r
def partsE : List (Key × PV) → Nat
  | [] => 0
  | p :: r => partsP p + partsE r
def partsP : Key × PV → Nat
  | (_, v) => partsV v
end
end K86
/-! K86RuleComp: a list comprehension whose element may raise an exception that leaves the def (or meets the def's try). -/
namespace K86
open PySem PySem.Spec PyProof.Rows L2

/-- what the block of a comprehension ends with: its value, or an exception that is passed on over the frame of cenv -/
def CpX (M : Model) (A : Around) (E : Value → Shared → Prop) (use : Option (Value → Sem Unit)) (Q : Value → Shared → Prop) (acc : Value) (cenv : Env) (r : Result) (s' : Shared) : Prop :=
  match r, use with
  | .ok _, none => ∃ m, s'.heap.Ns cenv.locals m ∧ ∀ g, Heap.SameBut cenv.locals s'.heap g → Q acc { s' with heap := g }
  | .ok _, some u => wpAny M A (u acc) (fun _ t => ∃ m, t.heap.Ns cenv.locals m ∧ ∀ g, Heap.SameBut cenv.locals t.heap g → Q .none { t with heap := g }) E s'
  | .error x, _ => ∃ m, s'.heap.Ns cenv.locals m ∧ ∀ g, Heap.SameBut cenv.locals s'.heap g → wpAny M A (passOn "comprehension.variables-let-go" x cenv : Sem Value) (fun _ _ => False) E { s' with heap := g }

section
variable {M : Model} {A : Around} {E : Value → Shared → Prop} {s : Shared} {env : Env}
theorem comp_freeX {e : Expr} {scope : Scope} {pos : Pos} {newAcc first : Sem Value} {g : Comprehension} {gs : List Comprehension} {cl : List (Str × Addr)} {use : Option (Value → Sem Unit)} {Q : Value → Shared → Prop}
    (hcl : clausesOf e = g :: gs) (hs : ∀ x, foldedSetIterable g.iter env x = pure x) (hclos : closureFor scope env = pure cl)
    (hkind : scope.kind = .function) (hnames : ∀ x ∈ scope.names, x.2 = .local → scope.names.lookup x.1 = some .local)
    (h : wpAny M A first (fun x s1 => wpAny M A (pyIter x) (fun it s2 => wpAny M A newAcc (fun acc s3 =>
      wpAny M A (newFunctionEnv scope env.globals cl [] env.qual none .none (some env)) (fun ce s4 =>
        codeAny M A (.compStart e 0 it acc { ce with scope := relabel scope env }) (CpX M A E use Q acc { ce with scope := relabel scope env }) s4) E s3) E s2) E s1) E s) :
    wpAny M A (comprehension e scope env pos newAcc false first use) Q E s := by
  unfold comprehension
  rw [hclos, hcl]
  refine wpAny_bind (wpAny_mono h (fun x s1 h1 => ?_) fun _ _ z => z)
  refine wpAny_bind (wpAny_standAt (wpAny_bind (wpAny_of_eq (hs x) (wpAny_bind (wpAny_holding (wpAny_mono h1 (fun it s2 h2 => ?_) fun _ _ z => z))))))
  refine wpAny_standIf (wpAny_bind (wpAny_mono h2 (fun acc s3 h3 => ?_) fun _ _ z => z))
  refine wpAny_bind (wpAny_pure (wpAny_bind (wpAny_mono h3 (fun ce s4 h4 => ?_) fun _ _ z => z)))
  dsimp only
  have hv : ∀ x ∈ (scope.names.filter fun x => (x.2 == .local || x.2 == .cell) && x.1 != (".0" : Str)).reverse, x.2 = .local →
      Env.kindOf { ce with scope := relabel scope env } x.1 = some .local := fun x hx hl =>
    lookup_relabel_local (hnames x (List.mem_filter.mp (List.mem_reverse.mp hx)).1 hl)
  have hv2 : ∀ x ∈ (scope.names.filter fun x => (x.2 == .local || x.2 == .cell) && x.1 != (".0" : Str)).reverse.drop 1 ++ (scope.names.filter fun x => (x.2 == .local || x.2 == .cell) && x.1 != (".0" : Str)).reverse.take 1,
      x.2 = .local → Env.kindOf { ce with scope := relabel scope env } x.1 = some .local := fun x hx hl =>
    (List.mem_append.mp hx).elim (fun z => hv x (List.mem_of_mem_drop z) hl) (fun z => hv x (List.mem_of_mem_take z) hl)
  refine wpAny_holding (wpAny_bind (wpAny_attempt (wpAny_holding (wpAny_run (codeAny_mono h4 fun r t hr => ?_)))))
  rcases r with x | f
  · have hr2 : ∃ m, t.heap.Ns ce.locals m ∧ ∀ g, Heap.SameBut ce.locals t.heap g → wpAny M A (passOn "comprehension.variables-let-go" x { ce with scope := relabel scope env } : Sem Value) (fun _ _ => False) E { t with heap := g } := by
      cases use <;> exact hr
    obtain ⟨m, hn, hg⟩ := hr2
    exact wpAny_bind (wpAny_holding (wpAny_comp_letGo (cenv := { ce with scope := relabel scope env }) hkind _ t m hv hn fun g m' _ sb => wpAny_mono (hg g sb) (fun _ _ z => z.elim) fun _ _ z => z))
  · cases use with
    | none =>
      obtain ⟨m, hn, hg⟩ := hr
      exact wpAny_bind (wpAny_holding (wpAny_comp_letGo (cenv := { ce with scope := relabel scope env }) hkind _ t m hv hn fun g m' _ sb => wpAny_pure (hg g sb)))
    | some u =>
      refine wpAny_bind (wpAny_rule (wpAny_bind (wpAny_holding (wpAny_mono hr (fun _ t2 h5 => ?_) fun _ _ z => z))))
      obtain ⟨m, hn, hg⟩ := h5
      exact wpAny_bind (wpAny_comp_letGo (cenv := { ce with scope := relabel scope env }) hkind _ t2 m hv2 hn fun g m' _ sb => wpAny_pure (hg g sb))
end

/-! ### an exception that flies over the callers of a block -/
/-- as XE, but in flight (a call let it out): l the frames -/
def Fly (X : Cx) (E : XK) (u : Value) (s' : Shared) : Prop :=
  ∃ (a : Addr) (B : Heap) (sI : Shared) (pins : List (Addr × Obj)) (σ : L2.St) (H : Hp) (cls : Value) (d : Option Addr),
    u = .ref a ∧ Inv X pins σ H sI ∧ (∀ b o, sI.heap.get? b = some o → b ∉ frs X.stack → B.get? b = some o) ∧ sI.heap.UpToSlots s'.heap ∧
      HandSPX.FlyingZ B X.stack a (L2N.Zn cls d) s'.heap ∧ H a = none ∧ s'.os = sI.os ∧ AllBare s'.gens ∧ E cls d H
theorem Fly.of_call {X : Cx} {pins : List (Addr × Obj)} {σ : L2.St} {H : Hp} {s s' : Shared} {E : XK} {u : Value} (I : Inv X pins σ H s) (c : L2N.CX X.prog X.w X.stack H s E u s') : Fly X E u s' := by
  obtain ⟨a, B, H', cls, d, rfl, fl, hok, ub, na, os, ag, hE⟩ := c
  have st : B.StaysIn s'.heap := fl.1
  obtain ⟨G, g1, g2⟩ := restrict s'.heap fun b => (B.get? b).isSome || decide (b ∈ frs X.stack)
  have gB : ∀ b o, B.get? b = some o → G.get? b = some o := fun b o e => (g1 b (by simp [e])).trans (st b o e)
  have gF : ∀ b, b ∈ frs X.stack → G.get? b = s'.heap.get? b := fun b hb => g1 b (by simp [hb])
  have og : ∀ b o, G.get? b = some o → s'.heap.get? b = some o ∧ ((B.get? b).isSome = true ∨ b ∈ frs X.stack) := fun b o e => by
    cases q : ((B.get? b).isSome || decide (b ∈ frs X.stack)) with
    | false =>
      rw [g2 b q] at e
      cases e
    | true =>
      refine ⟨(g1 b q).symm.trans e, ?_⟩
      simpa [Bool.or_eq_true] using q
  refine ⟨a, B, { s with heap := G, gens := s'.gens, drawn := s'.drawn, toks := s'.toks }, pins, σ, H', cls, d, rfl, ?_, fun b o e hb => ?_, Heap.UpToSlots.of_keeps fun b o e => (og b o e).1, fl, na, os, ag, hE⟩
  · refine I.call (ch := []) ⟨fun b o e n hb _ => gB b o (ub.keep b o e n hb), fun b o e n hb _ => ?_, fun b o e n _ => ub.free b o e n, fun b o e _ => ?_, ub.tups, ub.frzs, ub.tbls⟩ (hok.kept gB) ag (fun _ z => nomatch z)
    · obtain ⟨sl, q⟩ := ub.slot b o e hb
      exact ⟨sl, (gF b hb).trans q⟩
    · by_cases hb : b ∈ frs X.stack
      · obtain ⟨sl, q⟩ := ub.slot b o e hb
        exact ⟨_, (gF b hb).trans q⟩
      · obtain ⟨o', q⟩ := ub.there b o e hb
        exact ⟨o', gB b o' q⟩
  · obtain ⟨e', z⟩ := og b o e
    rcases z with z | z
    · obtain ⟨o', q⟩ := Option.isSome_iff_exists.mp z
      have y := st b o' q
      rw [e'] at y
      cases y
      exact q
    · exact absurd z hb

/-- the context of a block whose element may raise -/
abbrev blkX (X : Cx) (s : Shared) (H : Hp) (scope : Scope) (cenv : Env) (fp : List Addr) (xe : Value → Shared → Prop) : Cx := { X.blk s H scope cenv fp with xe := xe }
theorem toX {X : Cx} {s : Shared} {H : Hp} {scope : Scope} {cenv : Env} {fp : List Addr} {xe : Value → Shared → Prop} {pins : List (Addr × Obj)} {σ : L2.St} {H' : Hp} {s' : Shared} (I : Inv (X.blk s H scope cenv fp) pins σ H' s') : Inv (blkX X s H scope cenv fp xe) pins σ H' s' :=
  ⟨⟨I.ok.mod, I.ok.kind, I.ok.glob, I.ok.blt, I.ok.above, I.ok.inj, I.ok.has, I.ok.cab, I.ok.hd, I.ok.frames, I.ok.stk, I.ok.exf, I.ok.bs, I.ok.bsz, I.ok.noex, I.ok.exfs, I.ok.funs, I.ok.frf⟩, I.os, I.bare, I.base, I.loc, I.cell, I.free, I.freeC, I.pin, I.hok, I.len⟩
theorem ofX {X : Cx} {s : Shared} {H : Hp} {scope : Scope} {cenv : Env} {fp : List Addr} {xe : Value → Shared → Prop} {pins : List (Addr × Obj)} {σ : L2.St} {H' : Hp} {s' : Shared} (I : Inv (blkX X s H scope cenv fp xe) pins σ H' s') : Inv (X.blk s H scope cenv fp) pins σ H' s' :=
  ⟨⟨I.ok.mod, I.ok.kind, I.ok.glob, I.ok.blt, I.ok.above, I.ok.inj, I.ok.has, I.ok.cab, I.ok.hd, I.ok.frames, I.ok.stk, I.ok.exf, I.ok.bs, I.ok.bsz, I.ok.noex, I.ok.exfs, I.ok.funs, I.ok.frf⟩, I.os, I.bare, I.base, I.loc, I.cell, I.free, I.freeC, I.pin, I.hok, I.len⟩

/-- the wish of a block: an exception of a call that flies over X's frames -/
abbrev BX (X : Cx) (s : Shared) (H : Hp) (scope : Scope) (cenv : Env) (fp : List Addr) (E : XK) : Value → Shared → Prop := Fly (X.blk s H scope cenv fp) E
theorem passes_blk {X : Cx} {s : Shared} {H : Hp} {scope : Scope} {cenv : Env} {fp : List Addr} {E : XK} : Passes (L2N.CX X.prog X.w) (blkX X s H scope cenv fp (BX X s H scope cenv fp E)) E :=
  fun pins σ H' s1 e s2 I c => Fly.of_call (X := X.blk s H scope cenv fp) (ofX I) c

theorem ff_keep {base h h' : Heap} : ∀ {l : List Env}, h.FunFrames base l → (∀ L ∈ frs l, h'.get? L = h.get? L) → h'.FunFrames base l
  | [], _, _ => trivial
  | env :: l, ⟨hk, ⟨L, o, hf, hn, ho, hd⟩, hr⟩, k => by
    have m : ∀ L, L ∈ frs l → L ∈ frs (env :: l) := fun L hL => by
      obtain ⟨e, he, q⟩ := List.mem_filterMap.mp hL
      exact List.mem_filterMap.mpr ⟨e, List.mem_cons_of_mem _ he, q⟩
    exact ⟨hk, ⟨L, o, hf, hn, (k L (List.mem_filterMap.mpr ⟨env, List.mem_cons_self, hf⟩)).trans ho, hd⟩, ff_keep hr fun L hL => k L (m L hL)⟩
/-- the exception leaves the block: noted by the def's frame, the block's variables let go, passed on -/
theorem fly_out {X : Cx} {W : WX} {s3 : Shared} {H3 : Hp} {scope : Scope} {cenv : Env} {fp : List Addr} {pins : List (Addr × Obj)} {σ : L2.St} {E : XK} {u : Value} {s' : Shared} {use : Option (Value → Sem Unit)} {Qf : Value → Shared → Prop} {acc : Value}
    (hst : X.stack = X.env :: X.outer) (hf : X.env.frame = some X.env.locals) (tk : L2N.Takes X W) (I3 : Inv X pins σ H3 s3) (hC : cenv.locals = s3.heap.objs.size) (hcf : cenv.frame = X.env.frame)
    (hfp : ∀ b ∈ fp, FpOk X pins H3 b) (hE : ∀ cls d H', E cls d H' → W cls d σ H') (x : Fly (X.blk s3 H3 scope cenv fp) E u s') :
    notedBy (model X.prog X.w) X.A cenv (fun e s' => CpX (model X.prog X.w) X.A X.xe use Qf acc cenv (.error e) s') u s' := by
  obtain ⟨a, B, sI, pb, σb, H', cls, d, rfl, J, nb, up, fl, na, os, ag, hw⟩ := x
  have hfr : X.A.frames = some (X.env :: X.outer) := by rw [I3.ok.frames, hst]
  have fl' : HandSPX.FlyingZ B (X.env :: X.outer) a (L2N.Zn cls d) s'.heap := by rw [← hst]; exact fl
  -- back in the def's context, the block's own dict still there
  have I7 : Inv X pins σ H' sI := I3.call' (ch := fp) J.os J.base J.hok J.bare fun b hb => ⟨(hfp b hb).2.2.2.1, (hfp b hb).2.1, (hfp b hb).2.2.2.2.1, (hfp b hb).2.2.2.2.2⟩
  have nC : H' s3.heap.objs.size = none := by
    have z : H' cenv.locals = none := J.free
    rw [hC] at z
    exact z
  have fC : FpOk X pins H' s3.heap.objs.size := I3.fpOk (Nat.le_refl _) nC
  obtain ⟨m, hn, _⟩ := J.loc
  have hn : sI.heap.Ns s3.heap.objs.size m := by
    have z : sI.heap.Ns cenv.locals m := hn
    rw [hC] at z
    exact z
  have CnF : s3.heap.objs.size ∉ frs X.stack := fun z => by
    rcases List.mem_cons.mp (I3.stkSub _ z) with z | z
    · exact fC.2.1 z
    · exact fC.2.2.1 z
  show wpAny _ X.A (noteFrame (.ref a) cenv) _ _ s'
  have en : noteFrame (.ref a) cenv = noteFrame (.ref a) X.env := by
    unfold noteFrame
    rw [hcf]
    unfold PySem.frameOf
    rw [hcf]
  rw [en]
  refine PXN.looks_onZ L2N.Zn.steady hfr hf fl' fun h1 held up1 => ?_
  have up2 : sI.heap.UpToSlots h1 := up.trans up1
  have hn1 : h1.Ns s3.heap.objs.size m := up2.ns hn
  show ∃ m, _ ∧ _
  rw [hC]
  refine ⟨m, hn1, fun g sb => ?_⟩
  obtain ⟨oC, esC, epC, hoC, hdC, _⟩ := id hn1
  -- the ground without the block's dict
  obtain ⟨B', b1, b2⟩ := restrict B fun b => decide (b ≠ s3.heap.objs.size)
  obtain ⟨G, g1, g2⟩ := restrict sI.heap fun b => decide (b ≠ s3.heap.objs.size)
  have bB : ∀ b o, B'.get? b = some o → B.get? b = some o ∧ b ≠ s3.heap.objs.size := fun b o e => by
    by_cases hb : b = s3.heap.objs.size
    · rw [b2 b (by simp [hb])] at e
      cases e
    · rw [b1 b (by simp [hb])] at e
      exact ⟨e, hb⟩
  have gG : ∀ b o, G.get? b = some o → sI.heap.get? b = some o ∧ b ≠ s3.heap.objs.size := fun b o e => by
    by_cases hb : b = s3.heap.objs.size
    · rw [g2 b (by simp [hb])] at e
      cases e
    · rw [g1 b (by simp [hb])] at e
      exact ⟨e, hb⟩
  obtain ⟨f0, f1, f2, f3, f4, f5⟩ := fC
  have I8 : Inv X pins σ H' { sI with heap := G, toks := sI.toks } := I7.turned (t' := sI.toks) (fun b o hb e => (g1 b (by simp [hb])).trans e) f0 f1 f3 f4 f5
  obtain ⟨k1, k2, k3, oe, vs, T, oT, ts, he, hz, hd, hv1, hnT, hTe, hT, hdT, h3⟩ := held
  have aC : a ≠ s3.heap.objs.size := fun z => by
    rw [z, hoC] at he
    cases he
    rw [hdC] at hd
    cases hd
  have TC : T ≠ s3.heap.objs.size := fun z => by
    rw [z, hoC] at hT
    cases hT
    rw [hdC] at hdT
    cases hdT
  have bnone : ∀ b, B.get? b = none → B'.get? b = none := fun b e => by
    cases q : B'.get? b with
    | none => rfl
    | some o => rw [(bB b o q).1] at e; cases e
  have ff : g.FunFrames B' (X.env :: X.outer) := by
    refine funFrames_none (base := B) (ff_keep k3 fun L hL => ?_) fun L hL => bnone L (k3.mem hL).1
    refine sb.2 L fun z => CnF ?_
    rw [← z, hst]
    exact hL
  have held2 : HandSPX.HeldZ B' (X.env :: X.outer) a (L2N.Zn cls d) X.env.locals g :=
    ⟨fun b o e => (sb.2 b (bB b o e).2).trans (k1 b o (bB b o e).1), bnone a k2, ff, oe, vs, T, oT, ts, (sb.2 a aC).trans he, hz, hd, hv1, bnone T hnT, hTe, (sb.2 T TC).trans hT, hdT, h3⟩
  have up3 : G.UpToSlots g := fun b o e hnf => by
    obtain ⟨e1, hb⟩ := gG b o e
    obtain ⟨sl, e2⟩ := up2 b o e1 hnf
    exact ⟨sl, (sb.2 b hb).trans e2⟩
  have nb3 : ∀ b o, G.get? b = some o → b ∉ frs X.stack → B'.get? b = some o := fun b o e hb => by
    obtain ⟨e1, hbC⟩ := gG b o e
    exact (b1 b (by simp [hbC])).trans (nb b o e1 hb)
  unfold PySem.passOn
  refine wpAny_bind (wpAny_field ((sb.2 a aC).trans he) hd hv1 ?_)
  rw [if_neg (show ¬ ((Value.ref T == Value.none) = true) from by simp)]
  have fin : wpAny (model X.prog X.w) X.A (setFlight (.ref a) cenv.frame) (fun _ s4 => wpAny (model X.prog X.w) X.A (throw (.ref a) : Sem Value) (fun _ _ => False) X.xe s4) X.xe { s' with heap := g } := by
    rw [hcf, hf]
    refine HandSPX.setFlight_onZ held2 fun h4 hh4 up4 => wpAny_throw (tk _ _ ?_)
    exact ⟨a, B', _, pins, σ, H', cls, d, rfl, I8, nb3, up3.trans up4, .inr (.inr (by rw [hst]; exact hh4)), na, os, ag, hE _ _ _ hw⟩
  first
    | exact wpAny_bind (wpAny_pure (wpAny_bind fin))
    | exact wpAny_bind fin

/-! ### the rules -/
/-- what the block asks of its parts, in the block's own context -/
structure BlkP (X : Cx) (scope : Scope) (tg elt : Expr) (ifs : List Expr) (g : TG) (tt : TT) (te : XK → TE) : Prop where
  tg : ∀ (s : Shared) (H : Hp) (C : Addr) (cl : List (Str × Addr)) (fp : List Addr) (xe : Value → Shared → Prop), PG (blkX X s H scope (compEnvC scope cl C X.env) fp xe) tg g
  ts : ∀ (s : Shared) (H : Hp) (C : Addr) (cl : List (Str × Addr)) (fp : List Addr) (xe : Value → Shared → Prop), PTs (blkX X s H scope (compEnvC scope cl C X.env) fp xe) ifs tt
  el : ∀ (s : Shared) (H : Hp) (C : Addr) (cl : List (Str × Addr)) (fp : List Addr) (xe : Value → Shared → Prop) (E : XK), Passes (L2N.CX X.prog X.w) (blkX X s H scope (compEnvC scope cl C X.env) fp xe) E →
    PE (blkX X s H scope (compEnvC scope cl C X.env) fp xe) elt (te E)
def tLcX (wi : TI) (g : TG) (tt : TT) (te : XK → TE) (vs : List Nat) (W : WX) : TE := fun σ H Q => tLc wi g tt (te fun cls d H' => W cls d σ H') vs σ H Q
section
variable {X : Cx} {W : WX}
theorem lcX_core {pins : List (Addr × Obj)} {s : Shared} {σ : L2.St} {H : Hp} {Q : VK} {elt tg iter : Expr} {ifs : List Expr} {scope : Scope} {own : List (Str × Nat)} {pos pos' : Pos} {wi : TI} {g : TG} {tt : TT} {te : XK → TE} {use : Option (Value → Sem Unit)} {Qf : Value → Shared → Prop}
    (hst : X.stack = X.env :: X.outer) (hf : X.env.frame = some X.env.locals) (tk : L2N.Takes X W) (hc : X.calm = true) (hN : X.N.Nodup) (I : Inv X pins σ H s) (hi : PI X tg iter wi) (ok : BlkOk X.N X.env.scope scope own)
    (hb : BlkP X scope tg elt ifs g tt te) (hs : ∀ x, foldedSetIterable iter X.env x = pure x) (h : tLcX wi g tt te (own.map (·.2)) W σ H Q)
    (hRR : ∀ D (ce : Env) s' m H', Inv X pins σ H' s' → Q (.ref D) H' → s'.heap.Ns ce.locals m → FpOk X pins H' ce.locals → CpX (model X.prog X.w) X.A X.xe use Qf (.ref D) ce (.ok .next) s') :
    wpAny (model X.prog X.w) X.A (comprehension (.ListComp elt [⟨tg, iter, ifs, 0⟩] scope pos) scope X.env pos' (newList []) false (eval iter X.env) use) Qf X.xe s := by
  have hfree : ∀ y ∈ scope.names, y.2 = .free → ∃ c, X.env.cells.lookup y.1 = some c := fun y hy e => (ok.free y hy e).elim (fun k => I.ok.has _ (.inl k)) (fun k => I.ok.has _ (.inr k))
  refine comp_freeX (use := use) rfl hs (closure_ok hfree) ok.kind (fun y hy e => by rw [ok.uniq y hy, e]) (thn (hi.run pins s σ H _ I h) fun xv s1 hx => thn hx fun itv s2 h2 => ?_)
  obtain ⟨it, fp, tn, J, H2, rfl, I2, T, st2, f2, q⟩ := h2
  refine wpAny_newObj_type (newEnv_comp ?_) (by show 0 ≤ sizeLine; decide)
  generalize hD : s2.heap.objs.size = D
  have hDn : H2 D = none := I2.hok.fresh (Nat.le_of_eq hD)
  obtain ⟨Wt, ⟨m0, w0⟩, turn⟩ := q D hDn
  generalize hs3 : ({ s2 with heap := s2.heap.push { cls := .type "list", data := .seq ([] : List Value).toArray } } : Shared) = s3
  have h3 : s3.heap = s2.heap.push { cls := .type "list", data := .seq ([] : List Value).toArray } := by rw [← hs3]
  have I3 : Inv X pins σ (upd H2 D (.lst [])) s3 := by
    rw [← hs3]
    refine I2.laid (t' := s2.toks) (fun b o e => Heap.get?_push_of_some _ e) (Nat.le_of_eq hD) ⟨Nat.zero_le _, [], 0, .nil, ?_⟩
    rw [← hD]
    exact Heap.get?_push_size _ rfl
  have sz : ∀ b ∈ fp, b < s2.heap.objs.size := fun b hb => let ⟨_, e, _⟩ := T.obj _ _ st2 b hb; Heap.lt_size e
  have f3 : ∀ b ∈ fp, FpOk X pins (upd H2 D (.lst [])) b ∧ b < s3.heap.objs.size := fun b hb => by
    have hlt := sz b hb
    refine ⟨⟨(upd_ne (by rw [← hD]; exact Nat.ne_of_lt hlt)).trans (f2 b hb).1, (f2 b hb).2⟩, ?_⟩
    rw [h3, Heap.size_push]
    exact Nat.lt_succ_of_lt hlt
  have st3 : tn 0 s3.heap := T.keep _ _ _ st2 fun b _ o e => by
    rw [h3]
    exact Heap.get?_push_of_some _ e
  have I4 := block_start I3 ok hN f3
  show codeAny _ _ (.compStart (.ListComp elt [⟨tg, iter, ifs, 0⟩] scope pos) 0 (.ref it) (.ref D) (compEnvC scope (cellsFrom (s3.heap.objs.size + 1) scope.names (cloFrom X.env.cells scope.names [])) s3.heap.objs.size X.env))
    (CpX (model X.prog X.w) X.A X.xe use Qf (.ref D) (compEnvC scope (cellsFrom (s3.heap.objs.size + 1) scope.names (cloFrom X.env.cells scope.names [])) s3.heap.objs.size X.env)) { s3 with heap := pushCells (s3.heap.push { cls := .type "dict", data := .dict #[] }) scope.names }
  have pg := fun xe => hb.tg s3 (upd H2 D (.lst [])) s3.heap.objs.size (cellsFrom (s3.heap.objs.size + 1) scope.names (cloFrom X.env.cells scope.names [])) fp xe
  have pt := fun xe => hb.ts s3 (upd H2 D (.lst [])) s3.heap.objs.size (cellsFrom (s3.heap.objs.size + 1) scope.names (cloFrom X.env.cells scope.names [])) fp xe
  have pe := fun xe E => hb.el s3 (upd H2 D (.lst [])) s3.heap.objs.size (cellsFrom (s3.heap.objs.size + 1) scope.names (cloFrom X.env.cells scope.names [])) fp xe E
  have nfp : ∀ b ∈ fp, (upd H2 D (.lst [])) b = none := fun b hb => (f3 b hb).1.1
  have cF : (compEnvC scope (cellsFrom (s3.heap.objs.size + 1) scope.names (cloFrom X.env.cells scope.names [])) s3.heap.objs.size X.env).frame = X.env.frame := rfl
  have cL : (compEnvC scope (cellsFrom (s3.heap.objs.size + 1) scope.names (cloFrom X.env.cells scope.names [])) s3.heap.objs.size X.env).locals = s3.heap.objs.size := rfl
  generalize hce : compEnvC scope (cellsFrom (s3.heap.objs.size + 1) scope.names (cloFrom X.env.cells scope.names [])) s3.heap.objs.size X.env = ce at I4 pg pt pe cF cL ⊢
  generalize hH3 : upd H2 D (.lst []) = H3 at I3 I4 pg pt pe w0 nfp f3
  generalize hs4 : ({ s3 with heap := pushCells (s3.heap.push { cls := .type "dict", data := .dict #[] }) scope.names } : Shared) = s4 at I4 ⊢
  have st4 : tn 0 s4.heap := T.keep _ _ _ st3 fun b _ o e => by
    rw [← hs4]
    exact pushCells_keeps _ _ _ _ (Heap.get?_push_of_some _ e)
  -- the wish of the block
  let xeB : Value → Shared → Prop := BX X s3 H3 scope ce fp (fun cls d H' => W cls d σ H')
  have out : ∀ e s', xeB e s' → notedBy (model X.prog X.w) X.A ce (fun e s' => CpX (model X.prog X.w) X.A X.xe use Qf (.ref D) ce (.error e) s') e s' := fun e s' z =>
    fly_out hst hf tk I3 cL cF (fun b hb => (f3 b hb).1) (fun _ _ _ z => z) z
  have stat : ∀ {σ' : L2.St} {H' : Hp} {s' : Shared}, Inv (blkX X s3 H3 scope ce fp xeB) [] σ' H' s' → (∀ b ∈ fp, H' b = none) → ∀ b ∈ fp, FpOk (blkX X s3 H3 scope ce fp xeB) [] H' b := fun {σ' H' s'} I' hn b hb =>
    ⟨hn b hb, (I'.ok.exf b hb).1, I'.ok.exfs b hb, .inl hb, fun x c e => (I'.ok.exf b hb).2 x c e, fun p hp => absurd (show p ∈ ([] : List (Addr × Obj)) ++ [] from hp) (by simp)⟩
  have loop : codeAny (model X.prog X.w) X.A (.compLoop (.ListComp elt [⟨tg, iter, ifs, 0⟩] scope pos) 0 (.ref it) (.ref D) ce) (CpX (model X.prog X.w) X.A X.xe use Qf (.ref D) ce) s4 := by
    refine compLoop_any (fun n s' => ∃ i H', Inv (blkX X s3 H3 scope ce fp xeB) [] (wipe σ (own.map (·.2))) H' s' ∧ tn i s'.heap ∧ (∀ b ∈ fp, H' b = none) ∧ Wt i n H') ?_ m0 ⟨0, H3, toX I4, st4, nfp, w0⟩
    rintro n s5 ⟨i, H5, I5, st5, n5, w5⟩
    rcases turn i n H5 w5 with ⟨stop, qq⟩ | ⟨go, Nx, hNx, step⟩
    · have td := T.done (blkX X s3 H3 scope ce fp xeB) rfl rfl rfl hc i [] s5 _ H5 (fun _ _ => False) I5 (stat I5 n5) st5 stop
      refine thnF td fun r s6 ⟨hr, I6⟩ => ?_
      subst hr
      have I7 : Inv X pins σ H5 s6 := I3.call' (ch := fp) I6.os I6.base I6.hok I6.bare fun b hb => ⟨(f3 b hb).1.2.2.2.1, (f3 b hb).1.2.1, (f3 b hb).1.2.2.2.2.1, (f3 b hb).1.2.2.2.2.2⟩
      obtain ⟨m, hn, _⟩ := I6.loc
      have nC : H5 ce.locals = none := I6.free
      exact hRR D ce s6 m H5 I7 qq hn (I3.fpOk (Nat.le_of_eq cL.symm) nC)
    · have ti := T.item (blkX X s3 H3 scope ce fp xeB) rfl rfl rfl hc i [] s5 _ H5 (fun _ _ => False) I5 (stat I5 n5) st5 go
      refine thnF ti fun r s6 ⟨u, hr, h6⟩ => ?_
      subst hr
      refine thnF h6 fun _ s7 ⟨x, H7, I7, r7, y7, st7, n7⟩ => ?_
      have I7' := I7.pinned (stat I7 n7) (T.obj _ _ st7)
      refine wpAny_mono ((pg xeB).run _ s7 _ H7 x u _ I7' r7 (step x H7 y7)) (fun _ s8 ⟨σ8, H8, I8, hw8, q8⟩ => ?_) out
      refine wpAny_mono ((pt xeB).run _ s8 σ8 H8 _ I8 q8) (fun b s9 ⟨H9, I9, q9⟩ => ?_) out
      have fin : ∀ {s' : Shared} {H' : Hp}, Inv (blkX X s3 H3 scope ce fp xeB) ([] ++ pinsAt fp s7.heap) σ8 H' s' → Nx H' → ∃ m, m < n ∧ ∃ i H', Inv (blkX X s3 H3 scope ce fp xeB) [] (wipe σ (own.map (·.2))) H' s' ∧ tn i s'.heap ∧ (∀ b ∈ fp, H' b = none) ∧ Wt i m H' := fun {s' H'} I' nx => by
        obtain ⟨m', hm, w'⟩ := hNx H' nx
        have pin' : ∀ b ∈ fp, ∀ o, s7.heap.get? b = some o → s'.heap.get? b = some o ∧ H' b = none := fun b hb o e =>
          let z := I'.pin (b, o) (List.mem_append_right _ (List.mem_append_right _ (mem_pinsAt hb e)))
          ⟨z.1, z.2.1⟩
        refine ⟨m', hm, i + 1, H', (I'.unpinned (pins := [])).weak (by rw [← hw8, wipe_length]) (fun j v e => ?_), T.keep _ _ _ st7 fun b hb o e => (pin' b hb o e).1, fun b hb => ?_, w'⟩
        · rw [← hw8] at e
          exact (wipe_some e).1
        · obtain ⟨o, e, _⟩ := T.obj _ _ st7 b hb
          exact (pin' b hb o e).2
      cases b with
      | false =>
        simp only [Bool.false_eq_true, if_false] at q9 ⊢
        exact fin I9 q9
      | true =>
        simp only [if_true] at q9 ⊢
        refine wpAny_mono ((pe xeB _ (passes_blk (X := X))).run _ s9 σ8 H9 _ I9 q9) (fun z s10 ⟨yv, H10, I10, r10, acc, hD10, hz10, nx⟩ => ?_) out
        exact app_ok (X := blkX X s3 H3 scope ce fp xeB) I10 hD10 hz10 r10 fun s11 I11 => fin I11 nx
  exact codeAny_compStart_list loop (T.self X.A 0 _ _ _ st4 loop)
/-- as a value -/
theorem pe_lcX {elt tg iter : Expr} {ifs : List Expr} {scope : Scope} {own : List (Str × Nat)} {pos : Pos} {wi : TI} {g : TG} {tt : TT} {te : XK → TE} (hst : X.stack = X.env :: X.outer) (hf : X.env.frame = some X.env.locals) (tk : L2N.Takes X W) (hc : X.calm = true) (hN : X.N.Nodup)
    (hi : PI X tg iter wi) (ok : BlkOk X.N X.env.scope scope own) (hb : BlkP X scope tg elt ifs g tt te) (hs : ∀ x, foldedSetIterable iter X.env x = pure x := by intro _; rfl) :
    PE X (.ListComp elt [⟨tg, iter, ifs, 0⟩] scope pos) (tLcX wi g tt te (own.map (·.2)) W) := by
  refine ⟨fun pins s σ H Q I h => ?_⟩
  rw [eval_ListComp]
  refine lcX_core hst hf tk hc hN I hi ok hb hs h fun D ce s' m H' I' q hn f => ⟨m, hn, fun g sb => ?_⟩
  obtain ⟨f0, f1, f2, f3, f4, f5⟩ := f
  exact ⟨.ref D, H', I'.turned (t' := s'.toks) (fun b o hb e => (sb.2 b hb).trans e) f0 f1 f3 f4 f5, rfl, q⟩
/-- name = [..] on one line, the name a local -/
theorem ps_setLcX {i : Nat} {y : Str} {py : Pos} {elt tg iter : Expr} {ifs : List Expr} {scope : Scope} {own : List (Str × Nat)} {pos spos : Pos} {wi : TI} {g : TG} {tt : TT} {te : XK → TE} (hst : X.stack = X.env :: X.outer) (hf : X.env.frame = some X.env.locals) (tk : L2N.Takes X W) (hc : X.calm = true) (hN : X.N.Nodup)
    (hy : X.N[i]? = some y) (hyl : X.env.scope.names.lookup y = some .local) (hsw : swapsWith (.ListComp elt [⟨tg, iter, ifs, 0⟩] scope pos) (some (.Name y py)) spos.line X.env = pure true)
    (hi : PI X tg iter wi) (ok : BlkOk X.N X.env.scope scope own) (hb : BlkP X scope tg elt ifs g tt te) (hs : ∀ x, foldedSetIterable iter X.env x = pure x := by intro _; rfl) :
    PS X (.Assign [.Name y py] (.ListComp elt [⟨tg, iter, ifs, 0⟩] scope pos) spos) (tAsg (tLcX wi g tt te (own.map (·.2)) W) (gName i)) := by
  refine ⟨fun pins s σ H D I h => ?_⟩
  rw [exec_Assign_Name_used _ _ _ _ hsw]
  refine wpAny_bind (wpAny_standAt (wpAny_bind ?_))
  show wpAny _ X.A (do let _ ← comprehension (.ListComp elt [⟨tg, iter, ifs, 0⟩] scope pos) scope X.env (firstIterPos [⟨tg, iter, ifs, 0⟩] pos) (newList []) false (eval iter X.env) (some (assign (.Name y py) X.env))) _ _ s
  have h : tLcX wi g tt te (own.map (·.2)) W σ H (fun x H1 => gName i x σ H1 D.nx) := h
  refine wpAny_bind (thn (lcX_core (Qf := fun _ s' => SP X pins D .next s') hst hf tk hc hN I hi ok hb hs h fun L ce s' m H' I' q hn f => ?_) fun _ s' hq => wpAny_pure (wpAny_pure hq))
  show wpAny _ _ (assign (.Name y py) X.env (.ref L)) _ _ _
  refine wpAny_assign_Name (store_ok2 (v := V.ref L) I' hN hy (.inl hyl) rfl (fun s2 I2 ⟨a, sb, ha⟩ => ?_) (.inr hyl))
  obtain ⟨f0, f1, f2, f3, f4, f5⟩ := f
  have haC : ce.locals ≠ a := by
    rcases ha with z | z
    · rw [z]
      exact f1
    · exact fun e => f4 y a z e.symm
  refine ⟨m, hn.sameBut sb haC, fun h3 sb3 => ?_⟩
  exact ⟨_, H', I2.turned (t' := s2.toks) (fun b o hb e => (sb3.2 b hb).trans e) f0 f1 f3 f4 f5, q⟩
end
end K86
/-! K86RuleTry: raise X(..) where nothing is handled, its context told; try .. except C as n: raise X(..) from n. -/
namespace K86
open PySem PySem.Spec PyProof.Rows L2 HotX L2H

/-! ### an own exception made where nothing is handled -/
theorem pmkN_oex {X : Cx} {CX : CXT} {x : Str} {e : Expr} {es : List Expr} {ta : TA} {p pos : Pos} {C fI : Addr} {k : Nat} {fd : FuncData} {ps : List Str} {sp : Sp}
    (T : OexC X.K C) (iC : PySem.W.findIn X.K (.ref C) "__init__" = some (some (.ref fI))) (tI : PySem.W.typeIn X.K (.ref fI) = some (.type "function"))
    (F1 : FnOk X.prog X.w X.K X.mg X.base CX k fI fd ps sp) (hr : Room (k + 1) X.A) (hb : Binds X.K fd ps []) (hx : Passes CX X (fun _ _ _ => False)) (hg : Gl X x) (hm : X.mg x = some (.ref C)) (ha : PA X (e :: es) ta)
    (hdb : (x == ("__debug__" : Str)) = false := by decide) (he : starEach (e :: es) X.env = (false, eval e X.env) :: starEach es X.env := by rfl) (hpl : (backTo pos (starEach es X.env)).any (·.1) = false := by rfl) :
    L2N.PMk X (.Call (.Name x p) (e :: es) [] pos) (tMkO C sp [] ta) := by
  intro pins s σ H Q I h
  obtain ⟨nm, q, N, bs, bm, sn, sub, ab, col, dd, k0, k1, k2, k3, k5, hC, hbm⟩ := T.cls
  refine wpAny_Call_Name_kw (ld_glob I hg hm ?_ hdb)
  refine PySem.W.callWith_K (h₀ := X.base) I.ok.mod.kin T.kC (thn (ha.run pos pins s σ H _ I h) fun us s1 ⟨vs, H1, I1, r1, hz, q1⟩ => ⟨I1.kIn, ?_⟩) he hpl
  show wpAny _ _ (call (.ref C) us) _ _ _
  obtain ⟨hp, g, dr, tk, os⟩ := s1
  have hsz : hp.objs.size ≤ hp.objs.size + 1 := Nat.le_succ _
  have hn : H1 (hp.objs.size + 1) = none := I1.hok.fresh hsz
  have hq := q1 (hp.objs.size + 1) hn
  rw [List.append_nil] at hq
  have kk : ∀ b o, hp.get? b = some o → ((hp.push (PySem.W.kdv_tup us)).push (PySem.HandSPX.excO C hp.objs.size)).get? b = some o := fun b o z => Heap.get?_push_of_some _ (Heap.get?_push_of_some _ z)
  have hget : ((hp.push (PySem.W.kdv_tup us)).push (PySem.HandSPX.excO C hp.objs.size)).get? (hp.objs.size + 1) = some (PySem.HandSPX.excO C hp.objs.size) := by heap_get
  have I2 : Inv X pins σ (upd H1 (hp.objs.size + 1) (exo (hp.objs.size + 1) C none)) ⟨(hp.push (PySem.W.kdv_tup us)).push (PySem.HandSPX.excO C hp.objs.size), g, dr, tk, os⟩ :=
    I1.laid (t' := tk) (a := hp.objs.size + 1) (o := exo (hp.objs.size + 1) C none) (h' := (hp.push (PySem.W.kdv_tup us)).push (PySem.HandSPX.excO C hp.objs.size)) kk hsz (exo_ok hget)
  have r2 : Vals (V.ref (hp.objs.size + 1) :: vs) (Value.ref (hp.objs.size + 1) :: us) := .cons rfl r1
  have hl : (Value.ref (hp.objs.size + 1) :: us ++ []).length = ps.length := by
    have z := r2.length
    rw [F1.len _ _ _ _ hq] at z
    rw [List.append_nil]
    exact z.symm
  have hus : us.length ≤ sizeLine := by
    rw [← Paired.length r1, sizeLine_eq]
    omega
  have b2 := hb _ (Value.ref (hp.objs.size + 1) :: us) I2.kIn hl
  rw [List.append_nil] at b2
  refine wpAny_call (PySem.HandSPX.call_own F.excBase_ValueError (fun Y => PySem.HandSPX.refsVE_contains Y bm hbm) (I1.kIn _ _ hC) (PySem.W.looks_findIn I1.kIn iC) (fun self => PySem.W.bind_fn I1.kIn self tI) hus
    (codeAny_mono (F1.run _ X.stack _ _ ⟨Value.ref (hp.objs.size + 1) :: us, []⟩ (Value.ref (hp.objs.size + 1) :: us) _ _ (fun _ _ _ => False) (hr.make C us []) (I2.env0.make C us []) b2 r2 hq) fun r s' hq' => ?_))
  rcases r with er | fl
  · exact hx pins σ _ _ er s' I2 hq'
  · cases fl with
    | ret u =>
      obtain ⟨v, H2, os2, bare2, un2, hok2, rv, ev, d, fs, ea, ed, hd1, q2⟩ := hq'
      subst ev
      obtain ⟨h2, g2, d2, t2, os'⟩ := s'
      obtain ⟨t0, G, J, kG, ge, hoe, na⟩ := mk_end0 (d2 := d2) (t2 := t2) I1 hsz kk un2 hok2 os2 bare2 ea ed hd1
      refine ⟨rv, ⟨hp.objs.size + 1, _, _, ⟨G, g2, d2, t2, os'⟩, _, .ref C, some d, rfl, J, kG, ge, hoe, ⟨rfl, rfl, fun vs hv => ?_⟩, rfl, rfl, na, rfl, bare2, raises_own T.exC T.tyC, q2⟩⟩
      cases hv
      rfl
    | next => exact False.elim hq'
    | brk => exact False.elim hq'
    | cont => exact False.elim hq'

/-! ### raise .. from n, n the exception that is handled -/
/-- the cause c is told: field 3, and field 4 is True -/
def fromC (c : Value) (h : Heap) (a : Addr) : Heap := (h.update a (Obj.mapFields (·.setIfInBounds 3 c))).update a (Obj.mapFields (·.setIfInBounds 4 (.bool true)))
theorem fromC_at {c : Value} {h : Heap} {a : Addr} {oe : Obj} {vs : Array Value} (ha : h.get? a = some oe) (hd : oe.data = .fields vs) :
    (fromC c h a).get? a = some ((oe.mapFields (·.setIfInBounds 3 c)).mapFields (·.setIfInBounds 4 (.bool true))) ∧ ((oe.mapFields (·.setIfInBounds 3 c)).mapFields (·.setIfInBounds 4 (.bool true))).data = .fields ((vs.setIfInBounds 3 c).setIfInBounds 4 (.bool true)) := by
  have hd3 := Obj.data_mapFields hd (·.setIfInBounds 3 c)
  have ha3 := Heap.get?_update_self (Obj.mapFields (·.setIfInBounds 3 c)) ha (Obj.isFreed_of_fields hd3)
  have hd4 := Obj.data_mapFields hd3 (·.setIfInBounds 4 (.bool true))
  exact ⟨Heap.get?_update_self (Obj.mapFields (·.setIfInBounds 4 (.bool true))) ha3 (Obj.isFreed_of_fields hd4), hd4⟩
theorem fromC_other {c : Value} {h : Heap} {a b : Addr} (hne : a ≠ b) : (fromC c h a).get? b = h.get? b := by
  unfold fromC
  rw [Heap.get?_update_other _ _ hne, Heap.get?_update_other _ _ hne]
theorem raise_made_from {prog : Program} {w : World} {A : Around} {E : Value → Shared → Prop} {env : Env} {s : Shared} {x c : Sem Value} {Q : Flow → Shared → Prop} {x1 : Addr} {c1 : Value} {o1 : Obj} {v1 : Array Value}
    (h : wpAny (model prog w) A x (fun v s1 => ∃ a oe vs cls, v = .ref a ∧ s1.heap.get? a = some oe ∧ oe.cls = cls ∧ oe.data = .fields vs ∧ vs[1]? = some .none ∧ 4 < vs.size ∧ x1 ≠ a ∧ HotAt A x1 s1.heap ∧
      (∀ Q' : Value → Shared → Prop, Q' (.ref x1) s1 → wpAny (model prog w) A c Q' E s1) ∧ s1.heap.get? x1 = some o1 ∧ o1.cls = c1 ∧ o1.data = .fields v1 ∧ PySem.W.Looks (model prog w) s1.heap (isSubtype c1 (.type "BaseException")) true ∧
      PySem.W.Looks (model prog w) s1.heap (isSubtype cls (.type "BaseException")) true ∧ PySem.W.Looks (model prog w) (fromC (.ref x1) s1.heap a) (typeOf cls) (.type "type") ∧
      E (.ref a) { s1 with heap := (fromC (.ref x1) s1.heap a).update a (Obj.mapFields (·.setIfInBounds 2 (.ref x1))) }) E s) :
    wpAny (model prog w) A (raiseStmt env (some x) (some c)) Q E s := by
  unfold raiseStmt
  dsimp only
  refine wpAny_bind (wpAny_mono h (fun v s1 h1 => ?_) fun _ _ z => z)
  obtain ⟨a, oe, vs, cls, rfl, ha, hcls, hd, hv1, hi, hne, hot, hcs, ho1, hc1, hd1, LC, L1, L3, hE⟩ := h1
  have inst : ∀ {b : Addr} {ob : Obj} {cb : Value}, s1.heap.get? b = some ob → ob.cls = cb → PySem.W.Looks (model prog w) s1.heap (isSubtype cb (.type "BaseException")) true → PySem.W.Looks (model prog w) s1.heap (isInstance (.ref b) (.type "BaseException")) true := fun {b ob cb} hb hcb L =>
    PySem.W.Looks.andThen (fun A Q E s k q => wpAny_typeOf_ref (k _ _ hb) (by rw [hcb]; exact q)) L
  have LI := inst ha hcls L1
  have LIC := inst ho1 hc1 LC
  have nty : ∀ {b : Addr} {ob : Obj} {vb : Array Value} {t : Shared}, t.heap.get? b = some ob → ob.data = .fields vb → ∀ {Q' : Bool → Shared → Prop}, Q' false t → wpAny (model prog w) A (isType (.ref b)) Q' E t := by
    intro b ob vb t hb hdb Q' hq
    simp only [isType, loadHead]
    refine wpAny_bind (wpAny_loadPart hb ?_)
    rw [hdb]
    exact wpAny_pure hq
  have hd3 := Obj.data_mapFields hd (·.setIfInBounds 3 (.ref x1))
  have ha3 := Heap.get?_update_self (Obj.mapFields (·.setIfInBounds 3 (.ref x1))) ha (Obj.isFreed_of_fields hd3)
  obtain ⟨ha4, hd4⟩ := fromC_at (c := .ref x1) ha hd
  have s3 : 3 < vs.size := by omega
  have s4 : 4 < (vs.setIfInBounds 3 (Value.ref x1)).size := by rw [set_size]; exact hi
  have s2 : 2 < ((vs.setIfInBounds 3 (Value.ref x1)).setIfInBounds 4 (Value.bool true)).size := by rw [set_size, set_size]; omega
  have h14 : ((vs.setIfInBounds 3 (Value.ref x1)).setIfInBounds 4 (Value.bool true))[1]? = some Value.none := set_other (by decide) (set_other (by decide) hv1)
  have hcls4 : ((oe.mapFields (·.setIfInBounds 3 (.ref x1))).mapFields (·.setIfInBounds 4 (.bool true))).cls = cls := by rw [Obj.cls_mapFields, Obj.cls_mapFields]; exact hcls
  have LT4 : PySem.W.Looks (model prog w) (fromC (.ref x1) s1.heap a) (typeOf (.ref a)) cls := fun A Q E s k q => wpAny_typeOf_ref (k _ _ ha4) (by rw [hcls4]; exact q)
  have hot4 : HotAt A x1 (fromC (.ref x1) s1.heap a) := by
    obtain ⟨q1, o, vs', q2, q3, q4⟩ := hot
    exact ⟨q1, o, vs', (fromC_other (Ne.symm hne)).trans q2, q3, q4⟩
  have rest : wpAny (model prog w) A (do
      let b ← isType (.ref a)
      if b = true then do
        let e ← holding [.ref a] (raisedFor (.ref a) (.ref a))
        setFlight e none
        raiseNew e
      else do
        let e ← raisedInstance (.ref a)
        setFlight e none
        raiseNew e : Sem Flow) Q E { s1 with heap := fromC (.ref x1) s1.heap a } := by
    refine wpAny_bind (nty (t := { s1 with heap := fromC (.ref x1) s1.heap a }) ha4 hd4 ?_)
    simp only [Bool.false_eq_true, if_false]
    unfold raisedInstance
    refine wpAny_bind (wpAny_bind (LT4.here (wpAny_bind (L3.here ?_))))
    rw [if_pos (beq_self_eq_true _)]
    refine wpAny_pure ?_
    unfold setFlight
    refine wpAny_bind (wpAny_bind (wpAny_field ha4 hd4 h14 ?_))
    rw [if_neg (by decide)]
    refine wpAny_pure ?_
    exact raiseNew_hot hot4 hne ha4 hd4 s2 hE
  refine wpAny_bind (wpAny_holding (hcs _ (wpAny_bind (wpAny_pure ?_))))
  dsimp only
  refine wpAny_bind (wpAny_holding ?_)
  unfold excFromValue isExcClass
  refine wpAny_bind (wpAny_bind (nty ha hd ?_))
  simp only [Bool.false_eq_true, if_false]
  refine wpAny_pure ?_
  simp only [Bool.false_eq_true, if_false]
  refine wpAny_bind (LI.here ?_)
  simp only [if_true]
  refine wpAny_pure ?_
  show wpAny _ _ (if (Value.ref x1 == Value.none) = true then _ else _) _ _ _
  rw [if_neg (show ¬ ((Value.ref x1 == Value.none) = true) from by simp)]
  refine wpAny_bind (wpAny_holding ?_)
  refine wpAny_bind (wpAny_bind (nty ho1 hd1 ?_))
  simp only [Bool.false_eq_true, if_false]
  refine wpAny_pure ?_
  simp only [Bool.false_eq_true, if_false]
  refine wpAny_bind (LIC.here ?_)
  simp only [if_true]
  refine wpAny_pure ?_
  exact wpAny_bind (wpAny_setField ha hd s3 (wpAny_bind (wpAny_setField ha3 hd3 s4 rest)))

/-- the state with more objects than were told -/
theorem inv_up {X : Cx} {pins : List (Addr × Obj)} {σ : L2.St} {H : Hp} {s s' : Shared} (I : Inv X pins σ H s) (k : ∀ b u, s.heap.get? b = some u → s'.heap.get? b = some u) (os : s'.os = s.os) (ag : AllBare s'.gens) : Inv X pins σ H s' := by
  have J := I.call (ch := []) (h' := s'.heap) (g' := s'.gens) (t' := s'.toks) (d' := s'.drawn) (H' := H) (Un.kept k) (I.hok.kept k) ag (fun _ z => nomatch z)
  obtain ⟨a1, a2, a3, a4, a5⟩ := s'
  have e5 : a5 = s.os := os
  subst e5
  exact J
/-- raise X(..) from n: n's slot i holds the exception at a that is handled -/
def tRaiseFrom (i : Nat) (a : Addr) (t : L2.St → Hp → XK → Prop) (W : WX) : TS := fun _ σ H => σ[i]? = some (some (V.ref a)) ∧ t σ H fun cls d H' => W cls d σ H'
theorem ps_raiseFrom {X : Cx} {W : WX} {e : Expr} {t : L2.St → Hp → XK → Prop} {i : Nat} {n : Str} {a : Addr} {oe : Obj} {cls : Value} {d : Option Addr} {vs1 : Array Value} {cpos pos : Pos}
    (hh : X.A.handled = some (.ref a)) (hp : (a, oe) ∈ X.pn) (zn : L2N.Zn cls d oe) (hv : oe.data = .fields vs1) (rc : Raises X cls) (hi : X.N[i]? = some n) (hl : X.env.kindOf n = some .local)
    (tk : L2.Takes X W) (he : PMk5 X e t) (hd : (n == ("__debug__" : Str)) = false := by decide) :
    PS X (.Raise (some e) (some (.Name n cpos)) pos) (tRaiseFrom i a t W) := by
  refine ⟨fun pins s σ H D I ⟨hσ, h⟩ => ?_⟩
  show wpAny _ _ (do standAt pos; raiseStmt X.env (some (do let v ← eval e X.env; standAt pos; pure v)) (some (do let v ← eval (.Name n cpos) X.env; standAt pos; pure v))) _ _ _
  refine wpAny_bind (wpAny_standAt (raise_made_from (x1 := a) (c1 := cls) (o1 := oe) (v1 := vs1) (wpAny_bind (wpAny_mono (he pins s σ H _ I h) (fun u s1 hu => wpAny_bind (wpAny_standAt (wpAny_pure ?_))) fun _ _ x => x))))
  obtain ⟨⟨b, ob, vs, sI, H', cb, db, rfl, J, k, hne, hb, hz, hdb, hb1, na, os, ag, r, q⟩, h5⟩ := hu
  have i5 : 4 < vs.size := h5 b ob vs rfl hb hdb
  have J1 : Inv X pins σ H' s1 := inv_up J k os ag
  have k4 : ∀ y u, sI.heap.get? y = some u → (fromC (.ref a) s1.heap b).get? y = some u := fun y u z => by
    have nby : b ≠ y := fun w => by
      rw [← w, hne] at z
      cases z
    exact (fromC_other nby).trans (k y u z)
  obtain ⟨r1, _⟩ := r (model X.prog X.w) s1.heap (J.kIn.keeps k)
  obtain ⟨_, r2⟩ := r (model X.prog X.w) (fromC (.ref a) s1.heap b) (J.kIn.keeps k4)
  obtain ⟨rc1, _⟩ := rc (model X.prog X.w) s1.heap (J.kIn.keeps k)
  have P1 := (J.pin (a, oe) (List.mem_append_left _ hp)).1
  have P2 := k _ _ P1
  have nab : a ≠ b := fun z => by
    have P1' : sI.heap.get? a = some oe := P1
    rw [z, hne] at P1'
    cases P1'
  obtain ⟨hb4, hdb4⟩ := fromC_at (c := .ref a) hb hdb
  have h12 : (((vs.setIfInBounds 3 (Value.ref a)).setIfInBounds 4 (Value.bool true)).setIfInBounds 2 (Value.ref a))[1]? = some Value.none := set_other (by decide) (set_other (by decide) (set_other (by decide) hb1))
  have name : ∀ Q' : Value → Shared → Prop, Q' (.ref a) s1 → wpAny (model X.prog X.w) X.A (do let v ← eval (.Name n cpos) X.env; standAt pos; pure v) Q' X.xe s1 := fun Q' hq => by
    obtain ⟨m, hn, hlk⟩ := J1.loc
    obtain ⟨u, ru, lk⟩ := hlk i n (V.ref a) hi hσ (.inl hl)
    obtain rfl : u = Value.ref a := ru
    have hm : m n = some (.ref a) := by
      rcases lk with ⟨_, hm⟩ | ⟨hk, _⟩
      · exact hm
      · rw [hl] at hk
        rcases hk with hk | hk <;> cases hk
    exact wpAny_bind (wpAny_Name (wpAny_loadName_local J1.ok.kind hl hn hm (wpAny_bind (wpAny_standAt (wpAny_pure hq)))) hd)
  refine ⟨b, ob, vs, cb, rfl, hb, hz.1, hdb, hb1, i5, nab, ⟨hh, oe, vs1, P2, hv, zn.2.2 vs1 hv⟩, name, P2, zn.1, hv, rc1, r1, r2, tk _ _ (L2.XE.new J (fun y u z => ?_) hne (Heap.get?_update_self _ hb4 (Obj.isFreed_of_fields (Obj.data_mapFields hdb4 _)))
    ⟨by rw [Obj.cls_mapFields, Obj.cls_mapFields, Obj.cls_mapFields]; exact hz.1, by rw [HandSPX.dict_mapFields, HandSPX.dict_mapFields, HandSPX.dict_mapFields]; exact hz.2.1⟩ (Obj.data_mapFields hdb4 _) h12 na os ag q)⟩
  have nby : b ≠ y := fun w => by
    rw [← w, hne] at z
    cases z
  rw [Heap.get?_update_other _ _ nby]
  exact k4 y u z

/-! ### the name of an except clause goes, told of the heap -/
theorem gone_inv {X : Cx} {pins : List (Addr × Obj)} {σ : L2.St} {H : Hp} {s : Shared} {i : Nat} {n : Str} {m : Str → Option Value} {v : Option Value} {h' : Heap} (I : Inv X pins σ H s) (hN : X.N.Nodup) (hi : X.N[i]? = some n)
    (hlk : ∀ (j : Nat) (y : Str) (v : V), X.N[j]? = some y → σ[j]? = some (some v) → Vis X.env.scope y → ∃ u, RelV v u ∧ Look X.env s.heap m y u)
    (hn' : h'.Ns X.env.locals (fun y => if y = n then v else m y)) (hs : Heap.SameBut X.env.locals s.heap h') : Inv X pins (σ.set i none) H { s with heap := h' } := by
  obtain ⟨_, ⟨oL, _, _, hoL, _⟩, _⟩ := id I.loc
  have neL : ∀ b o, X.s_0.heap.get? b = some o → b ≠ X.env.locals := fun b o e => Nat.ne_of_lt (Nat.lt_of_lt_of_le (Heap.lt_size e) I.ok.above)
  refine ⟨I.ok, I.os, I.bare, ⟨fun b o e n hb hx => ?_, fun b o e n hb hx => ?_, I.base.free, fun b o e hx => ?_, I.base.tups, I.base.frzs, I.base.tbls⟩, ⟨_, hn', fun j y v' e1 e2 e3 => ?_⟩, fun y c e => ?_, I.free, I.freeC, fun p hp => ?_, fun b ob e => ?_, by simpa using I.len⟩
  · exact (hs.2 b (neL b o e)).trans (I.base.keep b o e n hb hx)
  · obtain ⟨sl, e1⟩ := I.base.slot b o e n hb hx
    exact ⟨sl, (hs.2 b (neL b o e)).trans e1⟩
  · obtain ⟨o', e1⟩ := I.base.there b o e hx
    exact ⟨o', (hs.2 b (neL b o e)).trans e1⟩
  · by_cases hj : j = i
    · subst hj
      by_cases hlt : j < σ.length
      · rw [List.getElem?_set_self hlt] at e2
        cases e2
      · rw [List.getElem?_eq_none (by simpa using hlt)] at e2
        cases e2
    · rw [List.getElem?_set_ne (Ne.symm hj)] at e2
      obtain ⟨u', r', q⟩ := hlk j y v' e1 e2 e3
      refine ⟨u', r', ?_⟩
      rcases q with ⟨k, e⟩ | ⟨k, c, e, z⟩
      · have ny : y ≠ n := fun e => hj (nodup_ix hN e1 (e ▸ hi))
        exact .inl ⟨k, (if_neg ny).trans e⟩
      · exact .inr ⟨k, c, e, z.sameBut hs (I.cne y c e)⟩
  · obtain ⟨w', z⟩ := I.cell y c e
    exact ⟨w', z.sameBut hs (I.cne y c e)⟩
  · obtain ⟨e, n, ne, nf, d⟩ := I.pin p hp
    exact ⟨(hs.2 p.1 ne).trans e, n, ne, nf, d⟩
  · refine (I.hok b ob e).stay (fun c w' hc q => (hs.2 c ?_).trans q) (fun _ q => q) fun _ _ q => q
    intro z
    subst z
    rcases hc with hc | hc
    · rw [← hc, I.free] at e
      cases e
    · rw [I.free] at hc
      cases hc

theorem ff_keep2 {base h h' : Heap} : ∀ {l : List Env}, h.FunFrames base l → (∀ L ∈ frs l, ∀ o, h.get? L = some o → (∀ vs, o.data ≠ .fields vs) → ∃ o', h'.get? L = some o' ∧ ∀ vs, o'.data ≠ .fields vs) → h'.FunFrames base l
  | [], _, _ => trivial
  | env :: l, ⟨hk, ⟨L, o, hf, hn, ho, hd⟩, hr⟩, k => by
    have m : ∀ L, L ∈ frs l → L ∈ frs (env :: l) := fun L hL => by
      obtain ⟨e, he, q⟩ := List.mem_filterMap.mp hL
      exact List.mem_filterMap.mpr ⟨e, List.mem_cons_of_mem _ he, q⟩
    obtain ⟨o', e1, e2⟩ := k L (List.mem_filterMap.mpr ⟨env, List.mem_cons_self, hf⟩) o ho hd
    exact ⟨hk, ⟨L, o', hf, hn, e1, e2⟩, ff_keep2 hr fun L hL => k L (m L hL)⟩

/-- the wish of a suite under a name in slot i: an exception that leaves it finds the slot empty -/
abbrev wOutN (i : Nat) (Wout : WX) : WX := fun cls d σ H => Wout cls d (σ.set i none) H
/-- the context of such a suite -/
abbrev suiteN (X : Cx) (i : Nat) (Wout : WX) (a : Addr) (pn : List (Addr × Obj)) : Cx := { X with A := X.A.mark (some (.ref a)), calm := false, pn := pn, xe := L2.XE (X.suite a pn) (wOutN i Wout) }
theorem toN {X : Cx} {i : Nat} {Wout : WX} {a : Addr} {pn pins : List (Addr × Obj)} {σ : L2.St} {H : Hp} {s : Shared} (I : Inv (X.suite a pn) pins σ H s) : Inv (suiteN X i Wout a pn) pins σ H s :=
  ⟨⟨I.ok.mod, I.ok.kind, I.ok.glob, I.ok.blt, I.ok.above, I.ok.inj, I.ok.has, I.ok.cab, I.ok.hd, I.ok.frames, I.ok.stk, I.ok.exf, I.ok.bs, I.ok.bsz, I.ok.noex, I.ok.exfs, I.ok.funs, I.ok.frf⟩, I.os, I.bare, I.base, I.loc, I.cell, I.free, I.freeC, I.pin, I.hok, I.len⟩
theorem ofN {X : Cx} {i : Nat} {Wout : WX} {a : Addr} {pn pins : List (Addr × Obj)} {σ : L2.St} {H : Hp} {s : Shared} (I : Inv (suiteN X i Wout a pn) pins σ H s) : Inv (X.suite a pn) pins σ H s :=
  ⟨⟨I.ok.mod, I.ok.kind, I.ok.glob, I.ok.blt, I.ok.above, I.ok.inj, I.ok.has, I.ok.cab, I.ok.hd, I.ok.frames, I.ok.stk, I.ok.exf, I.ok.bs, I.ok.bsz, I.ok.noex, I.ok.exfs, I.ok.funs, I.ok.frf⟩, I.os, I.bare, I.base, I.loc, I.cell, I.free, I.freeC, I.pin, I.hok, I.len⟩
theorem takesN {X : Cx} {i : Nat} {Wout : WX} {a : Addr} {pn : List (Addr × Obj)} : L2.Takes (suiteN X i Wout a pn) (wOutN i Wout) := fun u s' ⟨b, B, sI, pins, σ, H, cls, d, e, I, nb, up, sky, na, os, ag, w⟩ =>
  ⟨b, B, sI, pins, σ, H, cls, d, e, ofN I, nb, up, sky, na, os, ag, w⟩

section
variable {X : Cx} {x n : Str} {c : Value} {i : Nat} {body suite : List Stmt} {b₀ : Stmt} {np pos pos' : Pos} {tb : WX → TS} {ts : Addr → Value → Option Addr → TS} {Wout : WX}
/-- an exception leaves such a suite -/
theorem suite_out {a : Addr} {q : Addr × Obj} {pins : List (Addr × Obj)} {u : Value} {s3 : Shared} {R : Value → Shared → Prop} {E2 : Value → Shared → Prop} {E3 : Value → Shared → Prop}
    (hs : X.stack = X.env :: X.outer) (hf : X.env.frame = some X.env.locals) (hN : X.N.Nodup) (hi : X.N[i]? = some n) (hln : X.env.kindOf n = some .local) (tk : L2.Takes X Wout) (ok : X.Ok)
    (hR : ∀ e s', X.xe e s' → R e s') (xx : L2.XE (X.suite a (q :: (X.pn ++ pins))) (wOutN i Wout) u s3) :
    wpAny (model X.prog X.w) (X.A.mark (some (.ref a))) (noteFrame u X.env) (fun _ s4 =>
      wpAny (model X.prog X.w) (X.A.mark (some (.ref a))) (do bindName X.env n .none; unbindBehindTheSuite X.env n pos') (fun _ s5 =>
        wpAny (model X.prog X.w) (X.A.mark (some (.ref a))) (PySem.passOn "try.except-as" u X.env : Sem Flow) (fun _ _ => False) R s5) E3 s4) E2 s3 := by
  obtain ⟨b, B, sI, pb, σ, H, cls, d, rfl, J, nb, up, sky, na, os, ag, hw⟩ := xx
  have hfr : (X.A.mark (some (.ref a))).frames = some (X.env :: X.outer) := by
    have z : (X.A.mark (some (.ref a))).frames = some X.stack := J.ok.frames
    rw [z, hs]
  have sky' : Sky B (X.env :: X.outer) b (Zc cls d) X.env.locals s3.heap := by rw [← hs]; exact sky
  have fin : ∀ h1, HandSPX.HeldZ B (X.env :: X.outer) b (Zc cls d) X.env.locals h1 → s3.heap.UpToSlots h1 →
      wpAny (model X.prog X.w) (X.A.mark (some (.ref a))) (do bindName X.env n .none; unbindBehindTheSuite X.env n pos') (fun _ s5 =>
        wpAny (model X.prog X.w) (X.A.mark (some (.ref a))) (PySem.passOn "try.except-as" (.ref b) X.env : Sem Flow) (fun _ _ => False) R s5) E3 { s3 with heap := h1 } := by
    intro h1 held up1
    have JX : Inv X pins σ H sI := J.unsuite ok
    obtain ⟨m, hn, hlk⟩ := JX.loc
    have up2 : sI.heap.UpToSlots h1 := up.trans up1
    have hn1 : h1.Ns X.env.locals m := up2.ns hn
    have hcls : (X.env.scope.kind == .class || (X.env.scope.kind == .module && X.env.locals != X.env.globals)) = false := by rw [ok.kind]; rfl
    refine wpAny_nameGoes_keeps (s := { s3 with heap := h1 }) hln hn1 hcls fun h2 v hn2 sb => ?_
    -- the same step upon the state without the exception
    obtain ⟨o2, es2, ep2, ho2, hd2, hr2⟩ := id hn2
    obtain ⟨oI, esI, epI, hoI, hdI, _⟩ := id hn
    obtain ⟨o1, es1, ep1, ho1, hd1, _⟩ := id hn1
    have nfr2 : o2.isFreed = false := by
      obtain ⟨q1, q2, q3, q4⟩ := o2
      have e : q3 = Data.dict es2 ep2 := hd2
      subst e
      rfl
    have hget : (sI.heap.update X.env.locals fun _ => o2).get? X.env.locals = some o2 := Heap.get?_update_self (fun _ => o2) hoI nfr2
    have sbI : Heap.SameBut X.env.locals sI.heap (sI.heap.update X.env.locals fun _ => o2) := ⟨Heap.size_update .., fun y hy => Heap.get?_update_ne _ _ _ _ hy⟩
    have K1 : Inv X pins (σ.set i none) H { sI with heap := sI.heap.update X.env.locals fun _ => o2 } := gone_inv JX hN hi hlk (v := v) ⟨o2, es2, ep2, hget, hd2, hr2⟩ sbI
    have Lin : X.env.locals ∈ frs X.stack := by
      rw [hs]
      exact List.mem_filterMap.mpr ⟨X.env, List.mem_cons_self, hf⟩
    obtain ⟨k1, k2, k3, oe, vs, T, oT, ts', he, hz, hd, hv1, hnT, hTe, hT, hdT, h3⟩ := id held
    have BL : B.get? X.env.locals = none := (k3.mem (by rw [← hs]; exact Lin)).1
    have nbL : b ≠ X.env.locals := fun z => by
      rw [z, ho1] at he
      cases he
      rw [hd1] at hd
      cases hd
    have nTL : T ≠ X.env.locals := fun z => by
      rw [z, ho1] at hT
      cases hT
      rw [hd1] at hdT
      cases hdT
    have neB : ∀ y o, B.get? y = some o → y ≠ X.env.locals := fun y o e z => by
      rw [z, BL] at e
      cases e
    have ff : h2.FunFrames B (X.env :: X.outer) := ff_keep2 k3 fun L hL o e hnf => by
      by_cases hLL : L = X.env.locals
      · rw [hLL]
        exact ⟨o2, ho2, fun vs z => by rw [hd2] at z; cases z⟩
      · exact ⟨o, (sb.2 L hLL).trans e, hnf⟩
    have held2 : HandSPX.HeldZ B (X.env :: X.outer) b (Zc cls d) X.env.locals h2 :=
      ⟨fun y o e => (sb.2 y (neB y o e)).trans (k1 y o e), k2, ff, oe, vs, T, oT, ts', (sb.2 b nbL).trans he, hz, hd, hv1, hnT, hTe, (sb.2 T nTL).trans hT, hdT, h3⟩
    have up3 : (sI.heap.update X.env.locals fun _ => o2).UpToSlots h2 := fun y o e hnf => by
      by_cases hy : y = X.env.locals
      · rw [hy, hget] at e
        cases e
        exact ⟨o2.slots, by rw [hy]; exact ho2⟩
      · rw [sbI.2 y hy] at e
        obtain ⟨sl, e2⟩ := up2 y o e hnf
        exact ⟨sl, (sb.2 y hy).trans e2⟩
    have nb3 : ∀ y o, (sI.heap.update X.env.locals fun _ => o2).get? y = some o → y ∉ frs X.stack → B.get? y = some o := fun y o e hy => by
      have hyL : y ≠ X.env.locals := fun z => hy (by rw [z]; exact Lin)
      rw [sbI.2 y hyL] at e
      exact nb y o e hy
    unfold PySem.passOn
    refine wpAny_bind (wpAny_field ((sb.2 b nbL).trans he) hd hv1 ?_)
    rw [if_neg (show ¬ ((Value.ref T == Value.none) = true) from by simp)]
    have fin2 : wpAny (model X.prog X.w) (X.A.mark (some (.ref a))) (setFlight (.ref b) X.env.frame) (fun _ s4 => wpAny (model X.prog X.w) (X.A.mark (some (.ref a))) (throw (.ref b) : Sem Flow) (fun _ _ => False) R s4) R { s3 with heap := h2, toks := s3.toks + 1 } := by
      rw [hf]
      refine HandSPX.setFlight_onZ held2 fun h4 hh4 up4 => wpAny_throw (hR _ _ (tk _ _ ?_))
      exact ⟨b, B, _, pins, σ.set i none, H, cls, d, rfl, K1, nb3, up3.trans up4, .inr (.inr (by rw [hs]; exact hh4)), na, os, ag, hw⟩
    first
      | exact wpAny_bind (wpAny_pure (wpAny_bind fin2))
      | exact wpAny_bind fin2
  rcases sky' with ⟨hB, hn, hl, oe, vs, he, hz, hd, h1⟩ | fl | hh
  · exact HandSPX.look_newZ Zc.steady hfr hl hf he hB hn hd h1 hz fin
  · exact HandSPX.looks_onZ Zc.steady hfr hf fl fin
  · exact HandSPX.againZ hf hh.2.2.2 (fin s3.heap hh (Heap.UpToSlots.refl _))
/-- what the clause 'except x as n' wishes of an exception of the body; its suite may raise -/
def wAsX (K : PySem.W.Frag) (c : Value) (i : Nat) (ts : Addr → Value → Option Addr → TS) (D : Ends) : WX := fun cls d σ H =>
  PySem.W.exmOne K cls c = some true ∧ ∀ a, H a = none → ts a cls d { nx := fun σ' H' => D.nx (σ'.set i none) H', rt := D.rt, bk := fun σ' H' => D.bk (σ'.set i none) H', ct := fun σ' H' => D.ct (σ'.set i none) H' } (σ.set i (some (.ref a))) H
theorem ps_try_asX (hs : X.stack = X.env :: X.outer) (hf : X.env.frame = some X.env.locals) (hN : X.N.Nodup) (hi : X.N[i]? = some n) (hln : X.env.kindOf n = some .local) (hc : Names X x c)
    (hpa : ∀ hd : Option Value, PassesOwnAt (model X.prog X.w) (X.A.mark hd) X.A X.env X.xe) (tk : L2.Takes X Wout)
    (hb : ∀ (W : WX) (pn : List (Addr × Obj)) (xe : Value → Shared → Prop), L2N.Takes (X.tr pn xe) W → PassesOwn (model X.prog X.w) X.A X.env xe → PSs (X.tr pn xe) body (tb W))
    (hsu : ∀ (a : Addr) (oe : Obj) (cls : Value) (d : Option Addr) (pn : List (Addr × Obj)), L2N.Zn cls d oe → (∃ vs, oe.data = .fields vs) → PSs (suiteN X i Wout a ((a, oe) :: pn)) (b₀ :: suite) (ts a cls d)) :
    PS X (.Try body [.ExceptHandler (some (.Name x np)) (some n) (b₀ :: suite) pos'] [] [] pos) (fun D σ H => tb (wAsX X.K c i ts D) D σ H) := by
  refine ⟨fun pins s σ H D I h => ?_⟩
  have ok := I.ok
  have hfr : X.A.frames = some (X.env :: X.outer) := by rw [ok.frames, hs]
  have hloc : Loc X.env.scope n := .inl hln
  refine wpAny_Try_except ?_
  refine wpAny_mono ((hb (wAsX X.K c i ts D) (X.pn ++ pins) (fun e s₁ => wpAny (model X.prog X.w) X.A (noteFrame e X.env) (fun _ s₂ => wpAny (model X.prog X.w) X.A (setFlight e none) (fun _ s₃ =>
    wpAny (model X.prog X.w) X.A (handleBy e X.env [.ExceptHandler (some (.Name x np)) (some n) (b₀ :: suite) pos']) (SP X pins D) X.xe s₃) X.xe s₂) X.xe s₁) (fun u s' xx => ?_) PassesOwn.looking).run [] s σ H D (I.toTry _) h) (fun f s1 hsp => ?_) (fun e s1 he => he)
  · obtain ⟨a, B, sI, pins', σ', H', cls, d, rfl, J', nb, up, sky, na, os, ag, hb1, hyes⟩ := xx
    have J : Inv X pins σ' H' sI := J'.ofTry ok
    have sky' : Sky B (X.env :: X.outer) a (L2N.Zn cls d) X.env.locals s'.heap := by rw [← hs]; exact sky
    show wpAny (model X.prog X.w) X.A (noteFrame (.ref a) X.env) _ _ _
    refine L2N.Sky.land L2N.Zn.steady hfr hf sky' fun h3 fl3 up3 => ?_
    have J3 : Inv X pins σ' H' { s' with heap := h3 } := J.landed nb fl3.1 (up.trans up3) os ag
    obtain ⟨oe3, vs3, he3, hz3, hd3⟩ := fl3.there
    have nfr : a ∉ frs (X.env :: X.outer) := fun hm => by
      obtain ⟨_, o', e', hnf⟩ := fl3.2.2.1.mem hm
      rw [he3] at e'
      cases e'
      exact hnf _ hd3
    have nL : a ≠ X.env.locals := fun z => nfr (List.mem_filterMap.mpr ⟨X.env, List.mem_cons_self, by rw [hf, z]⟩)
    have nF : a ∉ X.fs := fun hm => by
      obtain ⟨e, he, q⟩ := List.mem_filterMap.mp hm
      exact nfr (List.mem_filterMap.mpr ⟨e, List.mem_cons_of_mem _ he, q⟩)
    have S3 := J3.suite he3 hd3 na nL nF
    refine wpAny_handleBy_cons (codeAny_handlers_test ?_) (by intro q; cases q)
    have LT : PySem.W.Looks (model X.prog X.w) h3 (typeOf (.ref a)) cls := fun A Q E s k q => wpAny_typeOf_ref (k _ _ he3) (by rw [hz3.1]; exact q)
    have LM := PySem.W.exm_one (M := model X.prog X.w) (J3.kIn) LT hb1
    have test : ∀ {Q : Value → Shared → Prop} {E : Value → Shared → Prop}, Q c { s' with heap := h3 } → wpAny (model X.prog X.w) (X.A.mark (some (.ref a))) (eval (.Name x np) X.env) Q E { s' with heap := h3 } := fun {Q E} q => by
      obtain ⟨hg, hdbg, hm | ⟨hm, hv, hnn⟩⟩ := hc
      · exact ld_glob (X := X.suite a ((a, oe3) :: (X.pn ++ pins))) S3 hg hm q hdbg
      · exact ld_blt (X := X.suite a ((a, oe3) :: (X.pn ++ pins))) S3 hg hm hv q hnn hdbg
    refine test (LM.here ?_)
    refine codeAny_handlers_suite_as ?_
    refine HandSPX.lands_againZ fl3 fun h4 fl4 up4 => ?_
    have J4 : Inv X pins σ' H' { s' with heap := h4 } := J.landed nb fl4.1 ((up.trans up3).trans up4) os ag
    obtain ⟨oe4, vs4, he4, hz4, hd4⟩ := fl4.there
    have S4 := J4.suite he4 hd4 na nL nF
    refine store_ok (X := X.suite a ((a, oe4) :: (X.pn ++ pins))) (v := .ref a) S4 hN hi hloc rfl (fun s5 S5 => ?_) (.inr hln)
    refine wpAny_mono ((hsu a oe4 cls d (X.pn ++ pins) hz4 ⟨_, hd4⟩).run [] s5 _ H' _ (toN S5) (hyes a na)) (fun f s6 hsp => ?_) (fun u6 s6 z => ?_)
    · have end_ : ∀ {σ6 : L2.St} {H6 : Hp} {Q : Shared → Prop}, Inv (suiteN X i Wout a ((a, oe4) :: (X.pn ++ pins))) [] σ6 H6 s6 → (∀ s7, Inv X pins (σ6.set i none) H6 s7 → Q s7) →
          wpAny (model X.prog X.w) X.A (do bindName X.env n .none; unbindBehindTheSuite X.env n pos') (fun _ s7 => Q s7) X.xe s6 := fun {σ6 H6 Q} S6 hq => gone_ok ((ofN S6).unsuite ok) hN hi hln hq
      cases f with
      | next =>
        obtain ⟨σ6, H6, S6, q6⟩ := hsp
        exact end_ S6 fun s7 J7 => ⟨_, _, J7, q6⟩
      | brk =>
        obtain ⟨σ6, H6, S6, q6⟩ := hsp
        exact end_ S6 fun s7 J7 => ⟨_, _, J7, q6⟩
      | cont =>
        obtain ⟨σ6, H6, S6, q6⟩ := hsp
        exact end_ S6 fun s7 J7 => ⟨_, _, J7, q6⟩
      | ret u =>
        obtain ⟨v6, σ6, H6, S6, r6, q6⟩ := hsp
        exact end_ S6 fun s7 J7 => ⟨_, _, _, J7, r6, q6⟩
    · exact suite_out hs hf hN hi hln tk ok (fun e t ht => hpa (some (.ref a)) e t ht) z
  · cases f with
    | next =>
      obtain ⟨σ', H', J', q⟩ := hsp
      exact wpAny_execs_nil ⟨σ', H', J'.ofTry ok, q⟩
    | brk =>
      obtain ⟨σ', H', J', q⟩ := hsp
      exact ⟨σ', H', J'.ofTry ok, q⟩
    | cont =>
      obtain ⟨σ', H', J', q⟩ := hsp
      exact ⟨σ', H', J'.ofTry ok, q⟩
    | ret u =>
      obtain ⟨v, σ', H', J', r, q⟩ := hsp
      exact ⟨v, σ', H', J'.ofTry ok, r, q⟩
end
end K86
/-! K86RuleSort: sorted(l, key=lambda ..), the key a text. -/
set_option pp.maxSteps 400
namespace K86
open PySem PySem.Spec PyProof.Rows L2 Srt SrtO

/-! ### a lambda of one parameter, called -/
theorem lam_call {P : Program} {w : World} {K : PySem.W.Frag} {mg : Str → Option Value} {base : Heap} {CX : CXT} {N ps : List Str} {qual : Str} {scope : Scope} {f c' : Addr} {pm ctv : Value} {params : Arguments} {body : Expr} {A : Around} {outer : List Env} {s : Shared} {H : Hp}
    {us : List Value} {vs : List V} {Q : VK} {E : XK} {t : TE} {k : Nat} (S : FnScope N ps scope) (hf : s.heap.get? f = some (PySem.W.kla_obj "<lambda>" qual params body scope [] pm c' ctv)) (hc : s.heap.CodeRec (.ref c') qual)
    (hbind : bindArgs (PySem.W.kla_fn "<lambda>" qual params body scope [] pm (.ref c') ctv) ⟨us, []⟩ = pure (ps.zip us)) (e0 : Env0 P w K mg base A outer s H) (hr : Room (k + 1) A) (r : Vals vs us) (hl : vs.length = ps.length)
    (hb : PE (cxOf CX P w K mg base N qual scope f (.ref c') A outer s H E) body t) (ht : t (start N vs) H Q) : codeAny (model P w) A (.call (.ref f) ⟨us, []⟩) (CR CX outer P w H s Q E) s := by
  have lim : s.heap.NoLimit := e0.mod.nolimit.keeps fun b o e => (e0.bs b o e).1
  have hkind : ∀ y ∈ ps.zip us, scope.names.lookup y.1 = some .local ∨ (scope.names.lookup y.1 = some .cell ∧ ((cellsFrom (s.heap.objs.size + 1) scope.names []).lookup y.1).isSome = true) := fun ⟨n, v⟩ hy => by
    rcases S.par n (List.of_mem_zip hy).1 with q | q
    · exact .inl q
    · exact .inr ⟨q, PySem.W.cellsFrom_some _ _ _ (.inl q)⟩
  refine PySem.W.kla_callFunE hr.depth hf rfl S.co S.gen rfl hc ?_
  rw [hbind]
  refine wpAny_pure (wpAny_newFunctionEnv_cells S.kind hkind fun env he s1 x => ?_)
  subst he
  refine ⟨lim.keeps x.toInCall.keep, PySem.W.kla_codeExpr ?_⟩
  have I : Inv (cxOf CX P w K mg base N qual scope f (.ref c') A outer s H E) [] (start N vs) H s1 := inv_start S hr.hd e0 hl r x
  refine wpAny_mono (hb.run [] s1 (start N vs) H _ I ht) (fun u s' hs => ?_) fun e s' hs => hs
  obtain ⟨v, H', J, rv, q⟩ := hs
  exact ⟨v, H', J.os, J.bare, J.base, J.hok, rv, q⟩

/-! ### sorting pairs (text, item) by their texts -/
def strOf : Value → Str
  | .str x _ => x
  | _ => Str.empty
def ltS (x y : Str) : Bool := decide (x.cps.toList < y.cps.toList)
def ltKd (p q : Keyed) : Bool := ltS (strOf p.1) (strOf q.1)
theorem swo_ltS : Swo ltS := by
  refine ⟨fun x y h => ?_, fun x y z h1 h2 => ?_⟩
  · have a := of_decide_eq_true (p := x.cps.toList < y.cps.toList) h
    exact decide_eq_false (p := y.cps.toList < x.cps.toList) (fun b => absurd (List.lt_trans a b) (List.lt_irrefl _))
  · have a := of_decide_eq_false (p := y.cps.toList < x.cps.toList) h1
    have b := of_decide_eq_false (p := z.cps.toList < y.cps.toList) h2
    exact decide_eq_false (p := z.cps.toList < x.cps.toList) (fun c => by
      have a' := List.not_lt.mp a
      have b' := List.not_lt.mp b
      exact absurd (List.le_trans a' b') (List.not_le.mpr c))
theorem swo_ltKd : Swo ltKd := ⟨fun x y => swo_ltS.asym _ _, fun x y z => swo_ltS.tr _ _ _⟩
theorem kd_cmp {prog : Program} {w : World} {A : Around} {s : Shared} : Cmp prog w A s oneType' (fun p => ∃ x t, p.1 = Value.str x t) ltKd := by
  intro p q ⟨x, t, e⟩ ⟨y, u, e'⟩
  show wpAny (model prog w) A (keyLt' oneType' p.1 q.1) (fun r s' => s' = s ∧ r = ltS (strOf p.1) (strOf q.1)) (fun _ _ => False) s
  rw [e, e', keyLt'_oneType]
  exact oneLt_str ⟨rfl, rfl⟩
theorem kd_kind {keys : Array Value} {xs : List Str} (hk : StrsAre keys.toList xs) (h2 : 2 ≤ keys.size) : keyKind' keys = pure oneType' := by
  obtain ⟨v1, v2, rest, e⟩ : ∃ v1 v2 rest, keys.toList = v1 :: v2 :: rest := by
    have hl : 2 ≤ keys.toList.length := by rw [Array.length_toList]; exact h2
    match q : keys.toList, hl with
    | v1 :: v2 :: rest, _ => exact ⟨v1, v2, rest, rfl⟩
    | [], z => simp at z
    | [v], z => simp at z
  have ek : keys = (v1 :: v2 :: rest).toArray := by rw [← e, Array.toArray_toList]
  rw [e] at hk
  rw [ek]
  exact keyKind_strs hk

/-! ### insertion sort is what a stable sort gives -/
section
variable {α : Type} {lt : α → α → Bool}
theorem ins_split (O : Swo lt) (x : α) : ∀ {l : List α}, Srtd lt l → ∃ M N, l = M ++ N ∧ ins lt x l = M ++ x :: N ∧ (∀ y ∈ M, lt y x = true) ∧ ∀ y ∈ N, lt y x = false
  | [], _ => ⟨[], [], rfl, rfl, fun y h => absurd h (by simp), fun y h => absurd h (by simp)⟩
  | y :: r, h => by
    rcases bcase (lt y x) with e | e
    · obtain ⟨M, N, h1, h2, h3, h4⟩ := ins_split O x (List.pairwise_cons.mp h).2
      refine ⟨y :: M, N, by rw [h1]; rfl, ?_, fun z hz => ?_, h4⟩
      · show (if lt y x = true then y :: ins lt x r else x :: y :: r) = _
        rw [if_pos e, h2]
        rfl
      · rcases List.mem_cons.mp hz with q | q
        · rw [q]
          exact e
        · exact h3 z q
    · refine ⟨[], y :: r, rfl, ?_, fun y h => absurd h (by simp), fun z hz => ?_⟩
      · show (if lt y x = true then y :: ins lt x r else x :: y :: r) = _
        rw [if_neg (by rw [e]; decide)]
        rfl
      · rcases List.mem_cons.mp hz with q | q
        · rw [q]
          exact e
        · exact O.tr x y z e (srtd_head h z q)
theorem isort_ok (O : Swo lt) : ∀ l : List α, Srtd lt (isort lt l) ∧ Stb lt (isort lt l) l
  | [] => ⟨List.Pairwise.nil, Stb.refl _⟩
  | x :: r => by
    obtain ⟨h1, h2⟩ := isort_ok O r
    obtain ⟨M, N, e1, e2, h3, h4⟩ := ins_split O x h1
    show Srtd lt (ins lt x (isort lt r)) ∧ Stb lt (ins lt x (isort lt r)) (x :: r)
    rw [e2]
    rw [e1] at h1 h2
    refine ⟨?_, ?_⟩
    · obtain ⟨k1, k2, k3⟩ := srtd_app.mp h1
      refine srtd_app.mpr ⟨k1, List.pairwise_cons.mpr ⟨h4, k2⟩, fun a ha b hb => ?_⟩
      rcases List.mem_cons.mp hb with q | q
      · rw [q]
        exact O.asym _ _ (h3 a ha)
      · exact k3 a ha b q
    · have s1 : Stb lt (M ++ x :: N) (x :: (M ++ N)) := by
        have z : Stb lt (M ++ [x]) ([x] ++ M) := Stb.swap O fun a ha b hb => by
          rw [List.mem_singleton.mp hb]
          exact h3 a ha
        have z2 := Stb.app z (Stb.refl (lt := lt) N)
        simpa using z2
      exact s1.trans (Stb.app (Stb.refl (lt := lt) [x]) h2)
/-- a sorted stable rearrangement is the insertion sort -/
theorem isort_of (O : Swo lt) {l m : List α} (h1 : Srtd lt l) (h2 : Stb lt l m) : l = isort lt m :=
  stb_uniq O h1 (isort_ok O m).1 (h2.trans ⟨(isort_ok O m).2.perm.symm, fun x => ((isort_ok O m).2.cls x).symm⟩)
end
def ltA (key : Addr → Str) (a b : Addr) : Bool := ltS (key a) (key b)
theorem swo_ltA (key : Addr → Str) : Swo (ltA key) := ⟨fun x y => swo_ltS.asym _ _, fun x y z => swo_ltS.tr _ _ _⟩
def adrOf : Value → Addr
  | .ref a => a
  | _ => 0
theorem kd_out {key : Addr → Str} {ts : List Addr} {keys : List Value} {xs : List Keyed} (hk : StrsAre keys (ts.map key)) (h1 : Srtd ltKd xs) (h2 : Stb ltKd xs (keys.zip (ts.map Value.ref))) :
    (xs.map (·.2)) = (isort (ltA key) ts).map Value.ref := by
  have mem : ∀ {keys : List Value} {ts : List Addr}, StrsAre keys (ts.map key) → ∀ p ∈ keys.zip (ts.map Value.ref), ∃ t, p.2 = Value.ref t ∧ strOf p.1 = key t := by
    intro keys ts
    induction ts generalizing keys with
    | nil =>
      intro _ p hp
      simp at hp
    | cons t ts ih =>
      intro hk p hp
      cases hk with
      | cons y tk r =>
        rcases List.mem_cons.mp (show p ∈ (Value.str (key t) tk, Value.ref t) :: _ from hp) with e | hp
        · rw [e]
          exact ⟨t, rfl, rfl⟩
        · exact ih r p hp
  have hm : ∀ p ∈ xs, ∃ t, p.2 = Value.ref t ∧ strOf p.1 = key t := fun p hp => mem hk p (h2.perm.mem_iff.mp hp)
  have e0 : xs.map (·.2) = (xs.map fun p => adrOf p.2).map Value.ref := by
    rw [List.map_map]
    refine List.map_congr_left fun p hp => ?_
    obtain ⟨t, e, _⟩ := hm p hp
    show p.2 = Value.ref (adrOf p.2)
    rw [e]
    rfl
  rw [e0]
  congr 1
  have hkey : ∀ p ∈ xs, strOf p.1 = key (adrOf p.2) := fun p hp => by
    obtain ⟨t, e, e2⟩ := hm p hp
    rw [e2, e]
    rfl
  have lenk : keys.length = ts.length := by
    have z := StrsAre.length hk
    rw [List.length_map] at z
    exact z
  have ez : (keys.zip (ts.map Value.ref)).map (fun p : Keyed => adrOf p.2) = ts := by
    have z : (keys.zip (ts.map Value.ref)).map (fun p : Keyed => adrOf p.2) = ((keys.zip (ts.map Value.ref)).map (·.2)).map adrOf := by rw [List.map_map]; rfl
    rw [z, List.map_snd_zip (by rw [List.length_map]; omega), List.map_map]
    have y : (adrOf ∘ Value.ref) = id := rfl
    rw [y, List.map_id]
  refine isort_of (swo_ltA key) ?_ ⟨?_, fun x => ?_⟩
  · refine List.pairwise_map.mpr (List.Pairwise.imp_of_mem (fun {p q} hp hq z => ?_) h1)
    show ltS (key (adrOf q.2)) (key (adrOf p.2)) = false
    rw [← hkey p hp, ← hkey q hq]
    exact z
  · have q := h2.perm.map fun p : Keyed => adrOf p.2
    rw [ez] at q
    exact q
  · have f : ∀ l : List Keyed, (∀ p ∈ l, strOf p.1 = key (adrOf p.2)) → (l.map fun p : Keyed => adrOf p.2).filter (eqv (ltA key) x) = (l.filter (eqv ltKd (Value.str (key x) 0, Value.none))).map fun p : Keyed => adrOf p.2 := fun l hl => by
      rw [List.filter_map]
      congr 1
      refine List.filter_congr fun p hp => ?_
      show (!ltS (key x) (key (adrOf p.2)) && !ltS (key (adrOf p.2)) (key x)) = (!ltS (key x) (strOf p.1) && !ltS (strOf p.1) (key x))
      rw [hl p hp]
    have hz : ∀ p ∈ keys.zip (ts.map Value.ref), strOf p.1 = key (adrOf p.2) := fun p hp => hkey p (h2.perm.mem_iff.mpr hp)
    have g := f _ hz
    rw [ez] at g
    rw [f xs hkey, g, h2.cls]

/-! ### the run -/
section
variable {X : Cx} {P : List (Addr × Obj)} {σ : L2.St}
/-- an untracked object of ours is changed, and tracked from now on -/
theorem inv_track {H : Hp} {s : Shared} {a : Addr} {o : HO} {h' : Heap} {t' : Nat} (I : Inv X P σ H s) (f : FpOk X P H a) (k : ∀ b u, b ≠ a → s.heap.get? b = some u → h'.get? b = some u) (new : ObjOk X.prog X.w (upd H a o) h' a o) :
    Inv X P σ (upd H a o) { s with heap := h', toks := t' } := by
  obtain ⟨f0, f1, f2, f3, f4, f5⟩ := f
  have ne : ∀ b u, H b = some u → b ≠ a := fun b u e => ne_of_none e f0
  refine I.step (g' := s.gens) (d' := s.drawn) (ch := [a]) (fun b hb => ?_) (fun b u _ _ hc e _ => k b u (fun z => hc (by simp [z])) e) (fun b u _ _ hc e _ => ⟨u.slots, k b u (fun z => hc (by simp [z])) e⟩)
    (fun b u hc e n => by rw [upd_ne (fun z => hc (by simp [z]))]; exact n) (fun b u hc e => ⟨u, k b u (fun z => hc (by simp [z])) e⟩) (fun b xs e => by rw [upd_ne (ne b _ e)]; exact e) (fun b u v e => by rw [upd_ne (ne b _ e)]; exact e)
    (fun b ps e => ⟨#[], by rw [upd_ne (ne b _ e), e]; simp⟩) (fun m hm => ?_) (fun b u e => ?_) I.bare
  · have e : b = a := by simpa using hb
    subst e
    exact ⟨f3, f1, f4, f5⟩
  · obtain ⟨u, es, ep, ho, r⟩ := hm
    exact ⟨u, es, ep, k _ u (Ne.symm f1) ho, r⟩
  · by_cases hb : b = a
    · subst hb
      rw [upd_same] at e
      cases e
      exact new
    · rw [upd_ne hb] at e
      refine (I.hok b u e).stay (fun c v hc q => k c v ?_ q) (fun c q => by rw [upd_ne (ne c _ q)]; exact q) fun c xs q => by rw [upd_ne (ne c _ q)]; exact q
      rcases hc with z | z
      · rw [z]
        exact hb
      · exact ne c _ z
/-- what a call of the key does: nothing to what is tracked, and a text -/
def KeyTurn (X : Cx) (P : List (Addr × Obj)) (σ : L2.St) (f : Value) (key : Addr → Str) (ts : List Addr) (H : Hp) : Prop :=
  ∀ (pins : List (Addr × Obj)) (s : Shared) (H' : Hp) (t : Addr), t ∈ ts → (∀ b o, H b = some o → H' b = some o) → Inv X (pins ++ P) σ H' s →
    wpAny (model X.prog X.w) X.A.in1.in1 (call f [.ref t]) (fun r s' => Inv X (pins ++ P) σ H' s' ∧ ∃ tk, r = .str (key t) tk) (fun _ _ => False) s
theorem keyed_end {E : Value → Shared → Prop} {s : Shared} {H : Hp} {a kS : Addr} {e1 : Nat} {key : Addr → Str} {ts : List Addr} {Q : PySem.Fin → Shared → Prop}
    (I : Inv X ((a, seqObj "list" #[] e1) :: P) σ H s) (fa : FpOk X P H a) (hk : H kS = some (.lst (ts.map fun t => V.str (key t)))) (hz : ts.length ≤ sizeLine)
    (hq : ∀ s' H', Inv X P σ H' s' → (∀ b, b ≠ kS → b ≠ a → H' b = H b) → H' a = some (.lst ((isort (ltA key) ts).map V.ref)) → Q (.done (.ret .none)) s') :
    wpAny (model X.prog X.w) X.A.in1.in1 (do let keys ← Builtin.List.listItems (.ref kS); ksk_end a false (ts.map Value.ref).toArray e1 (.ref kS) keys) Q E s := by
  obtain ⟨hz1, its, nk, rk, ok⟩ := I.hok kS _ hk
  have hstr : StrsAre its (ts.map key) := by
    have z : ts.map (fun t => V.str (key t)) = (ts.map key).map V.str := by rw [List.map_map]; rfl
    rw [z] at rk
    exact rk.strs
  have hlen : its.length = ts.length := by
    have z := StrsAre.length hstr
    rw [List.length_map] at z
    exact z
  refine wpAny_bind (listItems_at ok rfl ?_)
  obtain ⟨pa1, pa2, pa3, pa4, pa5⟩ := (I.pin (a, seqObj "list" #[] e1) (List.mem_append_right _ List.mem_cons_self))
  have hka : kS ≠ a := fun z => by
    rw [z] at hk
    have pa2' : H a = none := pa2
    rw [pa2'] at hk
    cases hk
  have hlo : (isort (ltA key) ts).length = ts.length := (isort_ok (swo_ltA key) ts).2.perm.length_eq
  -- the tail: the keys let go, the list filled
  have tail : ∀ st : SortSt, Srtd ltKd (arrOf st).toList → Stb ltKd (arrOf st).toList (its.toArray.zip (ts.map Value.ref).toArray).toList → failedOf st = none →
      wpAny (model X.prog X.w) X.A.in1.in1 (ksk_tail a false e1 (.ref kS) st) Q E s := by
    intro st h1 h2 hf
    have h2' : Stb ltKd (arrOf st).toList (its.zip (ts.map Value.ref)) := by
      have z : (its.toArray.zip (ts.map Value.ref).toArray).toList = its.zip (ts.map Value.ref) := by simp
      rw [z] at h2
      exact h2
    have hout := kd_out hstr h1 h2'
    have hlen2 : ((arrOf st).map (·.2)).size = ts.length := by
      have z := congrArg List.length hout
      rw [List.length_map, List.length_map, hlo] at z
      rw [Array.size_map, ← Array.length_toList]
      exact z
    have I1 : Inv X ((a, seqObj "list" #[] e1) :: P) σ (upd H kS (.lst [])) { s with heap := s.heap.update kS (Obj.mapSeq fun _ => (#[] : Array Value)) } := by
      obtain ⟨c2, hc2⟩ : ∃ c2, (s.heap.update kS (Obj.mapSeq fun _ => (#[] : Array Value))).get? kS = some (seqObj "list" #[] c2) := ⟨_, get?_update_seq ok fun _ => #[]⟩
      exact I.write (t' := s.toks) (x := kS) (e := kS) (by rw [hk]; trivial) (.inl rfl) (fun b u hb q => (Heap.get?_update_ne _ _ _ _ hb).trans q) ⟨_, hc2⟩ ⟨Nat.zero_le _, [], c2, .nil, hc2⟩
    have na1 : (s.heap.update kS (Obj.mapSeq fun _ => (#[] : Array Value))).get? a = some (seqObj "list" #[] e1) := (I1.pin (a, seqObj "list" #[] e1) (List.mem_append_right _ List.mem_cons_self)).1
    have I2 : Inv X P σ (upd H kS (.lst [])) { s with heap := s.heap.update kS (Obj.mapSeq fun _ => (#[] : Array Value)) } := I1.pins_of fun p hp => I1.pin p (List.mem_append_right _ (List.mem_cons_of_mem _ hp))
    have fa2 : FpOk X P (upd H kS (.lst [])) a := ⟨(upd_ne hka.symm).trans fa.1, fa.2⟩
    unfold ksk_tail
    try dsimp only
    refine wpAny_bind (listUpdate_at ok rfl ?_ (by rw [List.size_toArray, hlen]; exact hz) (Nat.zero_le _))
    refine wpAny_bind (wpAny_letGo ?_)
    refine wpAny_bind (seqEpoch_at na1 rfl ?_)
    refine wpAny_bind (listUpdate_at na1 rfl ?_ (Nat.zero_le _) (by
      show ((arrOf st).map (·.2)).size ≤ _
      rw [hlen2]
      exact Nat.le_succ_of_le hz))
    rw [hf]
    simp only [bne_self_eq_false, Bool.false_eq_true, if_false]
    refine wpAny_pure ?_
    obtain ⟨c3, hc3⟩ : ∃ c3, ((s.heap.update kS (Obj.mapSeq fun _ => (#[] : Array Value))).update a (Obj.mapSeq fun _ => (arrOf st).map (·.2))).get? a = some (seqObj "list" ((arrOf st).map (·.2)) c3) := ⟨_, get?_update_seq na1 fun _ => (arrOf st).map (·.2)⟩
    have ea : ((isort (ltA key) ts).map Value.ref).toArray = (arrOf st).map (·.2) := by
      rw [← hout]
      apply Array.ext'
      simp
    have rr : Vals ((isort (ltA key) ts).map V.ref) ((isort (ltA key) ts).map Value.ref) := by
      generalize isort (ltA key) ts = l
      induction l with
      | nil => exact .nil
      | cons x l ih => exact .cons rfl ih
    have I3 := inv_track (t' := s.toks) (o := .lst ((isort (ltA key) ts).map V.ref)) (h' := (s.heap.update kS (Obj.mapSeq fun _ => (#[] : Array Value))).update a (Obj.mapSeq fun _ => (arrOf st).map (·.2))) I2 fa2 (fun b u hb q => (Heap.get?_update_ne _ _ _ _ hb).trans q)
      ⟨by rw [List.length_map, hlo]; exact hz, _, c3, rr, by rw [ea]; exact hc3⟩
    exact hq _ _ I3 (fun b h1 h2 => by rw [upd_ne h2, upd_ne h1]) upd_same
  unfold ksk_end
  try dsimp only
  simp only [Bool.false_eq_true, if_false]
  have hsz : (ts.map Value.ref).toArray.size = ts.length := by simp
  by_cases h2 : (ts.map Value.ref).toArray.size < 2
  · rw [if_pos h2, if_pos h2]
    refine wpAny_bind (wpAny_pure ?_)
    rw [StateT.run_pure]
    refine wpAny_bind (wpAny_pure ?_)
    try dsimp only
    refine tail (SortSt.mk' general' (its.toArray.zip (ts.map Value.ref).toArray) #[] 7 none) ?_ (Stb.refl _) rfl
    have hl : (its.toArray.zip (ts.map Value.ref).toArray).toList.length < 2 := by
      rw [Array.length_toList, Array.size_zip, hsz, List.size_toArray, hlen]
      omega
    show Srtd ltKd (its.toArray.zip (ts.map Value.ref).toArray).toList
    match q : (its.toArray.zip (ts.map Value.ref).toArray).toList, hl with
    | [], _ => exact List.Pairwise.nil
    | [v], _ => exact List.pairwise_singleton _ _
    | _ :: _ :: l, h => simp at h; omega
  · rw [if_neg h2, if_neg h2]
    have hk2 : 2 ≤ its.toArray.size := by
      rw [List.size_toArray, hlen]
      omega
    rw [kd_kind (keys := its.toArray) (by simpa using hstr) hk2]
    refine wpAny_bind (wpAny_pure ?_)
    have hall : AllL (fun p : Keyed => ∃ x t, p.1 = Value.str x t) (its.toArray.zip (ts.map Value.ref).toArray).toList := fun p hp => by
      have z : (its.toArray.zip (ts.map Value.ref).toArray).toList = its.zip (ts.map Value.ref) := by simp
      rw [z] at hp
      obtain ⟨x, t, e⟩ := hstr.all _ (List.of_mem_zip hp).1
      exact ⟨x, t, e⟩
    refine wpAny_bind (wpAny_mono (wpS_sortO (st0 := SortSt.mk' oneType' (its.toArray.zip (ts.map Value.ref).toArray) #[] 7 none)
      (Q := fun _ st' => Srtd ltKd (arrOf st').toList ∧ Stb ltKd (arrOf st').toList (its.toArray.zip (ts.map Value.ref).toArray).toList ∧ failedOf st' = none) swo_ltKd kd_cmp rfl hall rfl rfl fun st' a1 a2 a3 => ⟨a1, a2, a3⟩) ?_ fun _ _ e => e)
    rintro ⟨⟨⟩, st'⟩ s' ⟨rfl, hp1, hp2, hf⟩
    try dsimp only
    exact tail st' hp1 hp2 hf
theorem small1000' {n : Nat} (h : n ≤ 1000) : n ≤ sizeLine := by
  rw [sizeLine_eq]
  omega
theorem vals_refs : ∀ {ts : List Addr} {its : List Value}, Vals (ts.map V.ref) its → its = ts.map Value.ref
  | [], _, .nil => rfl
  | _ :: _, _, .cons r t => by
    rw [vals_refs t]
    cases r
    rfl
theorem keyed_rest {f : Value} {s : Shared} {H H' : Hp} {a kS : Addr} {e1 : Nat} {key : Addr → Str} {ts : List Addr} {Q : PySem.Fin → Shared → Prop} {E : Value → Shared → Prop}
    (I : Inv X ((a, seqObj "list" #[] e1) :: P) σ H s) (fa : FpOk X P H a) (hk : H kS = some (.lst [])) (hz : ts.length ≤ 1000) (hT : KeyTurn X P σ f key ts H')
    (hH : ∀ b o, H' b = some o → H b = some o) (hkn : H' kS = none)
    (hq : ∀ s' H2, Inv X P σ H2 s' → (∀ b, b ≠ kS → b ≠ a → H2 b = H b) → H2 a = some (.lst ((isort (ltA key) ts).map V.ref)) → Q (.done (.ret .none)) s') :
    wpAny (model X.prog X.w) X.A.in1.in1 (ksk_rest a f false (ts.map Value.ref).toArray e1 (.ref kS)) Q E s := by
  have hz' : ts.length ≤ sizeLine := small1000' hz
  unfold ksk_rest
  refine wpAny_bind (wpAny_rule ?_)
  first
    | rw [List.forIn_toArray]
    | (rw [← Array.forIn_toList]; simp only [List.toList_toArray])
    | rw [← Array.forIn_toList]
  refine wpAny_bind (ksk_fold (fun i s' => Inv X ((a, seqObj "list" #[] e1) :: P) σ (upd H kS (.lst ((ts.take i).map fun t => V.str (key t)))) s') (ts.map Value.ref) 0 s ?start ?step ?done)
  case start =>
    have e : upd H kS (.lst ((ts.take 0).map fun t => V.str (key t))) = H := by
      funext b
      by_cases hb : b = kS
      · rw [hb, upd_same, hk]
        rfl
      · rw [upd_ne hb]
    rw [e]
    exact I
  case step =>
    rintro j x s' hx J
    simp only [Nat.zero_add] at J ⊢
    obtain ⟨t, ht, rfl⟩ : ∃ t, ts[j]? = some t ∧ x = Value.ref t := by
      rw [List.getElem?_map] at hx
      cases q : ts[j]? with
      | none =>
        rw [q] at hx
        cases hx
      | some t =>
        rw [q] at hx
        exact ⟨t, rfl, (Option.some.inj hx).symm⟩
    have hj : j < ts.length := (List.getElem?_eq_some_iff.mp ht).1
    refine wpAny_bind (wpAny_attempt (wpAny_mono (hT [(a, seqObj "list" #[] e1)] s' _ t (List.mem_of_getElem? ht) (fun b o e => by rw [upd_ne (ne_of_none e hkn)]; exact hH b o e) J) (fun v s2 he => ?_) fun _ _ hF => hF.elim))
    obtain ⟨J2, tk, rfl⟩ := he
    try dsimp only
    obtain ⟨_, its, nk, rk, ok⟩ := J2.hok kS _ upd_same
    have hl : its.length = j := by
      have z := rk.length
      rw [List.length_map, List.length_take] at z
      omega
    obtain ⟨c2, hc2⟩ : ∃ c2, (s2.heap.update kS (Obj.mapSeq (·.push (.str (key t) tk)))).get? kS = some (seqObj "list" (its.toArray.push (.str (key t) tk)) c2) := ⟨_, get?_update_seq ok (·.push (.str (key t) tk))⟩
    have et : (ts.take (j + 1)).map (fun t => V.str (key t)) = (ts.take j).map (fun t => V.str (key t)) ++ [V.str (key t)] := by rw [List.take_add_one, ht]; simp
    have ea : its.toArray.push (Value.str (key t) tk) = (its ++ [Value.str (key t) tk]).toArray := by simp
    refine wpAny_bind (listUpdate_at ok rfl ?_ (by rw [List.size_toArray, hl]; exact Nat.le_trans (Nat.le_of_lt hj) hz') (Nat.le_trans (Nat.le_of_eq (Array.size_push ..)) (by rw [List.size_toArray, hl]; exact Nat.le_succ_of_le (Nat.le_trans hj hz'))))
    refine wpAny_pure ⟨rfl, ?_⟩
    have J3 := J2.write (t' := s2.toks) (x := kS) (e := kS) (o := .lst ((ts.take (j + 1)).map fun t => V.str (key t))) (h' := s2.heap.update kS (Obj.mapSeq (·.push (.str (key t) tk)))) (by rw [upd_same]; trivial) (.inl rfl)
      (fun b u hb q => (Heap.get?_update_ne _ _ _ _ hb).trans q) ⟨_, hc2⟩ ⟨by rw [List.length_map, List.length_take]; omega, its ++ [Value.str (key t) tk], c2, by rw [et]; exact rk.append (.cons ⟨tk, rfl⟩ .nil), by rw [← ea]; exact hc2⟩
    rw [upd_upd] at J3
    exact J3
  case done =>
    rintro s' J
    have e3 : ts.take (0 + (ts.map Value.ref).length) = ts := List.take_of_length_le (by rw [List.length_map]; omega)
    rw [e3] at J
    have hka : kS ≠ a := fun z => by
      rw [z, fa.1] at hk
      cases hk
    exact keyed_end J ⟨(upd_ne hka.symm).trans fa.1, fa.2⟩ upd_same hz' fun s2 H2 J2 h1 h2 => hq s2 H2 J2 (fun b hb1 hb2 => by rw [h1 b hb1 hb2, upd_ne hb1]) h2
/-- sorted(l, key=f) -/
theorem keyed_sorted {f : Addr} {s : Shared} {H : Hp} {l : Addr} {key : Addr → Str} {ts : List Addr} {Q : Value → Shared → Prop} {E : Value → Shared → Prop}
    (I : Inv X P σ H s) (hl : SqL X.K H l (ts.map V.ref)) (hz : ts.length ≤ 1000) (hT : KeyTurn X P σ (.ref f) key ts H)
    (hq : ∀ s' H' p, Inv X P σ H' s' → (∀ b o, H b = some o → H' b = some o) → H p = none → H' p = some (.lst ((isort (ltA key) ts).map V.ref)) → Q (.ref p) s') :
    wpAny (model X.prog X.w) X.A (call (.builtin "sorted") [.ref l] [(Str.ofString "key", .ref f)]) Q E s := by
  have hz' := small1000' hz
  obtain ⟨its, rv, hl, hzl⟩ := I.list hl
  have ei : its = ts.map Value.ref := vals_refs rv
  subst ei
  refine call_function_entry_kw kind_sorted plain_sorted entry_sorted (ksk_s1 _ _) ?_
  unfold Builtin.«sorted»
  refine wpAny_bind (m := checkCount "sorted" 1 1 _) (wpAny_pure ?_)
  refine wpAny_bind (collect_list hl.isList ?_ (by rw [List.length_map]; exact hz'))
  refine wpAny_bind (wpAny_newList ?_ (by rw [List.length_map]; exact hz'))
  have hsz : ((s.heap.push (seqObj "list" #[] 0)).update s.heap.objs.size (Obj.mapSeq (· ++ (ts.map Value.ref).toArray))).objs.size = s.heap.objs.size + 1 := by
    rw [Heap.size_update, size_push']
  have hoL : (((s.heap.push (seqObj "list" #[] 0)).update s.heap.objs.size (Obj.mapSeq (· ++ (ts.map Value.ref).toArray))).push (seqObj "list" (ts.map Value.ref).toArray 0)).get? (s.heap.objs.size + 1) = some (seqObj "list" (ts.map Value.ref).toArray 0) := by
    rw [← hsz]
    exact Heap.get?_push_size _ rfl
  have keep : ∀ b o, s.heap.get? b = some o → (((s.heap.push (seqObj "list" #[] 0)).update s.heap.objs.size (Obj.mapSeq (· ++ (ts.map Value.ref).toArray))).push (seqObj "list" (ts.map Value.ref).toArray 0)).get? b = some o := fun b o q => by
    refine Heap.get?_push_of_some _ ?_
    rw [Heap.get?_update_ne _ _ _ _ (Nat.ne_of_lt (Heap.lt_size q))]
    exact Heap.get?_push_of_some _ q
  show wpAny _ _ _ _ _ { s with heap := ((s.heap.push (seqObj "list" #[] 0)).update s.heap.objs.size (Obj.mapSeq (· ++ (ts.map Value.ref).toArray))).push (seqObj "list" (ts.map Value.ref).toArray 0) }
  rw [hsz]
  refine wpAny_bind (wpAny_holding (wpAny_call_entry_kw slot_list_sort ⟨_, hoL, rfl⟩ entry_list_sort ?body (ksk_l1 _ _)))
  case body =>
    show wpAny (model X.prog X.w) X.A.in1.in1 (Builtin.«list.sort» ⟨[.ref (s.heap.objs.size + 1)], [(Str.ofString "key", .ref f)]⟩) _ _ _
    rw [ksk_t1]
    generalize hA : s.heap.objs.size + 1 = a at hoL
    generalize hh1 : ((s.heap.push (seqObj "list" #[] 0)).update s.heap.objs.size (Obj.mapSeq (· ++ (ts.map Value.ref).toArray))).push (seqObj "list" (ts.map Value.ref).toArray 0) = h1 at hoL keep
    have fa : FpOk X P H a := I.fpOk (by omega) (I.hok.fresh (by omega))
    have haS : s.heap.objs.size ≤ a := by omega
    have nea : ∀ b o, s.heap.get? b = some o → b ≠ a := fun b o q => Nat.ne_of_lt (Nat.lt_of_lt_of_le (Heap.lt_size q) haS)
    unfold ksk_tree
    refine wpAny_bind (listItems_at hoL rfl ?_)
    refine wpAny_bind (listUpdate_at hoL rfl ?_ (by rw [List.size_toArray, List.length_map]; exact hz') (Nat.zero_le _))
    obtain ⟨e1, ho1⟩ : ∃ e1, (h1.update a (Obj.mapSeq fun _ => (#[] : Array Value))).get? a = some (seqObj "list" #[] e1) := ⟨_, get?_update_seq hoL fun _ => #[]⟩
    refine wpAny_bind (seqEpoch_at ho1 rfl ?_)
    refine wpAny_bind (wpAny_newTuple ?_ (by rw [List.length_map]; exact hz'))
    refine wpAny_bind (wpAny_newList ?_ (Nat.zero_le _))
    refine wpAny_holding ?_
    have kp : ∀ b o, s.heap.get? b = some o → (((h1.update a (Obj.mapSeq fun _ => (#[] : Array Value))).push (seqObj "tuple" (ts.map Value.ref).toArray 0)).push (seqObj "list" #[] 0)).get? b = some o := fun b o q =>
      Heap.get?_push_of_some _ (Heap.get?_push_of_some _ ((Heap.get?_update_ne _ _ _ _ (nea b o q)).trans (keep b o q)))
    generalize hkS : ((h1.update a (Obj.mapSeq fun _ => (#[] : Array Value))).push (seqObj "tuple" (ts.map Value.ref).toArray 0)).objs.size = kS
    have hkle : s.heap.objs.size ≤ kS := by
      have z1 := Heap.lt_size ho1
      rw [← hkS, size_push']
      exact Nat.le_trans haS (Nat.le_of_lt (Nat.lt_succ_of_lt z1))
    have hak : a < kS := by
      have z1 := Heap.lt_size ho1
      rw [← hkS, size_push']
      exact Nat.lt_succ_of_lt z1
    have goa : (((h1.update a (Obj.mapSeq fun _ => (#[] : Array Value))).push (seqObj "tuple" (ts.map Value.ref).toArray 0)).push (seqObj "list" #[] 0)).get? a = some (seqObj "list" #[] e1) := Heap.get?_push_of_some _ (Heap.get?_push_of_some _ ho1)
    have gok : (((h1.update a (Obj.mapSeq fun _ => (#[] : Array Value))).push (seqObj "tuple" (ts.map Value.ref).toArray 0)).push (seqObj "list" #[] 0)).get? kS = some (seqObj "list" #[] 0) := by
      rw [← hkS]
      exact Heap.get?_push_size _ rfl
    have I1 : Inv X P σ (upd H kS (.lst [])) { s with heap := ((h1.update a (Obj.mapSeq fun _ => (#[] : Array Value))).push (seqObj "tuple" (ts.map Value.ref).toArray 0)).push (seqObj "list" #[] 0) } :=
      I.laid (t' := s.toks) kp hkle ⟨Nat.zero_le _, [], 0, .nil, gok⟩
    have hkn : H kS = none := I.hok.fresh hkle
    have fa1 : FpOk X P (upd H kS (.lst [])) a := ⟨(upd_ne (Nat.ne_of_lt hak)).trans fa.1, fa.2⟩
    have I2 : Inv X ((a, seqObj "list" #[] e1) :: P) σ (upd H kS (.lst [])) { s with heap := ((h1.update a (Obj.mapSeq fun _ => (#[] : Array Value))).push (seqObj "tuple" (ts.map Value.ref).toArray 0)).push (seqObj "list" #[] 0) } :=
      I1.pins_of fun p hp => by
        rcases List.mem_cons.mp hp with e | e
        · rw [e]
          exact ⟨goa, fa1.1, fa1.2.1, fa1.2.2.1, fun v z => nomatch z⟩
        · exact I1.pin p (List.mem_append_right _ e)
    refine keyed_rest (H' := H) I2 fa1 upd_same hz hT (fun b o e => by rw [upd_ne (ne_of_none e hkn)]; exact e) hkn fun s2 H2 J2 k1 k2 => ⟨_, rfl, ?_⟩
    refine wpAny_pure ⟨_, rfl, ?_⟩
    refine hq s2 H2 a J2 (fun b o e => ?_) fa.1 k2
    rw [k1 b (ne_of_none e hkn) (ne_of_none e fa.1), upd_ne (ne_of_none e hkn)]
    exact e
end
/-! ### the expression -/
open LamX
/-- sorted(e, key=lambda x: ..): tb the lambda's body, N its names -/
def tSortL (K : PySem.W.Frag) (T : List (Addr × Str)) (N : List Str) (te tb : TE) : TE := fun σ H Q => te σ H fun x H1 => ∃ (l : Addr) (ts : List Addr) (key : Addr → Str), x = .ref l ∧ Tabs T H1 ∧ SqL K H1 l (ts.map V.ref) ∧ ts.length ≤ 1000 ∧
  ∀ H2, ExtN H1 H2 → Tabs T H2 → (∀ t ∈ ts, ∀ H', (∀ b o, H2 b = some o → H' b = some o) → tb (start N [.ref t]) H' fun y H'' => y = .str (key t) ∧ H'' = H') ∧
    ∀ p H3, (∀ b o, H2 b = some o → H3 b = some o) → H2 p = none → H3 p = some (.lst ((isort (ltA key) ts).map V.ref)) → Q (.ref p) H3
theorem pe_sortedLam {X : Cx} {T : List (Addr × Str)} {c P : Addr} {k : Nat} {N : List Str} {a : Str} {params : Arguments} {body : Expr} {scope : Scope} {e : Expr} {te tb : TE} {p lpos kpos pos : Pos}
    (he : PE X e te) (hg : Gl X "sorted") (hm : X.mg "sorted" = none) (TB : TabB X.base X.mg c P) (hcode : X.env.code = .ref c) (hmT : (P, X.env.qual ++ "<lambda>") ∈ T) (hu : ∀ p ∈ T, p.1 = P → p.2 = X.env.qual ++ "<lambda>")
    (hr : Room (k + 4) X.A) (S : FnScope N [a] scope) (hdef : defaultsOf params X.env = ([], []))
    (hbind : ∀ (q : Str) (pm cv ctv u : Value), bindArgs (PySem.W.kla_fn "<lambda>" q params body scope [] pm cv ctv) ⟨[u], []⟩ = pure ([a].zip [u]))
    (hbody : ∀ (A : Around) (outer : List Env) (s : Shared) (H : Hp) (f c' : Addr), Room k (A.deeper (envOfC (X.env.qual ++ "<lambda>") scope s.heap.objs.size f (.ref c'))) →
      PE (cxOf CX0 X.prog X.w X.K X.mg X.base N (X.env.qual ++ "<lambda>") scope f (.ref c') A outer s H (fun _ _ _ => False)) body tb)
    (hv : bootBuiltins "sorted" = some (.builtin "sorted") := by decide +kernel) (hs : starEach [e] X.env = (false, eval e X.env) :: starEach [] X.env := by rfl) :
    PE X (.Call (.Name "sorted" p) [e] [⟨some (Str.ofString "key"), .Lambda params body scope lpos, kpos⟩] pos) (tSortL X.K T N te tb) := by
  refine ⟨fun pins s σ H Q I h => ?_⟩
  have hclo : cloFrom X.env.cells scope.names [] = [] := by
    have key : ∀ (l : List (Str × NameKind)), (∀ y ∈ l, y.2 ≠ .free) → cloFrom X.env.cells l [] = [] := by
      intro l
      induction l with
      | nil =>
        intro _
        rfl
      | cons y r ih =>
        intro hl
        obtain ⟨n, kd⟩ := y
        have h1 : ¬ (kd == NameKind.free) = true := fun z => hl (n, kd) List.mem_cons_self (by simpa using z)
        unfold cloFrom
        rw [if_neg h1]
        exact ih fun z hz => hl z (List.mem_cons_of_mem _ hz)
    exact key _ S.nofree
  refine wpAny_Call_Name_kw (ld_blt I hg hm hv ?_ (by decide) (by decide))
  refine PyProof.Rows.callWith_kw ?_ (by rw [hs]; rfl) (by rw [hs]; rfl)
  rw [hs]
  show wpAny _ _ (spliced ((false, eval e X.env) :: backTo pos (starEach [] X.env))) _ _ s
  refine Calls.spliced_cons (thn (he.run pins s σ H _ I h) fun u s1 ⟨x, H1, I1, r1, q1⟩ => ?_)
  refine Calls.spliced_nil ?_
  obtain ⟨l, ts, key, rfl, hT, hl, hz, q⟩ := q1
  obtain rfl : u = Value.ref l := r1
  show wpAny _ _ (evalAll ((do let v ← eval (.Lambda params body scope lpos) X.env; standAt pos; pure v) :: [])) _ _ s1
  have hfree : ∀ y ∈ scope.names, y.2 = .free → ∃ c, X.env.cells.lookup y.1 = some c := fun y hy z => absurd z (S.nofree y hy)
  refine wpAny_evalAll_cons (wpAny_bind (lam_make2 I1 TB hcode hmT hu hT hdef hfree fun f c' pm ctv H2 s2 I2 eN T2 hf hfn hfr hco => wpAny_bind (wpAny_standAt (wpAny_pure ?_))))
  refine wpAny_evalAll_nil ?_
  rw [hclo] at hf
  obtain ⟨q1, q2⟩ := q H2 eN T2
  have hl2 : SqL X.K H2 l (ts.map V.ref) := by
    rcases hl with (z | ⟨o, z⟩) | z
    · exact .inl (.inl (eN _ _ z fun ps y => nomatch y))
    · exact .inl (.inr ⟨o, eN _ _ z fun ps y => nomatch y⟩)
    · exact .inr z
  have I3 : Inv X ((f, PySem.W.kla_obj "<lambda>" (X.env.qual ++ "<lambda>") params body scope [] pm c' ctv) :: pins) σ H2 s2 := I2.pins_of fun pp hp => by
    rcases List.mem_cons.mp hp with z | z
    · rw [z]
      refine ⟨hf, hfn, fun y => ?_, fun y => hfr ?_, fun v y => nomatch y⟩
      · obtain ⟨m, ⟨o, es, ep, ho, hd, _⟩, _⟩ := I2.loc
        have y' : f = X.env.locals := y
        rw [← y', hf] at ho
        cases ho
        cases hd
      · rcases I2.ok.stk with w | ⟨w, hw⟩
        · rw [w]
          exact y
        · rw [w]
          obtain ⟨en, h1, h2⟩ := List.mem_filterMap.mp (show f ∈ frs X.outer from y)
          exact List.mem_filterMap.mpr ⟨en, List.mem_cons_of_mem _ h1, h2⟩
    · exact I2.pin pp (List.mem_append_right _ z)
  show wpAny _ _ (call (.builtin "sorted") [.ref l] [(Str.ofString "key", .ref f)]) _ _ s2
  have hk : KeyTurn X ((f, PySem.W.kla_obj "<lambda>" (X.env.qual ++ "<lambda>") params body scope [] pm c' ctv) :: pins) σ (.ref f) key ts H2 := by
    intro P1 s3 H' t ht hH J
    have hf3 : s3.heap.get? f = some (PySem.W.kla_obj "<lambda>" (X.env.qual ++ "<lambda>") params body scope [] pm c' ctv) := (J.pin (f, _) (List.mem_append_right _ (List.mem_append_right _ List.mem_cons_self))).1
    obtain ⟨⟨oc, vs, tq, hoc, hdc, hvc⟩, _, _⟩ := J.hok c' _ (hH _ _ hco)
    have rc : s3.heap.CodeRec (.ref c') (X.env.qual ++ "<lambda>") := ⟨c', oc, vs, tq, rfl, hoc, hdc, hvc⟩
    have e1 : Env0 X.prog X.w X.K X.mg X.base X.A.in1.in1 X.stack s3 H' := J.env0.in1.in1
    have hr1 : Room (k + 1 + 1) X.A.in1.in1 := (Room.in1 (k := k + 2) (Room.in1 (k := k + 3) hr))
    refine wpAny_call (codeAny_mono (lam_call (k := k + 1) (E := fun _ _ _ => False) (CX := CX0) S hf3 rc (hbind _ _ _ _ _) e1 hr1 (vs := [V.ref t]) (us := [Value.ref t]) (.cons rfl .nil) rfl (hbody _ _ _ _ _ _ ((Room.deeper hr1 _).mono (by omega))) (q1 t ht H' hH)) fun r s' hq => ?_)
    cases r with
    | error e => exact (show False from hq).elim
    | ok fl =>
      cases fl with
      | ret u =>
        obtain ⟨v, H4, J4, rv, ev, eH⟩ := J.after hq
        subst ev
        subst eH
        obtain ⟨tk, rfl⟩ := rv
        exact ⟨J4, tk, rfl⟩
      | next => exact False.elim hq
      | brk => exact False.elim hq
      | cont => exact False.elim hq
  refine keyed_sorted I3 hl2 hz hk fun s4 H4 p J4 k1 k2 k3 => ?_
  exact ⟨V.ref p, H4, J4.pins_of fun pp hp => J4.pin pp (List.mem_append_right _ (List.mem_cons_of_mem _ hp)), rfl, q2 p H4 k1 k2 k3⟩
end K86
/-! K86RuleEnum: for i, x in enumerate(a list or a tuple); a walk over a dict that is locked here or already locked. -/
namespace K86
open PySem PySem.Spec PyProof.Rows L2

set_option maxHeartbeats 1000000 in
theorem meets_enum1 {v : Value} {o : Obj} {H : Heap → Prop} (B : Begins v o H) :
    Meets (Builtin.«enumerate.__new__» ⟨[.type "enumerate", v], []⟩) (fun _ R s => H s.heap ∧
      R (.ok (.ret (.ref (s.heap.push o).objs.size))) { s with heap := (s.heap.push o).push { cls := .type "enumerate", data := .fields #[.none, .bool false, .ref s.heap.objs.size, rawInt 0, .none, .none] } }) :=
  .of_wp fun prog w A R s h => by
    obtain ⟨hp, g, d, tk, os⟩ := s; obtain ⟨h1, h⟩ := h
    have hsub := sub_enumerate
    have q1 : ∀ {A' : Around} {E : Value → Shared → Prop} {Q : Value → Shared → Prop}, Q (.ref hp.objs.size) ⟨hp.push o, g, d, tk, os⟩ → wpAny (model prog w) A' (pyIter v) Q E ⟨hp, g, d, tk, os⟩ :=
      fun q => B.iter prog w _ _ ⟨hp, g, d, tk, os⟩ _ h1 q
    wp_walk using q1
    refine wpAny_stack_any fun st => wpAny_pure ?_
    split
    · rename_i c _ _ _ _ _
      cases (c == Value.type "enumerate")
      · wp_walk using q1
        exact ⟨_, rfl, h⟩
      · wp_walk using q1
        exact ⟨_, rfl, h⟩
    · wp_walk using q1
      exact ⟨_, rfl, h⟩
section
variable {prog : Program} {w : World} {A : Around} {E : Value → Shared → Prop} {s : Shared}
theorem enum_begins1 {v : Value} {o : Obj} {H : Heap → Prop} {Q : Value → Shared → Prop} (B : Begins v o H) (h1 : H s.heap)
    (h : ∀ h', IsEnum h' (s.heap.objs.size + 1) s.heap.objs.size 0 .none → h'.get? s.heap.objs.size = some o → h'.objs.size = s.heap.objs.size + 2 →
      (∀ b o, s.heap.get? b = some o → h'.get? b = some o) → Q (.ref (s.heap.objs.size + 1)) { s with heap := h' }) :
    wpAny (model prog w) A (call (.type "enumerate") [v]) Q E s := by
  refine callType_new F.called_enumerate (by decide) (F.typeCall_enumerate_1 _) (F.newCall_enumerate_1 _) (fun obj => F.args_object_init_2 obj _) F.entry_enumerate_new
    (meets_enum1 B) ⟨h1, ?_⟩
  have hz : (s.heap.push o).objs.size = s.heap.objs.size + 1 := Heap.size_push ..
  show _ ∧ _
  rw [hz]
  have he : IsEnum ((s.heap.push o).push { cls := .type "enumerate", data := .fields #[.none, .bool false, .ref s.heap.objs.size, rawInt 0, .none, .none] }) (s.heap.objs.size + 1) s.heap.objs.size 0 .none := by
    have := Heap.get?_push_size (s.heap.push o) (o := { cls := .type "enumerate", data := .fields #[.none, .bool false, .ref s.heap.objs.size, rawInt 0, .none, .none] }) rfl
    rw [hz] at this; exact this
  refine ⟨⟨_, he, rfl⟩, h _ he (Heap.get?_push_of_some _ (Heap.get?_push_size _ B.free)) (by rw [Heap.size_push, hz]) fun b o x => Heap.get?_push_of_some _ (Heap.get?_push_of_some _ x)⟩
end
/-- the tuple at a, each item in a new pair -/
def IteT (K : PySem.W.Frag) (a : Addr) : It :=
  ⟨fun i H => ∃ (xs : List V) (x : V), SqT K H a xs ∧ xs[i]? = some x, fun i H v H' => ∃ T x, v = .ref T ∧ H T = none ∧ H' = upd H T (.tup [.int (i : Nat), x]) ∧ ∀ xs, SqT K H a xs → xs[i]? = some x, fun i H => ∃ xs : List V, SqT K H a xs ∧ xs.length ≤ i⟩
theorem turn_enumT {P : Program} {w : World} {K : PySem.W.Frag} {elts : List Expr} {kk : Nat} {tpos : Pos} (a e it : Addr) :
    Turn P w K (.Tuple elts kk tpos) (IteT K a) [e, it] e (fun i h => (∃ old, IsEnum h e it ((i : Nat) : Int) old) ∧ h.IsTupleIter it a i ∧ e ≠ it) where
  mem := by simp
  obj := fun i h st b hb => by
    obtain ⟨⟨old, he⟩, ⟨o, ho, hc, hd⟩, _⟩ := st
    have e' : b = e ∨ b = it := by simpa using hb
    rcases e' with z | z
    · rw [z]; exact ⟨_, he, fun v q => nomatch q⟩
    · rw [z]; exact ⟨o, ho, fun v q => by rw [hd] at q; cases q⟩
  keep := fun i h h' st k => let ⟨⟨old, he⟩, hi, hne⟩ := st; ⟨⟨old, k e (by simp) _ he⟩, hi.at fun o q => k it (by simp) o q, hne⟩
  item := by
    intro X hP hw hK hc i pins s σ H E I hf st hg
    subst hP hw hK
    obtain ⟨⟨old, he⟩, hit, hne⟩ := st
    obtain ⟨xs, x, hq, hx⟩ := hg
    obtain ⟨its, rv, p, hz⟩ := I.tuple hq
    obtain ⟨u, hu, ru⟩ := rv.get hx
    have hel : e < s.heap.objs.size := Heap.lt_size he
    have hil : it < s.heap.objs.size := by obtain ⟨_, q, _⟩ := hit; exact Heap.lt_size q
    have p' : s.heap.IsTuple a its.toArray := p
    have nai : a ≠ it := fun z => by
      obtain ⟨o1, q1, c1, _⟩ := hit
      obtain ⟨o2, q2, c2, _⟩ := p'
      rw [z, q1] at q2
      cases q2
      rw [c1] at c2
      exact absurd (Value.type.inj c2) (by decide)
    have nae : a ≠ e := fun z => by
      obtain ⟨o2, q2, c2, _⟩ := p'
      rw [z, he] at q2
      cases q2
      exact absurd (Value.type.inj c2) (by decide)
    have hu' : its.toArray[i]? = some u := by simpa using hu
    refine wpAny_pyNext_enum_itemC (Draws.tuple (show X.A.in1.handled = none from I.ok.hd hc) it a nai its.toArray) he ⟨hit, p'⟩ (Array.getElem?_eq_some_iff.mp hu').1 hne (by simp [hne, nae.symm]) fun x' h' tk hP ho hst' hT hsz hk => ?_
    have ex : x' = u := Option.some.inj (hP.symm.trans hu')
    subst ex
    obtain ⟨hit', _⟩ := hst'
    refine ⟨_, rfl, wpAny_letOwnedTupleGo_enum (s := { s with heap := h', toks := tk + 1 }) ho fun h'' he' sb => ?_⟩
    have hT2 : h''.get? s.heap.objs.size = some { cls := .type "tuple", data := .seq #[.int i tk, x'] } := (sb.2 _ (Nat.ne_of_gt hel)).trans hT
    have new : ObjOk X.prog X.w (upd H s.heap.objs.size (.tup [.int (i : Nat), x])) h'' s.heap.objs.size (.tup [.int (i : Nat), x]) :=
      ⟨by show 2 ≤ sizeLine; decide, [.int i tk, x'], .cons ⟨_, rfl⟩ (.cons ru .nil), ⟨_, hT2, rfl, _, rfl⟩⟩
    have I1 : Inv X pins σ (upd H s.heap.objs.size (.tup [.int (i : Nat), x])) { s with heap := h'', toks := tk + 1 } :=
      I.turnedNew (ch := [e, it]) (fun b ob hb q => (sb.2 b (fun z => hb (by simp [z]))).trans (hk b ob (fun z => hb (by simp [z])) (fun z => hb (by simp [z])) q)) hf (Nat.le_refl _) new
    refine ⟨.ref s.heap.objs.size, _, I1, rfl, ⟨_, x, rfl, I.hok.fresh (Nat.le_refl _), rfl, fun ys hy => by rw [I.tuple_inj hy hq]; exact hx⟩, ⟨⟨x', ?_⟩, hit'.at fun o q => (sb.2 it (Ne.symm hne)).trans q, hne⟩, fun b hb => ?_⟩
    · have e1 : ((i + 1 : Nat) : Int) = (i : Int) + 1 := by omega
      rw [e1]; exact he'
    · have hb' : b < s.heap.objs.size := by
        have e' : b = e ∨ b = it := by simpa using hb
        rcases e' with z | z
        · rw [z]; exact hel
        · rw [z]; exact hil
      rw [upd_ne (Nat.ne_of_lt hb')]
      exact (hf b hb).1
  done := by
    intro X hP hw hK hc i pins s σ H E I hf st hg
    subst hP hw hK
    obtain ⟨⟨old, he⟩, hit, hne⟩ := st
    obtain ⟨xs, hq, hx⟩ := hg
    obtain ⟨its, rv, p, hz⟩ := I.tuple hq
    obtain ⟨f0, f1, f2, f3, f4, f5⟩ := hf it (by simp)
    have hl := rv.length
    have hT : s.TypeIs (.ref e) "enumerate" := ⟨_, he, rfl⟩
    have p' : s.heap.IsTuple a its.toArray := p
    have hx0 : its.toArray[i]? = none := by simp; omega
    unfold pyNext
    refine wpAny_bind (wpAny_attempt (wpAny_callSpecial?_slot (name := Str.ofString "__next__") hT F.slot_enumerate_next
      (wpAny_call_entry F.slot_enumerate_next hT F.entry_enumerate_next ?_ (F.args_enumerate_next_1 _))))
    show wpAny _ _ (field (.ref e) 2 >>= _) _ _ _
    refine wpAny_bind (wpAny_field he rfl (x := .ref it) rfl ?_)
    refine wpAny_bind (wpAny_nextOf_tuple_end (I.ok.hd hc) hit p' hx0 fun h' x he' hx' => ?_)
    obtain ⟨o, ho, hc'⟩ := hx'
    refine wpAny_bind (wpAny_isInstance (T := "StopIteration") (b := true) ⟨o, ho, hc'⟩ isSubtype_stop ?_)
    exact wpAny_pure ⟨rfl, I.turned (t' := s.toks) (fun b o hb q => he' b o hb q) f0 f1 f3 f4 f5⟩
  self := fun A i s Q E st h => let ⟨⟨_, he⟩, _⟩ := st; wpAny_pyIter_enum he h
def iEnumA (K : PySem.W.Frag) (ta : TA) : TI := fun σ H R => ta σ H fun vs H1 => ∃ a xs, vs = [.ref a] ∧ ((SqL K H1 a xs ∧ R (Ite K a) H1) ∨ (SqT K H1 a xs ∧ R (IteT K a) H1))
theorem pi_enumA {X : Cx} {e : Expr} {ta : TA} {p pos tpos : Pos} {elts : List Expr} {kk : Nat} (hg : Gl X "enumerate") (hm : X.mg "enumerate" = none) (ha : PA X [e] ta) (hs : starEach [e] X.env = [(false, eval e X.env)] := by rfl) :
    PI X (.Tuple elts kk tpos) (.Call (.Name "enumerate" p) [e] [] pos) (iEnumA X.K ta) := by
  refine ⟨fun pins s σ H R I h => ?_⟩
  refine Call_ (ld_blt I hg hm boot_enumerate (PyProof.Rows.callWith_type1 (thn (ha.run pos pins s σ H _ I h) fun us s1 ⟨vs, H1, I1, r1, q1⟩ => ?_) hs rfl))
  obtain ⟨a, xs, ex, q1⟩ := q1
  subst ex
  cases r1 with
  | cons r rr =>
    cases rr
    cases r
    have fin : ∀ h' : Heap, ∀ b ∈ [s1.heap.objs.size + 1, s1.heap.objs.size], FpOk X pins H1 b := fun h' b hb => by
      have e' : b = s1.heap.objs.size + 1 ∨ b = s1.heap.objs.size := by simpa using hb
      have hle : s1.heap.objs.size ≤ b := by
        rcases e' with z | z
        · rw [z]; exact Nat.le_add_right _ _
        · rw [z]; exact Nat.le_refl _
      exact I1.fpOk hle (I1.hok.fresh hle)
    rcases q1 with ⟨hq, q⟩ | ⟨hq, q⟩
    · obtain ⟨its, rv, p', hz⟩ := I1.list hq
      refine call_enumerate_list p'.isList fun h' he hit hsz hk => wpAny_pyIter_enum he ?_
      have I2 : Inv X pins σ H1 { s1 with heap := h' } := I1.kept (t' := s1.toks) hk
      exact ⟨s1.heap.objs.size + 1, [s1.heap.objs.size + 1, s1.heap.objs.size], _, _, H1, rfl, I2, turn_enum a (s1.heap.objs.size + 1) s1.heap.objs.size, ⟨⟨.none, he⟩, hit, Nat.succ_ne_self _⟩, fin h', q⟩
    · obtain ⟨its, rv, p', hz⟩ := I1.tuple hq
      have p2 : s1.heap.IsTuple a its.toArray := p'
      refine enum_begins1 (begins_tuple a its.toArray) p2 fun h' he hit hsz hk => wpAny_pyIter_enum he ?_
      have I2 : Inv X pins σ H1 { s1 with heap := h' } := I1.kept (t' := s1.toks) hk
      exact ⟨s1.heap.objs.size + 1, [s1.heap.objs.size + 1, s1.heap.objs.size], _, _, H1, rfl, I2, turn_enumT a (s1.heap.objs.size + 1) s1.heap.objs.size, ⟨⟨.none, he⟩, ⟨_, hit, rfl, rfl⟩, Nat.succ_ne_self _⟩, fin h', q⟩
theorem walk_enumT {K : PySem.W.Frag} {a : Addr} {xs : List V} : Walk (IteT K a) xs.length (fun H => SqT K H a xs) (YPair (fun i => some (.int (i : Nat))) (fun i => xs[i]?)) := by
  refine ⟨fun i _ hi q => ⟨xs, xs[i], q, by simp [hi]⟩, fun _ q => ⟨xs, q, Nat.le_refl _⟩, fun i H v H' _ q y => ?_⟩
  obtain ⟨T, x, h1, h2, h3, h4⟩ := y
  exact ⟨T, .int (i : Nat), x, h1, h2, h3, rfl, h4 xs q⟩

/-! ### a statement over a dict: locked here, or already locked -/
def tLockO (t : TS) : TS := fun D σ H => tLock t D σ H ∨ t D σ H
theorem ps_lockO {X : Cx} {st : Stmt} {t : TS} (h : PS X st t) : PS X st (tLockO t) := ⟨fun pins s σ H D I hw => Or.elim hw (fun z => (ps_lock h).run pins s σ H D I z) fun z => h.run pins s σ H D I z⟩
def tLockEO (t : TE) : TE := fun σ H Q => tLockE t σ H Q ∨ t σ H Q
theorem pe_lockO {X : Cx} {e : Expr} {t : TE} (h : PE X e t) : PE X e (tLockEO t) := ⟨fun pins s σ H Q I hw => Or.elim hw (fun z => (pe_lock h).run pins s σ H Q I z) fun z => h.run pins s σ H Q I z⟩
end K86
/-! K86Base: the text by places; what a call keeps; values in the heap. -/
namespace K86
open PySem PySem.Spec PyProof.Rows L2

/-! ### the text -/
def top (i : Nat) : Stmt := PySem.Challenge.pw_keysthroughtext_k86_whole_unsettled.main.body.getD i (.Pass ⟨0, 0, 0, 0⟩)

/-! ### defs as the head leaves them, defs that keep a promise -/
structure Dn (K : PySem.W.Frag) (mg : Str → Option Value) (x : Str) (st : Stmt) (kws : List (Str × V) := []) : Prop where
  ex : ∃ f fd, FunD K x x (defArgs st) (defBody st) (defScope st) [] kws f fd ∧ mg x = some (.ref f)
structure Dm (K : PySem.W.Frag) (C : Addr) (m qual : Str) (st : Stmt) (kws : List (Str × V) := []) : Prop where
  ex : ∃ f fd, FunD K m qual (defArgs st) (defBody st) (defScope st) [] kws f fd ∧ Meth K C m f
/-- a def of the module that keeps its promise -/
structure Has (P : Program) (w : World) (K : PySem.W.Frag) (mg : Str → Option Value) (base : Heap) (CX : CXT) (k : Nat) (x : Str) (ps : List Str) (sp : Sp) : Prop where
  ex : ∃ f fd, mg x = some (.ref f) ∧ PySem.W.keepIn K (.ref f) = true ∧ Binds K fd ps [] ∧ FnOk P w K mg base CX k f fd ps sp
/-- a method that keeps its promise -/
structure HasM (P : Program) (w : World) (K : PySem.W.Frag) (mg : Str → Option Value) (base : Heap) (CX : CXT) (k : Nat) (C : Addr) (m : Str) (ps : List Str) (sp : Sp) : Prop where
  ex : ∃ f fd, Meth K C m f ∧ Binds K fd ps [] ∧ FnOk P w K mg base CX k f fd ps sp

section
variable {P : Program} {w : World} {K : PySem.W.Frag} {mg : Str → Option Value} {base : Heap}
theorem Dn.has0 {x : Str} {st : Stmt} {N ps : List Str} {k : Nat} {sp : Sp} (D : Dn K mg x st) (S : FnScope N ps (defScope st)) (len : ∀ vs H Q E, sp vs H Q E → vs.length = ps.length)
    (hb : ∀ (kV doc pm : Value) (an : Option Addr) (cdv ct : Value) (us : List Value), us.length = ps.length → bindArgs (PySem.W.fnOf x x (defArgs st) (defBody st) (defScope st) .none kV doc pm an cdv ct) ⟨us, []⟩ = pure (ps.zip us))
    (hbody : ∀ (f : Addr) (cdv : Value) (A : Around) (outer : List Env) (s : Shared) (H : Hp) (vs : List V) (Q : VK) (E : XK), Room k (A.deeper (envOfC x (defScope st) s.heap.objs.size f cdv)) → sp vs H Q E →
      ∃ t, PSs (cxOf CX0 P w K mg base N x (defScope st) f cdv A outer s H E).nox (defBody st) t ∧ t { nx := fun _ H' => Q .non H', rt := Q } (start N vs) H) : Has P w K mg base CX0 (k + 1) x ps sp := by
  obtain ⟨f, fd, F, hm⟩ := D.ex
  refine ⟨f, fd, hm, F.kp, F.bindsN hb, F.ok S len fun cdv A outer s H vs Q E hr hsp => ?_⟩
  obtain ⟨t, h, q⟩ := hbody f cdv A outer s H vs Q E hr hsp
  exact ⟨t, h.nox, q⟩
theorem Dn.hasX {CX : CXT} {x : Str} {st : Stmt} {N ps : List Str} {k : Nat} {sp : Sp} (D : Dn K mg x st) (S : FnScope N ps (defScope st)) (len : ∀ vs H Q E, sp vs H Q E → vs.length = ps.length)
    (hb : ∀ (kV doc pm : Value) (an : Option Addr) (cdv ct : Value) (us : List Value), us.length = ps.length → bindArgs (PySem.W.fnOf x x (defArgs st) (defBody st) (defScope st) .none kV doc pm an cdv ct) ⟨us, []⟩ = pure (ps.zip us))
    (hbody : ∀ (f : Addr) (cdv : Value) (A : Around) (outer : List Env) (s : Shared) (H : Hp) (vs : List V) (Q : VK) (E : XK), Room k (A.deeper (envOfC x (defScope st) s.heap.objs.size f cdv)) → sp vs H Q E →
      ∃ t, PSs (cxOf CX P w K mg base N x (defScope st) f cdv A outer s H E) (defBody st) t ∧ t { nx := fun _ H' => Q .non H', rt := Q } (start N vs) H) : Has P w K mg base CX (k + 1) x ps sp := by
  obtain ⟨f, fd, F, hm⟩ := D.ex
  exact ⟨f, fd, hm, F.kp, F.bindsN hb, F.ok S len fun cdv A outer s H vs Q E hr hsp => hbody f cdv A outer s H vs Q E hr hsp⟩
theorem Dm.has0 {C : Addr} {m qual : Str} {st : Stmt} {N ps : List Str} {k : Nat} {sp : Sp} (D : Dm K C m qual st) (S : FnScope N ps (defScope st)) (len : ∀ vs H Q E, sp vs H Q E → vs.length = ps.length)
    (hb : ∀ (kV doc pm : Value) (an : Option Addr) (cdv ct : Value) (us : List Value), us.length = ps.length → bindArgs (PySem.W.fnOf m qual (defArgs st) (defBody st) (defScope st) .none kV doc pm an cdv ct) ⟨us, []⟩ = pure (ps.zip us))
    (hbody : ∀ (f : Addr) (cdv : Value) (A : Around) (outer : List Env) (s : Shared) (H : Hp) (vs : List V) (Q : VK) (E : XK), Room k (A.deeper (envOfC qual (defScope st) s.heap.objs.size f cdv)) → sp vs H Q E →
      ∃ t, PSs (cxOf CX0 P w K mg base N qual (defScope st) f cdv A outer s H E).nox (defBody st) t ∧ t { nx := fun _ H' => Q .non H', rt := Q } (start N vs) H) : HasM P w K mg base CX0 (k + 1) C m ps sp := by
  obtain ⟨f, fd, F, hm⟩ := D.ex
  refine ⟨f, fd, hm, F.bindsN hb, F.ok S len fun cdv A outer s H vs Q E hr hsp => ?_⟩
  obtain ⟨t, h, q⟩ := hbody f cdv A outer s H vs Q E hr hsp
  exact ⟨t, h.nox, q⟩
theorem Dm.hasX {CX : CXT} {C : Addr} {m qual : Str} {st : Stmt} {N ps : List Str} {k : Nat} {sp : Sp} (D : Dm K C m qual st) (S : FnScope N ps (defScope st)) (len : ∀ vs H Q E, sp vs H Q E → vs.length = ps.length)
    (hb : ∀ (kV doc pm : Value) (an : Option Addr) (cdv ct : Value) (us : List Value), us.length = ps.length → bindArgs (PySem.W.fnOf m qual (defArgs st) (defBody st) (defScope st) .none kV doc pm an cdv ct) ⟨us, []⟩ = pure (ps.zip us))
    (hbody : ∀ (f : Addr) (cdv : Value) (A : Around) (outer : List Env) (s : Shared) (H : Hp) (vs : List V) (Q : VK) (E : XK), Room k (A.deeper (envOfC qual (defScope st) s.heap.objs.size f cdv)) → sp vs H Q E →
      ∃ t, PSs (cxOf CX P w K mg base N qual (defScope st) f cdv A outer s H E) (defBody st) t ∧ t { nx := fun _ H' => Q .non H', rt := Q } (start N vs) H) : HasM P w K mg base CX (k + 1) C m ps sp := by
  obtain ⟨f, fd, F, hm⟩ := D.ex
  exact ⟨f, fd, hm, F.bindsN hb, F.ok S len fun cdv A outer s H vs Q E hr hsp => hbody f cdv A outer s H vs Q E hr hsp⟩
end

/-! ### what a call keeps -/
abbrev Tb := List (Addr × Str)
/-- all that was tracked is as it was, but what stands in L and the tables of code objects -/
structure Ex (T : Tb) (L : List Addr) (H H' : Hp) : Prop where
  ke : ∀ b o, b ∉ L → H b = some o → (∀ ps, o ≠ .tbl ps) → H' b = some o
  ta : LamX.Tabs T H → LamX.Tabs T H'
theorem Ex.refl {T : Tb} {L : List Addr} (H : Hp) : Ex T L H H := ⟨fun _ _ _ h _ => h, fun h => h⟩
theorem Ex.trans {T : Tb} {L : List Addr} {H H1 H2 : Hp} (a : Ex T L H H1) (b : Ex T L H1 H2) : Ex T L H H2 := ⟨fun c o hc h n => b.ke c o hc (a.ke c o hc h n) n, fun h => b.ta (a.ta h)⟩
theorem Ex.same {T : Tb} {L : List Addr} {H H' : Hp} (s : Same H H') : Ex T L H H' := ⟨fun b o _ h _ => s b o h, fun h => h.ext s⟩
theorem Ex.wide {T : Tb} {L L' : List Addr} {H H' : Hp} (a : Ex T L H H') (h : ∀ b ∈ L, b ∈ L') : Ex T L' H H' := ⟨fun b o hb e n => a.ke b o (fun z => hb (h b z)) e n, a.ta⟩
theorem Ex.of0 {T : Tb} {L' : List Addr} {H H' : Hp} (a : Ex T [] H H') : Ex T L' H H' := a.wide fun b hb => by cases hb
theorem same_new {H : Hp} {p : Addr} (h : H p = none) (o : HO) : Same H (upd H p o) := fun b u q => by rw [upd_ne (ne_of_none q h)]; exact q
theorem Ex.new {T : Tb} {L : List Addr} {H : Hp} {p : Addr} (h : H p = none) (o : HO) : Ex T L H (upd H p o) := .same (same_new h o)
theorem Ex.then_new {T : Tb} {L : List Addr} {H H1 : Hp} {p : Addr} (e : Ex T L H H1) (h : H1 p = none) (o : HO) : Ex T L H (upd H1 p o) := e.trans (.new h o)
/-- what was not tracked and is written later -/
theorem Ex.fresh {T : Tb} {H H1 : Hp} {p : Addr} (e : Ex T [] H H1) (h : H1 p = none) : H p = none ∨ ∃ ps, H p = some (.tbl ps) := by
  cases q : H p with
  | none => exact .inl rfl
  | some o =>
    by_cases z : ∃ ps, o = .tbl ps
    · obtain ⟨ps, rfl⟩ := z
      exact .inr ⟨ps, rfl⟩
    · have y := e.ke p o (fun z => by cases z) q fun ps y => z ⟨ps, y⟩
      rw [h] at y
      cases y
/-- a store to what the start did not track -/
theorem Ex.then_store {T : Tb} {L : List Addr} {H H1 : Hp} {p : Addr} {u o : HO} (e : Ex T L H H1) (h0 : H p = none) (h : H1 p = some u) (hu : (∀ ps, u ≠ .tbl ps) ∧ ∀ φ, u ≠ .ext φ) : Ex T L H (upd H1 p o) := by
  refine ⟨fun b x hb q n => ?_, fun t => ?_⟩
  · have z : b ≠ p := fun z => by rw [z, h0] at q; cases q
    rw [upd_ne z]
    exact e.ke b x hb q n
  · intro q hq
    obtain ⟨ps, h1, h2, h3⟩ := e.ta t q hq
    have z1 : q.1 ≠ p := fun z => by rw [z, h] at h1; exact hu.1 ps (Option.some.inj h1)
    refine ⟨ps, by rw [upd_ne z1]; exact h1, h2, fun pos cv hc => ?_⟩
    obtain ⟨c, e1, e2⟩ := h3 pos cv hc
    have z2 : c ≠ p := fun z => by rw [z, h] at e2; exact hu.2 _ (Option.some.inj e2)
    exact ⟨c, e1, by rw [upd_ne z2]; exact e2⟩
theorem tabs_upd {T : Tb} {H : Hp} {p : Addr} {u o : HO} (t : LamX.Tabs T H) (h : H p = some u) (hu : (∀ ps, u ≠ .tbl ps) ∧ ∀ φ, u ≠ .ext φ) : LamX.Tabs T (upd H p o) := by
  intro q hq
  obtain ⟨ps, h1, h2, h3⟩ := t q hq
  have z1 : q.1 ≠ p := fun z => by rw [z, h] at h1; exact hu.1 ps (Option.some.inj h1)
  refine ⟨ps, by rw [upd_ne z1]; exact h1, h2, fun pos cv hc => ?_⟩
  obtain ⟨c, e1, e2⟩ := h3 pos cv hc
  have z2 : c ≠ p := fun z => by rw [z, h] at e2; exact hu.2 _ (Option.some.inj e2)
  exact ⟨c, e1, by rw [upd_ne z2]; exact e2⟩
/-- a store within L -/
theorem Ex.then_put {T : Tb} {L : List Addr} {H H1 : Hp} {p : Addr} {u o : HO} (e : Ex T L H H1) (hp : p ∈ L) (h : H1 p = some u) (hu : (∀ ps, u ≠ .tbl ps) ∧ ∀ φ, u ≠ .ext φ) : Ex T L H (upd H1 p o) :=
  ⟨fun b x hb q n => by
    have z : b ≠ p := fun z => hb (by rw [z]; exact hp)
    rw [upd_ne z]
    exact e.ke b x hb q n, fun t => tabs_upd (e.ta t) h hu⟩
/-- the dict at d was locked meanwhile -/
theorem Ex.locked {T : Tb} {L : List Addr} {H H1 : Hp} {d : Addr} {od : Obj} {kvs : List (Key × V)} (h : H d = some (.dK kvs)) (e : Ex T L (upd H d (.frz od (.dK kvs))) H1) (h1 : H1 d = some (.frz od (.dK kvs))) : Ex T L H (upd H1 d (.dK kvs)) := by
  refine ⟨fun b o hb q n => ?_, fun t => ?_⟩
  · by_cases z : b = d
    · rw [z] at q ⊢
      rw [upd_same, ← q, h]
    · rw [upd_ne z]
      exact e.ke b o hb (by rw [upd_ne z]; exact q) n
  · refine tabs_upd (e.ta (tabs_upd t h ⟨(fun ps y => nomatch y), (fun φ y => nomatch y)⟩)) h1 ⟨(fun ps y => nomatch y), (fun φ y => nomatch y)⟩

/-- lists, tuples, instances, dicts stay readable -/
structure Kee (L : List Addr) (H H' : Hp) : Prop where
  lst : ∀ a xs, a ∉ L → H a = some (.lst xs) → H' a = some (.lst xs)
  tup : ∀ a xs, a ∉ L → H a = some (.tup xs) → H' a = some (.tup xs)
  ins : ∀ a C dx fs, a ∉ L → H a = some (.ins C dx fs) → H' a = some (.ins C dx fs)
  dic : ∀ a kvs, a ∉ L → Rd H a (.dK kvs) → Rd H' a (.dK kvs)
theorem Ex.kee {T : Tb} {L : List Addr} {H H' : Hp} (e : Ex T L H H') : Kee L H H' :=
  ⟨fun a _ ha h => e.ke a _ ha h (fun _ y => nomatch y), fun a _ ha h => e.ke a _ ha h (fun _ y => nomatch y), fun a _ _ _ ha h => e.ke a _ ha h (fun _ y => nomatch y),
    fun a _ ha h => Or.elim h (fun h => .inl (e.ke a _ ha h (fun _ y => nomatch y))) fun ⟨o, h⟩ => .inr ⟨o, e.ke a _ ha h (fun _ y => nomatch y)⟩⟩
theorem Kee.refl {L : List Addr} (H : Hp) : Kee L H H := ⟨fun _ _ _ h => h, fun _ _ _ h => h, fun _ _ _ _ _ h => h, fun _ _ _ h => h⟩
theorem Kee.trans {L : List Addr} {H H1 H2 : Hp} (a : Kee L H H1) (b : Kee L H1 H2) : Kee L H H2 :=
  ⟨fun x _ ha h => b.lst x _ ha (a.lst x _ ha h), fun x _ ha h => b.tup x _ ha (a.tup x _ ha h), fun x _ _ _ ha h => b.ins x _ _ _ ha (a.ins x _ _ _ ha h), fun x _ ha h => b.dic x _ ha (a.dic x _ ha h)⟩
theorem Kee.lock {L : List Addr} {H : Hp} {d : Addr} {od : Obj} {kvs : List (Key × V)} (h : H d = some (.dK kvs)) : Kee L H (upd H d (.frz od (.dK kvs))) := by
  refine ⟨fun a xs _ e => ?_, fun a xs _ e => ?_, fun a C dx fs _ e => ?_, fun a ks _ e => ?_⟩
  · rw [upd_ne (ne_of e h (fun y => nomatch y))]; exact e
  · rw [upd_ne (ne_of e h (fun y => nomatch y))]; exact e
  · rw [upd_ne (ne_of e h (fun y => nomatch y))]; exact e
  · by_cases z : a = d
    · subst z
      rcases e with e | ⟨o, e⟩
      · rw [h] at e
        cases e
        exact .inr ⟨od, upd_same⟩
      · rw [h] at e
        cases e
    · rcases e with e | ⟨o, e⟩
      · exact .inl (by rw [upd_ne z]; exact e)
      · exact .inr ⟨o, by rw [upd_ne z]; exact e⟩
theorem Kee.unlock {L : List Addr} {H : Hp} {d : Addr} {od : Obj} {kvs : List (Key × V)} (h : H d = some (.frz od (.dK kvs))) : Kee L H (upd H d (.dK kvs)) := by
  refine ⟨fun a xs _ e => ?_, fun a xs _ e => ?_, fun a C dx fs _ e => ?_, fun a ks _ e => ?_⟩
  · rw [upd_ne (ne_of e h (fun y => nomatch y))]; exact e
  · rw [upd_ne (ne_of e h (fun y => nomatch y))]; exact e
  · rw [upd_ne (ne_of e h (fun y => nomatch y))]; exact e
  · by_cases z : a = d
    · subst z
      rcases e with e | ⟨o, e⟩
      · rw [h] at e
        cases e
      · rw [h] at e
        cases e
        exact .inl upd_same
    · rcases e with e | ⟨o, e⟩
      · exact .inl (by rw [upd_ne z]; exact e)
      · exact .inr ⟨o, by rw [upd_ne z]; exact e⟩
theorem Kee.wide {L L' : List Addr} {H H' : Hp} (a : Kee L H H') (h : ∀ b ∈ L, b ∈ L') : Kee L' H H' :=
  ⟨fun x _ hx e => a.lst x _ (fun z => hx (h _ z)) e, fun x _ hx e => a.tup x _ (fun z => hx (h _ z)) e, fun x _ _ _ hx e => a.ins x _ _ _ (fun z => hx (h _ z)) e, fun x _ hx e => a.dic x _ (fun z => hx (h _ z)) e⟩
theorem Kee.of_nil {L : List Addr} {H H' : Hp} (a : Kee [] H H') : Kee L H H' := a.wide fun b hb => by cases hb

/-! ### values in the heap -/
/-- v is what x stands for; nothing of it stands in L; CT the class Table -/
def Rep (CT : Addr) (L : List Addr) : Nat → Hp → PV → V → Prop
  | _, _, .non, x => x = .non
  | _, _, .bl b, x => x = .bl b
  | _, _, .int i, x => x = .int i
  | _, _, .str z, x => x = .str z
  | 0, _, .row _ _, _ => False
  | 0, _, .tab _, _ => False
  | n + 1, H, .row t vs, x => ∃ a ys, x = .ref a ∧ a ∉ L ∧ H a = some (if t = true then .tup ys else .lst ys) ∧ ys.length ≤ 1000 ∧ Paired (Rep CT L n H) vs ys
  | n + 1, H, .tab es, x => ∃ a d dx kvs, x = .ref a ∧ a ∉ L ∧ d ∉ L ∧ H a = some (.ins CT dx [("held", .ref d)]) ∧ Rd H d (.dK kvs) ∧ kvs.length ≤ 1000 ∧ (kvs.map (·.1)).Nodup ∧ Paired (fun (e : Key × PV) (kv : Key × V) => e.1 = kv.1 ∧ Rep CT L n H e.2 kv.2) es kvs
theorem paired_mono {α β : Type} {F G : α → β → Prop} : ∀ {l : List α} {r : List β}, Paired F l r → (∀ a ∈ l, ∀ b, F a b → G a b) → Paired G l r
  | _, _, .nil, _ => .nil
  | _, _, .cons h t, k => .cons (k _ List.mem_cons_self _ h) (paired_mono t fun a ha b hb => k a (List.mem_cons_of_mem _ ha) b hb)
theorem paired_get {α β : Type} {F : α → β → Prop} : ∀ {l : List α} {r : List β}, Paired F l r → ∀ {i : Nat} {b : β}, r[i]? = some b → ∃ a, l[i]? = some a ∧ F a b
  | _, _, .nil, i, b, h => by simp at h
  | _, _, .cons (a := a) q t, 0, b, h => by
    have e : _ = b := Option.some.inj h
    subst e
    exact ⟨a, rfl, q⟩
  | _, _, .cons q t, i + 1, b, h => paired_get t (i := i) h
theorem paired_get' {α β : Type} {F : α → β → Prop} : ∀ {l : List α} {r : List β}, Paired F l r → ∀ {i : Nat} {a : α}, l[i]? = some a → ∃ b, r[i]? = some b ∧ F a b
  | _, _, .nil, i, b, h => by simp at h
  | _, _, .cons (b := b) q t, 0, a, h => by
    have e : _ = a := Option.some.inj h
    subst e
    exact ⟨b, rfl, q⟩
  | _, _, .cons q t, i + 1, b, h => paired_get' t (i := i) h
theorem rep_kee {CT : Addr} {L : List Addr} : ∀ {n : Nat} {H H' : Hp}, Kee L H H' → ∀ {v : PV} {x : V}, Rep CT L n H v x → Rep CT L n H' v x
  | _, _, _, _, .non, _, h => by unfold Rep at h ⊢; exact h
  | _, _, _, _, .bl _, _, h => by unfold Rep at h ⊢; exact h
  | _, _, _, _, .int _, _, h => by unfold Rep at h ⊢; exact h
  | _, _, _, _, .str _, _, h => by unfold Rep at h ⊢; exact h
  | 0, _, _, _, .row _ _, _, h => by unfold Rep at h; exact False.elim h
  | 0, _, _, _, .tab _, _, h => by unfold Rep at h; exact False.elim h
  | n + 1, H, H', k, .row t vs, x, h => by
    unfold Rep at h ⊢
    obtain ⟨a, ys, rfl, ha, e, l, p⟩ := h
    refine ⟨a, ys, rfl, ha, ?_, l, p.mono fun a b q => rep_kee k q⟩
    cases t with
    | true => exact k.tup a ys ha e
    | false => exact k.lst a ys ha e
  | n + 1, H, H', k, .tab es, x, h => by
    unfold Rep at h ⊢
    obtain ⟨a, d, dx, kvs, rfl, ha, hd, e, r, l, nd, p⟩ := h
    exact ⟨a, d, dx, kvs, rfl, ha, hd, k.ins _ _ _ _ ha e, k.dic _ _ hd r, l, nd, p.mono fun a b q => ⟨q.1, rep_kee k q.2⟩⟩
theorem rep_up {CT : Addr} {L : List Addr} {H : Hp} : ∀ {n m : Nat}, n ≤ m → ∀ {v : PV} {x : V}, Rep CT L n H v x → Rep CT L m H v x
  | _, m, _, .non, _, h => by unfold Rep at h ⊢; exact h
  | _, m, _, .bl _, _, h => by unfold Rep at h ⊢; exact h
  | _, m, _, .int _, _, h => by unfold Rep at h ⊢; exact h
  | _, m, _, .str _, _, h => by unfold Rep at h ⊢; exact h
  | 0, _, _, .row _ _, _, h => by unfold Rep at h; exact False.elim h
  | 0, _, _, .tab _, _, h => by unfold Rep at h; exact False.elim h
  | n + 1, 0, k, .row _ _, _, h => absurd k (by omega)
  | n + 1, 0, k, .tab _, _, h => absurd k (by omega)
  | n + 1, m + 1, k, .row t vs, x, h => by
    unfold Rep at h ⊢
    obtain ⟨a, ys, rfl, ha, e, l, p⟩ := h
    exact ⟨a, ys, rfl, ha, e, l, p.mono fun a b q => rep_up (Nat.le_of_succ_le_succ k) q⟩
  | n + 1, m + 1, k, .tab es, x, h => by
    unfold Rep at h ⊢
    obtain ⟨a, d, dx, kvs, rfl, ha, hd, e, r, l, nd, p⟩ := h
    exact ⟨a, d, dx, kvs, rfl, ha, hd, e, r, l, nd, p.mono fun a b q => ⟨q.1, rep_up (Nat.le_of_succ_le_succ k) q.2⟩⟩
theorem rep_less {CT : Addr} {L L' : List Addr} (hL : ∀ b ∈ L', b ∈ L) {H : Hp} : ∀ {n : Nat} {v : PV} {x : V}, Rep CT L n H v x → Rep CT L' n H v x
  | _, .non, _, h => by unfold Rep at h ⊢; exact h
  | _, .bl _, _, h => by unfold Rep at h ⊢; exact h
  | _, .int _, _, h => by unfold Rep at h ⊢; exact h
  | _, .str _, _, h => by unfold Rep at h ⊢; exact h
  | 0, .row _ _, _, h => by unfold Rep at h; exact False.elim h
  | 0, .tab _, _, h => by unfold Rep at h; exact False.elim h
  | n + 1, .row t vs, x, h => by
    unfold Rep at h ⊢
    obtain ⟨a, ys, rfl, ha, e, l, p⟩ := h
    exact ⟨a, ys, rfl, fun z => ha (hL _ z), e, l, p.mono fun a b q => rep_less hL q⟩
  | n + 1, .tab es, x, h => by
    unfold Rep at h ⊢
    obtain ⟨a, d, dx, kvs, rfl, ha, hd, e, r, l, nd, p⟩ := h
    exact ⟨a, d, dx, kvs, rfl, fun z => ha (hL _ z), fun z => hd (hL _ z), e, r, l, nd, p.mono fun a b q => ⟨q.1, rep_less hL q.2⟩⟩
theorem rd_some {H : Hp} {a : Addr} {u : HO} (h : Rd H a u) : H a ≠ none := fun z => by
  rcases h with h | ⟨o, h⟩ <;> rw [z] at h <;> cases h
/-- what stood in an older heap is apart from what came later -/
theorem rep_apart {CT : Addr} {L : List Addr} {H : Hp} (hL : ∀ b ∈ L, H b = none) : ∀ {n : Nat} {v : PV} {x : V}, Rep CT [] n H v x → Rep CT L n H v x
  | _, .non, _, h => by unfold Rep at h ⊢; exact h
  | _, .bl _, _, h => by unfold Rep at h ⊢; exact h
  | _, .int _, _, h => by unfold Rep at h ⊢; exact h
  | _, .str _, _, h => by unfold Rep at h ⊢; exact h
  | 0, .row _ _, _, h => by unfold Rep at h; exact False.elim h
  | 0, .tab _, _, h => by unfold Rep at h; exact False.elim h
  | n + 1, .row t vs, x, h => by
    unfold Rep at h ⊢
    obtain ⟨a, ys, rfl, ha, e, l, p⟩ := h
    exact ⟨a, ys, rfl, (fun z => by rw [hL _ z] at e; cases e), e, l, p.mono fun a b q => rep_apart hL q⟩
  | n + 1, .tab es, x, h => by
    unfold Rep at h ⊢
    obtain ⟨a, d, dx, kvs, rfl, ha, hd, e, r, l, nd, p⟩ := h
    exact ⟨a, d, dx, kvs, rfl, (fun z => by rw [hL _ z] at e; cases e), fun z => rd_some r (hL _ z), e, r, l, nd, p.mono fun a b q => ⟨q.1, rep_apart hL q.2⟩⟩
/-- a raw value; nothing of it stands in L -/
def RepR (L : List Addr) : Nat → Hp → RV → V → Prop
  | _, _, .non, x => x = .non
  | _, _, .bl b, x => x = .bl b
  | _, _, .int i, x => x = .int i
  | _, _, .str z, x => x = .str z
  | 0, _, .row _, _ => False
  | 0, _, .tab _, _ => False
  | n + 1, H, .row vs, x => ∃ a l ys, x = .ref a ∧ a ∉ L ∧ l ∉ L ∧ H a = some (.tup [.str "row", .ref l]) ∧ H l = some (.lst ys) ∧ ys.length ≤ 1000 ∧ Paired (RepR L n H) vs ys
  | n + 1, H, .tab ps, x => ∃ a l ys, x = .ref a ∧ a ∉ L ∧ l ∉ L ∧ H a = some (.tup [.str "table", .ref l]) ∧ H l = some (.lst ys) ∧ ys.length ≤ 1000 ∧ Paired (fun (p : Str × RV) (y : V) => ∃ t v, y = .ref t ∧ t ∉ L ∧ H t = some (.tup [.str p.1, v]) ∧ RepR L n H p.2 v) ps ys
theorem repR_kee {L : List Addr} : ∀ {n : Nat} {H H' : Hp}, Kee L H H' → ∀ {v : RV} {x : V}, RepR L n H v x → RepR L n H' v x
  | _, _, _, _, .non, _, h => by unfold RepR at h ⊢; exact h
  | _, _, _, _, .bl _, _, h => by unfold RepR at h ⊢; exact h
  | _, _, _, _, .int _, _, h => by unfold RepR at h ⊢; exact h
  | _, _, _, _, .str _, _, h => by unfold RepR at h ⊢; exact h
  | 0, _, _, _, .row _, _, h => by unfold RepR at h; exact False.elim h
  | 0, _, _, _, .tab _, _, h => by unfold RepR at h; exact False.elim h
  | n + 1, H, H', k, .row vs, x, h => by
    unfold RepR at h ⊢
    obtain ⟨a, l, ys, rfl, ha, hlL, e1, e2, hl, p⟩ := h
    exact ⟨a, l, ys, rfl, ha, hlL, k.tup _ _ ha e1, k.lst _ _ hlL e2, hl, p.mono fun a b q => repR_kee k q⟩
  | n + 1, H, H', k, .tab ps, x, h => by
    unfold RepR at h ⊢
    obtain ⟨a, l, ys, rfl, ha, hlL, e1, e2, hl, p⟩ := h
    exact ⟨a, l, ys, rfl, ha, hlL, k.tup _ _ ha e1, k.lst _ _ hlL e2, hl, p.mono fun a b ⟨t, v, e, tL, e3, q⟩ => ⟨t, v, e, tL, k.tup _ _ tL e3, repR_kee k q⟩⟩
theorem repR_less {L L' : List Addr} (hL : ∀ b ∈ L', b ∈ L) {H : Hp} : ∀ {n : Nat} {v : RV} {x : V}, RepR L n H v x → RepR L' n H v x
  | _, .non, _, h => by unfold RepR at h ⊢; exact h
  | _, .bl _, _, h => by unfold RepR at h ⊢; exact h
  | _, .int _, _, h => by unfold RepR at h ⊢; exact h
  | _, .str _, _, h => by unfold RepR at h ⊢; exact h
  | 0, .row _, _, h => by unfold RepR at h; exact False.elim h
  | 0, .tab _, _, h => by unfold RepR at h; exact False.elim h
  | n + 1, .row vs, x, h => by
    unfold RepR at h ⊢
    obtain ⟨a, l, ys, rfl, ha, hlL, e1, e2, hl, p⟩ := h
    exact ⟨a, l, ys, rfl, fun z => ha (hL _ z), fun z => hlL (hL _ z), e1, e2, hl, p.mono fun a b q => repR_less hL q⟩
  | n + 1, .tab ps, x, h => by
    unfold RepR at h ⊢
    obtain ⟨a, l, ys, rfl, ha, hlL, e1, e2, hl, p⟩ := h
    exact ⟨a, l, ys, rfl, fun z => ha (hL _ z), fun z => hlL (hL _ z), e1, e2, hl, p.mono fun a b ⟨t, v, e, tL, e3, q⟩ => ⟨t, v, e, fun z => tL (hL _ z), e3, repR_less hL q⟩⟩

/-! ### types -/
/-- what the top says of Table's class object -/
structure TF (K : PySem.W.Frag) (CT : Addr) : Prop where
  cl : Cls K CT
  ha : PySem.W.findIn K (.ref CT) "__class__" = some (some (.builtin "object.__class__"))
  hn : PySem.W.specialIn K (.builtin "object.__class__") "__get__" = some (some (.builtin "getset_descriptor.__get__"))
  htk : PySem.W.takesIn K (.builtin "object.__class__") = some true
  hm : PySem.W.mroIn K CT (.type "object") = some true
  b2t : ∀ b ∈ (["NoneType", "bool", "int", "str", "list", "tuple"] : List String), PySem.W.kitOne K (.type b) (.ref CT) = some false
  t2b : ∀ b ∈ (["bool", "int", "str", "list", "tuple"] : List String), PySem.W.kitOne K (.ref CT) (.type b) = some false
  held : NoAttr K CT "held"
/-- the kinds of values -/
inductive Sh (CT : Addr) (H : Hp) : V → Nat → Prop where
  | non : Sh CT H .non 0
  | bl (b : Bool) : Sh CT H (.bl b) 1
  | int (i : Int) : Sh CT H (.int i) 2
  | str (z : Str) : Sh CT H (.str z) 3
  | lst {a : Addr} {xs : List V} (e : H a = some (.lst xs)) : Sh CT H (.ref a) 4
  | tup {a : Addr} {xs : List V} (e : H a = some (.tup xs)) : Sh CT H (.ref a) 5
  | tab {a dx : Addr} {fs : List (Str × V)} (e : H a = some (.ins CT dx fs)) : Sh CT H (.ref a) 6
/-- the type's object -/
def tyc (CT : Addr) : Nat → Value
  | 0 => .type "NoneType"
  | 1 => .type "bool"
  | 2 => .type "int"
  | 3 => .type "str"
  | 4 => .type "list"
  | 5 => .type "tuple"
  | _ => .ref CT
section
variable {K : PySem.W.Frag} {CT : Addr} {H : Hp} {x : V} {k : Nat}
theorem Sh.ty (F : TF K CT) (h : Sh CT H x k) : TyX K H x (tyc CT k) := by
  cases h with
  | non => exact .base .non
  | bl b => exact .base (.bl b)
  | int i => exact .base (.int i)
  | str z => exact .base (.str z)
  | lst e => exact .base (.lst e)
  | tup e => exact .base (.tup e)
  | tab e => exact .base (.ins e F.cl F.ha F.hn F.htk F.hm)
theorem Sh.lt (h : Sh CT H x k) : k < 7 := by cases h <;> decide
theorem kit_int (F : TF K CT) (hk : k < 7) : PySem.W.kitOne K (tyc CT k) (.type "int") = some (k == 1 || k == 2) := by
  rcases k with _ | _ | _ | _ | _ | _ | _ | k
  · exact kit_ty (by decide +kernel)
  · exact kit_ty (by decide +kernel)
  · exact kit_ty (by decide +kernel)
  · exact kit_ty (by decide +kernel)
  · exact kit_ty (by decide +kernel)
  · exact kit_ty (by decide +kernel)
  · exact F.t2b "int" (by decide)
  · omega
theorem kit_bool (F : TF K CT) (hk : k < 7) : PySem.W.kitOne K (tyc CT k) (.type "bool") = some (k == 1) := by
  rcases k with _ | _ | _ | _ | _ | _ | _ | k
  · exact kit_ty (by decide +kernel)
  · exact kit_ty (by decide +kernel)
  · exact kit_ty (by decide +kernel)
  · exact kit_ty (by decide +kernel)
  · exact kit_ty (by decide +kernel)
  · exact kit_ty (by decide +kernel)
  · exact F.t2b "bool" (by decide)
  · omega
theorem kit_str (F : TF K CT) (hk : k < 7) : PySem.W.kitOne K (tyc CT k) (.type "str") = some (k == 3) := by
  rcases k with _ | _ | _ | _ | _ | _ | _ | k
  · exact kit_ty (by decide +kernel)
  · exact kit_ty (by decide +kernel)
  · exact kit_ty (by decide +kernel)
  · exact kit_ty (by decide +kernel)
  · exact kit_ty (by decide +kernel)
  · exact kit_ty (by decide +kernel)
  · exact F.t2b "str" (by decide)
  · omega
theorem kit_list (F : TF K CT) (hk : k < 7) : PySem.W.kitOne K (tyc CT k) (.type "list") = some (k == 4) := by
  rcases k with _ | _ | _ | _ | _ | _ | _ | k
  · exact kit_ty (by decide +kernel)
  · exact kit_ty (by decide +kernel)
  · exact kit_ty (by decide +kernel)
  · exact kit_ty (by decide +kernel)
  · exact kit_ty (by decide +kernel)
  · exact kit_ty (by decide +kernel)
  · exact F.t2b "list" (by decide)
  · omega
theorem kit_tuple (F : TF K CT) (hk : k < 7) : PySem.W.kitOne K (tyc CT k) (.type "tuple") = some (k == 5) := by
  rcases k with _ | _ | _ | _ | _ | _ | _ | k
  · exact kit_ty (by decide +kernel)
  · exact kit_ty (by decide +kernel)
  · exact kit_ty (by decide +kernel)
  · exact kit_ty (by decide +kernel)
  · exact kit_ty (by decide +kernel)
  · exact kit_ty (by decide +kernel)
  · exact F.t2b "tuple" (by decide)
  · omega
theorem kit_tab (F : TF K CT) (hk : k < 7) : PySem.W.kitOne K (tyc CT k) (.ref CT) = some (k == 6) := by
  rcases k with _ | _ | _ | _ | _ | _ | _ | k
  · exact F.b2t _ (by decide)
  · exact F.b2t _ (by decide)
  · exact F.b2t _ (by decide)
  · exact F.b2t _ (by decide)
  · exact F.b2t _ (by decide)
  · exact F.b2t _ (by decide)
  · unfold PySem.W.kitOne tyc
    rw [if_pos (by simp)]
    rfl
  · omega
theorem kit_lt (F : TF K CT) (hk : k < 7) : PySem.W.kitAny K (tyc CT k) [.type "list", .type "tuple"] = some (k == 4 || k == 5) := by
  refine kitAny_cons (kit_list F hk) (fun h => ?_) (fun h => by rw [h]; rfl)
  refine kitAny_cons (kit_tuple F hk) (fun h2 => ?_) (fun h2 => by rw [h2, Bool.or_true])
  rw [h, h2]
  exact kitAny_nil
/-- isinstance(x, T) of a value -/
theorem isi_of (F : TF K CT) (h : Sh CT H x k) {c : V} {u : Value} {b : Bool} {Q : VK} (hc : ClsV c u) (e : PySem.W.kitOne K (tyc CT k) u = some b) (q : Q (.bl b) H) : rIsi K [x, c] H Q :=
  ⟨x, c, tyc CT k, u, b, rfl, hc, h.ty F, e, q⟩
end
/-- the kind of a value -/
def kindN : PV → Nat
  | .non => 0
  | .bl _ => 1
  | .int _ => 2
  | .str _ => 3
  | .row false _ => 4
  | .row true _ => 5
  | .tab _ => 6
theorem rep_sh {CT : Addr} {L : List Addr} {H : Hp} : ∀ {n : Nat} {v : PV} {x : V}, Rep CT L n H v x → Sh CT H x (kindN v)
  | _, .non, _, h => by unfold Rep at h; subst h; exact .non
  | _, .bl b, _, h => by unfold Rep at h; subst h; exact .bl b
  | _, .int i, _, h => by unfold Rep at h; subst h; exact .int i
  | _, .str z, _, h => by unfold Rep at h; subst h; exact .str z
  | 0, .row _ _, _, h => by unfold Rep at h; exact False.elim h
  | 0, .tab _, _, h => by unfold Rep at h; exact False.elim h
  | n + 1, .row true vs, x, h => by
    unfold Rep at h
    obtain ⟨a, ys, rfl, ha, e, l, p⟩ := h
    exact .tup e
  | n + 1, .row false vs, x, h => by
    unfold Rep at h
    obtain ⟨a, ys, rfl, ha, e, l, p⟩ := h
    exact .lst e
  | n + 1, .tab es, x, h => by
    unfold Rep at h
    obtain ⟨a, d, dx, kvs, rfl, ha, hd, e, r, l, nd, p⟩ := h
    exact .tab e
end K86
/-! K86Vals: is_integer, kind, fresh. -/
namespace K86
open PySem PySem.Spec PyProof.Rows L2

/-- the built-in names that the module does not hide -/
structure Bl (mg : Str → Option Value) : Prop where
  isinstance : mg "isinstance" = none
  int : mg "int" = none
  bool : mg "bool" = none
  str : mg "str" = none
  list : mg "list" = none
  tuple : mg "tuple" = none
  len : mg "len" = none
  enumerate : mg "enumerate" = none
  zip : mg "zip" = none
  set : mg "set" = none
  sorted : mg "sorted" = none
  sum : mg "sum" = none
  abs : mg "abs" = none
  range : mg "range" = none
  max : mg "max" = none
  min : mg "min" = none

/-- x is True, x is False, x any value -/
theorem op_isTF {X : Cx} : OpR X (compareOp .Is) (fun x y H Q => ∃ b, y = .bl b ∧ Q (.bl (decide (x = .bl b))) H) := by
  intro pins s σ H x y v u Q I rx ry h
  obtain ⟨b, rfl, q⟩ := h
  cases ry
  cases x with
  | bl c =>
    cases rx
    by_cases e : c = b
    · subst e
      exact wpAny_is_self rfl (fin_bl I q (by simp))
    · exact wpAny_is_other rfl (fun z => e (Value.bool.inj z)) (fin_bl I q (by simp [e]))
  | non => cases rx; exact wpAny_is_other rfl (fun z => nomatch z) (fin_bl I q rfl)
  | ref a => cases rx; exact wpAny_is_other rfl (fun z => nomatch z) (fin_bl I q rfl)
  | ty n => cases rx; exact wpAny_is_other rfl (fun z => nomatch z) (fin_bl I q rfl)
  | int i => obtain ⟨t, rfl⟩ := rx; exact wpAny_is_other rfl (fun z => nomatch z) (fin_bl I q rfl)
  | str i => obtain ⟨t, rfl⟩ := rx; exact wpAny_is_other rfl (fun z => nomatch z) (fin_bl I q rfl)
  | byt i => obtain ⟨t, rfl⟩ := rx; exact wpAny_is_other rfl (fun z => nomatch z) (fin_bl I q rfl)
  | flt i => obtain ⟨t, rfl⟩ := rx; exact wpAny_is_other rfl (fun z => nomatch z) (fin_bl I q rfl)

section
variable {P : Program} {w : World} {K : PySem.W.Frag} {mg : Str → Option Value} {base : Heap} {CT : Addr}

/-! ### is_integer -/
def spIsInt (CT : Addr) : Sp := fun vs H Q _ => ∃ x k, vs = [x] ∧ Sh CT H x k ∧ Q (.bl (k == 2)) H
theorem sc_is_integer : FnScope ["value"] ["value"] (defScope (top 13)) := ⟨rfl, rfl, rfl, by decide +kernel, rfl, by decide +kernel, by decide +kernel⟩
theorem ok_is_integer (D : Dn K mg "is_integer" (top 13)) (B : Bl mg) (F : TF K CT) : Has P w K mg base CX0 1 "is_integer" ["value"] (spIsInt CT) := by
  refine D.has0 sc_is_integer (fun vs H Q E h => ?_) (fun _ _ _ _ _ _ us hl => match us, hl with | [_], _ => rfl) (fun f cdv A outer s H vs Q E hr h => ?_)
  · obtain ⟨x, k, rfl, _⟩ := h
    rfl
  obtain ⟨x, k, rfl, sh, q⟩ := h
  refine ⟨_, pss_one (ps_ret (pe_and (pe_callB call_isi rfl B.isinstance (by decide +kernel) (pa_cons (pv 0) (pa_cons (pe_bltn (v := .ty "int") rfl B.int (by decide +kernel) rfl) pa_nil)))
    (pe_one (pe_not (pe_callB call_isi rfl B.isinstance (by decide +kernel) (pa_cons (pv 0) (pa_cons (pe_bltn (v := .ty "bool") rfl B.bool (by decide +kernel) rfl) pa_nil))))))), ?_⟩
  refine ⟨_, rfl, _, _, _, _, _, rfl, .ty "int", Sh.ty F sh, kit_int F sh.lt, ⟨_, rfl, ?_⟩⟩
  have q' : Q (.bl (k == 2)) H := q
  cases sh with
  | non => exact q'
  | str z => exact q'
  | lst e => exact q'
  | tup e => exact q'
  | tab e => exact q'
  | int i => exact ⟨_, rfl, _, _, _, _, _, rfl, .ty "bool", Sh.ty F (.int i), kit_bool F (by decide), ⟨_, rfl, q'⟩⟩
  | bl b => exact ⟨_, rfl, _, _, _, _, _, rfl, .ty "bool", Sh.ty F (.bl b), kit_bool F (by decide), ⟨_, rfl, q'⟩⟩

/-! ### kind -/
def kindT : PV → Str
  | .non => "null"
  | .bl true => "true"
  | .bl false => "false"
  | .int _ => "integer"
  | .str _ => "text"
  | .row false _ => "list"
  | .row true _ => "tuple"
  | .tab _ => "table"
def spKind (CT : Addr) : Sp := fun vs H Q _ => ∃ n v x, vs = [x] ∧ Rep CT [] n H v x ∧ Q (.str (kindT v)) H
theorem sc_kind : FnScope ["value"] ["value"] (defScope (top 14)) := ⟨rfl, rfl, rfl, by decide +kernel, rfl, by decide +kernel, by decide +kernel⟩
theorem ok_kind (D : Dn K mg "kind" (top 14)) (B : Bl mg) (F : TF K CT) (hT : mg "Table" = some (.ref CT)) : Has P w K mg base CX0 1 "kind" ["value"] (spKind CT) := by
  refine D.has0 sc_kind (fun vs H Q E h => ?_) (fun _ _ _ _ _ _ us hl => match us, hl with | [_], _ => rfl) (fun f cdv A outer s H vs Q E hr h => ?_)
  · obtain ⟨n, v, x, rfl, _⟩ := h
    rfl
  obtain ⟨n, v, x, rfl, rp, q⟩ := h
  have sh := rep_sh rp
  refine ⟨_, pss_cons (ps_if (pt_cmpR op_isN (pv 0) pe_non (nomark _)) (pss_one (ps_ret pe_str)) pss_nil)
    (pss_cons (ps_if (pt_cmpR op_isTF (pv 0) pe_bl (nomark _)) (pss_one (ps_ret pe_str)) pss_nil)
    (pss_cons (ps_if (pt_cmpR op_isTF (pv 0) pe_bl (nomark _)) (pss_one (ps_ret pe_str)) pss_nil)
    (pss_cons (ps_if (pt_val (pe_callB call_isi rfl B.isinstance (by decide +kernel) (pa_cons (pv 0) (pa_cons (pe_bltn (v := .ty "str") rfl B.str (by decide +kernel) rfl) pa_nil)))) (pss_one (ps_ret pe_str)) pss_nil)
    (pss_cons (ps_if (pt_val (pe_callB call_isi rfl B.isinstance (by decide +kernel) (pa_cons (pv 0) (pa_cons (pe_bltn (v := .ty "list") rfl B.list (by decide +kernel) rfl) pa_nil)))) (pss_one (ps_ret pe_str)) pss_nil)
    (pss_cons (ps_if (pt_val (pe_callB call_isi rfl B.isinstance (by decide +kernel) (pa_cons (pv 0) (pa_cons (pe_bltn (v := .ty "tuple") rfl B.tuple (by decide +kernel) rfl) pa_nil)))) (pss_one (ps_ret pe_str)) pss_nil)
    (pss_cons (ps_if (pt_val (pe_callB call_isi rfl B.isinstance (by decide +kernel) (pa_cons (pv 0) (pa_cons (pe_glob (v := .ref CT) rfl hT rfl) pa_nil)))) (pss_one (ps_ret pe_str)) pss_nil)
    (pss_one (ps_ret pe_str)))))))), ?_⟩
  cases v with
  | non =>
    unfold Rep at rp
    subst rp
    exact ⟨_, rfl, rfl, _, rfl, iteT q⟩
  | bl b =>
    unfold Rep at rp
    subst rp
    cases b with
    | true => exact ⟨_, rfl, rfl, _, rfl, iteF ⟨_, rfl, _, rfl, _, rfl, iteT q⟩⟩
    | false => exact ⟨_, rfl, rfl, _, rfl, iteF ⟨_, rfl, _, rfl, _, rfl, iteF ⟨_, rfl, _, rfl, _, rfl, iteT q⟩⟩⟩
  | int i =>
    unfold Rep at rp
    subst rp
    exact ⟨_, rfl, rfl, _, rfl, iteF ⟨_, rfl, _, rfl, _, rfl, iteF ⟨_, rfl, _, rfl, _, rfl, iteF ⟨_, rfl, _, _, _, _, _, rfl, .ty "str", Sh.ty F sh, kit_str F sh.lt, ⟨_, rfl, iteF ⟨_, rfl, _, _, _, _, _, rfl, .ty "list", Sh.ty F sh, kit_list F sh.lt, ⟨_, rfl, iteF
      ⟨_, rfl, _, _, _, _, _, rfl, .ty "tuple", Sh.ty F sh, kit_tuple F sh.lt, ⟨_, rfl, iteF ⟨_, rfl, _, _, _, _, _, rfl, .own CT, Sh.ty F sh, kit_tab F sh.lt, ⟨_, rfl, iteF q⟩⟩⟩⟩⟩⟩⟩⟩⟩⟩⟩
  | str z =>
    unfold Rep at rp
    subst rp
    exact ⟨_, rfl, rfl, _, rfl, iteF ⟨_, rfl, _, rfl, _, rfl, iteF ⟨_, rfl, _, rfl, _, rfl, iteF ⟨_, rfl, _, _, _, _, _, rfl, .ty "str", Sh.ty F sh, kit_str F sh.lt, ⟨_, rfl, iteT q⟩⟩⟩⟩⟩
  | row t vs =>
    obtain ⟨a, rfl⟩ : ∃ a, x = .ref a := by cases t <;> cases sh <;> exact ⟨_, rfl⟩
    cases t with
    | false =>
      exact ⟨_, rfl, rfl, _, rfl, iteF ⟨_, rfl, _, rfl, _, rfl, iteF ⟨_, rfl, _, rfl, _, rfl, iteF ⟨_, rfl, _, _, _, _, _, rfl, .ty "str", Sh.ty F sh, kit_str F sh.lt, ⟨_, rfl, iteF ⟨_, rfl, _, _, _, _, _, rfl, .ty "list", Sh.ty F sh, kit_list F sh.lt, ⟨_, rfl, iteT q⟩⟩⟩⟩⟩⟩⟩
    | true =>
      exact ⟨_, rfl, rfl, _, rfl, iteF ⟨_, rfl, _, rfl, _, rfl, iteF ⟨_, rfl, _, rfl, _, rfl, iteF ⟨_, rfl, _, _, _, _, _, rfl, .ty "str", Sh.ty F sh, kit_str F sh.lt, ⟨_, rfl, iteF ⟨_, rfl, _, _, _, _, _, rfl, .ty "list", Sh.ty F sh, kit_list F sh.lt, ⟨_, rfl, iteF
        ⟨_, rfl, _, _, _, _, _, rfl, .ty "tuple", Sh.ty F sh, kit_tuple F sh.lt, ⟨_, rfl, iteT q⟩⟩⟩⟩⟩⟩⟩⟩⟩
  | tab es =>
    obtain ⟨a, rfl⟩ : ∃ a, x = .ref a := by cases sh; exact ⟨_, rfl⟩
    exact ⟨_, rfl, rfl, _, rfl, iteF ⟨_, rfl, _, rfl, _, rfl, iteF ⟨_, rfl, _, rfl, _, rfl, iteF ⟨_, rfl, _, _, _, _, _, rfl, .ty "str", Sh.ty F sh, kit_str F sh.lt, ⟨_, rfl, iteF ⟨_, rfl, _, _, _, _, _, rfl, .ty "list", Sh.ty F sh, kit_list F sh.lt, ⟨_, rfl, iteF
      ⟨_, rfl, _, _, _, _, _, rfl, .ty "tuple", Sh.ty F sh, kit_tuple F sh.lt, ⟨_, rfl, iteF ⟨_, rfl, _, _, _, _, _, rfl, .own CT, Sh.ty F sh, kit_tab F sh.lt, ⟨_, rfl, iteT q⟩⟩⟩⟩⟩⟩⟩⟩⟩⟩⟩
end
end K86
/-! K86Fresh: fresh. -/
namespace K86
open PySem PySem.Spec PyProof.Rows L2

/-! ### the reading of a comprehension, named -/
def LcW (J : It) (g : TG) (tt : TT) (te : TE) (vs : List Nat) (σ : L2.St) (H1 : Hp) (D : Addr) (Qd : Hp → Prop) : Prop :=
  ∃ W : Nat → Nat → Hp → Prop, (∃ m, W 0 m (upd H1 D (.lst []))) ∧ ∀ i m H, W i m H →
      (J.stop i H ∧ Qd H) ∨ (J.go i H ∧ ∃ Nx : Hp → Prop, (∀ H', Nx H' → ∃ m', m' < m ∧ W (i + 1) m' H') ∧ ∀ x H', J.yld i H x H' → g x (wipe σ vs) H' fun σ2 H2 => wipe σ2 vs = wipe σ vs ∧ tt σ2 H2 fun b H3 =>
        if b = true then te σ2 H3 fun y H4 => ∃ acc, H4 D = some (.lst acc) ∧ acc.length < sizeLine ∧ Nx (upd H4 D (.lst (acc ++ [y]))) else Nx H3)
theorem lcw_it {J : It} {n : Nat} {G : Hp → Prop} {Y : Nat → Hp → V → Hp → Prop} (w : Walk J n G Y) {g : TG} {tt : TT} {te : TE} {vs : List Nat} {σ : L2.St} {H1 : Hp} {D : Addr} {Qd : Hp → Prop} (Pv : Nat → Hp → Prop) (h0 : Pv 0 (upd H1 D (.lst []))) (hG : ∀ i H, i ≤ n → Pv i H → G H)
    (hs : ∀ i x H H', i < n → Pv i H → Y i H x H' → g x (wipe σ vs) H' fun σ2 H2 => wipe σ2 vs = wipe σ vs ∧ tt σ2 H2 fun b H3 =>
      if b = true then te σ2 H3 fun y H4 => ∃ acc, H4 D = some (.lst acc) ∧ acc.length < sizeLine ∧ Pv (i + 1) (upd H4 D (.lst (acc ++ [y]))) else Pv (i + 1) H3) (hd : ∀ H, Pv n H → Qd H) : LcW J g tt te vs σ H1 D Qd := lc_it w Pv h0 hG hs hd

/-! ### lists that stand -/
def LT (H : Hp) (L : List Addr) : Prop := ∀ b ∈ L, ∃ o, H b = some o ∧ ∀ ps, o ≠ .tbl ps
theorem LT.ex {T : Tb} {H H' : Hp} {L : List Addr} (l : LT H L) (e : Ex T [] H H') : LT H' L := fun b hb => let ⟨o, q, n⟩ := l b hb; ⟨o, e.ke b _ (fun z => nomatch z) q n, n⟩
theorem LT.nil {H : Hp} : LT H [] := fun _ z => nomatch z
theorem LT.add {H : Hp} {L : List Addr} {D : Addr} {o : HO} (l : LT H L) (h : H D = some o) (n : ∀ ps, o ≠ .tbl ps) : LT H (D :: L) := fun b hb => by
  rcases List.mem_cons.mp hb with e | hb
  · rw [e]; exact ⟨o, h, n⟩
  · exact l b hb
theorem LT.cons {H : Hp} {L : List Addr} {D : Addr} {xs : List V} (l : LT H L) (h : H D = some (.lst xs)) : LT H (D :: L) := l.add h fun _ z => nomatch z
theorem LT.notin {H : Hp} {L : List Addr} {D : Addr} (l : LT H L) (h : H D = none) : D ∉ L := fun z => by
  obtain ⟨o, q, _⟩ := l D z
  rw [h] at q
  cases q
theorem LT.put {H : Hp} {L : List Addr} {p : Addr} {o : HO} (l : LT H L) (n : ∀ ps, o ≠ .tbl ps) : LT (upd H p o) L := fun b hb => by
  by_cases z : b = p
  · exact ⟨o, by rw [z, upd_same], n⟩
  · obtain ⟨o', q, n'⟩ := l b hb
    exact ⟨o', by rw [upd_ne z]; exact q, n'⟩
theorem Ex.lst {T : Tb} {H H' : Hp} {a : Addr} {xs : List V} (e : Ex T [] H H') (h : H a = some (.lst xs)) : H' a = some (.lst xs) := e.ke a _ (fun z => nomatch z) h (fun _ y => nomatch y)
theorem Ex.tup {T : Tb} {H H' : Hp} {a : Addr} {xs : List V} (e : Ex T [] H H') (h : H a = some (.tup xs)) : H' a = some (.tup xs) := e.ke a _ (fun z => nomatch z) h (fun _ y => nomatch y)
theorem Ex.ins {T : Tb} {H H' : Hp} {a C dx : Addr} {fs : List (Str × V)} (e : Ex T [] H H') (h : H a = some (.ins C dx fs)) : H' a = some (.ins C dx fs) := e.ke a _ (fun z => nomatch z) h (fun _ y => nomatch y)
theorem Ex.dK {T : Tb} {H H' : Hp} {a : Addr} {kvs : List (Key × V)} (e : Ex T [] H H') (h : H a = some (.dK kvs)) : H' a = some (.dK kvs) := e.ke a _ (fun z => nomatch z) h (fun _ y => nomatch y)
theorem Ex.frz {T : Tb} {H H' : Hp} {a : Addr} {o : Obj} {u : HO} (e : Ex T [] H H') (h : H a = some (.frz o u)) : H' a = some (.frz o u) := e.ke a _ (fun z => nomatch z) h (fun _ y => nomatch y)
/-- a list made here grows -/
theorem Ex.grow {T : Tb} {L : List Addr} {H H1 : Hp} {p : Addr} {xs : List V} (e : Ex T L H H1) (h0 : H p = none) (h : H1 p = some (.lst xs)) (ys : List V) : Ex T L H (upd H1 p (.lst ys)) := e.then_store h0 h ⟨(fun ps y => nomatch y), (fun φ y => nomatch y)⟩
theorem Kee.put {L : List Addr} {H : Hp} {p : Addr} (hp : p ∈ L) (o : HO) : Kee L H (upd H p o) := by
  have ne : ∀ a, a ∉ L → a ≠ p := fun a ha z => ha (by rw [z]; exact hp)
  refine ⟨fun a xs ha e => ?_, fun a xs ha e => ?_, fun a C dx fs ha e => ?_, fun a ks ha e => ?_⟩
  · rw [upd_ne (ne a ha)]; exact e
  · rw [upd_ne (ne a ha)]; exact e
  · rw [upd_ne (ne a ha)]; exact e
  · rcases e with e | ⟨o, e⟩
    · exact .inl (by rw [upd_ne (ne a ha)]; exact e)
    · exact .inr ⟨o, by rw [upd_ne (ne a ha)]; exact e⟩
theorem Kee.new {L : List Addr} {H : Hp} {p : Addr} (h : H p = none) (o : HO) : Kee L H (upd H p o) := (Ex.new (T := []) (L := L) h o).kee
/-- what is no part of a value -/
def NV (CT : Addr) (H : Hp) (b : Addr) : Prop := (∀ xs, H b ≠ some (.lst xs)) ∧ (∀ xs, H b ≠ some (.tup xs)) ∧ (∀ dx d, H b ≠ some (.ins CT dx [("held", .ref d)])) ∧ ∀ kvs, ¬ Rd H b (.dK kvs)
theorem NV.none {CT : Addr} {H : Hp} {b : Addr} (h : H b = none) : NV CT H b := ⟨(fun xs z => by rw [h] at z; cases z), (fun xs z => by rw [h] at z; cases z), (fun dx d z => by rw [h] at z; cases z), (fun kvs z => by rcases z with z | ⟨o, z⟩ <;> rw [h] at z <;> cases z)⟩
theorem NV.ins {CT : Addr} {H : Hp} {b dx : Addr} (h : H b = some (.ins CT dx [])) : NV CT H b := ⟨(fun xs z => by rw [h] at z; cases z), (fun xs z => by rw [h] at z; cases z), (fun dx d z => by rw [h] at z; cases z), (fun kvs z => by rcases z with z | ⟨o, z⟩ <;> rw [h] at z <;> cases z)⟩
theorem rep_adv {CT : Addr} {L L' : List Addr} {H : Hp} (hL : ∀ b ∈ L', b ∈ L ∨ NV CT H b) : ∀ {n : Nat} {v : PV} {x : V}, Rep CT L n H v x → Rep CT L' n H v x
  | _, .non, _, h => by unfold Rep at h ⊢; exact h
  | _, .bl _, _, h => by unfold Rep at h ⊢; exact h
  | _, .int _, _, h => by unfold Rep at h ⊢; exact h
  | _, .str _, _, h => by unfold Rep at h ⊢; exact h
  | 0, .row _ _, _, h => by unfold Rep at h; exact False.elim h
  | 0, .tab _, _, h => by unfold Rep at h; exact False.elim h
  | n + 1, .row t vs, x, h => by
    unfold Rep at h ⊢
    obtain ⟨a, ys, rfl, ha, e, l, p⟩ := h
    refine ⟨a, ys, rfl, (fun z => (hL _ z).elim ha fun q => ?_), e, l, p.mono fun a b q => rep_adv hL q⟩
    cases t with
    | true => exact q.2.1 _ e
    | false => exact q.1 _ e
  | n + 1, .tab es, x, h => by
    unfold Rep at h ⊢
    obtain ⟨a, d, dx, kvs, rfl, ha, hd, e, r, l, nd, p⟩ := h
    exact ⟨a, d, dx, kvs, rfl, (fun z => (hL _ z).elim ha fun q => q.2.2.1 _ _ e), (fun z => (hL _ z).elim hd fun q => q.2.2.2 _ r), e, r, l, nd, p.mono fun a b q => ⟨q.1, rep_adv hL q.2⟩⟩
/-- apart from what is not tracked -/
theorem rep_add {CT : Addr} {L L' : List Addr} {H : Hp} (hL : ∀ b ∈ L', b ∈ L ∨ H b = none) {n : Nat} {v : PV} {x : V} (h : Rep CT L n H v x) : Rep CT L' n H v x := rep_adv (fun b hb => (hL b hb).imp id fun z => NV.none z) h
theorem take_snoc {α β : Type} {F : α → β → Prop} {l : List α} {r : List β} {i : Nat} {a : α} {b : β} (p : Paired F (l.take i) r) (h : l[i]? = some a) (q : F a b) : Paired F (l.take (i + 1)) (r ++ [b]) := by
  rw [List.take_succ, h]
  exact p.snoc q
theorem lt1000 {n : Nat} (h : n ≤ 1000) : n < sizeLine := Nat.lt_of_le_of_lt h (by decide)
theorem sc_lt {CT : Addr} {L : List Addr} {n : Nat} {H : Hp} {v : PV} {x : V} (h : Rep CT L n H v x) (hv : ∀ t vs, v ≠ .row t vs) (ht : ∀ es, v ≠ .tab es) (H' : Hp) (m : Nat) : Rep CT L m H' v x := by
  cases v with
  | row t vs => exact absurd rfl (hv t vs)
  | tab es => exact absurd rfl (ht es)
  | _ => unfold Rep at h ⊢; exact h

section
variable {P : Program} {w : World} {K : PySem.W.Frag} {mg : Str → Option Value} {base : Heap} {CT : Addr} {T : Tb}
/-! ### fresh -/
def spFresh (T : Tb) (CT : Addr) (n : Nat) : Sp := fun vs H Q _ => ∃ L v x, vs = [x] ∧ LT H L ∧ Rep CT L n H v x ∧ ∀ r H', Ex T [] H H' → Rep CT L n H' v r → Q r H'
abbrev nFr : List Str := ["value", "item"]
theorem sc_fresh : FnScope nFr ["value"] (defScope (top 15)) := ⟨rfl, rfl, rfl, by decide +kernel, rfl, by decide +kernel, by decide +kernel⟩
theorem fresh_comp {L : List Addr} {n : Nat} {H : Hp} {D : Addr} {vs : List PV} {ys : List V} {x0 : V} {J : It} {G : Hp → Prop} {Qd : Hp → Prop} (hD : H D = none) (lt : LT H L) (hl : ys.length ≤ 1000) (p : Paired (Rep CT L n H) vs ys) (w : Walk J ys.length G (YAt ys)) (hG : ∀ Hi, Ex T [] H Hi → G Hi)
    (hd : ∀ Hi acc, Ex T [] H Hi → Hi D = some (.lst acc) → acc.length ≤ 1000 → Paired (Rep CT L n Hi) vs acc → Qd Hi) : LcW J (gName 1) tYes (tCall (spFresh T CT n) [] E0 (tCons (tVar 1) tNil)) [1] [some x0, none] H D Qd := by
  refine lcw_it w (fun i Hi => ∃ acc, Hi D = some (.lst acc) ∧ acc.length = i ∧ Ex T [] H Hi ∧ Paired (Rep CT (D :: L) n Hi) (vs.take i) acc) ⟨[], upd_same, rfl, Ex.new hD _, .nil⟩ (fun i Hi _ ⟨_, _, _, e, _⟩ => hG Hi e) ?_ ?_
  · rintro i x Hi0 Hi hi ⟨acc, ha, hlen, e, pp⟩ ⟨e0, hx⟩
    subst e0
    obtain ⟨v, hv, rv⟩ := paired_get p hx
    have r1 : Rep CT (D :: L) n Hi v x := rep_kee e.kee.of_nil (rep_add (fun b hb => (List.mem_cons.mp hb).elim (fun z => .inr (by rw [z]; exact hD)) .inl) rv)
    refine ⟨rfl, _, rfl, D :: L, v, x, rfl, (lt.ex e).cons ha, r1, fun r H' e2 rp => ?_⟩
    refine ⟨acc, e2.lst ha, lt1000 (by omega), acc ++ [r], upd_same, by rw [List.length_append, hlen]; rfl, (e.trans e2).grow hD (e2.lst ha) _, ?_⟩
    have k2 : Kee (D :: L) H' (upd H' D (.lst (acc ++ [r]))) := Kee.put List.mem_cons_self _
    exact (take_snoc (pp.mono fun a b q => rep_kee e2.kee.of_nil q) hv rp).mono fun a b q => rep_kee k2 q
  · rintro Hi ⟨acc, ha, hlen, e, pp⟩
    rw [List.take_of_length_le (by rw [p.length]; exact Nat.le_refl _)] at pp
    exact hd Hi acc e ha (by rw [hlen]; exact hl) (pp.mono fun a b q => rep_less (fun b hb => List.mem_cons_of_mem _ hb) q)
theorem ok_fresh (D : Dn K mg "fresh" (top 15)) (B : Bl mg) (F : TF K CT) : ∀ n, Has P w K mg base CX0 (n + 1) "fresh" ["value"] (spFresh T CT n) := by
  intro n
  induction n with
  | zero =>
    refine D.has0 sc_fresh (fun vs H Q E h => ?_) (fun _ _ _ _ _ _ us hl => match us, hl with | [_], _ => rfl) (fun f cdv A outer s H vs Q E hr h => ?_)
    · obtain ⟨L, v, x, rfl, _⟩ := h
      rfl
    obtain ⟨L, v, x, rfl, lt, rp, q⟩ := h
    have sh := rep_sh rp
    have hk : (kindN v == 4) = false ∧ (kindN v == 5) = false := by
      cases v with
      | row t vs => unfold Rep at rp; exact False.elim rp
      | _ => exact ⟨rfl, rfl⟩
    refine ⟨_, pss_cons (ps_if (pt_val (pe_callB call_isi rfl B.isinstance (by decide +kernel) (pa_cons (pv 0) (pa_cons (pe_bltn (v := .ty "list") rfl B.list (by decide +kernel) rfl) pa_nil)))) (pss_one (ps_never)) pss_nil)
      (pss_cons (ps_if (pt_val (pe_callB call_isi rfl B.isinstance (by decide +kernel) (pa_cons (pv 0) (pa_cons (pe_bltn (v := .ty "tuple") rfl B.tuple (by decide +kernel) rfl) pa_nil)))) (pss_one (ps_never)) pss_nil)
      (pss_one (ps_ret (pv 0)))), ?_⟩
    refine ⟨_, rfl, _, _, _, _, _, rfl, .ty "list", sh.ty F, kit_list F sh.lt, _, rfl, ?_⟩
    rw [hk.1]
    refine iteF ⟨_, rfl, _, _, _, _, _, rfl, .ty "tuple", sh.ty F, kit_tuple F sh.lt, _, rfl, ?_⟩
    rw [hk.2]
    exact iteF ⟨_, rfl, q _ _ (Ex.refl H) rp⟩
  | succ n ih =>
    obtain ⟨f0, fd0, hm0, kp0, b0, G0⟩ := ih.ex
    refine D.has0 sc_fresh (fun vs H Q E h => ?_) (fun _ _ _ _ _ _ us hl => match us, hl with | [_], _ => rfl) (fun f cdv A outer s H vs Q E hr h => ?_)
    · obtain ⟨L, v, x, rfl, _⟩ := h
      rfl
    obtain ⟨L, v, x, rfl, lt, rp, q⟩ := h
    have sh := rep_sh rp
    refine ⟨_, pss_cons (ps_if (pt_val (pe_callB call_isi rfl B.isinstance (by decide +kernel) (pa_cons (pv 0) (pa_cons (pe_bltn (v := .ty "list") rfl B.list (by decide +kernel) rfl) pa_nil)))) (pss_one (ps_ret
          (pe_lc (own := [("item", 1)]) (g := gName 1) (tt := tYes) rfl sc_fresh.nd (pi_list (pv 0)) (blkOk_by (N := nFr) (sc := defScope (top 15)) (by decide +kernel)) (fun _ _ _ _ _ => pg_name (i := 1) sc_fresh.nd rfl (Or.inl rfl)) (fun _ _ _ _ _ => pts_nil)
            (fun _ _ _ _ _ => pe_call G0 hr rfl hm0 kp0 b0 .nil pass0 (pa_cons (pv 1) pa_nil))))) pss_nil)
      (pss_cons (ps_if (pt_val (pe_callB call_isi rfl B.isinstance (by decide +kernel) (pa_cons (pv 0) (pa_cons (pe_bltn (v := .ty "tuple") rfl B.tuple (by decide +kernel) rfl) pa_nil)))) (pss_one (ps_ret
          (pe_callTy call_tuple_of rfl B.tuple (by decide +kernel) (pa_cons (pe_lc (own := [("item", 1)]) (g := gName 1) (tt := tYes) rfl sc_fresh.nd (pi_tup (pv 0)) (blkOk_by (N := nFr) (sc := defScope (top 15)) (by decide +kernel)) (fun _ _ _ _ _ => pg_name (i := 1) sc_fresh.nd rfl (Or.inl rfl)) (fun _ _ _ _ _ => pts_nil)
            (fun _ _ _ _ _ => pe_call G0 hr rfl hm0 kp0 b0 .nil pass0 (pa_cons (pv 1) pa_nil))) pa_nil)))) pss_nil)
      (pss_one (ps_ret (pv 0)))), ?_⟩
    refine ⟨_, rfl, _, _, _, _, _, rfl, .ty "list", sh.ty F, kit_list F sh.lt, _, rfl, ?_⟩
    by_cases c4 : ∃ vs, v = .row false vs
    · obtain ⟨vs, rfl⟩ := c4
      unfold Rep at rp
      obtain ⟨a, ys, rfl, ha, e, l, p⟩ := rp
      refine iteT ⟨_, rfl, a, rfl, ⟨_, SqL.of e⟩, fun D hD => fresh_comp hD lt l p (walk_list (K := K) (a := a)) (fun Hi ei => SqL.of (ei.lst e)) fun Hi acc ei hDi hl pp => ?_⟩
      refine q _ _ ei ?_
      unfold Rep
      exact ⟨D, acc, rfl, lt.notin hD, hDi, hl, pp⟩
    · have hk4 : (kindN v == 4) = false := by
        cases v with
        | row t vs => cases t with
          | false => exact absurd ⟨vs, rfl⟩ c4
          | true => rfl
        | _ => rfl
      rw [hk4]
      refine iteF ⟨_, rfl, _, _, _, _, _, rfl, .ty "tuple", sh.ty F, kit_tuple F sh.lt, _, rfl, ?_⟩
      by_cases c5 : ∃ vs, v = .row true vs
      · obtain ⟨vs, rfl⟩ := c5
        unfold Rep at rp
        obtain ⟨a, ys, rfl, ha, e, l, p⟩ := rp
        refine iteT ⟨_, rfl, a, rfl, ⟨_, SqT.of e⟩, fun D hD => fresh_comp hD lt l p (walk_tup (K := K) (a := a)) (fun Hi ei => SqT.of (ei.tup e)) fun Hi acc ei hDi hl pp => ?_⟩
        refine ⟨D, _, rfl, .inl ⟨SqL.of hDi, fun t ht => ?_⟩⟩
        refine q _ _ (ei.then_new ht _) ?_
        unfold Rep
        exact ⟨t, acc, rfl, (lt.ex ei).notin ht, upd_same, hl, pp.mono fun a b q => rep_kee (Kee.new ht _) q⟩
      · have hk5 : (kindN v == 5) = false := by
          cases v with
          | row t vs => cases t with
            | true => exact absurd ⟨vs, rfl⟩ c5
            | false => rfl
          | _ => rfl
        rw [hk5]
        exact iteF ⟨_, rfl, q _ _ (Ex.refl H) rp⟩
end
end K86
/-! K86Same: same, same_rows, same_tables. -/
namespace K86
open PySem PySem.Spec PyProof.Rows L2

/-! ### dicts -/
theorem call_lenR {X : Cx} : CallR X (.builtin "len") (fun xs H Q => ∃ a kvs, xs = [V.ref a] ∧ Rd H a (.dK kvs) ∧ Q (.int kvs.length) H) := by
  intro pins s σ H xs us Q I r h
  obtain ⟨a, kvs, rfl, ha, q⟩ := h
  obtain ⟨u, rfl, ru⟩ := vals1 r
  cases ru
  exact d_len I ha fun t s' I' => ⟨.int kvs.length, H, I', ⟨t, rfl⟩, q⟩
theorem valV_at : ∀ {kvs : List (Key × V)} {i : Nat} {k : Key} {v : V}, (kvs.map (·.1)).Nodup → kvs[i]? = some (k, v) → valV kvs k = some v
  | [], i, k, v, _, h => by simp at h
  | p :: r, 0, k, v, _, h => by
    have e : p = (k, v) := Option.some.inj h
    rw [e]
    exact valV_pos rfl
  | p :: r, i + 1, k, v, nd, h => by
    have nd' := List.nodup_cons.mp nd
    have h' : r[i]? = some (k, v) := h
    have hm : k ∈ r.map (·.1) := List.mem_map.mpr ⟨(k, v), List.mem_of_getElem? h', rfl⟩
    rw [valV_neg (fun z => nd'.1 (by show p.1 ∈ _; rw [z]; exact hm))]
    exact valV_at nd'.2 h'
theorem dget_of {H : Hp} {a : Addr} {kvs : List (Key × V)} {k : Key} (e : Rd H a (.dK kvs)) : DGet H a (kV k) (valV kvs k) := .inl ⟨kvs, k, e, rfl, rfl⟩

/-! ### equality of key lists -/
def keyD : Key → PyData
  | .inl i => .int i
  | .inr x => .str x
theorem keyD_dp {K : PySem.W.Frag} {H : Hp} : ∀ ks : List Key, DpAll K H (ks.map kV) (ks.map keyD)
  | [] => .nil
  | .inl i :: r => .cons (.int i) (keyD_dp r)
  | .inr x :: r => .cons (.str x) (keyD_dp r)
theorem keyD_eqv (a b : Key) : PyData.eqv (keyD a) (keyD b) = decide (a = b) := by
  cases a with
  | inl i => cases b with
    | inl j => rw [Bool.eq_iff_iff]; simp [keyD, PyData.eqv]
    | inr y => simp [keyD, PyData.eqv]
  | inr x => cases b with
    | inl j => simp [keyD, PyData.eqv]
    | inr y => rw [Bool.eq_iff_iff]; simp [keyD, PyData.eqv]
theorem keyD_eqvAll : ∀ ks js : List Key, PyData.eqvAll (ks.map keyD) (js.map keyD) = decide (ks = js)
  | [], [] => by simp [PyData.eqvAll]
  | [], _ :: _ => by simp [PyData.eqvAll]
  | _ :: _, [] => by simp [PyData.eqvAll]
  | a :: r, b :: t => by
    simp only [List.map_cons, PyData.eqvAll, keyD_eqv, keyD_eqvAll r t, List.cons.injEq]
    by_cases h1 : a = b <;> by_cases h2 : r = t <;> simp [h1, h2]
theorem keyD_lay : ∀ ks : List Key, (∀ k ∈ ks, okK k) → PyData.canLayAll0 (ks.map keyD) = true ∧ PyData.depthAll (ks.map keyD) = 0
  | [], _ => by simp [PyData.canLayAll0, PyData.depthAll]
  | k :: r, h => by
    obtain ⟨h1, h2⟩ := keyD_lay r fun j hj => h j (List.mem_cons_of_mem _ hj)
    have hk := h k List.mem_cons_self
    cases k with
    | inl i => simp [keyD, PyData.canLayAll0, PyData.canLay0, PyData.depthAll, PyData.depth, h1, h2]
    | inr x =>
      have ha : ascii x := hk.1
      have hx : PyData.strOk x = true := by
        unfold PyData.strOk
        rw [Array.all_eq_true]
        exact fun i hi => decide_eq_true (Nat.lt_trans (ha _ (Array.mem_toList_iff.mpr (Array.getElem_mem hi))) (by decide))
      simp [keyD, PyData.canLayAll0, PyData.canLay0, PyData.depthAll, PyData.depth, h1, h2, hx]
theorem keys_shaped {ks : List Key} (h : ∀ k ∈ ks, okK k) : SeqAt.shaped (.list (ks.map keyD)) = true := by
  obtain ⟨h1, h2⟩ := keyD_lay ks h
  simp [SeqAt.shaped, PyData.canLay0, PyData.depth, h1, h2]

/-! ### kinds -/
def kindC : PV → Fin 8
  | .non => 0
  | .bl true => 1
  | .bl false => 2
  | .int _ => 3
  | .str _ => 4
  | .row false _ => 5
  | .row true _ => 6
  | .tab _ => 7
def codeT : Fin 8 → Str := fun k => match k with
  | 0 => "null"
  | 1 => "true"
  | 2 => "false"
  | 3 => "integer"
  | 4 => "text"
  | 5 => "list"
  | 6 => "tuple"
  | 7 => "table"
theorem kindT_code (v : PV) : kindT v = codeT (kindC v) := by
  cases v with
  | bl b => cases b <;> rfl
  | row t vs => cases t <;> rfl
  | _ => rfl
theorem codeT_inj : ∀ a b : Fin 8, codeT a = codeT b → a = b := by decide +kernel
theorem kindT_inj {v u : PV} (h : kindT v = kindT u) : kindC v = kindC u := codeT_inj _ _ (by rw [← kindT_code, ← kindT_code]; exact h)

/-! ### the reading of a for, named -/
def ForW (J : It) (g : TG) (tb : TS) (D : Ends) (σ : L2.St) (H : Hp) : Prop := ∃ W : Nat → Nat → L2.St → Hp → Prop, (∃ m, W 0 m σ H) ∧ ∀ i m σ H, W i m σ H →
  (J.stop i H ∧ D.nx σ H) ∨ (J.go i H ∧ ∃ N : L2.St → Hp → Prop, (∀ σ' H', N σ' H' → ∃ m', m' < m ∧ W (i + 1) m' σ' H') ∧ ∀ x H', J.yld i H x H' → g x σ H' fun σ2 H2 => tb { D with nx := N, ct := N, bk := D.nx } σ2 H2)
theorem forw_it {J : It} {n : Nat} {G : Hp → Prop} {Y : Nat → Hp → V → Hp → Prop} (w : Walk J n G Y) {g : TG} {tb : TS} {D : Ends} {σ : L2.St} {H : Hp} (Pv : Nat → L2.St → Hp → Prop) (h0 : Pv 0 σ H) (hG : ∀ i σ H, i ≤ n → Pv i σ H → G H)
    (hs : ∀ i x σ H H', i < n → Pv i σ H → Y i H x H' → g x σ H' fun σ2 H2 => tb { D with nx := Pv (i + 1), ct := Pv (i + 1), bk := D.nx } σ2 H2) (hd : ∀ σ H, Pv n σ H → D.nx σ H) : ForW J g tb D σ H := for_it w Pv h0 hG hs hd
theorem Ex.sql {T : Tb} {K : PySem.W.Frag} {H H' : Hp} {a : Addr} {xs : List V} (e : Ex T [] H H') (h : SqL K H a xs) : SqL K H' a xs := by
  rcases h with (h | ⟨o, h⟩) | h
  · exact .inl (.inl (e.lst h))
  · exact .inl (.inr ⟨o, e.frz h⟩)
  · exact .inr h
theorem Ex.sqt {T : Tb} {K : PySem.W.Frag} {H H' : Hp} {a : Addr} {xs : List V} (e : Ex T [] H H') (h : SqT K H a xs) : SqT K H' a xs := by
  rcases h with (h | ⟨o, h⟩) | h
  · exact .inl (.inl (e.tup h))
  · exact .inl (.inr ⟨o, e.frz h⟩)
  · exact .inr h
theorem enumA_for {T : Tb} {K : PySem.W.Frag} {a : Addr} {xs : List V} {g : TG} {tb : TS} {D : Ends} {σ : L2.St} {H : Hp} (h : SqL K H a xs ∨ SqT K H a xs)
    (f : ∀ {J : It} {G : Hp → Prop}, Walk J xs.length G (YPair (fun i => some (.int (i : Nat))) (fun i => xs[i]?)) → (∀ Hi, Ex T [] H Hi → G Hi) → ForW J g tb D σ H) : (SqL K H a xs ∧ ForW (Ite K a) g tb D σ H) ∨ (SqT K H a xs ∧ ForW (IteT K a) g tb D σ H) := by
  rcases h with h | h
  · exact .inl ⟨h, f walk_enum fun Hi e => e.sql h⟩
  · exact .inr ⟨h, f walk_enumT fun Hi e => e.sqt h⟩

section
variable {P : Program} {w : World} {K : PySem.W.Frag} {mg : Str → Option Value} {base : Heap} {CT : Addr} {T : Tb}
def spSame (T : Tb) (CT : Addr) (n : Nat) : Sp := fun vs H Q _ => ∃ x y v u, vs = [x, y, .bl true] ∧ Rep CT [] n H v x ∧ Rep CT [] n H u y ∧ okV n v ∧ okV n u ∧ ∀ b H', Ex T [] H H' → (b = true ↔ v = u) → Q (.bl b) H'
def spRows (T : Tb) (CT : Addr) (n : Nat) : Sp := fun vs H Q _ => ∃ x y t v u, vs = [x, y, .bl true] ∧ Rep CT [] n H (.row t v) x ∧ Rep CT [] n H (.row t u) y ∧ okV n (.row t v) ∧ okV n (.row t u) ∧ ∀ b H', Ex T [] H H' → (b = true ↔ v = u) → Q (.bl b) H'
def spTabs (T : Tb) (CT : Addr) (n : Nat) : Sp := fun vs H Q _ => ∃ x y v u, vs = [x, y, .bl true] ∧ Rep CT [] n H (.tab v) x ∧ Rep CT [] n H (.tab u) y ∧ okV n (.tab v) ∧ okV n (.tab u) ∧ ∀ b H', Ex T [] H H' → (b = true ↔ v = u) → Q (.bl b) H'
abbrev psS : List Str := ["value", "other", "ordered"]
/-- same keeps its promise at n -/
structure HasS (P : Program) (w : World) (K : PySem.W.Frag) (mg : Str → Option Value) (base : Heap) (T : Tb) (CT : Addr) (n : Nat) : Prop where
  ex : ∃ f fd, mg "same" = some (.ref f) ∧ PySem.W.keepIn K (.ref f) = true ∧ KBn K fd psS 2 ["ordered"] (fun us ws => us ++ ws) (fun vs zs => vs ++ zs) ∧ FnOk P w K mg base CX0 (2 * n + 2) f fd psS (spSame T CT n)
abbrev nSR : List Str := ["value", "other", "ordered", "index", "item"]
theorem sc_rows : FnScope nSR psS (defScope (top 16)) := ⟨rfl, rfl, rfl, by decide +kernel, rfl, by decide +kernel, by decide +kernel⟩
theorem ok_rows (D : Dn K mg "same_rows" (top 16)) (B : Bl mg) (F : TF K CT) {n : Nat} (S : HasS P w K mg base T CT n) : Has P w K mg base CX0 (2 * n + 3) "same_rows" psS (spRows T CT (n + 1)) := by
  obtain ⟨f0, fd0, hm0, kp0, b0, G0⟩ := S.ex
  refine D.has0 sc_rows (fun vs H Q E h => ?_) (fun _ _ _ _ _ _ us hl => match us, hl with | [_, _, _], _ => rfl) (fun f cdv A outer s H vs Q E hr h => ?_)
  · obtain ⟨x, y, t, v, u, rfl, _⟩ := h
    rfl
  obtain ⟨x, y, t, vs, us, rfl, rx, ry, ox, oy, q⟩ := h
  unfold Rep at rx ry
  obtain ⟨a, xs, rfl, _, ea, la, pa⟩ := rx
  obtain ⟨b, ys, rfl, _, eb, lb, pb⟩ := ry
  obtain ⟨ox1, ox2⟩ := ox
  obtain ⟨oy1, oy2⟩ := oy
  have sqx : ∀ {Hi}, Ex T [] H Hi → SqL K Hi a xs ∨ SqT K Hi a xs := fun e => by
    cases t with
    | false => exact .inl (SqL.of (e.lst ea))
    | true => exact .inr (SqT.of (e.tup ea))
  have sqy : ∀ {Hi}, Ex T [] H Hi → SqL K Hi b ys ∨ SqT K Hi b ys := fun e => by
    cases t with
    | false => exact .inl (SqL.of (e.lst eb))
    | true => exact .inr (SqT.of (e.tup eb))
  refine ⟨_, pss_cons (ps_if (pt_cmpR op_ne (pe_callB call_len_seq rfl B.len PySem.boot_len (pa_cons (pv 0) pa_nil)) (pe_callB call_len_seq rfl B.len PySem.boot_len (pa_cons (pv 1) pa_nil)) (nomark _)) (pss_one (ps_ret pe_bl)) pss_nil)
    (pss_cons (ps_for PassesOwn.never rfl (pi_enumA (by rfl) B.enumerate (pa_cons (pv 0) pa_nil)) (pg_tup rfl (pgs_cons (pg_name (i := 3) sc_rows.nd rfl (.inl rfl)) (pgs_cons (pg_name (i := 4) sc_rows.nd rfl (.inl rfl)) pgs_nil)))
      (pss_one (ps_if (pt_not (pt_val (pe_callN G0 hr rfl hm0 kp0 b0 pass0 (pa_cons (pv 4) (pa_cons (pe_ix ix_seq (pv 1) (pv 3) (fun _ _ => rfl)) pa_nil)) (pk_cons (pv 2) pk_nil)))) (pss_one (ps_ret pe_bl)) pss_nil)))
    (pss_one (ps_ret pe_bl))), ?_⟩
  refine ⟨_, rfl, a, xs, rfl, sqx (Ex.refl H), _, rfl, b, ys, rfl, sqy (Ex.refl H), rfl, _, rfl, ?_⟩
  have hlx : vs.length = xs.length := pa.length
  have hly : us.length = ys.length := pb.length
  by_cases c : xs.length = ys.length
  · rw [c]
    refine ite2 (fun z => absurd z (by simp)) (fun _ => ?_)
    refine ⟨_, rfl, a, xs, rfl, enumA_for (T := T) (sqx (Ex.refl H)) fun {J G} w0 hG => forw_it w0 (fun i σ Hi => ∃ v3 v4, σ = [some (.ref a), some (.ref b), some (.bl true), v3, v4] ∧ Ex T [] H Hi ∧ vs.take i = us.take i) ⟨none, none, rfl, Ex.refl H, rfl⟩ (fun i σ Hi _ ⟨_, _, _, e, _⟩ => hG Hi e) ?_ ?_⟩
    · rintro i z σ Hi H2 hi ⟨v3, v4, rfl, e, et⟩ ⟨Tp, z1, z2, rfl, hT, rfl, h1, h2⟩
      obtain rfl := Option.some.inj h1
      obtain ⟨v, hv, rv⟩ := paired_get pa h2
      have hi2 : i < ys.length := by rw [← c]; exact hi
      obtain ⟨u, hu, ru⟩ := paired_get pb (List.getElem?_eq_getElem hi2)
      have e2 : Ex T [] H (upd Hi Tp (.tup [.int (i : Nat), z2])) := e.then_new hT _
      refine ⟨Tp, _, rfl, SqT.of upd_same, rfl, _, _, rfl, _, _, rfl, rfl, ?_⟩
      have hat : atI ys ((i : Nat) : Int) = some ys[i] := atI_nat (List.getElem?_eq_getElem hi2)
      have rix : ∀ {Qx : VK}, Qx ys[i] (upd Hi Tp (.tup [.int (i : Nat), z2])) → rIx K (.ref b) (.int (i : Nat)) (upd Hi Tp (.tup [.int (i : Nat), z2])) Qx := fun qx => by
        rcases sqy e2 with z | z
        · exact .inl ⟨b, ys, _, _, rfl, rfl, z, hat, qx⟩
        · exact .inr (.inl ⟨b, ys, _, _, rfl, rfl, z, hat, qx⟩)
      refine ⟨_, rfl, _, rfl, _, rfl, rix ⟨_, rfl, rfl, rfl, z2, ys[i], v, u, rfl, rep_kee e2.kee rv, rep_kee e2.kee ru, ox2 v (List.mem_of_getElem? hv), oy2 u (List.mem_of_getElem? hu), fun bb H' e3 hb => ⟨bb, rfl, ?_⟩⟩⟩
      cases bb with
      | true =>
        refine iteF ⟨_, _, rfl, e2.trans e3, ?_⟩
        rw [List.take_succ, List.take_succ, et, hv, hu, hb.mp rfl]
      | false =>
        refine iteT (q false H' (e2.trans e3) ⟨fun z => absurd z Bool.false_ne_true, fun z => ?_⟩)
        have : v = u := by rw [z, hu] at hv; exact (Option.some.inj hv).symm
        exact hb.mpr this
    · rintro σ Hi ⟨v3, v4, rfl, e, et⟩
      refine q true Hi e ⟨fun _ => ?_, fun _ => rfl⟩
      rw [List.take_of_length_le (by omega), List.take_of_length_le (by omega)] at et
      exact et
  · refine ite2 (fun _ => ?_) (fun z => absurd (by simp; omega) z)
    exact q false H (Ex.refl H) ⟨fun z => absurd z Bool.false_ne_true, fun z => absurd (by rw [← hlx, ← hly, z]) c⟩

/-! ### same_tables -/
theorem paired_keys {CT : Addr} {L : List Addr} {n : Nat} {H : Hp} : ∀ {es : List (Key × PV)} {kvs : List (Key × V)}, Paired (fun (e : Key × PV) (kv : Key × V) => e.1 = kv.1 ∧ Rep CT L n H e.2 kv.2) es kvs → es.map (·.1) = kvs.map (·.1)
  | _, _, .nil => rfl
  | _, _, .cons h t => by
    rw [List.map_cons, List.map_cons, h.1, paired_keys t]
theorem sc_tabs : FnScope ["value", "other", "ordered", "key", "item"] psS (defScope (top 17)) := ⟨rfl, rfl, rfl, by decide +kernel, rfl, by decide +kernel, by decide +kernel⟩
def tTabs (T : Tb) (K : PySem.W.Frag) (CT : Addr) (n : Nat) : TS := tIfS (tOr (tB (tDNotIn (tVar 3) (tFld K (tVar 1) "held"))) (tNot (tB (tCallN 2 1 (spSame T CT n) (fun vs zs => vs ++ zs) E0 (tCons (tVar 4) (tCons (tDGet (tFld K (tVar 1) "held") (tVar 3)) tNil)) (tCons (tVar 2) tNil))))) (tRet (tC (.bl false))) tNext
theorem tabs_loop (F : TF K CT) {n : Nat} {H : Hp} {a b d1 d2 dx2 : Addr} {kvs1 kvs2 : List (Key × V)} {es fs : List (Key × PV)} (eb : H b = some (.ins CT dx2 [("held", .ref d2)])) (r2 : Rd H d2 (.dK kvs2)) (nd : (kvs2.map (·.1)).Nodup)
    (p1 : Paired (fun (e : Key × PV) (kv : Key × V) => e.1 = kv.1 ∧ Rep CT [] n H e.2 kv.2) es kvs1) (p2 : Paired (fun (e : Key × PV) (kv : Key × V) => e.1 = kv.1 ∧ Rep CT [] n H e.2 kv.2) fs kvs2) (o1 : ∀ p ∈ es, okV n p.2) (o2 : ∀ p ∈ fs, okV n p.2) (hk : kvs1.map (·.1) = kvs2.map (·.1))
    {od : Obj} {D : Ends} (hd : H d1 = some (.frz od (.dK kvs1))) (hrt : ∀ bb H', Ex T [] H H' → (bb = true ↔ es = fs) → D.rt (.bl bb) H') (hnx : ∀ σ H', Ex T [] H H' → es = fs → D.nx σ H') :
    ForW (Iti d1 od kvs1) (gTup K 2 (gCons (gName 3) (gCons (gName 4) gNil))) (tTabs T K CT n) D [some (.ref a), some (.ref b), some (.bl true), none, none] H := by
  have hl1 : es.length = kvs1.length := p1.length
  have hl2 : fs.length = kvs2.length := p2.length
  have hl3 : kvs1.length = kvs2.length := by
    have z := congrArg List.length hk
    rwa [List.length_map, List.length_map] at z
  refine forw_it walk_items (fun i σ Hi => ∃ v3 v4, σ = [some (.ref a), some (.ref b), some (.bl true), v3, v4] ∧ Ex T [] H Hi ∧ es.take i = fs.take i) ⟨none, none, rfl, Ex.refl H, rfl⟩ (fun i σ Hi _ ⟨_, _, _, e, _⟩ => e.frz hd) ?_ ?_
  · rintro i z σ Hi H2 hi ⟨v3, v4, rfl, e, et⟩ ⟨Tp, z1, z2, rfl, hT, rfl, h1, h2⟩
    have q1 : kvs1[i]? = some kvs1[i] := List.getElem?_eq_getElem hi
    simp only [q1, Option.map_some] at h1 h2
    obtain rfl := Option.some.inj h1
    obtain rfl := Option.some.inj h2
    have hi2 : i < kvs2.length := by omega
    have q2 : kvs2[i]? = some kvs2[i] := List.getElem?_eq_getElem hi2
    obtain ⟨v, hv, rv0, rv⟩ := paired_get p1 q1
    obtain ⟨u, hu, ru0, ru⟩ := paired_get p2 q2
    have hkk : kvs1[i].1 = kvs2[i].1 := by
      have z := congrArg (fun l => l[i]?) hk
      simp only [List.getElem?_map, q1, q2, Option.map_some] at z
      exact Option.some.inj z
    have e2 : Ex T [] H (upd Hi Tp (.tup [kV kvs1[i].1, kvs1[i].2])) := e.then_new hT _
    have hget : valV kvs2 kvs1[i].1 = some kvs2[i].2 := valV_at nd (by rw [hkk]; exact q2)
    have rd2 : Rd (upd Hi Tp (.tup [kV kvs1[i].1, kvs1[i].2])) d2 (.dK kvs2) := e2.kee.dic _ _ (fun z => nomatch z) r2
    have g2 : DGet (upd Hi Tp (.tup [kV kvs1[i].1, kvs1[i].2])) d2 (kV kvs1[i].1) (some kvs2[i].2) := by
      rw [← hget]
      exact dget_of rd2
    refine ⟨Tp, _, rfl, SqT.of upd_same, rfl, _, _, rfl, _, _, rfl, rfl, ?_⟩
    refine ⟨_, rfl, _, rfl, b, CT, dx2, _, _, rfl, e2.ins eb, F.cl, F.held, rfl, d2, _, rfl, g2, _, rfl, iteF ?_⟩
    refine ⟨_, rfl, ⟨_, rfl, b, CT, dx2, _, _, rfl, e2.ins eb, F.cl, F.held, rfl, _, rfl, d2, _, rfl, g2, _, rfl, rfl, rfl, kvs1[i].2, kvs2[i].2, v.2, u.2, rfl, rep_kee e2.kee rv, rep_kee e2.kee ru, o1 v (List.mem_of_getElem? hv), o2 u (List.mem_of_getElem? hu), fun bb H' e3 hb => ⟨bb, rfl, ?_⟩⟩⟩
    have hvu : v.1 = u.1 := by rw [rv0, ru0, hkk]
    cases bb with
    | true =>
      refine iteF ⟨_, _, rfl, e2.trans e3, ?_⟩
      rw [List.take_succ, List.take_succ, et, hv, hu, Prod.ext hvu (hb.mp rfl)]
    | false =>
      refine iteT (hrt false H' (e2.trans e3) ⟨fun z => absurd z Bool.false_ne_true, fun z => ?_⟩)
      have : v = u := by rw [z, hu] at hv; exact (Option.some.inj hv).symm
      exact hb.mpr (by rw [this])
  · rintro σ Hi ⟨v3, v4, rfl, e, et⟩
    rw [List.take_of_length_le (by omega), List.take_of_length_le (by omega)] at et
    exact hnx _ Hi e et
theorem ok_tabs (D : Dn K mg "same_tables" (top 17)) (B : Bl mg) (F : TF K CT) {n : Nat} (S : HasS P w K mg base T CT n) : Has P w K mg base CX0 (2 * n + 3) "same_tables" psS (spTabs T CT (n + 1)) := by
  obtain ⟨f0, fd0, hm0, kp0, b0, G0⟩ := S.ex
  refine D.has0 sc_tabs (fun vs H Q E h => ?_) (fun _ _ _ _ _ _ us hl => match us, hl with | [_, _, _], _ => rfl) (fun f cdv A outer s H vs Q E hr h => ?_)
  · obtain ⟨x, y, v, u, rfl, _⟩ := h
    rfl
  obtain ⟨x, y, es, fs, rfl, rx, ry, ox, oy, q⟩ := h
  unfold Rep at rx ry
  obtain ⟨a, d1, dx1, kvs1, rfl, _, _, ea, r1, la, nd1, pa⟩ := rx
  obtain ⟨b, d2, dx2, kvs2, rfl, _, _, eb, r2, lb, nd2, pb⟩ := ry
  obtain ⟨ox1, ox2, ox3⟩ := ox
  obtain ⟨oy1, oy2, oy3⟩ := oy
  have hu := hu_of hr
  refine ⟨_, pss_cons (ps_if (pt_cmpR op_ne (pe_callB call_lenR rfl B.len PySem.boot_len (pa_cons (pe_fld (pv 0) rfl) pa_nil)) (pe_callB call_lenR rfl B.len PySem.boot_len (pa_cons (pe_fld (pv 1) rfl) pa_nil)) (nomark _)) (pss_one (ps_ret pe_bl)) pss_nil)
    (pss_cons (ps_if (PW.pt (pw_and (pt_val (pv 2)) (pw_and1 (pt_cmpR (op_neD hr.units) (pe_callTy (call_listD rfl) rfl B.list (by decide +kernel) (pa_cons (pe_fld (pv 0) rfl) pa_nil)) (pe_callTy (call_listD rfl) rfl B.list (by decide +kernel) (pa_cons (pe_fld (pv 1) rfl) pa_nil)) (nomark _))))) (pss_one (ps_ret pe_bl)) pss_nil)
    (pss_cons (ps_lockO (ps_for PassesOwn.never rfl (pi_items (pe_fld (pv 0) rfl)) (pg_tup rfl (pgs_cons (pg_name (i := 3) sc_tabs.nd rfl (.inl rfl)) (pgs_cons (pg_name (i := 4) sc_tabs.nd rfl (.inl rfl)) pgs_nil)))
      (pss_one (ps_if (PW.pt (pw_or (pt_cmp (pc_dnotin hu (pv 3) (pe_fld (pv 1) rfl))) (pw_or1 (pt_not (pt_val (pe_callN G0 hr rfl hm0 kp0 b0 pass0 (pa_cons (pv 4) (pa_cons (pe_dget hu (pe_fld (pv 1) rfl) (pv 3) (fun _ _ => rfl)) pa_nil)) (pk_cons (pv 2) pk_nil))))))) (pss_one (ps_ret pe_bl)) pss_nil))))
    (pss_one (ps_ret pe_bl)))), ?_⟩
  have hlx : es.length = kvs1.length := pa.length
  have hly : fs.length = kvs2.length := pb.length
  have ka := paired_keys pa
  have kb := paired_keys pb
  refine ⟨_, rfl, a, CT, dx1, _, _, rfl, ea, F.cl, F.held, rfl, d1, kvs1, rfl, r1, _, rfl, b, CT, dx2, _, _, rfl, eb, F.cl, F.held, rfl, d2, kvs2, rfl, r2, rfl, _, rfl, ?_⟩
  by_cases c : kvs1.length = kvs2.length
  · rw [c]
    refine ite2 (fun z => absurd z (by simp)) (fun _ => ?_)
    refine ⟨_, rfl, _, rfl, iteT ?_⟩
    refine ⟨_, rfl, a, CT, dx1, _, _, rfl, ea, F.cl, F.held, rfl, d1, kvs1, rfl, r1, fun p hp => ?_⟩
    have e1 : Ex T [] H (upd H p (.lst (kvs1.map fun kv => kV kv.1))) := Ex.new hp _
    refine ⟨_, rfl, b, CT, dx2, _, _, rfl, e1.ins eb, F.cl, F.held, rfl, d2, kvs2, rfl, e1.kee.dic _ _ (fun z => nomatch z) r2, fun p2 hp2 => ?_⟩
    have e2 : Ex T [] H (upd (upd H p (.lst (kvs1.map fun kv => kV kv.1))) p2 (.lst (kvs2.map fun kv => kV kv.1))) := e1.then_new hp2 _
    have m1 : (kvs1.map fun kv => kV kv.1) = (es.map (·.1)).map kV := by rw [ka, List.map_map]; rfl
    have m2 : (kvs2.map fun kv => kV kv.1) = (fs.map (·.1)).map kV := by rw [kb, List.map_map]; rfl
    have np : p ≠ p2 := ne_of_none upd_same hp2
    have s1 : SqL K (upd (upd H p (.lst (kvs1.map fun kv => kV kv.1))) p2 (.lst (kvs2.map fun kv => kV kv.1))) p ((es.map (·.1)).map kV) := SqL.of (by rw [upd_ne np, upd_same, m1])
    have s2 : SqL K (upd (upd H p (.lst (kvs1.map fun kv => kV kv.1))) p2 (.lst (kvs2.map fun kv => kV kv.1))) p2 ((fs.map (·.1)).map kV) := SqL.of (by rw [upd_same, m2])
    have ok1 : ∀ k ∈ es.map (·.1), okK k := fun k hk => by
      obtain ⟨z, hz, rfl⟩ := List.mem_map.mp hk
      exact (ox3 z hz).1
    have ok2 : ∀ k ∈ fs.map (·.1), okK k := fun k hk => by
      obtain ⟨z, hz, rfl⟩ := List.mem_map.mp hk
      exact (oy3 z hz).1
    refine ⟨.list ((es.map (·.1)).map keyD), .list ((fs.map (·.1)).map keyD), .lst s1 (keyD_dp _), .lst s2 (keyD_dp _), keys_shaped ok1, keys_shaped ok2, _, rfl, ?_⟩
    show if (!PyData.eqv (.list ((es.map (·.1)).map keyD)) (.list ((fs.map (·.1)).map keyD))) = true then _ else _
    rw [show PyData.eqv (.list ((es.map (·.1)).map keyD)) (.list ((fs.map (·.1)).map keyD)) = decide (es.map (·.1) = fs.map (·.1)) from by rw [PyData.eqv, keyD_eqvAll]]
    by_cases ck : es.map (·.1) = fs.map (·.1)
    · rw [decide_eq_true ck]
      refine iteF ?_
      generalize hH2 : upd (upd H p (.lst (kvs1.map fun kv => kV kv.1))) p2 (.lst (kvs2.map fun kv => kV kv.1)) = H2 at e2
      have ea2 := e2.ins ea
      have eb2 := e2.ins eb
      have r12 := e2.kee.dic _ _ (fun z => nomatch z) r1
      have r22 := e2.kee.dic _ _ (fun z => nomatch z) r2
      have pa2 := pa.mono fun (e : Key × PV) (kv : Key × V) (z : e.1 = kv.1 ∧ Rep CT [] n H e.2 kv.2) => (⟨z.1, rep_kee e2.kee z.2⟩ : e.1 = kv.1 ∧ Rep CT [] n H2 e.2 kv.2)
      have pb2 := pb.mono fun (e : Key × PV) (kv : Key × V) (z : e.1 = kv.1 ∧ Rep CT [] n H e.2 kv.2) => (⟨z.1, rep_kee e2.kee z.2⟩ : e.1 = kv.1 ∧ Rep CT [] n H2 e.2 kv.2)
      have hk : kvs1.map (·.1) = kvs2.map (·.1) := by rw [← ka, ← kb]; exact ck
      rcases r12 with r12 | ⟨od, r12⟩
      · refine .inl ⟨d1, _, r12, True.intro, fun od => ?_⟩
        have kl : Kee [] H2 (upd H2 d1 (.frz od (.dK kvs1))) := Kee.lock r12
        refine ⟨_, rfl, a, CT, dx1, _, _, rfl, kl.ins _ _ _ _ (fun z => nomatch z) ea2, F.cl, F.held, rfl, d1, od, kvs1, rfl, upd_same, ?_⟩
        refine tabs_loop F (kl.ins _ _ _ _ (fun z => nomatch z) eb2) (kl.dic _ _ (fun z => nomatch z) r22) nd2 (pa2.mono fun e kv z => ⟨z.1, rep_kee kl z.2⟩) (pb2.mono fun e kv z => ⟨z.1, rep_kee kl z.2⟩) (fun p hp => (ox3 p hp).2) (fun p hp => (oy3 p hp).2) hk upd_same (fun bb H' e3 hb => ?_) (fun σ H' e3 hb => ?_)
        · have f := e3.frz upd_same
          exact ⟨f, q bb _ (e2.trans (Ex.locked r12 e3 f)) hb⟩
        · have f := e3.frz upd_same
          exact ⟨f, q true _ (e2.trans (Ex.locked r12 e3 f)) ⟨fun _ => hb, fun _ => rfl⟩⟩
      · refine .inr ⟨_, rfl, a, CT, dx1, _, _, rfl, ea2, F.cl, F.held, rfl, d1, od, kvs1, rfl, r12, ?_⟩
        refine tabs_loop F eb2 r22 nd2 pa2 pb2 (fun p hp => (ox3 p hp).2) (fun p hp => (oy3 p hp).2) hk r12 (fun bb H' e3 hb => ?_) (fun σ H' e3 hb => ?_)
        · exact q bb _ (e2.trans e3) hb
        · exact q true _ (e2.trans e3) ⟨fun _ => hb, fun _ => rfl⟩
    · rw [decide_eq_false ck]
      refine iteT ?_
      exact q false _ e2 ⟨fun z => absurd z Bool.false_ne_true, fun z => absurd (by rw [z]) ck⟩
  · refine ite2 (fun _ => ?_) (fun z => absurd (by simp; omega) z)
    exact q false H (Ex.refl H) ⟨fun z => absurd z Bool.false_ne_true, fun z => absurd (by rw [← hlx, ← hly, z]) c⟩

/-! ### same -/
theorem sc_same : FnScope psS psS (defScope (top 18)) := ⟨rfl, rfl, rfl, by decide +kernel, rfl, by decide +kernel, by decide +kernel⟩
theorem kb_same {f : Addr} {fd : FuncData} (F : FunD K "same" "same" (defArgs (top 18)) (defBody (top 18)) (defScope (top 18)) [] [("ordered", .bl false)] f fd) : KBn K fd psS 2 ["ordered"] (fun us ws => us ++ ws) (fun vs zs => vs ++ zs) := by
  obtain ⟨mv, h⟩ := F.kbinds0 (ps := psS) 2 ["ordered"] [] (fun us _ ws => us ++ ws) (by decide) (fun q hq => nomatch hq) (fun r1 _ r3 => r1.append r3) (fun D doc pm an cdv ct us mv ws h1 h2 h3 => match us, mv, ws, h1, h2, h3 with | [_, _], [], [_], _, _, _ => rfl)
  exact h
theorem same_any (D : Dn K mg "same" (top 18) [("ordered", .bl false)]) (B : Bl mg) (F : TF K CT) (hT : mg "Table" = some (.ref CT)) (hk : Has P w K mg base CX0 1 "kind" ["value"] (spKind CT)) {n : Nat}
    {SR ST : Sp} (hR : Has P w K mg base CX0 (2 * n + 1) "same_rows" psS SR) (hTb : Has P w K mg base CX0 (2 * n + 1) "same_tables" psS ST)
    (hh : ∀ x y v u H (Q : VK), Rep CT [] n H v x → Rep CT [] n H u y → okV n v → okV n u → kindC v = kindC u → (∀ b H', Ex T [] H H' → (b = true ↔ v = u) → Q (.bl b) H') →
      (∀ t vs, v = .row t vs → SR [x, y, .bl true] H Q E0) ∧ (∀ es, v = .tab es → ST [x, y, .bl true] H Q E0)) : HasS P w K mg base T CT n := by
  obtain ⟨f, fd, FD, hm⟩ := D.ex
  obtain ⟨fk, fdk, hmk, kpk, bk, Gk⟩ := hk.ex
  obtain ⟨fr, fdr, hmr, kpr, br, Gr⟩ := hR.ex
  obtain ⟨ft, fdt, hmt, kpt, bt, Gt⟩ := hTb.ex
  refine ⟨f, fd, hm, FD.kp, kb_same FD, FD.ok sc_same (fun vs H Q E h => ?_) (fun cdv A outer s H vs Q E hr h => ?_)⟩
  · obtain ⟨x, y, v, u, rfl, _⟩ := h
    rfl
  obtain ⟨x, y, v, u, rfl, rx, ry, ox, oy, q⟩ := h
  have hr1 : Room 1 (A.deeper (envOfC "same" (defScope (top 18)) s.heap.objs.size f cdv)) := hr.mono (by omega)
  have tm : ∃ t, PSs (cxOf CX0 P w K mg base psS "same" (defScope (top 18)) f cdv A outer s H E).nox (defBody (top 18)) t ∧ t { nx := fun _ H' => Q .non H', rt := Q } (start psS [x, y, .bl true]) H := by
    refine ⟨_, pss_cons (ps_if (pt_cmpR op_ne (pe_call Gk hr1 rfl hmk kpk bk .nil pass0 (pa_cons (pv 0) pa_nil)) (pe_call Gk hr1 rfl hmk kpk bk .nil pass0 (pa_cons (pv 1) pa_nil)) (nomark _)) (pss_one (ps_ret pe_bl)) pss_nil)
      (pss_cons (ps_if (pt_val (pe_callB call_isi rfl B.isinstance (by decide +kernel) (pa_cons (pv 0) (pa_cons (pe_glob (v := .ref CT) rfl hT rfl) pa_nil)))) (pss_one (ps_ret (pe_call Gt hr rfl hmt kpt bt .nil pass0 (pa_cons (pv 0) (pa_cons (pv 1) (pa_cons (pv 2) pa_nil)))))) pss_nil)
      (pss_cons (ps_if (pt_val (pe_callB call_isiT rfl B.isinstance (by decide +kernel) (pa_cons (pv 0) (pa_cons (pe_tup (pa_cons (pe_bltn (v := .ty "list") rfl B.list (by decide +kernel) rfl) (pa_cons (pe_bltn (v := .ty "tuple") rfl B.tuple (by decide +kernel) rfl) pa_nil))) pa_nil)))) (pss_one (ps_ret (pe_call Gr hr rfl hmr kpr br .nil pass0 (pa_cons (pv 0) (pa_cons (pv 1) (pa_cons (pv 2) pa_nil)))))) pss_nil)
      (pss_one (ps_ret (pe_cmpR op_eq (pv 0) (pv 1) (nomark _)))))), ?_⟩
    have sh := rep_sh rx
    refine ⟨_, rfl, n, v, x, rfl, rx, _, rfl, n, u, y, rfl, ry, rfl, _, rfl, ?_⟩
    by_cases ck : kindC v = kindC u
    · have ckT : kindT v = kindT u := by rw [kindT_code, kindT_code, ck]
      rw [ckT]
      refine ite2 (fun z => absurd z (by simp)) (fun _ => ?_)
      have HH := hh x y v u H Q rx ry ox oy ck q
      refine ⟨_, rfl, _, _, _, _, _, rfl, .own CT, sh.ty F, kit_tab F sh.lt, _, rfl, ?_⟩
      by_cases c6 : ∃ es, v = .tab es
      · obtain ⟨es, rfl⟩ := c6
        exact iteT ⟨_, rfl, _, rfl, _, rfl, HH.2 es rfl⟩
      · have hk6 : (kindN v == 6) = false := by
          cases v with
          | tab es => exact absurd ⟨es, rfl⟩ c6
          | row t vs => cases t <;> rfl
          | _ => rfl
        rw [hk6]
        refine iteF ⟨_, rfl, by decide, fun p hp => ?_⟩
        have e1 : Ex T [] H (upd H p (.tup [.ty "list", .ty "tuple"])) := Ex.new hp _
        have sh1 := rep_sh (rep_kee e1.kee rx)
        refine ⟨_, _, _, _, [.type "list", .type "tuple"], _, rfl, upd_same, .cons (.ty _) (.cons (.ty _) .nil), sh1.ty F, kit_lt F sh1.lt, _, rfl, ?_⟩
        by_cases c5 : ∃ t vs, v = .row t vs
        · obtain ⟨t, vs, rfl⟩ := c5
          have hk5 : (kindN (.row t vs) == 4 || kindN (.row t vs) == 5) = true := by cases t <;> rfl
          rw [hk5]
          have HH1 := hh x y (.row t vs) u _ Q (rep_kee e1.kee rx) (rep_kee e1.kee ry) ox oy ck fun b H' e hb => q b H' (e1.trans e) hb
          exact iteT ⟨_, rfl, _, rfl, _, rfl, HH1.1 t vs rfl⟩
        · have hk5 : (kindN v == 4 || kindN v == 5) = false := by
            cases v with
            | row t vs => exact absurd ⟨t, vs, rfl⟩ c5
            | _ => rfl
          rw [hk5]
          refine iteF ⟨_, rfl, _, rfl, ?_⟩
          have fin : scal x y = true ∧ (decide (x = y) = true ↔ v = u) := by
            cases v with
            | row t vs => exact absurd ⟨t, vs, rfl⟩ c5
            | tab es => exact absurd ⟨es, rfl⟩ c6
            | non => cases u with
              | non => unfold Rep at rx ry; subst rx; subst ry; exact ⟨rfl, by simp⟩
              | bl b => cases b <;> exact absurd ck (by simp [kindC])
              | row t vs => cases t <;> exact absurd ck (by simp [kindC])
              | _ => exact absurd ck (by simp [kindC])
            | bl c => cases u with
              | bl b => unfold Rep at rx ry; subst rx; subst ry; exact ⟨rfl, by simp⟩
              | row t vs => cases t <;> cases c <;> exact absurd ck (by simp [kindC])
              | _ => cases c <;> exact absurd ck (by simp [kindC])
            | int i => cases u with
              | int b => unfold Rep at rx ry; subst rx; subst ry; exact ⟨rfl, by simp⟩
              | bl b => cases b <;> exact absurd ck (by simp [kindC])
              | row t vs => cases t <;> exact absurd ck (by simp [kindC])
              | _ => exact absurd ck (by simp [kindC])
            | str i => cases u with
              | str b => unfold Rep at rx ry; subst rx; subst ry; exact ⟨rfl, by simp⟩
              | bl b => cases b <;> exact absurd ck (by simp [kindC])
              | row t vs => cases t <;> exact absurd ck (by simp [kindC])
              | _ => exact absurd ck (by simp [kindC])
          exact ⟨fin.1, q _ _ e1 fin.2⟩
    · have ckT : ¬ kindT v = kindT u := fun z => ck (kindT_inj z)
      refine ite2 (fun _ => ?_) (fun z => absurd (by simp; exact ckT) z)
      exact q false H (Ex.refl H) ⟨fun z => absurd z Bool.false_ne_true, fun z => absurd (by rw [z]) ck⟩
  obtain ⟨t, h1, h2⟩ := tm
  exact ⟨t, h1.nox, h2⟩
theorem kindC_row {t : Bool} {vs : List PV} {u : PV} (h : kindC (.row t vs) = kindC u) : ∃ us, u = .row t us := by
  cases u with
  | row t' us => cases t <;> cases t' <;> first | exact ⟨us, rfl⟩ | exact absurd h (by simp [kindC])
  | bl b => cases b <;> cases t <;> exact absurd h (by simp [kindC])
  | _ => cases t <;> exact absurd h (by simp [kindC])
theorem kindC_tab {es : List (Key × PV)} {u : PV} (h : kindC (.tab es) = kindC u) : ∃ fs, u = .tab fs := by
  cases u with
  | tab fs => exact ⟨fs, rfl⟩
  | row t us => cases t <;> exact absurd h (by simp [kindC])
  | bl b => cases b <;> exact absurd h (by simp [kindC])
  | _ => exact absurd h (by simp [kindC])
/-- nothing can be asked -/
theorem has_none {CX : CXT} {x : Str} {st : Stmt} {kws : List (Str × V)} {ps : List Str} {N : List Str} (D : Dn K mg x st) (S : FnScope N ps (defScope st))
    (hb : ∀ (kV doc pm : Value) (an : Option Addr) (cdv ct : Value) (us : List Value), us.length = ps.length → bindArgs (PySem.W.fnOf x x (defArgs st) (defBody st) (defScope st) .none kV doc pm an cdv ct) ⟨us, []⟩ = pure (ps.zip us)) {k : Nat} :
    Has P w K mg base CX (k + 1) x ps (fun _ _ _ _ => False) := by
  obtain ⟨f, fd, F, hm⟩ := D.ex
  exact ⟨f, fd, hm, F.kp, F.bindsN hb, F.ok S (fun vs H Q E h => h.elim) fun cdv A outer s H vs Q E hr h => h.elim⟩
theorem ok_same (D : Dn K mg "same" (top 18) [("ordered", .bl false)]) (DR : Dn K mg "same_rows" (top 16)) (DT : Dn K mg "same_tables" (top 17)) (B : Bl mg) (F : TF K CT) (hT : mg "Table" = some (.ref CT)) (hk : Has P w K mg base CX0 1 "kind" ["value"] (spKind CT)) : ∀ n, HasS P w K mg base T CT n := by
  intro n
  induction n with
  | zero =>
    refine same_any D B F hT hk (has_none (kws := []) DR sc_rows fun _ _ _ _ _ _ us hl => match us, hl with | [_, _, _], _ => rfl) (has_none (kws := []) DT sc_tabs fun _ _ _ _ _ _ us hl => match us, hl with | [_, _, _], _ => rfl) fun x y v u H Q rx ry ox oy ck q => ⟨fun t vs e => ?_, fun es e => ?_⟩
    · subst e
      unfold Rep at rx
      exact rx
    · subst e
      unfold Rep at rx
      exact rx
  | succ n ih =>
    refine same_any D B F hT hk (ok_rows DR B F ih) (ok_tabs DT B F ih) fun x y v u H Q rx ry ox oy ck q => ⟨fun t vs e => ?_, fun es e => ?_⟩
    · subst e
      obtain ⟨us, rfl⟩ := kindC_row ck
      exact ⟨x, y, t, vs, us, rfl, rx, ry, ox, oy, fun b H' e hb => q b H' e (by rw [hb]; simp)⟩
    · subst e
      obtain ⟨fs, rfl⟩ := kindC_tab ck
      exact ⟨x, y, es, fs, rfl, rx, ry, ox, oy, fun b H' e hb => q b H' e (by rw [hb]; simp)⟩
end
end K86
/-! K86Table: Table(entries), entries(). -/
namespace K86
open PySem PySem.Spec PyProof.Rows L2

/-- a class's __init__ with one default, as the head leaves it -/
structure DmT (K : PySem.W.Frag) (C : Addr) (qual : Str) (st : Stmt) : Prop where
  ex : ∃ f fd e, FunD K "__init__" qual (defArgs st) (defBody st) (defScope st) [.ref e] [] f fd ∧ Mk K C f
/-- entries as tuples (key, item) -/
def EntL (CT : Addr) (L : List Addr) (n : Nat) (H : Hp) (es : List (Key × PV)) (ts : List Addr) : Prop := Paired (fun (e : Key × PV) (t : Addr) => ∃ v, H t = some (.tup [kV e.1, v]) ∧ Rep CT L n H e.2 v) es ts
theorem EntL.kee {CT : Addr} {L : List Addr} {n : Nat} {H H' : Hp} {es : List (Key × PV)} {ts : List Addr} (h : EntL CT L n H es ts) (k : Kee [] H H') : EntL CT L n H' es ts := Paired.mono (fun a b ⟨v, e, r⟩ => ⟨v, k.tup _ _ (fun z => nomatch z) e, rep_kee k.of_nil r⟩) h
theorem pairs_kee {CT : Addr} {L : List Addr} {n : Nat} {H H' : Hp} {es : List (Key × PV)} {kvs : List (Key × V)} (p : Paired (fun (e : Key × PV) (kv : Key × V) => e.1 = kv.1 ∧ Rep CT L n H e.2 kv.2) es kvs) (k : Kee L H H') :
    Paired (fun (e : Key × PV) (kv : Key × V) => e.1 = kv.1 ∧ Rep CT L n H' e.2 kv.2) es kvs := p.mono fun a b q => ⟨q.1, rep_kee k q.2⟩
theorem key_sh {CT : Addr} {H : Hp} (k : Key) : ∃ j, Sh CT H (kV k) j ∧ ((j == 2) = true ∨ (j == 3) = true) := by
  cases k with
  | inl i => exact ⟨2, .int i, .inl rfl⟩
  | inr x => exact ⟨3, .str x, .inr rfl⟩
/-- a new instance: what stood before it stands -/
theorem Ex.made {T : Tb} {H H' : Hp} {x dx C : Addr} (nx : H x = none) (nd : H dx = none) (e : Ex T [x] (upd (upd H dx (.own x)) x (.ins C dx [])) H') : Ex T [] H H' := by
  refine ⟨fun b o _ h n => ?_, fun t => ?_⟩
  · have z : b ≠ x := ne_of_none h nx
    refine e.ke b o (by simpa using z) ?_ n
    rw [upd_ne z, upd_ne (ne_of_none h nd)]
    exact h
  · refine e.ta (t.ext fun b o h => ?_)
    rw [upd_ne (ne_of_none h nx), upd_ne (ne_of_none h nd)]
    exact h

section
variable {P : Program} {w : World} {K : PySem.W.Frag} {mg : Str → Option Value} {base : Heap} {CT : Addr} {T : Tb}
def spTabI (T : Tb) (CT : Addr) (n : Nat) : Sp := fun vs H Q _ => ∃ L x dx a es ts, vs = [.ref x, .ref a] ∧ H x = some (.ins CT dx []) ∧ x ∉ L ∧ LT H L ∧ SqL K H a (ts.map V.ref) ∧ EntL CT L n H es ts ∧ (es.map (·.1)).Nodup ∧ es.length ≤ 1000 ∧
  ∀ H', Ex T [x] H H' → Rep CT L (n + 1) H' (.tab es) (.ref x) → Q .non H'
abbrev nTI : List Str := ["self", "entries", "held", "key", "item"]
theorem sc_tabI : FnScope nTI ["self", "entries"] (defScope (inClass (top 19) 0)) := ⟨rfl, rfl, rfl, by decide +kernel, rfl, by decide +kernel, by decide +kernel⟩
/-- Table's __init__ -/
structure HasT (P : Program) (w : World) (K : PySem.W.Frag) (mg : Str → Option Value) (base : Heap) (T : Tb) (CT : Addr) (n : Nat) : Prop where
  ex : ∃ f fd, Mk K CT f ∧ Binds K fd ["self", "entries"] [] ∧ FnOk P w K mg base CX0 (n + 2) f fd ["self", "entries"] (spTabI (K := K) T CT n)
theorem ok_tabI (D : DmT K CT "Table.__init__" (inClass (top 19) 0)) (B : Bl mg) (F : TF K CT) (hI : Has P w K mg base CX0 1 "is_integer" ["value"] (spIsInt CT)) {n : Nat} (hF : Has P w K mg base CX0 (n + 1) "fresh" ["value"] (spFresh T CT n)) : HasT P w K mg base T CT n := by
  obtain ⟨f, fd, e0, FD, MK⟩ := D.ex
  obtain ⟨fi, fdi, hmi, kpi, bi, Gi⟩ := hI.ex
  obtain ⟨ff, fdf, hmf, kpf, bf, Gf⟩ := hF.ex
  refine ⟨f, fd, MK, ?_, FD.ok sc_tabI (fun vs H Q E h => ?_) (fun cdv A outer s H vs Q E hr h => ?_)⟩
  · obtain ⟨ds, hds, hb⟩ := FD.binds1 (ps := ["self", "entries"]) 2 1 (by simp) (by simp) (fun TT kV doc pm an cdv ct us its h1 h2 => match us, its, h1, h2 with | [_, _], [_], _, _ => ⟨_, rfl, rfl⟩)
    cases ds with
    | nil => exact hb
    | cons _ _ => cases hds
  · obtain ⟨L, x, dx, a, es, ts, rfl, _⟩ := h
    rfl
  obtain ⟨L, x, dx, a, es, ts, rfl, hx, xL, lt, sq, en, nd, hl, q⟩ := h
  have hu := hu_of hr
  have hr1 : Room 1 (A.deeper (envOfC "Table.__init__" (defScope (inClass (top 19) 0)) s.heap.objs.size f cdv)) := hr.mono (by omega)
  have tm : ∃ t, PSs (cxOf CX0 P w K mg base nTI "Table.__init__" (defScope (inClass (top 19) 0)) f cdv A outer s H E).nox (defBody (inClass (top 19) 0)) t ∧ t { nx := fun _ H' => Q .non H', rt := Q } (start nTI [.ref x, .ref a]) H := by
    refine ⟨_, pss_cons (ps_set (i := 2) sc_tabI.nd rfl (.inl rfl) pe_dnewK)
      (pss_cons (ps_for PassesOwn.never rfl (pi_list (pv 1)) (pg_tup rfl (pgs_cons (pg_name (i := 3) sc_tabI.nd rfl (.inl rfl)) (pgs_cons (pg_name (i := 4) sc_tabI.nd rfl (.inl rfl)) pgs_nil)))
        (pss_cons (ps_if (PW.pt (pw_and (pt_not (pt_val (pe_call Gi hr1 rfl hmi kpi bi .nil pass0 (pa_cons (pv 3) pa_nil)))) (pw_and1 (pt_not (pt_val (pe_callB call_isi rfl B.isinstance (by decide +kernel) (pa_cons (pv 3) (pa_cons (pe_bltn (v := .ty "str") rfl B.str (by decide +kernel) rfl) pa_nil)))))))) (pss_one ps_never) pss_nil)
        (pss_cons (ps_if (pt_cmp (pc_din hu (pv 3) (pv 2))) (pss_one ps_never) pss_nil)
        (pss_one (ps_dput hu (pv 2) (pv 3) (pe_call Gf hr rfl hmf kpf bf .nil pass0 (pa_cons (pv 4) pa_nil)) rfl)))))
      (pss_one (ps_fld (pv 0) (pv 2) rfl))), ?_⟩
    intro d hd
    have nxd : x ≠ d := ne_of_none hx hd
    have e1 : Ex T [] H (upd H d (.dK [])) := Ex.new hd _
    have hlen : es.length = ts.length := en.length
    refine ⟨_, rfl, a, rfl, ⟨_, e1.sql sq⟩, forw_it (walk_list (K := K) (a := a)) (fun i σ Hi => ∃ v3 v4 kvs, σ = [some (.ref x), some (.ref a), some (.ref d), v3, v4] ∧ Hi d = some (.dK kvs) ∧ Ex T [] H Hi ∧ Paired (fun (e : Key × PV) (kv : Key × V) => e.1 = kv.1 ∧ Rep CT (d :: x :: L) n Hi e.2 kv.2) (es.take i) kvs)
      ⟨none, none, [], rfl, upd_same, e1, .nil⟩ (fun i σ Hi _ ⟨_, _, _, _, _, e, _⟩ => e.sql sq) ?_ ?_⟩
    · rintro i z σ Hi0 Hi hi ⟨v3, v4, kvs, rfl, hdi, e, pp⟩ ⟨rfl, hz⟩
      rw [List.getElem?_map] at hz
      obtain ⟨t, ht, rfl⟩ := Option.map_eq_some_iff.mp hz
      obtain ⟨ev, hev, v, htv, rv⟩ := paired_get en ht
      obtain ⟨j, shk, hj⟩ := key_sh (CT := CT) (H := Hi) ev.1
      have hi2 : i < es.length := (List.getElem?_eq_some_iff.mp hev).1
      refine ⟨t, _, rfl, SqT.of (e.tup htv), rfl, _, _, rfl, _, _, rfl, rfl, ?_⟩
      have hkv : (es.take i).map (·.1) = kvs.map (·.1) := paired_keys pp
      have hno : valV kvs ev.1 = none := by
        cases q0 : valV kvs ev.1 with
        | none => rfl
        | some w0 =>
          have m := valV_in q0
          rw [← hkv] at m
          obtain ⟨p1, hp1, hp2⟩ := List.mem_map.mp m
          obtain ⟨j1, hj1⟩ := List.mem_iff_getElem?.mp hp1
          have j1i : j1 < i := by
            have y := (List.getElem?_eq_some_iff.mp hj1).1
            rw [List.length_take] at y
            omega
          rw [List.getElem?_take_of_lt j1i] at hj1
          have n1 : (es.map (·.1))[j1]? = some ev.1 := by rw [List.getElem?_map, hj1, ← hp2]; rfl
          have n2 : (es.map (·.1))[i]? = some ev.1 := by rw [List.getElem?_map, hev]; rfl
          exact absurd ((List.getElem?_inj (by rw [List.length_map]; omega) nd).mp (n1.trans n2.symm)) (by omega)
      have hk1 : kvs.length < sizeLine := by
        have y := pp.length
        rw [List.length_take] at y
        exact lt1000 (by omega)
      have test : ∀ (k : Bool → Hp → Prop), k false Hi → (tAnd (tNot (tB (tCall (spIsInt CT) [] E0 (tCons (tVar 3) tNil)))) (tNot (tB (tCB (rIsi K) (tCons (tVar 3) (tCons (tC (.ty "str")) tNil)))))) [some (.ref x), some (.ref a), some (.ref d), some (kV ev.1), some v] Hi k := by
        intro k hk
        refine ⟨_, rfl, _, j, rfl, shk, _, rfl, ?_⟩
        rcases hj with hj | hj
        · rw [hj]
          exact iteF hk
        · have h2 : (j == 2) = false := by
            rw [beq_iff_eq] at hj
            rw [hj]
            rfl
          rw [h2]
          refine iteT ⟨_, rfl, _, _, _, _, _, rfl, .ty "str", shk.ty F, kit_str F shk.lt, _, rfl, ?_⟩
          rw [hj]
          exact hk
      refine test _ (iteF ?_)
      refine ⟨_, rfl, _, rfl, d, _, rfl, .inl ⟨kvs, ev.1, .inl hdi, rfl, rfl⟩, _, rfl, ?_⟩
      rw [hno]
      refine iteF ⟨_, rfl, d :: x :: L, ev.2, v, rfl, ?_, ?_, fun r H' e2 rp => ?_⟩
      · exact ((lt.ex e).add (e.ins hx) (fun _ y => nomatch y)).add hdi (fun _ y => nomatch y)
      · refine rep_kee e.kee.of_nil (rep_adv (fun b hb => ?_) rv)
        rcases List.mem_cons.mp hb with z | hb
        · exact .inr (by rw [z]; exact NV.none hd)
        · rcases List.mem_cons.mp hb with z | hb
          · exact .inr (by rw [z]; exact NV.ins hx)
          · exact .inl hb
      · refine ⟨_, rfl, _, rfl, d, _, rfl, DPut.k (e2.dK hdi) hk1, ?_⟩
        refine ⟨_, _, kvs ++ [(ev.1, r)], rfl, by rw [upd_same, putK_new _ hno], (e.trans e2).then_store hd (e2.dK hdi) ⟨(fun ps y => nomatch y), (fun φ y => nomatch y)⟩, ?_⟩
        have k2 : Kee (d :: x :: L) H' (upd H' d (.dK (putK kvs ev.1 r))) := Kee.put List.mem_cons_self _
        exact pairs_kee (take_snoc (pairs_kee pp e2.kee.of_nil) hev ⟨rfl, rp⟩) k2
    · rintro σ Hi ⟨v3, v4, kvs, rfl, hdi, e, pp⟩
      rw [List.length_map, ← hlen, List.take_length] at pp
      refine ⟨_, rfl, _, rfl, x, CT, dx, _, rfl, e.ins hx, F.cl, F.held, by decide, ?_⟩
      have e3 : Ex T [x] Hi (upd Hi x (.ins CT dx (putF "held" (.ref d) []))) := (Ex.refl Hi).then_put List.mem_cons_self (e.ins hx) ⟨(fun ps y => nomatch y), (fun φ y => nomatch y)⟩
      refine q _ (e.of0.trans e3) ?_
      have k2 : Kee (d :: x :: L) Hi (upd Hi x (.ins CT dx (putF "held" (.ref d) []))) := Kee.put (List.mem_cons_of_mem _ List.mem_cons_self) _
      unfold Rep
      refine ⟨x, d, dx, kvs, rfl, xL, lt.notin hd, upd_same, .inl (by rw [upd_ne nxd.symm]; exact hdi), by rw [← pp.length]; exact hl, by rw [← paired_keys pp]; exact nd, pp.mono fun a b q => ⟨q.1, rep_less (fun b hb => List.mem_cons_of_mem _ (List.mem_cons_of_mem _ hb)) (rep_kee k2 q.2)⟩⟩
  obtain ⟨t, h1, h2⟩ := tm
  exact ⟨t, h1.nox, h2⟩

/-! ### entries -/
def spEntries (T : Tb) (CT : Addr) (n : Nat) : Sp := fun vs H Q _ => ∃ x es, vs = [x] ∧ Rep CT [] (n + 1) H (.tab es) x ∧ ∀ a ts H', Ex T [] H H' → H' a = some (.lst (ts.map V.ref)) → EntL CT [] n H' es ts → es.length ≤ 1000 → Q (.ref a) H'
abbrev nEn : List Str := ["self", "key", "item"]
theorem sc_entries : FnScope nEn ["self"] (defScope (inClass (top 19) 1)) := ⟨rfl, rfl, rfl, by decide +kernel, rfl, by decide +kernel, by decide +kernel⟩
theorem entries_loop {n : Nat} {H : Hp} {d D : Addr} {kvs : List (Key × V)} {es : List (Key × PV)} {x0 : V} {od : Obj} {Qd : Hp → Prop} (hD : H D = none) (hd : H d = some (.frz od (.dK kvs))) (hl : kvs.length ≤ 1000)
    (p1 : Paired (fun (e : Key × PV) (kv : Key × V) => e.1 = kv.1 ∧ Rep CT [] n H e.2 kv.2) es kvs) (hq : ∀ Hi ts, Ex T [] H Hi → Hi D = some (.lst (ts.map V.ref)) → EntL CT [] n Hi es ts → Qd Hi) :
    LcW (Iti d od kvs) (gTup K 2 (gCons (gName 1) (gCons (gName 2) gNil))) tYes (tTup (tCons (tVar 1) (tCons (tCall (spFresh T CT n) [] E0 (tCons (tVar 2) tNil)) tNil))) [1, 2] [some x0, none, none] H D Qd := by
  have hl1 : es.length = kvs.length := p1.length
  refine lcw_it walk_items (fun i Hi => ∃ ts, Hi D = some (.lst (ts.map V.ref)) ∧ ts.length = i ∧ Ex T [] H Hi ∧ EntL CT [D] n Hi (es.take i) ts) ⟨[], upd_same, rfl, Ex.new hD _, .nil⟩ (fun i Hi _ ⟨_, _, _, e, _⟩ => e.frz hd) ?_ ?_
  · rintro i z Hi H2 hi ⟨ts, ha, hlen, e, pp⟩ ⟨Tp, z1, z2, rfl, hT, rfl, h1, h2⟩
    have q1 : kvs[i]? = some kvs[i] := List.getElem?_eq_getElem hi
    simp only [q1, Option.map_some] at h1 h2
    obtain rfl := Option.some.inj h1
    obtain rfl := Option.some.inj h2
    obtain ⟨v, hv, rv0, rv⟩ := paired_get p1 q1
    have e2 : Ex T [] H (upd Hi Tp (.tup [kV kvs[i].1, kvs[i].2])) := e.then_new hT _
    have nTD : D ≠ Tp := ne_of_none ha hT
    have ha2 : upd Hi Tp (.tup [kV kvs[i].1, kvs[i].2]) D = some (.lst (ts.map V.ref)) := by rw [upd_ne nTD]; exact ha
    refine ⟨Tp, _, rfl, SqT.of upd_same, rfl, _, _, rfl, _, _, rfl, rfl, rfl, ?_⟩
    have r1 : Rep CT [D] n (upd Hi Tp (.tup [kV kvs[i].1, kvs[i].2])) v.2 kvs[i].2 := rep_kee e2.kee.of_nil (rep_add (fun b hb => .inr (by rw [List.mem_singleton.mp hb]; exact hD)) rv)
    refine ⟨_, rfl, _, rfl, [D], v.2, kvs[i].2, rfl, LT.nil.cons ha2, r1, fun r H' e3 rp => ⟨by show 2 ≤ sizeLine; decide, fun t ht => ?_⟩⟩
    have e4 : Ex T [] H' (upd H' t (.tup [kV kvs[i].1, r])) := Ex.new ht _
    have ha3 := e3.lst ha2
    have nt : D ≠ t := ne_of_none ha3 ht
    have ha4 := e4.lst ha3
    refine ⟨ts.map V.ref, ha4, lt1000 (by rw [List.length_map]; omega), ts ++ [t], by rw [upd_same, List.map_append]; rfl, by rw [List.length_append, hlen]; rfl, ((e2.trans e3).trans e4).grow hD ha4 _, ?_⟩
    have k2 : Kee [D] (upd H' t (.tup [kV kvs[i].1, r])) (upd (upd H' t (.tup [kV kvs[i].1, r])) D (.lst (ts.map V.ref ++ [.ref t]))) := Kee.put List.mem_cons_self _
    have pp2 : EntL CT [D] n (upd H' t (.tup [kV kvs[i].1, r])) (es.take i) ts := EntL.kee pp (((Ex.new (T := T) hT _).trans (e3.trans e4)).kee)
    have tD : ∀ {c : Addr} {xs : List V}, upd H' t (.tup [kV kvs[i].1, r]) c = some (.tup xs) → c ≠ D := fun hc z => by
      rw [z, ha4] at hc
      cases hc
    refine take_snoc (Paired.mono (fun a b ⟨w0, hw, rw0⟩ => ⟨w0, (upd_ne (tD hw)).trans hw, rep_kee k2 rw0⟩) pp2) hv ⟨r, ?_, rep_kee k2 (rep_kee e4.kee.of_nil rp)⟩
    · rw [upd_ne (Ne.symm nt), upd_same, rv0]
  · rintro Hi ⟨ts, ha, hlen, e, pp⟩
    rw [List.take_of_length_le (by omega)] at pp
    exact hq Hi ts e ha (Paired.mono (fun a b ⟨w0, hw, rw0⟩ => ⟨w0, hw, rep_less (fun b hb => by cases hb) rw0⟩) pp)
theorem ok_entries (D : Dm K CT "entries" "Table.entries" (inClass (top 19) 1)) (F : TF K CT) {n : Nat} (hF : Has P w K mg base CX0 (n + 1) "fresh" ["value"] (spFresh T CT n)) : HasM P w K mg base CX0 (n + 2) CT "entries" ["self"] (spEntries T CT n) := by
  obtain ⟨ff, fdf, hmf, kpf, bf, Gf⟩ := hF.ex
  refine D.has0 sc_entries (fun vs H Q E h => ?_) (fun _ _ _ _ _ _ us hl => match us, hl with | [_], _ => rfl) (fun f cdv A outer s H vs Q E hr h => ?_)
  · obtain ⟨x, es, rfl, _⟩ := h
    rfl
  obtain ⟨x, es, rfl, rp, q⟩ := h
  unfold Rep at rp
  obtain ⟨a, d, dx, kvs, rfl, _, _, ea, r1, la, nd1, pa⟩ := rp
  have hl1 : es.length = kvs.length := pa.length
  refine ⟨_, pss_one (ps_ret (pe_lockO (pe_lc (own := [("key", 1), ("item", 2)]) (g := gTup K 2 (gCons (gName 1) (gCons (gName 2) gNil))) (tt := tYes) rfl sc_entries.nd (pi_items (pe_fld (pv 0) rfl)) (blkOk_by (N := nEn) (sc := defScope (inClass (top 19) 1)) (by decide +kernel))
    (fun _ _ _ _ _ => pg_tup rfl (pgs_cons (pg_name (i := 1) sc_entries.nd rfl (.inl rfl)) (pgs_cons (pg_name (i := 2) sc_entries.nd rfl (.inl rfl)) pgs_nil))) (fun _ _ _ _ _ => pts_nil)
    (fun _ _ _ _ _ => pe_tup (pa_cons (pv 1) (pa_cons (pe_call Gf hr rfl hmf kpf bf .nil pass0 (pa_cons (pv 2) pa_nil)) pa_nil)))))), ?_⟩
  rcases r1 with r1 | ⟨od, r1⟩
  · refine .inl ⟨d, _, r1, True.intro, fun od => ?_⟩
    have kl : Kee [] H (upd H d (.frz od (.dK kvs))) := Kee.lock r1
    refine ⟨_, rfl, a, CT, dx, _, _, rfl, kl.ins _ _ _ _ (fun z => nomatch z) ea, F.cl, F.held, rfl, d, od, kvs, rfl, upd_same, fun D hD => entries_loop hD upd_same la (pairs_kee pa kl) fun Hi ts e hDi en => ?_⟩
    have f := e.frz upd_same
    have ne : D ≠ d := fun z => by rw [z, f] at hDi; cases hDi
    exact ⟨f, q D ts _ (Ex.locked r1 e f) (by rw [upd_ne ne]; exact hDi) (EntL.kee en (Kee.unlock f)) (by omega)⟩
  · exact .inr ⟨_, rfl, a, CT, dx, _, _, rfl, ea, F.cl, F.held, rfl, d, od, kvs, rfl, r1, fun D hD => entries_loop hD r1 la pa fun Hi ts e hDi en => q D ts _ e hDi en (by omega)⟩
end
end K86
/-! K86Digits: texts of integers. -/
namespace K86
open PySem L2 PySem.W.KIN PySem.NumText PyProof.Rows

theorem snoc_ind {α : Type} {P : List α → Prop} (h0 : P []) (hs : ∀ l a, P l → P (l ++ [a])) (l : List α) : P l := by
  have key : ∀ l : List α, P l.reverse := fun l => by
    induction l with
    | nil => exact h0
    | cons a r ih =>
      rw [List.reverse_cons]
      exact hs _ _ ih
  have := key l.reverse
  rwa [List.reverse_reverse] at this
theorem uni_digit : ∀ c : Fin 128, PySem.Unicode.isDigit c.val = (decide (48 ≤ c.val) && decide (c.val ≤ 57)) := by decide +kernel
theorem digitsVal_snoc' (cs : List Nat) (c : Nat) : digitsVal (cs ++ [c]) = digitsVal cs * 10 + (c - 48) := by
  unfold digitsVal
  rw [List.foldl_append]
  rfl
theorem dchar : ∀ d : Fin 10, (Nat.digitChar d.val).toNat = d.val + 48 := by decide
theorem foldl_ge : ∀ (cs : List Nat) (a : Nat), 1 ≤ a → 1 ≤ cs.foldl (fun acc c => acc * 10 + (c - 48)) a
  | [], _, h => h
  | c :: cs, a, h => foldl_ge cs (a * 10 + (c - 48)) (by omega)
theorem digitsVal_pos {c : Nat} {cs : List Nat} (h : 48 ≤ c) (hc : c ≠ 48) : 1 ≤ digitsVal (c :: cs) := foldl_ge cs (0 * 10 + (c - 48)) (by omega)
theorem digitsVal_lt : ∀ cs : List Nat, AllDigits cs → digitsVal cs < 10 ^ cs.length := by
  refine snoc_ind (fun _ => by decide) fun cs c ih => ?_
  · intro h
    have h1 := ih fun d hd => h d (List.mem_append_left _ hd)
    have h2 := h c (List.mem_append_right _ (List.mem_singleton.mpr rfl))
    rw [digitsVal_snoc', List.length_append, List.length_singleton, Nat.pow_succ]
    omega
/-- digits without a leading zero are written back -/
theorem digits_back : ∀ cs : List Nat, AllDigits cs → cs ≠ [] → (cs = [48] ∨ cs.head? ≠ some 48) → (Nat.toDigits 10 (digitsVal cs)).map Char.toNat = cs := by
  refine snoc_ind (fun _ h => absurd rfl h) fun cs c ih => ?_
  · intro h _ hz
    have h2 := h c (List.mem_append_right _ (List.mem_singleton.mpr rfl))
    cases cs with
    | nil =>
      have e : digitsVal ([] ++ [c]) = c - 48 := by rw [digitsVal_snoc']; simp [digitsVal]
      rw [e, Nat.toDigits_of_lt_base (by omega)]
      have q := dchar ⟨c - 48, by omega⟩
      simp only [List.map_cons, List.map_nil, List.nil_append, List.cons.injEq, and_true]
      simp only at q
      omega
    | cons d ds =>
      have hd := h d (List.mem_append_left _ List.mem_cons_self)
      have hz2 : d ≠ 48 := by
        rcases hz with z | z
        · simp at z
        · intro e
          exact z (by simp [e])
      have ih' := ih (fun y hy => h y (List.mem_append_left _ hy)) (by simp) (.inr (by simpa using hz2))
      have hp := digitsVal_pos (cs := ds) hd.1 hz2
      rw [digitsVal_snoc']
      have hm : c - 48 < 10 := by omega
      have t : Nat.toDigits 10 (digitsVal (d :: ds)) ++ Nat.toDigits 10 (c - 48) = Nat.toDigits 10 (10 * digitsVal (d :: ds) + (c - 48)) := Nat.toDigits_append_toDigits (by decide) (by omega) hm
      rw [Nat.mul_comm, ← t, List.map_append, ih', Nat.toDigits_of_lt_base hm]
      have q := dchar ⟨c - 48, hm⟩
      simp only [List.map_cons, List.map_nil]
      simp only at q
      rw [q]
      congr 2
      omega
theorem str_ext {x y : Str} (h : x.cps.toList = y.cps.toList) : x = y := by
  cases x with
  | mk a => cases y with
    | mk b => exact congrArg Str.mk (Array.toList_inj.mp h)
theorem minus_list : ("-" : Str).cps.toList = [45] := by decide +kernel
theorem zero_list : ("0" : Str).cps.toList = [48] := by decide +kernel
/-- a text with or without a sign -/
theorem rp_cases (x : Str) : (∃ cs, x.cps.toList = 45 :: cs ∧ (Txt.removeprefix x "-").cps.toList = cs) ∨ (Txt.removeprefix x "-" = x ∧ x.cps.toList.head? ≠ some 45) := by
  have e := StrLaws.removeprefix_eq x "-"
  have l1 : ("-" : Str).length = 1 := by decide +kernel
  have lx : x.length = x.cps.toList.length := (Array.length_toList).symm
  have hsub : Builtin.Str.subAt x "-" 0 = decide (x.cps.toList.take 1 = [45]) := by
    unfold Builtin.Str.subAt
    rw [l1, Bool.eq_iff_iff, beq_iff_eq, decide_eq_true_eq, ← Array.toList_inj]
    simp only [Array.toList_extract, List.extract_eq_take_drop, Nat.zero_add, Nat.sub_zero, List.drop_zero]
    rw [minus_list]
  rw [hsub, l1] at e
  cases q : x.cps.toList with
  | nil =>
    right
    rw [q] at e
    exact ⟨by rw [e]; simp, by simp⟩
  | cons c cs =>
    rw [lx, q] at e
    by_cases hc : c = 45
    · left
      subst hc
      refine ⟨cs, rfl, ?_⟩
      rw [e]
      simp
    · right
      refine ⟨?_, by simpa using hc⟩
      rw [e]
      simp [hc]
theorem isdigit_all {x : Str} (ha : ascii x) (h : Txt.isdigit x = true) : AllDigits x.cps.toList ∧ x.cps.toList ≠ [] := by
  unfold Txt.isdigit at h
  obtain ⟨h1, h2⟩ := Bool.and_eq_true_iff.mp h
  have h1 := of_decide_eq_true h1
  rw [← Array.all_toList, List.all_eq_true] at h2
  refine ⟨fun c hc => ?_, fun z => ?_⟩
  · have u := uni_digit ⟨c, ha c hc⟩
    have u2 : PySem.Unicode.isDigit c = (decide (48 ≤ c) && decide (c ≤ 57)) := u
    rw [h2 c hc] at u2
    obtain ⟨a, b⟩ := Bool.and_eq_true_iff.mp u2.symm
    exact ⟨of_decide_eq_true a, of_decide_eq_true b⟩
  · have : x.cps.toList.length = x.length := Array.length_toList
    rw [z] at this
    simp at this
    omega
theorem txt_nat (m : Nat) : (txt (m : Int)).cps.toList = (Nat.toDigits 10 m).map Char.toNat := signs_num m
theorem txt_neg (m : Nat) (h : 1 ≤ m) : (txt (-(m : Int))).cps.toList = 45 :: (Nat.toDigits 10 m).map Char.toNat := by
  unfold txt
  rw [signs_ofString]
  obtain ⟨k, rfl⟩ : ∃ k, m = k + 1 := ⟨m - 1, by omega⟩
  have e : toString (-((k + 1 : Nat) : Int)) = "-" ++ Nat.repr (k + 1) := rfl
  rw [e, String.toList_append, List.map_append, Nat.toList_repr]
  rfl
/-- a digit key is the text of its integer -/
theorem dig_int {x : Str} (ha : ascii x) (h : isDig x = true) : ∃ i : Int, PySem.intText? x = some i ∧ txt i = x ∧ i.natAbs < 10 ^ 30 := by
  unfold isDig at h
  obtain ⟨h12, h3⟩ := Bool.and_eq_true_iff.mp h
  obtain ⟨h1, h2⟩ := Bool.and_eq_true_iff.mp h12
  have h2 := of_decide_eq_true h2
  have pw : ∀ cs : List Nat, AllDigits cs → cs.length ≤ 30 → digitsVal cs < 10 ^ 30 := fun cs a l => Nat.lt_of_lt_of_le (digitsVal_lt cs a) (Nat.pow_le_pow_right (by decide) l)
  have hl : (Txt.removeprefix x "-").cps.toList.length = (Txt.removeprefix x "-").length := Array.length_toList
  have hx : x.cps.toList.length = x.length := Array.length_toList
  rcases rp_cases x with ⟨cs, e1, e2⟩ | ⟨e1, e2⟩
  · have ad : ascii (Txt.removeprefix x "-") := fun c hc => by
      rw [e2] at hc
      exact ha c (by rw [e1]; exact List.mem_cons_of_mem _ hc)
    obtain ⟨d1, d2⟩ := isdigit_all ad h1
    rw [e2] at d1 d2 hl
    have nz : x ≠ "0" := fun z => by
      rw [z, zero_list] at e1
      simp at e1
    rw [decide_eq_false nz, Bool.false_or, decide_eq_true_eq] at h3
    unfold headC at h3
    rw [e2] at h3
    cases cs with
    | nil => exact absurd rfl d2
    | cons c r =>
      have hc : c ≠ 48 := h3
      have hc2 := d1 c List.mem_cons_self
      have hp := digitsVal_pos (cs := r) hc2.1 hc
      rw [e1, List.length_cons] at hx
      refine ⟨-((digitsVal (c :: r) : Nat) : Int), intText_neg e1 d1 d2 (by omega), ?_, ?_⟩
      · refine str_ext ?_
        rw [txt_neg _ hp, digits_back _ d1 d2 (.inr (by simpa using hc)), e1]
      · have := pw _ d1 (by omega)
        omega
  · rw [e1] at h1 h2 h3
    obtain ⟨d1, d2⟩ := isdigit_all ha h1
    refine ⟨((digitsVal x.cps.toList : Nat) : Int), intText_digits d1 d2 (by omega), ?_, ?_⟩
    · refine str_ext ?_
      rw [txt_nat, digits_back _ d1 d2]
      rcases Bool.or_eq_true_iff.mp h3 with z | z
      · left
        rw [of_decide_eq_true z, zero_list]
      · right
        have z := of_decide_eq_true z
        unfold headC at z
        cases q : x.cps.toList with
        | nil => simp
        | cons c r =>
          rw [q] at z
          simpa using z
    · have := pw _ d1 (by omega)
      omega
/-- the text of an integer is short ascii -/
theorem txt_ok {i : Int} (h : i.natAbs < 10 ^ 60) : ascii (txt i) ∧ (txt i).length ≤ 61 := by
  have key : ∀ m : Nat, m < 10 ^ 60 → (∀ c ∈ (Nat.toDigits 10 m).map Char.toNat, c < 128) ∧ ((Nat.toDigits 10 m).map Char.toNat).length ≤ 60 := fun m hm => by
    refine ⟨fun c hc => ?_, ?_⟩
    · obtain ⟨ch, hch, e⟩ := List.mem_map.mp hc
      have r := digit_range (Nat.isDigit_of_mem_toDigits (by decide) (by decide) hch)
      omega
    · rw [List.length_map]
      exact (Nat.length_toDigits_le_iff (by decide) (by decide)).mpr hm
  have hx : (txt i).cps.toList.length = (txt i).length := Array.length_toList
  rcases Int.natAbs_eq i with e | e
  · rw [e] at hx ⊢
    obtain ⟨k1, k2⟩ := key i.natAbs h
    rw [txt_nat] at hx
    exact ⟨fun c hc => k1 c (by rw [← txt_nat]; exact hc), by omega⟩
  · by_cases z : i.natAbs = 0
    · have : i = 0 := by omega
      subst this
      exact ⟨by unfold ascii; decide +kernel, by decide +kernel⟩
    · rw [e] at hx ⊢
      obtain ⟨k1, k2⟩ := key i.natAbs h
      rw [txt_neg _ (by omega), List.length_cons] at hx
      refine ⟨fun c hc => ?_, by omega⟩
      have hc2 : c ∈ 45 :: (Nat.toDigits 10 i.natAbs).map Char.toNat := by
        rw [← txt_neg _ (by omega)]
        exact hc
      rcases List.mem_cons.mp hc2 with e | hc2
      · omega
      · exact k1 c hc2
end K86
/-! K86Keys: key_text, is_digit_key, check_options. -/
namespace K86
open PySem PySem.Spec PyProof.Rows L2

theorem log_ok {i : Int} (h : okI i) : i.natAbs.log2 < 1920 := by
  have h1 : i.natAbs < 2 ^ 140 := Nat.lt_of_lt_of_le h (by decide)
  by_cases z : i.natAbs = 0
  · rw [z]; decide
  · exact Nat.lt_of_lt_of_le ((Nat.log2_lt z).mpr h1) (by decide)
section
variable {P : Program} {w : World} {K : PySem.W.Frag} {mg : Str → Option Value} {base : Heap} {CT : Addr} {T : Tb}
/-! ### key_text -/
def spKeyText : Sp := fun vs H Q _ => ∃ k, vs = [kV k] ∧ okK k ∧ Q (.str (keyText k)) H
theorem sc_key_text : FnScope ["key"] ["key"] (defScope (top 34)) := ⟨rfl, rfl, rfl, by decide +kernel, rfl, by decide +kernel, by decide +kernel⟩
theorem ok_key_text (D : Dn K mg "key_text" (top 34)) (B : Bl mg) (F : TF K CT) : Has P w K mg base CX0 1 "key_text" ["key"] spKeyText := by
  refine D.has0 sc_key_text (fun vs H Q E h => ?_) (fun _ _ _ _ _ _ us hl => match us, hl with | [_], _ => rfl) (fun f cdv A outer s H vs Q E hr h => ?_)
  · obtain ⟨k, rfl, _⟩ := h
    rfl
  obtain ⟨k, rfl, ok, q⟩ := h
  refine ⟨_, pss_cons (ps_if (pt_val (pe_callB call_isi rfl B.isinstance (by decide +kernel) (pa_cons (pv 0) (pa_cons (pe_bltn (v := .ty "str") rfl B.str (by decide +kernel) rfl) pa_nil)))) (pss_one (ps_ret (pv 0))) pss_nil)
    (pss_one (ps_ret (pe_callTy call_str_int rfl B.str (by decide +kernel) (pa_cons (pv 0) pa_nil)))), ?_⟩
  cases k with
  | inl i => exact ⟨_, rfl, _, _, _, _, _, rfl, .ty "str", (Sh.int (CT := CT) (H := H) i).ty F, kit_str F (by decide), _, rfl, iteF ⟨_, rfl, i, rfl, log_ok ok, q⟩⟩
  | inr x => exact ⟨_, rfl, _, _, _, _, _, rfl, .ty "str", (Sh.str (CT := CT) (H := H) x).ty F, kit_str F (by decide), _, rfl, iteT ⟨_, rfl, q⟩⟩

/-! ### is_digit_key -/
def spIsDig : Sp := fun vs H Q _ => ∃ x, vs = [.str x] ∧ okT x ∧ Q (.bl (isDig x)) H
theorem sc_is_dig : FnScope ["key", "digits"] ["key"] (defScope (top 35)) := ⟨rfl, rfl, rfl, by decide +kernel, rfl, by decide +kernel, by decide +kernel⟩
theorem line300 {n : Nat} (h : n ≤ 300) : n ≤ sizeLine := Nat.le_of_lt (Nat.lt_of_le_of_lt h (by decide))
theorem rp_len (x : Str) : (Txt.removeprefix x "-").length ≤ x.length := by
  have hl : (Txt.removeprefix x "-").cps.toList.length = (Txt.removeprefix x "-").length := Array.length_toList
  have hx : x.cps.toList.length = x.length := Array.length_toList
  rcases rp_cases x with ⟨cs, e1, e2⟩ | ⟨e1, e2⟩
  · rw [e1, List.length_cons] at hx
    rw [e2] at hl
    omega
  · rw [e1]
    exact Nat.le_refl _
theorem one_sign {c : Nat} : (V.str ⟨#[c]⟩ = V.str "0") ↔ c = 48 := by
  constructor
  · intro h
    have h1 := congrArg (fun v => match v with | V.str x => x.cps.toList | _ => []) h
    simp only [zero_list] at h1
    simpa using h1
  · intro h
    subst h
    exact congrArg V.str (str_ext (by rw [zero_list]))
theorem ok_is_dig (D : Dn K mg "is_digit_key" (top 35)) (B : Bl mg) (F : TF K CT) (hmd : ∃ t, mg "MOST_DIGITS" = some (.int 30 t)) : Has P w K mg base CX0 1 "is_digit_key" ["key"] spIsDig := by
  obtain ⟨t30, hmd⟩ := hmd
  refine D.has0 sc_is_dig (fun vs H Q E h => ?_) (fun _ _ _ _ _ _ us hl => match us, hl with | [_], _ => rfl) (fun f cdv A outer s H vs Q E hr h => ?_)
  · obtain ⟨x, rfl, _⟩ := h
    rfl
  obtain ⟨x, rfl, ok, q⟩ := h
  refine ⟨_, pss_cons (ps_if (pt_not (pt_val (pe_callB call_isi rfl B.isinstance (by decide +kernel) (pa_cons (pv 0) (pa_cons (pe_bltn (v := .ty "str") rfl B.str (by decide +kernel) rfl) pa_nil))))) (pss_one (ps_ret pe_bl)) pss_nil)
    (pss_cons (ps_set (i := 1) sc_is_dig.nd rfl (.inl rfl) (pe_m1 PySem.F.slot_str_removeprefix PySem.F.type_str_removeprefix mt_removeprefix (pv 0) pe_str))
    (pss_cons (ps_if (PW.pt (pw_or (pt_not (pt_val (pe_m0 PySem.F.slot_str_isdigit PySem.F.type_str_isdigit mt_isdigit (pv 1)))) (pw_or1 (pt_cmpR op_gt (pe_callB call_len_str rfl B.len PySem.boot_len (pa_cons (pv 1) pa_nil)) (pe_glob (v := .int 30) rfl hmd ⟨_, rfl⟩) (nomark _))))) (pss_one (ps_ret pe_bl)) pss_nil)
    (pss_one (ps_ret (pe_or (pe_cmpR op_eq (pv 0) pe_str (nomark _)) (pe_one (pe_cmpR op_ne (pe_ix ix_str (pv 1) pe_int (fun _ _ => rfl)) pe_str (nomark _)))))))), ?_⟩
  refine ⟨_, rfl, _, _, _, _, _, rfl, .ty "str", (Sh.str (CT := CT) (H := H) x).ty F, kit_str F (by decide), _, rfl, iteF ?_⟩
  have hlx : x.length ≤ 300 := ok.2
  have hld := rp_len x
  refine ⟨_, rfl, ⟨_, rfl⟩, x, "-", rfl, rfl, line300 hlx, ?_⟩
  refine ⟨_, rfl, ⟨_, rfl⟩, _, rfl, rfl, trivial, _, rfl, ?_⟩
  by_cases c1 : Txt.isdigit (Txt.removeprefix x "-") = true
  · rw [c1]
    refine iteF ⟨_, rfl, _, rfl, line300 (by omega), _, _, rfl, rfl, _, rfl, ?_⟩
    by_cases c2 : (Txt.removeprefix x "-").length ≤ 30
    · have n2 : decide (((Txt.removeprefix x "-").length : Int) > 30) = false := decide_eq_false (by omega)
      rw [n2]
      refine iteF ⟨_, rfl, rfl, _, rfl, ?_⟩
      have dz : decide (V.str x = V.str "0") = decide (x = "0") := by simp
      rw [dz]
      by_cases c3 : x = "0"
      · rw [decide_eq_true c3]
        refine iteT ?_
        have e : isDig x = true := by unfold isDig; rw [c1, decide_eq_true c2, decide_eq_true c3]; rfl
        rw [e] at q
        exact q
      · rw [decide_eq_false c3]
        refine iteF ?_
        have hne : (Txt.removeprefix x "-").cps.toList ≠ [] := fun z => by
          have hl : (Txt.removeprefix x "-").cps.toList.length = (Txt.removeprefix x "-").length := Array.length_toList
          rw [z] at hl
          unfold Txt.isdigit at c1
          rw [← hl] at c1
          exact absurd c1 (by simp)
        cases hq : (Txt.removeprefix x "-").cps.toList with
        | nil => exact absurd hq hne
        | cons c r =>
          refine ⟨_, rfl, _, 0, c, rfl, rfl, line300 (by omega), by rw [hq]; exact atI_nat (j := 0) rfl, rfl, ?_⟩
          have e : isDig x = !decide (V.str ⟨#[c]⟩ = V.str "0") := by
            unfold isDig headC
            rw [c1, decide_eq_true c2, decide_eq_false c3, hq]
            rw [show decide (V.str ⟨#[c]⟩ = V.str "0") = decide (c = 48) from decide_eq_decide.mpr one_sign]
            simp
          rw [e] at q
          exact q
    · have n2 : decide (((Txt.removeprefix x "-").length : Int) > 30) = true := decide_eq_true (by omega)
      rw [n2]
      refine iteT ?_
      have e : isDig x = false := by unfold isDig; rw [c1, decide_eq_false c2]; rfl
      rw [e] at q
      exact q
  · have c1' : Txt.isdigit (Txt.removeprefix x "-") = false := by simpa using c1
    rw [c1']
    refine iteT ?_
    have e : isDig x = false := by unfold isDig; rw [c1']; rfl
    rw [e] at q
    exact q

/-! ### check_options -/
/-- a table of options: names and allowed words -/
def OptsAt (K : PySem.W.Frag) (a : Addr) (rows : List (Str × List Str)) : Prop := ∃ ts : List Addr, (∀ H, SqT K H a (ts.map V.ref)) ∧ Paired (fun (r : Str × List Str) (t : Addr) => ∃ al, (∀ H, SqT K H t [.str r.1, .ref al]) ∧ ∀ H, SqT K H al (r.2.map V.str)) rows ts
def spCheck (T : Tb) (K : PySem.W.Frag) : Sp := fun vs H Q _ => ∃ (a g : Addr) (rows : List (Str × List Str)) (gs : List Str), vs = [.ref a, .ref g] ∧ OptsAt K a rows ∧ H g = some (.tup (gs.map V.str)) ∧ gs.length = rows.length ∧ (∀ (i : Nat) (r : Str × List Str) (z : Str), rows[i]? = some r → gs[i]? = some z → z ∈ r.2) ∧ ∀ H', Ex T [] H H' → Q .non H'
abbrev nCh : List Str := ["options", "given", "name", "allowed", "value"]
theorem sc_check : FnScope nCh ["options", "given"] (defScope (top 36)) := ⟨rfl, rfl, rfl, by decide +kernel, rfl, by decide +kernel, by decide +kernel⟩
theorem inV_str {z : Str} : ∀ {l : List Str}, z ∈ l → inV (.str z) (l.map V.str) = true
  | a :: r, h => by
    unfold inV
    rw [List.map_cons, List.any_cons]
    rcases List.mem_cons.mp h with e | h
    · subst e
      simp [eqV]
    · have := inV_str h
      unfold inV at this
      rw [this, Bool.or_true]
theorem flat_strs (l : List Str) : (l.map V.str).all flatV = true := by
  rw [List.all_map]
  exact List.all_eq_true.mpr fun _ _ => rfl
theorem ok_check (D : Dn K mg "check_options" (top 36)) (B : Bl mg) : Has P w K mg base CX0 1 "check_options" ["options", "given"] (spCheck T K) := by
  refine D.has0 sc_check (fun vs H Q E h => ?_) (fun _ _ _ _ _ _ us hl => match us, hl with | [_, _], _ => rfl) (fun f cdv A outer s H vs Q E hr h => ?_)
  · obtain ⟨a, g, rows, gs, rfl, _⟩ := h
    rfl
  obtain ⟨a, g, rows, gs, rfl, ⟨ts, ha, hts⟩, hg, hl, hin, q⟩ := h
  refine ⟨_, pss_one (ps_for PassesOwn.never rfl (RZ.pi_zipA rfl B.zip (pa_cons (pv 0) (pa_cons (pv 1) pa_nil)))
    (pg_tup rfl (pgs_cons (pg_tup rfl (pgs_cons (pg_name (i := 2) sc_check.nd rfl (.inl rfl)) (pgs_cons (pg_name (i := 3) sc_check.nd rfl (.inl rfl)) pgs_nil))) (pgs_cons (pg_name (i := 4) sc_check.nd rfl (.inl rfl)) pgs_nil)))
    (pss_one (ps_if (pt_cmpR op_notIn_seq (pv 4) (pv 3) (by rfl)) (pss_one ps_never) pss_nil))), ?_⟩
  have hlt : rows.length = ts.length := hts.length
  refine ⟨_, rfl, _, rfl, a, g, _, _, rfl, .inr ⟨ha H, SqT.of hg, RZ.for_zipT (by rw [List.length_map, List.length_map]; omega) (fun i σ Hi => ∃ v2 v3 v4, σ = [some (.ref a), some (.ref g), v2, v3, v4] ∧ Ex T [] H Hi) ⟨none, none, none, rfl, Ex.refl H⟩ (fun i σ Hi ⟨_, _, _, _, e⟩ => ⟨ha Hi, SqT.of (e.tup hg)⟩) ?_ ?_⟩⟩
  · rintro i x y Tp σ Hi hx hy ⟨v2, v3, v4, rfl, e⟩ hT
    rw [List.getElem?_map] at hx hy
    obtain ⟨t, ht, rfl⟩ := Option.map_eq_some_iff.mp hx
    obtain ⟨z, hz, rfl⟩ := Option.map_eq_some_iff.mp hy
    obtain ⟨r, hr1, al, h1, h2⟩ := paired_get hts ht
    refine ⟨Tp, _, rfl, SqT.of upd_same, rfl, _, _, rfl, ⟨t, _, rfl, h1 _, rfl, _, _, rfl, _, _, rfl, rfl, _, _, rfl, rfl, ?_⟩⟩
    refine ⟨_, rfl, _, rfl, al, _, rfl, .inr (h2 _), rfl, flat_strs _, _, rfl, ?_⟩
    rw [inV_str (hin i r z hr1 hz)]
    exact iteF ⟨_, _, _, rfl, e.then_new hT _⟩
  · rintro σ Hi ⟨v2, v3, v4, rfl, e⟩
    exact q Hi e
end
end K86
/-! K86Pass: Writer.__init__, Reader.__init__, Passage.__init__. -/
namespace K86
open PySem PySem.Spec PyProof.Rows L2

/-! ### C.f(e, .., k = v): a def read off its class -/
def tClsK (C : Addr) (n m : Nat) (sp : Sp) (gV : List V → List V → List V) (E : XK) (ta : TE) (t tk : TA) : TE := fun σ H Q => ta σ H fun x H1 => x = .ref C ∧ t σ H1 fun vs H2 => tk σ H2 fun zs H3 => vs.length = n ∧ zs.length = m ∧ sp (gV vs zs) H3 Q E
theorem pe_clsK {X : Cx} {CX : CXT} {k n : Nat} {C f : Addr} {mc : Value} {fd : FuncData} {ps ks : List Str} {sp : Sp} {E : XK} {o e : Expr} {es : List Expr} {kws : List Keyword} {m : Str} {pos apos : Pos} {ta : TE} {t tk : TA} {pl : Sem Bool} {g : List Value → List Value → List Value} {gV : List V → List V → List V}
    (he : PE X o ta) (r : ClX.CRead X.K C mc) (c : ClX.CVal X.K C mc m (.ref f) (.ref f)) (F : FnOk X.prog X.w X.K X.mg X.base CX k f fd ps sp) (hr : Room k X.A) (hk : PySem.W.keepIn X.K (.ref f) = true) (hb : KBn X.K fd ps n ks g gV) (hx : Passes CX X E) (ha : PA X (e :: es) t) (hkw : PK X kws tk)
    (hall : (backToKw pos (keywordEach kws X.env)).all (·.1.isSome) = true := by rfl) (hks : (backToKw pos (keywordEach kws X.env)).filterMap (·.1) = ks := by rfl) (hst : starEach (e :: es) X.env = (false, eval e X.env) :: starEach es X.env := by rfl)
    (hpl : ((backTo pos (starEach (e :: es) X.env)).any (·.1) || (backToKw pos (keywordEach kws X.env)).any (·.1.isNone)) = false := by rfl)
    (ht : eval (.Call (.Attribute o m apos) (e :: es) kws pos) X.env = (do
      let ov ← eval o X.env
      standAt apos.atName
      let (f, first) ← holding [ov] (getMethod ov m pl)
      callWith pos f first (backTo pos (starEach (e :: es) X.env)) (backToKw pos (keywordEach kws X.env))) := by rfl) :
    PE X (.Call (.Attribute o m apos) (e :: es) kws pos) (tClsK C n ks.length sp gV E ta t tk) := by
  refine ⟨fun pins s σ H Q I h => ?_⟩
  refine PySem.W.methodCall_KW (pl := pl) (thn (he.run pins s σ H _ I h) fun u s1 ⟨x, H1, I1, rx, ex, q⟩ => ?_) ht
  subst ex
  obtain rfl : u = Value.ref C := rx
  refine PySem.W.method_cls I1.kIn r.ga (ClX.getcval_ok I1 r c fun s2 I2 => ?_)
  refine PySem.W.callWith_KW (h₀ := X.base) I2.ok.mod.kin hk hall (thn (ha.run pos pins s2 σ H1 _ I2 q) fun us s3 ⟨vs, H2, I3, rv, q2⟩ => ?_) hpl hst
  refine thn (hkw.run pos pins s3 σ H2 _ I3 q2) fun ws s4 ⟨zs, H3, I4, rz, l1, l2, q3⟩ => ⟨I4.kIn, ?_⟩
  rw [hks]
  exact run_fnN F hr hb hx I4 rv rz l1 l2 q3

/-! ### a passage in the heap -/
def pasW (o : Opt) : List (Str × V) := [("number_keys", .str o.nk), ("tuples", .str o.tu), ("nulls", .str o.nu), ("double_keys", .str o.dk), ("order", .str o.od), ("long_numbers", .str o.ln)]
def pasF (o : Opt) : List (Str × V) := [("number_keys", .str o.nk), ("tuples", .str o.tu), ("nulls", .str o.nu), ("double_keys", .str o.dk), ("order", .str o.od), ("long_numbers", .str o.ln), ("same_keys", .str o.sk), ("digit_keys", .str o.dn), ("lists", .str o.li), ("null_items", .str o.ni)]
def PasAt (CP : Addr) (o : Opt) (H : Hp) (p : Addr) : Prop := ∃ dx, H p = some (.ins CP dx (pasF o))
theorem PasAt.ex {T : Tb} {CP : Addr} {o : Opt} {H H' : Hp} {p : Addr} (h : PasAt CP o H p) (e : Ex T [] H H') : PasAt CP o H' p := let ⟨dx, q⟩ := h; ⟨dx, e.ins q⟩
def optNames : List Str := ["number_keys", "tuples", "nulls", "double_keys", "order", "long_numbers", "same_keys", "digit_keys", "lists", "null_items"]
structure PF (K : PySem.W.Frag) (CP : Addr) : Prop where
  cl : Cls K CP
  na : ∀ f ∈ optNames, NoAttr K CP f
def wRows : List (Str × List Str) := [("number_keys", ["text", "skip", "refuse"]), ("tuples", ["list", "refuse"]), ("nulls", ["keep", "skip"]), ("double_keys", ["keep", "refuse"]), ("order", ["keep", "rising"]), ("long_numbers", ["keep", "text", "refuse"])]
def rRows : List (Str × List Str) := [("same_keys", ["last", "first", "refuse"]), ("digit_keys", ["text", "number"]), ("lists", ["list", "tuple"]), ("null_items", ["keep", "skip"])]
structure OkO (o : Opt) : Prop where
  nk : o.nk ∈ (["text", "skip", "refuse"] : List Str)
  tu : o.tu ∈ (["list", "refuse"] : List Str)
  nu : o.nu ∈ (["keep", "skip"] : List Str)
  dk : o.dk ∈ (["keep", "refuse"] : List Str)
  od : o.od ∈ (["keep", "rising"] : List Str)
  ln : o.ln ∈ (["keep", "text", "refuse"] : List Str)
  sk : o.sk ∈ (["last", "first", "refuse"] : List Str)
  dn : o.dn ∈ (["text", "number"] : List Str)
  li : o.li ∈ (["list", "tuple"] : List Str)
  ni : o.ni ∈ (["keep", "skip"] : List Str)
section
variable {P : Program} {w : World} {K : PySem.W.Frag} {mg : Str → Option Value} {base : Heap} {CT CP : Addr} {T : Tb}
/-- a method with keyword-only parameters, read off its class at C -/
structure DmC (K : PySem.W.Frag) (C : Addr) (qual : Str) (st : Stmt) (kws : List (Str × V)) : Prop where
  ex : ∃ f fd mc, FunD K "__init__" qual (defArgs st) (defBody st) (defScope st) [] kws f fd ∧ ClX.CRead K C mc ∧ ClX.CVal K C mc "__init__" (.ref f) (.ref f)
def wKws : List (Str × V) := [("number_keys", .str "text"), ("tuples", .str "list"), ("nulls", .str "keep"), ("double_keys", .str "keep"), ("order", .str "keep"), ("long_numbers", .str "keep")]
def rKws : List (Str × V) := [("same_keys", .str "last"), ("digit_keys", .str "text"), ("lists", .str "list"), ("null_items", .str "keep")]
abbrev nWI : List Str := ["self", "number_keys", "tuples", "nulls", "double_keys", "order", "long_numbers"]
abbrev nRI : List Str := ["self", "same_keys", "digit_keys", "lists", "null_items"]
def spWI (T : Tb) (CP : Addr) : Sp := fun vs H Q _ => ∃ (x dx : Addr) (o : Opt), vs = [.ref x, .str o.nk, .str o.tu, .str o.nu, .str o.dk, .str o.od, .str o.ln] ∧ OkO o ∧ H x = some (.ins CP dx []) ∧ ∀ H', Ex T [x] H H' → H' x = some (.ins CP dx (pasW o)) → Q .non H'
def spRI (T : Tb) (CP : Addr) : Sp := fun vs H Q _ => ∃ (x dx : Addr) (o : Opt), vs = [.ref x, .str o.sk, .str o.dn, .str o.li, .str o.ni] ∧ OkO o ∧ H x = some (.ins CP dx (pasW o)) ∧ ∀ H', Ex T [x] H H' → H' x = some (.ins CP dx (pasF o)) → Q .non H'
theorem sc_WI : FnScope nWI nWI (defScope (inClass (top 37) 1)) := ⟨rfl, rfl, rfl, by decide +kernel, rfl, by decide +kernel, by decide +kernel⟩
theorem sc_RI : FnScope nRI nRI (defScope (inClass (top 38) 0)) := ⟨rfl, rfl, rfl, by decide +kernel, rfl, by decide +kernel, by decide +kernel⟩
/-- an __init__ that is called through its class -/
structure HasC (P : Program) (w : World) (K : PySem.W.Frag) (mg : Str → Option Value) (base : Heap) (k : Nat) (C : Addr) (ps ks : List Str) (sp : Sp) : Prop where
  ex : ∃ f fd mc, ClX.CRead K C mc ∧ ClX.CVal K C mc "__init__" (.ref f) (.ref f) ∧ PySem.W.keepIn K (.ref f) = true ∧ KBn K fd ps 1 ks (fun us ws => us ++ ws) (fun vs zs => vs ++ zs) ∧ FnOk P w K mg base CX0 k f fd ps sp
theorem ins_store {H H1 : Hp} {x dx : Addr} {fs gs : List (Str × V)} (e : Ex T [x] H H1) (h : H1 x = some (.ins CP dx fs)) : Ex T [x] H (upd H1 x (.ins CP dx gs)) := e.then_put List.mem_cons_self h ⟨(fun ps y => nomatch y), (fun φ y => nomatch y)⟩
theorem ok_WI {CW : Addr} (D : DmC K CW "Writer.__init__" (inClass (top 37) 1) wKws) (F : PF K CP) (hc : Has P w K mg base CX0 1 "check_options" ["options", "given"] (spCheck T K)) (hO : ∃ a, mg "WRITER_OPTIONS" = some (.ref a) ∧ OptsAt K a wRows) :
    HasC P w K mg base 2 CW nWI ["number_keys", "tuples", "nulls", "double_keys", "order", "long_numbers"] (spWI T CP) := by
  obtain ⟨f, fd, mc, FD, CR, CV⟩ := D.ex
  obtain ⟨fc, fdc, hmc, kpc, bc, Gc⟩ := hc.ex
  obtain ⟨a, hma, hop⟩ := hO
  refine ⟨f, fd, mc, CR, CV, FD.kp, ?_, FD.ok sc_WI (fun vs H Q E h => ?_) (fun cdv A outer s H vs Q E hr h => ?_)⟩
  · obtain ⟨mv, h⟩ := FD.kbinds0 (ps := nWI) 1 ["number_keys", "tuples", "nulls", "double_keys", "order", "long_numbers"] [] (fun us _ ws => us ++ ws) (by decide) (fun q hq => nomatch hq) (fun r1 _ r3 => r1.append r3) (fun D doc pm an cdv ct us mv ws h1 h2 h3 => match us, mv, ws, h1, h2, h3 with | [_], [], [_, _, _, _, _, _], _, _, _ => by show _ = _; kernel_rfl)
    exact h
  · obtain ⟨x, dx, o, rfl, _⟩ := h
    rfl
  obtain ⟨x, dx, o, rfl, ok, hx, q⟩ := h
  have tm : ∃ t, PSs (cxOf CX0 P w K mg base nWI "Writer.__init__" (defScope (inClass (top 37) 1)) f cdv A outer s H E).nox (defBody (inClass (top 37) 1)) t ∧ t { nx := fun _ H' => Q .non H', rt := Q } (start nWI [.ref x, .str o.nk, .str o.tu, .str o.nu, .str o.dk, .str o.od, .str o.ln]) H := by
    refine ⟨_, pss_cons (ps_expr (pe_call Gc hr rfl hmc kpc bc .nil pass0 (pa_cons (pe_glob (v := .ref a) rfl hma rfl) (pa_cons (pe_tup (pa_cons (pv 1) (pa_cons (pv 2) (pa_cons (pv 3) (pa_cons (pv 4) (pa_cons (pv 5) (pa_cons (pv 6) pa_nil))))))) pa_nil))))
      (pss_cons (ps_fld (pv 0) (pv 1) rfl) (pss_cons (ps_fld (pv 0) (pv 2) rfl) (pss_cons (ps_fld (pv 0) (pv 3) rfl) (pss_cons (ps_fld (pv 0) (pv 4) rfl) (pss_cons (ps_fld (pv 0) (pv 5) rfl) (pss_one (ps_fld (pv 0) (pv 6) rfl))))))), ?_⟩
    refine ⟨_, rfl, _, rfl, _, rfl, _, rfl, _, rfl, _, rfl, (by show 6 ≤ sizeLine; decide), fun g hg => ?_⟩
    have e0 : Ex T [] H (upd H g (.tup [.str o.nk, .str o.tu, .str o.nu, .str o.dk, .str o.od, .str o.ln])) := Ex.new hg _
    refine ⟨a, g, wRows, [o.nk, o.tu, o.nu, o.dk, o.od, o.ln], rfl, hop, upd_same, rfl, fun i r z h1 h2 => ?_, fun H1 e1 => ?_⟩
    · match i, h1, h2 with
      | 0, h1, h2 => cases h1; cases h2; exact ok.nk
      | 1, h1, h2 => cases h1; cases h2; exact ok.tu
      | 2, h1, h2 => cases h1; cases h2; exact ok.nu
      | 3, h1, h2 => cases h1; cases h2; exact ok.dk
      | 4, h1, h2 => cases h1; cases h2; exact ok.od
      | 5, h1, h2 => cases h1; cases h2; exact ok.ln
    have e : Ex T [x] H H1 := (e0.trans e1).of0
    have hx1 := (e0.trans e1).ins hx
    refine ⟨_, rfl, _, rfl, x, CP, dx, _, rfl, hx1, F.cl, F.na _ (by decide +kernel), (by show 0 < 1000; decide), ?_⟩
    refine ⟨_, rfl, _, rfl, x, CP, dx, _, rfl, upd_same, F.cl, F.na _ (by decide +kernel), (by show 1 < 1000; decide), ?_⟩
    refine ⟨_, rfl, _, rfl, x, CP, dx, _, rfl, upd_same, F.cl, F.na _ (by decide +kernel), (by show 2 < 1000; decide), ?_⟩
    refine ⟨_, rfl, _, rfl, x, CP, dx, _, rfl, upd_same, F.cl, F.na _ (by decide +kernel), (by show 3 < 1000; decide), ?_⟩
    refine ⟨_, rfl, _, rfl, x, CP, dx, _, rfl, upd_same, F.cl, F.na _ (by decide +kernel), (by show 4 < 1000; decide), ?_⟩
    refine ⟨_, rfl, _, rfl, x, CP, dx, _, rfl, upd_same, F.cl, F.na _ (by decide +kernel), (by show 5 < 1000; decide), ?_⟩
    refine q _ (ins_store (ins_store (ins_store (ins_store (ins_store (ins_store e hx1) upd_same) upd_same) upd_same) upd_same) upd_same) ?_
    exact upd_same
  obtain ⟨t, h1, h2⟩ := tm
  exact ⟨t, h1.nox, h2⟩

theorem ok_RI {CR0 : Addr} (D : DmC K CR0 "Reader.__init__" (inClass (top 38) 0) rKws) (F : PF K CP) (hc : Has P w K mg base CX0 1 "check_options" ["options", "given"] (spCheck T K)) (hO : ∃ a, mg "READER_OPTIONS" = some (.ref a) ∧ OptsAt K a rRows) :
    HasC P w K mg base 2 CR0 nRI ["same_keys", "digit_keys", "lists", "null_items"] (spRI T CP) := by
  obtain ⟨f, fd, mc, FD, CR, CV⟩ := D.ex
  obtain ⟨fc, fdc, hmc, kpc, bc, Gc⟩ := hc.ex
  obtain ⟨a, hma, hop⟩ := hO
  refine ⟨f, fd, mc, CR, CV, FD.kp, ?_, FD.ok sc_RI (fun vs H Q E h => ?_) (fun cdv A outer s H vs Q E hr h => ?_)⟩
  · obtain ⟨mv, h⟩ := FD.kbinds0 (ps := nRI) 1 ["same_keys", "digit_keys", "lists", "null_items"] [] (fun us _ ws => us ++ ws) (by decide) (fun q hq => nomatch hq) (fun r1 _ r3 => r1.append r3) (fun D doc pm an cdv ct us mv ws h1 h2 h3 => match us, mv, ws, h1, h2, h3 with | [_], [], [_, _, _, _], _, _, _ => by show _ = _; kernel_rfl)
    exact h
  · obtain ⟨x, dx, o, rfl, _⟩ := h
    rfl
  obtain ⟨x, dx, o, rfl, ok, hx, q⟩ := h
  have tm : ∃ t, PSs (cxOf CX0 P w K mg base nRI "Reader.__init__" (defScope (inClass (top 38) 0)) f cdv A outer s H E).nox (defBody (inClass (top 38) 0)) t ∧ t { nx := fun _ H' => Q .non H', rt := Q } (start nRI [.ref x, .str o.sk, .str o.dn, .str o.li, .str o.ni]) H := by
    refine ⟨_, pss_cons (ps_expr (pe_call Gc hr rfl hmc kpc bc .nil pass0 (pa_cons (pe_glob (v := .ref a) rfl hma rfl) (pa_cons (pe_tup (pa_cons (pv 1) (pa_cons (pv 2) (pa_cons (pv 3) (pa_cons (pv 4) pa_nil))))) pa_nil))))
      (pss_cons (ps_fld (pv 0) (pv 1) rfl) (pss_cons (ps_fld (pv 0) (pv 2) rfl) (pss_cons (ps_fld (pv 0) (pv 3) rfl) (pss_one (ps_fld (pv 0) (pv 4) rfl))))), ?_⟩
    refine ⟨_, rfl, _, rfl, _, rfl, _, rfl, (by show 4 ≤ sizeLine; decide), fun g hg => ?_⟩
    have e0 : Ex T [] H (upd H g (.tup [.str o.sk, .str o.dn, .str o.li, .str o.ni])) := Ex.new hg _
    refine ⟨a, g, rRows, [o.sk, o.dn, o.li, o.ni], rfl, hop, upd_same, rfl, fun i r z h1 h2 => ?_, fun H1 e1 => ?_⟩
    · match i, h1, h2 with
      | 0, h1, h2 => cases h1; cases h2; exact ok.sk
      | 1, h1, h2 => cases h1; cases h2; exact ok.dn
      | 2, h1, h2 => cases h1; cases h2; exact ok.li
      | 3, h1, h2 => cases h1; cases h2; exact ok.ni
    have e : Ex T [x] H H1 := (e0.trans e1).of0
    have hx1 := (e0.trans e1).ins hx
    refine ⟨_, rfl, _, rfl, x, CP, dx, _, rfl, hx1, F.cl, F.na _ (by decide +kernel), (by show 6 < 1000; decide), ?_⟩
    refine ⟨_, rfl, _, rfl, x, CP, dx, _, rfl, upd_same, F.cl, F.na _ (by decide +kernel), (by show 7 < 1000; decide), ?_⟩
    refine ⟨_, rfl, _, rfl, x, CP, dx, _, rfl, upd_same, F.cl, F.na _ (by decide +kernel), (by show 8 < 1000; decide), ?_⟩
    refine ⟨_, rfl, _, rfl, x, CP, dx, _, rfl, upd_same, F.cl, F.na _ (by decide +kernel), (by show 9 < 1000; decide), ?_⟩
    refine q _ (ins_store (ins_store (ins_store (ins_store e hx1) upd_same) upd_same) upd_same) ?_
    exact upd_same
  obtain ⟨t, h1, h2⟩ := tm
  exact ⟨t, h1.nox, h2⟩

end
end K86
/-! K86Err: Unwritable, Unreadable, Refused. -/
namespace K86
open PySem PySem.Spec PyProof.Rows L2

/-- an error's class at C, as the head leaves it -/
structure XF (K : PySem.W.Frag) (mg : Str → Option Value) (C : Addr) (x qual : Str) (st : Stmt) : Prop where
  ox : OexC K C
  gl : mg x = some (.ref C)
  no : ∀ f ∈ (["side", "reason", "path"] : List Str), PySem.W.findIn K (.ref C) f = some none
  ini : ∃ f fd, FunD K "__init__" qual (defArgs st) (defBody st) (defScope st) [] [] f fd ∧ PySem.W.findIn K (.ref C) "__init__" = some (some (.ref f)) ∧ PySem.W.typeIn K (.ref f) = some (.type "function")
  te : PySem.W.exmOne K (.ref C) (.ref C) = some true
section
variable {P : Program} {w : World} {K : PySem.W.Frag} {mg : Str → Option Value} {base : Heap} {T : Tb}
/-- its __init__ keeps the promise sp -/
structure HasE (P : Program) (w : World) (K : PySem.W.Frag) (mg : Str → Option Value) (base : Heap) (C : Addr) (ps : List Str) (sp : Sp) : Prop where
  ex : ∃ f fd, PySem.W.findIn K (.ref C) "__init__" = some (some (.ref f)) ∧ PySem.W.typeIn K (.ref f) = some (.type "function") ∧ Binds K fd ps [] ∧ FnOk P w K mg base CX0 1 f fd ps sp
abbrev fs2 (y1 y2 : V) : List (Str × V) := [("path", y2), ("reason", y1)]
abbrev fs3 (y1 y2 y3 : V) : List (Str × V) := [("path", y3), ("reason", y2), ("side", y1)]
def spE2 (C : Addr) : Sp := fun vs H Q _ => ∃ (e : Addr) (y1 y2 : V), vs = [.ref e, y1, y2] ∧ H e = some (exo e C none) ∧
  ∀ d H', H d = none → d ≠ e → (∀ b, b ≠ d → b ≠ e → H' b = H b) → H' e = some (exo e C (some d)) → H' d = some (exd d (fs2 y1 y2)) → Q .non H'
def spE3 (C : Addr) : Sp := fun vs H Q _ => ∃ (e : Addr) (y1 y2 y3 : V), vs = [.ref e, y1, y2, y3] ∧ H e = some (exo e C none) ∧
  ∀ d H', H d = none → d ≠ e → (∀ b, b ≠ d → b ≠ e → H' b = H b) → H' e = some (exo e C (some d)) → H' d = some (exd d (fs3 y1 y2 y3)) → Q .non H'
theorem sc_E9 : FnScope ["self", "reason", "path"] ["self", "reason", "path"] (defScope (inClass (top 9) 0)) := ⟨rfl, rfl, rfl, by decide +kernel, rfl, by decide +kernel, by decide +kernel⟩
theorem sc_E10 : FnScope ["self", "reason", "path"] ["self", "reason", "path"] (defScope (inClass (top 10) 0)) := ⟨rfl, rfl, rfl, by decide +kernel, rfl, by decide +kernel, by decide +kernel⟩
theorem sc_E11 : FnScope ["self", "side", "reason", "path"] ["self", "side", "reason", "path"] (defScope (inClass (top 11) 0)) := ⟨rfl, rfl, rfl, by decide +kernel, rfl, by decide +kernel, by decide +kernel⟩
/-- the two stores -/
theorem read2 {C : Addr} {y1 y2 : V} {e : Addr} {H : Hp} {Q : VK} {sr sp : Str} (X : OexC K C) (n1 : PySem.W.findIn K (.ref C) "reason" = some none) (n2 : PySem.W.findIn K (.ref C) "path" = some none) (he : H e = some (exo e C none))
    (q : ∀ d H', H d = none → d ≠ e → (∀ b, b ≠ d → b ≠ e → H' b = H b) → H' e = some (exo e C (some d)) → H' d = some (exd d (fs2 y1 y2)) → Q .non H') :
    tSeq (tOst K "reason" (tVar 0) (tVar 1)) (tOst K "path" (tVar 0) (tVar 2)) { nx := fun _ H' => Q .non H', rt := Q } [some (.ref e), some y1, some y2] H := by
  refine ⟨_, rfl, _, rfl, e, C, rfl, X, n1, .inl ⟨he, fun d hd hne => ?_⟩⟩
  refine ⟨_, rfl, _, rfl, e, C, rfl, X, n2, .inr ⟨d, [("reason", y1)], upd_same, by rw [upd_ne hne, upd_same], by show 1 ≤ 900; decide, ?_⟩⟩
  exact q d _ hd hne (fun b h1 h2 => by rw [upd_ne h1, upd_ne h2, upd_ne h1]) (by rw [upd_ne (Ne.symm hne), upd_same]) upd_same
theorem ok_E9 {C : Addr} (F : XF K mg C "Unwritable" "Unwritable.__init__" (inClass (top 9) 0)) : HasE P w K mg base C ["self", "reason", "path"] (spE2 C) := by
  obtain ⟨f, fd, FD, h1, h2⟩ := F.ini
  refine ⟨f, fd, h1, h2, FD.bindsN (fun _ _ _ _ _ _ us hl => match us, hl with | [_, _, _], _ => rfl), FD.ok sc_E9 (fun vs H Q E h => ?_) (fun cdv A outer s H vs Q E hr h => ?_)⟩
  · obtain ⟨e, y1, y2, rfl, _⟩ := h
    rfl
  obtain ⟨e, y1, y2, rfl, he, q⟩ := h
  exact ⟨_, pss_cons (ps_ost (pv 0) (pv 1)) (pss_one (ps_ost (pv 0) (pv 2))), read2 (sr := "") (sp := "") F.ox (F.no _ (by decide +kernel)) (F.no _ (by decide +kernel)) he q⟩
theorem ok_E10 {C : Addr} (F : XF K mg C "Unreadable" "Unreadable.__init__" (inClass (top 10) 0)) : HasE P w K mg base C ["self", "reason", "path"] (spE2 C) := by
  obtain ⟨f, fd, FD, h1, h2⟩ := F.ini
  refine ⟨f, fd, h1, h2, FD.bindsN (fun _ _ _ _ _ _ us hl => match us, hl with | [_, _, _], _ => rfl), FD.ok sc_E10 (fun vs H Q E h => ?_) (fun cdv A outer s H vs Q E hr h => ?_)⟩
  · obtain ⟨e, y1, y2, rfl, _⟩ := h
    rfl
  obtain ⟨e, y1, y2, rfl, he, q⟩ := h
  exact ⟨_, pss_cons (ps_ost (pv 0) (pv 1)) (pss_one (ps_ost (pv 0) (pv 2))), read2 (sr := "") (sp := "") F.ox (F.no _ (by decide +kernel)) (F.no _ (by decide +kernel)) he q⟩
theorem ok_E11 {C : Addr} (F : XF K mg C "Refused" "Refused.__init__" (inClass (top 11) 0)) : HasE P w K mg base C ["self", "side", "reason", "path"] (spE3 C) := by
  obtain ⟨f, fd, FD, h1, h2⟩ := F.ini
  refine ⟨f, fd, h1, h2, FD.bindsN (fun _ _ _ _ _ _ us hl => match us, hl with | [_, _, _, _], _ => rfl), FD.ok sc_E11 (fun vs H Q E h => ?_) (fun cdv A outer s H vs Q E hr h => ?_)⟩
  · obtain ⟨e, y1, y2, y3, rfl, _⟩ := h
    rfl
  obtain ⟨e, y1, y2, y3, rfl, he, q⟩ := h
  refine ⟨_, pss_cons (ps_ost (pv 0) (pv 1)) (pss_cons (ps_ost (pv 0) (pv 2)) (pss_one (ps_ost (pv 0) (pv 3)))), ?_⟩
  refine ⟨_, rfl, _, rfl, e, C, rfl, F.ox, F.no _ (by decide +kernel), .inl ⟨he, fun d hd hne => ?_⟩⟩
  refine ⟨_, rfl, _, rfl, e, C, rfl, F.ox, F.no _ (by decide +kernel), .inr ⟨d, [("side", y1)], upd_same, by rw [upd_ne hne, upd_same], by show 1 ≤ 900; decide, ?_⟩⟩
  refine ⟨_, rfl, _, rfl, e, C, rfl, F.ox, F.no _ (by decide +kernel), .inr ⟨d, [("reason", y2), ("side", y1)], by rw [upd_ne (Ne.symm hne), upd_same], upd_same, by show 2 ≤ 900; decide, ?_⟩⟩
  exact q d _ hd hne (fun b h1 h2 => by rw [upd_ne h1, upd_ne h1, upd_ne h2, upd_ne h1]) (by rw [upd_ne (Ne.symm hne), upd_ne (Ne.symm hne), upd_same]) upd_same
/-- what the raising of such an error leaves -/
theorem mk2 {C a : Addr} {y1 y2 : V} {H : Hp} {Q : XK} (ha : H a = none) (q : ∀ d H', Same H H' → H' d = some (.xd (fs2 y1 y2)) → Q (.ref C) (some d) H') :
    spE2 C [.ref a, y1, y2] (upd H a (exo a C none)) (fun v H2 => v = .non ∧ ∃ (d : Addr) (fs : List (Str × V)), H2 a = some (exo a C (some d)) ∧ H2 d = some (exd d fs) ∧ H d = none ∧ Q (.ref C) (some d) (upd (del H2 a) d (.xd fs))) (fun _ _ _ => False) := by
  refine ⟨a, y1, y2, rfl, upd_same, fun d H' hd hne hk h1 h2 => ⟨rfl, d, _, h1, h2, by rw [upd_ne hne] at hd; exact hd, q d _ (fun b o hb => ?_) upd_same⟩⟩
  rw [upd_ne hne] at hd
  rw [upd_ne (ne_of_none hb hd), del_ne (ne_of_none hb ha), hk b (ne_of_none hb hd) (ne_of_none hb ha), upd_ne (ne_of_none hb ha)]
  exact hb
theorem mk3 {C a : Addr} {y1 y2 y3 : V} {H : Hp} {Q : XK} (ha : H a = none) (q : ∀ d H', Same H H' → H' d = some (.xd (fs3 y1 y2 y3)) → Q (.ref C) (some d) H') :
    spE3 C [.ref a, y1, y2, y3] (upd H a (exo a C none)) (fun v H2 => v = .non ∧ ∃ (d : Addr) (fs : List (Str × V)), H2 a = some (exo a C (some d)) ∧ H2 d = some (exd d fs) ∧ H d = none ∧ Q (.ref C) (some d) (upd (del H2 a) d (.xd fs))) (fun _ _ _ => False) := by
  refine ⟨a, y1, y2, y3, rfl, upd_same, fun d H' hd hne hk h1 h2 => ⟨rfl, d, _, h1, h2, by rw [upd_ne hne] at hd; exact hd, q d _ (fun b o hb => ?_) upd_same⟩⟩
  rw [upd_ne hne] at hd
  rw [upd_ne (ne_of_none hb hd), del_ne (ne_of_none hb ha), hk b (ne_of_none hb hd) (ne_of_none hb ha), upd_ne (ne_of_none hb ha)]
  exact hb
end
end K86
/-! K86HeadC: the head's checks. -/
namespace K86
open PySem PySem.Spec PyProof.Rows L2
/-! ### which part of the heap is looked at -/
def nextO : Obj → List Addr
  | ⟨_, _, .seq its _, _⟩ => its.toList.flatMap He.refV
  | ⟨_, _, .dict es _, _⟩ => es.toList.flatMap fun e => He.refV e.val
  | ⟨_, _, .func fd, _⟩ => He.refV fd.code ++ (He.refV fd.defaults ++ He.refV fd.kwdefaults)
  | ⟨_, _, .cls cd, _⟩ => [cd.ns]
  | _ => []
def lev (g : Addr → Option Obj) (l : List Addr) : List Addr := l.flatMap fun a => match g a with
  | some o => nextO o
  | none => []
def asL (g : Addr → Option Obj) : List Addr :=
  mainGlobals :: cStatics :: (lev g [mainGlobals] ++ (lev g (lev g [mainGlobals]) ++ (lev g (lev g (lev g [mainGlobals])) ++ lev g (lev g (lev g (lev g [mainGlobals]))))))
/-- each address made a number ahead -/
def frAs {α : Type} : List Addr → (List Addr → α) → α
  | [], k => k []
  | a :: r, k => HandSHeadRun.frNat a fun a => frAs r fun r => k (a :: r)
theorem frAs_eq {α : Type} : ∀ (l : List Addr) (k : List Addr → α), frAs l k = k l
  | [], _ => rfl
  | a :: r, k => by
    show HandSHeadRun.frNat a (fun a => frAs r fun r => k (a :: r)) = _
    rw [HandSHeadRun.frNat_eq, frAs_eq]
/-- the objects, read once -/
def frKs {α : Type} (g : Addr → Option Obj) : List Addr → (PySem.W.Frag → α) → α
  | [], k => k []
  | a :: r, k => match g a with
    | some o => frKs g r fun K => k ((a, o) :: K)
    | none => frKs g r k
theorem frKs_eq {α : Type} (g : Addr → Option Obj) : ∀ (l : List Addr) (k : PySem.W.Frag → α), frKs g l k = k (He.frG g l)
  | [], _ => rfl
  | a :: r, k => by
    unfold frKs He.frG
    rw [List.filterMap_cons]
    cases q : g a with
    | none => exact frKs_eq g r k
    | some o => exact frKs_eq g r fun K => k ((a, o) :: K)
def withK {α : Type} (g : Addr → Option Obj) (k : PySem.W.Frag → α) : α :=
  frAs (lev g [mainGlobals]) fun a1 => frAs (lev g a1) fun a2 => frAs (lev g a2) fun a3 => frAs (lev g a3) fun a4 => frKs g (mainGlobals :: cStatics :: (a1 ++ (a2 ++ (a3 ++ a4)))) k
theorem withK_eq {α : Type} (g : Addr → Option Obj) (k : PySem.W.Frag → α) : withK g k = k (He.frG g (asL g)) := by
  unfold withK
  rw [frAs_eq, frAs_eq, frAs_eq, frAs_eq, frKs_eq]
  rfl
/-! ### checks of classes -/
def oexB (K : PySem.W.Frag) (C : Addr) : Bool := (match K.lookup C with
  | some ⟨.type t, _, .cls cd, sl⟩ => decide (t = "type") && (match cd.mro, sl.toList with
    | .ref C' :: bm, [_, _, _, _, some (.builtin n), _] => decide (C' = C) && (decide (n = "ValueError.__new__") && (!cd.hasDel && (cd.hasDict && PySem.HandSPX.refsVE bm)))
    | _, _ => false)
  | _ => false) && (He.eqO (PySem.W.findIn K (.ref C) "__setattr__") (some (some (.builtin "object.__setattr__"))) && (decide (PySem.W.subIn K (.ref C) (.type "BaseException") = some true) && (decide (PySem.W.typeIn K (.ref C) = some (.type "type")) && PySem.W.keepIn K (.ref C))))
theorem oexB_ok {K : PySem.W.Frag} {C : Addr} (h : oexB K C = true) : OexC K C := by
  obtain ⟨h1, h⟩ := He.ba h
  obtain ⟨h2, h⟩ := He.ba h
  obtain ⟨h3, h⟩ := He.ba h
  obtain ⟨h4, h5⟩ := He.ba h
  refine ⟨?_, He.eqO_ok h2, of_decide_eq_true h3, of_decide_eq_true h4, h5⟩
  cases q : K.lookup C with
  | none => rw [q] at h1; cases h1
  | some o =>
    obtain ⟨oc, od, dt, osl⟩ := o
    rw [q] at h1
    cases oc with
    | type t =>
      cases dt with
      | cls cd =>
        obtain ⟨e1, g1⟩ := He.ba h1
        have e1' : t = "type" := of_decide_eq_true e1
        clear h1 e1
        subst e1'
        obtain ⟨nm, bs, mro, ns, qn, hd, sn, sub, ab, col, hdel⟩ := cd
        obtain ⟨osl⟩ := osl
        match mro, osl, g1 with
        | .ref C' :: bm, [k0, k1, k2, k3, some (.builtin n), k5], g1 =>
          obtain ⟨a1, g2⟩ := He.ba g1
          obtain ⟨a2, g3⟩ := He.ba g2
          obtain ⟨a3, g4⟩ := He.ba g3
          obtain ⟨a4, a5⟩ := He.ba g4
          have b1 : C' = C := of_decide_eq_true a1
          have b2 : n = "ValueError.__new__" := of_decide_eq_true a2
          have b3 : hdel = false := by simpa using a3
          have b4 : hd = true := a4
          clear g1 g2 g3 g4 a1 a2 a3 a4
          subst b1 b2 b3 b4
          exact ⟨_, _, _, _, _, _, _, _, _, _, _, _, _, _, _, rfl, a5⟩
      | _ => cases h1
    | _ => cases dt <;> cases h1
/-- an error's class by its name -/
def xfB (K : PySem.W.Frag) (x : Str) : Bool := oexB K (He.ga K x) && ((["side", "reason", "path"] : List Str).all (fun f => He.eqO (PySem.W.findIn K (.ref (He.ga K x)) f) (some none)) &&
  (He.eqO (PySem.W.findIn K (.ref (He.ga K x)) "__init__") (some (some (.ref (He.ma K (He.ga K x) "__init__")))) && (decide (PySem.W.typeIn K (.ref (He.ma K (He.ga K x) "__init__")) = some (.type "function")) && decide (PySem.W.exmOne K (.ref (He.ga K x)) (.ref (He.ga K x)) = some true))))
/-- a class whose attributes are read off it -/
def rdB (K : PySem.W.Frag) (x : Str) : Bool := PySem.W.readsIn K (He.ga K x) (.type "type") && He.eqO (PySem.W.specialIn K (.ref (He.ga K x)) "__getattribute__") (some (some (.builtin "type.__getattribute__")))
theorem rdB_ok {K : PySem.W.Frag} {x : Str} (h : rdB K x = true) : ClX.CRead K (He.ga K x) (.type "type") := by
  obtain ⟨h1, h2⟩ := He.ba h
  exact ⟨h1, He.eqO_ok h2⟩
def cvB (K : PySem.W.Frag) (x f : Str) (v : V) : Bool := match PySem.W.findCls K (.ref (He.ga K x)) (.type "type") f with
  | some (.val u) => He.relB v u
  | _ => false
theorem cvB_ok {K : PySem.W.Frag} {x f : Str} {v : V} (h : cvB K x f v = true) : ∃ u, ClX.CVal K (He.ga K x) (.type "type") f v u := by
  unfold cvB at h
  cases q : PySem.W.findCls K (.ref (He.ga K x)) (.type "type") f with
  | none => rw [q] at h; cases h
  | some c =>
    rw [q] at h
    cases c with
    | val u => exact ⟨u, q, He.relB_ok h⟩
    | get _ _ _ _ => cases h
/-! ### Table -/
def tfB (K : PySem.W.Frag) : Bool := He.eqO (PySem.W.findIn K (.ref (He.ga K "Table")) "__class__") (some (some (.builtin "object.__class__"))) && (He.eqO (PySem.W.specialIn K (.builtin "object.__class__") "__get__") (some (some (.builtin "getset_descriptor.__get__"))) &&
  (decide (PySem.W.takesIn K (.builtin "object.__class__") = some true) && (decide (PySem.W.mroIn K (He.ga K "Table") (.type "object") = some true) &&
  ((["NoneType", "bool", "int", "str", "list", "tuple"] : List String).all (fun b => decide (PySem.W.kitOne K (.type b) (.ref (He.ga K "Table")) = some false)) && (["bool", "int", "str", "list", "tuple"] : List String).all (fun b => decide (PySem.W.kitOne K (.ref (He.ga K "Table")) (.type b) = some false))))))
theorem tfB_ok {K : PySem.W.Frag} (h : tfB K = true) (hc : Cls K (He.ga K "Table")) (hn : NoAttr K (He.ga K "Table") "held") : TF K (He.ga K "Table") := by
  obtain ⟨h1, h⟩ := He.ba h
  obtain ⟨h2, h⟩ := He.ba h
  obtain ⟨h3, h⟩ := He.ba h
  obtain ⟨h4, h⟩ := He.ba h
  obtain ⟨h5, h6⟩ := He.ba h
  exact ⟨hc, He.eqO_ok h1, He.eqO_ok h2, of_decide_eq_true h3, of_decide_eq_true h4, fun b hb => of_decide_eq_true (List.all_eq_true.mp h5 b hb), fun b hb => of_decide_eq_true (List.all_eq_true.mp h6 b hb), hn⟩
/-! ### the tables of options -/
def tupV (K : PySem.W.Frag) (a : Addr) : Option (List Value) := match K.lookup a with
  | some ⟨.type c, _, .seq its _, _⟩ => (match decide (c = "tuple") && decide (its.size ≤ sizeLine) with
    | true => some its.toList
    | false => none)
  | _ => none
theorem tupV_ok {K : PySem.W.Frag} {a : Addr} {us : List Value} {vs : List V} (h : tupV K a = some us) (r : Vals vs us) (H : Hp) : SqT K H a vs := by
  unfold tupV at h
  cases q : K.lookup a with
  | none => rw [q] at h; cases h
  | some o =>
    obtain ⟨oc, od, dt, osl⟩ := o
    rw [q] at h
    cases oc with
    | type c =>
      cases dt with
      | seq its n =>
        have h1 : (match decide (c = "tuple") && decide (its.size ≤ sizeLine) with
          | true => some its.toList
          | false => none) = some us := h
        cases z : decide (c = "tuple") && decide (its.size ≤ sizeLine) with
        | false => rw [z] at h1; cases h1
        | true =>
          rw [z] at h1
          obtain ⟨z1, z2⟩ := He.ba z
          obtain rfl := Option.some.inj h1
          exact .inr ⟨_, its, n, q, congrArg Value.type (of_decide_eq_true z1), rfl, of_decide_eq_true z2, r⟩
      | _ => cases h
    | _ => cases dt <;> cases h
/-- a row (name, allowed words) -/
def rowB (K : PySem.W.Frag) (r : Str × List Str) (u : Value) : Bool := match u with
  | .ref t => (match tupV K t with
    | some [n, .ref al] => He.relB (.str r.1) n && (match tupV K al with
      | some ws => He.relAll (r.2.map V.str) ws
      | none => false)
    | _ => false)
  | _ => false
def rowsB (K : PySem.W.Frag) : List (Str × List Str) → List Value → Bool
  | [], [] => true
  | r :: rs, u :: us => rowB K r u && rowsB K rs us
  | _, _ => false
def optsB (K : PySem.W.Frag) (a : Addr) (rows : List (Str × List Str)) : Bool := match tupV K a with
  | some us => rowsB K rows us
  | none => false
theorem rowB_ok {K : PySem.W.Frag} {r : Str × List Str} {u : Value} (h : rowB K r u = true) : ∃ t al, u = .ref t ∧ (∀ H, SqT K H t [.str r.1, .ref al]) ∧ ∀ H, SqT K H al (r.2.map V.str) := by
  cases u with
  | ref t =>
    have h1 : (match tupV K t with
      | some [n, .ref al] => He.relB (.str r.1) n && (match tupV K al with
        | some ws => He.relAll (r.2.map V.str) ws
        | none => false)
      | _ => false) = true := h
    cases q : tupV K t with
    | none => rw [q] at h1; cases h1
    | some us =>
      rw [q] at h1
      match us, q, h1 with
      | [n, .ref al], q, h1 =>
        obtain ⟨g1, g2⟩ := He.ba h1
        cases q2 : tupV K al with
        | none => rw [q2] at g2; cases g2
        | some ws =>
          rw [q2] at g2
          exact ⟨t, al, rfl, fun H => tupV_ok q (.cons (He.relB_ok g1) (.cons (show RelV (.ref al) (.ref al) from rfl) .nil)) H, fun H => tupV_ok q2 (He.relAll_ok g2) H⟩
  | _ => cases h
theorem rowsB_ok {K : PySem.W.Frag} : ∀ {rows : List (Str × List Str)} {us : List Value}, rowsB K rows us = true → ∃ ts : List Addr, Vals (ts.map V.ref) us ∧ Paired (fun (r : Str × List Str) (t : Addr) => ∃ al, (∀ H, SqT K H t [.str r.1, .ref al]) ∧ ∀ H, SqT K H al (r.2.map V.str)) rows ts
  | [], [], _ => ⟨[], .nil, .nil⟩
  | [], _ :: _, h => by cases h
  | _ :: _, [], h => by cases h
  | r :: rs, u :: us, h => by
    obtain ⟨h1, h2⟩ := He.ba (show (rowB K r u && rowsB K rs us) = true from h)
    obtain ⟨t, al, rfl, a1, a2⟩ := rowB_ok h1
    obtain ⟨ts, b1, b2⟩ := rowsB_ok h2
    exact ⟨t :: ts, .cons rfl b1, .cons ⟨al, a1, a2⟩ b2⟩
theorem optsB_ok {K : PySem.W.Frag} {a : Addr} {rows : List (Str × List Str)} (h : optsB K a rows = true) : OptsAt K a rows := by
  unfold optsB at h
  cases q : tupV K a with
  | none => rw [q] at h; cases h
  | some us =>
    rw [q] at h
    obtain ⟨ts, b1, b2⟩ := rowsB_ok h
    exact ⟨ts, fun H => tupV_ok q b1 H, b2⟩
/-! ### what is asked -/
def gl1 : List (Str × Nat) := [("is_integer", 13), ("kind", 14), ("fresh", 15), ("same_rows", 16), ("same_tables", 17), ("what_comes_back", 21), ("unsettled", 22), ("key_text", 34), ("is_digit_key", 35), ("check_options", 36), ("_law_source", 42), ("_law_draw", 43), ("_law_pick", 44), ("_law_word", 45), ("_law_text_key", 46), ("_law_focus", 47), ("_law_is_number", 48), ("_law_twins", 49), ("_law_atoms", 50)]
def gl2 : List (Str × Nat) := [("_law_scalar", 51), ("_law_key", 52), ("_law_value", 53), ("_law_table", 54), ("_law_parts", 55), ("_law_passage", 56), ("_law_making", 57), ("_law_changes", 58), ("law", 59)]
def dN (x : Str) (i : Nat) : He.DefD := ⟨(x, none), x, x, defArgs (top i), defBody (top i), defScope (top i), [], []⟩
def dSame : He.DefD := ⟨("same", none), "same", "same", defArgs (top 18), defBody (top 18), defScope (top 18), [], [("ordered", .bl false)]⟩
/-- C.m, the j-th statement of the class at i -/
def dM (C m q : Str) (i j : Nat) : He.DefD := ⟨(C, some m), m, q, defArgs (inClass (top i) j), defBody (inClass (top i) j), defScope (inClass (top i) j), [], []⟩
def dK (C m q : Str) (i j : Nat) (l : List (Str × Str)) : He.DefD := ⟨(C, some m), m, q, defArgs (inClass (top i) j), defBody (inClass (top i) j), defScope (inClass (top i) j), [], l.map fun q => (q.1, .str q.2)⟩
def wK0 : List (Str × Str) := [("number_keys", "text"), ("tuples", "list"), ("nulls", "keep"), ("double_keys", "keep"), ("order", "keep"), ("long_numbers", "keep")]
def rK0 : List (Str × Str) := [("same_keys", "last"), ("digit_keys", "text"), ("lists", "list"), ("null_items", "keep")]
def dTab : He.DefD := ⟨("Table", some "__init__"), "__init__", "Table.__init__", defArgs (inClass (top 19) 0), defBody (inClass (top 19) 0), defScope (inClass (top 19) 0), [.adr (He.dflAt ("Table", some "__init__") 0)], []⟩
def fnM : List He.DefD := [dSame, dTab, dM "Table" "entries" "Table.entries" 19 1, dM "Unwritable" "__init__" "Unwritable.__init__" 9 0, dM "Unreadable" "__init__" "Unreadable.__init__" 10 0, dM "Refused" "__init__" "Refused.__init__" 11 0,
  dK "Writer" "__init__" "Writer.__init__" 37 1 wK0, dK "Reader" "__init__" "Reader.__init__" 38 0 rK0, dK "Passage" "__init__" "Passage.__init__" 40 0 (wK0 ++ rK0),
  dM "Passage" "raw" "Writer.raw" 37 3, dM "Passage" "raw_at" "Writer.raw_at" 37 5, dM "Passage" "raw_pairs" "Writer.raw_pairs" 37 7, dM "Passage" "kept_entries" "Writer.kept_entries" 37 6,
  dM "Passage" "build" "Reader.build" 38 2, dM "Passage" "built_at" "Reader.built_at" 38 4, dM "Passage" "built_table" "Reader.built_table" 38 5, dM "Passage" "built_key" "Reader.built_key" 38 6, dM "Passage" "carry" "Passage.carry" 40 4]
def fn : List He.DefD := fnM ++ ((gl1 ++ gl2).map fun q => dN q.1 q.2)
def free0 : List Str := ["isinstance", "int", "bool", "str", "list", "tuple", "len", "enumerate", "zip", "set", "sorted", "sum", "abs", "range", "max", "min"]
def glo0 : List Str := ["same", "Table", "Reader", "Passage", "Writer", "Unwritable", "Unreadable", "Refused", "WRITER_OPTIONS", "READER_OPTIONS"]
def mts : List Str := ["raw", "raw_at", "raw_pairs", "kept_entries", "build", "built_at", "built_table", "built_key", "carry"]
def fa : List He.Fa := [.int "MOST_DIGITS" 30, .cls "Table", .cls "Passage", .noat "Table" "held", .meth "Table" "entries", .mkr "Table", .mkr "Passage"] ++ (free0.map .free ++ (glo0.map .glo ++ ((gl1 ++ gl2).map (fun q => .glo q.1) ++ (optNames.map (.noat "Passage") ++ mts.map (.meth "Passage")))))
def kePl : He.Defn := ("Passage", some "kept_entries")
def exB (K : PySem.W.Frag) : Bool := tfB K && (xfB K "Unwritable" && (xfB K "Unreadable" && (xfB K "Refused" && (L2.xfB K (He.ga K "Unwritable") && (L2.xfB K (He.ga K "Unreadable") &&
  (rdB K "Writer" && (rdB K "Reader" && (cvB K "Writer" "DIGITS" (.int 15) && (cvB K "Writer" "__init__" (.ref (He.ma K (He.ga K "Writer") "__init__")) && (cvB K "Reader" "__init__" (.ref (He.ma K (He.ga K "Reader") "__init__")) &&
  (optsB K (He.ga K "WRITER_OPTIONS") wRows && optsB K (He.ga K "READER_OPTIONS") rRows)))))))))))
/-- the table of kept_entries' code object -/
def tbB (g : Addr → Option Obj) (K : PySem.W.Frag) : Bool := PySem.W.codeHdIn K (He.cT K kePl).1 (He.cT K kePl).2 && ((K.lookup (He.cT K kePl).2).isNone && (match g (He.cT K kePl).2 with
  | some o => He.emptyTab o
  | none => false))
abbrev AlK : Type := He.AlD × Bool
def obK (g : Addr → Option Obj) : AlK := withK g fun K => (He.obsD fa fn K, exB K && tbB g K)
def vaK : AlK := (He.valD fn, true)
structure SaysK (h : Heap) (K : PySem.W.Frag) : Prop where
  d : He.SaysD fa fn K
  ex : exB K = true
  hd : PySem.W.codeHdIn K (He.cT K kePl).1 (He.cT K kePl).2 = true
  out : K.lookup (He.cT K kePl).2 = none
  empty : h.get? (He.cT K kePl).2 = some { cls := .none, data := .fields #[] }
theorem saysK_of {h : Heap} (e : obK h.get? = vaK) : SaysK h (He.frG h.get? (asL h.get?)) := by
  unfold obK at e
  rw [withK_eq] at e
  have e1 : He.obsD fa fn (He.frG h.get? (asL h.get?)) = He.valD fn := congrArg (fun z : AlK => z.1) e
  have e2 : (exB (He.frG h.get? (asL h.get?)) && tbB h.get? (He.frG h.get? (asL h.get?))) = true := congrArg (fun z : AlK => z.2) e
  obtain ⟨h1, h2⟩ := He.ba e2
  obtain ⟨h3, h4⟩ := He.ba h2
  obtain ⟨h5, h6⟩ := He.ba h4
  refine ⟨e1, h1, h3, Option.isNone_iff_eq_none.mp h5, ?_⟩
  cases q : h.get? (He.cT (He.frG h.get? (asL h.get?)) kePl).2 with
  | none => rw [q] at h6; cases h6
  | some o =>
    rw [q] at h6
    rw [He.emptyTab_eq h6]
def hkK : PySem.W.Hook where
  α := AlK
  obs := fun s => obK s.heap.get?
  val := fun _ => vaK
  says := fun _ h => ∃ K : PySem.W.Frag, K.In h ∧ SaysK h K
  of := fun _ _ e => ⟨_, He.frG_in, saysK_of e⟩
  keeps := fun _ _ _ ⟨K, hK, c⟩ k => ⟨K, PySem.W.Frag.In.keeps hK k, ⟨c.d, c.ex, c.hd, c.out, k _ _ c.empty⟩⟩
def obT (s : PySem.W.SharedT) : AlK := obK (HandSHeadRun.getT s)
theorem obT_eq (s : PySem.W.SharedT) : obT s = hkK.obs s.abs := by
  have e : HandSHeadRun.getT s = s.abs.heap.get? := funext fun a => HandSHeadRun.getT_eq s a
  unfold obT
  rw [e]
  rfl
end K86
/-! K86Head: the run, and the law. -/
namespace K86
open PySem PySem.Spec PyProof.Rows L2
abbrev R : PySem.W.OpenRow := PySem.W.OpenLaw.row PySem.Challenge.rw_keysthroughtext_k86_whole_unsettled
def names1 : List PySem.Str := ["_wall", "KeysError", "BadKey", "DoubleKey", "NoKey", "NotText", "TooDeep", "BadOption", "Unwritable", "Unreadable", "Refused", "is_integer", "kind", "fresh", "same_rows", "same_tables", "same", "Table", "what_comes_back", "unsettled", "DEEPEST", "MOST_DIGITS", "WORDS", "render_string", "render", "Scanner", "parse", "WRITER_OPTIONS", "READER_OPTIONS", "key_text"]
def names2 : List PySem.Str := ["is_digit_key", "check_options", "Writer", "Reader", "Passage", "_law_source", "_law_draw", "_law_pick", "_law_word", "_law_text_key", "_law_focus", "_law_is_number", "_law_twins", "_law_atoms", "_law_scalar", "_law_key", "_law_value", "_law_table", "_law_parts", "_law_passage", "_law_making", "_law_changes"]
def names : List PySem.Str := names1 ++ names2
/-- the run at one answer of the world's row: each a declaration of its own (the kernel's memory) -/
theorem runF (w : World) : HandSHeadRun.RunEq R (PySem.W.view R.prog [59]) hkK obT 9000 names (w.withFollow "special-get-raises" false) := by
  intro os
  kernel_rfl
theorem runT (w : World) : HandSHeadRun.RunEq R (PySem.W.view R.prog [59]) hkK obT 9000 names (w.withFollow "special-get-raises" true) := by
  intro os
  kernel_rfl
theorem run (w : World) : HandSHeadRun.RunEq R (PySem.W.view R.prog [59]) hkK obT 9000 names w :=
  PySem.W.byRow2 "special-get-raises" (P := fun w => HandSHeadRun.RunEq R (PySem.W.view R.prog [59]) hkK obT 9000 names w) (fun w => runF w) (fun w => runT w) w
end K86
/-! K86PassI: Passage.__init__. -/
namespace K86
open PySem PySem.Spec PyProof.Rows L2
section
variable {P : Program} {w : World} {K : PySem.W.Frag} {mg : Str → Option Value} {base : Heap} {CT CP : Addr} {T : Tb}
/-! ### Passage.__init__ -/
/-- __init__ of a class, made by keywords alone -/
structure DmP (K : PySem.W.Frag) (C : Addr) (qual : Str) (st : Stmt) (kws : List (Str × V)) : Prop where
  ex : ∃ f fd, FunD K "__init__" qual (defArgs st) (defBody st) (defScope st) [] kws f fd ∧ Mk K C f
def pKws : List (Str × V) := wKws ++ rKws
abbrev nPI : List Str := ["self", "number_keys", "tuples", "nulls", "double_keys", "order", "long_numbers", "same_keys", "digit_keys", "lists", "null_items"]
def valsP (x : V) (o : Opt) : List V := [x, .str o.nk, .str o.tu, .str o.nu, .str o.dk, .str o.od, .str o.ln, .str o.sk, .str o.dn, .str o.li, .str o.ni]
def spPI (T : Tb) (CP : Addr) : Sp := fun vs H Q _ => ∃ (x dx : Addr) (o : Opt), vs = valsP (.ref x) o ∧ OkO o ∧ H x = some (.ins CP dx []) ∧ ∀ H', Ex T [x] H H' → H' x = some (.ins CP dx (pasF o)) → Q .non H'
theorem sc_PI : FnScope nPI nPI (defScope (inClass (top 40) 0)) := ⟨rfl, rfl, rfl, by decide +kernel, rfl, by decide +kernel, by decide +kernel⟩
abbrev ksAll : List Str := ["number_keys", "tuples", "nulls", "double_keys", "order", "long_numbers", "same_keys", "digit_keys", "lists", "null_items"]
abbrev ksMk : List Str := ["number_keys", "tuples", "digit_keys", "lists", "order", "same_keys"]
def gMk {α : Type} (us mv ws : List α) : List α := match us, mv, ws with
  | [s], [m0, m1, m2, m3], [w0, w1, w2, w3, w4, w5] => [s, w0, w1, m0, m1, w4, m2, w5, w2, w3, m3]
  | _, _, _ => []
def msMk : List (Str × V) := [("nulls", .str "keep"), ("double_keys", .str "keep"), ("long_numbers", .str "keep"), ("null_items", .str "keep")]
/-- Passage(k = .., ..): all ten, or the six that the law's making writes -/
structure HasP (P : Program) (w : World) (K : PySem.W.Frag) (mg : Str → Option Value) (base : Heap) (T : Tb) (CP : Addr) : Prop where
  ex : ∃ f fd mv, Mk K CP f ∧ KBn K fd nPI 1 ksAll (fun us ws => us ++ ws) (fun vs zs => vs ++ zs) ∧ KBn K fd nPI 1 ksMk (fun us ws => gMk us mv ws) (fun vs zs => gMk vs (msMk.map (·.2)) zs) ∧ FnOk P w K mg base CX0 3 f fd nPI (spPI T CP)
theorem gMk_rel {vs mz zs : List V} {us mv ws : List Value} (h1 : Vals vs us) (h2 : Vals mz mv) (h3 : Vals zs ws) : Vals (gMk vs mz zs) (gMk us mv ws) := by
  have e1 := h1.length
  have e2 := h2.length
  have e3 := h3.length
  unfold gMk
  split
  · cases h1 with
    | cons a h1 => cases h1; cases h2 with
      | cons b h2 => cases h2 with
        | cons b2 h2 => cases h2 with
          | cons b3 h2 => cases h2 with
            | cons b4 h2 => cases h2; cases h3 with
              | cons c h3 => cases h3 with
                | cons c2 h3 => cases h3 with
                  | cons c3 h3 => cases h3 with
                    | cons c4 h3 => cases h3 with
                      | cons c5 h3 => cases h3 with
                        | cons c6 h3 => cases h3; exact .cons a (.cons c (.cons c2 (.cons b (.cons b2 (.cons c5 (.cons b3 (.cons c6 (.cons c3 (.cons c4 (.cons b4 .nil))))))))))
  · rename_i hn
    split
    · rename_i s m0 m1 m2 m3 w0 w1 w2 w3 w4 w5
      exfalso
      match vs, mz, zs, e1, e2, e3, hn with
      | [s'], [a, b, c, d], [x0, x1, x2, x3, x4, x5], _, _, _, hn => exact hn _ _ _ _ _ _ _ _ _ _ _ rfl rfl rfl
    · exact .nil
theorem kw_mk (D : Addr) (doc pm : Value) (an : Option Addr) (cdv ct s w0 w1 w2 w3 w4 w5 m0 m1 m2 m3 : Value)  :
    KwChain D [("nulls", m0), ("double_keys", m1), ("long_numbers", m2), ("null_items", m3)] (bindArgs (PySem.W.fnOf "__init__" "Passage.__init__" (defArgs (inClass (top 40) 0)) (defBody (inClass (top 40) 0)) (defScope (inClass (top 40) 0)) .none (.ref D) doc pm an cdv ct) ⟨[s], [("number_keys", w0), ("tuples", w1), ("digit_keys", w2), ("lists", w3), ("order", w4), ("same_keys", w5)]⟩)
      [("self", s), ("number_keys", w0), ("tuples", w1), ("nulls", m0), ("double_keys", m1), ("order", w4), ("long_numbers", m2), ("same_keys", w5), ("digit_keys", w2), ("lists", w3), ("null_items", m3)] := by
  refine ⟨_, _, _, _, _, _, rfl, rfl, ?_⟩
  refine ⟨_, _, _, _, _, _, rfl, rfl, ?_⟩
  refine ⟨_, _, _, _, _, _, rfl, rfl, ?_⟩
  refine ⟨_, _, _, _, _, _, rfl, rfl, ?_⟩
  show _ = _
  kernel_rfl
theorem ok_PI {CW CR0 : Addr} (D : DmP K CP "Passage.__init__" (inClass (top 40) 0) pKws) (F : PF K CP) (hgW : mg "Writer" = some (.ref CW)) (hgR : mg "Reader" = some (.ref CR0)) (hW : HasC P w K mg base 2 CW nWI ["number_keys", "tuples", "nulls", "double_keys", "order", "long_numbers"] (spWI T CP))
    (hR : HasC P w K mg base 2 CR0 nRI ["same_keys", "digit_keys", "lists", "null_items"] (spRI T CP)) : HasP P w K mg base T CP := by
  obtain ⟨f, fd, FD, MK⟩ := D.ex
  obtain ⟨f1, fd1, mc1, CR1, CV1, kp1, kb1, G1⟩ := hW.ex
  obtain ⟨f2, fd2, mc2, CR2, CV2, kp2, kb2, G2⟩ := hR.ex
  obtain ⟨mv0, k1⟩ := FD.kbinds0 (ps := nPI) 1 ksAll [] (fun us _ ws => us ++ ws) (by simp [pKws, wKws]) (fun q hq => nomatch hq) (fun r1 _ r3 => r1.append r3) (fun D doc pm an cdv ct us mv ws h1 h2 h3 => match us, mv, ws, h1, h2, h3 with | [_], [], [_, _, _, _, _, _, _, _, _, _], _, _, _ => by show _ = _; kernel_rfl)
  obtain ⟨mv, k2⟩ := FD.kbinds0 (ps := nPI) 1 ksMk msMk gMk (by simp [pKws, wKws]) (fun q hq => by
      simp only [msMk, List.mem_cons, List.not_mem_nil, or_false] at hq
      rcases hq with e | e | e | e <;> subst e <;> simp [pKws, wKws, rKws]) gMk_rel (fun D doc pm an cdv ct us mv ws h1 h2 h3 => match us, mv, ws, h1, h2, h3 with | [s], [m0, m1, m2, m3], [w0, w1, w2, w3, w4, w5], _, _, _ => kw_mk D doc pm an cdv ct s w0 w1 w2 w3 w4 w5 m0 m1 m2 m3)
  refine ⟨f, fd, mv, MK, k1, k2, FD.ok sc_PI (fun vs H Q E h => ?_) (fun cdv A outer s H vs Q E hr h => ?_)⟩
  · obtain ⟨x, dx, o, rfl, _⟩ := h
    rfl
  obtain ⟨x, dx, o, rfl, ok, hx, q⟩ := h
  have tm : ∃ t, PSs (cxOf CX0 P w K mg base nPI "Passage.__init__" (defScope (inClass (top 40) 0)) f cdv A outer s H E).nox (defBody (inClass (top 40) 0)) t ∧ t { nx := fun _ H' => Q .non H', rt := Q } (start nPI (valsP (.ref x) o)) H := by
    refine ⟨_, pss_cons (ps_expr (pe_clsK (pl := _) (pe_glob (v := .ref CW) rfl hgW rfl) CR1 CV1 G1 hr kp1 kb1 pass0 (pa_cons (pv 0) pa_nil) (pk_cons (pv 1) (pk_cons (pv 2) (pk_cons (pv 3) (pk_cons (pv 4) (pk_cons (pv 5) (pk_cons (pv 6) pk_nil))))))))
      (pss_one (ps_expr (pe_clsK (pl := _) (pe_glob (v := .ref CR0) rfl hgR rfl) CR2 CV2 G2 hr kp2 kb2 pass0 (pa_cons (pv 0) pa_nil) (pk_cons (pv 7) (pk_cons (pv 8) (pk_cons (pv 9) (pk_cons (pv 10) pk_nil))))))), ?_⟩
    refine ⟨rfl, _, rfl, _, rfl, _, rfl, _, rfl, _, rfl, _, rfl, _, rfl, rfl, rfl, x, dx, o, rfl, ok, hx, fun H1 e1 hx1 => ?_⟩
    refine ⟨rfl, _, rfl, _, rfl, _, rfl, _, rfl, _, rfl, rfl, rfl, x, dx, o, rfl, ok, hx1, fun H2 e2 hx2 => ?_⟩
    exact q H2 (e1.trans e2) hx2
  obtain ⟨t, h1, h2⟩ := tm
  exact ⟨t, h1.nox, h2⟩
end
end K86
/-! K86Kept: kept_entries. -/
namespace K86
open PySem PySem.Spec PyProof.Rows L2

/-- an exception out of a locked loop: the dict is unlocked -/
theorem takes_unlock {X : Cx} {W : WX} (tk : L2N.Takes X W) : L2N.Takes X (fun cls dd σ H => W cls dd σ H ∨ ∃ d od u, H d = some (.frz od u) ∧ (∀ o' u', X.H_0 d ≠ some (.frz o' u')) ∧ W cls dd σ (upd H d u)) := by
  rintro u s' ⟨a, B, sI, pins, σ, H, cls, dd, e, I, nb, up, sky, na, os, ag, w | ⟨d, od, z, hd, h0, w⟩⟩
  · exact tk u s' ⟨a, B, sI, pins, σ, H, cls, dd, e, I, nb, up, sky, na, os, ag, w⟩
  · have ne : a ≠ d := fun q => by rw [q, hd] at na; cases na
    exact tk u s' ⟨a, B, sI, pins, σ, upd H d z, cls, dd, e, I.unlock hd h0, nb, up, sky, by rw [upd_ne ne]; exact na, os, ag, w⟩

theorem dec_str {x y : Str} : decide (V.str x = V.str y) = decide (x = y) := by simp
theorem rep_non {CT : Addr} {L : List Addr} {H : Hp} : ∀ {n : Nat} {v : PV} {x : V}, Rep CT L n H v x → decide (x = .non) = isNon v
  | _, .non, _, h => by unfold Rep at h; subst h; rfl
  | _, .bl _, _, h => by unfold Rep at h; subst h; rfl
  | _, .int _, _, h => by unfold Rep at h; subst h; rfl
  | _, .str _, _, h => by unfold Rep at h; subst h; rfl
  | 0, .row _ _, _, h => by unfold Rep at h; exact False.elim h
  | 0, .tab _, _, h => by unfold Rep at h; exact False.elim h
  | n + 1, .row t vs, x, h => by
    unfold Rep at h
    obtain ⟨a, ys, rfl, _⟩ := h
    rfl
  | n + 1, .tab es, x, h => by
    unfold Rep at h
    obtain ⟨a, d, dx, kvs, rfl, _⟩ := h
    rfl
theorem Ex.drop {T : Tb} {H H1 H' : Hp} {l : Addr} (h : H l = none) (a : Ex T [] H H1) (b : Ex T [l] H1 H') : Ex T [] H H' := by
  refine ⟨fun c o _ q n => b.ke c o ?_ (a.ke c o (fun z => nomatch z) q n) n, fun t => b.ta (a.ta t)⟩
  have : c ≠ l := ne_of_none q h
  simpa using this
theorem EntL.put {CT : Addr} {L : List Addr} {n : Nat} {H : Hp} {es : List (Key × PV)} {ts : List Addr} {l : Addr} {xs : List V} {o : HO} (h : EntL CT L n H es ts) (hl : H l = some (.lst xs)) (hL : l ∈ L) : EntL CT L n (upd H l o) es ts :=
  Paired.mono (fun a b ⟨v, e, r⟩ => ⟨v, by rw [upd_ne (ne_of e hl (fun y => nomatch y))]; exact e, rep_kee (Kee.put hL o) r⟩) h
theorem EntL.less {CT : Addr} {L L' : List Addr} {n : Nat} {H : Hp} {es : List (Key × PV)} {ts : List Addr} (h : EntL CT L n H es ts) (hL : ∀ b ∈ L', b ∈ L) : EntL CT L' n H es ts := Paired.mono (fun a b ⟨v, e, r⟩ => ⟨v, e, rep_less hL r⟩) h
/-- all but L stays for tuples -/
theorem EntL.exl {CT : Addr} {T : Tb} {l : Addr} {L : List Addr} {n : Nat} {H H' : Hp} {es : List (Key × PV)} {ts : List Addr} {xs : List V} (h : EntL CT (l :: L) n H es ts) (e : Ex T [l] H H') (hl : H l = some (.lst xs)) : EntL CT (l :: L) n H' es ts :=
  Paired.mono (fun a b ⟨v, q, r⟩ => ⟨v, e.ke _ _ (by simpa using ne_of q hl (fun y => nomatch y)) q (fun _ y => nomatch y), rep_kee (e.kee.wide fun b hb => by rw [List.mem_singleton.mp hb]; exact List.mem_cons_self) r⟩) h
section
variable {o : Opt}
theorem lk_nk : (pasF o).lookup ("number_keys" : Str) = some (V.str o.nk) := rfl
theorem lk_tu : (pasF o).lookup ("tuples" : Str) = some (V.str o.tu) := rfl
theorem lk_nu : (pasF o).lookup ("nulls" : Str) = some (V.str o.nu) := rfl
theorem lk_dk : (pasF o).lookup ("double_keys" : Str) = some (V.str o.dk) := rfl
theorem lk_od : (pasF o).lookup ("order" : Str) = some (V.str o.od) := rfl
theorem lk_ln : (pasF o).lookup ("long_numbers" : Str) = some (V.str o.ln) := rfl
theorem lk_sk : (pasF o).lookup ("same_keys" : Str) = some (V.str o.sk) := rfl
theorem lk_dn : (pasF o).lookup ("digit_keys" : Str) = some (V.str o.dn) := rfl
theorem lk_li : (pasF o).lookup ("lists" : Str) = some (V.str o.li) := rfl
theorem lk_ni : (pasF o).lookup ("null_items" : Str) = some (V.str o.ni) := rfl
end
/-- self.f == "..": the option's test -/
def tOpt (K : PySem.W.Frag) (i : Nat) (f z : Str) : TT := tTest (tOp rEq (tFld K (tVar i) f) (tC (.str z)))
theorem opt_test {K : PySem.W.Frag} {CP : Addr} {o : Opt} {i : Nat} {f z y : Str} {σ : L2.St} {H : Hp} {p : Addr} {k : Bool → Hp → Prop} (F : PF K CP) (hf : f ∈ optNames) (hl : (pasF o).lookup f = some (.str y)) (hs : σ[i]? = some (some (.ref p))) (hp : PasAt CP o H p) (q : k (decide (y = z)) H) : tOpt K i f z σ H k := by
  obtain ⟨dx, hp⟩ := hp
  refine ⟨_, hs, p, CP, dx, _, _, rfl, hp, F.cl, F.na f hf, hl, rfl, _, rfl, ?_⟩
  rw [dec_str]
  exact q
theorem isort_paired {F : Key × PV → Addr → Prop} {key : Addr → Str} : ∀ {es : List (Key × PV)} {ts : List Addr}, Paired F es ts → (∀ e t, F e t → key t = keyText e.1) → Paired F (isort ltE es) (isort (ltA key) ts) := by
  intro es ts p hk
  have ins_p : ∀ {es : List (Key × PV)} {ts : List Addr} {e : Key × PV} {t : Addr}, F e t → Paired F es ts → Paired F (ins ltE e es) (ins (ltA key) t ts) := by
    intro es ts e t q p
    induction p with
    | nil => exact .cons q .nil
    | cons h t' ih =>
      rename_i e1 t1 es' ts'
      have c : ltE e1 e = ltA key t1 t := by
        unfold ltE ltA ltT ltS
        rw [hk _ _ h, hk _ _ q]
      unfold ins
      rw [c]
      split
      · exact .cons h ih
      · exact .cons q (.cons h t')
  induction p with
  | nil => exact .nil
  | cons h t ih => exact ins_p h ih
/-- the key of an entry that stands at t -/
def keyAt (H : Hp) (t : Addr) : Str := match H t with
  | some (.tup (.int i :: _)) => txt i
  | some (.tup (.str x :: _)) => x
  | _ => ""
theorem keyAt_of {H : Hp} {t : Addr} {k : Key} {r : List V} (h : H t = some (.tup (kV k :: r))) : keyAt H t = keyText k := by
  unfold keyAt
  rw [h]
  cases k <;> rfl

section
variable {P : Program} {w : World} {K : PySem.W.Frag} {mg : Str → Option Value} {base : Heap} {CT CP CU : Addr} {T : Tb}
/-- a method whose code object stands at c -/
structure DmL (K : PySem.W.Frag) (C : Addr) (m qual : Str) (st : Stmt) (c : Addr) : Prop where
  ex : ∃ (f : Addr) (oc : Value) (od : Option Addr) (kV doc pm : Value) (an : Option Addr) (ct : Value) (osl : Array (Option Value)),
    K.lookup f = some ⟨oc, od, .func (PySem.W.fnOf m qual (defArgs st) (defBody st) (defScope st) .none kV doc pm an (.ref c) ct), osl⟩ ∧ PySem.W.codeIn K (.ref c) qual = true ∧ Meth K C m f
def lamQ : Str := "Writer.kept_entries" ++ ".<locals>." ++ "<lambda>"
def spKept (T : Tb) (CT CP CU : Addr) (n : Nat) : Sp := fun vs H Q E => ∃ (p : Addr) (o : Opt) (x : V) (es : List (Key × PV)) (pt : Addr) (xs : List V) (L : List Addr), vs = [.ref p, x, .ref pt] ∧ PasAt CP o H p ∧ LT H L ∧ Rep CT L (n + 1) H (.tab es) x ∧ okV (n + 1) (.tab es) ∧ H pt = some (.tup xs) ∧ xs.length ≤ 100 ∧ LamX.Tabs T H ∧
  (∀ es', keptM o es = some es' → ∀ a ts H', Ex T [] H H' → H' a = some (.lst (ts.map V.ref)) → a ∉ L → EntL CT L n H' es' ts → Q (.ref a) H') ∧
  (keptM o es = none → ∀ d y1 y2 H', Ex T [] H H' → H' d = some (.xd (fs2 y1 y2)) → E (.ref CU) (some d) H')
abbrev nKe : List Str := ["self", "table", "path", "kept", "key", "item"]
theorem sc_kept : FnScope nKe ["self", "table", "path"] (defScope (inClass (top 37) 6)) := ⟨rfl, rfl, rfl, by decide +kernel, rfl, by decide +kernel, by decide +kernel⟩
def tKeptRaise (CU : Addr) (K : PySem.W.Frag) (W : WX) : TS := fun _ σ H => tMkO CU (spE2 CU) [] (tCons (tC (.str "key")) (tCons (tOp (rCatA K) (tVar 2) (tTup (tCons (tVar 4) tNil))) tNil)) σ H fun cls d H' => W cls d σ H'
def tKeptBody (K : PySem.W.Frag) (CT CU : Addr) (W : WX) : TS :=
  tSeq (tIfS (tAnd (tTest (tOp (fun x y H Q => y = .non ∧ Q (.bl (decide (x = .non))) H) (tVar 5) (tC .non))) (tOpt K 0 "nulls" "skip")) tCont tNext)
  (tSeq (tIfS (tAnd (tB (tCall (spIsInt CT) [] E0 (tCons (tVar 4) tNil))) (tOpt K 0 "number_keys" "refuse")) (tKeptRaise CU K W) tNext)
  (tIfS (tOr (tB (tCB (rIsi K) (tCons (tVar 4) (tCons (tC (.ty "str")) tNil)))) (tOpt K 0 "number_keys" "text")) (tDrop (tBM K "list" rAppend (tVar 3) (tCons (tTup (tCons (tVar 4) (tCons (tVar 5) tNil))) tNil))) tNext))

theorem kept_loop (F : PF K CP) (FT : TF K CT) {n : Nat} {H1 : Hp} {o : Opt} {p pt l d : Addr} {L : List Addr} {x : V} {xs : List V} {od : Obj} {kvs : List (Key × V)} {es : List (Key × PV)} {W : WX} {D : Ends} (hp : PasAt CP o H1 p) (hd : H1 d = some (.frz od (.dK kvs))) (hl : H1 l = some (.lst []))
    (hpt : H1 pt = some (.tup xs)) (hxs : xs.length ≤ 100) (hle : es.length ≤ 1000) (pa : Paired (fun (e : Key × PV) (kv : Key × V) => e.1 = kv.1 ∧ Rep CT (l :: L) n H1 e.2 kv.2) es kvs)
    (hE : keptL o es = none → ∀ σ d y1 y2 Hf, Ex T [l] H1 Hf → Hf d = some (.xd (fs2 y1 y2)) → W (.ref CU) (some d) σ Hf)
    (hnx : ∀ ks ts v4 v5 Hi, keptL o es = some ks → Ex T [l] H1 Hi → Hi l = some (.lst (ts.map V.ref)) → EntL CT (l :: L) n Hi ks ts → D.nx [some (.ref p), some x, some (.ref pt), some (.ref l), v4, v5] Hi) :
    ForW (Iti d od kvs) (gTup K 2 (gCons (gName 4) (gCons (gName 5) gNil))) (tKeptBody K CT CU W) D [some (.ref p), some x, some (.ref pt), some (.ref l), none, none] H1 := by
  obtain ⟨dxp, hp⟩ := hp
  have npl : p ≠ l := ne_of hp hl (fun y => nomatch y)
  have ndl : d ≠ l := ne_of hd hl (fun y => nomatch y)
  have ntl : pt ≠ l := ne_of hpt hl (fun y => nomatch y)
  have hlen : es.length = kvs.length := pa.length
  refine forw_it walk_items (fun i σ Hi => ∃ v4 v5 ks ts, σ = [some (.ref p), some x, some (.ref pt), some (.ref l), v4, v5] ∧ Hi l = some (.lst (ts.map V.ref)) ∧ ts.length ≤ i ∧ Ex T [l] H1 Hi ∧ EntL CT (l :: L) n Hi ks ts ∧ keptL o es = (keptL o (es.drop i)).map fun r => ks ++ r)
    ⟨none, none, [], [], rfl, hl, Nat.le_refl _, Ex.refl H1, .nil, by rw [List.drop_zero]; cases keptL o es <;> rfl⟩ (fun i σ Hi _ ⟨_, _, _, _, _, _, _, e, _⟩ => e.ke d _ (by simpa using ndl) hd (fun _ y => nomatch y)) ?_ ?_
  · rintro i z σ Hi H2 hi ⟨v4, v5, ks, ts, rfl, hli, htl, e, en, hk⟩ ⟨Tp, z1, z2, rfl, hT, rfl, h1, h2⟩
    have q1 : kvs[i]? = some kvs[i] := List.getElem?_eq_getElem hi
    simp only [q1, Option.map_some] at h1 h2
    obtain rfl := Option.some.inj h1
    obtain rfl := Option.some.inj h2
    obtain ⟨v, hv, rv0, rv⟩ := paired_get pa q1
    have hi2 : i < es.length := by omega
    have ev : es[i] = v := by
      have := List.getElem?_eq_getElem hi2
      rw [hv] at this
      exact (Option.some.inj this).symm
    have hdrop : es.drop i = v :: es.drop (i + 1) := by rw [List.drop_eq_getElem_cons hi2, ev]
    obtain ⟨k, w0⟩ := v
    have hkk : k = kvs[i].1 := rv0
    subst hkk
    have nTl : l ≠ Tp := ne_of_none hli hT
    have e2 : Ex T [l] H1 (upd Hi Tp (.tup [kV kvs[i].1, kvs[i].2])) := e.then_new hT _
    have hl2 : upd Hi Tp (.tup [kV kvs[i].1, kvs[i].2]) l = some (.lst (ts.map V.ref)) := by rw [upd_ne nTl]; exact hli
    have en2 : EntL CT (l :: L) n (upd Hi Tp (.tup [kV kvs[i].1, kvs[i].2])) ks ts := EntL.exl en (Ex.new (T := T) hT _) hli
    have hp2 : PasAt CP o (upd Hi Tp (.tup [kV kvs[i].1, kvs[i].2])) p := ⟨dxp, e2.ke p _ (by simpa using npl) hp (fun _ y => nomatch y)⟩
    have hpt2 : upd Hi Tp (.tup [kV kvs[i].1, kvs[i].2]) pt = some (.tup xs) := e2.ke pt _ (by simpa using ntl) hpt (fun _ y => nomatch y)
    have rv2 : Rep CT (l :: L) n (upd Hi Tp (.tup [kV kvs[i].1, kvs[i].2])) w0 kvs[i].2 := rep_kee (e2.kee.wide fun b hb => by rw [List.mem_singleton.mp hb]; exact List.mem_cons_self) rv
    generalize hH2 : upd Hi Tp (.tup [kV kvs[i].1, kvs[i].2]) = H2 at *
    obtain ⟨j, shk, hj⟩ := key_sh (CT := CT) (H := H2) kvs[i].1
    have hj2 : (j == 2) = isIntK kvs[i].1 := by
      cases hkk : kvs[i].1 with
      | inl a => rw [hkk] at shk; cases shk; rfl
      | inr a => rw [hkk] at shk; cases shk; rfl
    have hj3 : (j == 3) = !isIntK kvs[i].1 := by
      cases hkk : kvs[i].1 with
      | inl a => rw [hkk] at shk; cases shk; rfl
      | inr a => rw [hkk] at shk; cases shk; rfl
    refine ⟨Tp, _, rfl, SqT.of (by rw [← hH2]; exact upd_same), rfl, _, _, rfl, _, _, rfl, rfl, ?_⟩
    -- the three tests
    have T1 : ∀ {kk : Bool → Hp → Prop}, kk (isNon w0 && decide (o.nu = "skip")) H2 → (tAnd (tTest (tOp (fun x y H Q => y = .non ∧ Q (.bl (decide (x = .non))) H) (tVar 5) (tC .non))) (tOpt K 0 "nulls" "skip")) [some (.ref p), some x, some (.ref pt), some (.ref l), some (kV kvs[i].1), some kvs[i].2] H2 kk := by
      intro kk hkk
      refine ⟨_, rfl, rfl, _, rfl, ?_⟩
      rw [rep_non rv2]
      by_cases c : isNon w0 = true
      · rw [c] at hkk ⊢
        exact iteT (opt_test F (by decide +kernel) lk_nu rfl hp2 hkk)
      · have c' : isNon w0 = false := by simpa using c
        rw [c'] at hkk ⊢
        exact iteF hkk
    have T2 : ∀ {kk : Bool → Hp → Prop}, kk (isIntK kvs[i].1 && decide (o.nk = "refuse")) H2 → (tAnd (tB (tCall (spIsInt CT) [] E0 (tCons (tVar 4) tNil))) (tOpt K 0 "number_keys" "refuse")) [some (.ref p), some x, some (.ref pt), some (.ref l), some (kV kvs[i].1), some kvs[i].2] H2 kk := by
      intro kk hkk
      refine ⟨_, rfl, _, j, rfl, shk, _, rfl, ?_⟩
      rw [hj2]
      by_cases c : isIntK kvs[i].1 = true
      · rw [c] at hkk ⊢
        exact iteT (opt_test F (by decide +kernel) lk_nk rfl hp2 hkk)
      · have c' : isIntK kvs[i].1 = false := by simpa using c
        rw [c'] at hkk ⊢
        exact iteF hkk
    have T3 : ∀ {kk : Bool → Hp → Prop}, kk (!isIntK kvs[i].1 || decide (o.nk = "text")) H2 → (tOr (tB (tCB (rIsi K) (tCons (tVar 4) (tCons (tC (.ty "str")) tNil)))) (tOpt K 0 "number_keys" "text")) [some (.ref p), some x, some (.ref pt), some (.ref l), some (kV kvs[i].1), some kvs[i].2] H2 kk := by
      intro kk hkk
      refine ⟨_, rfl, _, _, _, _, _, rfl, .ty "str", shk.ty FT, kit_str FT shk.lt, _, rfl, ?_⟩
      rw [hj3]
      by_cases c : isIntK kvs[i].1 = true
      · rw [c] at hkk ⊢
        exact iteF (opt_test F (by decide +kernel) lk_nk rfl hp2 hkk)
      · have c' : isIntK kvs[i].1 = false := by simpa using c
        rw [c'] at hkk ⊢
        exact iteT hkk
    rw [hdrop, keptL] at hk
    refine T1 ?_
    by_cases c1 : (isNon w0 && decide (o.nu = "skip")) = true
    · rw [if_pos c1] at hk
      show if (isNon w0 && decide (o.nu = "skip")) = true then _ else _
      rw [if_pos c1]
      exact ⟨_, _, ks, ts, rfl, hl2, by omega, e2, en2, hk⟩
    · rw [if_neg c1] at hk
      show if (isNon w0 && decide (o.nu = "skip")) = true then _ else _
      rw [if_neg c1]
      refine T2 ?_
      by_cases c2 : (isIntK kvs[i].1 && decide (o.nk = "refuse")) = true
      · rw [if_pos c2] at hk
        show if (isIntK kvs[i].1 && decide (o.nk = "refuse")) = true then _ else _
        rw [if_pos c2]
        -- raise Unwritable("key", path + (key,))
        have fin : ∀ (pt2 : Addr) (H3 : Hp), Ex T [l] H1 H3 → ∀ a, H3 a = none → spE2 CU [.ref a, .str "key", .ref pt2] (upd H3 a (exo a CU none)) (fun v H2 => v = .non ∧ ∃ (d : Addr) (fs : List (Str × V)), H2 a = some (exo a CU (some d)) ∧ H2 d = some (exd d fs) ∧ H3 d = none ∧ W (.ref CU) (some d) [some (.ref p), some x, some (.ref pt), some (.ref l), some (kV kvs[i].1), some kvs[i].2] (upd (del H2 a) d (.xd fs))) (fun _ _ _ => False) := fun pt2 H3 e3 a ha =>
          mk2 (Q := fun cls d H' => W cls d [some (.ref p), some x, some (.ref pt), some (.ref l), some (kV kvs[i].1), some kvs[i].2] H') ha fun d Hf sf hdf => hE hk _ d _ _ Hf (e3.trans (Ex.same sf)) hdf
        refine ⟨_, rfl, _, rfl, by show 1 ≤ sizeLine; decide, fun kt hkt => ?_⟩
        have e3 : Ex T [l] H1 (upd H2 kt (.tup [kV kvs[i].1])) := e2.then_new hkt _
        refine ⟨pt, kt, xs, [kV kvs[i].1], rfl, rfl, SqT.of (by rw [upd_ne (ne_of_none hpt2 hkt)]; exact hpt2), SqT.of upd_same, by rw [List.length_singleton]; exact Nat.le_of_lt (lt1000 (by omega)), fun _ => ⟨by show 2 ≤ 1000; decide, fun a ha => fin kt _ e3 a ha⟩, fun _ z => absurd z (by simp), fun _ _ p3 hp3 => ⟨by show 2 ≤ 1000; decide, fun a ha => fin p3 _ (e3.then_new hp3 _) a ha⟩⟩
      · rw [if_neg c2] at hk
        show if (isIntK kvs[i].1 && decide (o.nk = "refuse")) = true then _ else _
        rw [if_neg c2]
        refine T3 ?_
        by_cases c3 : (!isIntK kvs[i].1 || decide (o.nk = "text")) = true
        · rw [if_pos c3] at hk
          show if (!isIntK kvs[i].1 || decide (o.nk = "text")) = true then _ else _
          rw [if_pos c3]
          refine ⟨_, rfl, .inl ⟨rfl, _, SqL.of hl2⟩, _, rfl, _, rfl, by show 2 ≤ sizeLine; decide, fun t ht => ?_⟩
          have nlt : l ≠ t := ne_of_none hl2 ht
          have e3 : Ex T [l] H2 (upd H2 t (.tup [kV kvs[i].1, kvs[i].2])) := Ex.new ht _
          have hl3 : upd H2 t (.tup [kV kvs[i].1, kvs[i].2]) l = some (.lst (ts.map V.ref)) := by rw [upd_ne nlt]; exact hl2
          refine ⟨l, _, _, rfl, rfl, hl3, lt1000 (by rw [List.length_map]; omega), ?_⟩
          refine ⟨_, _, ks ++ [(kvs[i].1, w0)], ts ++ [t], rfl, by rw [upd_same, List.map_append]; rfl, by rw [List.length_append]; show ts.length + 1 ≤ i + 1; omega, (e2.trans e3).then_put List.mem_cons_self hl3 ⟨(fun ps y => nomatch y), (fun φ y => nomatch y)⟩, ?_, ?_⟩
          · refine EntL.put (xs := ts.map V.ref) ?_ hl3 List.mem_cons_self
            exact Paired.snoc (EntL.exl en2 e3 hl2) ⟨kvs[i].2, upd_same, rep_kee (Kee.new ht _) rv2⟩
          · rw [hk]
            cases keptL o (es.drop (i + 1)) with
            | none => rfl
            | some r => simp
        · rw [if_neg c3] at hk
          show if (!isIntK kvs[i].1 || decide (o.nk = "text")) = true then _ else _
          rw [if_neg c3]
          exact ⟨_, _, ks, ts, rfl, hl2, by omega, e2, en2, hk⟩
  · rintro σ Hi ⟨v4, v5, ks, ts, rfl, hli, htl, e, en, hk⟩
    rw [List.drop_eq_nil_of_le (by omega)] at hk
    refine hnx ks ts v4 v5 Hi ?_ e hli en
    rw [hk]
    simp [keptL]

abbrev nLa : List Str := ["entry"]
def tLamB (K : PySem.W.Frag) : TE := tCall spKeyText [] E0 (tCons (tOp (rIxT K) (tVar 0) (tC (.int 0))) tNil)
theorem keptL_sub {o : Opt} : ∀ {es ks : List (Key × PV)}, keptL o es = some ks → (∀ e ∈ ks, e ∈ es) ∧ ks.length ≤ es.length
  | [], ks, h => by
    simp [keptL] at h
    subst h
    exact ⟨fun e he => he, Nat.le_refl _⟩
  | (k, v) :: r, ks, h => by
    unfold keptL at h
    have up : keptL o r = some ks → (∀ e ∈ ks, e ∈ (k, v) :: r) ∧ ks.length ≤ ((k, v) :: r).length := fun h => by
      obtain ⟨h1, h2⟩ := keptL_sub h
      exact ⟨fun e he => List.mem_cons_of_mem _ (h1 e he), Nat.le_succ_of_le h2⟩
    split at h
    · exact up h
    · split at h
      · cases h
      · split at h
        · obtain ⟨l, h1, h2⟩ := Option.map_eq_some_iff.mp h
          obtain ⟨h3, h4⟩ := keptL_sub h1
          subst h2
          refine ⟨fun e he => ?_, Nat.succ_le_succ h4⟩
          rcases List.mem_cons.mp he with e' | he
          · rw [e']; exact List.mem_cons_self
          · exact List.mem_cons_of_mem _ (h3 e he)
        · exact up h
theorem LT.elim_new {H H2 : Hp} {L : List Addr} {p : Addr} (l : LT H L) (h : H2 p = none) (e : ∀ b o, H b = some o → (∀ ps, o ≠ .tbl ps) → H2 b = some o) : p ∉ L := fun z => by
  obtain ⟨o, q, n⟩ := l p z
  rw [e _ _ q n] at h
  cases h
theorem ok_kept {c PT : Addr} (D : DmL K CP "kept_entries" "Writer.kept_entries" (inClass (top 37) 6) c) (TB : LamX.TabB base mg c PT) (hT : T = [(PT, lamQ)]) (B : Bl mg) (F : PF K CP) (FT : TF K CT) (FU : XF K mg CU "Unwritable" "Unwritable.__init__" (inClass (top 9) 0)) (hI : Has P w K mg base CX0 1 "is_integer" ["value"] (spIsInt CT))
    (hK : Has P w K mg base CX0 1 "key_text" ["key"] spKeyText) {n : Nat} : HasM P w K mg base (L2N.CX P w) 6 CP "kept_entries" ["self", "table", "path"] (spKept T CT CP CU n) := by
  obtain ⟨f, oc, od0, kv0, doc, pm, an, ct, osl, lk, hcd, hm⟩ := D.ex
  obtain ⟨fi, fdi, hmi, kpi, bi, Gi⟩ := hI.ex
  obtain ⟨fk, fdk, hmk, kpk, bk, Gk⟩ := hK.ex
  obtain ⟨fu, fdu, iu, tu, bu, Gu⟩ := (ok_E9 (P := P) (w := w) (base := base) FU).ex
  refine ⟨f, _, hm, .all fun us hl => match us, hl with | [_, _, _], _ => rfl, fn_of lk hcd sc_kept (fun vs H Q E h => ?_) (fun A outer s H vs Q E hr h => ?_)⟩
  · obtain ⟨p, o, x, es, pt, xs, L, rfl, _⟩ := h
    rfl
  obtain ⟨p, o, x, es, pt, xs, L, rfl, hp, lt, rp, oks, hpt, hxs, hTb, q1, q2⟩ := h
  unfold Rep at rp
  obtain ⟨a, d, dx, kvs, rfl, _, _, ea, r1, la, nd1, pa⟩ := rp
  have hl1 : es.length = kvs.length := pa.length
  have hr1 : Room 1 (A.deeper (envOfC "Writer.kept_entries" (defScope (inClass (top 37) 6)) s.heap.objs.size f (.ref c))) := hr.mono (by omega)
  have hr2 : Room 2 (A.deeper (envOfC "Writer.kept_entries" (defScope (inClass (top 37) 6)) s.heap.objs.size f (.ref c))) := hr.mono (by omega)
  refine ⟨_, pss_cons (ps_set (i := 3) sc_kept.nd rfl (.inl rfl) (pe_lst pa_nil))
    (pss_cons (ps_lockO (ps_for (L2.passes_of rfl) rfl (pi_items (pe_fld (pv 1) rfl)) (pg_tup rfl (pgs_cons (pg_name (i := 4) sc_kept.nd rfl (.inl rfl)) (pgs_cons (pg_name (i := 5) sc_kept.nd rfl (.inl rfl)) pgs_nil)))
      (pss_cons (ps_if (PW.pt (pw_and (pt_cmpR op_isN (pv 5) pe_non (nomark _)) (pw_and1 (pt_cmpR op_eq (pe_fld (pv 0) rfl) pe_str (nomark _))))) (pss_one ps_continue) pss_nil)
      (pss_cons (ps_if (PW.pt (pw_and (pt_val (pe_call Gi hr1 rfl hmi kpi bi .nil pass0 (pa_cons (pv 4) pa_nil))) (pw_and1 (pt_cmpR op_eq (pe_fld (pv 0) rfl) pe_str (nomark _))))) (pss_one (L2N.ps_raise rfl (takes_unlock (L2N.takes_of rfl rfl rfl rfl)) (pmkN_oex FU.ox iu tu Gu hr2 bu pass0 rfl FU.gl (pa_cons pe_str (pa_cons (pe_op op_catA (pv 2) (pe_tup (pa_cons (pv 4) pa_nil))) pa_nil))))) pss_nil)
      (pss_one (ps_if (PW.pt (pw_or (pt_val (pe_callB call_isi rfl B.isinstance (by decide +kernel) (pa_cons (pv 4) (pa_cons (pe_bltn (v := .ty "str") rfl B.str (by decide +kernel) rfl) pa_nil)))) (pw_or1 (pt_cmpR op_eq (pe_fld (pv 0) rfl) pe_str (nomark _))))) (pss_one (ps_expr (pe_bm PySem.F.plainAttrs_list PySem.F.slot_list_append PySem.F.type_list_append mt_append (pv 3) (pa_cons (pe_tup (pa_cons (pv 4) (pa_cons (pv 5) pa_nil))) pa_nil)))) pss_nil))))))
    (pss_cons (ps_if (pt_cmpR op_eq (pe_fld (pv 0) rfl) pe_str (nomark _)) (pss_one (ps_ret (pe_sortedLam (T := T) (k := 1) (N := nLa) (a := "entry") (tb := tLamB K) (pv 3) rfl B.sorted TB rfl (by rw [hT]; exact List.mem_singleton.mpr rfl) (by rw [hT]; intro q hq _; rw [List.mem_singleton.mp hq]; rfl) hr
        ⟨rfl, rfl, rfl, by decide +kernel, rfl, by decide +kernel, by decide +kernel⟩ rfl (fun _ _ _ _ _ => rfl) (fun A2 outer2 s2 H2 f2 c2 hrr => pe_call Gk hrr rfl hmk kpk bk .nil pass0 (pa_cons (pe_ix ix_tup (pv 0) pe_int (fun _ _ => rfl)) pa_nil))))) pss_nil)
    (pss_one (ps_ret (pv 3))))), ?_⟩
  refine ⟨by show 0 ≤ sizeLine; decide, fun l hl => ?_⟩
  have e0 : Ex T [] H (upd H l (.lst [])) := Ex.new hl _
  have kl : Kee (l :: L) H (upd H l (.lst [])) := e0.kee.of_nil
  have nlL : l ∉ L := lt.notin hl
  have npt : pt ≠ l := ne_of_none hpt hl
  have ndl : ∀ {o}, H d = some o → d ≠ l := fun z => ne_of_none z hl
  have hle : es.length ≤ 1000 := by omega
  have pa1 : Paired (fun (e : Key × PV) (kv : Key × V) => e.1 = kv.1 ∧ Rep CT (l :: L) n H e.2 kv.2) es kvs := pa.mono fun e kv z => ⟨z.1, rep_add (fun b hb => (List.mem_cons.mp hb).elim (fun z => .inr (by rw [z]; exact hl)) .inl) z.2⟩
  have hs0 : SqL K (upd H l (.lst [])) l [] := SqL.of upd_same
  -- what follows the loop
  have rest : ∀ ks ts v4 v5 Hi, keptL o es = some ks → Ex T [] H Hi → Hi l = some (.lst (ts.map V.ref)) → EntL CT L n Hi ks ts →
      (tSeq (tIfS (tOpt K 0 "order" "rising") (tRet (tSortL K T nLa (tVar 3) (tLamB K))) tNext) (tRet (tVar 3))) { nx := fun _ H' => Q .non H', rt := Q } [some (.ref p), some (.ref a), some (.ref pt), some (.ref l), v4, v5] Hi := by
    intro ks ts v4 v5 Hi hk e hli en
    obtain ⟨hsub, hkl⟩ := keptL_sub hk
    have htl : ts.length ≤ 1000 := by rw [← en.length]; omega
    refine opt_test F (by decide +kernel) lk_od rfl (hp.ex e) ?_
    by_cases c1 : o.od = "rising"
    · rw [decide_eq_true c1]
      have hkM : keptM o es = some (isort ltE ks) := by unfold keptM; rw [hk, Option.map_some, if_pos c1]
      refine iteT ⟨_, rfl, l, ts, keyAt Hi, rfl, e.ta hTb, SqL.of hli, htl, fun H2 eN T2 => ⟨fun t ht H3 s3 => ?_, fun pp H3 s3 hpn hp3 => ?_⟩⟩
      · obtain ⟨j, hj⟩ := List.mem_iff_getElem?.mp ht
        obtain ⟨ev, hev, v, htv, rv⟩ := paired_get en hj
        have h3 : H3 t = some (.tup [kV ev.1, v]) := s3 _ _ (eN _ _ htv fun _ y => nomatch y)
        refine ⟨_, rfl, t, _, 0, _, rfl, rfl, SqT.of h3, atI_nat (j := 0) rfl, ev.1, rfl, (oks.2.2 ev (hsub ev (List.mem_of_getElem? hev))).1, ?_, rfl⟩
        rw [keyAt_of htv]
      · have e3 : Ex T [] Hi H3 := ⟨fun b o' _ z nn => s3 _ _ (eN _ _ z nn), fun _ => T2.ext s3⟩
        refine q1 _ hkM pp (isort (ltA (keyAt Hi)) ts) H3 (e.trans e3) hp3 ((lt.ex (e.trans (Ex.same (T := T) (fun b o' z => z)))).elim_new hpn (fun b o' z nn => eN b o' z nn)) ?_
        have en3 : Paired (fun (e : Key × PV) (t : Addr) => (∃ v, H3 t = some (.tup [kV e.1, v]) ∧ Rep CT L n H3 e.2 v) ∧ keyAt Hi t = keyText e.1) ks ts :=
          Paired.mono (fun e' t ⟨v, z, r⟩ => ⟨⟨v, e3.tup z, rep_kee e3.kee.of_nil r⟩, keyAt_of z⟩) en
        exact Paired.mono (fun _ _ z => z.1) (isort_paired en3 fun _ _ z => z.2)
    · rw [decide_eq_false c1]
      have hkM : keptM o es = some ks := by unfold keptM; rw [hk, Option.map_some, if_neg c1]
      exact iteF ⟨_, rfl, q1 _ hkM l ts Hi e hli nlL en⟩
  have none_ : keptL o es = none → keptM o es = none := fun z => by unfold keptM; rw [z]; rfl
  rcases r1 with r1 | ⟨od, r1⟩
  · have hd0 : upd H l (.lst []) d = some (.dK kvs) := by rw [upd_ne (ndl r1)]; exact r1
    refine .inl ⟨d, _, hd0, True.intro, fun od => ?_⟩
    have k2 : Kee (l :: L) (upd H l (.lst [])) (upd (upd H l (.lst [])) d (.frz od (.dK kvs))) := Kee.lock hd0
    have ea2 : upd (upd H l (.lst [])) d (.frz od (.dK kvs)) a = some (.ins CT dx [("held", .ref d)]) := by
      rw [upd_ne (ne_of ea r1 (fun y => nomatch y)), upd_ne (ne_of_none ea hl)]
      exact ea
    have hl2 : upd (upd H l (.lst [])) d (.frz od (.dK kvs)) l = some (.lst []) := by rw [upd_ne (Ne.symm (ndl r1)), upd_same]
    refine ⟨_, rfl, a, CT, dx, _, _, rfl, ea2, FT.cl, FT.held, rfl, d, od, kvs, rfl, upd_same, ?_⟩
    refine kept_loop (T := T) (CU := CU) (n := n) (o := o) (es := es) F FT ?_ upd_same hl2 ?_ hxs hle ((pairs_kee pa1 (kl.trans k2))) (fun hk σ dd y1 y2 Hf ef hdd => ?_) (fun ks ts v4 v5 Hi hk ei hli en => ?_)
    · obtain ⟨dxp, hp⟩ := hp
      exact ⟨dxp, by rw [upd_ne (ne_of hp r1 (fun y => nomatch y)), upd_ne (ne_of_none hp hl)]; exact hp⟩
    · rw [upd_ne (ne_of hpt r1 (fun y => nomatch y)), upd_ne npt]
      exact hpt
    · have hfr : Hf d = some (.frz od (.dK kvs)) := ef.ke d _ (by simpa using ndl r1) upd_same (fun _ y => nomatch y)
      have el : Ex T [l] (upd H l (.lst [])) (upd Hf d (.dK kvs)) := Ex.locked hd0 ef hfr
      refine .inr ⟨d, od, _, hfr, fun o' u' z => ?_, q2 (none_ hk) dd y1 y2 _ (Ex.drop hl e0 el) ?_⟩
      · have z' : H d = some (.frz o' u') := z
        rw [r1] at z'
        cases z'
      · rw [upd_ne (ne_of hdd hfr (fun y => nomatch y))]
        exact hdd
    · have hfr : Hi d = some (.frz od (.dK kvs)) := ei.ke d _ (by simpa using ndl r1) upd_same (fun _ y => nomatch y)
      have el : Ex T [l] (upd H l (.lst [])) (upd Hi d (.dK kvs)) := Ex.locked hd0 ei hfr
      exact ⟨hfr, rest ks ts v4 v5 _ hk (Ex.drop hl e0 el) (by rw [upd_ne (Ne.symm (ndl r1))]; exact hli) (EntL.kee (EntL.less en (fun b hb => List.mem_cons_of_mem _ hb)) (Kee.unlock hfr))⟩
  · have hd0 : upd H l (.lst []) d = some (.frz od (.dK kvs)) := by rw [upd_ne (ndl r1)]; exact r1
    refine .inr ⟨_, rfl, a, CT, dx, _, _, rfl, e0.ins ea, FT.cl, FT.held, rfl, d, od, kvs, rfl, hd0, ?_⟩
    refine kept_loop (T := T) (CU := CU) (n := n) (o := o) (es := es) F FT (hp.ex e0) hd0 upd_same (e0.tup hpt) hxs hle (pairs_kee pa1 kl) (fun hk σ dd y1 y2 Hf ef hdd => ?_) (fun ks ts v4 v5 Hi hk ei hli en => ?_)
    · exact .inl (q2 (none_ hk) dd y1 y2 _ (Ex.drop hl e0 ef) hdd)
    · exact rest ks ts v4 v5 _ hk (Ex.drop hl e0 ei) hli (EntL.less en (fun b hb => List.mem_cons_of_mem _ hb))
end
end K86
/-! K86Raw: raw_pairs, raw_at, raw. -/
namespace K86
open PySem PySem.Spec PyProof.Rows L2

/-! ### sets of names -/
theorem setK_code {P : Program} {w : World} {a : Addr} {S : Key → Bool} {n : Nat} {q : Str} : SetK P w a S n ≠ LamX.CodeO a q := by
  intro z
  have e := HO.ext.inj z
  let o : Obj := { cls := .none, data := .fields #[.none, .str q 0] }
  let h : Heap := { objs := Array.replicate (a + 1) o }
  have hg : h.get? a = some o := by
    unfold Heap.get?
    have : h.objs[a]? = some o := by simp [h]
    rw [this]
  have c : ∃ (oc : Obj) (vs : Array Value) (t : Tok), h.get? a = some oc ∧ oc.data = .fields vs ∧ vs[1]? = some (.str q t) := ⟨o, _, 0, hg, rfl, rfl⟩
  have e2 := congrFun e h
  have s : h.SetOf (mixKind P w) a S n := by
    rw [e2]
    exact c
  obtain ⟨o', es, ep, t, h1, _, h2, _⟩ := s
  rw [hg] at h1
  cases h1
  cases h2
theorem setK_tbl {P : Program} {w : World} {a : Addr} {S : Key → Bool} {n : Nat} : ∀ ps, SetK P w a S n ≠ .tbl ps := fun ps z => by
  unfold SetK at z
  cases z
theorem tabs_set {T : Tb} {P : Program} {w : World} {H : Hp} {p : Addr} {S S' : Key → Bool} {n n' : Nat} (t : LamX.Tabs T H) (h : H p = some (SetK P w p S n)) : LamX.Tabs T (upd H p (SetK P w p S' n')) := by
  intro q hq
  obtain ⟨ps, h1, h2, h3⟩ := t q hq
  have z1 : q.1 ≠ p := ne_of h1 h (fun z => setK_tbl _ z.symm)
  refine ⟨ps, by rw [upd_ne z1]; exact h1, h2, fun pos cv hc => ?_⟩
  obtain ⟨c, e1, e2⟩ := h3 pos cv hc
  have z2 : c ≠ p := fun z => by
    rw [z, h] at e2
    exact setK_code (Option.some.inj e2)
  exact ⟨c, e1, by rw [upd_ne z2]; exact e2⟩
theorem Ex.set {T : Tb} {L : List Addr} {P : Program} {w : World} {H H1 : Hp} {p : Addr} {S S' : Key → Bool} {n n' : Nat} (e : Ex T L H H1) (h0 : H p = none) (h : H1 p = some (SetK P w p S n)) : Ex T L H (upd H1 p (SetK P w p S' n')) :=
  ⟨fun b x hb q nn => by
    rw [upd_ne (ne_of_none q h0)]
    exact e.ke b x hb q nn, fun t => tabs_set (e.ta t) h⟩
theorem Kee.set {L : List Addr} {P : Program} {w : World} {H : Hp} {p : Addr} {S : Key → Bool} {n : Nat} (h : H p = some (SetK P w p S n)) (o : HO) : Kee L H (upd H p o) := by
  have ne : ∀ {a u}, H a = some u → (∀ φ, u ≠ .ext φ) → a ≠ p := fun q n z => by rw [z, h] at q; exact n _ (Option.some.inj q).symm
  refine ⟨fun a xs ha e => ?_, fun a xs ha e => ?_, fun a C dx fs ha e => ?_, fun a ks ha e => ?_⟩
  · rw [upd_ne (ne e (fun φ y => nomatch y))]; exact e
  · rw [upd_ne (ne e (fun φ y => nomatch y))]; exact e
  · rw [upd_ne (ne e (fun φ y => nomatch y))]; exact e
  · rcases e with e | ⟨o, e⟩
    · exact .inl (by rw [upd_ne (ne e (fun φ y => nomatch y))]; exact e)
    · exact .inr ⟨o, by rw [upd_ne (ne e (fun φ y => nomatch y))]; exact e⟩
/-- pairs as the raw pairs' list holds them -/
def PairL (L : List Addr) (n : Nat) (H : Hp) (rs : List (Str × RV)) (ys : List V) : Prop := Paired (fun (p : Str × RV) (y : V) => ∃ t v, y = .ref t ∧ t ∉ L ∧ H t = some (.tup [.str p.1, v]) ∧ RepR L n H p.2 v) rs ys
theorem PairL.kee {L : List Addr} {n : Nat} {H H' : Hp} {rs : List (Str × RV)} {ys : List V} (h : PairL L n H rs ys) (k : Kee L H H') : PairL L n H' rs ys := Paired.mono (fun a b ⟨t, v, e, tL, e3, q⟩ => ⟨t, v, e, tL, k.tup _ _ tL e3, repR_kee k q⟩) h
theorem PairL.less {L L' : List Addr} {n : Nat} {H : Hp} {rs : List (Str × RV)} {ys : List V} (h : PairL L n H rs ys) (hL : ∀ b ∈ L', b ∈ L) : PairL L' n H rs ys := Paired.mono (fun a b ⟨t, v, e, tL, e3, q⟩ => ⟨t, v, e, fun z => tL (hL _ z), e3, repR_less hL q⟩) h
theorem pairsM_len {f : PV → Option RV} {o : Opt} : ∀ {l : List (Key × PV)} {seen : List Str} {rs : List (Str × RV)}, pairsM f o l seen = some rs → rs.length = l.length
  | [], _, rs, h => by
    simp [pairsM] at h
    subst h
    rfl
  | (k, v) :: r, seen, rs, h => by
    unfold pairsM at h
    split at h
    · cases h
    · split at h
      · cases h
      · obtain ⟨l, h1, h2⟩ := Option.map_eq_some_iff.mp h
        subst h2
        rw [List.length_cons, List.length_cons, pairsM_len h1]
section
variable {P : Program} {w : World} {K : PySem.W.Frag} {mg : Str → Option Value} {base : Heap} {CT CP CU : Addr} {T : Tb}
/-! ### promises -/
def spRawAt (T : Tb) (CT CP CU : Addr) (n : Nat) : Sp := fun vs H Q E => ∃ (p : Addr) (o : Opt) (x : V) (v : PV) (pt : Addr) (xs : List V) (L : List Addr), vs = [.ref p, x, .ref pt] ∧ PasAt CP o H p ∧ LT H L ∧ Rep CT L n H v x ∧ okV n v ∧ H pt = some (.tup xs) ∧ xs.length + n ≤ 100 ∧ LamX.Tabs T H ∧
  (∀ r, rawM o n v = some r → ∀ y H', Ex T [] H H' → RepR L n H' r y → Q y H') ∧
  (rawM o n v = none → ∀ d y1 y2 H', Ex T [] H H' → H' d = some (.xd (fs2 y1 y2)) → E (.ref CU) (some d) H')
def spPairs (T : Tb) (CT CP CU : Addr) (n : Nat) : Sp := fun vs H Q E => ∃ (p : Addr) (o : Opt) (x : V) (es : List (Key × PV)) (pt : Addr) (xs : List V) (L : List Addr), vs = [.ref p, x, .ref pt] ∧ PasAt CP o H p ∧ LT H L ∧ Rep CT L (n + 1) H (.tab es) x ∧ okV (n + 1) (.tab es) ∧ H pt = some (.tup xs) ∧ xs.length + (n + 1) ≤ 100 ∧ LamX.Tabs T H ∧
  (∀ rs, ((keptM o es).bind fun l => pairsM (rawM o n) o l []) = some rs → ∀ a ys H', Ex T [] H H' → a ∉ L → H' a = some (.lst ys) → ys.length ≤ 1000 → PairL L n H' rs ys → Q (.ref a) H') ∧
  (((keptM o es).bind fun l => pairsM (rawM o n) o l []) = none → ∀ d y1 y2 H', Ex T [] H H' → H' d = some (.xd (fs2 y1 y2)) → E (.ref CU) (some d) H')
abbrev nRP : List Str := ["self", "table", "path", "pairs", "seen", "key", "item", "name"]
theorem sc_pairs : FnScope nRP ["self", "table", "path"] (defScope (inClass (top 37) 7)) := ⟨rfl, rfl, rfl, by decide +kernel, rfl, by decide +kernel, by decide +kernel⟩
def tPairsBody (P : Program) (w : World) (K : PySem.W.Frag) (T : Tb) (CT CP CU : Addr) (n : Nat) (E : XK) : TS :=
  tSeq (tAsg (tCall spKeyText [] E0 (tCons (tVar 5) tNil)) (gName 7))
  (tSeq (tIfS (tAnd (tTest (tOp (rSInK P w false) (tVar 7) (tVar 4))) (tOpt K 0 "double_keys" "refuse")) (fun _ σ H => tMkO CU (spE2 CU) [] (tCons (tC (.str "double")) (tCons (tOp (rCatA K) (tVar 2) (tTup (tCons (tVar 5) tNil))) tNil)) σ H fun cls d H' => E cls d H') tNext)
  (tSeq (tDrop (tSAddK P w (tVar 4) (tCons (tVar 7) tNil)))
  (tDrop (tBM K "list" rAppend (tVar 3) (tCons (tTup (tCons (tVar 7) (tCons (tMeth CP "raw_at" (spRawAt T CT CP CU n) [] E (tVar 0) (tCons (tVar 6) (tCons (tOp (rCatA K) (tVar 2) (tTup (tCons (tVar 5) tNil))) tNil))) tNil))) tNil)))))

theorem Ex.dropL {T : Tb} {L : List Addr} {H H1 H' : Hp} (h : ∀ b ∈ L, H b = none) (a : Ex T [] H H1) (b : Ex T L H1 H') : Ex T [] H H' := by
  refine ⟨fun c o _ q n => b.ke c o (fun z => ?_) (a.ke c o (fun z => nomatch z) q n) n, fun t => b.ta (a.ta t)⟩
  rw [h c z] at q
  cases q
theorem Ex.put_set {T : Tb} {L : List Addr} {P : Program} {w : World} {H H1 : Hp} {p : Addr} {S S' : Key → Bool} {n n' : Nat} (e : Ex T L H H1) (hp : p ∈ L) (h : H1 p = some (SetK P w p S n)) : Ex T L H (upd H1 p (SetK P w p S' n')) :=
  ⟨fun b x hb q nn => by
    have z : b ≠ p := fun z => hb (by rw [z]; exact hp)
    rw [upd_ne z]
    exact e.ke b x hb q nn, fun t => tabs_set (e.ta t) h⟩
theorem pairs_loop (F : PF K CP) {n : Nat} {H1 : Hp} {o : Opt} {p pt lp ls a0 : Addr} {L : List Addr} {x : V} {xs : List V} {es : List (Key × PV)} {ts : List Addr} {E : XK} {D : Ends} (hp : PasAt CP o H1 p) (hlp : H1 lp = some (.lst [])) (hls : H1 ls = some (SetK P w ls (fun _ => false) 0))
    (hpt : H1 pt = some (.tup xs)) (hxs : xs.length + (n + 1) ≤ 100) (ha0 : H1 a0 = some (.lst (ts.map V.ref))) (n0 : a0 ≠ lp) (hle : ts.length ≤ 500) (lt : LT H1 (lp :: ls :: L)) (hT : LamX.Tabs T H1) (en : EntL CT (lp :: ls :: L) n H1 es ts) (oes : ∀ e ∈ es, okK e.1 ∧ okV n e.2)
    (hE : pairsM (rawM o n) o es [] = none → ∀ d y1 y2 Hf, Ex T [lp, ls] H1 Hf → Hf d = some (.xd (fs2 y1 y2)) → E (.ref CU) (some d) Hf)
    (hnx : ∀ rs ys σ Hi, pairsM (rawM o n) o es [] = some rs → Ex T [lp, ls] H1 Hi → Hi lp = some (.lst ys) → ys.length = ts.length → PairL (lp :: ls :: L) n Hi rs ys → σ[3]? = some (some (.ref lp)) → D.nx σ Hi) :
    ForW (Itl K a0) (gTup K 2 (gCons (gName 5) (gCons (gName 6) gNil))) (tPairsBody P w K T CT CP CU n E) D [some (.ref p), some x, some (.ref pt), some (.ref lp), some (.ref ls), none, none, none] H1 := by
  obtain ⟨dxp, hp⟩ := hp
  have nin : ∀ {b : Addr} {u : HO}, H1 b = some u → (∀ ys, u ≠ .lst ys) → (∀ φ, u ≠ .ext φ) → b ∉ [lp, ls] := fun hb h1 h2 z => by
    rcases List.mem_cons.mp z with z | z
    · rw [z, hlp] at hb; exact h1 _ (Option.some.inj hb).symm
    · rw [List.mem_singleton.mp z, hls] at hb; exact h2 _ (Option.some.inj hb).symm
  have na0 : a0 ∉ [lp, ls] := fun z => by
    rcases List.mem_cons.mp z with z | z
    · exact n0 z
    · rw [List.mem_singleton.mp z, hls] at ha0; cases ha0
  have nsl : ls ≠ lp := fun z => by rw [z, hlp] at hls; cases hls
  have hlen : es.length = ts.length := en.length
  have sub2 : ∀ b ∈ [lp, ls], b ∈ lp :: ls :: L := fun b hb => by
    rcases List.mem_cons.mp hb with z | z
    · rw [z]; exact List.mem_cons_self
    · rw [List.mem_singleton.mp z]; exact List.mem_cons_of_mem _ List.mem_cons_self
  have map0 : ∀ {z : Option (List (Str × RV))}, z = z.map (fun r => ([] : List (Str × RV)) ++ r) := fun {z} => by cases z <;> rfl
  refine forw_it (walk_list (K := K) (a := a0)) (fun i σ Hi => ∃ v5 v6 v7 rs ys S nn sl, σ = [some (.ref p), some x, some (.ref pt), some (.ref lp), some (.ref ls), v5, v6, v7] ∧ Hi lp = some (.lst ys) ∧ Hi ls = some (SetK P w ls S nn) ∧ nn ≤ i ∧ (∀ z, S (.inr z) = decide (z ∈ sl)) ∧ ys.length = i ∧ Ex T [lp, ls] H1 Hi ∧ PairL (lp :: ls :: L) n Hi rs ys ∧
    pairsM (rawM o n) o es [] = (pairsM (rawM o n) o (es.drop i) sl).map fun r => rs ++ r)
    ⟨none, none, none, [], [], _, 0, [], rfl, hlp, hls, Nat.le_refl _, fun z => by simp, rfl, Ex.refl H1, .nil, by rw [List.drop_zero]; exact map0⟩ (fun i σ Hi _ ⟨_, _, _, _, _, _, _, _, _, _, _, _, _, _, e, _⟩ => SqL.of (e.ke a0 _ na0 ha0 (fun _ y => nomatch y))) ?_ ?_
  · rintro i z σ Hi0 Hi hi ⟨v5, v6, v7, rs, ys, S, nn, sl, rfl, hli, hsi, hnn, hS, hyl, e, pl, hk⟩ ⟨rfl, hz⟩
    rw [List.getElem?_map] at hz
    obtain ⟨t, ht, rfl⟩ := Option.map_eq_some_iff.mp hz
    obtain ⟨ev, hev, y0, ht1, rv⟩ := paired_get en ht
    have hi2 : i < es.length := (List.getElem?_eq_some_iff.mp hev).1
    have eev : es[i] = ev := by
      have := List.getElem?_eq_getElem hi2
      rw [hev] at this
      exact (Option.some.inj this).symm
    have hdrop : es.drop i = ev :: es.drop (i + 1) := by rw [List.drop_eq_getElem_cons hi2, eev]
    obtain ⟨k, w0⟩ := ev
    have hok := oes _ (List.mem_of_getElem? hev)
    have ht2 : Hi t = some (.tup [kV k, y0]) := e.ke t _ (nin ht1 (fun _ y => nomatch y) (fun _ y => nomatch y)) ht1 (fun _ y => nomatch y)
    have hp2 : Hi p = some (.ins CP dxp (pasF o)) := e.ke p _ (nin hp (fun _ y => nomatch y) (fun _ y => nomatch y)) hp (fun _ y => nomatch y)
    have hpt2 : Hi pt = some (.tup xs) := e.ke pt _ (nin hpt (fun _ y => nomatch y) (fun _ y => nomatch y)) hpt (fun _ y => nomatch y)
    have rv2 : Rep CT (lp :: ls :: L) n Hi w0 y0 := rep_kee (e.kee.wide sub2) rv
    have lt2 : LT Hi (lp :: ls :: L) := fun b hb => by
      by_cases z1 : b = lp
      · exact ⟨.lst ys, by rw [z1]; exact hli, fun _ y => nomatch y⟩
      · by_cases z2 : b = ls
        · exact ⟨_, by rw [z2]; exact hsi, setK_tbl⟩
        · obtain ⟨u, q, nu⟩ := lt b hb
          exact ⟨u, e.ke b u (by simp [z1, z2]) q nu, nu⟩
    rw [hdrop, pairsM] at hk
    refine ⟨t, _, rfl, SqT.of ht2, rfl, _, _, rfl, _, _, rfl, rfl, ?_⟩
    refine ⟨_, rfl, k, rfl, hok.1, ?_⟩
    -- path + (key,)
    have path : ∀ {σ : L2.St} {H3 : Hp} {QQ : V → Hp → Prop}, σ[2]? = some (some (.ref pt)) → σ[5]? = some (some (kV k)) → H3 pt = some (.tup xs) → (∀ q ql H4, Ex T [] H3 H4 → H4 q = some (.tup ql) → ql.length ≤ xs.length + 1 → QQ (.ref q) H4) →
        tOp (rCatA K) (tVar 2) (tTup (tCons (tVar 5) tNil)) σ H3 QQ := by
      intro σ H3 QQ h2 h5 h3 hq
      refine ⟨_, h2, _, h5, by show 1 ≤ sizeLine; decide, fun kt hkt => ?_⟩
      have e3 : Ex T [] H3 (upd H3 kt (.tup [kV k])) := Ex.new hkt _
      exact ⟨pt, kt, xs, [kV k], rfl, rfl, SqT.of (e3.tup h3), SqT.of upd_same, by rw [List.length_singleton]; exact Nat.le_of_lt (lt1000 (by omega)), fun _ => hq kt _ _ e3 upd_same (by simp), fun _ z => absurd z (by simp), fun _ _ p3 hp3 => hq p3 _ _ (e3.then_new hp3 _) upd_same (by simp)⟩
    refine ⟨_, rfl, _, rfl, .inr (keyText k), ls, S, nn, rfl, rfl, hsi, _, rfl, ?_⟩
    have T1 : ∀ {kk : Bool → Hp → Prop}, kk (decide (keyText k ∈ sl) && decide (o.dk = "refuse")) Hi → (if S (.inr (keyText k)) = true then tOpt K 0 "double_keys" "refuse" [some (.ref p), some x, some (.ref pt), some (.ref lp), some (.ref ls), some (kV k), some y0, some (.str (keyText k))] Hi kk else kk false Hi) := by
      intro kk hkk
      rw [hS]
      by_cases c : keyText k ∈ sl
      · rw [decide_eq_true c] at hkk ⊢
        exact iteT (opt_test F (by decide +kernel) lk_dk rfl ⟨dxp, hp2⟩ hkk)
      · rw [decide_eq_false c] at hkk ⊢
        exact iteF hkk
    refine T1 ?_
    by_cases c1 : (decide (keyText k ∈ sl) && decide (o.dk = "refuse")) = true
    · rw [if_pos c1] at hk
      show if (decide (keyText k ∈ sl) && decide (o.dk = "refuse")) = true then _ else _
      rw [if_pos c1]
      refine path rfl rfl hpt2 fun q ql H4 e4 hq hql => ⟨by show 2 ≤ 1000; decide, fun a ha => ?_⟩
      exact mk2 (Q := fun cls d H' => E cls d H') ha fun d Hf sf hdf => hE hk d _ _ Hf (e.trans ((e4.trans (Ex.same sf)).of0)) hdf
    · rw [if_neg c1] at hk
      show if (decide (keyText k ∈ sl) && decide (o.dk = "refuse")) = true then _ else _
      rw [if_neg c1]
      refine ⟨_, rfl, ⟨ls, S, nn, rfl, hsi⟩, _, rfl, ls, .inr (keyText k), S, nn, rfl, rfl, hsi, by show nn + 1 < scanBound; unfold scanBound; omega, ?_⟩
      have e5 : Ex T [lp, ls] H1 (upd Hi ls (SetK P w ls (fun j => S j || decide (j = .inr (keyText k))) (if S (.inr (keyText k)) = true then nn else nn + 1))) := e.put_set (List.mem_cons_of_mem _ List.mem_cons_self) hsi
      have k5 : Kee (lp :: ls :: L) Hi (upd Hi ls (SetK P w ls (fun j => S j || decide (j = .inr (keyText k))) (if S (.inr (keyText k)) = true then nn else nn + 1))) := Kee.put (List.mem_cons_of_mem _ List.mem_cons_self) _
      have t5 : LamX.Tabs T (upd Hi ls (SetK P w ls (fun j => S j || decide (j = .inr (keyText k))) (if S (.inr (keyText k)) = true then nn else nn + 1))) := e5.ta hT
      have hs5 : upd Hi ls (SetK P w ls (fun j => S j || decide (j = .inr (keyText k))) (if S (.inr (keyText k)) = true then nn else nn + 1)) ls = some (SetK P w ls (fun j => S j || decide (j = .inr (keyText k))) (if S (.inr (keyText k)) = true then nn else nn + 1)) := upd_same
      have l5 : LT (upd Hi ls (SetK P w ls (fun j => S j || decide (j = .inr (keyText k))) (if S (.inr (keyText k)) = true then nn else nn + 1))) (lp :: ls :: L) := lt2.put setK_tbl
      have lp5 : upd Hi ls (SetK P w ls (fun j => S j || decide (j = .inr (keyText k))) (if S (.inr (keyText k)) = true then nn else nn + 1)) lp = some (.lst ys) := by rw [upd_ne (Ne.symm nsl)]; exact hli
      have pp5 : upd Hi ls (SetK P w ls (fun j => S j || decide (j = .inr (keyText k))) (if S (.inr (keyText k)) = true then nn else nn + 1)) p = some (.ins CP dxp (pasF o)) := by rw [upd_ne (ne_of hp2 hsi (fun y => nomatch y))]; exact hp2
      have pt5 : upd Hi ls (SetK P w ls (fun j => S j || decide (j = .inr (keyText k))) (if S (.inr (keyText k)) = true then nn else nn + 1)) pt = some (.tup xs) := by rw [upd_ne (ne_of hpt2 hsi (fun y => nomatch y))]; exact hpt2
      have n5 : (if S (.inr (keyText k)) = true then nn else nn + 1) ≤ i + 1 := by split <;> omega
      generalize (if S (.inr (keyText k)) = true then nn else nn + 1) = nn' at *
      generalize hH5 : upd Hi ls (SetK P w ls (fun j => S j || decide (j = .inr (keyText k))) nn') = H5 at *
      refine ⟨_, rfl, .inl ⟨rfl, _, SqL.of lp5⟩, _, rfl, _, rfl, p, dxp, _, rfl, pp5, rfl, _, rfl, ?_⟩
      refine path rfl rfl pt5 fun q ql H6 e6 hq hql => ?_
      refine ⟨p, o, y0, w0, q, ql, lp :: ls :: L, rfl, ⟨dxp, e6.ins pp5⟩, l5.ex e6, rep_kee e6.kee.of_nil (rep_kee k5 rv2), hok.2, hq, by omega, e6.ta t5, fun r hr y H7 e7 ry => ?_, fun hr d y1 y2 H7 e7 hd => ?_⟩
      · rw [hr] at hk
        refine ⟨by show 2 ≤ sizeLine; decide, fun tn htn => ?_⟩
        have e8 : Ex T [] H7 (upd H7 tn (.tup [.str (keyText k), y])) := Ex.new htn _
        have e68 := (e6.trans e7).trans e8
        have lp8 := e68.lst lp5
        refine ⟨lp, ys, _, rfl, rfl, lp8, lt1000 (by rw [hyl]; omega), ?_⟩
        have ntL : tn ∉ lp :: ls :: L := ((l5.ex e6).ex e7).notin htn
        refine ⟨_, _, _, rs ++ [(keyText k, r)], ys ++ [.ref tn], fun j => S j || decide (j = .inr (keyText k)), nn', keyText k :: sl, rfl, upd_same, by rw [upd_ne nsl]; exact e68.ke ls _ (fun z => nomatch z) hs5 setK_tbl, n5, fun z => ?_, by rw [List.length_append, hyl]; rfl, (e5.trans e68.of0).then_put List.mem_cons_self lp8 ⟨(fun ps y => nomatch y), (fun φ y => nomatch y)⟩, ?_, ?_⟩
        · show (S (.inr z) || decide (Sum.inr z = (Sum.inr (keyText k) : Key))) = decide (z ∈ keyText k :: sl)
          rw [hS]
          by_cases c3 : z ∈ sl
          · simp [c3]
          · by_cases c4 : z = keyText k
            · simp [c4]
            · simp [c3, c4]
        · have k9 : Kee (lp :: ls :: L) (upd H7 tn (.tup [.str (keyText k), y])) (upd (upd H7 tn (.tup [.str (keyText k), y])) lp (.lst (ys ++ [.ref tn]))) := Kee.put List.mem_cons_self _
          refine PairL.kee (Paired.snoc (PairL.kee pl (k5.trans e68.kee.of_nil)) ⟨tn, y, rfl, ntL, upd_same, repR_kee e8.kee.of_nil ry⟩) k9
        · rw [hk]
          show Option.map _ (Option.map _ (pairsM (rawM o n) o (es.drop (i + 1)) (keyText k :: sl))) = _
          cases pairsM (rawM o n) o (es.drop (i + 1)) (keyText k :: sl) with
          | none => rfl
          | some r' => simp
      · rw [hr] at hk
        exact hE hk d y1 y2 H7 (e5.trans (e6.trans e7).of0) hd
  · rintro σ Hi ⟨v5, v6, v7, rs, ys, S, nn, sl, rfl, hli, hsi, hnn, hS, hyl, e, pl, hk⟩
    rw [List.length_map] at hk hyl
    rw [List.drop_eq_nil_of_le (by omega)] at hk
    refine hnx rs ys _ Hi ?_ e hli hyl pl rfl
    rw [hk]
    simp [pairsM]

theorem mem_ins {α : Type} {lt : α → α → Bool} {x y : α} : ∀ {l : List α}, y ∈ ins lt x l → y = x ∨ y ∈ l
  | [], h => by
    unfold ins at h
    exact .inl (List.mem_singleton.mp h)
  | a :: r, h => by
    unfold ins at h
    split at h
    · rcases List.mem_cons.mp h with e | h
      · exact .inr (by rw [e]; exact List.mem_cons_self)
      · exact (mem_ins h).imp id fun z => List.mem_cons_of_mem _ z
    · rcases List.mem_cons.mp h with e | h
      · exact .inl e
      · exact .inr h
theorem mem_isort {α : Type} {lt : α → α → Bool} {y : α} : ∀ {l : List α}, y ∈ isort lt l → y ∈ l
  | [], h => h
  | a :: r, h => by
    unfold isort at h
    rcases mem_ins h with e | h
    · rw [e]; exact List.mem_cons_self
    · exact List.mem_cons_of_mem _ (mem_isort h)
theorem len_ins {α : Type} {lt : α → α → Bool} {x : α} : ∀ {l : List α}, (ins lt x l).length = l.length + 1
  | [] => rfl
  | a :: r => by
    unfold ins
    split
    · rw [List.length_cons, len_ins, List.length_cons]
    · rfl
theorem len_isort {α : Type} {lt : α → α → Bool} : ∀ {l : List α}, (isort lt l).length = l.length
  | [] => rfl
  | a :: r => by
    unfold isort
    rw [len_ins, len_isort, List.length_cons]
theorem keptM_sub {o : Opt} {es ks : List (Key × PV)} (h : keptM o es = some ks) : (∀ e ∈ ks, e ∈ es) ∧ ks.length ≤ es.length := by
  unfold keptM at h
  obtain ⟨l, h1, h2⟩ := Option.map_eq_some_iff.mp h
  obtain ⟨h3, h4⟩ := keptL_sub h1
  split at h2
  · subst h2
    exact ⟨fun e he => h3 e (mem_isort he), by rw [len_isort]; exact h4⟩
  · subst h2
    exact ⟨h3, h4⟩
abbrev psR : List Str := ["self", "table", "path"]
abbrev psRA : List Str := ["self", "value", "path"]
theorem ok_pairs (D : Dm K CP "raw_pairs" "Writer.raw_pairs" (inClass (top 37) 7)) (B : Bl mg) (F : PF K CP) (FU : XF K mg CU "Unwritable" "Unwritable.__init__" (inClass (top 9) 0)) (hK : Has P w K mg base CX0 1 "key_text" ["key"] spKeyText) {n k : Nat} (hk6 : 6 ≤ k)
    (hKe : HasM P w K mg base (L2N.CX P w) 6 CP "kept_entries" psR (spKept T CT CP CU n)) (hR : HasM P w K mg base (L2N.CX P w) k CP "raw_at" psRA (spRawAt T CT CP CU n)) : HasM P w K mg base (L2N.CX P w) (k + 1) CP "raw_pairs" psR (spPairs T CT CP CU n) := by
  obtain ⟨fk, fdk, hmk, kpk, bk, Gk⟩ := hK.ex
  obtain ⟨fe, fde, me, be, Ge⟩ := hKe.ex
  obtain ⟨fr, fdr, mr, br, Gr⟩ := hR.ex
  obtain ⟨fu, fdu, iu, tu, bu, Gu⟩ := (ok_E9 (P := P) (w := w) (base := base) FU).ex
  refine D.hasX sc_pairs (fun vs H Q E h => ?_) (fun _ _ _ _ _ _ us hl => match us, hl with | [_, _, _], _ => rfl) (fun f cdv A outer s H vs Q E hr h => ?_)
  · obtain ⟨p, o, x, es, pt, xs, L, rfl, _⟩ := h
    rfl
  obtain ⟨p, o, x, es, pt, xs, L, rfl, hp, lt, rp, oks, hpt, hxs, hTb, q1, q2⟩ := h
  have hr1 : Room 1 (A.deeper (envOfC "Writer.raw_pairs" (defScope (inClass (top 37) 7)) s.heap.objs.size f cdv)) := hr.mono (by omega)
  have hr2 : Room 2 (A.deeper (envOfC "Writer.raw_pairs" (defScope (inClass (top 37) 7)) s.heap.objs.size f cdv)) := hr.mono (by omega)
  have hr6 : Room 6 (A.deeper (envOfC "Writer.raw_pairs" (defScope (inClass (top 37) 7)) s.heap.objs.size f cdv)) := hr.mono hk6
  refine ⟨_, pss_cons (ps_set (i := 3) sc_pairs.nd rfl (.inl rfl) (pe_lst pa_nil))
    (pss_cons (ps_set (i := 4) sc_pairs.nd rfl (.inl rfl) (pe_callTy0 cr_set0K rfl B.set (by decide +kernel)))
    (pss_cons (ps_for (L2.passes_of rfl) rfl (pi_list (pe_meth (pv 0) F.cl me Ge hr6 be .nil (L2N.passes_call (L2N.takes_of rfl rfl rfl rfl) (fun _ _ _ _ h => h)) (pa_cons (pv 1) (pa_cons (pv 2) pa_nil)))) (pg_tup rfl (pgs_cons (pg_name (i := 5) sc_pairs.nd rfl (.inl rfl)) (pgs_cons (pg_name (i := 6) sc_pairs.nd rfl (.inl rfl)) pgs_nil)))
      (pss_cons (ps_set (i := 7) sc_pairs.nd rfl (.inl rfl) (pe_call Gk hr1 rfl hmk kpk bk .nil pass0 (pa_cons (pv 5) pa_nil)))
      (pss_cons (ps_if (PW.pt (pw_and (pt_cmpR or_sinK (pv 7) (pv 4) (by rfl)) (pw_and1 (pt_cmpR op_eq (pe_fld (pv 0) rfl) pe_str (nomark _))))) (pss_one (L2N.ps_raise rfl (L2N.takes_of rfl rfl rfl rfl) (pmkN_oex FU.ox iu tu Gu hr2 bu pass0 rfl FU.gl (pa_cons pe_str (pa_cons (pe_op op_catA (pv 2) (pe_tup (pa_cons (pv 5) pa_nil))) pa_nil))))) pss_nil)
      (pss_cons (ps_expr (pe_saddK (pv 4) (pa_cons (pv 7) pa_nil)))
      (pss_one (ps_expr (pe_bm PySem.F.plainAttrs_list PySem.F.slot_list_append PySem.F.type_list_append mt_append (pv 3) (pa_cons (pe_tup (pa_cons (pv 7) (pa_cons (pe_meth (pv 0) F.cl mr Gr hr br .nil (L2N.passes_call (L2N.takes_of rfl rfl rfl rfl) (fun _ _ _ _ h => h)) (pa_cons (pv 6) (pa_cons (pe_op op_catA (pv 2) (pe_tup (pa_cons (pv 5) pa_nil))) pa_nil))) pa_nil))) pa_nil))))))))
    (pss_one (ps_ret (pv 3))))), ?_⟩
  refine ⟨by show 0 ≤ sizeLine; decide, fun lp hlp => ⟨rfl, fun ls hls => ?_⟩⟩
  have e0 : Ex T [] H (upd H lp (.lst [])) := Ex.new hlp _
  have e1 : Ex T [] H (upd (upd H lp (.lst [])) ls (SetK P w ls (fun _ => false) 0)) := e0.then_new hls _
  have nls : lp ≠ ls := ne_of_none upd_same hls
  have hls0 : H ls = none := by rw [upd_ne (Ne.symm nls)] at hls; exact hls
  have hlp1 : upd (upd H lp (.lst [])) ls (SetK P w ls (fun _ => false) 0) lp = some (.lst []) := by rw [upd_ne nls, upd_same]
  have hls1 : upd (upd H lp (.lst [])) ls (SetK P w ls (fun _ => false) 0) ls = some (SetK P w ls (fun _ => false) 0) := upd_same
  have lt1 : LT (upd (upd H lp (.lst [])) ls (SetK P w ls (fun _ => false) 0)) (lp :: ls :: L) := ((lt.ex e1).add hls1 setK_tbl).add hlp1 (fun _ y => nomatch y)
  have rp1 : Rep CT (lp :: ls :: L) (n + 1) (upd (upd H lp (.lst [])) ls (SetK P w ls (fun _ => false) 0)) (.tab es) x := rep_kee e1.kee.of_nil (rep_add (fun b hb => by
    rcases List.mem_cons.mp hb with z | hb
    · exact .inr (by rw [z]; exact hlp)
    · rcases List.mem_cons.mp hb with z | hb
      · exact .inr (by rw [z]; exact hls0)
      · exact .inl hb) rp)
  have hp1 := hp.ex e1
  obtain ⟨dxp, hpi⟩ := id hp1
  have hnone : ∀ b ∈ [lp, ls], H b = none := fun b hb => by
    rcases List.mem_cons.mp hb with z | z
    · rw [z]; exact hlp
    · rw [List.mem_singleton.mp z]; exact hls0
  refine ⟨_, rfl, p, dxp, _, rfl, hpi, rfl, _, rfl, _, rfl, p, o, x, es, pt, xs, lp :: ls :: L, rfl, hp1, lt1, rp1, oks, e1.tup hpt, by omega, e1.ta hTb, fun es' hk a0 ts H2 e2 ha0 na0 en => ?_, fun hk d y1 y2 H2 e2 hd => ?_⟩
  · obtain ⟨hsub, hle⟩ := keptM_sub hk
    have oes : es.length ≤ 60 := oks.1
    have htl : ts.length ≤ 500 := by rw [← en.length]; omega
    rw [hk] at q1 q2
    refine ⟨a0, rfl, ⟨_, SqL.of ha0⟩, pairs_loop (T := T) (CU := CU) (es := es') (L := L) F (hp1.ex e2) (e2.lst hlp1) (e2.ke ls _ (fun z => nomatch z) hls1 setK_tbl) (e2.tup (e1.tup hpt)) hxs ha0 (fun z => na0 (by rw [z]; exact List.mem_cons_self)) htl (lt1.ex e2) (e2.ta (e1.ta hTb)) en (fun e he => oks.2.2 e (hsub e he)) (fun hn d y1 y2 Hf ef hd => ?_) (fun rs ys σ Hi hrs ei hli hyl pl hσ => ?_)⟩
    · exact q2 hn d y1 y2 Hf (Ex.dropL hnone (e1.trans e2) ef) hd
    · exact ⟨_, hσ, q1 rs hrs lp ys Hi (Ex.dropL hnone (e1.trans e2) ei) (lt.notin hlp) hli (by omega) (PairL.less pl fun b hb => List.mem_cons_of_mem _ (List.mem_cons_of_mem _ hb))⟩
  · exact q2 (by rw [hk]; rfl) d y1 y2 H2 (e1.trans e2) hd
end
end K86
/-! K86RawAt: raw_at, raw. -/
namespace K86
open PySem PySem.Spec PyProof.Rows L2

section
variable {P : Program} {w : World} {K : PySem.W.Frag} {mg : Str → Option Value} {base : Heap} {CT CP CU CW : Addr} {T : Tb}
/-- Writer.DIGITS -/
structure WF (K : PySem.W.Frag) (mg : Str → Option Value) (CW : Addr) : Prop where
  gl : mg "Writer" = some (.ref CW)
  dg : ∃ mc u, ClX.CRead K CW mc ∧ ClX.CVal K CW mc "DIGITS" (.int 15) u
def rAbs : List V → Hp → VK → Prop := fun xs H Q => ∃ i, xs = [.int i] ∧ Q (.int (if i < 0 then -i else i)) H
def rLenT1 : List V → Hp → VK → Prop := fun xs H Q => ∃ z, xs = [.str z] ∧ z.length ≤ sizeLine ∧ Q (.int z.length) H
def rStrI : List V → Hp → VK → Prop := fun xs H Q => ∃ i, xs = [.int i] ∧ i.natAbs.log2 < 1920 ∧ Q (.str (toString i)) H
def tLong (K : PySem.W.Frag) (CT CW : Addr) : TT := tAnd (tB (tCall (spIsInt CT) [] E0 (tCons (tVar 1) tNil))) (tAnd (tTest (tOp (rI0 fun i j => .bl (decide (j < i))) (tCB rLenT1 (tCons (tCB rStrI (tCons (tCB rAbs (tCons (tVar 1) tNil)) tNil)) tNil)) (ClX.tCVal K (tC (.ref CW)) "DIGITS"))) (tTest (tOp rNe (tFld K (tVar 0) "long_numbers") (tC (.str "keep")))))
def tTail (K : PySem.W.Frag) (CT CU CW : Addr) (E : XK) : TS :=
  tSeq (tIfS (tLong K CT CW) (tSeq (tIfS (tOpt K 0 "long_numbers" "refuse") (fun _ σ H => tMkO CU (spE2 CU) [] (tCons (tC (.str "long")) (tCons (tVar 2) tNil)) σ H fun cls d H' => E cls d H') tNext) (tRet (tCB rStrI (tCons (tVar 1) tNil)))) tNext) (tRet (tVar 1))
theorem abs_len {i : Int} (h : okI i) : okI (if i < 0 then -i else i) ∧ (txt (if i < 0 then -i else i)).length ≤ 61 := by
  have h1 : okI (if i < 0 then -i else i) := by
    unfold okI at *
    split <;> omega
  exact ⟨h1, (txt_ok (Nat.lt_of_lt_of_le h1 (by decide))).2⟩

theorem tail_ok (F : PF K CP) (WD : WF K mg CW) {n : Nat} {H : Hp} {o : Opt} {p pt : Addr} {L : List Addr} {x : V} {v : PV} {E : XK} {D : Ends} {σ : L2.St} (h0 : σ[0]? = some (some (.ref p))) (h1 : σ[1]? = some (some x)) (h2 : σ[2]? = some (some (.ref pt))) (hp : PasAt CP o H p) (rp : Rep CT L n H v x) (ov : okV n v)
    (hv : ∀ t vs, v ≠ .row t vs) (ht : ∀ es, v ≠ .tab es) (q1 : ∀ r, rawM o n v = some r → ∀ y, RepR L n H r y → D.rt y H) (q2 : rawM o n v = none → ∀ d y1 y2 H', Ex T [] H H' → H' d = some (.xd (fs2 y1 y2)) → E (.ref CU) (some d) H') : tTail K CT CU CW E D σ H := by
  have sh := rep_sh rp
  have noInt : (kindN v == 2) = false → D.rt x H → tTail K CT CU CW E D σ H := fun hk q => by
    refine ⟨_, h1, x, _, rfl, sh, _, rfl, ?_⟩
    rw [hk]
    exact iteF ⟨_, h1, q⟩
  cases v with
  | row t vs => exact absurd rfl (hv t vs)
  | tab es => exact absurd rfl (ht es)
  | non =>
    refine noInt rfl (q1 .non (by simp [rawM]) x ?_)
    unfold Rep at rp
    unfold RepR
    exact rp
  | bl b =>
    refine noInt rfl (q1 (.bl b) (by simp [rawM]) x ?_)
    unfold Rep at rp
    unfold RepR
    exact rp
  | str z =>
    refine noInt rfl (q1 (.str z) (by simp [rawM]) x ?_)
    unfold Rep at rp
    unfold RepR
    exact rp
  | int i =>
    unfold Rep at rp
    subst rp
    have oi : okI i := by cases n <;> exact ov
    obtain ⟨oa, la⟩ := abs_len oi
    obtain ⟨mc, u, cr, cv⟩ := WD.dg
    have em : rawM o n (.int i) = if (longI i && !decide (o.ln = "keep")) = true then (if o.ln = "refuse" then none else some (.str (txt i))) else some (.int i) := by cases n <;> rfl
    refine ⟨_, h1, .int i, _, rfl, .int i, _, rfl, iteT ?_⟩
    refine ⟨_, h1, i, rfl, _, rfl, log_ok oa, _, rfl, line300 (Nat.le_trans la (by decide)), CW, mc, _, u, rfl, cr, cv, _, _, rfl, rfl, _, rfl, ?_⟩
    have el : decide (((15 : Int) < ((txt (if i < 0 then -i else i)).length : Int))) = longI i := by
      unfold longI
      by_cases c : 15 < (txt (if i < 0 then -i else i)).length
      · rw [decide_eq_true c]
        exact decide_eq_true (by omega)
      · rw [decide_eq_false c]
        exact decide_eq_false (by omega)
    show if decide (((15 : Int) < ((txt (if i < 0 then -i else i)).length : Int))) = true then _ else _
    rw [el]
    obtain ⟨dxp, hpi⟩ := id hp
    by_cases c1 : longI i = true
    · rw [c1]
      refine iteT ⟨_, h0, p, CP, dxp, _, _, rfl, hpi, F.cl, F.na _ (by decide +kernel), lk_ln, rfl, _, rfl, ?_⟩
      rw [dec_str]
      by_cases c2 : o.ln = "keep"
      · rw [decide_eq_true c2]
        refine iteF ⟨_, h1, q1 (.int i) (by rw [em, c1, decide_eq_true c2]; rfl) _ ?_⟩
        unfold RepR
        rfl
      · rw [decide_eq_false c2]
        refine iteT (opt_test F (by decide +kernel) lk_ln h0 hp ?_)
        by_cases c3 : o.ln = "refuse"
        · rw [decide_eq_true c3]
          refine iteT ⟨_, h2, by show 2 ≤ 1000; decide, fun a ha => ?_⟩
          exact mk2 (Q := fun cls d H' => E cls d H') ha fun d Hf sf hdf => q2 (by rw [em, c1, decide_eq_false c2, if_pos c3]; rfl) d _ _ Hf (Ex.same sf) hdf
        · rw [decide_eq_false c3]
          refine iteF ⟨_, h1, i, rfl, log_ok oi, q1 (.str (txt i)) (by rw [em, c1, decide_eq_false c2, if_neg c3]; rfl) _ ?_⟩
          unfold RepR
          rfl
    · have c1' : longI i = false := by simpa using c1
      rw [c1']
      refine iteF ⟨_, h1, q1 (.int i) (by rw [em, c1']; rfl) _ ?_⟩
      unfold RepR
      rfl

abbrev nRA : List Str := ["self", "value", "path", "index", "item"]
theorem sc_rawat : FnScope nRA psRA (defScope (inClass (top 37) 5)) := ⟨rfl, rfl, rfl, by decide +kernel, rfl, by decide +kernel, by decide +kernel⟩
theorem rowM_step {α β : Type} {f : α → Option β} {l : List α} {i : Nat} {x : α} {rs : List β} {tot : Option (List β)} (hx : l[i]? = some x) (hk : tot = (rowM f (l.drop i)).map fun r => rs ++ r) : (f x = none → tot = none) ∧ ∀ y, f x = some y → tot = (rowM f (l.drop (i + 1))).map fun r => (rs ++ [y]) ++ r := by
  have hi : i < l.length := (List.getElem?_eq_some_iff.mp hx).1
  have e : l[i] = x := (List.getElem?_eq_some_iff.mp hx).2
  rw [List.drop_eq_getElem_cons hi, e, rowM] at hk
  refine ⟨fun h => by rw [hk, h]; rfl, fun y h => ?_⟩
  rw [hk, h]
  show Option.map _ (Option.map _ (rowM f (l.drop (i + 1)))) = _
  cases rowM f (l.drop (i + 1)) with
  | none => rfl
  | some r => simp
/-- the row's items, one by one -/
theorem row_loop (F : PF K CP) {n : Nat} {H : Hp} {o : Opt} {p pt D : Addr} {L : List Addr} {x0 : V} {xs ys : List V} {vs : List PV} {E : XK} {Qd : Hp → Prop} {J : It} {G : Hp → Prop} (w0 : Walk J ys.length G (YPair (fun i => some (.int (i : Nat))) (fun i => ys[i]?))) (hG : ∀ Hi, Ex T [] H Hi → G Hi) (hp : PasAt CP o H p) (hpt : H pt = some (.tup xs)) (hxs : xs.length + (n + 1) ≤ 100)
    (hD : H D = none) (lt : LT H L) (hT : LamX.Tabs T H) (hl : ys.length ≤ 1000) (pa : Paired (Rep CT L n H) vs ys) (ov : ∀ v ∈ vs, okV n v)
    (hE : rowM (rawM o n) vs = none → ∀ d y1 y2 Hf, Ex T [] H Hf → Hf d = some (.xd (fs2 y1 y2)) → E (.ref CU) (some d) Hf)
    (hq : ∀ rs acc Hi, rowM (rawM o n) vs = some rs → Ex T [] H Hi → Hi D = some (.lst acc) → acc.length = ys.length → Paired (RepR L n Hi) rs acc → Qd Hi) :
    LcW J (gTup K 2 (gCons (gName 3) (gCons (gName 4) gNil))) tYes (tMeth CP "raw_at" (spRawAt T CT CP CU n) [] E (tVar 0) (tCons (tVar 4) (tCons (tOp (rCatA K) (tVar 2) (tTup (tCons (tVar 3) tNil))) tNil))) [3, 4] [some (.ref p), some x0, some (.ref pt), none, none] H D Qd := by
  have hlen : vs.length = ys.length := pa.length
  have map0 : ∀ {z : Option (List RV)}, z = z.map (fun r => ([] : List RV) ++ r) := fun {z} => by cases z <;> rfl
  refine lcw_it w0 (fun i Hi => ∃ acc rs, Hi D = some (.lst acc) ∧ acc.length = i ∧ Ex T [] H Hi ∧ Paired (RepR (D :: L) n Hi) rs acc ∧ rowM (rawM o n) vs = (rowM (rawM o n) (vs.drop i)).map fun r => rs ++ r) ⟨[], [], upd_same, rfl, Ex.new hD _, .nil, by rw [List.drop_zero]; exact map0⟩ (fun i Hi _ ⟨_, _, _, _, e, _⟩ => hG Hi e) ?_ ?_
  · rintro i z Hi H2 hi ⟨acc, rs, ha, hlen2, e, pp, hk⟩ ⟨Tp, z1, z2, rfl, hT2, rfl, h1, h2⟩
    obtain rfl := Option.some.inj h1
    obtain ⟨v, hv, rv⟩ := paired_get pa h2
    obtain ⟨s1, s2⟩ := rowM_step hv hk
    have nTD : D ≠ Tp := ne_of_none ha hT2
    have e2 : Ex T [] H (upd Hi Tp (.tup [.int (i : Nat), z2])) := e.then_new hT2 _
    have ha2 : upd Hi Tp (.tup [.int (i : Nat), z2]) D = some (.lst acc) := by rw [upd_ne nTD]; exact ha
    have rv2 : Rep CT (D :: L) n (upd Hi Tp (.tup [.int (i : Nat), z2])) v z2 := rep_kee e2.kee.of_nil (rep_add (fun b hb => (List.mem_cons.mp hb).elim (fun z => .inr (by rw [z]; exact hD)) .inl) rv)
    have pt2 := e2.tup hpt
    obtain ⟨dxp, hpi⟩ := hp
    refine ⟨Tp, _, rfl, SqT.of upd_same, rfl, _, _, rfl, _, _, rfl, rfl, rfl, ?_⟩
    refine ⟨_, rfl, p, dxp, _, rfl, e2.ins hpi, rfl, _, rfl, _, rfl, _, rfl, by show 1 ≤ sizeLine; decide, fun kt hkt => ?_⟩
    have e3 : Ex T [] H (upd (upd Hi Tp (.tup [.int (i : Nat), z2])) kt (.tup [.int (i : Nat)])) := e2.then_new hkt _
    have go : ∀ (q : Addr) (ql : List V) (H4 : Hp), Ex T [] (upd Hi Tp (.tup [.int (i : Nat), z2])) H4 → H4 q = some (.tup ql) → ql.length ≤ xs.length + 1 → spRawAt T CT CP CU n [.ref p, z2, .ref q] H4 (fun y H5 => ∃ acc, H5 D = some (.lst acc) ∧ acc.length < sizeLine ∧ ∃ acc2 rs, upd H5 D (.lst (acc ++ [y])) D = some (.lst acc2) ∧ acc2.length = i + 1 ∧ Ex T [] H (upd H5 D (.lst (acc ++ [y]))) ∧ Paired (RepR (D :: L) n (upd H5 D (.lst (acc ++ [y])))) rs acc2 ∧ rowM (rawM o n) vs = (rowM (rawM o n) (vs.drop (i + 1))).map fun r => rs ++ r) E := by
      intro q ql H4 e4 hq4 hql
      have e24 := e2.trans e4
      refine ⟨p, o, z2, v, q, ql, D :: L, rfl, ⟨dxp, e24.ins hpi⟩, (lt.ex e24).cons (e4.lst ha2), rep_kee e4.kee.of_nil rv2, ov v (List.mem_of_getElem? hv), hq4, by omega, e24.ta hT, fun r hr y H5 e5 ry => ?_, fun hr d y1 y2 H5 e5 hd => hE (s1 hr) d y1 y2 H5 (e24.trans e5) hd⟩
      have e25 := e24.trans e5
      have ha5 := e5.lst (e4.lst ha2)
      refine ⟨acc, ha5, lt1000 (by omega), acc ++ [y], rs ++ [r], upd_same, by rw [List.length_append, hlen2]; rfl, e25.grow hD ha5 _, ?_, s2 r hr⟩
      have k9 : Kee (D :: L) H5 (upd H5 D (.lst (acc ++ [y]))) := Kee.put List.mem_cons_self _
      have k15 : Kee (D :: L) Hi H5 := ((Ex.new (T := T) (L := []) hT2 _).trans (e4.trans e5)).kee.of_nil
      exact (Paired.snoc (pp.mono fun a b q => repR_kee k15 q) ry).mono fun a b q => repR_kee k9 q
    refine ⟨pt, kt, xs, [.int (i : Nat)], rfl, rfl, SqT.of (by rw [upd_ne (ne_of_none pt2 hkt)]; exact pt2), SqT.of upd_same, by rw [List.length_singleton]; exact Nat.le_of_lt (lt1000 (by omega)), fun _ => go kt _ _ (Ex.new hkt _) upd_same (by simp), fun _ z => absurd z (by simp), fun _ _ p3 hp3 => go p3 _ _ ((Ex.new hkt _).then_new hp3 _) upd_same (by simp)⟩
  · rintro Hi ⟨acc, rs, ha, hlen2, e, pp, hk⟩
    rw [List.drop_eq_nil_of_le (by omega)] at hk
    refine hq rs acc Hi ?_ e ha hlen2 (pp.mono fun a b q => repR_less (fun b hb => List.mem_cons_of_mem _ hb) q)
    rw [hk]
    simp [rowM]

theorem rawM_row {o : Opt} {n : Nat} {t : Bool} {vs : List PV} : rawM o (n + 1) (.row t vs) = if (t && decide (o.tu = "refuse")) = true then none else (rowM (rawM o n) vs).map .row := rfl
theorem rawM_tab {o : Opt} {n : Nat} {es : List (Key × PV)} : rawM o (n + 1) (.tab es) = ((keptM o es).bind fun l => pairsM (rawM o n) o l []).map RV.tab := by
  show ((keptM o es).bind fun l => (pairsM (rawM o n) o l []).map RV.tab) = _
  cases keptM o es <;> rfl
theorem ok_rawat0 (D : Dm K CP "raw_at" "Writer.raw_at" (inClass (top 37) 5)) (B : Bl mg) (F : PF K CP) (FT : TF K CT) (hgT : mg "Table" = some (.ref CT)) (WD : WF K mg CW) (FU : XF K mg CU "Unwritable" "Unwritable.__init__" (inClass (top 9) 0)) (hI : Has P w K mg base CX0 1 "is_integer" ["value"] (spIsInt CT)) :
    HasM P w K mg base (L2N.CX P w) 7 CP "raw_at" psRA (spRawAt T CT CP CU 0) := by
  obtain ⟨fi, fdi, hmi, kpi, bi, Gi⟩ := hI.ex
  obtain ⟨fu, fdu, iu, tu, bu, Gu⟩ := (ok_E9 (P := P) (w := w) (base := base) FU).ex
  refine D.hasX sc_rawat (fun vs H Q E h => ?_) (fun _ _ _ _ _ _ us hl => match us, hl with | [_, _, _], _ => rfl) (fun f cdv A outer s H vs Q E hr h => ?_)
  · obtain ⟨p, o, x, v, pt, xs, L, rfl, _⟩ := h
    rfl
  obtain ⟨p, o, x, v, pt, xs, L, rfl, hp, lt, rp, ov, hpt, hxs, hTb, q1, q2⟩ := h
  have hr1 : Room 1 (A.deeper (envOfC "Writer.raw_at" (defScope (inClass (top 37) 5)) s.heap.objs.size f cdv)) := hr.mono (by omega)
  have hr2 : Room 2 (A.deeper (envOfC "Writer.raw_at" (defScope (inClass (top 37) 5)) s.heap.objs.size f cdv)) := hr.mono (by omega)
  have sh := rep_sh rp
  have hv : ∀ t vs, v ≠ .row t vs := fun t vs z => by
    subst z
    unfold Rep at rp
    exact rp
  have ht : ∀ es, v ≠ .tab es := fun es z => by
    subst z
    unfold Rep at rp
    exact rp
  have hk : (kindN v == 6) = false ∧ (kindN v == 5) = false ∧ (kindN v == 4 || kindN v == 5) = false := by
    cases v with
    | row t vs => exact absurd rfl (hv t vs)
    | tab es => exact absurd rfl (ht es)
    | _ => exact ⟨rfl, rfl, rfl⟩
  refine ⟨_, pss_cons (ps_if (pt_val (pe_callB call_isi rfl B.isinstance (by decide +kernel) (pa_cons (pv 1) (pa_cons (pe_glob (v := .ref CT) rfl hgT rfl) pa_nil)))) pss_never pss_nil)
    (pss_cons (ps_if (PW.pt (pw_and (pt_val (pe_callB call_isi rfl B.isinstance (by decide +kernel) (pa_cons (pv 1) (pa_cons (pe_bltn (v := .ty "tuple") rfl B.tuple (by decide +kernel) rfl) pa_nil)))) (pw_and1 (pt_cmpR op_eq (pe_fld (pv 0) rfl) pe_str (nomark _))))) pss_never pss_nil)
    (pss_cons (ps_if (pt_val (pe_callB call_isiT rfl B.isinstance (by decide +kernel) (pa_cons (pv 1) (pa_cons (pe_tup (pa_cons (pe_bltn (v := .ty "list") rfl B.list (by decide +kernel) rfl) (pa_cons (pe_bltn (v := .ty "tuple") rfl B.tuple (by decide +kernel) rfl) pa_nil))) pa_nil)))) pss_never pss_nil)
    (pss_cons (ps_if (PW.pt (pw_and (pt_val (pe_call Gi hr1 rfl hmi kpi bi .nil pass0 (pa_cons (pv 1) pa_nil))) (pw_and (pt_cmpR op_gt (pe_callB call_len_str rfl B.len PySem.boot_len (pa_cons (pe_callTy call_str_int rfl B.str (by decide +kernel) (pa_cons (pe_callB call_abs rfl B.abs (by decide +kernel) (pa_cons (pv 1) pa_nil)) pa_nil)) pa_nil)) (ClX.pe_cval (pe_glob (v := .ref CW) rfl WD.gl rfl)) (nomark _)) (pw_and1 (pt_cmpR op_ne (pe_fld (pv 0) rfl) pe_str (nomark _))))))
        (pss_cons (ps_if (pt_cmpR op_eq (pe_fld (pv 0) rfl) pe_str (nomark _)) (pss_one (L2N.ps_raise rfl (L2N.takes_of rfl rfl rfl rfl) (pmkN_oex FU.ox iu tu Gu hr2 bu pass0 rfl FU.gl (pa_cons pe_str (pa_cons (pv 2) pa_nil))))) pss_nil)
        (pss_one (ps_ret (pe_callTy call_str_int rfl B.str (by decide +kernel) (pa_cons (pv 1) pa_nil))))) pss_nil)
    (pss_one (ps_ret (pv 1)))))), ?_⟩
  refine ⟨_, rfl, _, _, _, _, _, rfl, .own CT, sh.ty FT, kit_tab FT sh.lt, _, rfl, ?_⟩
  rw [hk.1]
  refine iteF ⟨_, rfl, _, _, _, _, _, rfl, .ty "tuple", sh.ty FT, kit_tuple FT sh.lt, _, rfl, ?_⟩
  rw [hk.2.1]
  refine iteF (iteF ⟨_, rfl, by show 2 ≤ sizeLine; decide, fun tp htp => ?_⟩)
  have e1 : Ex T [] H (upd H tp (.tup [.ty "list", .ty "tuple"])) := Ex.new htp _
  have sh1 := rep_sh (rep_kee e1.kee.of_nil rp)
  refine ⟨_, _, _, _, [.type "list", .type "tuple"], _, rfl, upd_same, .cons (.ty _) (.cons (.ty _) .nil), sh1.ty FT, kit_lt FT sh1.lt, _, rfl, ?_⟩
  rw [hk.2.2]
  refine iteF ?_
  exact tail_ok (CU := CU) (T := T) F WD (E := E) rfl rfl rfl (hp.ex e1) (rep_kee e1.kee.of_nil rp) ov hv ht (fun r hr y ry => q1 r hr y _ e1 ry) (fun hn d y1 y2 H' e hd => q2 hn d y1 y2 H' (e1.trans e) hd)
theorem ok_rawatS (D : Dm K CP "raw_at" "Writer.raw_at" (inClass (top 37) 5)) (B : Bl mg) (F : PF K CP) (FT : TF K CT) (hgT : mg "Table" = some (.ref CT)) (WD : WF K mg CW) (FU : XF K mg CU "Unwritable" "Unwritable.__init__" (inClass (top 9) 0)) (hI : Has P w K mg base CX0 1 "is_integer" ["value"] (spIsInt CT)) {n k : Nat} (hk2 : 2 ≤ k)
    (hR : HasM P w K mg base (L2N.CX P w) k CP "raw_at" psRA (spRawAt T CT CP CU n)) (hPr : HasM P w K mg base (L2N.CX P w) (k + 1) CP "raw_pairs" psR (spPairs T CT CP CU n)) : HasM P w K mg base (L2N.CX P w) (k + 2) CP "raw_at" psRA (spRawAt T CT CP CU (n + 1)) := by
  obtain ⟨fi, fdi, hmi, kpi, bi, Gi⟩ := hI.ex
  obtain ⟨fu, fdu, iu, tu, bu, Gu⟩ := (ok_E9 (P := P) (w := w) (base := base) FU).ex
  obtain ⟨fr, fdr, mr, br, Gr⟩ := hR.ex
  obtain ⟨fp, fdp, mp, bp, Gp⟩ := hPr.ex
  refine D.hasX sc_rawat (fun vs H Q E h => ?_) (fun _ _ _ _ _ _ us hl => match us, hl with | [_, _, _], _ => rfl) (fun f cdv A outer s H vs Q E hr h => ?_)
  · obtain ⟨p, o, x, v, pt, xs, L, rfl, _⟩ := h
    rfl
  obtain ⟨p, o, x, v, pt, xs, L, rfl, hp, lt, rp, ov, hpt, hxs, hTb, q1, q2⟩ := h
  have hr1 : Room 1 (A.deeper (envOfC "Writer.raw_at" (defScope (inClass (top 37) 5)) s.heap.objs.size f cdv)) := hr.mono (by omega)
  have hr2 : Room 2 (A.deeper (envOfC "Writer.raw_at" (defScope (inClass (top 37) 5)) s.heap.objs.size f cdv)) := hr.mono (by omega)
  have hrk : Room k (A.deeper (envOfC "Writer.raw_at" (defScope (inClass (top 37) 5)) s.heap.objs.size f cdv)) := hr.mono (by omega)
  have sh := rep_sh rp
  obtain ⟨dxp, hpi⟩ := id hp
  refine ⟨_, pss_cons (ps_if (pt_val (pe_callB call_isi rfl B.isinstance (by decide +kernel) (pa_cons (pv 1) (pa_cons (pe_glob (v := .ref CT) rfl hgT rfl) pa_nil)))) (pss_one (ps_ret (pe_tup (pa_cons pe_str (pa_cons (pe_meth (pv 0) F.cl mp Gp hr bp .nil (L2N.passes_call (L2N.takes_of rfl rfl rfl rfl) (fun _ _ _ _ h => h)) (pa_cons (pv 1) (pa_cons (pv 2) pa_nil))) pa_nil))))) pss_nil)
    (pss_cons (ps_if (PW.pt (pw_and (pt_val (pe_callB call_isi rfl B.isinstance (by decide +kernel) (pa_cons (pv 1) (pa_cons (pe_bltn (v := .ty "tuple") rfl B.tuple (by decide +kernel) rfl) pa_nil)))) (pw_and1 (pt_cmpR op_eq (pe_fld (pv 0) rfl) pe_str (nomark _))))) (pss_one (L2N.ps_raise rfl (L2N.takes_of rfl rfl rfl rfl) (pmkN_oex FU.ox iu tu Gu hr2 bu pass0 rfl FU.gl (pa_cons pe_str (pa_cons (pv 2) pa_nil))))) pss_nil)
    (pss_cons (ps_if (pt_val (pe_callB call_isiT rfl B.isinstance (by decide +kernel) (pa_cons (pv 1) (pa_cons (pe_tup (pa_cons (pe_bltn (v := .ty "list") rfl B.list (by decide +kernel) rfl) (pa_cons (pe_bltn (v := .ty "tuple") rfl B.tuple (by decide +kernel) rfl) pa_nil))) pa_nil))))
        (pss_one (ps_ret (pe_tup (pa_cons pe_str (pa_cons (pe_lcX (own := [("index", 3), ("item", 4)]) (g := gTup K 2 (gCons (gName 3) (gCons (gName 4) gNil))) (tt := tYes) (te := fun E => tMeth CP "raw_at" (spRawAt T CT CP CU n) [] E (tVar 0) (tCons (tVar 4) (tCons (tOp (rCatA K) (tVar 2) (tTup (tCons (tVar 3) tNil))) tNil))) rfl rfl (L2N.takes_of rfl rfl rfl rfl) rfl sc_rawat.nd (pi_enumA (by rfl) B.enumerate (pa_cons (pv 1) pa_nil)) (blkOk_by (N := nRA) (sc := defScope (inClass (top 37) 5)) (by decide +kernel))
          ⟨fun _ _ _ _ _ _ => pg_tup rfl (pgs_cons (pg_name (i := 3) sc_rawat.nd rfl (.inl rfl)) (pgs_cons (pg_name (i := 4) sc_rawat.nd rfl (.inl rfl)) pgs_nil)), fun _ _ _ _ _ _ => pts_nil, fun _ _ _ _ _ _ _ hpass => pe_meth (pv 0) F.cl mr Gr hrk br .nil hpass (pa_cons (pv 4) (pa_cons (pe_op op_catA (pv 2) (pe_tup (pa_cons (pv 3) pa_nil))) pa_nil))⟩) pa_nil))))) pss_nil)
    (pss_cons (ps_if (PW.pt (pw_and (pt_val (pe_call Gi hr1 rfl hmi kpi bi .nil pass0 (pa_cons (pv 1) pa_nil))) (pw_and (pt_cmpR op_gt (pe_callB call_len_str rfl B.len PySem.boot_len (pa_cons (pe_callTy call_str_int rfl B.str (by decide +kernel) (pa_cons (pe_callB call_abs rfl B.abs (by decide +kernel) (pa_cons (pv 1) pa_nil)) pa_nil)) pa_nil)) (ClX.pe_cval (pe_glob (v := .ref CW) rfl WD.gl rfl)) (nomark _)) (pw_and1 (pt_cmpR op_ne (pe_fld (pv 0) rfl) pe_str (nomark _))))))
        (pss_cons (ps_if (pt_cmpR op_eq (pe_fld (pv 0) rfl) pe_str (nomark _)) (pss_one (L2N.ps_raise rfl (L2N.takes_of rfl rfl rfl rfl) (pmkN_oex FU.ox iu tu Gu hr2 bu pass0 rfl FU.gl (pa_cons pe_str (pa_cons (pv 2) pa_nil))))) pss_nil)
        (pss_one (ps_ret (pe_callTy call_str_int rfl B.str (by decide +kernel) (pa_cons (pv 1) pa_nil))))) pss_nil)
    (pss_one (ps_ret (pv 1)))))), ?_⟩
  refine ⟨_, rfl, _, _, _, _, _, rfl, .own CT, sh.ty FT, kit_tab FT sh.lt, _, rfl, ?_⟩
  by_cases c6 : ∃ es, v = .tab es
  · obtain ⟨es, rfl⟩ := c6
    rw [rawM_tab] at q1 q2
    refine iteT ⟨_, rfl, p, dxp, _, rfl, hpi, rfl, _, rfl, _, rfl, p, o, x, es, pt, xs, L, rfl, hp, lt, rp, ov, hpt, hxs, hTb, fun rs hrs a ys H1 e1 na ha hla pl => ⟨by show 2 ≤ sizeLine; decide, fun tp htp => ?_⟩, fun hn d y1 y2 H1 e1 hd => q2 (by rw [hn]; rfl) d y1 y2 H1 e1 hd⟩
    refine q1 (.tab rs) (by rw [hrs]; rfl) _ _ (e1.then_new htp _) ?_
    unfold RepR
    exact ⟨tp, a, ys, rfl, (lt.ex e1).notin htp, na, upd_same, by rw [upd_ne (ne_of_none ha htp)]; exact ha, hla, PairL.kee pl (Kee.new htp _)⟩
  · have hk6 : (kindN v == 6) = false := by
      cases v with
      | tab es => exact absurd ⟨es, rfl⟩ c6
      | row t vs => cases t <;> rfl
      | _ => rfl
    rw [hk6]
    refine iteF ?_
    refine ⟨_, rfl, _, _, _, _, _, rfl, .ty "tuple", sh.ty FT, kit_tuple FT sh.lt, _, rfl, ?_⟩
    have T2 : ∀ {kk : Bool → Hp → Prop}, kk ((kindN v == 5) && decide (o.tu = "refuse")) H → (if (kindN v == 5) = true then tOpt K 0 "tuples" "refuse" [some (.ref p), some x, some (.ref pt), none, none] H kk else kk false H) := by
      intro kk hkk
      cases c : (kindN v == 5) with
      | true =>
        rw [c] at hkk
        exact iteT (opt_test F (by decide +kernel) lk_tu rfl hp hkk)
      | false =>
        rw [c] at hkk
        exact iteF hkk
    refine T2 ?_
    by_cases c5 : ((kindN v == 5) && decide (o.tu = "refuse")) = true
    · show if ((kindN v == 5) && decide (o.tu = "refuse")) = true then _ else _
      rw [if_pos c5]
      obtain ⟨c5a, c5b⟩ := Bool.and_eq_true_iff.mp c5
      have hrow : ∃ vs, v = .row true vs := by
        cases v with
        | row t vs => cases t with
          | true => exact ⟨vs, rfl⟩
          | false => exact absurd c5a (by simp [kindN])
        | tab es => exact absurd ⟨es, rfl⟩ c6
        | _ => exact absurd c5a (by simp [kindN])
      obtain ⟨vs, rfl⟩ := hrow
      refine ⟨_, rfl, by show 2 ≤ 1000; decide, fun a ha => ?_⟩
      exact mk2 (Q := fun cls d H' => E cls d H') ha fun d Hf sf hdf => q2 (by rw [rawM_row, c5b]; rfl) d _ _ Hf (Ex.same sf) hdf
    · show if ((kindN v == 5) && decide (o.tu = "refuse")) = true then _ else _
      rw [if_neg c5]
      refine ⟨_, rfl, by show 2 ≤ sizeLine; decide, fun tp htp => ?_⟩
      have e1 : Ex T [] H (upd H tp (.tup [.ty "list", .ty "tuple"])) := Ex.new htp _
      have rp1 := rep_kee (e1.kee.of_nil (L := L)) rp
      have sh1 := rep_sh rp1
      refine ⟨_, _, _, _, [.type "list", .type "tuple"], _, rfl, upd_same, .cons (.ty _) (.cons (.ty _) .nil), sh1.ty FT, kit_lt FT sh1.lt, _, rfl, ?_⟩
      by_cases c4 : ∃ t vs, v = .row t vs
      · obtain ⟨t, vs, rfl⟩ := c4
        have hk45 : (kindN (.row t vs) == 4 || kindN (.row t vs) == 5) = true := by cases t <;> rfl
        rw [hk45]
        have hkt : (kindN (.row t vs) == 5) = t := by cases t <;> rfl
        rw [hkt] at c5
        have em : rawM o (n + 1) (.row t vs) = (rowM (rawM o n) vs).map .row := by rw [rawM_row, if_neg c5]
        rw [em] at q1 q2
        unfold Rep at rp1
        obtain ⟨a, ys, rfl, _, ea, la, pa⟩ := rp1
        have sq : SqL K (upd H tp (.tup [.ty "list", .ty "tuple"])) a ys ∨ SqT K (upd H tp (.tup [.ty "list", .ty "tuple"])) a ys := by
          cases t with
          | false => exact .inl (SqL.of ea)
          | true => exact .inr (SqT.of ea)
        have fin : ∀ D rs acc Hi, upd H tp (.tup [.ty "list", .ty "tuple"]) D = none → rowM (rawM o n) vs = some rs → Ex T [] (upd H tp (.tup [.ty "list", .ty "tuple"])) Hi → Hi D = some (.lst acc) → acc.length = ys.length → Paired (RepR L n Hi) rs acc →
            ([V.str "row", V.ref D].length ≤ sizeLine ∧ ∀ tq, Hi tq = none → Q (.ref tq) (upd Hi tq (.tup [.str "row", .ref D]))) := by
          intro D rs acc Hi hD hrs ei hDi hal pp
          refine ⟨by show 2 ≤ sizeLine; decide, fun tq htq => ?_⟩
          have e2 := (e1.trans ei)
          refine q1 (.row rs) (by rw [hrs]; rfl) _ _ (e2.then_new htq _) ?_
          unfold RepR
          exact ⟨tq, D, acc, rfl, (lt.ex e2).notin htq, (lt.ex e1).notin hD, upd_same, by rw [upd_ne (ne_of_none hDi htq)]; exact hDi, by omega, pp.mono fun a b q => repR_kee (Kee.new htq _) q⟩
        refine iteT ⟨_, rfl, a, ys, rfl, ?_⟩
        rcases sq with h | h
        · exact .inl ⟨h, fun D hD => row_loop (CU := CU) (x0 := .ref a) (vs := vs) F walk_enum (fun Hi e => e.sql h) (hp.ex e1) (e1.tup hpt) hxs hD (lt.ex e1) (e1.ta hTb) la pa (fun v hv => ov.2 v hv) (fun hn d y1 y2 Hf ef hd => q2 (by rw [hn]; rfl) d y1 y2 Hf (e1.trans ef) hd) fun rs acc Hi hrs ei hDi hal pp => fin D rs acc Hi hD hrs ei hDi hal pp⟩
        · exact .inr ⟨h, fun D hD => row_loop (CU := CU) (x0 := .ref a) (vs := vs) F walk_enumT (fun Hi e => e.sqt h) (hp.ex e1) (e1.tup hpt) hxs hD (lt.ex e1) (e1.ta hTb) la pa (fun v hv => ov.2 v hv) (fun hn d y1 y2 Hf ef hd => q2 (by rw [hn]; rfl) d y1 y2 Hf (e1.trans ef) hd) fun rs acc Hi hrs ei hDi hal pp => fin D rs acc Hi hD hrs ei hDi hal pp⟩
      · have hk45 : (kindN v == 4 || kindN v == 5) = false := by
          cases v with
          | row t vs => exact absurd ⟨t, vs, rfl⟩ c4
          | tab es => rfl
          | _ => rfl
        rw [hk45]
        refine iteF ?_
        exact tail_ok (CU := CU) (T := T) F WD (E := E) rfl rfl rfl (hp.ex e1) rp1 ov (fun t vs z => c4 ⟨t, vs, z⟩) (fun es z => c6 ⟨es, z⟩) (fun r hr y ry => q1 r hr y _ e1 ry) (fun hn d y1 y2 H' e hd => q2 hn d y1 y2 H' (e1.trans e) hd)

theorem ok_rawat {c PT : Addr} (D : Dm K CP "raw_at" "Writer.raw_at" (inClass (top 37) 5)) (DP : Dm K CP "raw_pairs" "Writer.raw_pairs" (inClass (top 37) 7)) (DK : DmL K CP "kept_entries" "Writer.kept_entries" (inClass (top 37) 6) c) (TB : LamX.TabB base mg c PT) (hT : T = [(PT, lamQ)])
    (B : Bl mg) (F : PF K CP) (FT : TF K CT) (hgT : mg "Table" = some (.ref CT)) (WD : WF K mg CW) (FU : XF K mg CU "Unwritable" "Unwritable.__init__" (inClass (top 9) 0)) (hI : Has P w K mg base CX0 1 "is_integer" ["value"] (spIsInt CT)) (hK : Has P w K mg base CX0 1 "key_text" ["key"] spKeyText) :
    ∀ n, HasM P w K mg base (L2N.CX P w) (2 * n + 7) CP "raw_at" psRA (spRawAt T CT CP CU n) := by
  intro n
  induction n with
  | zero => exact ok_rawat0 D B F FT hgT WD FU hI
  | succ n ih => exact ok_rawatS D B F FT hgT WD FU hI (by omega) ih (ok_pairs DP B F FU hK (by omega) (ok_kept DK TB hT B F FT FU hI hK) ih)
def spRaw (T : Tb) (CT CP CU : Addr) (n : Nat) : Sp := fun vs H Q E => ∃ (p : Addr) (o : Opt) (x : V) (v : PV), vs = [.ref p, x] ∧ PasAt CP o H p ∧ Rep CT [] n H v x ∧ okV n v ∧ LamX.Tabs T H ∧
  (∀ r, rawM o n v = some r → ∀ y H', Ex T [] H H' → RepR [] n H' r y → Q y H') ∧
  (rawM o n v = none → ∀ d y1 y2 H', Ex T [] H H' → H' d = some (.xd (fs2 y1 y2)) → E (.ref CU) (some d) H')
theorem sc_raw : FnScope ["self", "value"] ["self", "value"] (defScope (inClass (top 37) 3)) := ⟨rfl, rfl, rfl, by decide +kernel, rfl, by decide +kernel, by decide +kernel⟩
theorem ok_raw (D : Dm K CP "raw" "Writer.raw" (inClass (top 37) 3)) (F : PF K CP) {n k : Nat} (hn : n ≤ 50) (hR : HasM P w K mg base (L2N.CX P w) k CP "raw_at" psRA (spRawAt T CT CP CU n)) : HasM P w K mg base (L2N.CX P w) (k + 1) CP "raw" ["self", "value"] (spRaw T CT CP CU n) := by
  obtain ⟨fr, fdr, mr, br, Gr⟩ := hR.ex
  refine D.hasX sc_raw (fun vs H Q E h => ?_) (fun _ _ _ _ _ _ us hl => match us, hl with | [_, _], _ => rfl) (fun f cdv A outer s H vs Q E hr h => ?_)
  · obtain ⟨p, o, x, v, rfl, _⟩ := h
    rfl
  obtain ⟨p, o, x, v, rfl, hp, rp, ov, hTb, q1, q2⟩ := h
  obtain ⟨dxp, hpi⟩ := id hp
  refine ⟨_, pss_one (ps_ret (pe_meth (pv 0) F.cl mr Gr hr br .nil (L2N.passes_call (L2N.takes_of rfl rfl rfl rfl) (fun _ _ _ _ h => h)) (pa_cons (pv 1) (pa_cons (pe_tup pa_nil) pa_nil)))), ?_⟩
  refine ⟨_, rfl, p, dxp, _, rfl, hpi, rfl, _, rfl, by show 0 ≤ sizeLine; decide, fun tp htp => ?_⟩
  have e1 : Ex T [] H (upd H tp (.tup [])) := Ex.new htp _
  exact ⟨p, o, x, v, tp, [], [], rfl, hp.ex e1, LT.nil, rep_kee e1.kee rp, ov, upd_same, by show 0 + n ≤ 100; omega, e1.ta hTb, fun r hr y H' e ry => q1 r hr y H' (e1.trans e) ry, fun hn d y1 y2 H' e hd => q2 hn d y1 y2 H' (e1.trans e) hd⟩
end
end K86
/-! K86Build: built_key, built_table, built_at, build. -/
namespace K86
open PySem PySem.Spec PyProof.Rows L2

/-! ### plain facts -/
theorem builtKey_inj {o : Opt} {x y : Str} (hx : okT x) (hy : okT y) (h : builtKey o x = builtKey o y) : x = y := by
  have key : ∀ {z : Str}, okT z → (decide (o.dn = "number") && isDig z) = true → txt ((PySem.intText? z).getD 0) = z := fun {z} hz c => by
    obtain ⟨i, h1, h2, _⟩ := dig_int hz.1 (Bool.and_eq_true_iff.mp c).2
    rw [h1]
    exact h2
  unfold builtKey at h
  by_cases cx : (decide (o.dn = "number") && isDig x) = true
  · rw [if_pos cx] at h
    by_cases cy : (decide (o.dn = "number") && isDig y) = true
    · rw [if_pos cy] at h
      rw [← key hx cx, ← key hy cy, Sum.inl.inj h]
    · rw [if_neg cy] at h
      cases h
  · rw [if_neg cx] at h
    by_cases cy : (decide (o.dn = "number") && isDig y) = true
    · rw [if_pos cy] at h
      cases h
    · rw [if_neg cy] at h
      exact Sum.inr.inj h
theorem putP_names {α β : Type} [DecidableEq α] {l : List (α × β)} {k : α} {v : β} (nd : (l.map (·.1)).Nodup) : ((putP l k v).map (·.1)).Nodup ∧ (∀ p ∈ putP l k v, p.1 = k ∨ p.1 ∈ l.map (·.1)) ∧ (putP l k v).length ≤ l.length + 1 := by
  unfold putP
  by_cases c : hasK l k = true
  · rw [if_pos c]
    have e : (l.map fun p => if p.1 = k then (p.1, v) else p).map (·.1) = l.map (·.1) := by
      rw [List.map_map]
      refine List.map_congr_left fun p _ => ?_
      show (if p.1 = k then (p.1, v) else p).1 = p.1
      split <;> rfl
    refine ⟨by rw [e]; exact nd, fun p hp => .inr ?_, by rw [List.length_map]; exact Nat.le_succ _⟩
    rw [← e]
    exact List.mem_map.mpr ⟨p, hp, rfl⟩
  · rw [if_neg c]
    refine ⟨?_, fun p hp => ?_, by rw [List.length_append]; exact Nat.le_refl _⟩
    · rw [List.map_append]
      refine nd_snoc nd fun hm => c ?_
      obtain ⟨p, hp, e⟩ := List.mem_map.mp hm
      exact List.any_eq_true.mpr ⟨p, hp, decide_eq_true e⟩
    · rcases List.mem_append.mp hp with h | h
      · exact .inr (List.mem_map.mpr ⟨p, h, rfl⟩)
      · exact .inl (by rw [List.mem_singleton.mp h])
theorem foundM_names {f : RV → Option PV} {o : Opt} : ∀ {ps : List (Str × RV)} {acc l : List (Str × PV)}, foundM f o ps acc = some l → (acc.map (·.1)).Nodup → (l.map (·.1)).Nodup ∧ (∀ p ∈ l, p.1 ∈ acc.map (·.1) ∨ p.1 ∈ ps.map (·.1)) ∧ l.length ≤ acc.length + ps.length
  | [], acc, l, h, nd => by
    unfold foundM at h
    cases h
    exact ⟨nd, fun p hp => .inl (List.mem_map.mpr ⟨p, hp, rfl⟩), Nat.le_refl _⟩
  | (nm, r) :: ps, acc, l, h, nd => by
    unfold foundM at h
    split at h
    · cases h
    · split at h
      · cases h
      · rename_i v hv
        have key : ∀ a2 : List (Str × PV), (a2.map (·.1)).Nodup → (∀ p ∈ a2, p.1 = nm ∨ p.1 ∈ acc.map (·.1)) → a2.length ≤ acc.length + 1 → foundM f o ps a2 = some l → (l.map (·.1)).Nodup ∧ (∀ p ∈ l, p.1 ∈ acc.map (·.1) ∨ p.1 ∈ ((nm, r) :: ps).map (·.1)) ∧ l.length ≤ acc.length + ((nm, r) :: ps).length := fun a2 n1 n2 n3 h2 => by
          obtain ⟨k1, k2, k3⟩ := foundM_names h2 n1
          refine ⟨k1, fun p hp => ?_, by rw [List.length_cons]; omega⟩
          rcases k2 p hp with z | z
          · obtain ⟨q, hq, e⟩ := List.mem_map.mp z
            rcases n2 q hq with y | y
            · exact .inr (by rw [← e]; show q.1 ∈ _; rw [y]; exact List.mem_cons_self)
            · exact .inl (by rw [← e]; exact y)
          · exact .inr (List.mem_cons_of_mem _ z)
        split at h
        · obtain ⟨k1, k2, k3⟩ := putP_names (k := nm) (v := v) nd
          exact key _ k1 k2 k3 h
        · exact key acc nd (fun p hp => .inr (List.mem_map.mpr ⟨p, hp, rfl⟩)) (Nat.le_succ _) h
theorem tabOf_nodup {o : Opt} {l : List (Str × PV)} (nd : (l.map (·.1)).Nodup) (ok : ∀ p ∈ l, okT p.1) : ((tabOf o l).map (·.1)).Nodup := by
  unfold tabOf
  induction l with
  | nil => simp
  | cons p r ih =>
    have nd' := List.nodup_cons.mp (show (p.1 :: r.map (·.1)).Nodup from nd)
    have ih' := ih nd'.2 fun q hq => ok q (List.mem_cons_of_mem _ hq)
    rw [List.filter_cons]
    split
    · rw [List.map_cons, List.map_cons]
      refine List.nodup_cons.mpr ⟨fun hm => ?_, ih'⟩
      obtain ⟨q, hq, e⟩ := List.mem_map.mp hm
      obtain ⟨z, hz, e2⟩ := List.mem_map.mp hq
      subst e2
      have hz2 := (List.mem_filter.mp hz).1
      have : z.1 = p.1 := builtKey_inj (ok z (List.mem_cons_of_mem _ hz2)) (ok p List.mem_cons_self) e
      exact nd'.1 (List.mem_map.mpr ⟨z, hz2, this⟩)
    · exact ih'

section
variable {P : Program} {w : World} {K : PySem.W.Frag} {mg : Str → Option Value} {base : Heap} {CT CP CV : Addr} {T : Tb}
/-! ### built_key -/
def spKey (CP : Addr) : Sp := fun vs H Q _ => ∃ (p : Addr) (o : Opt) (x : Str), vs = [.ref p, .str x] ∧ PasAt CP o H p ∧ okT x ∧ Q (kV (builtKey o x)) H
theorem sc_bkey : FnScope ["self", "name"] ["self", "name"] (defScope (inClass (top 38) 6)) := ⟨rfl, rfl, rfl, by decide +kernel, rfl, by decide +kernel, by decide +kernel⟩
theorem ok_bkey (D : Dm K CP "built_key" "Reader.built_key" (inClass (top 38) 6)) (B : Bl mg) (F : PF K CP) (hD : Has P w K mg base CX0 1 "is_digit_key" ["key"] spIsDig) : HasM P w K mg base CX0 2 CP "built_key" ["self", "name"] (spKey CP) := by
  obtain ⟨fi, fdi, hmi, kpi, bi, Gi⟩ := hD.ex
  refine D.has0 sc_bkey (fun vs H Q E h => ?_) (fun _ _ _ _ _ _ us hl => match us, hl with | [_, _], _ => rfl) (fun f cdv A outer s H vs Q E hr h => ?_)
  · obtain ⟨p, o, x, rfl, _⟩ := h
    rfl
  obtain ⟨p, o, x, rfl, hp, ox, q⟩ := h
  refine ⟨_, pss_cons (ps_if (PW.pt (pw_and (pt_cmpR op_eq (pe_fld (pv 0) rfl) pe_str (nomark _)) (pw_and1 (pt_val (pe_call Gi hr rfl hmi kpi bi .nil pass0 (pa_cons (pv 1) pa_nil)))))) (pss_one (ps_ret (pe_callTy call_int_str rfl B.int (by decide +kernel) (pa_cons (pv 1) pa_nil)))) pss_nil)
    (pss_one (ps_ret (pv 1))), ?_⟩
  unfold builtKey at q
  refine opt_test (z := "number") F (by decide +kernel) lk_dn rfl hp ?_
  by_cases c1 : o.dn = "number"
  · rw [decide_eq_true c1] at q ⊢
    refine iteT ⟨_, rfl, x, rfl, ox, _, rfl, ?_⟩
    by_cases c2 : isDig x = true
    · rw [c2] at q ⊢
      obtain ⟨i, h1, h2, h3⟩ := dig_int ox.1 c2
      rw [h1] at q
      exact iteT ⟨_, rfl, x, i, rfl, h1, Nat.le_trans ox.2 (by decide), q⟩
    · have c2' : isDig x = false := by simpa using c2
      rw [c2'] at q ⊢
      exact iteF ⟨_, rfl, q⟩
  · rw [decide_eq_false c1] at q ⊢
    exact iteF (iteF ⟨_, rfl, q⟩)
/-! ### found -/
def FndL (CT : Addr) (L : List Addr) (n : Nat) (H : Hp) (acc : List (Str × PV)) (kvs : List (Key × V)) : Prop := Paired (fun (a : Str × PV) (kv : Key × V) => kv.1 = .inr a.1 ∧ Rep CT L n H a.2 kv.2) acc kvs
theorem FndL.kee {L : List Addr} {n : Nat} {H H' : Hp} {acc : List (Str × PV)} {kvs : List (Key × V)} (h : FndL CT L n H acc kvs) (k : Kee L H H') : FndL CT L n H' acc kvs := Paired.mono (fun a b q => ⟨q.1, rep_kee k q.2⟩) h
theorem fnd_has {L : List Addr} {n : Nat} {H : Hp} {acc : List (Str × PV)} {kvs : List (Key × V)} {nm : Str} (h : FndL CT L n H acc kvs) : (valV kvs (.inr nm)).isSome = hasK acc nm := by
  rw [← valV_any]
  unfold hasK
  induction h with
  | nil => rfl
  | cons q t ih =>
    rw [List.any_cons, List.any_cons, ih, q.1]
    congr 1
    simp
theorem fnd_put {L : List Addr} {n : Nat} {H : Hp} {acc : List (Str × PV)} {kvs : List (Key × V)} {nm : Str} {v : PV} {x : V} (h : FndL CT L n H acc kvs) (r : Rep CT L n H v x) : FndL CT L n H (putP acc nm v) (putK kvs (.inr nm) x) := by
  have e := fnd_has (nm := nm) h
  rw [← valV_any] at e
  unfold putP putK
  rw [e]
  split
  · induction h with
    | nil => exact .nil
    | cons q t ih =>
      rename_i a b l1 l2 hh
      rw [List.map_cons, List.map_cons]
      refine .cons ?_ (by
        have key : ∀ {l1 : List (Str × PV)} {l2 : List (Key × V)}, FndL CT L n H l1 l2 → FndL CT L n H (l1.map fun p => if p.1 = nm then (p.1, v) else p) (l2.map fun kv => if kv.1 = Sum.inr nm then (kv.1, x) else kv) := by
          intro l1 l2 p
          induction p with
          | nil => exact .nil
          | cons q t ih =>
            rename_i a b _ _
            rw [List.map_cons, List.map_cons]
            refine .cons ?_ ih
            by_cases c : a.1 = nm
            · have c2 : b.1 = Sum.inr nm := by rw [q.1, c]
              rw [if_pos c, if_pos c2]
              exact ⟨q.1, r⟩
            · have c2 : ¬ b.1 = Sum.inr nm := fun z => c (by rw [q.1] at z; exact Sum.inr.inj z)
              rw [if_neg c, if_neg c2]
              exact q
        exact key t)
      by_cases c : a.1 = nm
      · have c2 : b.1 = Sum.inr nm := by rw [q.1, c]
        rw [if_pos c, if_pos c2]
        exact ⟨q.1, r⟩
      · have c2 : ¬ b.1 = Sum.inr nm := fun z => c (by rw [q.1] at z; exact Sum.inr.inj z)
        rw [if_neg c, if_neg c2]
        exact q
  · exact Paired.snoc h ⟨rfl, r⟩

/-! ### promises -/
def spBuiltAt (T : Tb) (CT CP CV : Addr) (n : Nat) : Sp := fun vs H Q E => ∃ (p : Addr) (o : Opt) (x : V) (r : RV) (pt : Addr) (xs : List V) (L : List Addr), vs = [.ref p, x, .ref pt] ∧ PasAt CP o H p ∧ LT H L ∧ RepR [] n H r x ∧ okR n r ∧ H pt = some (.tup xs) ∧ xs.length + n ≤ 100 ∧
  (∀ v, buildM o n r = some v → ∀ y H', Ex T [] H H' → Rep CT L n H' v y → Q y H') ∧
  (buildM o n r = none → ∀ d y1 y2 H', Ex T [] H H' → H' d = some (.xd (fs2 y1 y2)) → E (.ref CV) (some d) H')
def spBTab (T : Tb) (CT CP CV : Addr) (n : Nat) : Sp := fun vs H Q E => ∃ (p : Addr) (o : Opt) (l : Addr) (ys : List V) (ps : List (Str × RV)) (pt : Addr) (xs : List V) (L : List Addr), vs = [.ref p, .ref l, .ref pt] ∧ PasAt CP o H p ∧ LT H L ∧ H l = some (.lst ys) ∧ PairL [] n H ps ys ∧ ps.length ≤ 60 ∧ (∀ q ∈ ps, okT q.1 ∧ okR n q.2) ∧ H pt = some (.tup xs) ∧ xs.length + (n + 1) ≤ 100 ∧
  (∀ fs, foundM (buildM o n) o ps [] = some fs → ∀ y H', Ex T [] H H' → Rep CT L (n + 1) H' (.tab (tabOf o fs)) y → Q y H') ∧
  (foundM (buildM o n) o ps [] = none → ∀ d y1 y2 H', Ex T [] H H' → H' d = some (.xd (fs2 y1 y2)) → E (.ref CV) (some d) H')
abbrev nBT : List Str := ["self", "pairs", "path", "found", "name", "raw", "item"]
abbrev psBT : List Str := ["self", "pairs", "path"]
abbrev psBA : List Str := ["self", "raw", "path"]
theorem sc_btab : FnScope nBT psBT (defScope (inClass (top 38) 5)) := ⟨rfl, rfl, rfl, by decide +kernel, rfl, by decide +kernel, by decide +kernel⟩
def tBtBody (K : PySem.W.Frag) (T : Tb) (CT CP CV : Addr) (n : Nat) (E : XK) : TS :=
  tSeq (tIfS (tAnd (tB (tDIn (tVar 4) (tVar 3))) (tOpt K 0 "same_keys" "refuse")) (fun _ σ H => tMkO CV (spE2 CV) [] (tCons (tC (.str "double")) (tCons (tOp (rCatA K) (tVar 2) (tTup (tCons (tVar 4) tNil))) tNil)) σ H fun cls d H' => E cls d H') tNext)
  (tSeq (tAsg (tMeth CP "built_at" (spBuiltAt T CT CP CV n) [] E (tVar 0) (tCons (tVar 5) (tCons (tOp (rCatA K) (tVar 2) (tTup (tCons (tVar 4) tNil))) tNil))) (gName 6))
  (tIfS (tOr (tB (tDNotIn (tVar 4) (tVar 3))) (tOpt K 0 "same_keys" "last")) (sDPut (tVar 3) (tVar 4) (tVar 6)) tNext))
theorem path_read {K : PySem.W.Frag} {T : Tb} {σ : L2.St} {H3 : Hp} {QQ : V → Hp → Prop} {i j : Nat} {pt : Addr} {xs : List V} {z : V} (h2 : σ[i]? = some (some (.ref pt))) (h5 : σ[j]? = some (some z)) (h3 : H3 pt = some (.tup xs)) (hxs : xs.length ≤ 100)
    (hq : ∀ q ql H4, Ex T [] H3 H4 → H4 q = some (.tup ql) → ql.length ≤ xs.length + 1 → QQ (.ref q) H4) : tOp (rCatA K) (tVar i) (tTup (tCons (tVar j) tNil)) σ H3 QQ := by
  refine ⟨_, h2, _, h5, by show 1 ≤ sizeLine; decide, fun kt hkt => ?_⟩
  have e3 : Ex T [] H3 (upd H3 kt (.tup [z])) := Ex.new hkt _
  exact ⟨pt, kt, xs, [z], rfl, rfl, SqT.of (e3.tup h3), SqT.of upd_same, by rw [List.length_singleton]; exact Nat.le_of_lt (lt1000 (by omega)), fun _ => hq kt _ _ e3 upd_same (by simp), fun _ z => absurd z (by simp), fun _ _ p3 hp3 => hq p3 _ _ (e3.then_new hp3 _) upd_same (by simp)⟩
theorem btab_loop (F : PF K CP) {n : Nat} {H : Hp} {o : Opt} {p pt d l : Addr} {L : List Addr} {xs ys : List V} {ps : List (Str × RV)} {E : XK} {D : Ends} (hd : H d = none) (hp : PasAt CP o H p) (hl : H l = some (.lst ys)) (hpt : H pt = some (.tup xs)) (hxs : xs.length + (n + 1) ≤ 100) (lt : LT H L)
    (pl : PairL [] n H ps ys) (hps : ps.length ≤ 60) (ok : ∀ q ∈ ps, okT q.1 ∧ okR n q.2)
    (hE : foundM (buildM o n) o ps [] = none → ∀ dd y1 y2 Hf, Ex T [] H Hf → Hf dd = some (.xd (fs2 y1 y2)) → E (.ref CV) (some dd) Hf)
    (hnx : ∀ fs kvs v4 v5 v6 Hi, foundM (buildM o n) o ps [] = some fs → Ex T [] H Hi → Hi d = some (.dK kvs) → FndL CT (d :: L) n Hi fs kvs → D.nx [some (.ref p), some (.ref l), some (.ref pt), some (.ref d), v4, v5, v6] Hi) :
    ForW (Itl K l) (gTup K 2 (gCons (gName 4) (gCons (gName 5) gNil))) (tBtBody K T CT CP CV n E) D [some (.ref p), some (.ref l), some (.ref pt), some (.ref d), none, none, none] (upd H d (.dK [])) := by
  obtain ⟨dxp, hp⟩ := hp
  have hlen : ps.length = ys.length := pl.length
  have e0 : Ex T [] H (upd H d (.dK [])) := Ex.new hd _
  refine forw_it (walk_list (K := K) (a := l)) (fun i σ Hi => ∃ v4 v5 v6 acc kvs, σ = [some (.ref p), some (.ref l), some (.ref pt), some (.ref d), v4, v5, v6] ∧ Hi d = some (.dK kvs) ∧ acc.length ≤ i ∧ Ex T [] H Hi ∧ FndL CT (d :: L) n Hi acc kvs ∧ (acc.map (·.1)).Nodup ∧ foundM (buildM o n) o ps [] = foundM (buildM o n) o (ps.drop i) acc)
    ⟨none, none, none, [], [], rfl, upd_same, Nat.le_refl _, e0, .nil, List.nodup_nil, by rw [List.drop_zero]⟩ (fun i σ Hi _ ⟨_, _, _, _, _, _, _, _, e, _⟩ => SqL.of (e.lst hl)) ?_ ?_
  · rintro i z σ Hi0 Hi hi ⟨v4, v5, v6, acc, kvs, rfl, hdi, hal, e, fl, nd, hk⟩ ⟨rfl, hz⟩
    obtain ⟨q0, hq0, t, v, rfl, _, ht, rv⟩ := paired_get pl hz
    have hi2 : i < ps.length := by omega
    have eq0 : ps[i] = q0 := by
      have := List.getElem?_eq_getElem hi2
      rw [hq0] at this
      exact (Option.some.inj this).symm
    obtain ⟨nm, r⟩ := q0
    have hok := ok _ (List.mem_of_getElem? hq0)
    rw [List.drop_eq_getElem_cons hi2, eq0, foundM] at hk
    have hkl : kvs.length = acc.length := fl.length.symm
    refine ⟨t, _, rfl, SqT.of (e.tup ht), rfl, _, _, rfl, _, _, rfl, rfl, ?_⟩
    refine ⟨_, rfl, _, rfl, d, _, rfl, .inl ⟨kvs, .inr nm, .inl hdi, rfl, rfl⟩, _, rfl, ?_⟩
    rw [fnd_has fl]
    have T1 : ∀ {kk : Bool → Hp → Prop}, kk (hasK acc nm && decide (o.sk = "refuse")) Hi → (if hasK acc nm = true then tOpt K 0 "same_keys" "refuse" [some (.ref p), some (.ref l), some (.ref pt), some (.ref d), some (.str nm), some v, v6] Hi kk else kk false Hi) := by
      intro kk hkk
      cases c : hasK acc nm with
      | true =>
        rw [c] at hkk
        exact iteT (opt_test F (by decide +kernel) lk_sk rfl ⟨dxp, e.ins hp⟩ hkk)
      | false =>
        rw [c] at hkk
        exact iteF hkk
    refine T1 ?_
    by_cases c1 : (hasK acc nm && decide (o.sk = "refuse")) = true
    · rw [if_pos c1] at hk
      show if (hasK acc nm && decide (o.sk = "refuse")) = true then _ else _
      rw [if_pos c1]
      refine path_read (T := T) rfl rfl (e.tup hpt) (by omega) fun q ql H4 e4 hq hql => ⟨by show 2 ≤ 1000; decide, fun a ha => ?_⟩
      exact mk2 (Q := fun cls d H' => E cls d H') ha fun dd Hf sf hdf => hE hk dd _ _ Hf (e.trans (e4.trans (Ex.same sf))) hdf
    · rw [if_neg c1] at hk
      show if (hasK acc nm && decide (o.sk = "refuse")) = true then _ else _
      rw [if_neg c1]
      refine ⟨_, rfl, p, dxp, _, rfl, e.ins hp, rfl, _, rfl, ?_⟩
      refine path_read (T := T) rfl rfl (e.tup hpt) (by omega) fun q ql H4 e4 hq hql => ?_
      have e14 := e.trans e4
      refine ⟨p, o, v, r, q, ql, d :: L, rfl, ⟨dxp, e14.ins hp⟩, (lt.ex e14).add (e4.dK hdi) (fun _ y => nomatch y), repR_kee e14.kee rv, hok.2, hq, by omega, fun u hu y H5 e5 ry => ?_, fun hn dd y1 y2 H5 e5 hdd => ?_⟩
      · have hk2 : foundM (buildM o n) o ps [] = foundM (buildM o n) o (ps.drop (i + 1)) (if (!hasK acc nm || decide (o.sk = "last")) = true then putP acc nm u else acc) := by rw [hk, hu]
        have e15 := e14.trans e5
        have hd5 := e5.dK (e4.dK hdi)
        have fl5 : FndL CT (d :: L) n H5 acc kvs := FndL.kee fl ((e4.trans e5).kee.of_nil)
        refine ⟨_, rfl, _, rfl, d, _, rfl, .inl ⟨kvs, .inr nm, .inl hd5, rfl, rfl⟩, _, rfl, ?_⟩
        rw [fnd_has fl5]
        have T2 : ∀ {kk : Bool → Hp → Prop}, kk (!hasK acc nm || decide (o.sk = "last")) H5 → (if (!hasK acc nm) = true then kk true H5 else tOpt K 0 "same_keys" "last" [some (.ref p), some (.ref l), some (.ref pt), some (.ref d), some (.str nm), some v, some y] H5 kk) := by
          intro kk hkk
          cases c : hasK acc nm with
          | true =>
            rw [c] at hkk
            exact iteF (opt_test F (by decide +kernel) lk_sk rfl ⟨dxp, e15.ins hp⟩ hkk)
          | false =>
            rw [c] at hkk
            exact iteT hkk
        refine T2 ?_
        by_cases c2 : (!hasK acc nm || decide (o.sk = "last")) = true
        · rw [if_pos c2] at hk2
          show if (!hasK acc nm || decide (o.sk = "last")) = true then _ else _
          rw [if_pos c2]
          obtain ⟨n1, n2, n3⟩ := putP_names (k := nm) (v := u) nd
          refine ⟨_, rfl, _, rfl, _, rfl, d, _, rfl, DPut.k (k := .inr nm) hd5 (lt1000 (by omega)), ?_⟩
          refine ⟨_, _, _, putP acc nm u, putK kvs (.inr nm) y, rfl, upd_same, by omega, e15.then_store hd hd5 ⟨(fun ps y => nomatch y), (fun φ y => nomatch y)⟩, ?_, n1, hk2⟩
          exact FndL.kee (fnd_put fl5 ry) (Kee.put List.mem_cons_self _)
        · rw [if_neg c2] at hk2
          show if (!hasK acc nm || decide (o.sk = "last")) = true then _ else _
          rw [if_neg c2]
          exact ⟨_, _, _, acc, kvs, rfl, hd5, by omega, e15, fl5, nd, hk2⟩
      · exact hE (by rw [hk, hn]) dd y1 y2 H5 (e14.trans e5) hdd
  · rintro σ Hi ⟨v4, v5, v6, acc, kvs, rfl, hdi, hal, e, fl, nd, hk⟩
    rw [List.drop_eq_nil_of_le (by omega)] at hk
    refine hnx acc kvs v4 v5 v6 Hi ?_ e hdi fl
    rw [hk]
    rfl

theorem tabOf_snoc {o : Opt} {l : List (Str × PV)} {p : Str × PV} : tabOf o (l ++ [p]) = if (!isNon p.2 || decide (o.ni = "keep")) = true then tabOf o l ++ [(builtKey o p.1, p.2)] else tabOf o l := by
  unfold tabOf
  rw [List.filter_append, List.map_append]
  by_cases c : (!isNon p.2 || decide (o.ni = "keep")) = true
  · rw [if_pos c]
    simp only [List.filter_cons, List.filter_nil, if_pos c]
    rfl
  · rw [if_neg c]
    simp only [List.filter_cons, List.filter_nil, if_neg c]
    simp
theorem tabOf_len {o : Opt} {l : List (Str × PV)} : (tabOf o l).length ≤ l.length := by
  unfold tabOf
  rw [List.length_map]
  exact List.length_filter_le _ _
def tKeepT (K : PySem.W.Frag) : TT := tOr (tTest (tOp (fun x y H Q => y = .non ∧ Q (.bl (!decide (x = .non))) H) (tVar 6) (tC .non))) (tOpt K 0 "null_items" "keep")
def tKeepE (CP : Addr) : TE := tTup (tCons (tMeth CP "built_key" (spKey CP) [] E0 (tVar 0) (tCons (tVar 4) tNil)) (tCons (tVar 6) tNil))
theorem btab_comp (F : PF K CP) {n : Nat} {H : Hp} {o : Opt} {p d D : Addr} {L : List Addr} {x1 x2 : V} {v4 v5 v6 : Option V} {fs : List (Str × PV)} {kvs : List (Key × V)} {od : Obj} {Qd : Hp → Prop} (hD : H D = none) (lt : LT H L) (hp : PasAt CP o H p) (hd : H d = some (.frz od (.dK kvs))) (hl : fs.length ≤ 100) (fl : FndL CT L n H fs kvs) (ok : ∀ q ∈ fs, okT q.1)
    (hq : ∀ Hi ts, Ex T [] H Hi → Hi D = some (.lst (ts.map V.ref)) → EntL CT L n Hi (tabOf o fs) ts → Qd Hi) :
    LcW (Iti d od kvs) (gTup K 2 (gCons (gName 4) (gCons (gName 6) gNil))) (tKeepT K) (tKeepE CP) [4, 6] [some (.ref p), some x1, some x2, some (.ref d), v4, v5, v6] H D Qd := by
  obtain ⟨dxp, hp⟩ := hp
  have hlen : fs.length = kvs.length := fl.length
  refine lcw_it walk_items (fun i Hi => ∃ ts, Hi D = some (.lst (ts.map V.ref)) ∧ ts.length ≤ i ∧ Ex T [] H Hi ∧ EntL CT (D :: L) n Hi (tabOf o (fs.take i)) ts) ⟨[], upd_same, Nat.le_refl _, Ex.new hD _, .nil⟩ (fun i Hi _ ⟨_, _, _, e, _⟩ => e.frz hd) ?_ ?_
  · rintro i z Hi H2 hi ⟨ts, ha, htl, e, en⟩ ⟨Tp, z1, z2, rfl, hT, rfl, h1, h2⟩
    have q1 : kvs[i]? = some kvs[i] := List.getElem?_eq_getElem hi
    simp only [q1, Option.map_some] at h1 h2
    obtain rfl := Option.some.inj h1
    obtain rfl := Option.some.inj h2
    obtain ⟨q0, hq0, rk, rv⟩ := paired_get fl q1
    have hok := ok q0 (List.mem_of_getElem? hq0)
    have htake : fs.take (i + 1) = fs.take i ++ [q0] := by rw [List.take_succ, hq0]; rfl
    have htab : tabOf o (fs.take (i + 1)) = if (!isNon q0.2 || decide (o.ni = "keep")) = true then tabOf o (fs.take i) ++ [(builtKey o q0.1, q0.2)] else tabOf o (fs.take i) := by rw [htake, tabOf_snoc]
    have nTD : D ≠ Tp := ne_of_none ha hT
    have e2 : Ex T [] H (upd Hi Tp (.tup [kV kvs[i].1, kvs[i].2])) := e.then_new hT _
    have ha2 : upd Hi Tp (.tup [kV kvs[i].1, kvs[i].2]) D = some (.lst (ts.map V.ref)) := by rw [upd_ne nTD]; exact ha
    have en2 : EntL CT (D :: L) n (upd Hi Tp (.tup [kV kvs[i].1, kvs[i].2])) (tabOf o (fs.take i)) ts := EntL.kee en (Ex.new (T := T) (L := []) hT _).kee
    have rv2 : Rep CT (D :: L) n (upd Hi Tp (.tup [kV kvs[i].1, kvs[i].2])) q0.2 kvs[i].2 := rep_kee e2.kee.of_nil (rep_add (fun b hb => (List.mem_cons.mp hb).elim (fun z => .inr (by rw [z]; exact hD)) .inl) rv)
    refine ⟨Tp, _, rfl, SqT.of upd_same, rfl, _, _, rfl, _, _, rfl, rfl, rfl, ?_⟩
    refine ⟨_, rfl, rfl, _, rfl, ?_⟩
    rw [rep_non rv2]
    have T1 : ∀ {kk : Bool → Hp → Prop}, kk (!isNon q0.2 || decide (o.ni = "keep")) (upd Hi Tp (.tup [kV kvs[i].1, kvs[i].2])) → (if (!isNon q0.2) = true then kk true (upd Hi Tp (.tup [kV kvs[i].1, kvs[i].2])) else tOpt K 0 "null_items" "keep" [some (.ref p), some x1, some x2, some (.ref d), some (kV kvs[i].1), v5, some kvs[i].2] (upd Hi Tp (.tup [kV kvs[i].1, kvs[i].2])) kk) := by
      intro kk hkk
      cases c : isNon q0.2 with
      | true =>
        rw [c] at hkk
        exact iteF (opt_test F (by decide +kernel) lk_ni rfl ⟨dxp, e2.ins hp⟩ hkk)
      | false =>
        rw [c] at hkk
        exact iteT hkk
    refine T1 ?_
    by_cases c : (!isNon q0.2 || decide (o.ni = "keep")) = true
    · rw [if_pos c] at htab
      show if (!isNon q0.2 || decide (o.ni = "keep")) = true then _ else _
      rw [if_pos c]
      refine ⟨_, rfl, p, dxp, _, rfl, e2.ins hp, rfl, _, rfl, p, o, q0.1, by rw [rk]; rfl, ⟨dxp, e2.ins hp⟩, hok, _, rfl, by show 2 ≤ sizeLine; decide, fun t ht => ?_⟩
      have nt : D ≠ t := ne_of_none ha2 ht
      have e3 : Ex T [] H (upd (upd Hi Tp (.tup [kV kvs[i].1, kvs[i].2])) t (.tup [kV (builtKey o q0.1), kvs[i].2])) := e2.then_new ht _
      have ha3 : upd (upd Hi Tp (.tup [kV kvs[i].1, kvs[i].2])) t (.tup [kV (builtKey o q0.1), kvs[i].2]) D = some (.lst (ts.map V.ref)) := by rw [upd_ne nt]; exact ha2
      refine ⟨ts.map V.ref, ha3, lt1000 (by rw [List.length_map]; omega), ts ++ [t], by rw [upd_same, List.map_append]; rfl, by rw [List.length_append]; show ts.length + 1 ≤ i + 1; omega, e3.grow hD ha3 _, ?_⟩
      rw [htab]
      refine EntL.put (xs := ts.map V.ref) ?_ ha3 List.mem_cons_self
      exact Paired.snoc (EntL.kee en2 (Ex.new (T := T) (L := []) ht _).kee) ⟨kvs[i].2, upd_same, rep_kee (Kee.new ht _) rv2⟩
    · rw [if_neg c] at htab
      show if (!isNon q0.2 || decide (o.ni = "keep")) = true then _ else _
      rw [if_neg c]
      exact ⟨ts, ha2, by omega, e2, by rw [htab]; exact en2⟩
  · rintro Hi ⟨ts, ha, htl, e, en⟩
    rw [List.take_of_length_le (by omega)] at en
    exact hq Hi ts e ha (EntL.less en fun b hb => List.mem_cons_of_mem _ hb)
theorem ok_btab (D : Dm K CP "built_table" "Reader.built_table" (inClass (top 38) 5)) (B : Bl mg) (F : PF K CP) (FV : XF K mg CV "Unreadable" "Unreadable.__init__" (inClass (top 10) 0)) (hgT : mg "Table" = some (.ref CT)) (hBk : HasM P w K mg base CX0 2 CP "built_key" ["self", "name"] (spKey CP)) {n k : Nat} (hkn : n + 3 ≤ k)
    (hTm : HasT P w K mg base T CT n) (hA : HasM P w K mg base (L2N.CX P w) k CP "built_at" psBA (spBuiltAt T CT CP CV n)) : HasM P w K mg base (L2N.CX P w) (k + 1) CP "built_table" psBT (spBTab T CT CP CV n) := by
  obtain ⟨fb, fdb, mb, bb, Gb⟩ := hBk.ex
  obtain ⟨fa, fda, ma, ba, Ga⟩ := hA.ex
  obtain ⟨ft, fdt, MK, bt, Gt⟩ := hTm.ex
  obtain ⟨fu, fdu, iu, tu, bu, Gu⟩ := (ok_E10 (P := P) (w := w) (base := base) FV).ex
  refine D.hasX sc_btab (fun vs H Q E h => ?_) (fun _ _ _ _ _ _ us hl => match us, hl with | [_, _, _], _ => rfl) (fun f cdv A outer s H vs Q E hr h => ?_)
  · obtain ⟨p, o, l, ys, ps, pt, xs, L, rfl, _⟩ := h
    rfl
  obtain ⟨p, o, l, ys, ps, pt, xs, L, rfl, hp, lt, hl, pl, hps, ok, hpt, hxs, q1, q2⟩ := h
  have hu := hu_of hr
  have hr2 : Room 2 (A.deeper (envOfC "Reader.built_table" (defScope (inClass (top 38) 5)) s.heap.objs.size f cdv)) := hr.mono (by omega)
  have hrT : Room (n + 2 + 1) (A.deeper (envOfC "Reader.built_table" (defScope (inClass (top 38) 5)) s.heap.objs.size f cdv)) := hr.mono (by omega)
  refine ⟨_, pss_cons (ps_set (i := 3) sc_btab.nd rfl (.inl rfl) pe_dnewK)
    (pss_cons (ps_for (L2.passes_of rfl) rfl (pi_list (pv 1)) (pg_tup rfl (pgs_cons (pg_name (i := 4) sc_btab.nd rfl (.inl rfl)) (pgs_cons (pg_name (i := 5) sc_btab.nd rfl (.inl rfl)) pgs_nil)))
      (pss_cons (ps_if (PW.pt (pw_and (pt_cmp (pc_din hu (pv 4) (pv 3))) (pw_and1 (pt_cmpR op_eq (pe_fld (pv 0) rfl) pe_str (nomark _))))) (pss_one (L2N.ps_raise rfl (L2N.takes_of rfl rfl rfl rfl) (pmkN_oex FV.ox iu tu Gu hr2 bu pass0 rfl FV.gl (pa_cons pe_str (pa_cons (pe_op op_catA (pv 2) (pe_tup (pa_cons (pv 4) pa_nil))) pa_nil))))) pss_nil)
      (pss_cons (ps_set (i := 6) sc_btab.nd rfl (.inl rfl) (pe_meth (pv 0) F.cl ma Ga hr ba .nil (L2N.passes_call (L2N.takes_of rfl rfl rfl rfl) (fun _ _ _ _ h => h)) (pa_cons (pv 5) (pa_cons (pe_op op_catA (pv 2) (pe_tup (pa_cons (pv 4) pa_nil))) pa_nil))))
      (pss_one (ps_if (PW.pt (pw_or (pt_cmp (pc_dnotin hu (pv 4) (pv 3))) (pw_or1 (pt_cmpR op_eq (pe_fld (pv 0) rfl) pe_str (nomark _))))) (pss_one (ps_dput hu (pv 3) (pv 4) (pv 6) rfl)) pss_nil)))))
    (pss_one (ps_ret (pe_make MK Gt hrT rfl hgT bt .nil pass0 (pa_cons (pe_lock (pe_lc (own := [("name", 4), ("item", 6)]) (g := gTup K 2 (gCons (gName 4) (gCons (gName 6) gNil))) (tt := tKeepT K) (te := tKeepE CP) rfl sc_btab.nd (pi_items (pv 3)) (blkOk_by (N := nBT) (sc := defScope (inClass (top 38) 5)) (by decide +kernel))
      (fun _ _ _ _ _ => pg_tup rfl (pgs_cons (pg_name (i := 4) sc_btab.nd rfl (.inl rfl)) (pgs_cons (pg_name (i := 6) sc_btab.nd rfl (.inl rfl)) pgs_nil)))
      (fun _ _ _ _ _ => pts_one (PW.pt (pw_or (pt_cmpR op_notN (pv 6) pe_non (nomark _)) (pw_or1 (pt_cmpR op_eq (pe_fld (pv 0) rfl) pe_str (nomark _))))))
      (fun _ _ _ _ _ => pe_tup (pa_cons (pe_meth (pv 0) F.cl mb Gb hr2 bb .nil pass0 (pa_cons (pv 4) pa_nil)) (pa_cons (pv 6) pa_nil))))) pa_nil))))), ?_⟩
  intro d hd
  refine ⟨_, rfl, l, rfl, ⟨_, (Ex.new (T := T) (L := []) hd _).sql (SqL.of hl)⟩, btab_loop (T := T) (L := L) F hd hp hl hpt hxs lt pl hps ok (fun hn dd y1 y2 Hf ef hdd => q2 hn dd y1 y2 Hf ef hdd) (fun fs kvs v4 v5 v6 Hi hfs e hdi fl => ?_)⟩
  obtain ⟨m1, m2, m3⟩ := foundM_names hfs List.nodup_nil
  have okn : ∀ q ∈ fs, okT q.1 := fun q hq => by
    rcases m2 q hq with z | z
    · cases z
    · obtain ⟨q', hq', e'⟩ := List.mem_map.mp z
      rw [← e']
      exact (ok q' hq').1
  have hfl : fs.length ≤ 100 := by simp at m3; omega
  have lt1 : LT Hi (d :: L) := (lt.ex e).add hdi (fun _ y => nomatch y)
  refine ⟨d, _, hdi, True.intro, fun od => ?_⟩
  have kl : Kee (d :: L) Hi (upd Hi d (.frz od (.dK kvs))) := Kee.lock hdi
  obtain ⟨dxp, hpi⟩ := id hp
  refine ⟨_, rfl, d, od, kvs, rfl, upd_same, fun Dl hDl => ?_⟩
  refine btab_comp (T := T) F hDl (lt1.put (fun _ y => nomatch y)) ⟨dxp, by rw [upd_ne (ne_of (e.ins hpi) hdi (fun y => nomatch y))]; exact e.ins hpi⟩ upd_same hfl (FndL.kee fl kl) okn fun Hj ts ej hDj en => ?_
  have hfr := ej.frz upd_same
  have eu : Ex T [] Hi (upd Hj d (.dK kvs)) := Ex.locked hdi ej hfr
  refine ⟨hfr, fun x dx nx ndx nex => ?_⟩
  have nDd : Dl ≠ d := fun z => by rw [z, hfr] at hDj; cases hDj
  have e3 : Ex T [] H (upd Hj d (.dK kvs)) := e.trans eu
  have sm : Same (upd Hj d (.dK kvs)) (upd (upd (upd Hj d (.dK kvs)) dx (.own x)) x (.ins CT dx [])) := fun b o' q => by
    rw [upd_ne (ne_of_none q nx), upd_ne (ne_of_none q ndx)]
    exact q
  have e4 : Ex T [] H (upd (upd (upd Hj d (.dK kvs)) dx (.own x)) x (.ins CT dx [])) := e3.trans (Ex.same sm)
  refine ⟨L, x, dx, Dl, tabOf o fs, ts, rfl, upd_same, (lt.ex e3).notin nx, lt.ex e4, SqL.of (sm _ _ (by rw [upd_ne nDd]; exact hDj)), EntL.kee (EntL.kee (EntL.less en fun b hb => List.mem_cons_of_mem _ hb) (Kee.unlock hfr)) (Ex.same (T := T) sm).kee, tabOf_nodup m1 okn, Nat.le_trans tabOf_len (by omega), fun H' e5 rp => ⟨rfl, ?_⟩⟩
  exact q1 fs hfs _ H' (e3.trans (Ex.made nx ndx e5)) rp

/-! ### built_at -/
def kindR : RV → Nat
  | .non => 0
  | .bl _ => 1
  | .int _ => 2
  | .str _ => 3
  | .row _ => 5
  | .tab _ => 5
theorem repR_sh {CT : Addr} {L : List Addr} {H : Hp} : ∀ {n : Nat} {v : RV} {x : V}, RepR L n H v x → Sh CT H x (kindR v)
  | _, .non, _, h => by unfold RepR at h; subst h; exact .non
  | _, .bl b, _, h => by unfold RepR at h; subst h; exact .bl b
  | _, .int i, _, h => by unfold RepR at h; subst h; exact .int i
  | _, .str z, _, h => by unfold RepR at h; subst h; exact .str z
  | 0, .row _, _, h => by unfold RepR at h; exact False.elim h
  | 0, .tab _, _, h => by unfold RepR at h; exact False.elim h
  | n + 1, .row vs, x, h => by
    unfold RepR at h
    obtain ⟨a, l, ys, rfl, _, _, e, _⟩ := h
    exact .tup e
  | n + 1, .tab es, x, h => by
    unfold RepR at h
    obtain ⟨a, l, ys, rfl, _, _, e, _⟩ := h
    exact .tup e
abbrev nBA : List Str := ["self", "raw", "path", "shape", "members", "items", "index", "item"]
theorem sc_bat : FnScope nBA psBA (defScope (inClass (top 38) 4)) := ⟨rfl, rfl, rfl, by decide +kernel, rfl, by decide +kernel, by decide +kernel⟩
theorem build_sc {o : Opt} {L : List Addr} {n : Nat} {H : Hp} {r : RV} {x : V} (rp : RepR [] n H r x) (h : (kindR r == 5) = false) : ∃ v, buildM o n r = some v ∧ Rep CT L n H v x := by
  cases r with
  | row vs => exact absurd h (by simp [kindR])
  | tab ps => exact absurd h (by simp [kindR])
  | non => exact ⟨.non, by cases n <;> rfl, by unfold RepR at rp; unfold Rep; exact rp⟩
  | bl b => exact ⟨.bl b, by cases n <;> rfl, by unfold RepR at rp; unfold Rep; exact rp⟩
  | int i => exact ⟨.int i, by cases n <;> rfl, by unfold RepR at rp; unfold Rep; exact rp⟩
  | str z => exact ⟨.str z, by cases n <;> rfl, by unfold RepR at rp; unfold Rep; exact rp⟩
theorem ok_bat0 (D : Dm K CP "built_at" "Reader.built_at" (inClass (top 38) 4)) (B : Bl mg) (FT : TF K CT) : HasM P w K mg base (L2N.CX P w) 7 CP "built_at" psBA (spBuiltAt T CT CP CV 0) := by
  refine D.hasX sc_bat (fun vs H Q E h => ?_) (fun _ _ _ _ _ _ us hl => match us, hl with | [_, _, _], _ => rfl) (fun f cdv A outer s H vs Q E hr h => ?_)
  · obtain ⟨p, o, x, r, pt, xs, L, rfl, _⟩ := h
    rfl
  obtain ⟨p, o, x, r, pt, xs, L, rfl, hp, lt, rp, or, hpt, hxs, q1, q2⟩ := h
  have sh := repR_sh (CT := CT) rp
  have hk : (kindR r == 5) = false := by
    cases r with
    | row vs => unfold RepR at rp; exact False.elim rp
    | tab vs => unfold RepR at rp; exact False.elim rp
    | _ => rfl
  obtain ⟨v, hv, rv⟩ := build_sc (CT := CT) (L := L) (o := o) rp hk
  refine ⟨_, pss_cons (ps_if (pt_not (pt_val (pe_callB call_isi rfl B.isinstance (by decide +kernel) (pa_cons (pv 1) (pa_cons (pe_bltn (v := .ty "tuple") rfl B.tuple (by decide +kernel) rfl) pa_nil))))) (pss_one (ps_ret (pv 1))) pss_nil) pss_never, ?_⟩
  refine ⟨_, rfl, _, _, _, _, _, rfl, .ty "tuple", sh.ty FT, kit_tuple FT sh.lt, _, rfl, ?_⟩
  rw [hk]
  exact iteT ⟨_, rfl, q1 v hv x H (Ex.refl H) rv⟩
theorem brow_loop (F : PF K CP) {n : Nat} {H : Hp} {o : Opt} {p pt D : Addr} {L : List Addr} {x0 x3 x4 : V} {xs ys : List V} {vs : List RV} {E : XK} {Qd : Hp → Prop} {J : It} {G : Hp → Prop} (w0 : Walk J ys.length G (YPair (fun i => some (.int (i : Nat))) (fun i => ys[i]?))) (hG : ∀ Hi, Ex T [] H Hi → G Hi) (hp : PasAt CP o H p) (hpt : H pt = some (.tup xs)) (hxs : xs.length + (n + 1) ≤ 100)
    (hD : H D = none) (lt : LT H L) (hl : ys.length ≤ 1000) (pa : Paired (RepR [] n H) vs ys) (ov : ∀ v ∈ vs, okR n v)
    (hE : rowM (buildM o n) vs = none → ∀ d y1 y2 Hf, Ex T [] H Hf → Hf d = some (.xd (fs2 y1 y2)) → E (.ref CV) (some d) Hf)
    (hq : ∀ rs acc Hi, rowM (buildM o n) vs = some rs → Ex T [] H Hi → Hi D = some (.lst acc) → acc.length = ys.length → Paired (Rep CT L n Hi) rs acc → Qd Hi) :
    LcW J (gTup K 2 (gCons (gName 6) (gCons (gName 7) gNil))) tYes (tMeth CP "built_at" (spBuiltAt T CT CP CV n) [] E (tVar 0) (tCons (tVar 7) (tCons (tOp (rCatA K) (tVar 2) (tTup (tCons (tVar 6) tNil))) tNil))) [6, 7] [some (.ref p), some x0, some (.ref pt), some x3, some x4, none, none, none] H D Qd := by
  have hlen : vs.length = ys.length := pa.length
  have map0 : ∀ {z : Option (List PV)}, z = z.map (fun r => ([] : List PV) ++ r) := fun {z} => by cases z <;> rfl
  refine lcw_it w0 (fun i Hi => ∃ acc rs, Hi D = some (.lst acc) ∧ acc.length = i ∧ Ex T [] H Hi ∧ Paired (Rep CT (D :: L) n Hi) rs acc ∧ rowM (buildM o n) vs = (rowM (buildM o n) (vs.drop i)).map fun r => rs ++ r) ⟨[], [], upd_same, rfl, Ex.new hD _, .nil, by rw [List.drop_zero]; exact map0⟩ (fun i Hi _ ⟨_, _, _, _, e, _⟩ => hG Hi e) ?_ ?_
  · rintro i z Hi H2 hi ⟨acc, rs, ha, hlen2, e, pp, hk⟩ ⟨Tp, z1, z2, rfl, hT2, rfl, h1, h2⟩
    obtain rfl := Option.some.inj h1
    obtain ⟨v, hv, rv⟩ := paired_get pa h2
    obtain ⟨s1, s2⟩ := rowM_step hv hk
    have nTD : D ≠ Tp := ne_of_none ha hT2
    have e2 : Ex T [] H (upd Hi Tp (.tup [.int (i : Nat), z2])) := e.then_new hT2 _
    have ha2 : upd Hi Tp (.tup [.int (i : Nat), z2]) D = some (.lst acc) := by rw [upd_ne nTD]; exact ha
    obtain ⟨dxp, hpi⟩ := hp
    refine ⟨Tp, _, rfl, SqT.of upd_same, rfl, _, _, rfl, _, _, rfl, rfl, rfl, ?_⟩
    refine ⟨_, rfl, p, dxp, _, rfl, e2.ins hpi, rfl, _, rfl, ?_⟩
    refine path_read (T := T) rfl rfl (e2.tup hpt) (by omega) fun q ql H4 e4 hq4 hql => ?_
    have e24 := e2.trans e4
    refine ⟨p, o, z2, v, q, ql, D :: L, rfl, ⟨dxp, e24.ins hpi⟩, (lt.ex e24).cons (e4.lst ha2), repR_kee e24.kee rv, ov v (List.mem_of_getElem? hv), hq4, by omega, fun r hr y H5 e5 ry => ?_, fun hr d y1 y2 H5 e5 hd => hE (s1 hr) d y1 y2 H5 (e24.trans e5) hd⟩
    have e25 := e24.trans e5
    have ha5 := e5.lst (e4.lst ha2)
    refine ⟨acc, ha5, lt1000 (by omega), acc ++ [y], rs ++ [r], upd_same, by rw [List.length_append, hlen2]; rfl, e25.grow hD ha5 _, ?_, s2 r hr⟩
    have k9 : Kee (D :: L) H5 (upd H5 D (.lst (acc ++ [y]))) := Kee.put List.mem_cons_self _
    have k15 : Kee (D :: L) Hi H5 := ((Ex.new (T := T) (L := []) hT2 _).trans (e4.trans e5)).kee.of_nil
    exact (Paired.snoc (pp.mono fun a b q => rep_kee k15 q) ry).mono fun a b q => rep_kee k9 q
  · rintro Hi ⟨acc, rs, ha, hlen2, e, pp, hk⟩
    rw [List.drop_eq_nil_of_le (by omega)] at hk
    refine hq rs acc Hi ?_ e ha hlen2 (pp.mono fun a b q => rep_less (fun b hb => List.mem_cons_of_mem _ hb) q)
    rw [hk]
    simp [rowM]
theorem ok_batS (D : Dm K CP "built_at" "Reader.built_at" (inClass (top 38) 4)) (B : Bl mg) (F : PF K CP) (FT : TF K CT) {n k : Nat} (hA : HasM P w K mg base (L2N.CX P w) k CP "built_at" psBA (spBuiltAt T CT CP CV n)) (hBT : HasM P w K mg base (L2N.CX P w) (k + 1) CP "built_table" psBT (spBTab T CT CP CV n)) :
    HasM P w K mg base (L2N.CX P w) (k + 2) CP "built_at" psBA (spBuiltAt T CT CP CV (n + 1)) := by
  obtain ⟨fa, fda, ma, ba, Ga⟩ := hA.ex
  obtain ⟨fb, fdb, mb, bb, Gb⟩ := hBT.ex
  refine D.hasX sc_bat (fun vs H Q E h => ?_) (fun _ _ _ _ _ _ us hl => match us, hl with | [_, _, _], _ => rfl) (fun f cdv A outer s H vs Q E hr h => ?_)
  · obtain ⟨p, o, x, r, pt, xs, L, rfl, _⟩ := h
    rfl
  obtain ⟨p, o, x, r, pt, xs, L, rfl, hp, lt, rp, ok, hpt, hxs, q1, q2⟩ := h
  have sh := repR_sh (CT := CT) rp
  have hrk : Room k (A.deeper (envOfC "Reader.built_at" (defScope (inClass (top 38) 4)) s.heap.objs.size f cdv)) := hr.mono (by omega)
  obtain ⟨dxp, hpi⟩ := id hp
  refine ⟨_, pss_cons (ps_if (pt_not (pt_val (pe_callB call_isi rfl B.isinstance (by decide +kernel) (pa_cons (pv 1) (pa_cons (pe_bltn (v := .ty "tuple") rfl B.tuple (by decide +kernel) rfl) pa_nil))))) (pss_one (ps_ret (pv 1))) pss_nil)
    (pss_cons (ps_asg (pv 1) (pg_tup rfl (pgs_cons (pg_name (i := 3) sc_bat.nd rfl (.inl rfl)) (pgs_cons (pg_name (i := 4) sc_bat.nd rfl (.inl rfl)) pgs_nil))))
    (pss_cons (ps_if (pt_cmpR op_eq (pv 3) pe_str (nomark _)) (pss_one (ps_ret (pe_meth (pv 0) F.cl mb Gb hr bb .nil (L2N.passes_call (L2N.takes_of rfl rfl rfl rfl) (fun _ _ _ _ h => h)) (pa_cons (pv 4) (pa_cons (pv 2) pa_nil))))) pss_nil)
    (pss_cons (ps_setLcX (i := 5) (own := [("index", 6), ("item", 7)]) (g := gTup K 2 (gCons (gName 6) (gCons (gName 7) gNil))) (tt := tYes) (te := fun E => tMeth CP "built_at" (spBuiltAt T CT CP CV n) [] E (tVar 0) (tCons (tVar 7) (tCons (tOp (rCatA K) (tVar 2) (tTup (tCons (tVar 6) tNil))) tNil))) rfl rfl (L2N.takes_of rfl rfl rfl rfl) rfl sc_bat.nd rfl rfl (sw_true rfl rfl rfl (by decide +kernel)) (pi_enumA (by rfl) B.enumerate (pa_cons (pv 4) pa_nil)) (blkOk_by (N := nBA) (sc := defScope (inClass (top 38) 4)) (by decide +kernel))
          ⟨fun _ _ _ _ _ _ => pg_tup rfl (pgs_cons (pg_name (i := 6) sc_bat.nd rfl (.inl rfl)) (pgs_cons (pg_name (i := 7) sc_bat.nd rfl (.inl rfl)) pgs_nil)), fun _ _ _ _ _ _ => pts_nil, fun _ _ _ _ _ _ _ hpass => pe_meth (pv 0) F.cl ma Ga hrk ba .nil hpass (pa_cons (pv 7) (pa_cons (pe_op op_catA (pv 2) (pe_tup (pa_cons (pv 6) pa_nil))) pa_nil))⟩)
    (pss_cons (ps_if (pt_cmpR op_eq (pe_fld (pv 0) rfl) pe_str (nomark _)) (pss_one (ps_ret (pe_callTy call_tuple_of rfl B.tuple (by decide +kernel) (pa_cons (pv 5) pa_nil)))) pss_nil)
    (pss_one (ps_ret (pv 5))))))), ?_⟩
  refine ⟨_, rfl, _, _, _, _, _, rfl, .ty "tuple", sh.ty FT, kit_tuple FT sh.lt, _, rfl, ?_⟩
  by_cases hk : (kindR r == 5) = true
  · rw [hk]
    refine iteF ?_
    cases r with
    | non => exact absurd hk (by simp [kindR])
    | bl b => exact absurd hk (by simp [kindR])
    | int b => exact absurd hk (by simp [kindR])
    | str b => exact absurd hk (by simp [kindR])
    | tab ps =>
      unfold RepR at rp
      obtain ⟨a, l, ys, rfl, _, _, ea, el, hyl, pl⟩ := rp
      refine ⟨_, rfl, a, _, rfl, SqT.of ea, rfl, _, _, rfl, _, _, rfl, rfl, ?_⟩
      refine ⟨_, rfl, rfl, _, rfl, ?_⟩
      refine ite2 (fun _ => ?_) (fun z => absurd (by simp) z)
      refine ⟨_, rfl, p, dxp, _, rfl, hpi, rfl, _, rfl, _, rfl, p, o, l, ys, ps, pt, xs, L, rfl, hp, lt, el, pl, ok.1, fun q hq => ok.2 q hq, hpt, hxs, fun fs hfs y H' e ry => q1 (.tab (tabOf o fs)) ?_ y H' e ry, fun hn d y1 y2 H' e hd => q2 ?_ d y1 y2 H' e hd⟩
      · show Option.map _ (foundM (buildM o n) o ps []) = _
        rw [hfs]
        rfl
      · show Option.map _ (foundM (buildM o n) o ps []) = _
        rw [hn]
        rfl
    | row vs =>
      unfold RepR at rp
      obtain ⟨a, l, ys, rfl, _, _, ea, el, hyl, pa⟩ := rp
      refine ⟨_, rfl, a, _, rfl, SqT.of ea, rfl, _, _, rfl, _, _, rfl, rfl, ?_⟩
      refine ⟨_, rfl, rfl, _, rfl, ?_⟩
      refine ite2 (fun z => absurd z (by decide +kernel)) (fun _ => ?_)
      refine ⟨_, rfl, l, ys, rfl, .inl ⟨SqL.of el, fun D hD => ?_⟩⟩
      refine brow_loop (CV := CV) (CT := CT) (x0 := .ref a) (x3 := .str "row") (x4 := .ref l) (vs := vs) F walk_enum (fun Hi e => SqL.of (e.lst el)) hp hpt hxs hD lt hyl pa (fun v hv => ok.2 v hv) (fun hn d y1 y2 Hf ef hd => q2 ?_ d y1 y2 Hf ef hd) fun rs acc Hi hrs ei hDi hal pp => ?_
      · show Option.map _ (rowM (buildM o n) vs) = _
        rw [hn]
        rfl
      · have hb : buildM o (n + 1) (.row vs) = some (.row (decide (o.li = "tuple")) rs) := by
          show Option.map _ (rowM (buildM o n) vs) = _
          rw [hrs]
          rfl
        refine opt_test (z := "tuple") F (by decide +kernel) lk_li rfl (hp.ex ei) ?_
        by_cases c : o.li = "tuple"
        · rw [decide_eq_true c] at hb ⊢
          refine iteT ⟨_, rfl, D, acc, rfl, .inl ⟨SqL.of hDi, fun t ht => ?_⟩⟩
          refine q1 _ hb _ _ (ei.then_new ht _) ?_
          unfold Rep
          exact ⟨t, acc, rfl, (lt.ex ei).notin ht, upd_same, by omega, pp.mono fun a b q => rep_kee (Kee.new ht _) q⟩
        · rw [decide_eq_false c] at hb ⊢
          refine iteF ⟨_, rfl, q1 _ hb _ _ ei ?_⟩
          unfold Rep
          exact ⟨D, acc, rfl, lt.notin hD, hDi, by omega, pp⟩
  · have hk' : (kindR r == 5) = false := by simpa using hk
    rw [hk']
    obtain ⟨v, hv, rv⟩ := build_sc (CT := CT) (L := L) (o := o) rp hk'
    exact iteT ⟨_, rfl, q1 v hv x H (Ex.refl H) rv⟩

theorem ok_bat (D : Dm K CP "built_at" "Reader.built_at" (inClass (top 38) 4)) (DT : Dm K CP "built_table" "Reader.built_table" (inClass (top 38) 5)) (B : Bl mg) (F : PF K CP) (FT : TF K CT) (FV : XF K mg CV "Unreadable" "Unreadable.__init__" (inClass (top 10) 0)) (hgT : mg "Table" = some (.ref CT)) (hBk : HasM P w K mg base CX0 2 CP "built_key" ["self", "name"] (spKey CP))
    (hTm : ∀ n, HasT P w K mg base T CT n) : ∀ n, HasM P w K mg base (L2N.CX P w) (2 * n + 7) CP "built_at" psBA (spBuiltAt T CT CP CV n) := by
  intro n
  induction n with
  | zero => exact ok_bat0 D B FT
  | succ n ih => exact ok_batS D B F FT ih (ok_btab DT B F FV hgT hBk (by omega) (hTm n) ih)
def spBuild (T : Tb) (CT CP CV : Addr) (n : Nat) : Sp := fun vs H Q E => ∃ (p : Addr) (o : Opt) (x : V) (r : RV) (L : List Addr), vs = [.ref p, x] ∧ PasAt CP o H p ∧ LT H L ∧ RepR [] n H r x ∧ okR n r ∧
  (∀ v, buildM o n r = some v → ∀ y H', Ex T [] H H' → Rep CT L n H' v y → Q y H') ∧
  (buildM o n r = none → ∀ d y1 y2 H', Ex T [] H H' → H' d = some (.xd (fs2 y1 y2)) → E (.ref CV) (some d) H')
theorem sc_build : FnScope ["self", "raw"] ["self", "raw"] (defScope (inClass (top 38) 2)) := ⟨rfl, rfl, rfl, by decide +kernel, rfl, by decide +kernel, by decide +kernel⟩
theorem ok_build (D : Dm K CP "build" "Reader.build" (inClass (top 38) 2)) (F : PF K CP) {n k : Nat} (hn : n ≤ 50) (hR : HasM P w K mg base (L2N.CX P w) k CP "built_at" psBA (spBuiltAt T CT CP CV n)) : HasM P w K mg base (L2N.CX P w) (k + 1) CP "build" ["self", "raw"] (spBuild T CT CP CV n) := by
  obtain ⟨fr, fdr, mr, br, Gr⟩ := hR.ex
  refine D.hasX sc_build (fun vs H Q E h => ?_) (fun _ _ _ _ _ _ us hl => match us, hl with | [_, _], _ => rfl) (fun f cdv A outer s H vs Q E hr h => ?_)
  · obtain ⟨p, o, x, r, L, rfl, _⟩ := h
    rfl
  obtain ⟨p, o, x, r, L, rfl, hp, lt, rp, ok, q1, q2⟩ := h
  obtain ⟨dxp, hpi⟩ := id hp
  refine ⟨_, pss_one (ps_ret (pe_meth (pv 0) F.cl mr Gr hr br .nil (L2N.passes_call (L2N.takes_of rfl rfl rfl rfl) (fun _ _ _ _ h => h)) (pa_cons (pv 1) (pa_cons (pe_tup pa_nil) pa_nil)))), ?_⟩
  refine ⟨_, rfl, p, dxp, _, rfl, hpi, rfl, _, rfl, by show 0 ≤ sizeLine; decide, fun tp htp => ?_⟩
  have e1 : Ex T [] H (upd H tp (.tup [])) := Ex.new htp _
  exact ⟨p, o, x, r, tp, [], L, rfl, hp.ex e1, lt.ex e1, repR_kee e1.kee rp, ok, upd_same, by show 0 + n ≤ 100; omega, fun v hv y H' e ry => q1 v hv y H' (e1.trans e) ry, fun hn d y1 y2 H' e hd => q2 hn d y1 y2 H' (e1.trans e) hd⟩
end
end K86
/-! K86Pure: bounds of what is written and built. -/
namespace K86
open PySem L2

theorem okT_txt {i : Int} (h : okI i) : okT (txt i) := by
  obtain ⟨h1, h2⟩ := txt_ok (i := i) (Nat.lt_of_lt_of_le h (by decide))
  exact ⟨h1, by omega⟩
theorem okT_key {k : Key} (h : okK k) : okT (keyText k) := by
  cases k with
  | inl i => exact okT_txt h
  | inr x => exact h
theorem rowM_all {α β : Type} {f : α → Option β} {A : α → Prop} {C : β → Prop} (hf : ∀ x y, A x → f x = some y → C y) : ∀ {l : List α} {r : List β}, rowM f l = some r → (∀ x ∈ l, A x) → r.length = l.length ∧ ∀ y ∈ r, C y
  | [], r, h, _ => by
    unfold rowM at h
    cases h
    exact ⟨rfl, fun y hy => by cases hy⟩
  | x :: l, r, h, ha => by
    unfold rowM at h
    split at h
    · cases h
    · rename_i y hy
      obtain ⟨r', h1, h2⟩ := Option.map_eq_some_iff.mp h
      subst h2
      obtain ⟨k1, k2⟩ := rowM_all hf h1 fun z hz => ha z (List.mem_cons_of_mem _ hz)
      refine ⟨by rw [List.length_cons, List.length_cons, k1], fun z hz => ?_⟩
      rcases List.mem_cons.mp hz with e | hz
      · rw [e]; exact hf x y (ha x List.mem_cons_self) hy
      · exact k2 z hz
theorem pairsM_all {f : PV → Option RV} {o : Opt} {A : Key → Prop} {B : PV → Prop} {C : Str → Prop} {D : RV → Prop} (hk : ∀ k, A k → C (keyText k)) (hf : ∀ x y, B x → f x = some y → D y) : ∀ {l : List (Key × PV)} {seen : List Str} {r : List (Str × RV)}, pairsM f o l seen = some r → (∀ e ∈ l, A e.1 ∧ B e.2) → ∀ q ∈ r, C q.1 ∧ D q.2
  | [], seen, r, h, _ => by
    unfold pairsM at h
    cases h
    exact fun q hq => by cases hq
  | (k, v) :: l, seen, r, h, ha => by
    unfold pairsM at h
    split at h
    · cases h
    · split at h
      · cases h
      · rename_i y hy
        obtain ⟨r', h1, h2⟩ := Option.map_eq_some_iff.mp h
        subst h2
        intro q hq
        rcases List.mem_cons.mp hq with e | hq
        · rw [e]
          exact ⟨hk k (ha _ List.mem_cons_self).1, hf v y (ha _ List.mem_cons_self).2 hy⟩
        · exact pairsM_all hk hf h1 (fun e he => ha e (List.mem_cons_of_mem _ he)) q hq
theorem okR_of {o : Opt} : ∀ {n : Nat} {v : PV} {r : RV}, okV n v → rawM o n v = some r → okR n r
  | 0, .non, r, h, e => by simp [rawM] at e; subst e; exact True.intro
  | 0, .bl b, r, h, e => by simp [rawM] at e; subst e; exact True.intro
  | 0, .str x, r, h, e => by simp [rawM] at e; subst e; exact h
  | 0, .int i, r, h, e => by
    have e' : (if (longI i && !decide (o.ln = "keep")) = true then (if o.ln = "refuse" then none else some (RV.str (txt i))) else some (.int i)) = some r := e
    split at e'
    · split at e'
      · cases e'
      · cases e'; exact okT_txt h
    · cases e'; exact h
  | 0, .row t vs, r, h, e => by simp [okV] at h
  | 0, .tab es, r, h, e => by simp [okV] at h
  | n + 1, .non, r, h, e => by simp [rawM] at e; subst e; exact True.intro
  | n + 1, .bl b, r, h, e => by simp [rawM] at e; subst e; exact True.intro
  | n + 1, .str x, r, h, e => by simp [rawM] at e; subst e; exact h
  | n + 1, .int i, r, h, e => by
    have e' : (if (longI i && !decide (o.ln = "keep")) = true then (if o.ln = "refuse" then none else some (RV.str (txt i))) else some (.int i)) = some r := e
    split at e'
    · split at e'
      · cases e'
      · cases e'; exact okT_txt h
    · cases e'; exact h
  | n + 1, .row t vs, r, h, e => by
    rw [rawM_row] at e
    split at e
    · cases e
    · obtain ⟨rs, h1, h2⟩ := Option.map_eq_some_iff.mp e
      subst h2
      obtain ⟨k1, k2⟩ := rowM_all (A := okV n) (C := okR n) (fun x y hx hy => okR_of hx hy) h1 h.2
      exact ⟨by rw [k1]; exact h.1, k2⟩
  | n + 1, .tab es, r, h, e => by
    rw [rawM_tab] at e
    obtain ⟨rs, h1, h2⟩ := Option.map_eq_some_iff.mp e
    subst h2
    obtain ⟨ks, h3, h4⟩ := Option.bind_eq_some_iff.mp h1
    obtain ⟨s1, s2⟩ := keptM_sub h3
    refine ⟨by rw [pairsM_len h4]; exact Nat.le_trans s2 h.1, ?_⟩
    exact pairsM_all (A := okK) (B := okV n) (C := okT) (D := okR n) (fun k hk => okT_key hk) (fun x y hx hy => okR_of hx hy) h4 fun e he => h.2.2 e (s1 e he)
theorem foundM_all {f : RV → Option PV} {o : Opt} {A : RV → Prop} {C : PV → Prop} (hf : ∀ x y, A x → f x = some y → C y) : ∀ {ps : List (Str × RV)} {acc l : List (Str × PV)}, foundM f o ps acc = some l → (∀ q ∈ ps, A q.2) → (∀ q ∈ acc, C q.2) → ∀ q ∈ l, C q.2
  | [], acc, l, h, _, hacc => by
    unfold foundM at h
    cases h
    exact hacc
  | (nm, r) :: ps, acc, l, h, ha, hacc => by
    unfold foundM at h
    split at h
    · cases h
    · split at h
      · cases h
      · rename_i v hv
        have cv := hf r v (ha _ List.mem_cons_self) hv
        refine foundM_all hf h (fun q hq => ha q (List.mem_cons_of_mem _ hq)) ?_
        split
        · intro q hq
          unfold putP at hq
          split at hq
          · obtain ⟨q', hq', e⟩ := List.mem_map.mp hq
            by_cases c : q'.1 = nm
            · rw [if_pos c] at e; rw [← e]; exact cv
            · rw [if_neg c] at e; rw [← e]; exact hacc q' hq'
          · rcases List.mem_append.mp hq with z | z
            · exact hacc q z
            · rw [List.mem_singleton.mp z]; exact cv
        · exact hacc
theorem okK_built {o : Opt} {x : Str} (h : okT x) : okK (builtKey o x) := by
  unfold builtKey
  split
  · rename_i c
    obtain ⟨i, h1, h2, h3⟩ := dig_int h.1 (Bool.and_eq_true_iff.mp c).2
    rw [h1]
    exact Nat.lt_of_lt_of_le h3 (by decide)
  · exact h
theorem okV_of {o : Opt} : ∀ {n : Nat} {r : RV} {v : PV}, okR n r → buildM o n r = some v → okV n v
  | 0, .non, r, h, e => by simp [buildM] at e; subst e; exact True.intro
  | 0, .bl b, r, h, e => by simp [buildM] at e; subst e; exact True.intro
  | 0, .str x, r, h, e => by simp [buildM] at e; subst e; exact h
  | 0, .int i, r, h, e => by simp [buildM] at e; subst e; exact h
  | 0, .row vs, r, h, e => by simp [okR] at h
  | 0, .tab es, r, h, e => by simp [okR] at h
  | n + 1, .non, r, h, e => by simp [buildM] at e; subst e; exact True.intro
  | n + 1, .bl b, r, h, e => by simp [buildM] at e; subst e; exact True.intro
  | n + 1, .str x, r, h, e => by simp [buildM] at e; subst e; exact h
  | n + 1, .int i, r, h, e => by simp [buildM] at e; subst e; exact h
  | n + 1, .row vs, v, h, e => by
    have e' : (rowM (buildM o n) vs).map (PV.row (decide (o.li = "tuple"))) = some v := e
    obtain ⟨rs, h1, h2⟩ := Option.map_eq_some_iff.mp e'
    subst h2
    obtain ⟨k1, k2⟩ := rowM_all (A := okR n) (C := okV n) (fun x y hx hy => okV_of hx hy) h1 h.2
    exact ⟨by rw [k1]; exact h.1, k2⟩
  | n + 1, .tab ps, v, h, e => by
    have e' : (foundM (buildM o n) o ps []).map (fun l => PV.tab (tabOf o l)) = some v := e
    obtain ⟨fs, h1, h2⟩ := Option.map_eq_some_iff.mp e'
    subst h2
    obtain ⟨m1, m2, m3⟩ := foundM_names h1 List.nodup_nil
    have okn : ∀ q ∈ fs, okT q.1 := fun q hq => by
      rcases m2 q hq with z | z
      · cases z
      · obtain ⟨q', hq', e'⟩ := List.mem_map.mp z
        rw [← e']
        exact (h.2 q' hq').1
    have okv := foundM_all (A := okR n) (C := okV n) (fun x y hx hy => okV_of hx hy) h1 (fun q hq => (h.2 q hq).2) (fun q hq => by cases hq)
    refine ⟨Nat.le_trans tabOf_len (Nat.le_trans m3 (by simpa using h.1)), tabOf_nodup m1 okn, fun q hq => ?_⟩
    unfold tabOf at hq
    obtain ⟨z, hz, e2⟩ := List.mem_map.mp hq
    have hz2 := (List.mem_filter.mp hz).1
    rw [← e2]
    exact ⟨okK_built (okn z hz2), okv z hz2⟩
theorem okV_carry {o : Opt} {n : Nat} {v u : PV} (h : okV n v) (e : carryM o n v = some u) : okV n u := by
  unfold carryM at e
  obtain ⟨r, h1, h2⟩ := Option.bind_eq_some_iff.mp e
  exact okV_of (okR_of h h1) h2
end K86
/-! K86Carry: carry, what_comes_back, unsettled. -/
namespace K86
open PySem PySem.Spec PyProof.Rows L2 HotX L2H

/-! ### o.m(e, ..) whose exceptions are wished for at the slots -/
def tMethP (C : Addr) (m : Str) (sp : Sp) (E : L2.St → XK) (ta : TE) (t : TA) : TE := fun σ H Q => ta σ H fun x H1 => ∃ a dx fs, x = .ref a ∧ H1 a = some (.ins C dx fs) ∧ fs.lookup m = none ∧ t σ H1 fun vs H2 => sp (x :: vs) H2 Q (E σ)
theorem pe_methP {X : Cx} {CX : CXT} {k : Nat} {f C : Addr} {fd : FuncData} {ps : List Str} {sp : Sp} {E : L2.St → XK} {m : Str} {pos apos : Pos} {e o : Expr} {es : List Expr} {ta : TE} {t : TA} {pl : Sem Bool} (he : PE X o ta) (c : Cls X.K C) (hm : Meth X.K C m f) (F : FnOk X.prog X.w X.K X.mg X.base CX k f fd ps sp) (hr : Room k X.A) (hb : Binds X.K fd ps []) (hx : ∀ σ, PassesAt CX X σ (E σ)) (ha : PA X (e :: es) t)
    (hst : starEach (e :: es) X.env = (false, eval e X.env) :: starEach es X.env := by rfl) (hpl : (backTo pos (starEach es X.env)).any (·.1) = false := by rfl)
    (ht : eval (.Call (.Attribute o m apos) (e :: es) [] pos) X.env = (do
      let ov ← eval o X.env
      standAt apos.atName
      let (f, first) ← holding [ov] (getMethod ov m pl)
      callWith pos f first (backTo pos (starEach (e :: es) X.env)) (backToKw pos (keywordEach [] X.env))) := by rfl) :
    PE X (.Call (.Attribute o m apos) (e :: es) [] pos) (tMethP C m sp E ta t) := by
  refine ⟨fun pins s σ H Q I h => ?_⟩
  refine PySem.W.methodCall_KW (pl := pl) (thn (he.run pins s σ H _ I h) fun u s1 ⟨x, H1, I1, rx, a, dx, fs, ex, ea, l, q⟩ => ?_) ht
  subst ex
  obtain rfl : u = Value.ref a := rx
  refine getmeth_ok I1 ea c hm l ?_
  refine PySem.W.callWith_K (first := [.ref a]) (h₀ := X.base) I.ok.mod.kin hm.kp (thn (ha.run pos pins s1 σ H1 _ I1 q) fun us s2 ⟨vs, H2, I2, r, q2⟩ => ⟨I2.kIn, ?_⟩) hst hpl
  exact run_fnS (us := .ref a :: us) (vs := .ref a :: vs) F hr hb (hx σ) I2 (.cons rfl r) q2

/-! ### raise .. from n where the class of n is told by the reading -/
def tRaiseC (C : Addr) (cls : Value) (i : Nat) (a : Addr) (t : L2.St → Hp → XK → Prop) (W : WX) : TS := fun D σ H => cls = .ref C ∧ tRaiseFrom i a t W D σ H
theorem ps_raiseC {X : Cx} {W : WX} {e : Expr} {t : L2.St → Hp → XK → Prop} {i : Nat} {n : Str} {a C : Addr} {oe : Obj} {cls : Value} {d : Option Addr} {cpos pos : Pos} (T : OexC X.K C)
    (hh : X.A.handled = some (.ref a)) (hp : (a, oe) ∈ X.pn) (zn : L2N.Zn cls d oe) (hv : ∃ vs, oe.data = .fields vs) (hi : X.N[i]? = some n) (hl : X.env.kindOf n = some .local)
    (tk : L2.Takes X W) (he : PMk5 X e t) (hd : (n == ("__debug__" : Str)) = false := by decide) :
    PS X (.Raise (some e) (some (.Name n cpos)) pos) (tRaiseC C cls i a t W) := by
  refine ⟨fun pins s σ H D I ⟨hc, h⟩ => ?_⟩
  subst hc
  obtain ⟨vs, hv⟩ := hv
  exact (ps_raiseFrom hh hp zn hv (raises_own T.exC T.tyC) hi hl tk he hd).run pins s σ H D I h

section
variable {P : Program} {w : World} {K : PySem.W.Frag} {mg : Str → Option Value} {base : Heap} {CT CP CU CV CR : Addr} {T : Tb}
/-- Refused's __init__ while an exception is handled -/
theorem ok_E11H {C : Addr} (F : XF K mg C "Refused" "Refused.__init__" (inClass (top 11) 0)) : ∃ f fd, PySem.W.findIn K (.ref C) "__init__" = some (some (.ref f)) ∧ PySem.W.typeIn K (.ref f) = some (.type "function") ∧ Binds K fd ["self", "side", "reason", "path"] [] ∧ FnH P w K mg base CX0 1 f fd ["self", "side", "reason", "path"] (spE3 C) := by
  obtain ⟨f, fd, FD, h1, h2⟩ := F.ini
  obtain ⟨oc, od, dV, kV0, doc, pm, an, cdv, ct, osl, rfl, lk, hcd, _, _⟩ := FD.ex
  refine ⟨f, _, h1, h2, FD.bindsN (fun _ _ _ _ _ _ us hl => match us, hl with | [_, _, _, _], _ => rfl), fn_ofH lk hcd sc_E11 (fun vs H Q E h => ?_) (fun A outer s H vs Q E p hot hr h => ?_)⟩
  · obtain ⟨e, y1, y2, y3, rfl, _⟩ := h
    rfl
  obtain ⟨e, y1, y2, y3, rfl, he, q⟩ := h
  refine ⟨_, pss_cons (ps_ost (pv 0) (pv 1)) (pss_cons (ps_ost (pv 0) (pv 2)) (pss_one (ps_ost (pv 0) (pv 3)))), ?_⟩
  refine ⟨_, rfl, _, rfl, e, C, rfl, F.ox, F.no _ (by decide +kernel), .inl ⟨he, fun d hd hne => ?_⟩⟩
  refine ⟨_, rfl, _, rfl, e, C, rfl, F.ox, F.no _ (by decide +kernel), .inr ⟨d, [("side", y1)], upd_same, by rw [upd_ne hne, upd_same], by show 1 ≤ 900; decide, ?_⟩⟩
  refine ⟨_, rfl, _, rfl, e, C, rfl, F.ox, F.no _ (by decide +kernel), .inr ⟨d, [("reason", y2), ("side", y1)], by rw [upd_ne (Ne.symm hne), upd_same], upd_same, by show 2 ≤ 900; decide, ?_⟩⟩
  exact q d _ hd hne (fun b h1 h2 => by rw [upd_ne h1, upd_ne h1, upd_ne h2, upd_ne h1]) (by rw [upd_ne (Ne.symm hne), upd_ne (Ne.symm hne), upd_same]) upd_same

def spCarry (T : Tb) (CT CP CR : Addr) (n : Nat) : Sp := fun vs H Q E => ∃ (p : Addr) (o : Opt) (x : V) (v : PV) (L : List Addr), vs = [.ref p, x] ∧ PasAt CP o H p ∧ LT H L ∧ Rep CT [] n H v x ∧ okV n v ∧ LamX.Tabs T H ∧
  (∀ u, carryM o n v = some u → ∀ y H', Ex T [] H H' → Rep CT L n H' u y → Q y H') ∧
  (carryM o n v = none → ∀ d H', Ex T [] H H' → E (.ref CR) d H')
abbrev nCa : List Str := ["self", "value", "raw", "why", "cause"]
theorem sc_carry : FnScope nCa ["self", "value"] (defScope (inClass (top 40) 4)) := ⟨rfl, rfl, rfl, by decide +kernel, rfl, by decide +kernel, by decide +kernel⟩
/-- the suites -/
def tSuite (K : PySem.W.Frag) (CR C : Addr) (i : Nat) (word : Str) (E : XK) (a : Addr) (cls : Value) (d : Option Addr) : TS :=
  tRaiseC C cls i a (tMkO CR (spE3 CR) [] (tCons (tC (.str word)) (tCons (tXf a cls d C "reason" (tVar i)) (tCons (tXf a cls d C "path" (tVar i)) tNil)))) (wOutN i fun cls d _ H => E cls d H)
theorem suite_ok {C : Addr} {i : Nat} {word : Str} {E : XK} {a dd : Addr} {y1 y2 : V} {D : Ends} {σ : L2.St} {H : Hp} (hσ : σ[i]? = some (some (.ref a))) (hd : H dd = some (.xd (fs2 y1 y2))) (hE : ∀ d H', Same H H' → E (.ref CR) d H') : tSuite K CR C i word E a (.ref C) (some dd) D σ H := by
  refine ⟨rfl, hσ, _, hσ, rfl, rfl, dd, _, y1, rfl, hd, rfl, _, hσ, rfl, rfl, dd, _, y2, rfl, hd, rfl, by show 3 ≤ 1000; decide, fun b hb => ?_⟩
  exact mk3 (Q := fun cls d H' => E cls d H') hb fun d Hf sf _ => hE (some d) Hf sf
theorem ok_carry (D : Dm K CP "carry" "Passage.carry" (inClass (top 40) 4)) (F : PF K CP) (FU : XF K mg CU "Unwritable" "Unwritable.__init__" (inClass (top 9) 0)) (FV : XF K mg CV "Unreadable" "Unreadable.__init__" (inClass (top 10) 0)) (FR : XF K mg CR "Refused" "Refused.__init__" (inClass (top 11) 0))
    (XU : XfC K CU) (XV : XfC K CV) {n k : Nat} (hk : 3 ≤ k) (hRw : HasM P w K mg base (L2N.CX P w) k CP "raw" ["self", "value"] (spRaw T CT CP CU n)) (hBd : HasM P w K mg base (L2N.CX P w) k CP "build" ["self", "raw"] (spBuild T CT CP CV n)) :
    HasM P w K mg base (L2.CX P w) (k + 1) CP "carry" ["self", "value"] (spCarry T CT CP CR n) := by
  obtain ⟨f1, fd1, m1, b1, G1⟩ := hRw.ex
  obtain ⟨f2, fd2, m2, b2, G2⟩ := hBd.ex
  obtain ⟨fr, fdr, ir, tr, br, Gr⟩ := ok_E11H (P := P) (w := w) (base := base) FR
  refine D.hasX sc_carry (fun vs H Q E h => ?_) (fun _ _ _ _ _ _ us hl => match us, hl with | [_, _], _ => rfl) (fun f cdv A outer s H vs Q E hr h => ?_)
  · obtain ⟨p, o, x, v, L, rfl, _⟩ := h
    rfl
  obtain ⟨p, o, x, v, L, rfl, hp, lt, rp, ov, hTb, q1, q2⟩ := h
  obtain ⟨dxp, hpi⟩ := id hp
  have hr2 : Room 2 (A.deeper (envOfC "Passage.carry" (defScope (inClass (top 40) 4)) s.heap.objs.size f cdv)) := hr.mono (by omega)
  have hotc : ∀ {a : Addr} {oe : Obj} {cls : Value} {d : Option Addr} {i : Nat} {pn : List (Addr × Obj)} {X : Cx} {Wout : WX}, L2N.Zn cls d oe → (∃ vs, oe.data = .fields vs) → HotC (suiteN X i Wout a ((a, oe) :: pn)) := fun {a oe cls d i pn X Wout} zn hf => by
    obtain ⟨vs, hv⟩ := hf
    exact ⟨(a, oe), ⟨rfl, vs, hv, zn.2.2 vs hv⟩, List.mem_cons_self⟩
  refine ⟨_, pss_cons (ps_try_asX (i := 3) (tb := fun W => tAsg (tMethP CP "raw" (spRaw T CT CP CU n) (WE W) (tVar 0) (tCons (tVar 1) tNil)) (gName 2)) (ts := tSuite K CR CU 3 "writer" E) (Wout := fun cls d _ H => E cls d H) rfl rfl sc_carry.nd rfl rfl ⟨rfl, by decide, Or.inl FU.gl⟩ (L2H.passesAt_of rfl) (L2.takes_of rfl rfl rfl rfl)
      (fun W pn xe tk _ => pss_one (ps_set (i := 2) sc_carry.nd rfl (.inl rfl) (by exact pe_methP (pv 0) F.cl m1 G1 hr b1 (fun σ => L2N.passAt tk σ) (pa_cons (pv 1) pa_nil))))
      (fun a oe cls d pn zn hf => pss_one (by exact ps_raiseC FU.ox rfl List.mem_cons_self zn hf rfl rfl takesN (pmk5_oexH FR.ox ir tr Gr (roomH_mark hr2 _) (hotc zn hf) br pass0 rfl FR.gl (pa_cons pe_str (pa_cons (pe_xf XU (FU.no _ (by decide +kernel)) zn.zc hf (pv 3)).nox (pa_cons (pe_xf XU (FU.no _ (by decide +kernel)) zn.zc hf (pv 3)).nox pa_nil)))))))
    (pss_one (ps_try_asX (i := 4) (tb := fun W => tRet (tMethP CP "build" (spBuild T CT CP CV n) (WE W) (tVar 0) (tCons (tVar 2) tNil))) (ts := tSuite K CR CV 4 "reader" E) (Wout := fun cls d _ H => E cls d H) rfl rfl sc_carry.nd rfl rfl ⟨rfl, by decide, Or.inl FV.gl⟩ (L2H.passesAt_of rfl) (L2.takes_of rfl rfl rfl rfl)
      (fun W pn xe tk _ => pss_one (ps_ret (by exact pe_methP (pv 0) F.cl m2 G2 hr b2 (fun σ => L2N.passAt tk σ) (pa_cons (pv 2) pa_nil))))
      (fun a oe cls d pn zn hf => pss_one (by exact ps_raiseC FV.ox rfl List.mem_cons_self zn hf rfl rfl takesN (pmk5_oexH FR.ox ir tr Gr (roomH_mark hr2 _) (hotc zn hf) br pass0 rfl FR.gl (pa_cons pe_str (pa_cons (pe_xf XV (FV.no _ (by decide +kernel)) zn.zc hf (pv 4)).nox (pa_cons (pe_xf XV (FV.no _ (by decide +kernel)) zn.zc hf (pv 4)).nox pa_nil)))))))), ?_⟩
  refine ⟨_, rfl, p, dxp, _, rfl, hpi, rfl, _, rfl, p, o, x, v, rfl, hp, rp, ov, hTb, fun r hr y H1 e1 ry => ?_, fun hn d y1 y2 H1 e1 hd => ?_⟩
  · refine ⟨_, rfl, p, dxp, _, rfl, e1.ins hpi, rfl, _, rfl, p, o, y, r, L, rfl, hp.ex e1, lt.ex e1, ry, okR_of ov hr, fun u hu y2 H2 e2 r2 => ?_, fun hn d y1 y2 H2 e2 hd => ?_⟩
    · exact q1 u (by unfold carryM; rw [hr]; exact hu) y2 H2 (e1.trans e2) r2
    · exact ⟨FV.te, fun a ha => suite_ok rfl hd fun d' H' s' => q2 (by unfold carryM; rw [hr]; exact hn) d' H' ((e1.trans e2).trans (Ex.same s'))⟩
  · exact ⟨FU.te, fun a ha => suite_ok rfl hd fun d' H' s' => q2 (by unfold carryM; rw [hn]; rfl) d' H' (e1.trans (Ex.same s'))⟩

/-! ### what_comes_back -/
def spWcb (T : Tb) (CT CP : Addr) (n : Nat) : Sp := fun vs H Q _ => ∃ (p : Addr) (o : Opt) (x : V) (v : PV), vs = [.ref p, x] ∧ PasAt CP o H p ∧ Rep CT [] n H v x ∧ okV n v ∧ LamX.Tabs T H ∧
  (∀ u, carryM o n v = some u → ∀ l y H', Ex T [] H H' → H' l = some (.lst [y]) → Rep CT [] n H' u y → Q (.ref l) H') ∧
  (carryM o n v = none → ∀ l H', Ex T [] H H' → H' l = some (.lst []) → Q (.ref l) H')
theorem sc_wcb : FnScope ["passage", "value"] ["passage", "value"] (defScope (top 21)) := ⟨rfl, rfl, rfl, by decide +kernel, rfl, by decide +kernel, by decide +kernel⟩
theorem ok_wcb (D : Dn K mg "what_comes_back" (top 21)) (F : PF K CP) (FR : XF K mg CR "Refused" "Refused.__init__" (inClass (top 11) 0)) {n k : Nat} (hC : HasM P w K mg base (L2.CX P w) k CP "carry" ["self", "value"] (spCarry T CT CP CR n)) : Has P w K mg base CX0 (k + 1) "what_comes_back" ["passage", "value"] (spWcb T CT CP n) := by
  obtain ⟨f1, fd1, m1, b1, G1⟩ := hC.ex
  refine D.has0 sc_wcb (fun vs H Q E h => ?_) (fun _ _ _ _ _ _ us hl => match us, hl with | [_, _], _ => rfl) (fun f cdv A outer s H vs Q E hr h => ?_)
  · obtain ⟨p, o, x, v, rfl, _⟩ := h
    rfl
  obtain ⟨p, o, x, v, rfl, hp, rp, ov, hTb, q1, q2⟩ := h
  obtain ⟨dxp, hpi⟩ := id hp
  refine ⟨_, pss_one (ps_try_only (tb := fun W => tRet (tLst (tCons (tMethP CP "carry" (spCarry T CT CP CR n) (WE W) (tVar 0) (tCons (tVar 1) tNil)) tNil))) (ts := fun _ _ _ => tRet (tLst tNil)) (Wout := fun _ _ _ _ => False) rfl rfl ⟨rfl, by decide, Or.inl FR.gl⟩ takes0
      (fun W pn xe tk _ => pss_one (ps_ret (pe_lst (pa_cons (by exact pe_methP (pv 0) F.cl m1 G1 hr b1 (fun σ => L2.passAt tk σ) (pa_cons (pv 1) pa_nil)) pa_nil))))
      (fun a oe cls d pn _ _ => pss_one (ps_ret (pe_lst pa_nil)))), ?_⟩
  refine ⟨_, rfl, p, dxp, _, rfl, hpi, rfl, _, rfl, p, o, x, v, [], rfl, hp, LT.nil, rp, ov, hTb, fun u hu y H1 e1 ry => ⟨by show 1 ≤ sizeLine; decide, fun l hl => ?_⟩, fun hn d H1 e1 => ⟨true, FR.te, fun _ a ha => ⟨by show 0 ≤ sizeLine; decide, fun l hl => ?_⟩, fun z => nomatch z⟩⟩
  · exact q1 u hu l y _ (e1.then_new hl _) upd_same (rep_kee (Kee.new hl _) ry)
  · exact q2 hn l _ (e1.then_new hl _) upd_same

/-! ### a list against [] -/
theorem op_neNil {X : Cx} (hu : X.A.units + 64 < cLine) : OpR X (compareOp .NotEq) (fun x y H Q => ∃ a b xs, x = .ref a ∧ y = .ref b ∧ SqL X.K H a xs ∧ SqL X.K H b [] ∧ Q (.bl (!xs.isEmpty)) H) := by
  intro pins s σ H x y v u Q I rx ry h
  obtain ⟨a, b, xs, rfl, rfl, ha, hb, q⟩ := h
  cases xs with
  | nil => exact op_neD hu pins s σ H _ _ v u Q I rx ry ⟨.list [], .list [], .lst ha .nil, .lst hb .nil, by decide, by decide, q⟩
  | cons z r =>
    cases (show v = Value.ref a from rx)
    cases (show u = Value.ref b from ry)
    obtain ⟨us, r1, p1, _⟩ := I.list ha
    obtain ⟨ws, r2, p2, _⟩ := I.list hb
    refine (SeqAt.RcNeAt.lists_lengths p1.isList p2.isList ?_ (by omega)) X.prog X.w X.xe _ ⟨.bl true, H, I, rfl, q⟩
    have h1 := r1.length
    have h2 := r2.length
    simp only [List.length_cons, List.length_nil] at h1 h2
    simp only [List.size_toArray]
    first | omega | (simp; omega)
theorem op_eqNil {X : Cx} (hu : X.A.units + 64 < cLine) : OpR X (compareOp .Eq) (fun x y H Q => ∃ a b xs, x = .ref a ∧ y = .ref b ∧ SqL X.K H a xs ∧ SqL X.K H b [] ∧ Q (.bl xs.isEmpty) H) := by
  intro pins s σ H x y v u Q I rx ry h
  obtain ⟨a, b, xs, rfl, rfl, ha, hb, q⟩ := h
  cases xs with
  | nil => exact op_eqD hu pins s σ H _ _ v u Q I rx ry ⟨.list [], .list [], .lst ha .nil, .lst hb .nil, by decide, by decide, q⟩
  | cons z r =>
    cases (show v = Value.ref a from rx)
    cases (show u = Value.ref b from ry)
    obtain ⟨us, r1, p1, _⟩ := I.list ha
    obtain ⟨ws, r2, p2, _⟩ := I.list hb
    refine (SeqAt.RcAt.lists_lengths p1.isList p2.isList ?_ (by omega)) X.prog X.w X.xe _ ⟨.bl false, H, I, rfl, q⟩
    have h1 := r1.length
    have h2 := r2.length
    simp only [List.length_cons, List.length_nil] at h1 h2
    simp only [List.size_toArray]
    first | omega | (simp; omega)

/-! ### unsettled -/
def probe0 : PV := .row false []
def probe1 : PV := .tab [(.inr "5", .int 0)]
def spUns (T : Tb) (CT CP : Addr) (n : Nat) : Sp := fun vs H Q _ => ∃ (p : Addr) (o : Opt), vs = [.ref p] ∧ PasAt CP o H p ∧ LamX.Tabs T H ∧
  (changesM o n probe0 → ∀ y H', Ex T [] H H' → Rep CT [] n H' probe0 y → Q y H') ∧
  (¬ changesM o n probe0 → changesM o n probe1 → ∀ y H', Ex T [] H H' → Rep CT [] n H' probe1 y → Q y H') ∧
  (¬ changesM o n probe0 → ¬ changesM o n probe1 → ∀ H', Ex T [] H H' → Q .non H')
theorem ok_probe0 {n : Nat} : okV (n + 1) probe0 := ⟨by decide, fun x hx => by cases hx⟩
theorem ok_probe1 {n : Nat} : okV (n + 1) probe1 := by
  refine ⟨by decide, by simp, fun p hp => ?_⟩
  rw [List.mem_singleton.mp hp]
  refine ⟨⟨?_, ?_⟩, ?_⟩
  · unfold ascii; decide +kernel
  · decide +kernel
  · cases n <;> (show okI 0; unfold okI; decide)
abbrev nUn : List Str := ["passage", "value", "found"]
theorem sc_uns : FnScope nUn ["passage"] (defScope (top 22)) := ⟨rfl, rfl, rfl, by decide +kernel, rfl, by decide +kernel, by decide +kernel⟩
theorem ok_uns (D : Dn K mg "unsettled" (top 22)) (hgT : mg "Table" = some (.ref CT)) {n k : Nat} (hk : n + 6 ≤ k) (hk2 : 2 * (n + 2) + 2 ≤ k) (hTm : HasT P w K mg base T CT n) (hS : HasS P w K mg base T CT (n + 2)) (hW : Has P w K mg base CX0 k "what_comes_back" ["passage", "value"] (spWcb T CT CP (n + 1))) :
    Has P w K mg base CX0 (k + 1) "unsettled" ["passage"] (spUns T CT CP (n + 1)) := by
  obtain ⟨fs, fds, hms, kps, bs, Gs⟩ := hS.ex
  obtain ⟨fw, fdw, hmw, kpw, bw, Gw⟩ := hW.ex
  obtain ⟨ft, fdt, MK, bt, Gt⟩ := hTm.ex
  refine D.has0 sc_uns (fun vs H Q E h => ?_) (fun _ _ _ _ _ _ us hl => match us, hl with | [_], _ => rfl) (fun f cdv A outer s H vs Q E hr h => ?_)
  · obtain ⟨p, o, rfl, _⟩ := h
    rfl
  obtain ⟨p, o, rfl, hp, hTb, q0, q1, q2⟩ := h
  have hrT : Room (n + 2 + 1) (A.deeper (envOfC "unsettled" (defScope (top 22)) s.heap.objs.size f cdv)) := hr.mono (by omega)
  have hrS : Room (2 * (n + 2) + 2) (A.deeper (envOfC "unsettled" (defScope (top 22)) s.heap.objs.size f cdv)) := hr.mono (by omega)
  refine ⟨_, pss_cons (ps_for PassesOwn.never rfl (pi_list (pe_lst (pa_cons (pe_lst pa_nil) (pa_cons (pe_make MK Gt hrT rfl hgT bt .nil pass0 (pa_cons (pe_lst (pa_cons (pe_tup (pa_cons pe_str (pa_cons pe_int pa_nil))) pa_nil)) pa_nil)) pa_nil)))) (pg_name (i := 1) sc_uns.nd rfl (.inl rfl))
      (pss_cons (ps_set (i := 2) sc_uns.nd rfl (.inl rfl) (pe_call Gw hr rfl hmw kpw bw .nil pass0 (pa_cons (pv 0) (pa_cons (pv 1) pa_nil))))
      (pss_one (ps_if (PW.pt (pw_and (pt_cmpR (op_neNil hr.units) (pv 2) (pe_lst pa_nil) (nomark _)) (pw_and1 (pt_not (pt_val (pe_callN Gs hrS rfl hms kps bs pass0 (pa_cons (pv 2) (pa_cons (pe_call Gw hr rfl hmw kpw bw .nil pass0 (pa_cons (pv 0) (pa_cons (pe_ix ix_list (pv 2) pe_int (fun _ _ => rfl)) pa_nil))) pa_nil)) (pk_cons pe_bl pk_nil))))))) (pss_one (ps_ret (pv 1))) pss_nil))))
    (pss_one (ps_ret pe_non)), ?_⟩
  -- the two probes
  refine ⟨by show 0 ≤ sizeLine; decide, fun a0 ha0 => ?_⟩
  have e0 : Ex T [] H (upd H a0 (.lst [])) := Ex.new ha0 _
  refine ⟨by show 2 ≤ sizeLine; decide, fun t ht => ⟨by show 1 ≤ sizeLine; decide, fun l1 hl1 => ?_⟩⟩
  have e1 : Ex T [] H (upd (upd H a0 (.lst [])) t (.tup [.str "5", .int 0])) := e0.then_new ht _
  have e2 : Ex T [] H (upd (upd (upd H a0 (.lst [])) t (.tup [.str "5", .int 0])) l1 (.lst [.ref t])) := e1.then_new hl1 _
  have ha2 : upd (upd (upd H a0 (.lst [])) t (.tup [.str "5", .int 0])) l1 (.lst [.ref t]) a0 = some (.lst []) := by
    have z1 : upd (upd H a0 (.lst [])) t (.tup [.str "5", .int 0]) a0 = some (.lst []) := by rw [upd_ne (ne_of_none upd_same ht), upd_same]
    rw [upd_ne (ne_of_none z1 hl1)]
    exact z1
  have ht2 : upd (upd (upd H a0 (.lst [])) t (.tup [.str "5", .int 0])) l1 (.lst [.ref t]) t = some (.tup [.str "5", .int 0]) := by rw [upd_ne (ne_of_none upd_same hl1), upd_same]
  have hl2 : upd (upd (upd H a0 (.lst [])) t (.tup [.str "5", .int 0])) l1 (.lst [.ref t]) l1 = some (.lst [.ref t]) := upd_same
  generalize upd (upd (upd H a0 (.lst [])) t (.tup [.str "5", .int 0])) l1 (.lst [.ref t]) = H2 at *
  intro x dx nx ndx nex
  have sm : Same H2 (upd (upd H2 dx (.own x)) x (.ins CT dx [])) := fun b o' q => by
    rw [upd_ne (ne_of_none q nx), upd_ne (ne_of_none q ndx)]
    exact q
  refine ⟨[], x, dx, l1, [(.inr "5", .int 0)], [t], rfl, upd_same, by simp, LT.nil, SqL.of (sm _ _ hl2), .cons ⟨.int 0, sm _ _ ht2, ?_⟩ .nil, by simp, by decide, fun H3 e3 rp1 => ⟨rfl, ?_⟩⟩
  · unfold Rep
    cases n <;> rfl
  have e23 : Ex T [] H2 H3 := Ex.made nx ndx e3
  have e03 := e2.trans e23
  have ha3 := e23.lst ha2
  refine ⟨by show 2 ≤ sizeLine; decide, fun lv hlv => ?_⟩
  have e4 : Ex T [] H (upd H3 lv (.lst [.ref a0, .ref x])) := e03.then_new hlv _
  have k34 : Kee [] H3 (upd H3 lv (.lst [.ref a0, .ref x])) := Kee.new hlv _
  have rp0 : Rep CT [] (n + 1) (upd H3 lv (.lst [.ref a0, .ref x])) probe0 (.ref a0) := by
    unfold Rep probe0
    exact ⟨a0, [], rfl, by simp, by rw [upd_ne (ne_of_none ha3 hlv)]; exact ha3, by decide, .nil⟩
  have rp1' : Rep CT [] (n + 1) (upd H3 lv (.lst [.ref a0, .ref x])) probe1 (.ref x) := rep_kee k34 rp1
  have hlv4 : upd H3 lv (.lst [.ref a0, .ref x]) lv = some (.lst [.ref a0, .ref x]) := upd_same
  generalize upd H3 lv (.lst [.ref a0, .ref x]) = H4 at *
  -- one turn
  have turn : ∀ {v : PV} {y : V} {Hi : Hp} {D : Ends} {v2 : Option V}, okV (n + 1) v → Ex T [] H4 Hi → Rep CT [] (n + 1) Hi v y → (changesM o (n + 1) v → ∀ H', Ex T [] Hi H' → D.rt y H') → (¬ changesM o (n + 1) v → ∀ v2 H', Ex T [] Hi H' → D.nx [some (.ref p), some y, v2] H') →
      (tSeq (tAsg (tCall (spWcb T CT CP (n + 1)) [] E0 (tCons (tVar 0) (tCons (tVar 1) tNil))) (gName 2))
        (tIfS (tAnd (tTest (tOp (fun x y H Q => ∃ a b xs, x = .ref a ∧ y = .ref b ∧ SqL K H a xs ∧ SqL K H b [] ∧ Q (.bl (!xs.isEmpty)) H) (tVar 2) (tLst tNil))) (tNot (tB (tCallN 2 1 (spSame T CT (n + 2)) (fun vs zs => vs ++ zs) E0 (tCons (tVar 2) (tCons (tCall (spWcb T CT CP (n + 1)) [] E0 (tCons (tVar 0) (tCons (tOp (rIxL K) (tVar 2) (tC (.int 0))) tNil))) tNil)) (tCons (tC (.bl true)) tNil))))) (tRet (tVar 1)) tNext)) D [some (.ref p), some y, v2] Hi := by
    intro v y Hi D v2 ov ei ry hr1 hr2
    have e4i := e4.trans ei
    refine ⟨_, rfl, _, rfl, p, o, y, v, rfl, hp.ex e4i, ry, ov, e4i.ta hTb, fun u hu l z H5 e5 hl rz => ?_, fun hn l H5 e5 hl => ?_⟩
    · refine ⟨_, rfl, by show 0 ≤ sizeLine; decide, fun em hem => ⟨l, em, [z], rfl, rfl, SqL.of (by rw [upd_ne (ne_of_none hl hem)]; exact hl), SqL.of upd_same, _, rfl, iteT ?_⟩⟩
      have e6 : Ex T [] H5 (upd H5 em (.lst [])) := Ex.new hem _
      have hl6 := e6.lst hl
      have rz6 := rep_kee e6.kee rz
      have e46 := (e4i.trans e5).trans e6
      have ou : okV (n + 1) u := okV_carry ov hu
      have ruL : ∀ {Hj : Hp}, Ex T [] (upd H5 em (.lst [])) Hj → Rep CT [] (n + 2) Hj (.row false [u]) (.ref l) := fun ej => by
        unfold Rep
        exact ⟨l, [z], rfl, by simp, ej.lst hl6, by simp, .cons (rep_kee ej.kee rz6) .nil⟩
      have oL : ∀ {w0 : PV}, okV (n + 1) w0 → okV (n + 2) (.row false [w0]) := fun h => ⟨by simp, fun x hx => by rw [List.mem_singleton.mp hx]; exact h⟩
      refine ⟨_, rfl, _, rfl, _, rfl, l, _, 0, z, rfl, rfl, SqL.of hl6, atI_nat (j := 0) rfl, p, o, z, u, rfl, hp.ex e46, rz6, ou, e46.ta hTb, fun u2 hu2 l2 z2 H7 e7 hl7 rz7 => ?_, fun hn2 l2 H7 e7 hl7 => ?_⟩
      · refine ⟨rfl, rfl, .ref l, .ref l2, .row false [u], .row false [u2], rfl, ruL e7, ?_, oL ou, oL (okV_carry ou hu2), fun bb H8 e8 hb => ⟨bb, rfl, ?_⟩⟩
        · unfold Rep
          exact ⟨l2, [z2], rfl, by simp, hl7, by simp, .cons rz7 .nil⟩
        · have e58 : Ex T [] Hi H8 := ((e5.trans e6).trans e7).trans e8
          cases bb with
          | true =>
            have euu : u = u2 := by
              have := hb.mp rfl
              simpa using this
            refine iteF (hr2 (fun ⟨w0, h1, h2⟩ => ?_) _ _ e58)
            rw [hu] at h1
            cases h1
            exact h2 (by rw [hu2, euu])
          | false =>
            refine iteT ⟨_, rfl, hr1 ⟨u, hu, fun z0 => ?_⟩ _ e58⟩
            rw [hu2] at z0
            have : (false = true) := hb.mpr (by rw [Option.some.inj z0])
            cases this
      · refine ⟨rfl, rfl, .ref l, .ref l2, .row false [u], .row false [], rfl, ruL e7, ?_, oL ou, ⟨by decide, fun x hx => by cases hx⟩, fun bb H8 e8 hb => ⟨bb, rfl, ?_⟩⟩
        · unfold Rep
          exact ⟨l2, [], rfl, by simp, hl7, by decide, .nil⟩
        · have e58 : Ex T [] Hi H8 := ((e5.trans e6).trans e7).trans e8
          cases bb with
          | true =>
            have := hb.mp rfl
            simp at this
          | false => exact iteT ⟨_, rfl, hr1 ⟨u, hu, fun z0 => by rw [hn2] at z0; cases z0⟩ _ e58⟩
    · refine ⟨_, rfl, by show 0 ≤ sizeLine; decide, fun em hem => ⟨l, em, [], rfl, rfl, SqL.of (by rw [upd_ne (ne_of_none hl hem)]; exact hl), SqL.of upd_same, _, rfl, iteF (iteF ?_)⟩⟩
      exact hr2 (fun ⟨w0, h1, _⟩ => by rw [hn] at h1; cases h1) _ _ (e5.then_new hem _)
  refine ⟨lv, rfl, ⟨_, SqL.of hlv4⟩, forw_it (walk_list (K := K) (a := lv) (xs := [.ref a0, .ref x])) (fun i σ Hi => ∃ v1 v2, σ = [some (.ref p), v1, v2] ∧ Ex T [] H4 Hi ∧ (1 ≤ i → ¬ changesM o (n + 1) probe0) ∧ (2 ≤ i → ¬ changesM o (n + 1) probe1)) ⟨none, none, rfl, Ex.refl H4, fun z => by omega, fun z => by omega⟩ (fun i σ Hi _ ⟨_, _, _, e, _⟩ => SqL.of (e.lst hlv4)) ?_ ?_⟩
  · rintro i z σ Hi0 Hi hi ⟨v1, v2, rfl, e, c0, c1⟩ ⟨rfl, hz⟩
    match i, hz, c0, c1 with
    | 0, hz, c0, c1 =>
      cases hz
      exact turn ok_probe0 e (rep_kee e.kee rp0) (fun hc H' e' => q0 hc _ H' ((e4.trans e).trans e') (rep_kee (e.trans e').kee rp0)) (fun hc v2 H' e' => ⟨_, _, rfl, e.trans e', fun _ => hc, fun z => by omega⟩)
    | 1, hz, c0, c1 =>
      cases hz
      exact turn ok_probe1 e (rep_kee e.kee rp1') (fun hc H' e' => q1 (c0 (by omega)) hc _ H' ((e4.trans e).trans e') (rep_kee (e.trans e').kee rp1')) (fun hc v2 H' e' => ⟨_, _, rfl, e.trans e', fun _ => c0 (by omega), fun _ => hc⟩)
    | i + 2, hz, c0, c1 => exact absurd hi (by simp)
  · rintro σ Hi ⟨v1, v2, rfl, e, c0, c1⟩
    exact q2 (c0 (by simp)) (c1 (by simp)) Hi (e4.trans e)
end
end K86
/-! K86Draw: the law's draws. -/
namespace K86
open PySem PySem.Spec PyProof.Rows L2

/-- a source: digits of a number (or 0), a base, a count of at most m -/
def SrcAt (H : Hp) (S : Addr) (m : Nat) : Prop := ∃ a b c : Int, H S = some (.lst [.int a, .int b, .int c]) ∧ 0 ≤ a ∧ 0 ≤ b ∧ b < 2 ^ 63 ∧ 0 ≤ c ∧ c ≤ (m : Int)
theorem SrcAt.up {H : Hp} {S : Addr} {m n : Nat} (h : SrcAt H S m) (l : m ≤ n) : SrcAt H S n := by
  obtain ⟨a, b, c, h1, h2, h3, h4, h5, h6⟩ := h
  exact ⟨a, b, c, h1, h2, h3, h4, h5, by omega⟩
theorem SrcAt.ex {T : Tb} {H H' : Hp} {S : Addr} {m : Nat} (h : SrcAt H S m) (e : Ex T [] H H') : SrcAt H' S m := by
  obtain ⟨a, b, c, h1, h2⟩ := h
  exact ⟨a, b, c, e.lst h1, h2⟩
section
variable {P : Program} {w : World} {K : PySem.W.Frag} {mg : Str → Option Value} {base : Heap} {CT CP : Addr} {T : Tb}
def spDraw (T : Tb) : Sp := fun vs H Q _ => ∃ (S : Addr) (many : Int) (m : Nat), vs = [.ref S, .int many] ∧ SrcAt H S m ∧ m < 1000000 ∧ 1 ≤ many ∧ many < 2 ^ 80 ∧ ∀ d H', Ex T [S] H H' → SrcAt H' S (m + 1) → 0 ≤ d → d < many → Q (.int d) H'
abbrev nDr : List Str := ["_law_source_here", "_law_many", "_law_digit", "_law_mixed"]
theorem sc_draw : FnScope nDr ["_law_source_here", "_law_many"] (defScope (top 43)) := ⟨rfl, rfl, rfl, by decide +kernel, rfl, by decide +kernel, by decide +kernel⟩
theorem ok_draw (D : Dn K mg "_law_draw" (top 43)) (B : Bl mg) : Has P w K mg base CX0 1 "_law_draw" ["_law_source_here", "_law_many"] (spDraw T) := by
  refine D.has0 sc_draw (fun vs H Q E h => ?_) (fun _ _ _ _ _ _ us hl => match us, hl with | [_, _], _ => rfl) (fun f cdv A outer s H vs Q E hr h => ?_)
  · obtain ⟨S, many, m, rfl, _⟩ := h
    rfl
  obtain ⟨S, many, m, rfl, ⟨a, b, c, hS, ha, hb, hb2, hc, hc2⟩, hm, h1, h2, q⟩ := h
  refine ⟨_, pss_cons (ps_if (pt_cmpR op_gt (pe_ix ix_list (pv 0) pe_int (fun _ _ => rfl)) pe_int (nomark _))
      (pss_cons (ps_set (i := 2) sc_draw.nd rfl (.inl rfl) (pe_op op_mod (pe_callTy call_int1 rfl B.int (by decide +kernel) (pa_cons (pe_ix ix_list (pv 0) pe_int (fun _ _ => rfl)) pa_nil)) (pv 1)))
      (pss_cons (ps_asg (pe_op op_fdivW (pe_ix ix_list (pv 0) pe_int (fun _ _ => rfl)) (pv 1)) (pg_sub (pv 0) pe_int set_list (fun _ => rfl)))
      (pss_one (ps_ret (pv 2))))) pss_nil)
    (pss_cons (ps_asg (pe_op op_add (pe_ix ix_list (pv 0) pe_int (fun _ _ => rfl)) pe_int) (pg_sub (pv 0) pe_int set_list (fun _ => rfl)))
    (pss_cons (ps_set (i := 3) sc_draw.nd rfl (.inl rfl) (pe_op op_mod (pe_callTy call_int1 rfl B.int (by decide +kernel) (pa_cons (pe_op op_pow (pe_op op_add (pe_ix ix_list (pv 0) pe_int (fun _ _ => rfl)) (pe_op op_mul pe_int (pe_ix ix_list (pv 0) pe_int (fun _ _ => rfl)))) pe_int) pa_nil)) pe_int))
    (pss_cons (ps_set (i := 3) sc_draw.nd rfl (.inl rfl) (pe_op op_mod (pe_callTy call_int1 rfl B.int (by decide +kernel) (pa_cons (pe_op op_pow (pe_op op_add (pv 3) (pe_op op_mul pe_int (pe_ix ix_list (pv 0) pe_int (fun _ _ => rfl)))) pe_int) pa_nil)) pe_int))
    (pss_one (ps_ret (pe_op op_mod (pe_callTy call_int1 rfl B.int (by decide +kernel) (pa_cons (pe_op op_fdivN (pv 3) pe_int) pa_nil)) (pv 1))))))), ?_⟩
  have at0 : ∀ {x y z : V}, atI [x, y, z] 0 = some x := fun {x y z} => atI_nat (j := 0) rfl
  have at1 : ∀ {x y z : V}, atI [x, y, z] 1 = some y := fun {x y z} => atI_nat (j := 1) rfl
  have at2 : ∀ {x y z : V}, atI [x, y, z] 2 = some z := fun {x y z} => atI_nat (j := 2) rfl
  have put : ∀ {o : List V}, Ex T [S] H (upd H S (.lst o)) := fun {o} => (Ex.refl H).then_put List.mem_cons_self hS ⟨(fun ps y => nomatch y), (fun φ y => nomatch y)⟩
  refine ⟨_, rfl, S, _, 0, _, rfl, rfl, SqL.of hS, at0, _, _, rfl, rfl, _, rfl, ?_⟩
  refine ite2 (fun c1 => ?_) (fun c1 => ?_)
  · have c1' : (0 : Int) < a := of_decide_eq_true c1
    refine ⟨_, rfl, S, _, 0, _, rfl, rfl, SqL.of hS, at0, .inl ⟨a, rfl, _, rfl, a, many, rfl, rfl, by omega, ?_⟩⟩
    refine ⟨_, rfl, S, _, 0, _, rfl, rfl, SqL.of hS, at0, _, rfl, a, many, rfl, rfl, wide_div (b := 80) (by omega) (by omega) (by decide) (by decide), ?_⟩
    refine ⟨_, rfl, S, _, 0, 0, rfl, rfl, hS, rfl, ?_⟩
    refine ⟨_, rfl, q _ _ put ⟨a / many, b, c, upd_same, Int.ediv_nonneg ha (by omega), hb, hb2, hc, by omega⟩ (Int.emod_nonneg _ (by omega)) (Int.emod_lt_of_pos _ (by omega))⟩
  · refine ⟨_, rfl, S, _, 2, _, rfl, rfl, SqL.of hS, at2, c, 1, rfl, rfl, ?_⟩
    refine ⟨_, rfl, S, _, 2, 2, rfl, rfl, hS, rfl, ?_⟩
    have hS1 : upd H S (.lst ([V.int a, V.int b, V.int c].set 2 (.int (c + 1)))) S = some (.lst [.int a, .int b, .int (c + 1)]) := upd_same
    refine ⟨_, rfl, S, _, 1, _, rfl, rfl, SqL.of hS1, at1, _, rfl, S, _, 2, _, rfl, rfl, SqL.of hS1, at2, 611953, c + 1, rfl, rfl, .inl ⟨by decide, by decide⟩, b, _, rfl, rfl, _, 3, rfl, rfl, ⟨by decide, by decide, by omega⟩, .inl ⟨_, rfl, _, _, rfl, rfl, (by show (0 : Int) < 2305843009213693921; decide), ?_⟩⟩
    generalize hx : ((b + 611953 * (c + 1)) ^ (3 : Int).toNat) = x1
    have x1a : 0 ≤ x1 % 2305843009213693921 := Int.emod_nonneg _ (by decide)
    have x1b : x1 % 2305843009213693921 < 2305843009213693921 := Int.emod_lt_of_pos _ (by decide)
    refine ⟨_, rfl, _, rfl, S, _, 2, _, rfl, rfl, SqL.of hS1, at2, 15485863, c + 1, rfl, rfl, .inl ⟨by decide, by decide⟩, _, _, rfl, rfl, _, 2, rfl, rfl, ⟨by decide, by decide, by omega⟩, .inl ⟨_, rfl, _, _, rfl, rfl, (by show (0 : Int) < 2305843009213693951; decide), ?_⟩⟩
    generalize hy : ((x1 % 2305843009213693921 + 15485863 * (c + 1)) ^ (2 : Int).toNat) = x2
    refine ⟨_, rfl, _, 1024, rfl, rfl, ⟨by decide, by decide⟩, .inl ⟨_, rfl, _, rfl, _, many, rfl, rfl, by omega, ?_⟩⟩
    exact q _ _ put ⟨a, b, c + 1, upd_same, ha, hb, hb2, by omega, by omega⟩ (Int.emod_nonneg _ (by omega)) (Int.emod_lt_of_pos _ (by omega))
end
end K86
/-! K86Words: the law's picks and words. -/
namespace K86
open PySem PySem.Spec PyProof.Rows L2

/-- a short text -/
def okS (z : Str) : Prop := ascii z ∧ z.length ≤ 30
theorem okS.t {z : Str} (h : okS z) : okT z := ⟨h.1, Nat.le_trans h.2 (by decide)⟩
def okKs : Key → Prop
  | .inl i => i.natAbs < 10 ^ 30
  | .inr x => okS x
theorem okKs.k {k : Key} (h : okKs k) : okK k := by
  cases k with
  | inl i => exact Nat.lt_of_lt_of_le h (by decide)
  | inr x => exact okS.t h
theorem tl_app (x y : Str) : (x ++ y).cps.toList = x.cps.toList ++ y.cps.toList := by
  show (x.cps ++ y.cps).toList = _
  exact Array.toList_append
theorem len_tl' (x : Str) : x.length = x.cps.toList.length := Array.length_toList.symm
theorem ascii_app {x y : Str} (hx : ascii x) (hy : ascii y) : ascii (x ++ y) := fun c hc => by
  rw [tl_app] at hc
  exact (List.mem_append.mp hc).elim (hx c) (hy c)
theorem len_app (x y : Str) : (x ++ y).length = x.length + y.length := by
  rw [len_tl', len_tl', len_tl', tl_app, List.length_append]
theorem ascii_one {c : Nat} (h : c < 128) : ascii ⟨#[c]⟩ := fun d hd => by
  have : d = c := by simpa using hd
  omega
theorem ascii_empty : ascii "" := by unfold ascii; decide +kernel
theorem small_str {n : Nat} (h : n ≤ 1000) : n ≤ sizeLine := Nat.le_of_lt (lt1000 h)
section
variable {P : Program} {w : World} {K : PySem.W.Frag} {mg : Str → Option Value} {base : Heap} {CT CP : Addr} {T : Tb}
/-- a draw is read -/
theorem draw_read {σ : L2.St} {H : Hp} {Q : V → Hp → Prop} {i : Nat} {S : Addr} {m : Nat} {te : TE} {many : Int} (h0 : σ[i]? = some (some (.ref S))) (hs : SrcAt H S m) (hm : m < 1000000) (h1 : 1 ≤ many) (h2 : many < 2 ^ 80) (ht : ∀ {Q : V → Hp → Prop}, Q (.int many) H → te σ H Q)
    (q : ∀ d H', Ex T [S] H H' → SrcAt H' S (m + 1) → 0 ≤ d → d < many → Q (.int d) H') : tCall (spDraw T) [] E0 (tCons (tVar i) (tCons te tNil)) σ H Q :=
  ⟨_, h0, ht ⟨S, many, m, rfl, hs, hm, h1, h2, q⟩⟩
theorem draw_lit {σ : L2.St} {H : Hp} {Q : V → Hp → Prop} {i : Nat} {S : Addr} {m : Nat} {many : Int} (h0 : σ[i]? = some (some (.ref S))) (hs : SrcAt H S m) (hm : m < 1000000) (h1 : 1 ≤ many) (h2 : many < 2 ^ 80)
    (q : ∀ d H', Ex T [S] H H' → SrcAt H' S (m + 1) → 0 ≤ d → d < many → Q (.int d) H') : tCall (spDraw T) [] E0 (tCons (tVar i) (tCons (tC (.int many)) tNil)) σ H Q := draw_read h0 hs hm h1 h2 (fun q => q) q
theorem Ex.lstS {H H' : Hp} {S l : Addr} {xs : List V} (e : Ex T [S] H H') (h : H l = some (.lst xs)) (ne : l ≠ S) : H' l = some (.lst xs) := e.ke l _ (by simpa using ne) h (fun _ y => nomatch y)
/-! ### _law_pick -/
def spPick (T : Tb) : Sp := fun vs H Q _ => ∃ (S l : Addr) (xs : List V) (m : Nat), vs = [.ref S, .ref l] ∧ SrcAt H S m ∧ m < 1000000 ∧ H l = some (.lst xs) ∧ l ≠ S ∧ 1 ≤ xs.length ∧ xs.length ≤ 1000 ∧ ∀ x H', x ∈ xs → Ex T [S] H H' → SrcAt H' S (m + 1) → Q x H'
theorem sc_pick : FnScope ["_law_source_here", "_law_some"] ["_law_source_here", "_law_some"] (defScope (top 44)) := ⟨rfl, rfl, rfl, by decide +kernel, rfl, by decide +kernel, by decide +kernel⟩
theorem ok_pick (D : Dn K mg "_law_pick" (top 44)) (B : Bl mg) (hD : Has P w K mg base CX0 1 "_law_draw" ["_law_source_here", "_law_many"] (spDraw T)) : Has P w K mg base CX0 2 "_law_pick" ["_law_source_here", "_law_some"] (spPick T) := by
  obtain ⟨fd, fdd, hmd, kpd, bd, Gd⟩ := hD.ex
  refine D.has0 sc_pick (fun vs H Q E h => ?_) (fun _ _ _ _ _ _ us hl => match us, hl with | [_, _], _ => rfl) (fun f cdv A outer s H vs Q E hr h => ?_)
  · obtain ⟨S, l, xs, m, rfl, _⟩ := h
    rfl
  obtain ⟨S, l, xs, m, rfl, hs, hm, hl, ne, h1, h2, q⟩ := h
  refine ⟨_, pss_one (ps_ret (pe_ix ix_list (pv 1) (pe_call Gd hr rfl hmd kpd bd .nil pass0 (pa_cons (pv 0) (pa_cons (pe_callB call_len_seq rfl B.len PySem.boot_len (pa_cons (pv 1) pa_nil)) pa_nil))) (fun _ _ => rfl))), ?_⟩
  refine ⟨_, rfl, _, rfl, _, rfl, l, xs, rfl, .inl (SqL.of hl), S, (xs.length : Int), m, rfl, hs, hm, by omega, by omega, fun d H' e hs' d0 d1 => ?_⟩
  have hd : d.toNat < xs.length := by omega
  refine ⟨l, xs, d, xs[d.toNat], rfl, rfl, SqL.of (e.lstS hl ne), ?_, q _ H' (List.getElem_mem hd) e hs'⟩
  have := atI_nat (List.getElem?_eq_getElem hd)
  rwa [show ((d.toNat : Nat) : Int) = d from by omega] at this
/-! ### _law_word -/
def spWord (T : Tb) : Sp := fun vs H Q _ => ∃ (S : Addr) (m : Nat), vs = [.ref S] ∧ SrcAt H S m ∧ m + 5 < 1000000 ∧ ∀ z H', ascii z → z.length ≤ 4 → Ex T [S] H H' → SrcAt H' S (m + 5) → Q (.str z) H'
def abcT : Str := "abcdefghijklmnopqrstuvwxyz"
theorem abc_len : abcT.cps.toList.length = 26 := by decide +kernel
theorem abc_ascii : ascii abcT := by unfold ascii; decide +kernel
abbrev nWo : List Str := ["_law_source_here", "_law_text", "_law_turn"]
theorem sc_word : FnScope nWo ["_law_source_here"] (defScope (top 45)) := ⟨rfl, rfl, rfl, by decide +kernel, rfl, by decide +kernel, by decide +kernel⟩
theorem ok_word (D : Dn K mg "_law_word" (top 45)) (B : Bl mg) (hD : Has P w K mg base CX0 1 "_law_draw" ["_law_source_here", "_law_many"] (spDraw T)) : Has P w K mg base CX0 2 "_law_word" ["_law_source_here"] (spWord T) := by
  obtain ⟨fd, fdd, hmd, kpd, bd, Gd⟩ := hD.ex
  refine D.has0 sc_word (fun vs H Q E h => ?_) (fun _ _ _ _ _ _ us hl => match us, hl with | [_], _ => rfl) (fun f cdv A outer s H vs Q E hr h => ?_)
  · obtain ⟨S, m, rfl, _⟩ := h
    rfl
  obtain ⟨S, m, rfl, hs, hm, q⟩ := h
  refine ⟨_, pss_cons (ps_set (i := 1) sc_word.nd rfl (.inl rfl) pe_str)
    (pss_cons (ps_for PassesOwn.never rfl (pi_range1 rfl B.range (pa_cons (pe_op op_add pe_int (pe_call Gd hr rfl hmd kpd bd .nil pass0 (pa_cons (pv 0) (pa_cons pe_int pa_nil)))) pa_nil)) (pg_name (i := 2) sc_word.nd rfl (.inl rfl))
      (pss_one (ps_set (i := 1) sc_word.nd rfl (.inl rfl) (pe_op op_add_str (pv 1) (pe_ix ix_str pe_str (pe_call Gd hr rfl hmd kpd bd .nil pass0 (pa_cons (pv 0) (pa_cons pe_int pa_nil))) (fun _ _ => rfl))))))
    (pss_one (ps_ret (pv 1)))), ?_⟩
  refine draw_lit rfl hs (by omega) (by decide) (by decide) fun d H1 e1 hs1 d0 d1 => ⟨1, d, rfl, rfl, 1 + d, rfl, by omega, by omega, ?_⟩
  refine forw_it (walk_range (lo := 0) (n := (1 + d).toNat)) (fun i σ Hi => ∃ z v2, σ = [some (.ref S), some (.str z), v2] ∧ ascii z ∧ z.length = i ∧ Ex T [S] H Hi ∧ SrcAt Hi S (m + 1 + i)) ⟨_, none, rfl, ascii_empty, by decide +kernel, e1, hs1⟩ (fun _ _ _ _ _ => trivial) ?_ ?_
  · rintro i x σ Hi0 Hi hi ⟨z, v2, rfl, az, lz, e, hsi⟩ ⟨rfl, rfl⟩
    have hi4 : i < 4 := by omega
    refine ⟨_, rfl, draw_lit rfl hsi (by omega) (by decide) (by decide) fun d2 H2 e2 hs2 d20 d21 => ?_⟩
    have hd : d2.toNat < abcT.cps.toList.length := by rw [abc_len]; omega
    have hc : abcT.cps.toList[d2.toNat] < 128 := abc_ascii _ (List.getElem_mem hd)
    have hat : atI abcT.cps.toList d2 = some abcT.cps.toList[d2.toNat] := by
      have := atI_nat (List.getElem?_eq_getElem hd)
      rwa [show ((d2.toNat : Nat) : Int) = d2 from by omega] at this
    have hlen1 : (⟨#[abcT.cps.toList[d2.toNat]]⟩ : Str).length = 1 := rfl
    refine ⟨_, d2, _, rfl, rfl, by show abcT.length ≤ sizeLine; decide +kernel, hat, z, _, rfl, rfl, small_str (by rw [hlen1]; omega), ?_⟩
    exact ⟨_, _, rfl, ascii_app az (ascii_one hc), by rw [len_app, hlen1, lz], e.trans e2, hs2.up (by omega)⟩
  · rintro σ Hi ⟨z, v2, rfl, az, lz, e, hsi⟩
    exact ⟨_, rfl, q z Hi az (by omega) e (hsi.up (by omega))⟩
/-! ### _law_text_key -/
def spTextKey (T : Tb) : Sp := fun vs H Q _ => ∃ (S : Addr) (m : Nat), vs = [.ref S] ∧ SrcAt H S m ∧ m + 8 < 1000000 ∧ ∀ z H', ascii z → z.length ≤ 20 → Ex T [S] H H' → SrcAt H' S (m + 8) → Q (.str z) H'
abbrev nTK : List Str := ["_law_source_here", "_law_road", "_law_word_here"]
theorem sc_tk : FnScope nTK ["_law_source_here"] (defScope (top 46)) := ⟨rfl, rfl, rfl, by decide +kernel, rfl, by decide +kernel, by decide +kernel⟩
theorem txt_small {d : Int} (h0 : 0 ≤ d) (h1 : d < 10 ^ 10) : ascii (txt d) ∧ (txt d).length ≤ 11 := by
  obtain ⟨m, rfl⟩ := Int.eq_ofNat_of_zero_le h0
  have hx := len_tl' (txt (m : Int))
  rw [txt_nat] at hx
  refine ⟨(txt_ok (by omega)).1, ?_⟩
  rw [hx, List.length_map]
  have : (Nat.toDigits 10 m).length ≤ 10 := (Nat.length_toDigits_le_iff (by decide) (by decide)).mpr (by omega)
  omega
theorem ok_text_key (D : Dn K mg "_law_text_key" (top 46)) (B : Bl mg) (hD : Has P w K mg base CX0 1 "_law_draw" ["_law_source_here", "_law_many"] (spDraw T)) (hW : Has P w K mg base CX0 2 "_law_word" ["_law_source_here"] (spWord T)) : Has P w K mg base CX0 3 "_law_text_key" ["_law_source_here"] (spTextKey T) := by
  obtain ⟨fd, fdd, hmd, kpd, bd, Gd⟩ := hD.ex
  obtain ⟨fw, fdw, hmw, kpw, bw, Gw⟩ := hW.ex
  refine D.has0 sc_tk (fun vs H Q E h => ?_) (fun _ _ _ _ _ _ us hl => match us, hl with | [_], _ => rfl) (fun f cdv A outer s H vs Q E hr h => ?_)
  · obtain ⟨S, m, rfl, _⟩ := h
    rfl
  obtain ⟨S, m, rfl, hs, hm, q⟩ := h
  have hr1 := hr.mono (j := 1) (by omega)
  refine ⟨_, pss_cons (ps_par (i := 1) (j := 2) (by rfl) sc_tk.nd rfl rfl (by decide) rfl rfl (pa_cons (pe_call Gd hr1 rfl hmd kpd bd .nil pass0 (pa_cons (pv 0) (pa_cons pe_int pa_nil))) (pa_cons (pe_call Gw hr rfl hmw kpw bw .nil pass0 (pa_cons (pv 0) pa_nil)) pa_nil)) (by rfl))
    (pss_cons (ps_if (pt_cmpR op_lt (pv 1) pe_int (nomark _)) (pss_one (ps_ret (pv 2))) pss_nil)
    (pss_one (ps_ret (pe_ix ix_list (pe_lst (pa_cons pe_str (pa_cons (pe_op op_add_str pe_str (pe_callTy call_str_int rfl B.str (by decide +kernel) (pa_cons (pe_call Gd hr1 rfl hmd kpd bd .nil pass0 (pa_cons (pv 0) (pa_cons pe_int pa_nil))) pa_nil)))
      (pa_cons (pe_op op_add_str pe_str (pe_callTy call_str_int rfl B.str (by decide +kernel) (pa_cons (pe_call Gd hr1 rfl hmd kpd bd .nil pass0 (pa_cons (pv 0) (pa_cons pe_int pa_nil))) pa_nil))) (pa_cons (pe_op op_add_str pe_str (pv 2)) pa_nil))))) (pe_op op_sub (pv 1) pe_int) (fun _ _ => rfl))))), ?_⟩
  refine draw_lit rfl hs (by omega) (by decide) (by decide) fun d H1 e1 hs1 d0 d1 => ⟨_, rfl, S, m + 1, rfl, hs1, by omega, fun z H2 az lz e2 hs2 => ⟨_, _, rfl, ?_⟩⟩
  have e12 := e1.trans e2
  refine ⟨_, rfl, d, 4, rfl, rfl, _, rfl, ?_⟩
  refine ite2 (fun c => ?_) (fun c => ?_)
  · exact ⟨_, rfl, q z H2 az (by omega) e12 (hs2.up (by omega))⟩
  · have c' : ¬ d < 4 := of_decide_eq_false (Bool.eq_false_iff.mpr c)
    have okd : ∀ {d3 : Int}, 0 ≤ d3 → d3 < 10 → d3.natAbs.log2 < 1920 := fun {d3} a b => by
      have : okI d3 := by unfold okI; omega
      exact log_ok this
    refine draw_lit rfl hs2 (by omega) (by decide) (by decide) fun d3 H3 e3 hs3 d30 d31 => ⟨d3, rfl, okd d30 (by omega), ?_⟩
    obtain ⟨a3, l3⟩ := txt_small d30 (by omega : d3 < 10 ^ 10)
    have lk : ("k" : Str).length = 1 := by decide +kernel
    have l0 : ("0" : Str).length = 1 := by decide +kernel
    have lsp : (" " : Str).length = 1 := by decide +kernel
    refine ⟨"k", txt d3, rfl, rfl, small_str (by rw [lk]; omega), draw_lit rfl hs3 (by omega) (by decide) (by decide) fun d4 H4 e4 hs4 d40 d41 => ⟨d4, rfl, okd d40 d41, ?_⟩⟩
    obtain ⟨a4, l4⟩ := txt_small d40 (by omega : d4 < 10 ^ 10)
    refine ⟨"0", txt d4, rfl, rfl, small_str (by rw [l0]; omega), _, rfl, " ", z, rfl, rfl, small_str (by rw [lsp]; omega), by show 4 ≤ sizeLine; decide, fun lv hlv => ?_⟩
    refine ⟨_, rfl, d, 4, rfl, rfl, ?_⟩
    have ak : ascii "k" := by unfold ascii; decide +kernel
    have a0 : ascii "0" := by unfold ascii; decide +kernel
    have asp : ascii " " := by unfold ascii; decide +kernel
    have ae : ascii "" := by unfold ascii; decide +kernel
    have le : ("" : Str).length = 0 := by decide +kernel
    have e4' := ((e12.trans e3).trans e4).trans (Ex.new (T := T) (L := [S]) hlv (.lst [.str "", .str ("k" ++ txt d3), .str ("0" ++ txt d4), .str (" " ++ z)]))
    have hs5 : SrcAt (upd H4 lv (.lst [.str "", .str ("k" ++ txt d3), .str ("0" ++ txt d4), .str (" " ++ z)])) S (m + 8) := (hs4.ex (Ex.new (T := T) hlv _)).up (by omega)
    obtain ⟨j, rfl⟩ := Int.eq_ofNat_of_zero_le d0
    have fin : ∀ (i : Nat) (x : Str), ([V.str "", .str ("k" ++ txt d3), .str ("0" ++ txt d4), .str (" " ++ z)])[i]? = some (.str x) → ((j : Int) - 4 = (i : Int)) → ascii x → x.length ≤ 20 → rIxL K (.ref lv) (.int ((j : Int) - 4)) (upd H4 lv (.lst [.str "", .str ("k" ++ txt d3), .str ("0" ++ txt d4), .str (" " ++ z)])) Q := fun i x hx hi ax lx =>
      ⟨lv, _, _, _, rfl, rfl, SqL.of upd_same, by rw [hi]; exact atI_nat hx, q x _ ax lx e4' hs5⟩
    have hj : j = 4 ∨ j = 5 ∨ j = 6 ∨ j = 7 := by omega
    rcases hj with h | h | h | h
    · subst h; exact fin 0 _ rfl (by omega) ae (by rw [le]; omega)
    · subst h; exact fin 1 _ rfl (by omega) (ascii_app ak a3) (by rw [len_app, lk]; omega)
    · subst h; exact fin 2 _ rfl (by omega) (ascii_app a0 a4) (by rw [len_app, l0]; omega)
    · subst h; exact fin 3 _ rfl (by omega) (ascii_app asp az) (by rw [len_app, lsp]; omega)
end
end K86
/-! K86Focus: focus, is_number, twins. -/
namespace K86
open PySem PySem.Spec PyProof.Rows L2

theorem txt_len {i : Int} {k : Nat} (hk : 0 < k) (h : i.natAbs < 10 ^ k) : (txt i).length ≤ k + 1 := by
  have hx := len_tl' (txt i)
  rcases Int.natAbs_eq i with e | e
  · rw [e] at hx ⊢
    rw [hx, txt_nat, List.length_map]
    have := (Nat.length_toDigits_le_iff (b := 10) (by decide) hk).mpr h
    omega
  · by_cases z : i.natAbs = 0
    · have : i = 0 := by omega
      subst this
      have : (txt 0).length = 1 := by decide +kernel
      omega
    · rw [e] at hx ⊢
      rw [hx, txt_neg _ (by omega), List.length_cons, List.length_map]
      have := (Nat.length_toDigits_le_iff (b := 10) (by decide) hk).mpr h
      omega
theorem txt_okS {i : Int} (h : i.natAbs < 10 ^ 28) : okS (txt i) := ⟨(txt_ok (Nat.lt_of_lt_of_le h (by decide))).1, by have := txt_len (by decide) h; omega⟩
/-- a key that is drawn -/
def okKi : Key → Prop
  | .inl i => i.natAbs < 10 ^ 28
  | .inr x => okS x
theorem okKi.s {k : Key} (h : okKi k) : okKs k := by
  cases k with
  | inl i => exact Nat.lt_of_lt_of_le h (by decide)
  | inr x => exact h
/-- a list of one or two keys -/
def KL (S : Addr) (H : Hp) (x : V) : Prop := ∃ (l : Addr) (ks : List Key), x = .ref l ∧ l ≠ S ∧ H l = some (.lst (ks.map kV)) ∧ 1 ≤ ks.length ∧ ks.length ≤ 2 ∧ ∀ k ∈ ks, okKi k
theorem KL.same {S : Addr} {H H' : Hp} {x : V} (h : KL S H x) (s : Same H H') : KL S H' x := by
  obtain ⟨l, ks, h1, h2, h3, h4⟩ := h
  exact ⟨l, ks, h1, h2, s _ _ h3, h4⟩
section
variable {P : Program} {w : World} {K : PySem.W.Frag} {mg : Str → Option Value} {base : Heap} {CT CP : Addr} {T : Tb}
def spFocus (T : Tb) : Sp := fun vs H Q _ => ∃ (S : Addr) (m : Nat), vs = [.ref S] ∧ SrcAt H S m ∧ m + 10 < 1000000 ∧ ∀ x H', KL S H' x → Ex T [S] H H' → SrcAt H' S (m + 10) → Q x H'
abbrev nFo : List Str := ["_law_source_here", "_law_number", "_law_word_here", "_law_found"]
theorem sc_focus : FnScope nFo ["_law_source_here"] (defScope (top 47)) := ⟨rfl, rfl, rfl, by decide +kernel, rfl, by decide +kernel, by decide +kernel⟩
theorem ok_focus (D : Dn K mg "_law_focus" (top 47)) (B : Bl mg) (hD : Has P w K mg base CX0 1 "_law_draw" ["_law_source_here", "_law_many"] (spDraw T)) (hP : Has P w K mg base CX0 2 "_law_pick" ["_law_source_here", "_law_some"] (spPick T)) (hT : Has P w K mg base CX0 3 "_law_text_key" ["_law_source_here"] (spTextKey T)) : Has P w K mg base CX0 4 "_law_focus" ["_law_source_here"] (spFocus T) := by
  obtain ⟨fd, fdd, hmd, kpd, bd, Gd⟩ := hD.ex
  obtain ⟨fp, fdp, hmp, kpp, bp, Gp⟩ := hP.ex
  obtain ⟨ft, fdt, hmt, kpt, bt, Gt⟩ := hT.ex
  refine D.has0 sc_focus (fun vs H Q E h => ?_) (fun _ _ _ _ _ _ us hl => match us, hl with | [_], _ => rfl) (fun f cdv A outer s H vs Q E hr h => ?_)
  · obtain ⟨S, m, rfl, _⟩ := h
    rfl
  obtain ⟨S, m, rfl, hs, hm, q⟩ := h
  have hr1 := hr.mono (j := 1) (by omega)
  have hr2 := hr.mono (j := 2) (by omega)
  refine ⟨_, pss_cons (ps_par (i := 1) (j := 2) (by rfl) sc_focus.nd rfl rfl (by decide) rfl rfl (pa_cons (pe_op op_sub (pe_call Gd hr1 rfl hmd kpd bd .nil pass0 (pa_cons (pv 0) (pa_cons pe_int pa_nil))) pe_int) (pa_cons (pe_call Gt hr rfl hmt kpt bt .nil pass0 (pa_cons (pv 0) pa_nil)) pa_nil)) (by rfl))
    (pss_cons (ps_set (i := 3) sc_focus.nd rfl (.inl rfl) (pe_lst (pa_cons (pe_lst (pa_cons (pv 1) (pa_cons (pe_callTy call_str_int rfl B.str (by decide +kernel) (pa_cons (pv 1) pa_nil)) pa_nil)))
      (pa_cons (pe_lst (pa_cons (pv 1) (pa_cons (pe_callTy call_str_int rfl B.str (by decide +kernel) (pa_cons (pv 1) pa_nil)) pa_nil)))
      (pa_cons (pe_lst (pa_cons (pv 1) pa_nil)) (pa_cons (pe_lst (pa_cons (pe_callTy call_str_int rfl B.str (by decide +kernel) (pa_cons (pv 1) pa_nil)) pa_nil))
      (pa_cons (pe_lst (pa_cons (pv 2) pa_nil)) (pa_cons (pe_lst (pa_cons (pv 2) (pa_cons (pe_op op_add_str (pv 2) pe_str) pa_nil))) pa_nil))))))))
    (pss_one (ps_ret (pe_call Gp hr2 rfl hmp kpp bp .nil pass0 (pa_cons (pv 0) (pa_cons (pe_op op_cat (pv 3) (pe_lst (pa_cons (pe_lst (pa_cons (pv 1) pa_nil)) pa_nil))) pa_nil)))))), ?_⟩
  refine draw_lit rfl hs (by omega) (by decide) (by decide) fun d H1 e1 hs1 d0 d1 => ⟨d, 1000000, rfl, rfl, _, rfl, S, m + 1, rfl, hs1, by omega, fun z H2 az lz e2 hs2 => ⟨_, _, rfl, ?_⟩⟩
  have e12 := e1.trans e2
  have on : (d - 1000000).natAbs < 10 ^ 7 := by omega
  have okn : okI (d - 1000000) := Nat.lt_of_lt_of_le on (by decide)
  have kn : okKi (.inl (d - 1000000)) := Nat.lt_of_lt_of_le on (by decide)
  have kt : okKi (.inr (txt (d - 1000000))) := txt_okS (Nat.lt_of_lt_of_le on (by decide))
  have kz : okKi (.inr z) := ⟨az, by omega⟩
  have la : ("a" : Str).length = 1 := by decide +kernel
  have aa : ascii "a" := by unfold ascii; decide +kernel
  have kza : okKi (.inr (z ++ "a")) := ⟨ascii_app az aa, by rw [len_app, la]; omega⟩
  have new : ∀ {Hi : Hp} {p : Addr} (ks : List Key), SrcAt Hi S (m + 9) → Hi p = none → 1 ≤ ks.length → ks.length ≤ 2 → (∀ k ∈ ks, okKi k) → KL S (upd Hi p (.lst (ks.map kV))) (.ref p) ∧ SrcAt (upd Hi p (.lst (ks.map kV))) S (m + 9) ∧ Ex T [S] Hi (upd Hi p (.lst (ks.map kV))) ∧ Same Hi (upd Hi p (.lst (ks.map kV))) := fun {Hi p} ks hs hp h1 h2 h3 => by
    obtain ⟨a, b, c, hS, _⟩ := id hs
    exact ⟨⟨p, ks, rfl, Ne.symm (ne_of_none hS hp), upd_same, h1, h2, h3⟩, hs.ex (Ex.new (T := T) hp _), Ex.new hp _, same_new hp _⟩
  have two : ∀ {a b : Key}, okKi a → okKi b → ∀ k ∈ [a, b], okKi k := fun ha hb k hk => by
    rcases List.mem_cons.mp hk with e | hk
    · rw [e]; exact ha
    · rw [List.mem_singleton.mp hk]; exact hb
  have one : ∀ {a : Key}, okKi a → ∀ k ∈ [a], okKi k := fun ha k hk => by rw [List.mem_singleton.mp hk]; exact ha
  have hs2' : SrcAt H2 S (m + 9) := hs2.up (by omega)
  refine ⟨_, rfl, _, rfl, (d - 1000000), rfl, log_ok okn, by show 2 ≤ sizeLine; decide, fun p1 hp1 => ?_⟩
  obtain ⟨k1, s1, x1, m1⟩ := new [.inl (d - 1000000), .inr (txt (d - 1000000))] hs2' hp1 (by simp) (by simp) (two kn kt)
  refine ⟨_, rfl, _, rfl, (d - 1000000), rfl, log_ok okn, by show 2 ≤ sizeLine; decide, fun p2 hp2 => ?_⟩
  obtain ⟨k2, s2, x2, m2⟩ := new [.inl (d - 1000000), .inr (txt (d - 1000000))] s1 hp2 (by simp) (by simp) (two kn kt)
  refine ⟨_, rfl, by show 1 ≤ sizeLine; decide, fun p3 hp3 => ?_⟩
  obtain ⟨k3, s3, x3, m3⟩ := new [.inl (d - 1000000)] s2 hp3 (by simp) (by simp) (one kn)
  refine ⟨_, rfl, (d - 1000000), rfl, log_ok okn, by show 1 ≤ sizeLine; decide, fun p4 hp4 => ?_⟩
  obtain ⟨k4, s4, x4, m4⟩ := new [.inr (txt (d - 1000000))] s3 hp4 (by simp) (by simp) (one kt)
  refine ⟨_, rfl, by show 1 ≤ sizeLine; decide, fun p5 hp5 => ?_⟩
  obtain ⟨k5, s5, x5, m5⟩ := new [.inr z] s4 hp5 (by simp) (by simp) (one kz)
  refine ⟨_, rfl, _, rfl, z, "a", rfl, rfl, small_str (by rw [la]; omega), by show 2 ≤ sizeLine; decide, fun p6 hp6 => ?_⟩
  obtain ⟨k6, s6, x6, m6⟩ := new [.inr z, .inr (z ++ "a")] s5 hp6 (by simp) (by simp) (two kz kza)
  refine ⟨by show 6 ≤ sizeLine; decide, fun lf hlf => ?_⟩
  have x7 : Ex T [S] _ _ := Ex.new (T := T) (L := [S]) hlf (.lst [.ref p1, .ref p2, .ref p3, .ref p4, .ref p5, .ref p6])
  have m7 := same_new hlf (.lst [.ref p1, .ref p2, .ref p3, .ref p4, .ref p5, .ref p6])
  have s7 := s6.ex (Ex.new (T := T) hlf (.lst [.ref p1, .ref p2, .ref p3, .ref p4, .ref p5, .ref p6]))
  have xall := (((((e12.trans x1).trans x2).trans x3).trans x4).trans x5).trans (x6.trans x7)
  have K1 := ((((k1.same m2).same m3).same m4).same m5).same (m6.trans m7)
  have K2 := (((k2.same m3).same m4).same m5).same (m6.trans m7)
  have K3 := ((k3.same m4).same m5).same (m6.trans m7)
  have K4 := (k4.same m5).same (m6.trans m7)
  have K5 := k5.same (m6.trans m7)
  have K6 := k6.same m7
  have hlf7 : upd (upd (upd (upd (upd (upd (upd H2 p1 (.lst [.int (d - 1000000), .str (txt (d - 1000000))])) p2 (.lst [.int (d - 1000000), .str (txt (d - 1000000))])) p3 (.lst [.int (d - 1000000)])) p4 (.lst [.str (txt (d - 1000000))])) p5 (.lst [.str z])) p6 (.lst [.str z, .str (z ++ "a")])) lf (.lst [.ref p1, .ref p2, .ref p3, .ref p4, .ref p5, .ref p6]) lf = some (.lst [.ref p1, .ref p2, .ref p3, .ref p4, .ref p5, .ref p6]) := upd_same
  refine ⟨_, rfl, _, rfl, _, rfl, by show 1 ≤ sizeLine; decide, fun p8 hp8 => ?_⟩
  obtain ⟨k8, s8, x8, m8⟩ := new [.inl (d - 1000000)] s7 hp8 (by simp) (by simp) (one kn)
  refine ⟨by show 1 ≤ sizeLine; decide, fun l9 hl9 => ?_⟩
  have m9 := same_new hl9 (.lst [.ref p8])
  have s9 := s8.ex (Ex.new (T := T) hl9 (.lst [.ref p8]))
  have x9 : Ex T [S] _ _ := Ex.new (T := T) (L := [S]) hl9 (.lst [.ref p8])
  refine ⟨lf, l9, _, _, rfl, rfl, m9 _ _ (m8 _ _ hlf7), upd_same, by show 6 + 1 ≤ sizeLine; decide, fun l10 hl10 => ?_⟩
  have m10 := same_new hl10 (.lst [.ref p1, .ref p2, .ref p3, .ref p4, .ref p5, .ref p6, .ref p8])
  have s10 := s9.ex (Ex.new (T := T) hl10 (.lst [.ref p1, .ref p2, .ref p3, .ref p4, .ref p5, .ref p6, .ref p8]))
  have x10 : Ex T [S] _ _ := Ex.new (T := T) (L := [S]) hl10 (.lst [.ref p1, .ref p2, .ref p3, .ref p4, .ref p5, .ref p6, .ref p8])
  obtain ⟨sa, sb, sc, hS9, _⟩ := id s9
  refine ⟨S, l10, [.ref p1, .ref p2, .ref p3, .ref p4, .ref p5, .ref p6, .ref p8], m + 9, rfl, s10, by omega, upd_same, Ne.symm (ne_of_none hS9 hl10), by simp, by simp, fun x H' hx e' hs' => ?_⟩
  have mm := m8.trans (m9.trans m10)
  have Kx : KL S (upd (upd (upd (upd (upd (upd (upd (upd (upd (upd H2 p1 (.lst [.int (d - 1000000), .str (txt (d - 1000000))])) p2 (.lst [.int (d - 1000000), .str (txt (d - 1000000))])) p3 (.lst [.int (d - 1000000)])) p4 (.lst [.str (txt (d - 1000000))])) p5 (.lst [.str z])) p6 (.lst [.str z, .str (z ++ "a")])) lf (.lst [.ref p1, .ref p2, .ref p3, .ref p4, .ref p5, .ref p6])) p8 (.lst [.int (d - 1000000)])) l9 (.lst [.ref p8])) l10 (.lst [.ref p1, .ref p2, .ref p3, .ref p4, .ref p5, .ref p6, .ref p8])) x := by
    simp only [List.mem_cons, List.not_mem_nil, or_false] at hx
    rcases hx with h | h | h | h | h | h | h
    · rw [h]; exact K1.same mm
    · rw [h]; exact K2.same mm
    · rw [h]; exact K3.same mm
    · rw [h]; exact K4.same mm
    · rw [h]; exact K5.same mm
    · rw [h]; exact K6.same mm
    · rw [h]; exact k8.same (m9.trans m10)
  obtain ⟨l, ks, rfl, hne, hl, h1, h2, h3⟩ := Kx
  exact q _ H' ⟨l, ks, rfl, hne, e'.lstS hl hne, h1, h2, h3⟩ ((xall.trans (x8.trans (x9.trans x10))).trans e') hs'

/-! ### _law_is_number -/
def spIsNum : Sp := fun vs H Q _ => ∃ x, vs = [.str x] ∧ okS x ∧ Q (.bl (isDig x)) H
theorem sc_isnum : FnScope ["_law_text", "_law_digits"] ["_law_text"] (defScope (top 48)) := ⟨rfl, rfl, rfl, by decide +kernel, rfl, by decide +kernel, by decide +kernel⟩
theorem cut_head (x : Str) : cutS x none (some 1) = "-" ↔ ∃ cs, x.cps.toList = 45 :: cs := by
  have hx := len_tl' x
  have e : (cutS x none (some 1)).cps.toList = x.cps.toList.take (min 1 x.length) := by
    unfold cutS
    simp [HT.sIx]
    try omega
  constructor
  · intro h
    rw [h, minus_list] at e
    cases q : x.cps.toList with
    | nil => rw [q] at e; simp at e
    | cons c cs =>
      rw [q] at e hx
      have : min 1 x.length = 1 := by rw [hx, List.length_cons]; omega
      rw [this] at e
      simp at e
      exact ⟨cs, by rw [e]⟩
  · rintro ⟨cs, q⟩
    refine str_ext ?_
    rw [e, minus_list, q]
    rw [q, List.length_cons] at hx
    have : min 1 x.length = 1 := by omega
    rw [this]
    rfl
theorem cut_tail {x : Str} {cs : List Nat} (h : x.cps.toList = 45 :: cs) : cutS x (some 1) none = Txt.removeprefix x "-" := by
  have hx := len_tl' x
  rw [h, List.length_cons] at hx
  rcases rp_cases x with ⟨cs', e1, e2⟩ | ⟨e1, e2⟩
  · refine str_ext ?_
    rw [e2]
    have : cs' = cs := by rw [h] at e1; exact (List.cons.inj e1).2.symm
    subst this
    unfold cutS
    rw [h]
    simp [HT.sIx, hx]
    try omega
  · exact absurd (by rw [h]; rfl) e2
theorem ok_isnum (D : Dn K mg "_law_is_number" (top 48)) (B : Bl mg) : Has P w K mg base CX0 1 "_law_is_number" ["_law_text"] spIsNum := by
  refine D.has0 sc_isnum (fun vs H Q E h => ?_) (fun _ _ _ _ _ _ us hl => match us, hl with | [_], _ => rfl) (fun f cdv A outer s H vs Q E hr h => ?_)
  · obtain ⟨x, rfl, _⟩ := h
    rfl
  obtain ⟨x, rfl, ok, q⟩ := h
  refine ⟨_, pss_cons (ps_set (i := 1) sc_isnum.nd rfl (.inl rfl) (pe_ifExp (pt_cmpR op_eq (pe_slice sl_str (pv 0) po_none (po_some pe_int)) pe_str (nomark _)) (pe_slice sl_str (pv 0) (po_some pe_int) po_none) (pv 0)))
    (pss_one (ps_ret (pe_and (pe_m0 PySem.F.slot_str_isdigit PySem.F.type_str_isdigit mt_isdigit (pv 1)) (pe_one (pe_or (pe_cmpR op_eq (pv 0) pe_str (nomark _)) (pe_one (pe_cmpR op_ne (pe_ix ix_str (pv 1) pe_int (fun _ _ => rfl)) pe_str (nomark _)))))))), ?_⟩
  have hlx : x.length ≤ 30 := ok.2
  have hld := rp_len x
  -- what the slots hold
  have rest : ∀ {D : Ends}, tRet (tAndV (tM0 (fun x xs H Q => ∃ a, x = .str a ∧ xs = [] ∧ True ∧ Q (.bl (Txt.isdigit a)) H) (tVar 1)) (tOrV (tOp rEq (tVar 0) (tC (.str "0"))) (tOp rNe (tOp rIxS (tVar 1) (tC (.int 0))) (tC (.str "0"))))) { D with rt := Q } [some (.str x), some (.str (Txt.removeprefix x "-"))] H := by
    intro D
    refine ⟨_, rfl, ⟨_, rfl⟩, _, rfl, rfl, trivial, _, rfl, ?_⟩
    have c2 : (Txt.removeprefix x "-").length ≤ 30 := by omega
    by_cases c1 : Txt.isdigit (Txt.removeprefix x "-") = true
    · rw [c1]
      refine iteT ⟨_, rfl, rfl, _, rfl, ?_⟩
      rw [dec_str]
      by_cases c3 : x = "0"
      · rw [decide_eq_true c3]
        refine iteT ?_
        have e : isDig x = true := by unfold isDig; rw [c1, decide_eq_true c2, decide_eq_true c3]; rfl
        rw [e] at q
        exact q
      · rw [decide_eq_false c3]
        refine iteF ?_
        have hne : (Txt.removeprefix x "-").cps.toList ≠ [] := fun z => by
          have hl := len_tl' (Txt.removeprefix x "-")
          rw [z] at hl
          unfold Txt.isdigit at c1
          rw [hl] at c1
          exact absurd c1 (by simp)
        cases hq : (Txt.removeprefix x "-").cps.toList with
        | nil => exact absurd hq hne
        | cons c r =>
          refine ⟨_, rfl, _, 0, c, rfl, rfl, line300 (by omega), by rw [hq]; exact atI_nat (j := 0) rfl, rfl, ?_⟩
          have e : isDig x = !decide (V.str ⟨#[c]⟩ = V.str "0") := by
            unfold isDig headC
            rw [c1, decide_eq_true c2, decide_eq_false c3, hq]
            rw [show decide (V.str ⟨#[c]⟩ = V.str "0") = decide (c = 48) from decide_eq_decide.mpr one_sign]
            simp
          rw [e] at q
          exact q
    · have c1' : Txt.isdigit (Txt.removeprefix x "-") = false := by simpa using c1
      rw [c1']
      refine iteF ?_
      have e : isDig x = false := by unfold isDig; rw [c1']; rfl
      rw [e] at q
      exact q
  refine ⟨_, rfl, 1, rfl, x, rfl, line300 (by omega), rfl, _, rfl, ?_⟩
  rw [dec_str]
  by_cases c : cutS x none (some 1) = "-"
  · obtain ⟨cs, hcs⟩ := (cut_head x).mp c
    rw [decide_eq_true c]
    refine iteT ⟨_, rfl, 1, rfl, x, rfl, line300 (by omega), ?_⟩
    rw [cut_tail hcs]
    exact rest (D := { nx := fun _ H' => Q .non H', rt := Q })
  · rw [decide_eq_false c]
    refine iteF ⟨_, rfl, ?_⟩
    have e : Txt.removeprefix x "-" = x := by
      rcases rp_cases x with ⟨cs', e1, e2⟩ | ⟨e1, e2⟩
      · exact absurd ((cut_head x).mpr ⟨cs', e1⟩) c
      · exact e1
    have := rest (D := { nx := fun _ H' => Q .non H', rt := Q })
    rw [e] at this
    exact this
end
end K86
/-! K86Atoms: twins, atoms, scalar, key. -/
namespace K86
open PySem PySem.Spec PyProof.Rows L2

theorem flat_kV (k : Key) : flatV (kV k) = true := by cases k <;> rfl
theorem flat_kVs (ks : List Key) : (ks.map kV).all flatV = true := by
  rw [List.all_map]
  exact List.all_eq_true.mpr fun k _ => flat_kV k
/-- a scalar that is a value -/
def ScV (x : V) : Prop := ∃ v, okV 0 v ∧ ∀ CT L n H, Rep CT L n H v x
theorem scv_int {i : Int} (h : okI i) : ScV (.int i) := ⟨.int i, h, fun CT L n H => by unfold Rep; rfl⟩
theorem scv_str {z : Str} (h : okT z) : ScV (.str z) := ⟨.str z, h, fun CT L n H => by unfold Rep; rfl⟩
theorem scv_bl {b : Bool} : ScV (.bl b) := ⟨.bl b, True.intro, fun CT L n H => by unfold Rep; rfl⟩
theorem scv_non : ScV .non := ⟨.non, True.intro, fun CT L n H => by unfold Rep; rfl⟩
section
variable {P : Program} {w : World} {K : PySem.W.Frag} {mg : Str → Option Value} {base : Heap} {CT CP : Addr} {T : Tb}
/-! ### _law_twins -/
def spTwins (T : Tb) : Sp := fun vs H Q _ => ∃ (l : Addr) (ks : List Key), vs = [.ref l] ∧ H l = some (.lst (ks.map kV)) ∧ 1 ≤ ks.length ∧ ks.length ≤ 2 ∧ (∀ k ∈ ks, okKi k) ∧
  ∀ (l' : Addr) (js : List Key) (H' : Hp), Ex T [] H H' → (∀ L, LT H L → l' ∉ L) → H' l' = some (.lst (js.map kV)) → 1 ≤ js.length → js.length ≤ 4 → (∀ k ∈ js, okKs k) → Q (.ref l') H'
abbrev nTw : List Str := ["_law_keys", "_law_found", "_law_key_here", "_law_both", "_law_one"]
theorem sc_twins : FnScope nTw ["_law_keys"] (defScope (top 49)) := ⟨rfl, rfl, rfl, by decide +kernel, rfl, by decide +kernel, by decide +kernel⟩
theorem twins_comp {H : Hp} {D lf lb : Addr} {js bs : List Key} {x0 x2 : V} {Qd : Hp → Prop} (hD : H D = none) (hf : H lf = some (.lst (js.map kV))) (hb : H lb = some (.lst (bs.map kV))) (hbl : bs.length ≤ 2) (ob : ∀ k ∈ bs, okKs k)
    (hq : ∀ (Hi : Hp) (rs : List Key), Ex T [] H Hi → Hi D = some (.lst (rs.map kV)) → rs.length ≤ 2 → (js = [] → rs.length = bs.length) → (∀ k ∈ rs, okKs k) → Qd Hi) :
    LcW (Itl K lb) (gName 4) (tTest (tOp (rIn K true) (tVar 4) (tVar 1))) (tVar 4) [4] [some x0, some (.ref lf), some x2, some (.ref lb), none] H D Qd := by
  refine lcw_it (walk_list (K := K) (a := lb)) (fun i Hi => ∃ rs : List Key, Hi D = some (.lst (rs.map kV)) ∧ rs.length ≤ i ∧ (js = [] → rs.length = i) ∧ Ex T [] H Hi ∧ ∀ k ∈ rs, okKs k) ⟨[], upd_same, Nat.le_refl _, fun _ => rfl, Ex.new hD _, fun k hk => by cases hk⟩ (fun i Hi _ ⟨_, _, _, _, e, _⟩ => SqL.of (e.lst hb)) ?_ ?_
  · rintro i x Hi0 Hi hi ⟨rs, ha, hl, hj, e, ok⟩ ⟨rfl, hx⟩
    rw [List.getElem?_map] at hx
    obtain ⟨k, hk, rfl⟩ := Option.map_eq_some_iff.mp hx
    rw [List.length_map] at hi
    refine ⟨rfl, _, rfl, _, rfl, lf, _, rfl, .inl (SqL.of (e.lst hf)), flat_kV k, flat_kVs js, _, rfl, ?_⟩
    by_cases c : inV (kV k) (js.map kV) = true
    · rw [c]
      refine iteF ⟨rs, ha, by omega, fun hj' => ?_, e, ok⟩
      subst hj'
      exact absurd c (by simp [inV])
    · have c' : inV (kV k) (js.map kV) = false := by simpa using c
      rw [c']
      refine iteT ⟨_, rfl, rs.map kV, ha, lt1000 (by rw [List.length_map]; omega), rs ++ [k], by rw [upd_same, List.map_append]; rfl, by rw [List.length_append]; show rs.length + 1 ≤ i + 1; omega, fun hj' => by rw [List.length_append, hj hj']; rfl, e.grow hD ha _, fun k' hk' => ?_⟩
      rcases List.mem_append.mp hk' with z | z
      · exact ok k' z
      · rw [List.mem_singleton.mp z]; exact ob k (List.mem_of_getElem? hk)
  · rintro Hi ⟨rs, ha, hl, hj, e, ok⟩
    rw [List.length_map] at hl hj
    exact hq Hi rs e ha (by omega) hj ok
theorem ok_twins (D : Dn K mg "_law_twins" (top 49)) (B : Bl mg) (FT : TF K CT) (hN : Has P w K mg base CX0 1 "_law_is_number" ["_law_text"] spIsNum) : Has P w K mg base CX0 2 "_law_twins" ["_law_keys"] (spTwins T) := by
  obtain ⟨fn, fdn, hmn, kpn, bn, Gn⟩ := hN.ex
  refine D.has0 sc_twins (fun vs H Q E h => ?_) (fun _ _ _ _ _ _ us hl => match us, hl with | [_], _ => rfl) (fun f cdv A outer s H vs Q E hr h => ?_)
  · obtain ⟨l, ks, rfl, _⟩ := h
    rfl
  obtain ⟨l, ks, rfl, hl, h1, h2, ok, q⟩ := h
  refine ⟨_, pss_cons (ps_set (i := 1) sc_twins.nd rfl (.inr rfl) (pe_lst pa_nil))
    (pss_cons (ps_for PassesOwn.never rfl (pi_list (pv 0)) (pg_name (i := 2) sc_twins.nd rfl (.inl rfl))
      (pss_cons (ps_set (i := 3) sc_twins.nd rfl (.inl rfl) (pe_lst (pa_cons (pv 2) pa_nil)))
      (pss_cons (ps_if (pt_not (pt_val (pe_callB call_isi rfl B.isinstance (by decide +kernel) (pa_cons (pv 2) (pa_cons (pe_bltn (v := .ty "str") rfl B.str (by decide +kernel) rfl) pa_nil))))) (pss_one (ps_set (i := 3) sc_twins.nd rfl (.inl rfl) (pe_lst (pa_cons (pv 2) (pa_cons (pe_callTy call_str_int rfl B.str (by decide +kernel) (pa_cons (pv 2) pa_nil)) pa_nil)))))
        (pss_one (ps_if (pt_val (pe_call Gn hr rfl hmn kpn bn .nil pass0 (pa_cons (pv 2) pa_nil))) (pss_one (ps_set (i := 3) sc_twins.nd rfl (.inl rfl) (pe_lst (pa_cons (pe_callTy call_int_str rfl B.int (by decide +kernel) (pa_cons (pv 2) pa_nil)) (pa_cons (pv 2) pa_nil))))) pss_nil)))
      (pss_one (ps_set (i := 1) sc_twins.nd rfl (.inr rfl) (pe_op op_cat (pv 1) (pe_lc (own := [("_law_one", 4)]) (g := gName 4) (tt := tTest (tOp (rIn K true) (tVar 4) (tVar 1))) (te := tVar 4) rfl sc_twins.nd (pi_list (pv 3)) (blkOk_by (N := nTw) (sc := defScope (top 49)) (by decide +kernel)) (fun _ _ _ _ _ => pg_name (i := 4) sc_twins.nd rfl (Or.inl rfl)) (fun _ _ _ _ _ => pts_one (pt_cmpR op_notIn_seq (pv 4) (pv 1) (by rfl))) (fun _ _ _ _ _ => pv 4))))))))
    (pss_one (ps_ret (pv 1)))), ?_⟩
  refine ⟨by show 0 ≤ sizeLine; decide, fun l0 hl0 => ?_⟩
  have e0 : Ex T [] H (upd H l0 (.lst [])) := Ex.new hl0 _
  refine ⟨_, rfl, l, rfl, ⟨_, SqL.of (e0.lst hl)⟩, forw_it (walk_list (K := K) (a := l)) (fun i σ Hi => ∃ v2 v3 lf js, σ = [some (.ref l), some (.ref lf), v2, v3, none] ∧ Ex T [] H Hi ∧ (∀ L, LT H L → lf ∉ L) ∧ Hi lf = some (.lst ((js : List Key).map kV)) ∧ (1 ≤ i → 1 ≤ js.length) ∧ js.length ≤ 2 * i ∧ ∀ k ∈ js, okKs k)
    ⟨none, none, l0, [], rfl, e0, fun L lt => lt.notin hl0, upd_same, fun z => by omega, by simp, fun k hk => by cases hk⟩ (fun i σ Hi _ ⟨_, _, _, _, _, e, _⟩ => SqL.of (e.lst hl)) ?_ ?_⟩
  · rintro i x σ Hi0 Hi hi ⟨v2, v3, lf, js, rfl, e, hlf0, hlf, hj1, hj2, okj⟩ ⟨rfl, hx⟩
    rw [List.getElem?_map] at hx
    obtain ⟨k, hk, rfl⟩ := Option.map_eq_some_iff.mp hx
    have okk := ok k (List.mem_of_getElem? hk)
    rw [List.length_map] at hi
    refine ⟨_, rfl, by show 1 ≤ sizeLine; decide, fun b1 hb1 => ?_⟩
    have e1 : Ex T [] Hi (upd Hi b1 (.lst [kV k])) := Ex.new hb1 _
    -- the last line, from any list of both
    have last : ∀ (Hj : Hp) (lb : Addr) (bs : List Key), Ex T [] Hi Hj → Hj lb = some (.lst (bs.map kV)) → 1 ≤ bs.length → bs.length ≤ 2 → (∀ k ∈ bs, okKs k) →
        (tAsg (tOp rCat (tVar 1) (tLc (iList K (tVar 3)) (gName 4) (tTest (tOp (rIn K true) (tVar 4) (tVar 1))) (tVar 4) [4])) (gName 1)) { nx := fun σ Hi => ∃ v2 v3 lf js, σ = [some (.ref l), some (.ref lf), v2, v3, none] ∧ Ex T [] H Hi ∧ (∀ L, LT H L → lf ∉ L) ∧ Hi lf = some (.lst ((js : List Key).map kV)) ∧ (1 ≤ i + 1 → 1 ≤ js.length) ∧ js.length ≤ 2 * (i + 1) ∧ ∀ k ∈ js, okKs k, rt := Q } [some (.ref l), some (.ref lf), some (kV k), some (.ref lb), none] Hj := by
      intro Hj lb bs ej hlb hb1 hb2 okb
      have eHj := e.trans ej
      refine ⟨_, rfl, _, rfl, lb, rfl, ⟨_, SqL.of hlb⟩, fun D hD => twins_comp (T := T) (x0 := .ref l) (x2 := kV k) hD (ej.lst hlf) hlb hb2 okb fun Hk rs ek hDk hr1 hr2 okr => ?_⟩
      refine ⟨lf, D, _, _, rfl, rfl, ek.lst (ej.lst hlf), hDk, by rw [List.length_map, List.length_map]; exact small_str (by omega), fun lz hlz => ?_⟩
      have eHk := eHj.trans ek
      refine ⟨_, _, lz, js ++ rs, rfl, eHk.then_new hlz _, fun L lt => (lt.ex eHk).notin hlz, by rw [upd_same, List.map_append], fun _ => ?_, by rw [List.length_append]; omega, fun k' hk' => (List.mem_append.mp hk').elim (okj k') (okr k')⟩
      · rw [List.length_append]
        cases js with
        | nil => rw [hr2 rfl]; omega
        | cons a r => rw [List.length_cons]; omega
    cases k with
    | inl j =>
      refine ⟨_, rfl, _, _, _, _, _, rfl, .ty "str", (Sh.int (CT := CT) (H := upd Hi b1 (.lst [kV (.inl j)])) j).ty FT, kit_str FT (by decide), _, rfl, iteT ?_⟩
      refine ⟨_, rfl, _, rfl, j, rfl, log_ok (Nat.lt_of_lt_of_le okk (by decide)), by show 2 ≤ sizeLine; decide, fun b2 hb2 => ?_⟩
      exact last _ b2 [.inl j, .inr (txt j)] (e1.then_new hb2 _) upd_same (by simp) (by simp) (fun k' hk' => by
        rcases List.mem_cons.mp hk' with z | z
        · rw [z]; exact okKi.s okk
        · rw [List.mem_singleton.mp z]
          exact txt_okS okk)
    | inr z =>
      refine ⟨_, rfl, _, _, _, _, _, rfl, .ty "str", (Sh.str (CT := CT) (H := upd Hi b1 (.lst [kV (.inr z)])) z).ty FT, kit_str FT (by decide), _, rfl, iteF ?_⟩
      refine ⟨_, rfl, z, rfl, okk, _, rfl, ?_⟩
      by_cases c : isDig z = true
      · rw [c]
        obtain ⟨j, hj, _, hjb⟩ := dig_int okk.1 c
        refine iteT ⟨_, rfl, z, j, rfl, hj, Nat.le_trans okk.2 (by decide), _, rfl, by show 2 ≤ sizeLine; decide, fun b2 hb2 => ?_⟩
        exact last _ b2 [.inl j, .inr z] (e1.then_new hb2 _) upd_same (by simp) (by simp) (fun k' hk' => by
          rcases List.mem_cons.mp hk' with y | y
          · rw [y]; exact hjb
          · rw [List.mem_singleton.mp y]; exact okk)
      · have c' : isDig z = false := by simpa using c
        rw [c']
        exact iteF (last _ b1 [.inr z] e1 upd_same (by simp) (by simp) (fun k' hk' => by rw [List.mem_singleton.mp hk']; exact okk))
  · rintro σ Hi ⟨v2, v3, lf, js, rfl, e, hlf0, hlf, hj1, hj2, okj⟩
    rw [List.length_map] at hj1 hj2
    exact ⟨_, rfl, q lf js Hi e hlf0 hlf (hj1 h1) (by omega) okj⟩
/-! ### _law_atoms -/
theorem at_mem {xs : List V} {d : Int} (h0 : 0 ≤ d) (h1 : d < xs.length) : ∃ x, x ∈ xs ∧ atI xs d = some x := by
  have hd : d.toNat < xs.length := by omega
  refine ⟨xs[d.toNat], List.getElem_mem hd, ?_⟩
  have := atI_nat (List.getElem?_eq_getElem hd)
  rwa [show ((d.toNat : Nat) : Int) = d from by omega] at this
def spAtoms (T : Tb) : Sp := fun vs H Q _ => ∃ (S : Addr) (m : Nat), vs = [.ref S] ∧ SrcAt H S m ∧ m + 20 < 1000000 ∧ ∀ (l : Addr) (xs : List V) (H' : Hp), H' l = some (.lst xs) → l ≠ S → xs.length = 5 → (∀ x ∈ xs, ScV x) → Ex T [S] H H' → SrcAt H' S (m + 20) → Q (.ref l) H'
abbrev nAt : List Str := ["_law_source_here", "_law_small", "_law_large", "_law_text"]
theorem sc_atoms : FnScope nAt ["_law_source_here"] (defScope (top 50)) := ⟨rfl, rfl, rfl, by decide +kernel, rfl, by decide +kernel, by decide +kernel⟩
theorem ok_atoms (D : Dn K mg "_law_atoms" (top 50)) (B : Bl mg) (hD : Has P w K mg base CX0 1 "_law_draw" ["_law_source_here", "_law_many"] (spDraw T)) (hW : Has P w K mg base CX0 2 "_law_word" ["_law_source_here"] (spWord T)) : Has P w K mg base CX0 3 "_law_atoms" ["_law_source_here"] (spAtoms T) := by
  obtain ⟨fd, fdd, hmd, kpd, bd, Gd⟩ := hD.ex
  obtain ⟨fw, fdw, hmw, kpw, bw, Gw⟩ := hW.ex
  refine D.has0 sc_atoms (fun vs H Q E h => ?_) (fun _ _ _ _ _ _ us hl => match us, hl with | [_], _ => rfl) (fun f cdv A outer s H vs Q E hr h => ?_)
  · obtain ⟨S, m, rfl, _⟩ := h
    rfl
  obtain ⟨S, m, rfl, hs, hm, q⟩ := h
  have hr1 := hr.mono (j := 1) (by omega)
  refine ⟨_, pss_cons (ps_set (i := 1) sc_atoms.nd rfl (.inl rfl) (pe_ix ix_list (pe_lst (pa_cons (pe_call Gd hr1 rfl hmd kpd bd .nil pass0 (pa_cons (pv 0) (pa_cons (pe_op op_pow pe_int pe_int) pa_nil))) (pa_cons (pe_un un_neg (pe_call Gd hr1 rfl hmd kpd bd .nil pass0 (pa_cons (pv 0) (pa_cons (pe_op op_pow pe_int pe_int) pa_nil)))) (pa_cons pe_int (pa_cons (pe_un un_neg pe_int) pa_nil)))))
      (pe_call Gd hr1 rfl hmd kpd bd .nil pass0 (pa_cons (pv 0) (pa_cons pe_int pa_nil))) (fun _ _ => rfl)))
    (pss_cons (ps_set (i := 2) sc_atoms.nd rfl (.inl rfl) (pe_op op_add (pe_op op_pow pe_int pe_int) (pe_call Gd hr1 rfl hmd kpd bd .nil pass0 (pa_cons (pv 0) (pa_cons (pe_op op_pow pe_int pe_int) pa_nil)))))
    (pss_cons (ps_set (i := 2) sc_atoms.nd rfl (.inl rfl) (pe_ifExp (pt_cmpR op_eq (pe_call Gd hr1 rfl hmd kpd bd .nil pass0 (pa_cons (pv 0) (pa_cons pe_int pa_nil))) pe_int (nomark _)) (pe_un un_neg (pv 2)) (pv 2)))
    (pss_cons (ps_set (i := 3) sc_atoms.nd rfl (.inl rfl) (pe_ix ix_list (pe_lst (pa_cons pe_str (pa_cons pe_str (pa_cons pe_str (pa_cons pe_str (pa_cons (pe_call Gw hr rfl hmw kpw bw .nil pass0 (pa_cons (pv 0) pa_nil)) pa_nil))))))
      (pe_call Gd hr1 rfl hmd kpd bd .nil pass0 (pa_cons (pv 0) (pa_cons pe_int pa_nil))) (fun _ _ => rfl)))
    (pss_one (ps_ret (pe_lst (pa_cons (pv 1) (pa_cons (pe_callTy call_str_int rfl B.str (by decide +kernel) (pa_cons (pv 1) pa_nil)) (pa_cons (pv 2) (pa_cons (pe_callTy call_str_int rfl B.str (by decide +kernel) (pa_cons (pv 2) pa_nil)) (pa_cons (pv 3) pa_nil))))))))))), ?_⟩
  refine draw_read rfl hs (by omega) (by decide) (by decide) (fun q => ⟨10, 9, rfl, rfl, ⟨by decide, by decide, by decide⟩, q⟩) fun d1 H1 e1 hs1 d10 d11 => ?_
  refine draw_read rfl hs1 (by omega) (by decide) (by decide) (fun q => ⟨10, 9, rfl, rfl, ⟨by decide, by decide, by decide⟩, q⟩) fun d2 H2 e2 hs2 d20 d21 => ⟨d2, rfl, 1, rfl, by show 4 ≤ sizeLine; decide, fun la hla => ?_⟩
  have hs2' : SrcAt (upd H2 la (.lst [.int d1, .int (-d2), .int 0, .int (-1)])) S (m + 2) := hs2.ex (Ex.new (T := T) hla _)
  have ns : ∀ {Hi : Hp} {l : Addr} {k : Nat}, SrcAt Hi S k → Hi l = none → l ≠ S := fun {Hi l k} h hl => by
    obtain ⟨a, b, c, hS, _⟩ := h
    exact Ne.symm (ne_of_none hS hl)
  refine draw_lit rfl hs2' (by omega) (by decide) (by decide) fun d3 H3 e3 hs3 d30 d31 => ?_
  obtain ⟨x1, hx1, at1⟩ := at_mem (xs := [.int d1, .int (-d2), .int 0, .int (-1)]) d30 d31
  refine ⟨la, _, d3, x1, rfl, rfl, SqL.of (e3.lstS upd_same (ns hs2 hla)), at1, ?_⟩
  obtain ⟨i1, rfl, b1⟩ : ∃ i, x1 = .int i ∧ i.natAbs < 10 ^ 28 := by
    have z1 : d1 < 10 ^ 9 := d11
    have z2 : d2 < 10 ^ 9 := d21
    simp only [List.mem_cons, List.not_mem_nil, or_false] at hx1
    rcases hx1 with h | h | h | h
    · exact ⟨_, h, by omega⟩
    · exact ⟨_, h, by omega⟩
    · exact ⟨_, h, by decide⟩
    · exact ⟨_, h, by decide⟩
  refine ⟨10, 15, rfl, rfl, ⟨by decide, by decide, by decide⟩, ?_⟩
  refine draw_read rfl hs3 (by omega) (by decide) (by decide) (fun q => ⟨10, 9, rfl, rfl, ⟨by decide, by decide, by decide⟩, q⟩) fun d4 H4 e4 hs4 d40 d41 => ⟨_, d4, rfl, rfl, ?_⟩
  have e04 := (e1.trans (e2.then_new hla _)).trans (e3.trans e4)
  refine draw_lit rfl hs4 (by omega) (by decide) (by decide) fun d5 H5 e5 hs5 d50 d51 => ⟨rfl, _, rfl, ?_⟩
  have pw15 : (10 : Int) ^ (15 : Int).toNat = 1000000000000000 := by decide
  have dd4 : d4 < 10 ^ 9 := d41
  have ea : ascii "" := ascii_empty
  have b2a : ((10 : Int) ^ (15 : Int).toNat + d4).natAbs < 10 ^ 28 := by rw [pw15]; omega
  have b2b : (-((10 : Int) ^ (15 : Int).toNat + d4)).natAbs < 10 ^ 28 := by rw [pw15]; omega
  refine ite2 (fun c => ⟨_, rfl, _, rfl, ?_⟩) (fun c => ⟨_, rfl, ?_⟩)
  all_goals
    refine ⟨_, rfl, S, m + 5, rfl, hs5.up (by omega), by omega, fun z H6 az lz e6 hs6 => ⟨by show 5 ≤ sizeLine; decide, fun lb hlb => ?_⟩⟩
    have hs6' : SrcAt (upd H6 lb (.lst [.str "", .str "t", .str "tt", .str " \"\\", .str z])) S (m + 10) := hs6.ex (Ex.new (T := T) hlb _)
    refine draw_lit rfl hs6' (by omega) (by decide) (by decide) fun d7 H7 e7 hs7 d70 d71 => ?_
    obtain ⟨x3, hx3, at3⟩ := at_mem (xs := [.str "", .str "t", .str "tt", .str " \"\\", .str z]) d70 d71
    refine ⟨lb, _, d7, x3, rfl, rfl, SqL.of (e7.lstS upd_same (ns hs6 hlb)), at3, ?_⟩
    have s3 : ScV x3 := by
      simp only [List.mem_cons, List.not_mem_nil, or_false] at hx3
      rcases hx3 with h | h | h | h | h
      · rw [h]; exact scv_str (okS.t ⟨by unfold ascii; decide +kernel, by decide +kernel⟩)
      · rw [h]; exact scv_str (okS.t ⟨by unfold ascii; decide +kernel, by decide +kernel⟩)
      · rw [h]; exact scv_str (okS.t ⟨by unfold ascii; decide +kernel, by decide +kernel⟩)
      · rw [h]; exact scv_str (okS.t ⟨by unfold ascii; decide +kernel, by decide +kernel⟩)
      · rw [h]; exact scv_str (okS.t ⟨az, by omega⟩)
    refine ⟨_, rfl, _, rfl, i1, rfl, log_ok (Nat.lt_of_lt_of_le b1 (by decide)), _, rfl, _, rfl, _, rfl, (by first | exact log_ok (Nat.lt_of_lt_of_le b2a (by decide)) | exact log_ok (Nat.lt_of_lt_of_le b2b (by decide))), _, rfl, by show 5 ≤ sizeLine; decide, fun lz hlz => ?_⟩
    refine q lz _ _ upd_same (ns hs7 hlz) rfl (fun x hx => ?_) (((e04.trans e5).trans (e6.then_new hlb _)).trans (e7.then_new hlz _)) ((hs7.up (by omega)).ex (Ex.new (T := T) hlz _))
    simp only [List.mem_cons, List.not_mem_nil, or_false] at hx
    rcases hx with h | h | h | h | h
    · rw [h]; exact scv_int (Nat.lt_of_lt_of_le b1 (by decide))
    · rw [h]; exact scv_str (okS.t (txt_okS b1))
    · rw [h]; exact scv_int (by first | exact Nat.lt_of_lt_of_le b2a (by decide) | exact Nat.lt_of_lt_of_le b2b (by decide))
    · rw [h]; exact scv_str (okS.t (txt_okS (by first | exact b2a | exact b2b)))
    · rw [h]; exact s3
end
end K86
/-! K86Scal: scalar, key. -/
namespace K86
open PySem PySem.Spec PyProof.Rows L2
section
variable {P : Program} {w : World} {K : PySem.W.Frag} {mg : Str → Option Value} {base : Heap} {CT CP : Addr} {T : Tb}
def spScalar (T : Tb) : Sp := fun vs H Q _ => ∃ (S l : Addr) (xs : List V) (m : Nat), vs = [.ref S, .ref l] ∧ SrcAt H S m ∧ m + 7 < 1000000 ∧ H l = some (.lst xs) ∧ l ≠ S ∧ xs.length = 5 ∧ (∀ x ∈ xs, ScV x) ∧ ∀ x H', ScV x → Ex T [S] H H' → SrcAt H' S (m + 7) → Q x H'
abbrev nSc : List Str := ["_law_source_here", "_law_atoms_here", "_law_road"]
theorem sc_scalar : FnScope nSc ["_law_source_here", "_law_atoms_here"] (defScope (top 51)) := ⟨rfl, rfl, rfl, by decide +kernel, rfl, by decide +kernel, by decide +kernel⟩
theorem ok_scalar (D : Dn K mg "_law_scalar" (top 51)) (B : Bl mg) (hD : Has P w K mg base CX0 1 "_law_draw" ["_law_source_here", "_law_many"] (spDraw T)) (hP : Has P w K mg base CX0 2 "_law_pick" ["_law_source_here", "_law_some"] (spPick T)) (hW : Has P w K mg base CX0 2 "_law_word" ["_law_source_here"] (spWord T)) : Has P w K mg base CX0 3 "_law_scalar" ["_law_source_here", "_law_atoms_here"] (spScalar T) := by
  obtain ⟨fd, fdd, hmd, kpd, bd, Gd⟩ := hD.ex
  obtain ⟨fp, fdp, hmp, kpp, bp, Gp⟩ := hP.ex
  obtain ⟨fw, fdw, hmw, kpw, bw, Gw⟩ := hW.ex
  refine D.has0 sc_scalar (fun vs H Q E h => ?_) (fun _ _ _ _ _ _ us hl => match us, hl with | [_, _], _ => rfl) (fun f cdv A outer s H vs Q E hr h => ?_)
  · obtain ⟨S, l, xs, m, rfl, _⟩ := h
    rfl
  obtain ⟨S, l, xs, m, rfl, hs, hm, hl, ne, h5, hv, q⟩ := h
  have hr1 := hr.mono (j := 1) (by omega)
  refine ⟨_, pss_cons (ps_set (i := 2) sc_scalar.nd rfl (.inl rfl) (pe_call Gd hr1 rfl hmd kpd bd .nil pass0 (pa_cons (pv 0) (pa_cons pe_int pa_nil))))
    (pss_cons (ps_if (pt_cmpR op_eq (pv 2) pe_int (nomark _)) (pss_one (ps_ret pe_non)) pss_nil)
    (pss_cons (ps_if (pt_cmpR op_lt (pv 2) pe_int (nomark _)) (pss_one (ps_ret (pe_cmpR op_eq (pv 2) pe_int (nomark _)))) pss_nil)
    (pss_cons (ps_if (pt_cmpR op_lt (pv 2) pe_int (nomark _)) (pss_one (ps_ret (pe_call Gp hr rfl hmp kpp bp .nil pass0 (pa_cons (pv 0) (pa_cons (pv 1) pa_nil))))) pss_nil)
    (pss_cons (ps_if (pt_cmpR op_eq (pv 2) pe_int (nomark _)) (pss_one (ps_ret (pe_op op_sub (pe_call Gd hr1 rfl hmd kpd bd .nil pass0 (pa_cons (pv 0) (pa_cons (pe_op op_pow pe_int pe_int) pa_nil))) (pe_op op_pow pe_int pe_int)))) pss_nil)
    (pss_one (ps_ret (pe_call Gw hr rfl hmw kpw bw .nil pass0 (pa_cons (pv 0) pa_nil)))))))), ?_⟩
  refine draw_lit rfl hs (by omega) (by decide) (by decide) fun d H1 e1 hs1 d0 d1 => ?_
  refine ⟨_, rfl, rfl, _, rfl, ite2 (fun c => q _ H1 scv_non e1 (hs1.up (by omega))) (fun c => ?_)⟩
  refine ⟨_, rfl, d, 3, rfl, rfl, _, rfl, ite2 (fun c => ⟨_, rfl, rfl, q _ H1 scv_bl e1 (hs1.up (by omega))⟩) (fun c => ?_)⟩
  refine ⟨_, rfl, d, 6, rfl, rfl, _, rfl, ite2 (fun c => ?_) (fun c => ?_)⟩
  · refine ⟨_, rfl, _, rfl, S, l, xs, m + 1, rfl, hs1, by omega, e1.lstS hl ne, ne, by omega, by omega, fun x H2 hx e2 hs2 => q x H2 (hv x hx) (e1.trans e2) (hs2.up (by omega))⟩
  refine ⟨_, rfl, rfl, _, rfl, ite2 (fun c => ?_) (fun c => ?_)⟩
  · refine draw_read rfl hs1 (by omega) (by decide) (by decide) (fun q => ⟨10, 20, rfl, rfl, ⟨by decide, by decide, by decide⟩, q⟩) fun d2 H2 e2 hs2 d20 d21 => ⟨10, 19, rfl, rfl, ⟨by decide, by decide, by decide⟩, d2, _, rfl, rfl, ?_⟩
    have p19 : (10 : Int) ^ (19 : Int).toNat = 10000000000000000000 := by decide
    have dd : d2 < 10 ^ 20 := d21
    exact q _ H2 (scv_int (by show (d2 - (10 : Int) ^ (19 : Int).toNat).natAbs < 10 ^ 40; rw [p19]; omega)) (e1.trans e2) (hs2.up (by omega))
  · exact ⟨_, rfl, S, m + 1, rfl, hs1, by omega, fun z H2 az lz e2 hs2 => q _ H2 (scv_str (okS.t ⟨az, by omega⟩)) (e1.trans e2) (hs2.up (by omega))⟩
/-! ### _law_key -/
def spLKey (T : Tb) : Sp := fun vs H Q _ => ∃ (S l : Addr) (js : List Key) (m : Nat), vs = [.ref S, .ref l] ∧ SrcAt H S m ∧ m + 8 < 1000000 ∧ H l = some (.lst (js.map kV)) ∧ l ≠ S ∧ 1 ≤ js.length ∧ js.length ≤ 4 ∧ (∀ k ∈ js, okKs k) ∧ ∀ k H', okKs k → Ex T [S] H H' → SrcAt H' S (m + 8) → Q (kV k) H'
abbrev nLKe : List Str := ["_law_source_here", "_law_twins_here", "_law_road", "_law_number"]
theorem sc_lkey : FnScope nLKe ["_law_source_here", "_law_twins_here"] (defScope (top 52)) := ⟨rfl, rfl, rfl, by decide +kernel, rfl, by decide +kernel, by decide +kernel⟩
theorem ok_lkey (D : Dn K mg "_law_key" (top 52)) (B : Bl mg) (hD : Has P w K mg base CX0 1 "_law_draw" ["_law_source_here", "_law_many"] (spDraw T)) (hP : Has P w K mg base CX0 2 "_law_pick" ["_law_source_here", "_law_some"] (spPick T)) (hW : Has P w K mg base CX0 2 "_law_word" ["_law_source_here"] (spWord T)) : Has P w K mg base CX0 3 "_law_key" ["_law_source_here", "_law_twins_here"] (spLKey T) := by
  obtain ⟨fd, fdd, hmd, kpd, bd, Gd⟩ := hD.ex
  obtain ⟨fp, fdp, hmp, kpp, bp, Gp⟩ := hP.ex
  obtain ⟨fw, fdw, hmw, kpw, bw, Gw⟩ := hW.ex
  refine D.has0 sc_lkey (fun vs H Q E h => ?_) (fun _ _ _ _ _ _ us hl => match us, hl with | [_, _], _ => rfl) (fun f cdv A outer s H vs Q E hr h => ?_)
  · obtain ⟨S, l, xs, m, rfl, _⟩ := h
    rfl
  obtain ⟨S, l, js, m, rfl, hs, hm, hl, ne, h1, h4, ok, q⟩ := h
  have hr1 := hr.mono (j := 1) (by omega)
  refine ⟨_, pss_cons (ps_par (i := 2) (j := 3) (by rfl) sc_lkey.nd rfl rfl (by decide) rfl rfl (pa_cons (pe_call Gd hr1 rfl hmd kpd bd .nil pass0 (pa_cons (pv 0) (pa_cons pe_int pa_nil))) (pa_cons (pe_op op_sub (pe_call Gd hr1 rfl hmd kpd bd .nil pass0 (pa_cons (pv 0) (pa_cons pe_int pa_nil))) pe_int) pa_nil)) (by rfl))
    (pss_cons (ps_if (pt_cmpR op_lt (pv 2) pe_int (nomark _)) (pss_one (ps_ret (pe_call Gp hr rfl hmp kpp bp .nil pass0 (pa_cons (pv 0) (pa_cons (pv 1) pa_nil))))) pss_nil)
    (pss_one (ps_ret (pe_ix ix_list (pe_lst (pa_cons (pv 3) (pa_cons (pe_callTy call_str_int rfl B.str (by decide +kernel) (pa_cons (pv 3) pa_nil)) (pa_cons (pe_call Gw hr rfl hmw kpw bw .nil pass0 (pa_cons (pv 0) pa_nil)) pa_nil)))) (pe_op op_sub (pv 2) pe_int) (fun _ _ => rfl))))), ?_⟩
  refine draw_lit rfl hs (by omega) (by decide) (by decide) fun d H1 e1 hs1 d0 d1 => draw_lit rfl hs1 (by omega) (by decide) (by decide) fun d2 H2 e2 hs2 d20 d21 => ⟨d2, 500000, rfl, rfl, _, _, rfl, ?_⟩
  have e12 := e1.trans e2
  have on : (d2 - 500000).natAbs < 10 ^ 7 := by omega
  refine ⟨_, rfl, d, 3, rfl, rfl, _, rfl, ite2 (fun c => ?_) (fun c => ?_)⟩
  · refine ⟨_, rfl, _, rfl, S, l, js.map kV, m + 2, rfl, hs2, by omega, e12.lstS hl ne, ne, by rw [List.length_map]; omega, by rw [List.length_map]; omega, fun x H3 hx e3 hs3 => ?_⟩
    obtain ⟨k, hk, rfl⟩ := List.mem_map.mp hx
    exact q k H3 (ok k hk) (e12.trans e3) (hs3.up (by omega))
  · have c' : ¬ d < 3 := fun z => c (decide_eq_true z)
    refine ⟨_, rfl, _, rfl, d2 - 500000, rfl, log_ok (Nat.lt_of_lt_of_le on (by decide)), _, rfl, S, m + 2, rfl, hs2, by omega, fun z H3 az lz e3 hs3 => ⟨by show 3 ≤ sizeLine; decide, fun lb hlb => ?_⟩⟩
    obtain ⟨x, hx, at3⟩ := at_mem (xs := [.int (d2 - 500000), .str (txt (d2 - 500000)), .str z]) (d := d - 3) (by omega) (by show d - 3 < 3; omega)
    refine ⟨_, rfl, d, 3, rfl, rfl, lb, _, d - 3, x, rfl, rfl, SqL.of upd_same, at3, ?_⟩
    obtain ⟨k, rfl, ok'⟩ : ∃ k : Key, x = kV k ∧ okKs k := by
      simp only [List.mem_cons, List.not_mem_nil, or_false] at hx
      rcases hx with h | h | h
      · exact ⟨.inl _, h, Nat.lt_of_lt_of_le on (by decide)⟩
      · exact ⟨.inr _, h, txt_okS (Nat.lt_of_lt_of_le on (by decide))⟩
      · exact ⟨.inr _, h, az, by omega⟩
    exact q k _ ok' ((e12.trans e3).then_new hlb _) ((hs3.up (by omega)).ex (Ex.new (T := T) hlb _))
end
end K86
/-! K86Value: value, table. -/
namespace K86
open PySem PySem.Spec PyProof.Rows L2

/-- what a value is drawn from -/
structure VA (H : Hp) (L : List Addr) (S tw ta rm : Addr) (m : Nat) : Prop where
  hs : SrcAt H S m
  ht : ∃ js : List Key, H tw = some (.lst (js.map kV)) ∧ 1 ≤ js.length ∧ js.length ≤ 4 ∧ ∀ k ∈ js, okKs k
  ha : ∃ xs : List V, H ta = some (.lst xs) ∧ xs.length = 5 ∧ ∀ x ∈ xs, ScV x
  hr : ∃ r : Int, H rm = some (.lst [.int r])
  n1 : tw ≠ S
  n2 : tw ≠ rm
  lt : LT H L
  hS : S ∈ L
  hR : rm ∈ L
section
variable {T : Tb} {H H' : Hp} {L : List Addr} {S tw ta rm : Addr} {m m' : Nat}
theorem VA.n3 (h : VA H L S tw ta rm m) : ta ≠ S := fun z => by
  obtain ⟨a, b, c, e, _⟩ := h.hs
  obtain ⟨xs, e', l, _⟩ := h.ha
  rw [z, e] at e'
  cases e'
  cases l
theorem VA.n4 (h : VA H L S tw ta rm m) : ta ≠ rm := fun z => by
  obtain ⟨r, e⟩ := h.hr
  obtain ⟨xs, e', l, _⟩ := h.ha
  rw [z, e] at e'
  cases e'
  cases l
theorem VA.n5 (h : VA H L S tw ta rm m) : rm ≠ S := fun z => by
  obtain ⟨r, e⟩ := h.hr
  obtain ⟨a, b, c, e', _⟩ := h.hs
  rw [z, e'] at e
  cases e
theorem VA.next (h : VA H L S tw ta rm m) (e : Ex T [S, rm] H H') (s : SrcAt H' S m') (r : ∃ r : Int, H' rm = some (.lst [.int r])) : VA H' L S tw ta rm m' := by
  refine ⟨s, ?_, ?_, r, h.n1, h.n2, fun b hb => ?_, h.hS, h.hR⟩
  · obtain ⟨js, e1, h2⟩ := h.ht
    exact ⟨js, e.ke tw _ (by simp [h.n1, h.n2]) e1 (fun _ y => nomatch y), h2⟩
  · obtain ⟨js, e1, h2⟩ := h.ha
    exact ⟨js, e.ke ta _ (by simp [h.n3, h.n4]) e1 (fun _ y => nomatch y), h2⟩
  · by_cases c1 : b = S
    · obtain ⟨a, b', c, e', _⟩ := s
      exact ⟨.lst [.int a, .int b', .int c], by rw [c1]; exact e', (fun _ y => nomatch y)⟩
    · by_cases c2 : b = rm
      · obtain ⟨r', e'⟩ := r
        exact ⟨.lst [.int r'], by rw [c2]; exact e', (fun _ y => nomatch y)⟩
      · obtain ⟨o, e', n⟩ := h.lt b hb
        exact ⟨o, e.ke b _ (by simp [c1, c2]) e' n, n⟩
theorem VA.src (h : VA H L S tw ta rm m) (e : Ex T [S] H H') (s : SrcAt H' S m') : VA H' L S tw ta rm m' := by
  obtain ⟨r, hr⟩ := h.hr
  exact h.next (e.wide fun b hb => by rw [List.mem_singleton.mp hb]; exact List.mem_cons_self) s ⟨r, e.lstS hr h.n5⟩
theorem VA.ex (h : VA H L S tw ta rm m) (e : Ex T [] H H') : VA H' L S tw ta rm m := h.src (T := T) (e.of0) (h.hs.ex e)
theorem VA.add {D : Addr} {xs : List V} (h : VA H L S tw ta rm m) (hD : H D = some (.lst xs)) : VA H (D :: L) S tw ta rm m := ⟨h.hs, h.ht, h.ha, h.hr, h.n1, h.n2, h.lt.cons hD, List.mem_cons_of_mem _ h.hS, List.mem_cons_of_mem _ h.hR⟩
theorem Ex.s2 (e : Ex T [S] H H') : Ex T [S, rm] H H' := e.wide fun b hb => by rw [List.mem_singleton.mp hb]; exact List.mem_cons_self
theorem VA.kee (h : VA H L S tw ta rm m) (e : Ex T [S, rm] H H') : Kee L H H' := e.kee.wide fun b hb => by
  rcases List.mem_cons.mp hb with z | hb
  · rw [z]; exact h.hS
  · rw [List.mem_singleton.mp hb]; exact h.hR
theorem VA.ent {CT : Addr} {n : Nat} {es : List (Key × PV)} {ts : List Addr} (h : VA H L S tw ta rm m) (e : Ex T [S, rm] H H') (en : EntL CT L n H es ts) : EntL CT L n H' es ts := Paired.mono (fun a b ⟨v, ht, r⟩ => ⟨v, e.ke b _ (fun hb => by
    rcases List.mem_cons.mp hb with z | hb
    · obtain ⟨a', b', c', e', _⟩ := h.hs
      rw [z, e'] at ht
      cases ht
    · obtain ⟨r', e'⟩ := h.hr
      rw [List.mem_singleton.mp hb, e'] at ht
      cases ht) ht (fun _ y => nomatch y), rep_kee (h.kee e) r⟩) en
end
/-- how many draws a value takes -/
def cst : Nat → Nat
  | 0 => 8
  | n + 1 => 26 + 3 * cst n
theorem cst8 : ∀ n, 8 ≤ cst n
  | 0 => Nat.le_refl _
  | n + 1 => by unfold cst; omega
theorem okV_up : ∀ {n m : Nat}, n ≤ m → ∀ {v : PV}, okV n v → okV m v
  | _, m, _, .non, _ => by unfold okV; trivial
  | _, m, _, .bl _, _ => by unfold okV; trivial
  | _, m, _, .int _, h => by unfold okV at h ⊢; exact h
  | _, m, _, .str _, h => by unfold okV at h ⊢; exact h
  | 0, _, _, .row _ _, h => by unfold okV at h; exact False.elim h
  | 0, _, _, .tab _, h => by unfold okV at h; exact False.elim h
  | n + 1, 0, l, .row _ _, h => by omega
  | n + 1, 0, l, .tab _, h => by omega
  | n + 1, m + 1, l, .row _ xs, h => by
    unfold okV at h ⊢
    exact ⟨h.1, fun x hx => okV_up (by omega) (h.2 x hx)⟩
  | n + 1, m + 1, l, .tab es, h => by
    unfold okV at h ⊢
    exact ⟨h.1, h.2.1, fun p hp => ⟨(h.2.2 p hp).1, okV_up (by omega) (h.2.2 p hp).2⟩⟩
theorem kV_inj {a b : Key} (h : kV a = kV b) : a = b := by
  cases a <;> cases b <;> cases h <;> rfl
theorem eqV_kV (a b : Key) : eqV (kV a) (kV b) = decide (a = b) := by
  cases a with
  | inl i => cases b with
    | inl j => show decide _ = _; simp
    | inr x => rfl
  | inr x => cases b with
    | inl j => rfl
    | inr y => show decide _ = _; simp
theorem inV_kV {k : Key} {ks : List Key} (h : inV (kV k) (ks.map kV) = false) : k ∉ ks := fun hk => by
  unfold inV at h
  rw [List.any_eq_false] at h
  refine h (kV k) (List.mem_map_of_mem hk) ?_
  rw [eqV_kV]
  simp
section
variable {P : Program} {w : World} {K : PySem.W.Frag} {mg : Str → Option Value} {base : Heap} {CT CP : Addr} {T : Tb}
def spVal (T : Tb) (CT : Addr) (n : Nat) : Sp := fun vs H Q _ => ∃ (L : List Addr) (S tw ta rm : Addr) (m : Nat) (d : Int), vs = [.ref S, .int d, .ref tw, .ref ta, .ref rm] ∧ d = (n : Int) ∧ VA H L S tw ta rm m ∧ m + cst n < 1000000 ∧ ∀ x v H', okV n v → Rep CT L n H' v x → Ex T [S, rm] H H' → SrcAt H' S (m + cst n) → (∃ r : Int, H' rm = some (.lst [.int r])) → Q x H'
def spLTab (T : Tb) (CT : Addr) (n : Nat) : Sp := fun vs H Q _ => ∃ (L : List Addr) (S tw ta rm : Addr) (m : Nat) (many d : Int), vs = [.ref S, .int many, .int d, .ref tw, .ref ta, .ref rm] ∧ d = (n : Int) + 1 ∧ 0 ≤ many ∧ many ≤ 3 ∧ VA H L S tw ta rm m ∧ m + 3 * (8 + cst n) < 1000000 ∧ ∀ x v H', okV (n + 1) v → Rep CT L (n + 1) H' v x → Ex T [S, rm] H H' → SrcAt H' S (m + 3 * (8 + cst n)) → (∃ r : Int, H' rm = some (.lst [.int r])) → Q x H'
abbrev psV : List Str := ["_law_source_here", "_law_deep", "_law_twins_here", "_law_atoms_here", "_law_room"]
abbrev psLT : List Str := ["_law_source_here", "_law_many", "_law_deep", "_law_twins_here", "_law_atoms_here", "_law_room"]
abbrev nLT : List Str := ["_law_source_here", "_law_many", "_law_deep", "_law_twins_here", "_law_atoms_here", "_law_room", "_law_entries", "_law_turn", "_law_key_here", "_law_old", "_law_item"]
theorem sc_ltab : FnScope nLT psLT (defScope (top 54)) := ⟨rfl, rfl, rfl, by decide +kernel, rfl, by decide +kernel, by decide +kernel⟩
theorem old_comp {L : List Addr} {n : Nat} {H : Hp} {D le : Addr} {ts : List Addr} {es : List (Key × PV)} {x0 x1 x2 x3 x4 x5 x7 x8 : Option V} {Qd : Hp → Prop} (hD : H D = none) (hle : H le = some (.lst (ts.map V.ref))) (en : EntL CT L n H es ts) (hl : es.length ≤ 10)
    (hq : ∀ Hi, Ex T [] H Hi → Hi D = some (.lst ((es.map (·.1)).map kV)) → Qd Hi) : LcW (Itl K le) (gTup K 2 (gCons (gName 9) (gCons (gName 10) gNil))) tYes (tVar 9) [9, 10] [x0, x1, x2, x3, x4, x5, some (.ref le), x7, x8, none, none] H D Qd := by
  have hlen : es.length = ts.length := en.length
  refine lcw_it (walk_list (K := K) (a := le)) (fun i Hi => Hi D = some (.lst (((es.take i).map (·.1)).map kV)) ∧ Ex T [] H Hi) ⟨by rw [upd_same]; rfl, Ex.new hD _⟩ (fun i Hi _ ⟨_, e⟩ => SqL.of (e.lst hle)) ?_ ?_
  · rintro i x Hi0 Hi hi ⟨ha, e⟩ ⟨rfl, hx⟩
    rw [List.getElem?_map] at hx
    obtain ⟨t, ht, rfl⟩ := Option.map_eq_some_iff.mp hx
    obtain ⟨ev, hev, v, htv, rv⟩ := paired_get en ht
    refine ⟨t, _, rfl, SqT.of (e.tup htv), rfl, _, _, rfl, _, _, rfl, rfl, rfl, _, rfl, _, ha, lt1000 (by rw [List.length_map, List.length_map, List.length_take]; omega), ?_, e.grow hD ha _⟩
    rw [upd_same, List.take_succ, hev]
    simp
  · rintro Hi ⟨ha, e⟩
    rw [List.length_map, ← hlen, List.take_length] at ha
    exact hq Hi e ha
theorem ok_ltab (D : Dn K mg "_law_table" (top 54)) (B : Bl mg) (hgT : mg "Table" = some (.ref CT)) {n : Nat} (hTm : HasT P w K mg base T CT n) (hK : Has P w K mg base CX0 3 "_law_key" ["_law_source_here", "_law_twins_here"] (spLKey T)) (hV : Has P w K mg base CX0 (2 * n + 4) "_law_value" psV (spVal T CT n)) : Has P w K mg base CX0 (2 * n + 5) "_law_table" psLT (spLTab T CT n) := by
  obtain ⟨fk, fdk, hmk, kpk, bk, Gk⟩ := hK.ex
  obtain ⟨fv, fdv, hmv, kpv, bv, Gv⟩ := hV.ex
  obtain ⟨ft, fdt, MK, bt, Gt⟩ := hTm.ex
  refine D.has0 sc_ltab (fun vs H Q E h => ?_) (fun _ _ _ _ _ _ us hl => match us, hl with | [_, _, _, _, _, _], _ => rfl) (fun f cdv A outer s H vs Q E hr h => ?_)
  · obtain ⟨L, S, tw, ta, rm, m, many, d, rfl, _⟩ := h
    rfl
  obtain ⟨L, S, tw, ta, rm, m, many, d, rfl, hd, hm0, hm3, va, hm, q⟩ := h
  have hr3 := hr.mono (j := 3) (by omega)
  have hrT := hr.mono (j := n + 2 + 1) (by omega)
  refine ⟨_, pss_cons (ps_set (i := 6) sc_ltab.nd rfl (.inl rfl) (pe_lst pa_nil))
    (pss_cons (ps_for PassesOwn.never rfl (pi_range1 rfl B.range (pa_cons (pv 1) pa_nil)) (pg_name (i := 7) sc_ltab.nd rfl (.inl rfl))
      (pss_cons (ps_set (i := 8) sc_ltab.nd rfl (.inl rfl) (pe_call Gk hr3 rfl hmk kpk bk .nil pass0 (pa_cons (pv 0) (pa_cons (pv 3) pa_nil))))
      (pss_one (ps_if (pt_cmpR op_notIn_seq (pv 8) (pe_lc (own := [("_law_old", 9), ("_law_item", 10)]) (g := gTup K 2 (gCons (gName 9) (gCons (gName 10) gNil))) (tt := tYes) (te := tVar 9) rfl sc_ltab.nd (pi_list (pv 6)) (blkOk_by (N := nLT) (sc := defScope (top 54)) (by decide +kernel))
          (fun _ _ _ _ _ => pg_tup rfl (pgs_cons (pg_name (i := 9) sc_ltab.nd rfl (.inl rfl)) (pgs_cons (pg_name (i := 10) sc_ltab.nd rfl (.inl rfl)) pgs_nil))) (fun _ _ _ _ _ => pts_nil) (fun _ _ _ _ _ => pv 9)) (by rfl))
        (pss_one (ps_expr (pe_bm PySem.F.plainAttrs_list PySem.F.slot_list_append PySem.F.type_list_append mt_append (pv 6) (pa_cons (pe_tup (pa_cons (pv 8) (pa_cons (pe_call Gv hr rfl hmv kpv bv .nil pass0 (pa_cons (pv 0) (pa_cons (pe_op op_sub (pv 2) pe_int) (pa_cons (pv 3) (pa_cons (pv 4) (pa_cons (pv 5) pa_nil)))))) pa_nil))) pa_nil)))) pss_nil))))
    (pss_one (ps_ret (pe_make MK Gt hrT rfl hgT bt .nil pass0 (pa_cons (pv 6) pa_nil))))), ?_⟩
  refine ⟨by show 0 ≤ sizeLine; decide, fun le hle => ?_⟩
  have e0 : Ex T [S, rm] H (upd H le (.lst [])) := Ex.new hle _
  have va0 : VA (upd H le (.lst [])) (le :: L) S tw ta rm m := (va.ex (Ex.new (T := T) hle _)).add upd_same
  refine ⟨_, rfl, many, rfl, by omega, by omega, forw_it (walk_range (lo := 0) (n := many.toNat)) (fun i σ Hi => ∃ v7 v8 es ts, σ = [some (.ref S), some (.int many), some (.int d), some (.ref tw), some (.ref ta), some (.ref rm), some (.ref le), v7, v8, none, none] ∧ Ex T [S, rm] H Hi ∧ VA Hi (le :: L) S tw ta rm (m + i * (8 + cst n)) ∧ Hi le = some (.lst ((ts : List Addr).map V.ref)) ∧ EntL CT (le :: L) n Hi es ts ∧ es.length ≤ i ∧ okV (n + 1) (.tab es))
    ⟨none, none, [], [], rfl, e0, va0.next (Ex.refl (T := T) _) (va0.hs.up (by omega)) va0.hr, upd_same, .nil, Nat.le_refl _, ?_⟩ (fun _ _ _ _ _ => trivial) ?_ ?_⟩
  · unfold okV
    exact ⟨by decide, List.nodup_nil, fun p hp => by cases hp⟩
  · rintro i x σ Hi0 Hi hi ⟨v7, v8, es, ts, rfl, e, va1, hl, en, hel, okes⟩ ⟨rfl, rfl⟩
    obtain ⟨js, hjs, j1, j4, jok⟩ := va1.ht
    have hi3 : i < 3 := by omega
    have hc : (i + 1) * (8 + cst n) = i * (8 + cst n) + (8 + cst n) := Nat.succ_mul _ _
    have hc3 : (i + 1) * (8 + cst n) ≤ 3 * (8 + cst n) := Nat.mul_le_mul_right _ (by omega)
    refine ⟨_, rfl, _, rfl, S, tw, js, m + i * (8 + cst n), rfl, va1.hs, by omega, hjs, va1.n1, j1, j4, jok, fun k H1 okk e1 hs1 => ?_⟩
    have va2 := va1.src e1 hs1
    have leS : le ≠ S := fun z => by
      obtain ⟨a, b, c, e', _⟩ := va.hs
      rw [← z, hle] at e'
      cases e'
    have leR : le ≠ rm := fun z => by
      obtain ⟨r, e'⟩ := va.hr
      rw [← z, hle] at e'
      cases e'
    have hl1 := e1.lstS hl leS
    have en1 := va1.ent (e1.s2) en
    refine ⟨_, rfl, _, rfl, le, rfl, ⟨_, SqL.of hl1⟩, fun Dc hDc => old_comp (T := T) hDc hl1 en1 (by omega) fun H2 e2 hD2 => ?_⟩
    have va3 := va2.ex e2
    have e02 := e.trans (e1.s2.trans e2.of0)
    refine ⟨Dc, _, rfl, .inl (SqL.of hD2), flat_kV k, flat_kVs _, _, rfl, ?_⟩
    by_cases c : inV (kV k) ((es.map (·.1)).map kV) = true
    · rw [c]
      exact iteF ⟨_, _, es, ts, rfl, e02, va3.next (Ex.refl (T := T) _) (va3.hs.up (by omega)) va3.hr, e2.lst hl1, va2.ent e2.of0 en1, by omega, okes⟩
    · have c' : inV (kV k) ((es.map (·.1)).map kV) = false := by simpa using c
      rw [c']
      have hk := inV_kV c'
      refine iteT ⟨_, rfl, .inl ⟨rfl, _, SqL.of (e2.lst hl1)⟩, _, rfl, _, rfl, _, rfl, d, 1, rfl, rfl, _, rfl, _, rfl, _, rfl, le :: L, S, tw, ta, rm, m + i * (8 + cst n) + 8, d - 1, rfl, by omega, va3, by omega, fun x v H3 okv rp e3 hs3 r3 => ⟨by show 2 ≤ sizeLine; decide, fun t ht => ?_⟩⟩
      have hl3 : H3 le = some (.lst (ts.map V.ref)) := e3.ke le _ (by simp [leS, leR]) (e2.lst hl1) (fun _ y => nomatch y)
      have e34 : Ex T [] H3 (upd H3 t (.tup [kV k, x])) := Ex.new ht _
      have hl4 := e34.lst hl3
      refine ⟨le, ts.map V.ref, _, rfl, rfl, hl4, lt1000 (by rw [List.length_map, ← en.length]; omega), ?_⟩
      have e04 : Ex T [S, rm] H (upd H3 t (.tup [kV k, x])) := e02.trans (e3.trans e34.of0)
      have e05 := e04.grow hle hl4 (ts.map V.ref ++ [.ref t])
      have va4 := (va3.next e3 hs3 r3).ex e34
      have s5 : SrcAt (upd (upd H3 t (.tup [kV k, x])) le (.lst (ts.map V.ref ++ [.ref t]))) S (m + (i + 1) * (8 + cst n)) := by
        obtain ⟨a, b, c0, e', h'⟩ := va4.hs.up (n := m + (i + 1) * (8 + cst n)) (by omega)
        exact ⟨a, b, c0, by rw [upd_ne (Ne.symm leS)]; exact e', h'⟩
      have r5 : ∃ r : Int, upd (upd H3 t (.tup [kV k, x])) le (.lst (ts.map V.ref ++ [.ref t])) rm = some (.lst [.int r]) := by
        obtain ⟨r, e'⟩ := va4.hr
        exact ⟨r, by rw [upd_ne (Ne.symm leR)]; exact e'⟩
      have en3 := va3.ent e3 (va2.ent (e2.of0 (L' := [S, rm])) en1)
      have en4 : EntL CT (le :: L) n (upd H3 t (.tup [kV k, x])) (es ++ [(k, v)]) (ts ++ [t]) := Paired.snoc (EntL.kee en3 e34.kee) ⟨x, upd_same, rep_kee e34.kee.of_nil rp⟩
      refine ⟨_, _, es ++ [(k, v)], ts ++ [t], rfl, e05, (va.next e05 s5 r5).add upd_same, by rw [upd_same, List.map_append]; rfl, EntL.put en4 hl4 List.mem_cons_self, by rw [List.length_append]; show es.length + 1 ≤ i + 1; omega, ?_⟩
      unfold okV at okes ⊢
      refine ⟨by rw [List.length_append]; show es.length + 1 ≤ 60; omega, ?_, fun p hp => ?_⟩
      · rw [List.map_append]
        refine List.nodup_append.mpr ⟨okes.2.1, by simp, fun a ha b hb => ?_⟩
        have : b = k := by simpa using hb
        rw [this]
        exact fun z => hk (z ▸ ha)
      · rcases List.mem_append.mp hp with z | z
        · exact okes.2.2 p z
        · rw [List.mem_singleton.mp z]
          exact ⟨okKs.k okk, okv⟩
  · rintro σ Hi ⟨v7, v8, es, ts, rfl, e, va1, hl, en, hel, okes⟩
    have h3 : many.toNat * (8 + cst n) ≤ 3 * (8 + cst n) := Nat.mul_le_mul_right _ (by omega)
    refine ⟨_, rfl, fun x dx nx ndx nex => ?_⟩
    have sm : Same Hi (upd (upd Hi dx (.own x)) x (.ins CT dx [])) := fun b o' q => by
      rw [upd_ne (ne_of_none q nx), upd_ne (ne_of_none q ndx)]
      exact q
    have e4 : Ex T [] Hi (upd (upd Hi dx (.own x)) x (.ins CT dx [])) := Ex.same sm
    have okes' := okes
    unfold okV at okes'
    have va2 := va1.ex e4
    refine ⟨L, x, dx, le, es, ts, rfl, upd_same, fun z => va1.lt.notin nx (List.mem_cons_of_mem _ z), fun b hb => va2.lt b (List.mem_cons_of_mem _ hb), SqL.of (e4.lst hl), EntL.kee (EntL.less en fun b hb => List.mem_cons_of_mem _ hb) e4.kee, okes'.2.1, by omega, fun H' e5 rp => ⟨rfl, ?_⟩⟩
    have e6 : Ex T [] Hi H' := Ex.made nx ndx e5
    have va3 := va1.ex e6
    exact q _ _ H' okes rp (e.trans e6.of0) (va3.hs.up (by omega)) va3.hr
/-! ### _law_value -/
abbrev nVa : List Str := ["_law_source_here", "_law_deep", "_law_twins_here", "_law_atoms_here", "_law_room", "_law_road", "_law_many", "_law_items", "_law_turn"]
theorem sc_val : FnScope nVa psV (defScope (top 53)) := ⟨rfl, rfl, rfl, by decide +kernel, rfl, by decide +kernel, by decide +kernel⟩
theorem val_comp {L : List Addr} {n : Nat} {H : Hp} {D S tw ta rm : Addr} {m : Nat} {many d : Int} {x5 x6 x7 : Option V} {Qd : Hp → Prop} (va : VA H L S tw ta rm m) (hD : H D = none) (hd : d = (n : Int) + 1) (h0 : 0 ≤ many) (h3 : many ≤ 3) (hm : m + 3 * cst n < 1000000)
    (hq : ∀ (Hi : Hp) (acc : List V) (vs : List PV), Ex T [S, rm] H Hi → Hi D = some (.lst acc) → acc.length ≤ 3 → Paired (Rep CT L n Hi) vs acc → (∀ v ∈ vs, okV n v) → VA Hi L S tw ta rm (m + 3 * cst n) → Qd Hi) :
    LcW (Itr 0 many.toNat) (gName 8) tYes (tCall (spVal T CT n) [] E0 (tCons (tVar 0) (tCons (tOp (rI0 fun i j => .int (i - j)) (tVar 1) (tC (.int 1))) (tCons (tVar 2) (tCons (tVar 3) (tCons (tVar 4) tNil)))))) [8] [some (.ref S), some (.int d), some (.ref tw), some (.ref ta), some (.ref rm), x5, x6, x7, none] H D Qd := by
  have DS : D ≠ S := fun z => by
    obtain ⟨a, b, c, e', _⟩ := va.hs
    rw [← z, hD] at e'
    cases e'
  have DR : D ≠ rm := fun z => by
    obtain ⟨r, e'⟩ := va.hr
    rw [← z, hD] at e'
    cases e'
  have e0 : Ex T [] H (upd H D (.lst [])) := Ex.new hD _
  refine lcw_it (walk_range (lo := 0) (n := many.toNat)) (fun i Hi => ∃ (acc : List V) (vs : List PV), Ex T [S, rm] H Hi ∧ Hi D = some (.lst acc) ∧ acc.length = i ∧ Paired (Rep CT (D :: L) n Hi) vs acc ∧ (∀ v ∈ vs, okV n v) ∧ VA Hi L S tw ta rm (m + i * cst n)) ⟨[], [], e0.of0, upd_same, rfl, .nil, (fun v hv => by cases hv), (va.ex e0).next (Ex.refl (T := T) _) ((va.ex e0).hs.up (by omega)) (va.ex e0).hr⟩ (fun _ _ _ _ => trivial) ?_ ?_
  · rintro i x Hi0 Hi hi ⟨acc, vs, e, ha, hlen, pp, okvs, va1⟩ ⟨rfl, rfl⟩
    have hc : (i + 1) * cst n = i * cst n + cst n := Nat.succ_mul _ _
    have hc3 : (i + 1) * cst n ≤ 3 * cst n := Nat.mul_le_mul_right _ (by omega)
    refine ⟨rfl, _, rfl, _, rfl, d, 1, rfl, rfl, _, rfl, _, rfl, _, rfl, D :: L, S, tw, ta, rm, m + i * cst n, d - 1, rfl, by omega, va1.add ha, by omega, fun x v H3 okv rp e3 hs3 r3 => ?_⟩
    have ha3 : H3 D = some (.lst acc) := e3.ke D _ (by simp [DS, DR]) ha (fun _ y => nomatch y)
    have e05 := (e.trans e3).grow hD ha3 (acc ++ [x])
    have k5 : Kee (D :: L) H3 (upd H3 D (.lst (acc ++ [x]))) := Kee.put List.mem_cons_self _
    have s5 : SrcAt (upd H3 D (.lst (acc ++ [x]))) S (m + (i + 1) * cst n) := by
      obtain ⟨a, b, c0, e', h'⟩ := hs3.up (n := m + (i + 1) * cst n) (by omega)
      exact ⟨a, b, c0, by rw [upd_ne (Ne.symm DS)]; exact e', h'⟩
    have r5 : ∃ r : Int, upd H3 D (.lst (acc ++ [x])) rm = some (.lst [.int r]) := by
      obtain ⟨r, e'⟩ := r3
      exact ⟨r, by rw [upd_ne (Ne.symm DR)]; exact e'⟩
    refine ⟨acc, ha3, lt1000 (by omega), acc ++ [x], vs ++ [v], e05, upd_same, by rw [List.length_append, hlen]; rfl, ?_, fun u hu => ?_, va.next e05 s5 r5⟩
    · exact (Paired.snoc (pp.mono fun a b q => rep_kee ((va1.add ha).kee e3) q) rp).mono fun a b q => rep_kee k5 q
    · rcases List.mem_append.mp hu with z | z
      · exact okvs u z
      · rw [List.mem_singleton.mp z]; exact okv
  · rintro Hi ⟨acc, vs, e, ha, hlen, pp, okvs, va1⟩
    have hc3 : many.toNat * cst n ≤ 3 * cst n := Nat.mul_le_mul_right _ (by omega)
    exact hq Hi acc vs e ha (by omega) (pp.mono fun a b q => rep_less (fun b hb => List.mem_cons_of_mem _ hb) q) okvs (va1.next (Ex.refl (T := T) _) (va1.hs.up (by omega)) va1.hr)
theorem scv_rep {x : V} (h : ScV x) : ∃ v, ∀ CT L n H, okV n v ∧ Rep CT L n H v x := by
  obtain ⟨v, h1, h2⟩ := h
  exact ⟨v, fun CT L n H => ⟨okV_up (Nat.zero_le _) h1, h2 CT L n H⟩⟩
theorem ok_val (D : Dn K mg "_law_value" (top 53)) (Dt : Dn K mg "_law_table" (top 54)) (B : Bl mg) (hgT : mg "Table" = some (.ref CT)) (hTm : ∀ n, HasT P w K mg base T CT n) (hK : Has P w K mg base CX0 3 "_law_key" ["_law_source_here", "_law_twins_here"] (spLKey T)) (hD : Has P w K mg base CX0 1 "_law_draw" ["_law_source_here", "_law_many"] (spDraw T))
    (hC : Has P w K mg base CX0 3 "_law_scalar" ["_law_source_here", "_law_atoms_here"] (spScalar T)) : ∀ n, Has P w K mg base CX0 (2 * n + 4) "_law_value" psV (spVal T CT n) := by
  obtain ⟨fd, fdd, hmd, kpd, bd, Gd⟩ := hD.ex
  obtain ⟨fc, fdc, hmc, kpc, bc, Gc⟩ := hC.ex
  intro n
  induction n with
  | zero =>
    refine D.has0 sc_val (fun vs H Q E h => ?_) (fun _ _ _ _ _ _ us hl => match us, hl with | [_, _, _, _, _], _ => rfl) (fun f cdv A outer s H vs Q E hr h => ?_)
    · obtain ⟨L, S, tw, ta, rm, m, d, rfl, _⟩ := h
      rfl
    obtain ⟨L, S, tw, ta, rm, m, d, rfl, hd, va, hm, q⟩ := h
    have hr1 := hr.mono (j := 1) (by omega)
    refine ⟨_, pss_cons (ps_set (i := 5) sc_val.nd rfl (.inl rfl) (pe_call Gd hr1 rfl hmd kpd bd .nil pass0 (pa_cons (pv 0) (pa_cons pe_int pa_nil))))
      (pss_cons (ps_if (PW.pt (pw_or (pt_cmpR op_eq (pv 1) pe_int (nomark _)) (pw_or (pt_cmpR op_le (pe_ix ix_list (pv 4) pe_int (fun _ _ => rfl)) pe_int (nomark _)) (pw_or1 (pt_cmpR op_lt (pv 5) pe_int (nomark _))))))
        (pss_one (ps_ret (pe_call Gc hr rfl hmc kpc bc .nil pass0 (pa_cons (pv 0) (pa_cons (pv 3) pa_nil))))) pss_nil)
      (pss_cons ps_never (pss_cons ps_never (pss_cons ps_never (pss_one ps_never))))), ?_⟩
    obtain ⟨xs, hxs, x5, xsc⟩ := va.ha
    have c8 : cst 0 = 8 := rfl
    refine draw_lit rfl va.hs (by omega) (by decide) (by decide) fun dr H1 e1 hs1 d0 d1 => ?_
    subst hd
    refine ⟨_, rfl, rfl, _, rfl, iteT (iteT ?_)⟩
    refine ⟨_, rfl, _, rfl, S, ta, xs, m + 1, rfl, hs1, by omega, e1.lstS hxs va.n3, va.n3, x5, xsc, fun x H2 sx e2 hs2 => ?_⟩
    obtain ⟨v, hv⟩ := scv_rep sx
    have va2 := va.src (e1.trans e2) (hs2.up (n := m + cst 0) (by omega))
    exact q x v H2 (hv CT L 0 H2).1 (hv CT L 0 H2).2 (e1.trans e2).s2 va2.hs va2.hr
  | succ n ih =>
    obtain ⟨fv, fdv, hmv, kpv, bv, Gv⟩ := ih.ex
    obtain ⟨ft, fdt, hmt, kpt, bt, Gt⟩ := (ok_ltab (T := T) Dt B hgT (hTm n) hK ih).ex
    refine D.has0 sc_val (fun vs H Q E h => ?_) (fun _ _ _ _ _ _ us hl => match us, hl with | [_, _, _, _, _], _ => rfl) (fun f cdv A outer s H vs Q E hr h => ?_)
    · obtain ⟨L, S, tw, ta, rm, m, d, rfl, _⟩ := h
      rfl
    obtain ⟨L, S, tw, ta, rm, m, d, rfl, hd, va, hm, q⟩ := h
    have hr1 := hr.mono (j := 1) (by omega)
    have hr3 := hr.mono (j := 3) (by omega)
    have hrv := hr.mono (j := 2 * n + 4) (by omega)
    have hrt := hr.mono (j := 2 * n + 5) (by omega)
    refine ⟨_, pss_cons (ps_set (i := 5) sc_val.nd rfl (.inl rfl) (pe_call Gd hr1 rfl hmd kpd bd .nil pass0 (pa_cons (pv 0) (pa_cons pe_int pa_nil))))
      (pss_cons (ps_if (PW.pt (pw_or (pt_cmpR op_eq (pv 1) pe_int (nomark _)) (pw_or (pt_cmpR op_le (pe_ix ix_list (pv 4) pe_int (fun _ _ => rfl)) pe_int (nomark _)) (pw_or1 (pt_cmpR op_lt (pv 5) pe_int (nomark _))))))
        (pss_one (ps_ret (pe_call Gc hr3 rfl hmc kpc bc .nil pass0 (pa_cons (pv 0) (pa_cons (pv 3) pa_nil))))) pss_nil)
      (pss_cons (ps_set (i := 6) sc_val.nd rfl (.inl rfl) (pe_call Gd hr1 rfl hmd kpd bd .nil pass0 (pa_cons (pv 0) (pa_cons pe_int pa_nil))))
      (pss_cons (ps_asg (pe_op op_sub (pe_ix ix_list (pv 4) pe_int (fun _ _ => rfl)) (pv 6)) (pg_sub (pv 4) pe_int set_list (fun _ => rfl)))
      (pss_cons (ps_if (pt_cmpR op_lt (pv 5) pe_int (nomark _))
        (pss_cons (ps_setLc (i := 7) (own := [("_law_turn", 8)]) (g := gName 8) (tt := tYes) rfl sc_val.nd rfl rfl (sw_true rfl rfl rfl rfl) (pi_range1 rfl B.range (pa_cons (pv 6) pa_nil)) (blkOk_by (N := nVa) (sc := defScope (top 53)) (by decide +kernel)) (fun _ _ _ _ _ => pg_name (i := 8) sc_val.nd rfl (Or.inl rfl)) (fun _ _ _ _ _ => pts_nil)
          (fun _ _ _ _ _ => pe_call Gv hrv rfl hmv kpv bv .nil pass0 (pa_cons (pv 0) (pa_cons (pe_op op_sub (pv 1) pe_int) (pa_cons (pv 2) (pa_cons (pv 3) (pa_cons (pv 4) pa_nil)))))))
        (pss_one (ps_ret (pe_ifExp (pt_cmpR op_lt (pv 5) pe_int (nomark _)) (pe_callTy call_tuple_of rfl B.tuple (by decide +kernel) (pa_cons (pv 7) pa_nil)) (pv 7))))) pss_nil)
      (pss_one (ps_ret (pe_call Gt hrt rfl hmt kpt bt .nil pass0 (pa_cons (pv 0) (pa_cons (pv 6) (pa_cons (pv 1) (pa_cons (pv 2) (pa_cons (pv 3) (pa_cons (pv 4) pa_nil))))))))))))), ?_⟩
    obtain ⟨xs, hxs, x5, xsc⟩ := va.ha
    obtain ⟨r, hrm⟩ := va.hr
    have c8 : cst (n + 1) = 26 + 3 * cst n := rfl
    have at0 : atI [V.int r] 0 = some (.int r) := atI_nat (j := 0) rfl
    refine draw_lit rfl va.hs (by omega) (by decide) (by decide) fun dr H1 e1 hs1 d0 d1 => ?_
    have hrm1 := e1.lstS hrm va.n5
    have va1 := va.src e1 hs1
    have scal : tCall (spScalar T) [] E0 (tCons (tVar 0) (tCons (tVar 3) tNil)) [some (.ref S), some (.int d), some (.ref tw), some (.ref ta), some (.ref rm), some (.int dr), none, none, none] H1 Q := by
      refine ⟨_, rfl, _, rfl, S, ta, xs, m + 1, rfl, hs1, by omega, e1.lstS hxs va.n3, va.n3, x5, xsc, fun x H2 sx e2 hs2 => ?_⟩
      obtain ⟨v, hv⟩ := scv_rep sx
      have va2 := va.src (e1.trans e2) (hs2.up (n := m + cst (n + 1)) (by omega))
      exact q x v H2 (hv CT L (n + 1) H2).1 (hv CT L (n + 1) H2).2 (e1.trans e2).s2 va2.hs va2.hr
    refine ⟨_, rfl, rfl, _, rfl, ?_⟩
    rw [show decide (V.int d = V.int 0) = false from decide_eq_false fun z => by cases z; omega]
    refine iteF ⟨_, rfl, rm, _, 0, _, rfl, rfl, SqL.of hrm1, at0, r, 0, rfl, rfl, _, rfl, ite2 (fun c => iteT scal) (fun c => ?_)⟩
    refine ⟨_, rfl, dr, 2, rfl, rfl, _, rfl, ite2 (fun c => scal) (fun c => ?_)⟩
    refine draw_lit rfl hs1 (by omega) (by decide) (by decide) fun many H2 e2 hs2 m0 m1 => ?_
    have hrm2 := e2.lstS hrm1 va.n5
    have va2 := va1.src e2 hs2
    refine ⟨_, rfl, rm, _, 0, _, rfl, rfl, SqL.of hrm2, at0, _, rfl, r, many, rfl, rfl, _, rfl, rm, _, 0, 0, rfl, rfl, hrm2, rfl, ?_⟩
    have e3 : Ex T [S, rm] H2 (upd H2 rm (.lst [.int (r - many)])) := (Ex.refl H2).then_put (List.mem_cons_of_mem _ List.mem_cons_self) hrm2 ⟨(fun ps y => nomatch y), (fun φ y => nomatch y)⟩
    have hs3 : SrcAt (upd H2 rm (.lst [.int (r - many)])) S (m + 1 + 1) := by
      obtain ⟨a, b, c0, e', h'⟩ := hs2
      exact ⟨a, b, c0, by rw [upd_ne (Ne.symm va.n5)]; exact e', h'⟩
    have va3 := va2.next e3 hs3 ⟨_, upd_same⟩
    have e03 := (e1.trans e2).s2.trans e3
    refine ⟨_, rfl, dr, 6, rfl, rfl, _, rfl, ite2 (fun c => ?_) (fun c => ?_)⟩
    · refine ⟨_, rfl, many, rfl, by omega, by omega, fun Dc hDc => val_comp (T := T) va3 hDc hd m0 (by omega) (by omega) fun Hi acc vs e4 ha hlen pp okvs va4 => ?_⟩
      have okr : ∀ t, okV (n + 1) (.row t vs) := fun t => by
        unfold okV
        exact ⟨by rw [pp.length]; omega, okvs⟩
      refine ⟨_, rfl, dr, 4, rfl, rfl, _, rfl, ite2 (fun c => ?_) (fun c => ?_)⟩
      · refine ⟨_, rfl, Dc, acc, rfl, .inl ⟨SqL.of ha, fun t ht => ?_⟩⟩
        have va5 := va4.ex (Ex.new (T := T) ht (.tup acc))
        refine q _ (.row true vs) _ (okr true) ?_ ((e03.trans e4).then_new ht _) (va5.hs.up (by omega)) va5.hr
        unfold Rep
        exact ⟨t, acc, rfl, va4.lt.notin ht, upd_same, by omega, pp.mono fun a b q => rep_kee (Kee.new ht _) q⟩
      · refine ⟨_, rfl, ?_⟩
        refine q _ (.row false vs) _ (okr false) ?_ (e03.trans e4) (va4.hs.up (by omega)) va4.hr
        unfold Rep
        exact ⟨Dc, acc, rfl, va3.lt.notin hDc, ha, by omega, pp⟩
    · refine ⟨_, rfl, _, rfl, _, rfl, _, rfl, _, rfl, _, rfl, L, S, tw, ta, rm, m + 1 + 1, many, d, rfl, hd, m0, by omega, va3, by omega, fun x v H4 okv rp e4 hs4 r4 => q x v H4 okv rp (e03.trans e4) (hs4.up (by omega)) r4⟩
end
end K86
/-! K86Parts: parts. -/
namespace K86
open PySem PySem.Spec PyProof.Rows L2

/-- over a list or a tuple -/
def iSeq (K : PySem.W.Frag) (tl : TE) : TI := fun σ H R => tl σ H fun x H1 => ∃ a, x = .ref a ∧ (((∃ xs, SqL K H1 a xs) ∧ R (Itl K a) H1) ∨ ((∃ xs, SqT K H1 a xs) ∧ R (Itt K a) H1))
theorem pi_seq {X : Cx} {tg l : Expr} {tl : TE} (hl : PE X l tl) : PI X tg l (iSeq X.K tl) := by
  refine ⟨fun pins s σ H R I h => ?_⟩
  refine thn (hl.run pins s σ H _ I h) fun v s1 ⟨x, H1, I1, r1, q1⟩ => ?_
  obtain ⟨a, e, q1⟩ := q1
  subst e
  cases r1
  rcases q1 with ⟨⟨xs, hq⟩, q⟩ | ⟨⟨xs, hq⟩, q⟩
  · obtain ⟨its, rv, p, hz⟩ := I1.list hq
    refine wpAny_pyIter_list p.isList ?_
    refine ⟨s1.heap.objs.size, [s1.heap.objs.size], _, _, H1, rfl, I1.kept (t' := s1.toks) fun b o e => Heap.get?_push_of_some _ e, turn_list a _, ⟨_, Heap.get?_push_size _ rfl, rfl, rfl⟩, fun b hb => ?_, q⟩
    have e : b = s1.heap.objs.size := by simpa using hb
    subst e
    exact I1.fpOk (Nat.le_refl _) (I1.hok.fresh (Nat.le_refl _))
  · obtain ⟨its, rv, p, hz⟩ := I1.tuple hq
    refine wpAny_pyIter_tuple (show s1.heap.IsTuple a its.toArray from p) ?_
    refine ⟨s1.heap.objs.size, [s1.heap.objs.size], _, _, H1, rfl, I1.kept (t' := s1.toks) fun b o e => Heap.get?_push_of_some _ e, turn_tuple a _, ⟨_, Heap.get?_push_size _ rfl, rfl, rfl⟩, fun b hb => ?_, q⟩
    have e : b = s1.heap.objs.size := by simpa using hb
    subst e
    exact I1.fpOk (Nat.le_refl _) (I1.hok.fresh (Nat.le_refl _))
theorem sum_L : ∀ vs : List PV, (vs.map fun v => ((partsV v : Nat) : Int)).sum = ((partsL vs : Nat) : Int)
  | [] => by rw [partsL]; rfl
  | v :: r => by rw [partsL, List.map_cons, List.sum_cons, sum_L r]; omega
theorem sum_E : ∀ es : List (Key × PV), (es.map fun p => ((partsV p.2 : Nat) : Int)).sum = ((partsE es : Nat) : Int)
  | [] => by rw [partsE]; rfl
  | p :: r => by rw [partsE, List.map_cons, List.sum_cons, sum_E r, show partsP p = partsV p.2 from by cases p; rw [partsP]]; omega
section
variable {P : Program} {w : World} {K : PySem.W.Frag} {mg : Str → Option Value} {base : Heap} {CT CP : Addr} {T : Tb}
def spParts (T : Tb) (CT : Addr) (n : Nat) : Sp := fun vs H Q _ => ∃ x v, vs = [x] ∧ Rep CT [] n H v x ∧ ∀ H', Ex T [] H H' → Q (.int (partsV v : Nat)) H'
abbrev nPa : List Str := ["_law_value_here", "_law_item", "_law_key_here"]
theorem sc_parts : FnScope nPa ["_law_value_here"] (defScope (top 55)) := ⟨rfl, rfl, rfl, by decide +kernel, rfl, by decide +kernel, by decide +kernel⟩
theorem parts_comp {n : Nat} {H : Hp} {D : Addr} {vs : List PV} {ys : List V} {x0 x2 : Option V} {J : It} {G : Hp → Prop} {Qd : Hp → Prop} (hD : H D = none) (hl : ys.length ≤ 1000) (p : Paired (Rep CT [] n H) vs ys) (w : Walk J ys.length G (YAt ys)) (hG : ∀ Hi, Ex T [] H Hi → G Hi)
    (hd : ∀ Hi, Ex T [] H Hi → Hi D = some (.lst ((vs.map fun v => ((partsV v : Nat) : Int)).map V.int)) → Qd Hi) : LcW J (gName 1) tYes (tCall (spParts T CT n) [] E0 (tCons (tVar 1) tNil)) [1] [x0, none, x2] H D Qd := by
  refine lcw_it w (fun i Hi => Hi D = some (.lst (((vs.take i).map fun v => ((partsV v : Nat) : Int)).map V.int)) ∧ Ex T [] H Hi) ⟨upd_same, Ex.new hD _⟩ (fun i Hi _ ⟨_, e⟩ => hG Hi e) ?_ ?_
  · rintro i x Hi0 Hi hi ⟨ha, e⟩ ⟨e0, hx⟩
    subst e0
    obtain ⟨v, hv, rv⟩ := paired_get p hx
    refine ⟨rfl, _, rfl, x, v, rfl, rep_kee e.kee.of_nil rv, fun H' e2 => ?_⟩
    refine ⟨_, e2.lst ha, lt1000 (by rw [List.length_map, List.length_map, List.length_take]; omega), ?_, (e.trans e2).grow hD (e2.lst ha) _⟩
    rw [upd_same, List.take_succ, hv]
    simp
  · rintro Hi ⟨ha, e⟩
    rw [List.take_of_length_le (by rw [p.length]; exact Nat.le_refl _)] at ha
    exact hd Hi e ha
theorem parts_ents {n : Nat} {H : Hp} {D a : Addr} {es : List (Key × PV)} {ts : List Addr} {x0 : Option V} {Qd : Hp → Prop} (hD : H D = none) (hl : es.length ≤ 1000) (ha0 : H a = some (.lst (ts.map V.ref))) (en : EntL CT [] n H es ts)
    (hd : ∀ Hi, Ex T [] H Hi → Hi D = some (.lst ((es.map fun p => ((partsV p.2 : Nat) : Int)).map V.int)) → Qd Hi) : LcW (Itl K a) (gTup K 2 (gCons (gName 2) (gCons (gName 1) gNil))) tYes (tCall (spParts T CT n) [] E0 (tCons (tVar 1) tNil)) [2, 1] [x0, none, none] H D Qd := by
  have hlen : es.length = ts.length := en.length
  refine lcw_it (walk_list (K := K) (a := a)) (fun i Hi => Hi D = some (.lst (((es.take i).map fun p => ((partsV p.2 : Nat) : Int)).map V.int)) ∧ Ex T [] H Hi) ⟨upd_same, Ex.new hD _⟩ (fun i Hi _ ⟨_, e⟩ => SqL.of (e.lst ha0)) ?_ ?_
  · rintro i x Hi0 Hi hi ⟨ha, e⟩ ⟨rfl, hx⟩
    rw [List.getElem?_map] at hx
    obtain ⟨t, ht, rfl⟩ := Option.map_eq_some_iff.mp hx
    obtain ⟨ev, hev, v, htv, rv⟩ := paired_get en ht
    refine ⟨t, _, rfl, SqT.of (e.tup htv), rfl, _, _, rfl, _, _, rfl, rfl, rfl, _, rfl, v, ev.2, rfl, rep_kee e.kee.of_nil rv, fun H' e2 => ?_⟩
    refine ⟨_, e2.lst ha, lt1000 (by rw [List.length_map, List.length_map, List.length_take]; omega), ?_, (e.trans e2).grow hD (e2.lst ha) _⟩
    rw [upd_same, List.take_succ, hev]
    simp
  · rintro Hi ⟨ha, e⟩
    rw [List.length_map, ← hlen, List.take_length] at ha
    exact hd Hi e ha
theorem ok_parts (D : Dn K mg "_law_parts" (top 55)) (B : Bl mg) (F : TF K CT) (hgT : mg "Table" = some (.ref CT)) (hE : ∀ n, HasM P w K mg base CX0 (n + 2) CT "entries" ["self"] (spEntries T CT n)) : ∀ n, Has P w K mg base CX0 (n + 3) "_law_parts" ["_law_value_here"] (spParts T CT n) := by
  intro n
  induction n with
  | zero =>
    refine D.has0 sc_parts (fun vs H Q E h => ?_) (fun _ _ _ _ _ _ us hl => match us, hl with | [_], _ => rfl) (fun f cdv A outer s H vs Q E hr h => ?_)
    · obtain ⟨x, v, rfl, _⟩ := h
      rfl
    obtain ⟨x, v, rfl, rp, q⟩ := h
    refine ⟨_, pss_cons (ps_if (pt_val (pe_callB call_isiT rfl B.isinstance (by decide +kernel) (pa_cons (pv 0) (pa_cons (pe_tup (pa_cons (pe_bltn (v := .ty "list") rfl B.list (by decide +kernel) rfl) (pa_cons (pe_bltn (v := .ty "tuple") rfl B.tuple (by decide +kernel) rfl) pa_nil))) pa_nil)))) (pss_one ps_never) pss_nil)
      (pss_cons (ps_if (pt_val (pe_callB call_isi rfl B.isinstance (by decide +kernel) (pa_cons (pv 0) (pa_cons (pe_glob (v := .ref CT) rfl hgT rfl) pa_nil)))) (pss_one ps_never) pss_nil)
      (pss_one (ps_ret pe_int))), ?_⟩
    have hk : (kindN v == 4 || kindN v == 5) = false ∧ (kindN v == 6) = false ∧ partsV v = 1 := by
      cases v with
      | row t vs => unfold Rep at rp; exact False.elim rp
      | tab es => unfold Rep at rp; exact False.elim rp
      | _ => exact ⟨rfl, rfl, by simp [partsV]⟩
    refine ⟨_, rfl, by show 2 ≤ sizeLine; decide, fun tp htp => ?_⟩
    have e1 : Ex T [] H (upd H tp (.tup [.ty "list", .ty "tuple"])) := Ex.new htp _
    have sh1 := rep_sh (rep_kee e1.kee.of_nil rp)
    refine ⟨_, _, _, _, [.type "list", .type "tuple"], _, rfl, upd_same, .cons (.ty _) (.cons (.ty _) .nil), sh1.ty F, kit_lt F sh1.lt, _, rfl, ?_⟩
    rw [hk.1]
    refine iteF ⟨_, rfl, _, _, _, _, _, rfl, .own CT, sh1.ty F, kit_tab F sh1.lt, _, rfl, ?_⟩
    rw [hk.2.1]
    have := q _ e1
    rw [hk.2.2] at this
    exact iteF this
  | succ n ih =>
    obtain ⟨fp, fdp, hmp, kpp, bp, Gp⟩ := ih.ex
    obtain ⟨fe, fde, me, be, Ge⟩ := (hE n).ex
    refine D.has0 sc_parts (fun vs H Q E h => ?_) (fun _ _ _ _ _ _ us hl => match us, hl with | [_], _ => rfl) (fun f cdv A outer s H vs Q E hr h => ?_)
    · obtain ⟨x, v, rfl, _⟩ := h
      rfl
    obtain ⟨x, v, rfl, rp, q⟩ := h
    have hre := hr.mono (j := n + 2) (by omega)
    refine ⟨_, pss_cons (ps_if (pt_val (pe_callB call_isiT rfl B.isinstance (by decide +kernel) (pa_cons (pv 0) (pa_cons (pe_tup (pa_cons (pe_bltn (v := .ty "list") rfl B.list (by decide +kernel) rfl) (pa_cons (pe_bltn (v := .ty "tuple") rfl B.tuple (by decide +kernel) rfl) pa_nil))) pa_nil))))
        (pss_one (ps_ret (pe_op op_add pe_int (pe_callB (cr_sum rfl) rfl B.sum (by decide +kernel) (pa_cons (pe_lc (own := [("_law_item", 1)]) (g := gName 1) (tt := tYes) rfl sc_parts.nd (pi_seq (pv 0)) (blkOk_by (N := nPa) (sc := defScope (top 55)) (by decide +kernel)) (fun _ _ _ _ _ => pg_name (i := 1) sc_parts.nd rfl (Or.inl rfl)) (fun _ _ _ _ _ => pts_nil)
          (fun _ _ _ _ _ => pe_call Gp hr rfl hmp kpp bp .nil pass0 (pa_cons (pv 1) pa_nil))) pa_nil))))) pss_nil)
      (pss_cons (ps_if (pt_val (pe_callB call_isi rfl B.isinstance (by decide +kernel) (pa_cons (pv 0) (pa_cons (pe_glob (v := .ref CT) rfl hgT rfl) pa_nil))))
        (pss_one (ps_ret (pe_op op_add pe_int (pe_callB (cr_sum rfl) rfl B.sum (by decide +kernel) (pa_cons (pe_lc (own := [("_law_key_here", 2), ("_law_item", 1)]) (g := gTup K 2 (gCons (gName 2) (gCons (gName 1) gNil))) (tt := tYes) rfl sc_parts.nd (pi_list (pe_meth0 (pv 0) F.cl me Ge hre be .nil pass0)) (blkOk_by (N := nPa) (sc := defScope (top 55)) (by decide +kernel))
          (fun _ _ _ _ _ => pg_tup rfl (pgs_cons (pg_name (i := 2) sc_parts.nd rfl (Or.inl rfl)) (pgs_cons (pg_name (i := 1) sc_parts.nd rfl (Or.inl rfl)) pgs_nil))) (fun _ _ _ _ _ => pts_nil)
          (fun _ _ _ _ _ => pe_call Gp hr rfl hmp kpp bp .nil pass0 (pa_cons (pv 1) pa_nil))) pa_nil))))) pss_nil)
      (pss_one (ps_ret pe_int))), ?_⟩
    refine ⟨_, rfl, by show 2 ≤ sizeLine; decide, fun tp htp => ?_⟩
    have e1 : Ex T [] H (upd H tp (.tup [.ty "list", .ty "tuple"])) := Ex.new htp _
    have rp1 := rep_kee e1.kee.of_nil rp
    have sh1 := rep_sh rp1
    refine ⟨_, _, _, _, [.type "list", .type "tuple"], _, rfl, upd_same, .cons (.ty _) (.cons (.ty _) .nil), sh1.ty F, kit_lt F sh1.lt, _, rfl, ?_⟩
    by_cases c4 : ∃ t vs, v = .row t vs
    · obtain ⟨t, vs, rfl⟩ := c4
      have hk4 : (kindN (.row t vs) == 4 || kindN (.row t vs) == 5) = true := by cases t <;> rfl
      rw [hk4]
      unfold Rep at rp1
      obtain ⟨a, ys, rfl, ha, e, l, p⟩ := rp1
      have fin : ∀ {Hj : Hp} {D : Addr}, Ex T [] (upd H tp (.tup [.ty "list", .ty "tuple"])) Hj → Hj D = some (.lst ((vs.map fun v => ((partsV v : Nat) : Int)).map V.int)) → rSum K [.ref D] Hj fun v H1 => rI0 (fun i j => .int (i + j)) (.int 1) v H1 Q := by
        intro Hj D ej hD
        refine ⟨D, _, rfl, SqL.of hD, 1, _, rfl, rfl, ?_⟩
        rw [sum_L]
        have := q Hj (e1.trans ej)
        rw [partsV, show (((1 + partsL vs : Nat)) : Int) = 1 + ((partsL vs : Nat) : Int) from by omega] at this
        exact this
      cases t with
      | false => exact iteT ⟨_, rfl, a, rfl, .inl ⟨⟨_, SqL.of e⟩, fun D hD => parts_comp (T := T) hD l p (walk_list (K := K) (a := a)) (fun Hi ei => SqL.of (ei.lst e)) fun Hi ei hDi => fin ei hDi⟩⟩
      | true => exact iteT ⟨_, rfl, a, rfl, .inr ⟨⟨_, SqT.of e⟩, fun D hD => parts_comp (T := T) hD l p (walk_tup (K := K) (a := a)) (fun Hi ei => SqT.of (ei.tup e)) fun Hi ei hDi => fin ei hDi⟩⟩
    · have hk4 : (kindN v == 4 || kindN v == 5) = false := by
        cases v with
        | row t vs => exact absurd ⟨t, vs, rfl⟩ c4
        | _ => rfl
      rw [hk4]
      refine iteF ⟨_, rfl, _, _, _, _, _, rfl, .own CT, sh1.ty F, kit_tab F sh1.lt, _, rfl, ?_⟩
      by_cases c6 : ∃ es, v = .tab es
      · obtain ⟨es, rfl⟩ := c6
        have rpx := rp1
        unfold Rep at rpx
        obtain ⟨a, d, dx, kvs, rfl, _, _, ea, _⟩ := rpx
        refine iteT ⟨_, rfl, a, dx, _, rfl, ea, rfl, _, es, rfl, rp1, fun b ts H2 e2 hb en hl => ⟨b, rfl, ⟨_, SqL.of hb⟩, fun D hD => parts_ents (T := T) hD hl hb en fun Hi ei hDi => ?_⟩⟩
        refine ⟨D, _, rfl, SqL.of hDi, 1, _, rfl, rfl, ?_⟩
        rw [sum_E]
        have := q Hi (e1.trans (e2.trans ei))
        rw [partsV, show (((1 + partsE es : Nat)) : Int) = 1 + ((partsE es : Nat) : Int) from by omega] at this
        exact this
      · have hk6 : (kindN v == 6) = false := by
          cases v with
          | tab es => exact absurd ⟨es, rfl⟩ c6
          | row t vs => cases t <;> rfl
          | _ => rfl
        rw [hk6]
        have p1 : partsV v = 1 := by
          cases v with
          | tab es => exact absurd ⟨es, rfl⟩ c6
          | row t vs => exact absurd ⟨t, vs, rfl⟩ c4
          | _ => simp [partsV]
        have := q _ e1
        rw [p1] at this
        exact iteF this
end
end K86
/-! K86Src: source, passage, making. -/
namespace K86
open PySem PySem.Spec PyProof.Rows L2
section
variable {P : Program} {w : World} {K : PySem.W.Frag} {mg : Str → Option Value} {base : Heap} {CT CP : Addr} {T : Tb}
/-! ### _law_source -/
def spSource (T : Tb) (K : PySem.W.Frag) : Sp := fun vs H Q _ => ∃ (a : Addr) (ns : List Int) (i : Int), vs = [.ref a, .int i] ∧ SqL K H a (ns.map V.int) ∧ ns.length ≤ 63 ∧ 0 ≤ i ∧ i ≤ 63 ∧ ∀ S H', (∀ L, LT H L → S ∉ L) → Ex T [] H H' → SrcAt H' S 0 → Q (.ref S) H'
abbrev nSo : List Str := ["_law_script", "_law_place", "_law_cell", "_law_large"]
theorem sc_source : FnScope nSo ["_law_script", "_law_place"] (defScope (top 42)) := ⟨rfl, rfl, rfl, by decide +kernel, rfl, by decide +kernel, by decide +kernel⟩
theorem ok_source (D : Dn K mg "_law_source" (top 42)) (B : Bl mg) : Has P w K mg base CX0 1 "_law_source" ["_law_script", "_law_place"] (spSource T K) := by
  refine D.has0 sc_source (fun vs H Q E h => ?_) (fun _ _ _ _ _ _ us hl => match us, hl with | [_, _], _ => rfl) (fun f cdv A outer s H vs Q E hr h => ?_)
  · obtain ⟨a, ns, i, rfl, _⟩ := h
    rfl
  obtain ⟨a, ns, i, rfl, sq, hn, h0, h63, q⟩ := h
  refine ⟨_, pss_cons (ps_set (i := 2) sc_source.nd rfl (.inl rfl) (pe_ifExp (pt_cmpR op_lt (pv 1) (pe_callB call_len_seq rfl B.len PySem.boot_len (pa_cons (pv 0) pa_nil)) (nomark _)) (pe_ix ix_list (pv 0) (pv 1) (fun _ _ => rfl)) pe_int))
    (pss_cons (ps_set (i := 3) sc_source.nd rfl (.inl rfl) (pe_ifExp (pt_cmpR op_ge (pe_callB call_abs rfl B.abs (by decide +kernel) (pa_cons (pv 2) pa_nil)) (pe_op op_pow pe_int pe_int) (nomark _)) (pe_callB call_abs rfl B.abs (by decide +kernel) (pa_cons (pv 2) pa_nil)) pe_int))
    (pss_one (ps_ret (pe_lst (pa_cons (pv 3) (pa_cons (pe_op op_add (pe_op op_add (pe_op op_mod (pe_callTy call_int1 rfl B.int (by decide +kernel) (pa_cons (pv 2) pa_nil)) pe_int) (pe_op op_mul pe_int (pv 1))) pe_int) (pa_cons pe_int pa_nil))))))), ?_⟩
  have done : ∀ (x y : Int) (p : Addr), 0 ≤ y → H p = none → Q (.ref p) (upd H p (.lst [.int y, .int (x % 2305843009213693907 + 1299709 * i + 37), .int 0])) := fun x y p hy hp => by
    have x1 : 0 ≤ x % 2305843009213693907 := Int.emod_nonneg _ (by decide)
    have x2 : x % 2305843009213693907 < 2305843009213693907 := Int.emod_lt_of_pos _ (by decide)
    exact q p _ (fun L lt => lt.notin hp) (Ex.new hp _) ⟨y, _, 0, upd_same, hy, by omega, by omega, Int.le_refl _, Int.le_refl _⟩
  have ab : ∀ x : Int, 0 ≤ (if x < 0 then -x else x) := fun x => by split <;> omega
  refine ⟨_, rfl, _, rfl, a, _, rfl, .inl sq, i, _, rfl, rfl, _, rfl, ite2 (fun c => ?_) (fun c => ?_)⟩
  · have hlt : i < (ns.map V.int).length := of_decide_eq_true c
    rw [List.length_map] at hlt
    have hi : i.toNat < ns.length := by omega
    have hat : atI (ns.map V.int) i = some (.int ns[i.toNat]) := by
      have := atI_nat (show (ns.map V.int)[i.toNat]? = some (.int ns[i.toNat]) by rw [List.getElem?_map, List.getElem?_eq_getElem hi]; rfl)
      rwa [show ((i.toNat : Nat) : Int) = i from by omega] at this
    refine ⟨_, rfl, _, rfl, a, _, i, _, rfl, rfl, sq, hat, ?_⟩
    refine ⟨_, rfl, _, rfl, 10, 18, rfl, rfl, ⟨by decide, by decide, by decide⟩, _, _, rfl, rfl, _, rfl, ite2 (fun c => ⟨_, rfl, _, rfl, ?_⟩) (fun c => ?_)⟩
    · exact ⟨_, rfl, _, rfl, .inl ⟨_, rfl, _, _, rfl, rfl, (by show (0 : Int) < 2305843009213693907; decide), _, rfl, _, _, rfl, rfl, .inl ⟨by decide, by decide⟩, _, _, rfl, rfl, _, _, rfl, rfl, by show 3 ≤ sizeLine; decide, fun p hp => done _ _ p (ab _) hp⟩⟩
    · exact ⟨_, rfl, _, rfl, .inl ⟨_, rfl, _, _, rfl, rfl, (by show (0 : Int) < 2305843009213693907; decide), _, rfl, _, _, rfl, rfl, .inl ⟨by decide, by decide⟩, _, _, rfl, rfl, _, _, rfl, rfl, by show 3 ≤ sizeLine; decide, fun p hp => done _ _ p (Int.le_refl _) hp⟩⟩
  · refine ⟨_, rfl, _, rfl, 10, 18, rfl, rfl, ⟨by decide, by decide, by decide⟩, _, _, rfl, rfl, _, rfl, ite2 (fun c => ⟨_, rfl, _, rfl, ?_⟩) (fun c => ?_)⟩
    · exact ⟨_, rfl, _, rfl, .inl ⟨_, rfl, _, _, rfl, rfl, (by show (0 : Int) < 2305843009213693907; decide), _, rfl, _, _, rfl, rfl, .inl ⟨by decide, by decide⟩, _, _, rfl, rfl, _, _, rfl, rfl, by show 3 ≤ sizeLine; decide, fun p hp => done _ _ p (ab _) hp⟩⟩
    · exact ⟨_, rfl, _, rfl, .inl ⟨_, rfl, _, _, rfl, rfl, (by show (0 : Int) < 2305843009213693907; decide), _, rfl, _, _, rfl, rfl, .inl ⟨by decide, by decide⟩, _, _, rfl, rfl, _, _, rfl, rfl, by show 3 ≤ sizeLine; decide, fun p hp => done _ _ p (Int.le_refl _) hp⟩⟩
/-! ### _law_passage -/
theorem sub_mem {l l' : List Str} {z : Str} (h : ∀ x ∈ l, x ∈ l') (m : z ∈ l) : z ∈ l' := h z m
theorem opt_pick {σ : L2.St} {H : Hp} {Q : V → Hp → Prop} {D : Addr} {ds : List Int} {a b c d : Str} {k : Int} (h1 : σ[1]? = some (some (.ref D))) (hD : H D = some (.lst (ds.map V.int))) (hl : ds.length = 10) (hall : ∀ j ∈ ds, 0 ≤ j ∧ j < 4) (k0 : 0 ≤ k) (k1 : k < 10)
    (q : ∀ z H', z ∈ [a, b, c, d] → Ex T [] H H' → Q (.str z) H') : tOp (rIxL K) (tLst (tCons (tC (.str a)) (tCons (tC (.str b)) (tCons (tC (.str c)) (tCons (tC (.str d)) tNil))))) (tOp (rIxL K) (tVar 1) (tC (.int k))) σ H Q := by
  refine ⟨by show 4 ≤ sizeLine; decide, fun p hp => ?_⟩
  have e1 : Ex T [] H (upd H p (.lst [.str a, .str b, .str c, .str d])) := Ex.new hp _
  have hk : k.toNat < ds.length := by omega
  have hat : atI (ds.map V.int) k = some (.int ds[k.toNat]) := by
    have := atI_nat (show (ds.map V.int)[k.toNat]? = some (.int ds[k.toNat]) by rw [List.getElem?_map, List.getElem?_eq_getElem hk]; rfl)
    rwa [show ((k.toNat : Nat) : Int) = k from by omega] at this
  obtain ⟨j0, j4⟩ := hall _ (List.getElem_mem hk)
  refine ⟨_, h1, D, _, k, _, rfl, rfl, SqL.of (e1.lst hD), hat, ?_⟩
  obtain ⟨x, hx, hat2⟩ := at_mem (xs := [.str a, .str b, .str c, .str d]) j0 j4
  refine ⟨p, _, _, x, rfl, rfl, SqL.of upd_same, hat2, ?_⟩
  obtain ⟨z, rfl, hz⟩ : ∃ z, x = .str z ∧ z ∈ [a, b, c, d] := by
    simp only [List.mem_cons, List.not_mem_nil, or_false] at hx
    rcases hx with h | h | h | h
    · exact ⟨_, h, by simp⟩
    · exact ⟨_, h, by simp⟩
    · exact ⟨_, h, by simp⟩
    · exact ⟨_, h, by simp⟩
  exact q z _ hz e1
def spLPas (T : Tb) (CP : Addr) : Sp := fun vs H Q _ => ∃ (S : Addr) (m : Nat), vs = [.ref S] ∧ SrcAt H S m ∧ m + 10 < 1000000 ∧ ∀ p o H', OkO o → PasAt CP o H' p → Ex T [S] H H' → SrcAt H' S (m + 10) → Q (.ref p) H'
abbrev nLP : List Str := ["_law_source_here", "_law_some", "_law_turn"]
theorem sc_lpas : FnScope nLP ["_law_source_here"] (defScope (top 56)) := ⟨rfl, rfl, rfl, by decide +kernel, rfl, by decide +kernel, by decide +kernel⟩
theorem ten_comp {H : Hp} {D S : Addr} {m : Nat} {x1 : Option V} {Qd : Hp → Prop} (hs : SrcAt H S m) (hm : m + 10 < 1000000) (hD : H D = none) (hq : ∀ (Hi : Hp) (ds : List Int), Ex T [S] H Hi → SrcAt Hi S (m + 10) → Hi D = some (.lst (ds.map V.int)) → ds.length = 10 → (∀ j ∈ ds, 0 ≤ j ∧ j < 4) → Qd Hi) :
    LcW (Itr 0 (10 : Int).toNat) (gName 2) tYes (tCall (spDraw T) [] E0 (tCons (tVar 0) (tCons (tC (.int 4)) tNil))) [2] [some (.ref S), x1, none] H D Qd := by
  have DS : D ≠ S := fun z => by
    obtain ⟨a, b, c, e', _⟩ := hs
    rw [← z, hD] at e'
    cases e'
  have e0 : Ex T [S] H (upd H D (.lst [])) := Ex.new hD _
  refine lcw_it (walk_range (lo := 0) (n := (10 : Int).toNat)) (fun i Hi => ∃ ds : List Int, Ex T [S] H Hi ∧ SrcAt Hi S (m + i) ∧ Hi D = some (.lst (ds.map V.int)) ∧ ds.length = i ∧ ∀ j ∈ ds, 0 ≤ j ∧ j < 4) ⟨[], e0, hs.ex (Ex.new (T := T) hD _), upd_same, rfl, fun j hj => by cases hj⟩ (fun _ _ _ _ => trivial) ?_ ?_
  · rintro i x Hi0 Hi hi ⟨ds, e, s1, ha, hlen, hall⟩ ⟨rfl, rfl⟩
    have hi' : i < 10 := hi
    refine ⟨rfl, draw_lit rfl s1 (by omega) (by decide) (by decide) fun d H1 e1 hs1 d0 d1 => ?_⟩
    have ha1 := e1.lstS ha DS
    refine ⟨_, ha1, lt1000 (by rw [List.length_map]; omega), ds ++ [d], (e.trans e1).grow hD ha1 _, ?_, by rw [upd_same, List.map_append]; rfl, by rw [List.length_append, hlen]; rfl, fun j hj => ?_⟩
    · obtain ⟨a, b, c, e', h'⟩ := hs1
      exact ⟨a, b, c, by rw [upd_ne (Ne.symm DS)]; exact e', h'⟩
    · rcases List.mem_append.mp hj with z | z
      · exact hall j z
      · rw [List.mem_singleton.mp z]; exact ⟨d0, d1⟩
  · rintro Hi ⟨ds, e, s1, ha, hlen, hall⟩
    exact hq Hi ds e s1 ha hlen hall
theorem ok_lpas (D : Dn K mg "_law_passage" (top 56)) (B : Bl mg) (hgP : mg "Passage" = some (.ref CP)) (hP : HasP P w K mg base T CP) (hD : Has P w K mg base CX0 1 "_law_draw" ["_law_source_here", "_law_many"] (spDraw T)) : Has P w K mg base CX0 5 "_law_passage" ["_law_source_here"] (spLPas T CP) := by
  obtain ⟨fd, fdd, hmd, kpd, bd, Gd⟩ := hD.ex
  obtain ⟨fp, fdp, mv, MK, k1, k2, Gp⟩ := hP.ex
  refine D.has0 sc_lpas (fun vs H Q E h => ?_) (fun _ _ _ _ _ _ us hl => match us, hl with | [_], _ => rfl) (fun f cdv A outer s H vs Q E hr h => ?_)
  · obtain ⟨S, m, rfl, _⟩ := h
    rfl
  obtain ⟨S, m, rfl, hs, hm, q⟩ := h
  have hr1 := hr.mono (j := 1) (by omega)
  refine ⟨_, pss_cons (ps_setLc (i := 1) (own := [("_law_turn", 2)]) (g := gName 2) (tt := tYes) rfl sc_lpas.nd rfl rfl (sw_true rfl rfl rfl rfl) (pi_range1 rfl B.range (pa_cons pe_int pa_nil)) (blkOk_by (N := nLP) (sc := defScope (top 56)) (by decide +kernel)) (fun _ _ _ _ _ => pg_name (i := 2) sc_lpas.nd rfl (Or.inl rfl)) (fun _ _ _ _ _ => pts_nil)
      (fun _ _ _ _ _ => pe_call Gd hr1 rfl hmd kpd bd .nil pass0 (pa_cons (pv 0) (pa_cons pe_int pa_nil))))
    (pss_one (ps_ret (pe_makeK0 MK Gp hr rfl hgP k1 pass0
      (pk_cons (pe_ix ix_list (pe_lst (pa_cons pe_str (pa_cons pe_str (pa_cons pe_str (pa_cons pe_str pa_nil))))) (pe_ix ix_list (pv 1) pe_int (fun _ _ => rfl)) (fun _ _ => rfl))
      (pk_cons (pe_ix ix_list (pe_lst (pa_cons pe_str (pa_cons pe_str (pa_cons pe_str (pa_cons pe_str pa_nil))))) (pe_ix ix_list (pv 1) pe_int (fun _ _ => rfl)) (fun _ _ => rfl))
      (pk_cons (pe_ix ix_list (pe_lst (pa_cons pe_str (pa_cons pe_str (pa_cons pe_str (pa_cons pe_str pa_nil))))) (pe_ix ix_list (pv 1) pe_int (fun _ _ => rfl)) (fun _ _ => rfl))
      (pk_cons (pe_ix ix_list (pe_lst (pa_cons pe_str (pa_cons pe_str (pa_cons pe_str (pa_cons pe_str pa_nil))))) (pe_ix ix_list (pv 1) pe_int (fun _ _ => rfl)) (fun _ _ => rfl))
      (pk_cons (pe_ix ix_list (pe_lst (pa_cons pe_str (pa_cons pe_str (pa_cons pe_str (pa_cons pe_str pa_nil))))) (pe_ix ix_list (pv 1) pe_int (fun _ _ => rfl)) (fun _ _ => rfl))
      (pk_cons (pe_ix ix_list (pe_lst (pa_cons pe_str (pa_cons pe_str (pa_cons pe_str (pa_cons pe_str pa_nil))))) (pe_ix ix_list (pv 1) pe_int (fun _ _ => rfl)) (fun _ _ => rfl))
      (pk_cons (pe_ix ix_list (pe_lst (pa_cons pe_str (pa_cons pe_str (pa_cons pe_str (pa_cons pe_str pa_nil))))) (pe_ix ix_list (pv 1) pe_int (fun _ _ => rfl)) (fun _ _ => rfl))
      (pk_cons (pe_ix ix_list (pe_lst (pa_cons pe_str (pa_cons pe_str (pa_cons pe_str (pa_cons pe_str pa_nil))))) (pe_ix ix_list (pv 1) pe_int (fun _ _ => rfl)) (fun _ _ => rfl))
      (pk_cons (pe_ix ix_list (pe_lst (pa_cons pe_str (pa_cons pe_str (pa_cons pe_str (pa_cons pe_str pa_nil))))) (pe_ix ix_list (pv 1) pe_int (fun _ _ => rfl)) (fun _ _ => rfl))
      (pk_cons (pe_ix ix_list (pe_lst (pa_cons pe_str (pa_cons pe_str (pa_cons pe_str (pa_cons pe_str pa_nil))))) (pe_ix ix_list (pv 1) pe_int (fun _ _ => rfl)) (fun _ _ => rfl))
      pk_nil))))))))))))), ?_⟩
  refine ⟨10, rfl, by decide, by decide, fun Dc hDc => ten_comp (T := T) hs hm hDc fun Hi ds e1 hs1 hDi hl hall => ?_⟩
  refine opt_pick (T := T) rfl hDi hl hall (by decide) (by decide) fun z0 H1 m0 f1 => ?_
  have g1 := e1.trans f1.of0
  refine opt_pick (T := T) rfl (f1.lst hDi) hl hall (by decide) (by decide) fun z1 H2 m1 f2 => ?_
  have f2 := f1.trans f2
  refine opt_pick (T := T) rfl (f2.lst hDi) hl hall (by decide) (by decide) fun z2 H3 m2 f3 => ?_
  have f3 := f2.trans f3
  refine opt_pick (T := T) rfl (f3.lst hDi) hl hall (by decide) (by decide) fun z3 H4 m3 f4 => ?_
  have f4 := f3.trans f4
  refine opt_pick (T := T) rfl (f4.lst hDi) hl hall (by decide) (by decide) fun z4 H5 m4 f5 => ?_
  have f5 := f4.trans f5
  refine opt_pick (T := T) rfl (f5.lst hDi) hl hall (by decide) (by decide) fun z5 H6 m5 f6 => ?_
  have f6 := f5.trans f6
  refine opt_pick (T := T) rfl (f6.lst hDi) hl hall (by decide) (by decide) fun z6 H7 m6 f7 => ?_
  have f7 := f6.trans f7
  refine opt_pick (T := T) rfl (f7.lst hDi) hl hall (by decide) (by decide) fun z7 H8 m7 f8 => ?_
  have f8 := f7.trans f8
  refine opt_pick (T := T) rfl (f8.lst hDi) hl hall (by decide) (by decide) fun z8 H9 m8 f9 => ?_
  have f9 := f8.trans f9
  refine opt_pick (T := T) rfl (f9.lst hDi) hl hall (by decide) (by decide) fun z9 HA m9 fA => ?_
  have fA := f9.trans fA
  refine ⟨rfl, rfl, fun x dx nx ndx nex => ⟨x, dx, ⟨z0, z1, z2, z3, z4, z5, z6, z7, z8, z9⟩, rfl, ?_, upd_same, fun H' e5 hp => ⟨rfl, ?_⟩⟩⟩
  · exact ⟨sub_mem (by decide +kernel) m0, sub_mem (by decide +kernel) m1, sub_mem (by decide +kernel) m2, sub_mem (by decide +kernel) m3, sub_mem (by decide +kernel) m4, sub_mem (by decide +kernel) m5, sub_mem (by decide +kernel) m6, sub_mem (by decide +kernel) m7, sub_mem (by decide +kernel) m8, sub_mem (by decide +kernel) m9⟩
  · have e6 : Ex T [] HA H' := Ex.made nx ndx e5
    have e7 := fA.trans e6
    exact q x _ H' ⟨sub_mem (by decide +kernel) m0, sub_mem (by decide +kernel) m1, sub_mem (by decide +kernel) m2, sub_mem (by decide +kernel) m3, sub_mem (by decide +kernel) m4, sub_mem (by decide +kernel) m5, sub_mem (by decide +kernel) m6, sub_mem (by decide +kernel) m7, sub_mem (by decide +kernel) m8, sub_mem (by decide +kernel) m9⟩ ⟨dx, hp⟩ (e1.trans e7.of0) (hs1.ex e7)
/-! ### _law_making -/
def spMaking (T : Tb) (CP : Addr) : Sp := fun vs H Q _ => ∃ (S p : Addr) (o : Opt) (m : Nat), vs = [.ref S, .ref p] ∧ SrcAt H S m ∧ m + 1 < 1000000 ∧ OkO o ∧ PasAt CP o H p ∧ ∀ p' o' H', OkO o' → PasAt CP o' H' p' → Ex T [S] H H' → SrcAt H' S (m + 1) → Q (.ref p') H'
abbrev nMk : List Str := ["_law_source_here", "_law_passage_here", "_law_road"]
theorem sc_making : FnScope nMk ["_law_source_here", "_law_passage_here"] (defScope (top 57)) := ⟨rfl, rfl, rfl, by decide +kernel, rfl, by decide +kernel, by decide +kernel⟩
theorem two_pick {σ : L2.St} {H : Hp} {Q : V → Hp → Prop} {a b : Str} {d : Int} {i : Nat} (h1 : σ[i]? = some (some (.int d))) (d0 : 2 ≤ d) (d1 : d < 4)
    (q : ∀ z H', z ∈ [a, b] → Ex T [] H H' → Q (.str z) H') : tOp (rIxL K) (tLst (tCons (tC (.str a)) (tCons (tC (.str b)) tNil))) (tOp (rI0 fun i j => .int (i - j)) (tVar i) (tC (.int 2))) σ H Q := by
  refine ⟨by show 2 ≤ sizeLine; decide, fun p hp => ?_⟩
  obtain ⟨x, hx, hat2⟩ := at_mem (xs := [.str a, .str b]) (d := d - 2) (by omega) (by show d - 2 < 2; omega)
  refine ⟨_, h1, d, 2, rfl, rfl, p, _, _, x, rfl, rfl, SqL.of upd_same, hat2, ?_⟩
  obtain ⟨z, rfl, hz⟩ : ∃ z, x = .str z ∧ z ∈ [a, b] := by
    simp only [List.mem_cons, List.not_mem_nil, or_false] at hx
    rcases hx with h | h
    · exact ⟨_, h, by simp⟩
    · exact ⟨_, h, by simp⟩
  exact q z _ hz (Ex.new hp _)
theorem PF.no {CP : Addr} (F : PF K CP) {f : Str} (h : optNames.elem f = true) : NoAttr K CP f := F.na f (List.elem_iff.mp h)
theorem ok_making (D : Dn K mg "_law_making" (top 57)) (B : Bl mg) (F : PF K CP) (hgP : mg "Passage" = some (.ref CP)) (hP : HasP P w K mg base T CP) (hD : Has P w K mg base CX0 1 "_law_draw" ["_law_source_here", "_law_many"] (spDraw T)) : Has P w K mg base CX0 5 "_law_making" ["_law_source_here", "_law_passage_here"] (spMaking T CP) := by
  obtain ⟨fd, fdd, hmd, kpd, bd, Gd⟩ := hD.ex
  obtain ⟨fp, fdp, mv, MK, k1, k2, Gp⟩ := hP.ex
  refine D.has0 sc_making (fun vs H Q E h => ?_) (fun _ _ _ _ _ _ us hl => match us, hl with | [_, _], _ => rfl) (fun f cdv A outer s H vs Q E hr h => ?_)
  · obtain ⟨S, p, o, m, rfl, _⟩ := h
    rfl
  obtain ⟨S, p, o, m, rfl, hs, hm, ok, ⟨dxp, hp⟩, q⟩ := h
  have hr1 := hr.mono (j := 1) (by omega)
  refine ⟨_, pss_cons (ps_set (i := 2) sc_making.nd rfl (.inl rfl) (pe_call Gd hr1 rfl hmd kpd bd .nil pass0 (pa_cons (pv 0) (pa_cons pe_int pa_nil))))
    (pss_cons (ps_if (pt_cmpR op_lt (pv 2) pe_int (nomark _)) (pss_one (ps_ret (pv 1))) pss_nil)
    (pss_one (ps_ret (pe_makeK0 MK Gp hr rfl hgP k2 pass0
      (pk_cons (pe_fld (pv 1) rfl) (pk_cons (pe_fld (pv 1) rfl)
      (pk_cons (pe_ix ix_list (pe_lst (pa_cons pe_str (pa_cons pe_str pa_nil))) (pe_op op_sub (pv 2) pe_int) (fun _ _ => rfl))
      (pk_cons (pe_ix ix_list (pe_lst (pa_cons pe_str (pa_cons pe_str pa_nil))) (pe_op op_sub (pv 2) pe_int) (fun _ _ => rfl))
      (pk_cons (pe_fld (pv 1) rfl) (pk_cons (pe_fld (pv 1) rfl) pk_nil)))))))))), ?_⟩
  refine draw_lit rfl hs (by omega) (by decide) (by decide) fun d H1 e1 hs1 d0 d1 => ?_
  have pS : p ≠ S := fun z => by
    obtain ⟨a, b, c, e', _⟩ := hs
    rw [z, e'] at hp
    cases hp
  have hp1 : H1 p = some (.ins CP dxp (pasF o)) := e1.ke p _ (by simpa using pS) hp (fun _ y => nomatch y)
  refine ⟨_, rfl, d, 2, rfl, rfl, _, rfl, ite2 (fun c => ⟨_, rfl, q p o H1 ok ⟨dxp, hp1⟩ e1 hs1⟩) (fun c => ?_)⟩
  have c' : 2 ≤ d := by
    have : ¬ d < 2 := fun z => c (decide_eq_true z)
    omega
  refine ⟨_, rfl, p, CP, dxp, _, _, rfl, hp1, F.cl, F.no (by decide +kernel), rfl, _, rfl, p, CP, dxp, _, _, rfl, hp1, F.cl, F.no (by decide +kernel), rfl, ?_⟩
  refine two_pick (T := T) rfl c' d1 fun z1 H2 m1 f2 => ?_
  refine two_pick (T := T) rfl c' d1 fun z2 H3 m2 f3 => ?_
  have f3 := f2.trans f3
  have hp3 := f3.ins hp1
  refine ⟨_, rfl, p, CP, dxp, _, _, rfl, hp3, F.cl, F.no (by decide +kernel), rfl, _, rfl, p, CP, dxp, _, _, rfl, hp3, F.cl, F.no (by decide +kernel), rfl, ?_⟩
  have ok' : OkO ⟨o.nk, o.tu, "keep", "keep", o.od, "keep", o.sk, z1, z2, "keep"⟩ := ⟨ok.nk, ok.tu, List.mem_cons_self, List.mem_cons_self, ok.od, List.mem_cons_self, ok.sk, m1, sub_mem (by decide +kernel) m2, List.mem_cons_self⟩
  refine ⟨rfl, rfl, fun x dx nx ndx nex => ⟨x, dx, ⟨o.nk, o.tu, "keep", "keep", o.od, "keep", o.sk, z1, z2, "keep"⟩, rfl, ok', upd_same, fun H' e5 hp' => ⟨rfl, ?_⟩⟩⟩
  have e6 : Ex T [] H3 H' := Ex.made nx ndx e5
  have e7 := f3.trans e6
  exact q x _ H' ok' ⟨dx, hp'⟩ (e1.trans e7.of0) (hs1.ex e7)
end
end K86
/-! K86Changes: _law_changes. -/
namespace K86
open PySem PySem.Spec PyProof.Rows L2 HotX L2H
section
variable {P : Program} {w : World} {K : PySem.W.Frag} {mg : Str → Option Value} {base : Heap} {CT CP CR : Addr} {T : Tb}
def spChanges (T : Tb) (CT CP : Addr) (n : Nat) : Sp := fun vs H Q _ => ∃ (p : Addr) (o : Opt) (x : V) (v : PV), vs = [.ref p, x] ∧ PasAt CP o H p ∧ Rep CT [] n H v x ∧ okV n v ∧ LamX.Tabs T H ∧ ∀ b H', Ex T [] H H' → (b = true ↔ changesM o n v) → Q (.bl b) H'
abbrev nLCh : List Str := ["_law_passage_here", "_law_value_here", "_law_once", "_law_twice"]
theorem sc_changes : FnScope nLCh ["_law_passage_here", "_law_value_here"] (defScope (top 58)) := ⟨rfl, rfl, rfl, by decide +kernel, rfl, by decide +kernel, by decide +kernel⟩
theorem ok_changes (D : Dn K mg "_law_changes" (top 58)) (F : PF K CP) (FR : XF K mg CR "Refused" "Refused.__init__" (inClass (top 11) 0)) {n k : Nat} (hk2 : 2 * (n + 1) + 2 ≤ k) (hS : HasS P w K mg base T CT (n + 1)) (hC : HasM P w K mg base (L2.CX P w) k CP "carry" ["self", "value"] (spCarry T CT CP CR n)) : Has P w K mg base CX0 (k + 1) "_law_changes" ["_law_passage_here", "_law_value_here"] (spChanges T CT CP n) := by
  obtain ⟨f1, fd1, m1, b1, G1⟩ := hC.ex
  obtain ⟨fs, fds, hms, kps, bs, Gs⟩ := hS.ex
  refine D.has0 sc_changes (fun vs H Q E h => ?_) (fun _ _ _ _ _ _ us hl => match us, hl with | [_, _], _ => rfl) (fun f cdv A outer s H vs Q E hr h => ?_)
  · obtain ⟨p, o, x, v, rfl, _⟩ := h
    rfl
  obtain ⟨p, o, x, v, rfl, hp, rp, ov, hTb, q⟩ := h
  have hrS := hr.mono (j := 2 * (n + 1) + 2) (by omega)
  refine ⟨_, pss_cons (ps_par (i := 2) (j := 3) (by rfl) sc_changes.nd rfl rfl (by decide) rfl rfl (pa_cons (pe_lst pa_nil) (pa_cons (pe_lst pa_nil) pa_nil)) (by rfl))
    (pss_cons (ps_try_only (tb := fun W => tDrop (tBM K "list" rAppend (tVar 2) (tCons (tMethP CP "carry" (spCarry T CT CP CR n) (WE W) (tVar 0) (tCons (tVar 1) tNil)) tNil))) (ts := fun _ _ _ => tAsg (tLst tNil) (gName 2)) (Wout := fun _ _ _ _ => False) rfl rfl ⟨rfl, by decide, Or.inl FR.gl⟩ takes0
      (fun W pn xe tk _ => pss_one (ps_expr (pe_bm PySem.F.plainAttrs_list PySem.F.slot_list_append PySem.F.type_list_append mt_append (pv 2) (pa_cons (by exact pe_methP (pv 0) F.cl m1 G1 hr b1 (fun σ => L2.passAt tk σ) (pa_cons (pv 1) pa_nil)) pa_nil))))
      (fun a oe cls d pn _ _ => pss_one (ps_set (i := 2) sc_changes.nd rfl (.inl rfl) (pe_lst pa_nil))))
    (pss_cons (ps_if (pt_cmpR (op_eqNil hr.units) (pv 2) (pe_lst pa_nil) (nomark _)) (pss_one (ps_ret pe_bl)) pss_nil)
    (pss_cons (ps_try_only (tb := fun W => tDrop (tBM K "list" rAppend (tVar 3) (tCons (tMethP CP "carry" (spCarry T CT CP CR n) (WE W) (tVar 0) (tCons (tOp (rIxL K) (tVar 2) (tC (.int 0))) tNil)) tNil))) (ts := fun _ _ _ => tAsg (tLst tNil) (gName 3)) (Wout := fun _ _ _ _ => False) rfl rfl ⟨rfl, by decide, Or.inl FR.gl⟩ takes0
      (fun W pn xe tk _ => pss_one (ps_expr (pe_bm PySem.F.plainAttrs_list PySem.F.slot_list_append PySem.F.type_list_append mt_append (pv 3) (pa_cons (by exact pe_methP (pv 0) F.cl m1 G1 hr b1 (fun σ => L2.passAt tk σ) (pa_cons (pe_ix ix_list (pv 2) pe_int (fun _ _ => rfl)) pa_nil)) pa_nil))))
      (fun a oe cls d pn _ _ => pss_one (ps_set (i := 3) sc_changes.nd rfl (.inl rfl) (pe_lst pa_nil))))
    (pss_one (ps_ret (pe_not (pe_callN Gs hrS rfl hms kps bs pass0 (pa_cons (pv 2) (pa_cons (pv 3) pa_nil)) (pk_cons pe_bl pk_nil)))))))), ?_⟩
  refine ⟨by show 0 ≤ sizeLine; decide, fun l1 hl1 => ⟨by show 0 ≤ sizeLine; decide, fun l2 hl2 => ⟨_, _, rfl, ?_⟩⟩⟩
  have e0 : Ex T [] H (upd H l1 (.lst [])) := Ex.new hl1 _
  have e1 : Ex T [] H (upd (upd H l1 (.lst [])) l2 (.lst [])) := e0.then_new hl2 _
  have n12 : l1 ≠ l2 := ne_of_none upd_same hl2
  have hl2' : H l2 = none := by rw [upd_ne (Ne.symm n12)] at hl2; exact hl2
  have h11 : upd (upd H l1 (.lst [])) l2 (.lst []) l1 = some (.lst []) := by rw [upd_ne n12, upd_same]
  have h12 : upd (upd H l1 (.lst [])) l2 (.lst []) l2 = some (.lst []) := upd_same
  generalize upd (upd H l1 (.lst [])) l2 (.lst []) = H1 at *
  obtain ⟨dxp, hpi⟩ := hp.ex e1
  have lt1 : LT H1 [l1, l2] := (LT.nil.cons h12).cons h11
  refine ⟨_, rfl, .inl ⟨rfl, _, SqL.of h11⟩, _, rfl, p, dxp, _, rfl, hpi, rfl, _, rfl, p, o, x, v, [l1, l2], rfl, ⟨dxp, hpi⟩, lt1, rep_kee e1.kee rp, ov, e1.ta hTb, fun u hu y H2 e2 ry => ⟨l1, [], y, rfl, rfl, e2.lst h11, lt1000 (by decide), ?_⟩, fun hn d H2 e2 => ⟨true, FR.te, fun _ a ha => ?_, fun z => nomatch z⟩⟩
  · have ou : okV n u := okV_carry ov hu
    have hch : changesM o n v ↔ carryM o n u ≠ some u := ⟨fun ⟨w0, h1, h2⟩ => by rw [hu] at h1; cases h1; exact h2, fun h => ⟨u, hu, h⟩⟩
    have k3 : Kee [l1, l2] H2 (upd H2 l1 (.lst ([] ++ [y]))) := Kee.put List.mem_cons_self _
    have ry3 := rep_kee k3 ry
    have e3 : Ex T [] H (upd H2 l1 (.lst ([] ++ [y]))) := (e1.trans e2).grow hl1 (e2.lst h11) _
    have h31 : upd H2 l1 (.lst ([] ++ [y])) l1 = some (.lst [y]) := upd_same
    have h32 : upd H2 l1 (.lst ([] ++ [y])) l2 = some (.lst []) := by rw [upd_ne (Ne.symm n12)]; exact e2.lst h12
    generalize upd H2 l1 (.lst ([] ++ [y])) = H3 at *
    refine ⟨_, rfl, by show 0 ≤ sizeLine; decide, fun em hem => ⟨l1, em, [y], rfl, rfl, SqL.of (by rw [upd_ne (ne_of_none h31 hem)]; exact h31), SqL.of upd_same, _, rfl, iteF ?_⟩⟩
    have e34 : Ex T [] H3 (upd H3 em (.lst [])) := Ex.new hem _
    have e4 := e3.trans e34
    have h41 := e34.lst h31
    have h42 := e34.lst h32
    have ry4 := rep_kee e34.kee.of_nil ry3
    generalize upd H3 em (.lst []) = H4 at *
    have lt4 : LT H4 [l1, l2] := (LT.nil.cons h42).cons h41
    obtain ⟨dxp4, hpi4⟩ := hp.ex e4
    have oL : ∀ {w0 : PV}, okV n w0 → okV (n + 1) (.row false [w0]) := fun h => ⟨by simp, fun x hx => by rw [List.mem_singleton.mp hx]; exact h⟩
    refine ⟨_, rfl, .inl ⟨rfl, _, SqL.of h42⟩, _, rfl, p, dxp4, _, rfl, hpi4, rfl, _, rfl, l1, _, 0, y, rfl, rfl, SqL.of h41, atI_nat (j := 0) rfl, p, o, y, u, [l1, l2], rfl, ⟨dxp4, hpi4⟩, lt4, rep_less (fun b hb => by cases hb) ry4, ou, e4.ta hTb, fun u2 hu2 y2 H5 e5 ry5 => ⟨l2, [], y2, rfl, rfl, e5.lst h42, lt1000 (by decide), ?_⟩, fun hn2 d H5 e5 => ⟨true, FR.te, fun _ a ha => ⟨by show 0 ≤ sizeLine; decide, fun l3 hl3 => ?_⟩, fun z => nomatch z⟩⟩
    · have k6 : Kee [l1, l2] H5 (upd H5 l2 (.lst ([] ++ [y2]))) := Kee.put (List.mem_cons_of_mem _ List.mem_cons_self) _
      have e6 : Ex T [] H (upd H5 l2 (.lst ([] ++ [y2]))) := (e4.trans e5).grow hl2' (e5.lst h42) _
      have h61 : upd H5 l2 (.lst ([] ++ [y2])) l1 = some (.lst [y]) := by rw [upd_ne n12]; exact e5.lst h41
      have h62 : upd H5 l2 (.lst ([] ++ [y2])) l2 = some (.lst [y2]) := upd_same
      have ry6 := rep_kee k6 (rep_kee e5.kee.of_nil ry4)
      have rz6 := rep_kee k6 ry5
      generalize upd H5 l2 (.lst ([] ++ [y2])) = H6 at *
      refine ⟨_, rfl, _, rfl, rfl, rfl, .ref l1, .ref l2, .row false [u], .row false [u2], rfl, ?_, ?_, oL ou, oL (okV_carry ou hu2), fun bb H8 e8 hb => ⟨bb, rfl, q (!bb) H8 (e6.trans e8) ?_⟩⟩
      · unfold Rep
        exact ⟨l1, [y], rfl, by simp, h61, by simp, .cons (rep_less (fun b hb => by cases hb) ry6) .nil⟩
      · unfold Rep
        exact ⟨l2, [y2], rfl, by simp, h62, by simp, .cons (rep_less (fun b hb => by cases hb) rz6) .nil⟩
      · rw [hch, hu2]
        cases bb with
        | true =>
          have euu : u = u2 := by
            have := hb.mp rfl
            simpa using this
          exact ⟨(fun z => by cases z), fun z => absurd (by rw [euu]) z⟩
        | false => exact ⟨(fun _ z => by cases hb.mpr (by rw [Option.some.inj z])), fun _ => rfl⟩
    · have e56 : Ex T [] H5 (upd H5 l3 (.lst [])) := Ex.new hl3 _
      have e6 := (e4.trans e5).trans e56
      have h61 := (e5.trans e56).lst h41
      have ry6 := rep_kee (e5.trans e56).kee.of_nil ry4
      refine ⟨_, rfl, _, rfl, rfl, rfl, .ref l1, .ref l3, .row false [u], .row false [], rfl, ?_, ?_, oL ou, ⟨by decide, fun x hx => by cases hx⟩, fun bb H8 e8 hb => ⟨bb, rfl, q (!bb) H8 (e6.trans e8) ?_⟩⟩
      · unfold Rep
        exact ⟨l1, [y], rfl, by simp, h61, by simp, .cons (rep_less (fun b hb => by cases hb) ry6) .nil⟩
      · unfold Rep
        exact ⟨l3, [], rfl, by simp, upd_same, by decide, .nil⟩
      · rw [hch, hn2]
        cases bb with
        | true =>
          have := hb.mp rfl
          simp at this
        | false => exact ⟨fun _ z => (by cases z), fun _ => rfl⟩
  · refine ⟨by show 0 ≤ sizeLine; decide, fun l3 hl3 => ?_⟩
    have e3 := (e1.trans e2).then_new hl3 (.lst [])
    refine ⟨_, rfl, by show 0 ≤ sizeLine; decide, fun em hem => ⟨l3, em, [], rfl, rfl, SqL.of (by rw [upd_ne (ne_of_none upd_same hem), upd_same]), SqL.of upd_same, _, rfl, iteT (q false _ (e3.then_new hem _) ⟨(fun z => by cases z), fun ⟨w0, h1, _⟩ => by rw [hn] at h1; cases h1⟩)⟩⟩
end
end K86
/-! K86Law: law. -/
namespace K86
open PySem PySem.Spec PyProof.Rows L2
theorem Ex.dropF {T : Tb} {L : List Addr} {H H1 H' : Hp} (h : ∀ L', LT H L' → ∀ b ∈ L, b ∉ L') (a : Ex T [] H H1) (b : Ex T L H1 H') : Ex T [] H H' :=
  ⟨fun c o _ q n => b.ke c o (fun hc => h [c] (fun b' hb' => ⟨o, by rw [List.mem_singleton.mp hb']; exact q, n⟩) c hc List.mem_cons_self) (a.ke c o (fun z => nomatch z) q n) n, fun t => b.ta (a.ta t)⟩
theorem parts_pos (v : PV) : 1 ≤ partsV v := by
  cases v <;> simp [partsV]
section
variable {P : Program} {w : World} {K : PySem.W.Frag} {mg : Str → Option Value} {base : Heap} {CT CP CR : Addr} {T : Tb}
def spLaw (T : Tb) (K : PySem.W.Frag) : Sp := fun vs H Q _ => ∃ (a : Addr) (ns : List Int), vs = [.ref a] ∧ SqL K H a (ns.map V.int) ∧ ns.length ≤ 63 ∧ LamX.Tabs T H ∧ ∀ H', Q (.bl true) H'
/-- what unsettled found -/
def Fd (CT : Addr) (o : Opt) (H : Hp) (y : V) : Prop := (y = .non ∧ ¬ changesM o 4 probe0 ∧ ¬ changesM o 4 probe1) ∨ ∃ pf, Rep CT [] 4 H pf y ∧ isNon pf = false ∧ (partsV pf ≤ 1 ∨ (partsV pf ≤ 2 ∧ ¬ changesM o 4 probe0))
abbrev nLw : List Str := ["_law_script", "_law_place", "_law_source_here", "_law_keys", "_law_atoms_here", "_law_passage_here", "_law_found", "_law_at", "_law_value_here"]
theorem sc_law : FnScope nLw ["_law_script"] (defScope (top 59)) := ⟨rfl, rfl, rfl, by decide +kernel, rfl, by decide +kernel, by decide +kernel⟩
/-- a def of the module, at the function object itself -/
theorem fn0 {x : Str} {st : Stmt} {N ps : List Str} {k : Nat} {sp : Sp} {kws : List (Str × V)} {f : Addr} {fd : FuncData} (F : FunD K x x (defArgs st) (defBody st) (defScope st) [] kws f fd) (S : FnScope N ps (defScope st)) (len : ∀ vs H Q E, sp vs H Q E → vs.length = ps.length)
    (hbody : ∀ (f : Addr) (cdv : Value) (A : Around) (outer : List Env) (s : Shared) (H : Hp) (vs : List V) (Q : VK) (E : XK), Room k (A.deeper (envOfC x (defScope st) s.heap.objs.size f cdv)) → sp vs H Q E →
      ∃ t, PSs (cxOf CX0 P w K mg base N x (defScope st) f cdv A outer s H E).nox (defBody st) t ∧ t { nx := fun _ H' => Q .non H', rt := Q } (start N vs) H) : FnOk P w K mg base CX0 (k + 1) f fd ps sp := by
  refine F.ok S len fun cdv A outer s H vs Q E hr hsp => ?_
  obtain ⟨t, h, q⟩ := hbody f cdv A outer s H vs Q E hr hsp
  exact ⟨t, h.nox, q⟩
theorem ok_law {fL : Addr} {fdL : FuncData} (D : FunD K "law" "law" (defArgs (top 59)) (defBody (top 59)) (defScope (top 59)) [] [] fL fdL) (B : Bl mg) {k kc : Nat} (hk : 19 ≤ k) (hkc : kc ≤ k)
    (hA : ∀ o v, OkO o → okV 4 v → ¬ changesM o 4 probe0 → ¬ changesM o 4 probe1 → ¬ changesM o 4 v) (hB : ∀ o v, OkO o → okV 4 v → ¬ changesM o 4 probe0 → partsV v = 1 → ¬ changesM o 4 v)
    (hSo : Has P w K mg base CX0 1 "_law_source" ["_law_script", "_law_place"] (spSource T K)) (hFo : Has P w K mg base CX0 4 "_law_focus" ["_law_source_here"] (spFocus T)) (hAt : Has P w K mg base CX0 3 "_law_atoms" ["_law_source_here"] (spAtoms T))
    (hLp : Has P w K mg base CX0 5 "_law_passage" ["_law_source_here"] (spLPas T CP)) (hMk : Has P w K mg base CX0 5 "_law_making" ["_law_source_here", "_law_passage_here"] (spMaking T CP)) (hUn : Has P w K mg base CX0 k "unsettled" ["passage"] (spUns T CT CP 4))
    (hCh : Has P w K mg base CX0 kc "_law_changes" ["_law_passage_here", "_law_value_here"] (spChanges T CT CP 4)) (hTw : Has P w K mg base CX0 2 "_law_twins" ["_law_keys"] (spTwins T)) (hVa : Has P w K mg base CX0 12 "_law_value" psV (spVal T CT 4)) (hPa : Has P w K mg base CX0 7 "_law_parts" ["_law_value_here"] (spParts T CT 4)) :
    FnOk P w K mg base CX0 (k + 1) fL fdL ["_law_script"] (spLaw T K) := by
  obtain ⟨f1, fd1, m1, k1, b1, Gso⟩ := hSo.ex
  obtain ⟨f2, fd2, m2, k2, b2, Gfo⟩ := hFo.ex
  obtain ⟨f3, fd3, m3, k3, b3, Gat⟩ := hAt.ex
  obtain ⟨f4, fd4, m4, k4, b4, Glp⟩ := hLp.ex
  obtain ⟨f5, fd5, m5, k5, b5, Gmk⟩ := hMk.ex
  obtain ⟨f6, fd6, m6, k6, b6, Gun⟩ := hUn.ex
  obtain ⟨f7, fd7, m7, k7, b7, Gch⟩ := hCh.ex
  obtain ⟨f8, fd8, m8, k8, b8, Gtw⟩ := hTw.ex
  obtain ⟨f9, fd9, m9, k9, b9, Gva⟩ := hVa.ex
  obtain ⟨fA, fdA, mA, kA, bA, Gpa⟩ := hPa.ex
  refine fn0 D sc_law (fun vs H Q E h => ?_) (fun f cdv A outer s H vs Q E hr h => ?_)
  · obtain ⟨a, ns, rfl, _⟩ := h
    rfl
  obtain ⟨a, ns, rfl, sq, hn, hTb, q⟩ := h
  have r1 := hr.mono (j := 1) (by omega)
  have r2 := hr.mono (j := 2) (by omega)
  have r3 := hr.mono (j := 3) (by omega)
  have r4 := hr.mono (j := 4) (by omega)
  have r5 := hr.mono (j := 5) (by omega)
  have r7 := hr.mono (j := 7) (by omega)
  have r12 := hr.mono (j := 12) (by omega)
  have rc := hr.mono hkc
  refine ⟨_, pss_cons (ps_for PassesOwn.never rfl (pi_range1 rfl B.range (pa_cons (pe_callB (call_max2 rfl) rfl B.max (by decide +kernel) (pa_cons pe_int (pa_cons (pe_callB (call_min2 rfl) rfl B.min (by decide +kernel) (pa_cons pe_int (pa_cons (pe_callB call_len_seq rfl B.len PySem.boot_len (pa_cons (pv 0) pa_nil)) pa_nil))) pa_nil))) pa_nil)) (pg_name (i := 1) sc_law.nd rfl (.inl rfl))
      (pss_cons (ps_set (i := 2) sc_law.nd rfl (.inl rfl) (pe_call Gso r1 rfl m1 k1 b1 .nil pass0 (pa_cons (pv 0) (pa_cons (pv 1) pa_nil))))
      (pss_cons (ps_par (i := 3) (j := 4) (by rfl) sc_law.nd rfl rfl (by decide) rfl rfl (pa_cons (pe_call Gfo r4 rfl m2 k2 b2 .nil pass0 (pa_cons (pv 2) pa_nil)) (pa_cons (pe_call Gat r3 rfl m3 k3 b3 .nil pass0 (pa_cons (pv 2) pa_nil)) pa_nil)) (by rfl))
      (pss_cons (ps_set (i := 5) sc_law.nd rfl (.inl rfl) (pe_call Gmk r5 rfl m5 k5 b5 .nil pass0 (pa_cons (pv 2) (pa_cons (pe_call Glp r5 rfl m4 k4 b4 .nil pass0 (pa_cons (pv 2) pa_nil)) pa_nil))))
      (pss_cons (ps_set (i := 6) sc_law.nd rfl (.inl rfl) (pe_call Gun hr rfl m6 k6 b6 .nil pass0 (pa_cons (pv 5) pa_nil)))
      (pss_cons (ps_if (PW.pt (pw_and (pt_cmpR op_notN (pv 6) pe_non (nomark _)) (pw_and1 (pt_not (pt_val (pe_call Gch rc rfl m7 k7 b7 .nil pass0 (pa_cons (pv 5) (pa_cons (pv 6) pa_nil)))))))) (pss_one (ps_ret pe_bl)) pss_nil)
      (pss_one (ps_for PassesOwn.never rfl (pi_range2 rfl B.range (pa_cons pe_int (pa_cons (pe_callB (call_max2 rfl) rfl B.max (by decide +kernel) (pa_cons pe_int (pa_cons (pe_callB (call_min2 rfl) rfl B.min (by decide +kernel) (pa_cons pe_int (pa_cons (pe_callB call_len_seq rfl B.len PySem.boot_len (pa_cons (pv 0) pa_nil)) pa_nil))) pa_nil))) pa_nil))) (pg_name (i := 7) sc_law.nd rfl (.inl rfl))
        (pss_cons (ps_set (i := 8) sc_law.nd rfl (.inl rfl) (pe_call Gva r12 rfl m9 k9 b9 .nil pass0 (pa_cons (pe_call Gso r1 rfl m1 k1 b1 .nil pass0 (pa_cons (pv 0) (pa_cons (pv 7) pa_nil))) (pa_cons pe_int (pa_cons (pe_call Gtw r2 rfl m8 k8 b8 .nil pass0 (pa_cons (pv 3) pa_nil)) (pa_cons (pv 4) (pa_cons (pe_lst (pa_cons (pe_op op_add pe_int (pe_op op_fdivN (pv 7) pe_int)) pa_nil)) pa_nil)))))))
        (pss_one (ps_if (PW.pt (pw_and (pt_val (pe_call Gch rc rfl m7 k7 b7 .nil pass0 (pa_cons (pv 5) (pa_cons (pv 8) pa_nil)))) (pw_and1 (PW.pt (pw_or (pt_cmpR op_isN (pv 6) pe_non (nomark _)) (pw_or1 (pt_cmpR op_lt (pe_call Gpa r7 rfl mA kA bA .nil pass0 (pa_cons (pv 8) pa_nil)) (pe_call Gpa r7 rfl mA kA bA .nil pass0 (pa_cons (pv 6) pa_nil)) (nomark _)))))))) (pss_one (ps_ret pe_bl)) pss_nil)))))))))))
    (pss_one (ps_ret pe_bl)), ?_⟩
  have mm : ∀ c e b : Int, 0 ≤ c → 0 ≤ e → e ≤ 63 → 0 ≤ b → b ≤ 63 → 0 ≤ (if (if c < e then c else e) > b then (if c < e then c else e) else b) ∧ (if (if c < e then c else e) > b then (if c < e then c else e) else b) ≤ 63 := fun c e b h1 h2 h3 h4 h5 => by
    constructor <;> (split <;> (try split) <;> omega)
  obtain ⟨g1, g2⟩ := mm ((ns.map V.int).length : Int) 8 1 (by omega) (by decide) (by decide) (by decide) (by decide)
  obtain ⟨g3, g4⟩ := mm ((ns.map V.int).length : Int) 63 10 (by omega) (by decide) (by decide) (by decide) (by decide)
  refine ⟨_, rfl, a, _, rfl, .inl sq, 8, _, rfl, 1, _, rfl, _, rfl, by omega, by omega, forw_it walk_range (fun i σ Hi => ∃ v1 v2 v3 v4 v5 v6 v7 v8, σ = [some (.ref a), v1, v2, v3, v4, v5, v6, v7, v8] ∧ Ex T [] H Hi) ⟨none, none, none, none, none, none, none, none, rfl, Ex.refl H⟩ (fun _ _ _ _ _ => trivial) ?_ ?_⟩
  · rintro i x σ Hi0 Hi hi ⟨v1, v2, v3, v4, v5, v6, v7, v8, rfl, e⟩ ⟨rfl, rfl⟩
    refine ⟨_, rfl, _, rfl, a, ns, _, rfl, e.sql sq, hn, by omega, by omega, fun S H1 nS e1 hs1 => ?_⟩
    refine ⟨_, rfl, S, 0, rfl, hs1, by omega, fun x H2 kl e2 hs2 => ⟨_, rfl, S, 0 + 10, rfl, hs2, by omega, fun la xs H3 hla neA hx5 hsc e3 hs3 => ⟨_, _, rfl, ?_⟩⟩⟩
    obtain ⟨lk, ks, rfl, neK, hlk, hk1, hk2, hki⟩ := kl
    refine ⟨_, rfl, _, rfl, S, _, rfl, hs3, by omega, fun p0 o0 H4 ok0 pa0 e4 hs4 => ⟨S, p0, o0, _, rfl, hs4, by omega, ok0, pa0, fun p o H5 ok pa e5 hs5 => ?_⟩⟩
    have e15 : Ex T [S] H1 H5 := e2.trans (e3.trans (e4.trans e5))
    have e05 : Ex T [] H H5 := e.trans (Ex.dropF (L := [S]) (fun L' lt b hb => by rw [List.mem_singleton.mp hb]; exact nS L' lt) e1 e15)
    have hlk5 := (e3.trans (e4.trans e5)).lstS hlk neK
    have hla5 := (e4.trans e5).lstS hla neA
    have tb5 := e05.ta hTb
    have p0 : partsV probe0 ≤ 1 := by simp [probe0, partsV, partsL]
    have p1 : partsV probe1 ≤ 2 := by simp [probe1, partsV, partsE, partsP]
    refine ⟨_, rfl, p, o, rfl, pa, tb5, fun hc y H6 e6 ry => ⟨_, rfl, rfl, _, rfl, ?_⟩, fun hn0 hc y H6 e6 ry => ⟨_, rfl, rfl, _, rfl, ?_⟩, fun hn0 hn1 H6 e6 => ⟨_, rfl, rfl, _, rfl, iteF ?_⟩⟩
    · rw [rep_non ry]
      refine iteT ⟨_, rfl, _, rfl, p, o, y, probe0, rfl, pa.ex e6, ry, ok_probe0, e6.ta tb5, fun b H7 e7 hb => ?_⟩
      have hbt : b = true := hb.mpr hc
      subst hbt
      refine ⟨true, rfl, iteF ?_⟩
      have ex : Ex T [] H5 H7 := e6.trans e7
      have F : Fd CT o H7 y := .inr ⟨probe0, rep_kee e7.kee ry, rfl, .inl p0⟩
      have ej0 : Ex T [] H H7 := e05.trans ex
      refine ⟨_, rfl, a, _, rfl, .inl (ej0.sql sq), 63, _, rfl, 10, _, rfl, 8, _, rfl, ⟨by decide, by decide, by omega, by omega⟩, forw_it walk_range (fun j σ Hj => ∃ w1 w2 w7 w8, σ = [some (.ref a), w1, w2, some (.ref lk), some (.ref la), some (.ref p), some y, w7, w8] ∧ Ex T [] H7 Hj) ⟨_, _, _, _, rfl, Ex.refl H7⟩ (fun _ _ _ _ _ => trivial) ?_ ?_⟩
      · rintro j z σ Hj0 Hj hj ⟨w1, w2, w7, w8, rfl, ej⟩ ⟨rfl, rfl⟩
        have eHj := ej0.trans ej
        have e5j : Ex T [] H5 Hj := ex.trans ej
        refine ⟨_, rfl, _, rfl, a, ns, _, rfl, eHj.sql sq, hn, by omega, by omega, fun S' K1 nS' f1 s1 => ?_⟩
        refine ⟨_, rfl, lk, ks, rfl, f1.lst (e5j.lst hlk5), hk1, hk2, hki, fun tw js K2 f2 nT htw j1 j4 jok => ?_⟩
        refine ⟨_, rfl, _, rfl, 8 + (j : Int), 2, rfl, rfl, ⟨by decide, by decide⟩, 2, _, rfl, rfl, by show 1 ≤ sizeLine; decide, fun rm hrm => ?_⟩
        have f3 : Ex T [] K2 (upd K2 rm (.lst [.int (2 + (8 + (j : Int)).fdiv 2)])) := Ex.new hrm _
        have f13 := f2.trans f3
        have s3 := s1.ex f13
        have hrm3 : upd K2 rm (.lst [.int (2 + (8 + (j : Int)).fdiv 2)]) rm = some (.lst [.int (2 + (8 + (j : Int)).fdiv 2)]) := upd_same
        have htw3 := f3.lst htw
        have n2 : tw ≠ rm := ne_of_none htw hrm
        generalize upd K2 rm (.lst [.int (2 + (8 + (j : Int)).fdiv 2)]) = K3 at *
        obtain ⟨sa, sb, sc, hS3, hs3'⟩ := id s3
        have hS1 : ∃ o, K1 S' = some o ∧ ∀ ps, o ≠ .tbl ps := by
          obtain ⟨a1, b1', c1, e1', _⟩ := s1
          exact ⟨_, e1', (fun _ y => nomatch y)⟩
        have va : VA K3 [S', rm] S' tw la rm 0 := ⟨⟨sa, sb, sc, hS3, hs3'⟩, ⟨js, htw3, j1, j4, jok⟩, ⟨xs, f13.lst (f1.lst (e5j.lst hla5)), hx5, hsc⟩, ⟨_, hrm3⟩, fun z => nT [S'] (fun b hb => by rw [List.mem_singleton.mp hb]; exact hS1) (by rw [z]; exact List.mem_cons_self), n2, (LT.nil.cons hrm3).cons hS3, List.mem_cons_self, List.mem_cons_of_mem _ List.mem_cons_self⟩
        refine ⟨[S', rm], S', tw, la, rm, 0, 4, rfl, rfl, va, by decide, fun xv v K4 okv rp f4 s4 r4 => ?_⟩
        have rp0 : Rep CT [] 4 K4 v xv := rep_less (fun b hb => by cases hb) rp
        have ej4 : Ex T [] Hj K4 := Ex.dropF (L := [S', rm]) (fun L' lt b hb => by
          rcases List.mem_cons.mp hb with z | hb
          · rw [z]; exact nS' L' lt
          · rw [List.mem_singleton.mp hb]; exact (lt.ex (f1.trans f2)).notin hrm) (f1.trans f13) f4
        have e54 := e5j.trans ej4
        refine ⟨_, rfl, _, rfl, p, o, xv, v, rfl, pa.ex e54, rp0, okv, e54.ta tb5, fun b K5 f5 hb => ⟨b, rfl, ?_⟩⟩
        cases b with
        | false => exact iteF ⟨_, _, _, _, rfl, ej.trans (ej4.trans f5)⟩
        | true =>
          have hcv := hb.mp rfl
          refine iteT ⟨_, rfl, rfl, _, rfl, ?_⟩
          rcases F with ⟨hy, h0, h1⟩ | ⟨pf, rpf, npf, hpf⟩
          · exact absurd hcv (hA o v ok okv h0 h1)
          · have rpf5 := rep_kee (ej.trans (ej4.trans f5)).kee rpf
            rw [rep_non rpf5, npf]
            refine iteF ⟨_, rfl, xv, v, rfl, rep_kee f5.kee rp0, fun K6 f6 => ⟨_, rfl, y, pf, rfl, rep_kee f6.kee rpf5, fun K7 f7 => ⟨_, _, rfl, rfl, _, rfl, ite2 (fun c => ?_) (fun c => ?_)⟩⟩⟩
            · have c' : ((partsV v : Nat) : Int) < ((partsV pf : Nat) : Int) := of_decide_eq_true c
              have := parts_pos v
              rcases hpf with h | ⟨h, h0⟩
              · omega
              · exact absurd hcv (hB o v ok okv h0 (by omega))
            · exact ⟨_, _, _, _, rfl, ej.trans (ej4.trans (f5.trans (f6.trans f7)))⟩
      · rintro σ Hi ⟨w1, w2, w7, w8, rfl, ej⟩
        exact ⟨_, _, _, _, _, _, _, _, rfl, ej0.trans ej⟩
    · rw [rep_non ry]
      refine iteT ⟨_, rfl, _, rfl, p, o, y, probe1, rfl, pa.ex e6, ry, ok_probe1, e6.ta tb5, fun b H7 e7 hb => ?_⟩
      have hbt : b = true := hb.mpr hc
      subst hbt
      refine ⟨true, rfl, iteF ?_⟩
      have ex : Ex T [] H5 H7 := e6.trans e7
      have F : Fd CT o H7 y := .inr ⟨probe1, rep_kee e7.kee ry, rfl, .inr ⟨p1, hn0⟩⟩
      have ej0 : Ex T [] H H7 := e05.trans ex
      refine ⟨_, rfl, a, _, rfl, .inl (ej0.sql sq), 63, _, rfl, 10, _, rfl, 8, _, rfl, ⟨by decide, by decide, by omega, by omega⟩, forw_it walk_range (fun j σ Hj => ∃ w1 w2 w7 w8, σ = [some (.ref a), w1, w2, some (.ref lk), some (.ref la), some (.ref p), some y, w7, w8] ∧ Ex T [] H7 Hj) ⟨_, _, _, _, rfl, Ex.refl H7⟩ (fun _ _ _ _ _ => trivial) ?_ ?_⟩
      · rintro j z σ Hj0 Hj hj ⟨w1, w2, w7, w8, rfl, ej⟩ ⟨rfl, rfl⟩
        have eHj := ej0.trans ej
        have e5j : Ex T [] H5 Hj := ex.trans ej
        refine ⟨_, rfl, _, rfl, a, ns, _, rfl, eHj.sql sq, hn, by omega, by omega, fun S' K1 nS' f1 s1 => ?_⟩
        refine ⟨_, rfl, lk, ks, rfl, f1.lst (e5j.lst hlk5), hk1, hk2, hki, fun tw js K2 f2 nT htw j1 j4 jok => ?_⟩
        refine ⟨_, rfl, _, rfl, 8 + (j : Int), 2, rfl, rfl, ⟨by decide, by decide⟩, 2, _, rfl, rfl, by show 1 ≤ sizeLine; decide, fun rm hrm => ?_⟩
        have f3 : Ex T [] K2 (upd K2 rm (.lst [.int (2 + (8 + (j : Int)).fdiv 2)])) := Ex.new hrm _
        have f13 := f2.trans f3
        have s3 := s1.ex f13
        have hrm3 : upd K2 rm (.lst [.int (2 + (8 + (j : Int)).fdiv 2)]) rm = some (.lst [.int (2 + (8 + (j : Int)).fdiv 2)]) := upd_same
        have htw3 := f3.lst htw
        have n2 : tw ≠ rm := ne_of_none htw hrm
        generalize upd K2 rm (.lst [.int (2 + (8 + (j : Int)).fdiv 2)]) = K3 at *
        obtain ⟨sa, sb, sc, hS3, hs3'⟩ := id s3
        have hS1 : ∃ o, K1 S' = some o ∧ ∀ ps, o ≠ .tbl ps := by
          obtain ⟨a1, b1', c1, e1', _⟩ := s1
          exact ⟨_, e1', (fun _ y => nomatch y)⟩
        have va : VA K3 [S', rm] S' tw la rm 0 := ⟨⟨sa, sb, sc, hS3, hs3'⟩, ⟨js, htw3, j1, j4, jok⟩, ⟨xs, f13.lst (f1.lst (e5j.lst hla5)), hx5, hsc⟩, ⟨_, hrm3⟩, fun z => nT [S'] (fun b hb => by rw [List.mem_singleton.mp hb]; exact hS1) (by rw [z]; exact List.mem_cons_self), n2, (LT.nil.cons hrm3).cons hS3, List.mem_cons_self, List.mem_cons_of_mem _ List.mem_cons_self⟩
        refine ⟨[S', rm], S', tw, la, rm, 0, 4, rfl, rfl, va, by decide, fun xv v K4 okv rp f4 s4 r4 => ?_⟩
        have rp0 : Rep CT [] 4 K4 v xv := rep_less (fun b hb => by cases hb) rp
        have ej4 : Ex T [] Hj K4 := Ex.dropF (L := [S', rm]) (fun L' lt b hb => by
          rcases List.mem_cons.mp hb with z | hb
          · rw [z]; exact nS' L' lt
          · rw [List.mem_singleton.mp hb]; exact (lt.ex (f1.trans f2)).notin hrm) (f1.trans f13) f4
        have e54 := e5j.trans ej4
        refine ⟨_, rfl, _, rfl, p, o, xv, v, rfl, pa.ex e54, rp0, okv, e54.ta tb5, fun b K5 f5 hb => ⟨b, rfl, ?_⟩⟩
        cases b with
        | false => exact iteF ⟨_, _, _, _, rfl, ej.trans (ej4.trans f5)⟩
        | true =>
          have hcv := hb.mp rfl
          refine iteT ⟨_, rfl, rfl, _, rfl, ?_⟩
          rcases F with ⟨hy, h0, h1⟩ | ⟨pf, rpf, npf, hpf⟩
          · exact absurd hcv (hA o v ok okv h0 h1)
          · have rpf5 := rep_kee (ej.trans (ej4.trans f5)).kee rpf
            rw [rep_non rpf5, npf]
            refine iteF ⟨_, rfl, xv, v, rfl, rep_kee f5.kee rp0, fun K6 f6 => ⟨_, rfl, y, pf, rfl, rep_kee f6.kee rpf5, fun K7 f7 => ⟨_, _, rfl, rfl, _, rfl, ite2 (fun c => ?_) (fun c => ?_)⟩⟩⟩
            · have c' : ((partsV v : Nat) : Int) < ((partsV pf : Nat) : Int) := of_decide_eq_true c
              have := parts_pos v
              rcases hpf with h | ⟨h, h0⟩
              · omega
              · exact absurd hcv (hB o v ok okv h0 (by omega))
            · exact ⟨_, _, _, _, rfl, ej.trans (ej4.trans (f5.trans (f6.trans f7)))⟩
      · rintro σ Hi ⟨w1, w2, w7, w8, rfl, ej⟩
        exact ⟨_, _, _, _, _, _, _, _, rfl, ej0.trans ej⟩
    · have F : Fd CT o H6 .non := .inl ⟨rfl, hn0, hn1⟩
      have ej0 : Ex T [] H H6 := e05.trans e6
      refine ⟨_, rfl, a, _, rfl, .inl (ej0.sql sq), 63, _, rfl, 10, _, rfl, 8, _, rfl, ⟨by decide, by decide, by omega, by omega⟩, forw_it walk_range (fun j σ Hj => ∃ w1 w2 w7 w8, σ = [some (.ref a), w1, w2, some (.ref lk), some (.ref la), some (.ref p), some .non, w7, w8] ∧ Ex T [] H6 Hj) ⟨_, _, _, _, rfl, Ex.refl H6⟩ (fun _ _ _ _ _ => trivial) ?_ ?_⟩
      · rintro j z σ Hj0 Hj hj ⟨w1, w2, w7, w8, rfl, ej⟩ ⟨rfl, rfl⟩
        have eHj := ej0.trans ej
        have e5j : Ex T [] H5 Hj := e6.trans ej
        refine ⟨_, rfl, _, rfl, a, ns, _, rfl, eHj.sql sq, hn, by omega, by omega, fun S' K1 nS' f1 s1 => ?_⟩
        refine ⟨_, rfl, lk, ks, rfl, f1.lst (e5j.lst hlk5), hk1, hk2, hki, fun tw js K2 f2 nT htw j1 j4 jok => ?_⟩
        refine ⟨_, rfl, _, rfl, 8 + (j : Int), 2, rfl, rfl, ⟨by decide, by decide⟩, 2, _, rfl, rfl, by show 1 ≤ sizeLine; decide, fun rm hrm => ?_⟩
        have f3 : Ex T [] K2 (upd K2 rm (.lst [.int (2 + (8 + (j : Int)).fdiv 2)])) := Ex.new hrm _
        have f13 := f2.trans f3
        have s3 := s1.ex f13
        have hrm3 : upd K2 rm (.lst [.int (2 + (8 + (j : Int)).fdiv 2)]) rm = some (.lst [.int (2 + (8 + (j : Int)).fdiv 2)]) := upd_same
        have htw3 := f3.lst htw
        have n2 : tw ≠ rm := ne_of_none htw hrm
        generalize upd K2 rm (.lst [.int (2 + (8 + (j : Int)).fdiv 2)]) = K3 at *
        obtain ⟨sa, sb, sc, hS3, hs3'⟩ := id s3
        have hS1 : ∃ o, K1 S' = some o ∧ ∀ ps, o ≠ .tbl ps := by
          obtain ⟨a1, b1', c1, e1', _⟩ := s1
          exact ⟨_, e1', (fun _ y => nomatch y)⟩
        have va : VA K3 [S', rm] S' tw la rm 0 := ⟨⟨sa, sb, sc, hS3, hs3'⟩, ⟨js, htw3, j1, j4, jok⟩, ⟨xs, f13.lst (f1.lst (e5j.lst hla5)), hx5, hsc⟩, ⟨_, hrm3⟩, fun z => nT [S'] (fun b hb => by rw [List.mem_singleton.mp hb]; exact hS1) (by rw [z]; exact List.mem_cons_self), n2, (LT.nil.cons hrm3).cons hS3, List.mem_cons_self, List.mem_cons_of_mem _ List.mem_cons_self⟩
        refine ⟨[S', rm], S', tw, la, rm, 0, 4, rfl, rfl, va, by decide, fun xv v K4 okv rp f4 s4 r4 => ?_⟩
        have rp0 : Rep CT [] 4 K4 v xv := rep_less (fun b hb => by cases hb) rp
        have ej4 : Ex T [] Hj K4 := Ex.dropF (L := [S', rm]) (fun L' lt b hb => by
          rcases List.mem_cons.mp hb with z | hb
          · rw [z]; exact nS' L' lt
          · rw [List.mem_singleton.mp hb]; exact (lt.ex (f1.trans f2)).notin hrm) (f1.trans f13) f4
        have e54 := e5j.trans ej4
        refine ⟨_, rfl, _, rfl, p, o, xv, v, rfl, pa.ex e54, rp0, okv, e54.ta tb5, fun b K5 f5 hb => ⟨b, rfl, ?_⟩⟩
        cases b with
        | false => exact iteF ⟨_, _, _, _, rfl, ej.trans (ej4.trans f5)⟩
        | true =>
          have hcv := hb.mp rfl
          refine iteT ⟨_, rfl, rfl, _, rfl, ?_⟩
          rcases F with ⟨hy, h0, h1⟩ | ⟨pf, rpf, npf, hpf⟩
          · exact absurd hcv (hA o v ok okv h0 h1)
          · have rpf5 := rep_kee (ej.trans (ej4.trans f5)).kee rpf
            rw [rep_non rpf5, npf]
            refine iteF ⟨_, rfl, xv, v, rfl, rep_kee f5.kee rp0, fun K6 f6 => ⟨_, rfl, .non, pf, rfl, rep_kee f6.kee rpf5, fun K7 f7 => ⟨_, _, rfl, rfl, _, rfl, ite2 (fun c => ?_) (fun c => ?_)⟩⟩⟩
            · have c' : ((partsV v : Nat) : Int) < ((partsV pf : Nat) : Int) := of_decide_eq_true c
              have := parts_pos v
              rcases hpf with h | ⟨h, h0⟩
              · omega
              · exact absurd hcv (hB o v ok okv h0 (by omega))
            · exact ⟨_, _, _, _, rfl, ej.trans (ej4.trans (f5.trans (f6.trans f7)))⟩
      · rintro σ Hi ⟨w1, w2, w7, w8, rfl, ej⟩
        exact ⟨_, _, _, _, _, _, _, _, rfl, ej0.trans ej⟩
  · rintro σ Hi ⟨v1, v2, v3, v4, v5, v6, v7, v8, rfl, e⟩
    exact q Hi
end
end K86
/-! K86Fix: the pure laws: what is carried once stays, unless the probes change. -/
namespace K86
open PySem PySem.Spec PyProof.Rows L2

variable {o : Opt}
theorem keyText_built {x : Str} (h : okT x) : keyText (builtKey o x) = x := by
  unfold builtKey
  by_cases c : (decide (o.dn = "number") && isDig x) = true
  · rw [if_pos c]
    obtain ⟨i, h1, h2, _⟩ := dig_int h.1 (by simp at c; exact c.2)
    rw [h1]
    exact h2
  · rw [if_neg c]
    rfl
theorem pairsM_names {f : PV → Option RV} : ∀ {l : List (Key × PV)} {seen : List Str} {rs : List (Str × RV)}, pairsM f o l seen = some rs → rs.map (·.1) = l.map (fun p => keyText p.1)
  | [], _, rs, h => by
    unfold pairsM at h
    cases h
    rfl
  | (k, v) :: r, seen, rs, h => by
    unfold pairsM at h
    by_cases c : (decide (keyText k ∈ seen) && decide (o.dk = "refuse")) = true
    · rw [if_pos c] at h; cases h
    · rw [if_neg c] at h
      cases hf : f v with
      | none => rw [hf] at h; cases h
      | some rv =>
        rw [hf] at h
        obtain ⟨l', h1, rfl⟩ := Option.map_eq_some_iff.mp h
        rw [List.map_cons, List.map_cons, pairsM_names h1]
theorem pairsM_items {f : PV → Option RV} : ∀ {l : List (Key × PV)} {seen : List Str} {rs : List (Str × RV)}, pairsM f o l seen = some rs → ∀ q ∈ rs, ∃ p ∈ l, f p.2 = some q.2
  | [], _, rs, h, q, hq => by
    unfold pairsM at h
    cases h
    cases hq
  | (k, v) :: r, seen, rs, h, q, hq => by
    unfold pairsM at h
    by_cases c : (decide (keyText k ∈ seen) && decide (o.dk = "refuse")) = true
    · rw [if_pos c] at h; cases h
    · rw [if_neg c] at h
      cases hf : f v with
      | none => rw [hf] at h; cases h
      | some rv =>
        rw [hf] at h
        obtain ⟨l', h1, rfl⟩ := Option.map_eq_some_iff.mp h
        rcases List.mem_cons.mp hq with z | hq
        · exact ⟨(k, v), List.mem_cons_self, by rw [z]; exact hf⟩
        · obtain ⟨p, hp, e⟩ := pairsM_items h1 q hq
          exact ⟨p, List.mem_cons_of_mem _ hp, e⟩
/-- distinct names: nothing is refused -/
theorem pairsM_all2 {f : PV → Option RV} {es : List (Key × PV)} {g : Key × PV → RV} (hf : ∀ p ∈ es, f p.2 = some (g p)) : ∀ {seen : List Str}, (es.map fun p => keyText p.1).Nodup → (∀ p ∈ es, keyText p.1 ∉ seen) → pairsM f o es seen = some (es.map fun p => (keyText p.1, g p)) := by
  induction es with
  | nil => intro seen _ _; unfold pairsM; rfl
  | cons p r ih =>
    intro seen nd hs
    obtain ⟨k, v⟩ := p
    rw [List.map_cons, List.nodup_cons] at nd
    have h0 : keyText k ∉ seen := hs (k, v) List.mem_cons_self
    unfold pairsM
    rw [if_neg (by simp [h0]), hf (k, v) List.mem_cons_self]
    show Option.map _ (pairsM f o r (keyText k :: seen)) = _
    rw [ih (fun p hp => hf p (List.mem_cons_of_mem _ hp)) nd.2 (fun p hp z => by
      rcases List.mem_cons.mp z with z | z
      · exact nd.1 (List.mem_map.mpr ⟨p, hp, z⟩)
      · exact hs p (List.mem_cons_of_mem _ hp) z)]
    rfl
theorem hasK_iff {α β : Type} [DecidableEq α] {l : List (α × β)} {k : α} : hasK l k = true ↔ k ∈ l.map (·.1) := by
  unfold hasK
  rw [List.any_eq_true, List.mem_map]
  constructor
  · rintro ⟨p, hp, e⟩; exact ⟨p, hp, of_decide_eq_true e⟩
  · rintro ⟨p, hp, e⟩; exact ⟨p, hp, decide_eq_true e⟩
/-- distinct names: all are found, in order -/
theorem foundM_all2 {f : RV → Option PV} {ps : List (Str × RV)} {g : Str × RV → PV} (hf : ∀ p ∈ ps, f p.2 = some (g p)) : ∀ {acc : List (Str × PV)}, (acc.map (·.1) ++ ps.map (·.1)).Nodup → foundM f o ps acc = some (acc ++ ps.map fun p => (p.1, g p)) := by
  induction ps with
  | nil => intro acc _; unfold foundM; simp
  | cons p r ih =>
    intro acc nd
    obtain ⟨nm, rv⟩ := p
    have h0 : hasK acc nm = false := by
      cases c : hasK acc nm with
      | false => rfl
      | true =>
        have := hasK_iff.mp c
        rw [List.nodup_append] at nd
        exact absurd rfl (nd.2.2 nm this nm List.mem_cons_self)
    unfold foundM
    rw [h0, if_neg (by simp), hf (nm, rv) List.mem_cons_self]
    show foundM f o r (if (!false || decide (o.sk = "last")) = true then putP acc nm (g (nm, rv)) else acc) = _
    rw [if_pos (by simp)]
    unfold putP
    rw [h0, if_neg (by simp)]
    rw [ih (fun p hp => hf p (List.mem_cons_of_mem _ hp)) (by rw [List.map_append]; simpa using nd)]
    simp
theorem ins_id {α : Type} {lt : α → α → Bool} {x : α} : ∀ {l : List α}, (∀ y ∈ l, lt y x = false) → ins lt x l = x :: l
  | [], _ => rfl
  | y :: r, h => by
    unfold ins
    rw [h y List.mem_cons_self, if_neg (by simp)]
theorem isort_id {α : Type} {lt : α → α → Bool} : ∀ {l : List α}, l.Pairwise (fun a b => lt b a = false) → isort lt l = l
  | [], _ => rfl
  | x :: r, h => by
    rw [List.pairwise_cons] at h
    unfold isort
    rw [isort_id h.2, ins_id h.1]
theorem ins_mem {α : Type} {lt : α → α → Bool} {x y : α} : ∀ {l : List α}, y ∈ ins lt x l → y = x ∨ y ∈ l
  | [], h => by
    unfold ins at h
    exact .inl (List.mem_singleton.mp h)
  | z :: r, h => by
    unfold ins at h
    by_cases c : lt z x = true
    · rw [if_pos c] at h
      rcases List.mem_cons.mp h with e | h
      · exact .inr (by rw [e]; exact List.mem_cons_self)
      · rcases ins_mem h with e | h
        · exact .inl e
        · exact .inr (List.mem_cons_of_mem _ h)
    · rw [if_neg c] at h
      rcases List.mem_cons.mp h with e | h
      · exact .inl e
      · exact .inr h
theorem isort_mem {α : Type} {lt : α → α → Bool} {y : α} : ∀ {l : List α}, y ∈ isort lt l → y ∈ l
  | [], h => by cases h
  | x :: r, h => by
    unfold isort at h
    rcases ins_mem h with e | h
    · rw [e]; exact List.mem_cons_self
    · exact List.mem_cons_of_mem _ (isort_mem h)
theorem ins_pw {α : Type} {lt : α → α → Bool} (as : ∀ a b, lt a b = true → lt b a = false) (tr : ∀ a b c, lt b a = false → lt c b = false → lt c a = false) {x : α} : ∀ {l : List α}, l.Pairwise (fun a b => lt b a = false) → (ins lt x l).Pairwise (fun a b => lt b a = false)
  | [], _ => by unfold ins; simp
  | y :: r, h => by
    unfold ins
    rw [List.pairwise_cons] at h
    by_cases c : lt y x = true
    · rw [if_pos c, List.pairwise_cons]
      refine ⟨fun z hz => ?_, ins_pw as tr h.2⟩
      rcases ins_mem hz with e | hz
      · rw [e]; exact as _ _ c
      · exact h.1 z hz
    · have c' : lt y x = false := by simpa using c
      rw [if_neg c, List.pairwise_cons]
      refine ⟨fun z hz => ?_, List.pairwise_cons.mpr h⟩
      rcases List.mem_cons.mp hz with e | hz
      · rw [e]; exact c'
      · exact tr x y z c' (h.1 z hz)
theorem isort_pw {α : Type} {lt : α → α → Bool} (as : ∀ a b, lt a b = true → lt b a = false) (tr : ∀ a b c, lt b a = false → lt c b = false → lt c a = false) : ∀ {l : List α}, (isort lt l).Pairwise (fun a b => lt b a = false)
  | [] => List.Pairwise.nil
  | x :: r => by
    unfold isort
    exact ins_pw as tr (isort_pw as tr)
theorem ltT_as (x y : Str) (h : ltT x y = true) : ltT y x = false := by
  unfold ltT at *
  exact decide_eq_false fun z => List.lt_irrefl _ (List.lt_trans z (of_decide_eq_true h))
theorem ltT_tr (a b c : Str) (h1 : ltT b a = false) (h2 : ltT c b = false) : ltT c a = false := by
  unfold ltT at *
  have q1 : a.cps.toList ≤ b.cps.toList := List.not_lt.mp (of_decide_eq_false h1)
  have q2 : b.cps.toList ≤ c.cps.toList := List.not_lt.mp (of_decide_eq_false h2)
  exact decide_eq_false (List.not_lt.mpr (List.le_trans q1 q2))
theorem keptL_id : ∀ {es : List (Key × PV)}, (∀ p ∈ es, (isNon p.2 && decide (o.nu = "skip")) = false ∧ (isIntK p.1 = true → o.nk = "text")) → keptL o es = some es
  | [], _ => rfl
  | (k, v) :: r, h => by
    obtain ⟨h1, h2⟩ := h (k, v) List.mem_cons_self
    have h1' : ¬ (isNon v && decide (o.nu = "skip")) = true := by rw [h1]; simp
    have h3 : ¬ (isIntK k && decide (o.nk = "refuse")) = true := fun z => by
      rw [Bool.and_eq_true] at z
      have e1 := h2 z.1
      have e2 := of_decide_eq_true z.2
      rw [e1] at e2
      exact absurd e2 (by decide +kernel)
    have h4 : (!isIntK k || decide (o.nk = "text")) = true := by
      cases c : isIntK k with
      | false => rfl
      | true => rw [h2 c]; simp
    unfold keptL
    rw [if_neg h1', if_neg h3, if_pos h4, keptL_id fun p hp => h p (List.mem_cons_of_mem _ hp)]
    rfl
theorem keptL_items : ∀ {es l : List (Key × PV)}, keptL o es = some l → ∀ p ∈ l, p ∈ es ∧ (isNon p.2 && decide (o.nu = "skip")) = false
  | [], l, h, p, hp => by
    unfold keptL at h
    cases h
    cases hp
  | (k, v) :: r, l, h, p, hp => by
    unfold keptL at h
    by_cases c1 : (isNon v && decide (o.nu = "skip")) = true
    · rw [if_pos c1] at h
      obtain ⟨a, b⟩ := keptL_items h p hp
      exact ⟨List.mem_cons_of_mem _ a, b⟩
    · rw [if_neg c1] at h
      by_cases c2 : (isIntK k && decide (o.nk = "refuse")) = true
      · rw [if_pos c2] at h; cases h
      · rw [if_neg c2] at h
        by_cases c3 : (!isIntK k || decide (o.nk = "text")) = true
        · rw [if_pos c3] at h
          obtain ⟨l', h1, rfl⟩ := Option.map_eq_some_iff.mp h
          rcases List.mem_cons.mp hp with z | hp
          · rw [z]
            exact ⟨List.mem_cons_self, by simpa using c1⟩
          · obtain ⟨a, b⟩ := keptL_items h1 p hp
            exact ⟨List.mem_cons_of_mem _ a, b⟩
        · rw [if_neg c3] at h
          obtain ⟨a, b⟩ := keptL_items h p hp
          exact ⟨List.mem_cons_of_mem _ a, b⟩
theorem putP_same {α β : Type} [DecidableEq α] {l : List (α × β)} {k : α} {v : β} (h : hasK l k = true) : (putP l k v).map (·.1) = l.map (·.1) := by
  unfold putP
  rw [if_pos h, List.map_map]
  refine List.map_congr_left fun p _ => ?_
  show (if p.1 = k then (p.1, v) else p).1 = p.1
  split <;> rfl
theorem foundM_sub {f : RV → Option PV} : ∀ {ps : List (Str × RV)} {acc l : List (Str × PV)}, foundM f o ps acc = some l → (l.map (·.1)).Sublist (acc.map (·.1) ++ ps.map (·.1))
  | [], acc, l, h => by
    unfold foundM at h
    cases h
    simp
  | (nm, r) :: ps, acc, l, h => by
    unfold foundM at h
    by_cases c : (hasK acc nm && decide (o.sk = "refuse")) = true
    · rw [if_pos c] at h; cases h
    · rw [if_neg c] at h
      cases hf : f r with
      | none => rw [hf] at h; cases h
      | some v =>
        rw [hf] at h
        have ih := foundM_sub h
        refine ih.trans ?_
        cases c2 : hasK acc nm with
        | true =>
          have e : (if (!true || decide (o.sk = "last")) = true then putP acc nm v else acc).map (·.1) = acc.map (·.1) := by
            split
            · exact putP_same c2
            · rfl
          rw [e]
          exact List.Sublist.append (List.Sublist.refl _) (List.sublist_cons_self _ _)
        | false =>
          have e : (if (!false || decide (o.sk = "last")) = true then putP acc nm v else acc).map (·.1) = acc.map (·.1) ++ [nm] := by
            rw [if_pos (by simp)]
            unfold putP
            rw [c2, if_neg (by simp), List.map_append]
            rfl
          rw [e, List.append_assoc]
          exact List.Sublist.refl _
theorem foundM_items {f : RV → Option PV} {ps : List (Str × RV)} {l : List (Str × PV)} (h : foundM f o ps [] = some l) : ∀ q ∈ l, ∃ p ∈ ps, f p.2 = some q.2 := fun q hq => by
  obtain ⟨r, ⟨p, hp, e⟩, e2⟩ := foundM_all (A := fun r => ∃ p ∈ ps, p.2 = r) (C := fun v => ∃ r, (∃ p ∈ ps, p.2 = r) ∧ f r = some v) (fun x y hx hy => ⟨x, hx, hy⟩) h (fun p hp => ⟨p, hp, rfl⟩) (fun q hq => by cases hq) q hq
  exact ⟨p, hp, by rw [e]; exact e2⟩
def isNonR : RV → Bool
  | .non => true
  | _ => false
/-- a raw value as the writer leaves it -/
def RN (o : Opt) : Nat → RV → Prop
  | _, .int i => longI i = true → o.ln = "keep"
  | n + 1, .row rs => ∀ r ∈ rs, RN o n r
  | n + 1, .tab ps => (∀ q ∈ ps, RN o n q.2) ∧ (o.od = "rising" → (ps.map (·.1)).Pairwise (fun a b => ltT b a = false)) ∧ (o.nu = "skip" → ∀ q ∈ ps, isNonR q.2 = false)
  | _, _ => True
theorem rawM_non {n : Nat} {v : PV} {r : RV} (h : rawM o n v = some r) : isNonR r = isNon v := by
  cases v with
  | non => unfold rawM at h; cases h; rfl
  | bl b => unfold rawM at h; cases h; rfl
  | str x => unfold rawM at h; cases h; rfl
  | int i =>
    unfold rawM at h
    by_cases c : (longI i && !decide (o.ln = "keep")) = true
    · rw [if_pos c] at h
      by_cases c2 : o.ln = "refuse"
      · rw [if_pos c2] at h; cases h
      · rw [if_neg c2] at h; cases h; rfl
    · rw [if_neg c] at h; cases h; rfl
  | row t xs =>
    cases n with
    | zero => unfold rawM at h; cases h
    | succ n =>
      unfold rawM at h
      by_cases c : (t && decide (o.tu = "refuse")) = true
      · rw [if_pos c] at h; cases h
      · rw [if_neg c] at h
        obtain ⟨l, _, rfl⟩ := Option.map_eq_some_iff.mp h
        rfl
  | tab es =>
    cases n with
    | zero => unfold rawM at h; cases h
    | succ n =>
      unfold rawM at h
      obtain ⟨l, _, h2⟩ := Option.bind_eq_some_iff.mp h
      obtain ⟨l', _, rfl⟩ := Option.map_eq_some_iff.mp h2
      rfl
theorem rn_of : ∀ {n : Nat} {v : PV} {r : RV}, rawM o n v = some r → RN o n r
  | _, .non, r, h => by unfold rawM at h; cases h; unfold RN; trivial
  | _, .bl b, r, h => by unfold rawM at h; cases h; unfold RN; trivial
  | _, .str x, r, h => by unfold rawM at h; cases h; unfold RN; trivial
  | n, .int i, r, h => by
    unfold rawM at h
    by_cases c : (longI i && !decide (o.ln = "keep")) = true
    · rw [if_pos c] at h
      by_cases c2 : o.ln = "refuse"
      · rw [if_pos c2] at h; cases h
      · rw [if_neg c2] at h; cases h; unfold RN; trivial
    · rw [if_neg c] at h
      cases h
      unfold RN
      intro hl
      rw [hl] at c
      simpa using c
  | 0, .row t xs, r, h => by unfold rawM at h; cases h
  | 0, .tab es, r, h => by unfold rawM at h; cases h
  | n + 1, .row t xs, r, h => by
    unfold rawM at h
    by_cases c : (t && decide (o.tu = "refuse")) = true
    · rw [if_pos c] at h; cases h
    · rw [if_neg c] at h
      obtain ⟨l, h1, rfl⟩ := Option.map_eq_some_iff.mp h
      unfold RN
      exact (rowM_all (A := fun _ => True) (C := RN o n) (fun x y _ hy => rn_of hy) h1 (fun _ _ => trivial)).2
  | n + 1, .tab es, r, h => by
    unfold rawM at h
    obtain ⟨l, h1, h2⟩ := Option.bind_eq_some_iff.mp h
    obtain ⟨rs, h3, rfl⟩ := Option.map_eq_some_iff.mp h2
    unfold keptM at h1
    obtain ⟨l0, h4, h5⟩ := Option.map_eq_some_iff.mp h1
    have hmem : ∀ p ∈ l, p ∈ l0 := fun p hp => by
      rw [← h5] at hp
      by_cases c : o.od = "rising"
      · rw [if_pos c] at hp; exact isort_mem hp
      · rw [if_neg c] at hp; exact hp
    unfold RN
    refine ⟨fun q hq => ?_, fun c => ?_, fun c q hq => ?_⟩
    · obtain ⟨p, hp, e⟩ := pairsM_items h3 q hq
      exact rn_of e
    · rw [pairsM_names h3, ← h5, if_pos c, List.pairwise_map]
      exact isort_pw (lt := ltE) (fun a b => ltT_as _ _) (fun a b c => ltT_tr _ _ _)
    · obtain ⟨p, hp, e⟩ := pairsM_items h3 q hq
      have := (keptL_items h4 p (hmem p hp)).2
      rw [rawM_non e]
      rw [c] at this
      simpa using this
theorem buildM_non {n : Nat} {r : RV} {v : PV} (h : buildM o n r = some v) : isNon v = isNonR r := by
  cases r with
  | non => unfold buildM at h; cases h; rfl
  | bl b => unfold buildM at h; cases h; rfl
  | str x => unfold buildM at h; cases h; rfl
  | int i => unfold buildM at h; cases h; rfl
  | row rs =>
    cases n with
    | zero => unfold buildM at h; cases h
    | succ n =>
      unfold buildM at h
      obtain ⟨l, _, rfl⟩ := Option.map_eq_some_iff.mp h
      rfl
  | tab ps =>
    cases n with
    | zero => unfold buildM at h; cases h
    | succ n =>
      unfold buildM at h
      obtain ⟨l, _, rfl⟩ := Option.map_eq_some_iff.mp h
      rfl
theorem rowM_fix {f : RV → Option PV} {g : PV → Option RV} : ∀ {rs : List RV} {vs : List PV}, rowM f rs = some vs → (∀ r ∈ rs, ∀ v, f r = some v → ∃ r', g v = some r' ∧ f r' = some v) → ∃ rs', rowM g vs = some rs' ∧ rowM f rs' = some vs
  | [], vs, h, _ => by
    unfold rowM at h
    cases h
    exact ⟨[], rfl, rfl⟩
  | r :: rs, vs, h, hf => by
    unfold rowM at h
    cases e : f r with
    | none => rw [e] at h; cases h
    | some v =>
      rw [e] at h
      obtain ⟨l, h1, rfl⟩ := Option.map_eq_some_iff.mp h
      obtain ⟨r', e1, e2⟩ := hf r List.mem_cons_self v e
      obtain ⟨rs', e3, e4⟩ := rowM_fix h1 fun r hr => hf r (List.mem_cons_of_mem _ hr)
      exact ⟨r' :: rs', by unfold rowM; rw [e1]; show Option.map _ (rowM g l) = _; rw [e3]; rfl, by unfold rowM; rw [e2]; show Option.map _ (rowM f rs') = _; rw [e4]; rfl⟩
theorem fix_it (N0 : ¬ (o.li = "tuple" ∧ o.tu = "refuse")) (N1 : o.dn = "number" → o.nk = "text") : ∀ {n : Nat} {r : RV} {w : PV}, okR n r → RN o n r → buildM o n r = some w → ∃ r', rawM o n w = some r' ∧ buildM o n r' = some w
  | _, .non, w, _, _, h => by unfold buildM at h; cases h; exact ⟨.non, by unfold rawM; rfl, by unfold buildM; rfl⟩
  | _, .bl b, w, _, _, h => by unfold buildM at h; cases h; exact ⟨.bl b, by unfold rawM; rfl, by unfold buildM; rfl⟩
  | _, .str x, w, _, _, h => by unfold buildM at h; cases h; exact ⟨.str x, by unfold rawM; rfl, by unfold buildM; rfl⟩
  | n, .int i, w, _, hn, h => by
    unfold buildM at h
    cases h
    unfold RN at hn
    refine ⟨.int i, ?_, by unfold buildM; rfl⟩
    unfold rawM
    rw [if_neg]
    intro c
    rw [Bool.and_eq_true] at c
    rw [hn c.1] at c
    simp at c
  | 0, .row rs, w, _, _, h => by unfold buildM at h; cases h
  | 0, .tab ps, w, _, _, h => by unfold buildM at h; cases h
  | n + 1, .row rs, w, ok, hn, h => by
    unfold buildM at h
    obtain ⟨vs, h1, rfl⟩ := Option.map_eq_some_iff.mp h
    unfold RN at hn
    unfold okR at ok
    obtain ⟨rs', e1, e2⟩ := rowM_fix (g := rawM o n) h1 fun r hr v hv => fix_it N0 N1 (ok.2 r hr) (hn r hr) hv
    refine ⟨.row rs', ?_, ?_⟩
    · unfold rawM
      rw [if_neg, e1]
      · rfl
      · intro c
        rw [Bool.and_eq_true] at c
        exact N0 ⟨of_decide_eq_true c.1, of_decide_eq_true c.2⟩
    · unfold buildM
      rw [e2]
      rfl
  | n + 1, .tab ps, w, ok, hn, h => by
    unfold buildM at h
    obtain ⟨fs, h1, rfl⟩ := Option.map_eq_some_iff.mp h
    unfold RN at hn
    unfold okR at ok
    obtain ⟨hn1, hn2, hn3⟩ := hn
    obtain ⟨m1, m2, m3⟩ := foundM_names h1 List.nodup_nil
    have sub := foundM_sub h1
    rw [List.map_nil, List.nil_append] at sub
    have okn : ∀ q ∈ fs, okT q.1 := fun q hq => by
      rcases m2 q hq with z | z
      · cases z
      · obtain ⟨q', hq', e'⟩ := List.mem_map.mp z
        rw [← e']
        exact (ok.2 q' hq').1
    -- an entry comes from a found pair
    have src : ∀ p ∈ tabOf o fs, ∃ q ∈ fs, p = (builtKey o q.1, q.2) ∧ (!isNon q.2 || decide (o.ni = "keep")) = true := fun p hp => by
      unfold tabOf at hp
      obtain ⟨q, hq, e⟩ := List.mem_map.mp hp
      have := List.mem_filter.mp hq
      exact ⟨q, this.1, e.symm, this.2⟩
    have kt : ∀ p ∈ tabOf o fs, builtKey o (keyText p.1) = p.1 := fun p hp => by
      obtain ⟨q, hq, e, _⟩ := src p hp
      rw [e]
      show builtKey o (keyText (builtKey o q.1)) = builtKey o q.1
      rw [keyText_built (okn q hq)]
    have names : (tabOf o fs).map (fun p => keyText p.1) = (fs.filter fun p => !isNon p.2 || decide (o.ni = "keep")).map (·.1) := by
      unfold tabOf
      rw [List.map_map]
      refine List.map_congr_left fun q hq => ?_
      exact keyText_built (okn q (List.mem_filter.mp hq).1)
    have nsub : ((tabOf o fs).map fun p => keyText p.1).Sublist (fs.map (·.1)) := by
      rw [names]
      exact List.Sublist.map _ List.filter_sublist
    have nnd : ((tabOf o fs).map fun p => keyText p.1).Nodup := m1.sublist nsub
    have item : ∀ p ∈ tabOf o fs, ∃ r', rawM o n p.2 = some r' ∧ buildM o n r' = some p.2 := fun p hp => by
      obtain ⟨q, hq, e, _⟩ := src p hp
      obtain ⟨p0, hp0, e0⟩ := foundM_items h1 q hq
      rw [e]
      exact fix_it N0 N1 (ok.2 p0 hp0).2 (hn1 p0 hp0) e0
    have hk : keptM o (tabOf o fs) = some (tabOf o fs) := by
      unfold keptM
      rw [keptL_id fun p hp => ?_]
      · show some (if o.od = "rising" then isort ltE (tabOf o fs) else tabOf o fs) = _
        by_cases c : o.od = "rising"
        · rw [if_pos c, isort_id]
          have := (hn2 c).sublist (nsub.trans sub)
          rwa [List.pairwise_map] at this
        · rw [if_neg c]
      · obtain ⟨q, hq, e, _⟩ := src p hp
        rw [e]
        refine ⟨?_, fun z => ?_⟩
        · by_cases c : o.nu = "skip"
          · obtain ⟨p0, hp0, e0⟩ := foundM_items h1 q hq
            rw [show isNon (builtKey o q.1, q.2).2 = isNon q.2 from rfl, buildM_non e0, hn3 c p0 hp0]
            rfl
          · simp [c]
        · refine N1 ?_
          unfold builtKey at z
          by_cases c : (decide (o.dn = "number") && isDig q.1) = true
          · simp at c; exact c.1
          · rw [show (if (decide (o.dn = "number") && isDig q.1) = true then (.inl ((intText? q.1).getD 0) : Key) else .inr q.1) = .inr q.1 from if_neg c] at z
            cases z
    have raw1 : ∀ p ∈ tabOf o fs, rawM o n p.2 = some ((rawM o n p.2).getD .non) := fun p hp => by
      obtain ⟨r', e1, _⟩ := item p hp
      rw [e1]
      rfl
    refine ⟨.tab ((tabOf o fs).map fun p => (keyText p.1, (rawM o n p.2).getD .non)), ?_, ?_⟩
    · show (keptM o (tabOf o fs)).bind (fun l => (pairsM (rawM o n) o l []).map RV.tab) = _
      rw [hk]
      show Option.map _ (pairsM (rawM o n) o (tabOf o fs) []) = _
      rw [pairsM_all2 (g := fun p => (rawM o n p.2).getD .non) raw1 nnd (fun p _ z => by cases z)]
      rfl
    · show (foundM (buildM o n) o ((tabOf o fs).map fun p => (keyText p.1, (rawM o n p.2).getD .non)) []).map (fun l => PV.tab (tabOf o l)) = _
      rw [foundM_all2 (g := fun q => (buildM o n q.2).getD .non) (fun q hq => ?_) (by rw [List.map_nil, List.nil_append, List.map_map]; exact nnd)]
      · rw [List.nil_append, List.map_map, Option.map_some]
        refine congrArg some (congrArg PV.tab ?_)
        have e1 : (tabOf o fs).map ((fun q : Str × RV => (q.1, (buildM o n q.2).getD .non)) ∘ fun p => (keyText p.1, (rawM o n p.2).getD .non)) = (tabOf o fs).map fun p => (keyText p.1, p.2) := by
          refine List.map_congr_left fun p hp => ?_
          obtain ⟨r', e1, e2⟩ := item p hp
          show (keyText p.1, (buildM o n ((rawM o n p.2).getD .non)).getD .non) = _
          rw [e1, Option.getD_some, e2, Option.getD_some]
        rw [e1]
        generalize hes : tabOf o fs = es at *
        unfold tabOf
        rw [List.filter_eq_self.mpr fun q hq => ?_, List.map_map]
        · conv => rhs; rw [← List.map_id es]
          exact List.map_congr_left fun p hp => by
            show (builtKey o (keyText p.1), p.2) = p
            rw [kt p hp]
        · obtain ⟨p, hp, e⟩ := List.mem_map.mp hq
          obtain ⟨q0, _, e0, c0⟩ := src p hp
          rw [← e]
          show (!isNon p.2 || decide (o.ni = "keep")) = true
          rw [e0]
          exact c0
      · obtain ⟨p, hp, e⟩ := List.mem_map.mp hq
        obtain ⟨r', e1, e2⟩ := item p hp
        rw [← e]
        show buildM o n ((rawM o n p.2).getD .non) = some ((buildM o n ((rawM o n p.2).getD .non)).getD .non)
        rw [e1, Option.getD_some, e2]
        rfl
/-- [] does not change -/
theorem probe0_no {n : Nat} (h : ¬ changesM o (n + 1) probe0) : ¬ (o.li = "tuple" ∧ o.tu = "refuse") := fun ⟨h1, h2⟩ => by
  refine h ⟨.row true [], ?_, ?_⟩
  · show (some (PV.row (decide (o.li = "tuple")) [])) = _
    rw [h1]
    rfl
  · show (if (true && decide (o.tu = "refuse")) = true then (none : Option RV) else _).bind _ ≠ _
    rw [h2, if_pos (by rfl)]
    simp
theorem lawA {n : Nat} {v : PV} (ok : okV n v) (N0 : ¬ (o.li = "tuple" ∧ o.tu = "refuse")) (N1 : o.dn = "number" → o.nk = "text") : ¬ changesM o n v := fun ⟨w, h1, h2⟩ => by
  unfold carryM at h1
  obtain ⟨r, e1, e2⟩ := Option.bind_eq_some_iff.mp h1
  obtain ⟨r', e3, e4⟩ := fix_it N0 N1 (okR_of ok e1) (rn_of e1) e2
  refine h2 ?_
  unfold carryM
  rw [e3]
  exact e4
theorem raw_int0 {n : Nat} : rawM o n (.int 0) = some (.int 0) := by
  unfold rawM
  rw [show longI 0 = false by decide +kernel]
  rfl
theorem build_int0 {n : Nat} : buildM o n (.int 0) = some (.int 0) := by
  unfold buildM
  rfl
theorem isort_one {k : Key} {v : PV} : (if o.od = "rising" then isort ltE [(k, v)] else [(k, v)]) = [(k, v)] := by
  split <;> rfl
theorem probe1_no {n : Nat} (h : ¬ changesM o (n + 1) probe1) : o.dn = "number" → o.nk = "text" := fun hd => by
  refine Decidable.byContradiction fun hk => h ⟨.tab [(.inl 5, .int 0)], ?_, fun z => ?_⟩
  · have k1 : keptM o [(.inr "5", .int 0)] = some [(.inr "5", .int 0)] := by
      unfold keptM
      rw [keptL_id (fun p hp => by rw [List.mem_singleton.mp hp]; exact ⟨rfl, fun z => nomatch z⟩)]
      exact congrArg some isort_one
    have r1 : rawM o (n + 1) probe1 = some (.tab [("5", .int 0)]) := by
      show ((keptM o [(.inr "5", .int 0)]).bind fun l => (pairsM (rawM o n) o l []).map RV.tab) = _
      rw [k1]
      show Option.map _ (pairsM (rawM o n) o [(.inr "5", .int 0)] []) = _
      rw [pairsM_all2 (g := fun _ => .int 0) (fun p hp => by rw [List.mem_singleton.mp hp]; exact raw_int0) (by simp) (fun p _ z => by cases z)]
      rfl
    have b1 : buildM o (n + 1) (.tab [("5", .int 0)]) = some (.tab [(.inl 5, .int 0)]) := by
      show (foundM (buildM o n) o [("5", .int 0)] []).map (fun l => PV.tab (tabOf o l)) = _
      rw [foundM_all2 (g := fun _ => .int 0) (fun p hp => by rw [List.mem_singleton.mp hp]; exact build_int0) (by simp)]
      have hb : builtKey o "5" = .inl 5 := by
        unfold builtKey
        rw [if_pos (by rw [hd]; decide +kernel)]
        have : intText? "5" = some 5 := by decide +kernel
        rw [this]
        rfl
      show some (PV.tab (tabOf o [("5", .int 0)])) = _
      show some (PV.tab [(builtKey o "5", .int 0)]) = _
      rw [hb]
    unfold carryM
    rw [r1]
    exact b1
  · unfold carryM at z
    obtain ⟨r, e1, e2⟩ := Option.bind_eq_some_iff.mp z
    have e1 : ((keptM o [(.inl 5, .int 0)]).bind fun l => (pairsM (rawM o n) o l []).map RV.tab) = some r := e1
    have k0 : keptL o [(.inl 5, .int 0)] = if o.nk = "refuse" then none else some [] := by
      show (if (false && decide (o.nu = "skip")) = true then keptL o [] else if (true && decide (o.nk = "refuse")) = true then none else if (!true || decide (o.nk = "text")) = true then (keptL o []).map (fun l => ((.inl 5 : Key), PV.int 0) :: l) else keptL o []) = _
      rw [if_neg (by simp)]
      by_cases c : o.nk = "refuse"
      · rw [if_pos (by simp [c]), if_pos c]
      · rw [if_neg (by simp [c]), if_neg c, if_neg (by simp [hk])]
        rfl
    unfold keptM at e1
    rw [k0] at e1
    by_cases c : o.nk = "refuse"
    · rw [if_pos c] at e1
      cases e1
    · rw [if_neg c] at e1
      have e3 : (some (if o.od = "rising" then isort ltE ([] : List (Key × PV)) else [])).bind (fun l => (pairsM (rawM o n) o l []).map RV.tab) = some r := e1
      rw [show (if o.od = "rising" then isort ltE ([] : List (Key × PV)) else []) = [] by split <;> rfl] at e3
      have : r = .tab [] := by
        cases e3
        rfl
      subst this
      cases e2
theorem law_A {n : Nat} {v : PV} (ok : okV (n + 1) v) (h0 : ¬ changesM o (n + 1) probe0) (h1 : ¬ changesM o (n + 1) probe1) : ¬ changesM o (n + 1) v := lawA ok (probe0_no h0) (probe1_no h1)
theorem carry_row0 {n : Nat} {t : Bool} : carryM o (n + 1) (.row t []) = if (t && decide (o.tu = "refuse")) = true then none else some (.row (decide (o.li = "tuple")) []) := by
  show (if (t && decide (o.tu = "refuse")) = true then (none : Option RV) else some (.row [])).bind (buildM o (n + 1)) = _
  by_cases c : (t && decide (o.tu = "refuse")) = true
  · rw [if_pos c, if_pos c]; rfl
  · rw [if_neg c, if_neg c]; rfl
theorem carry_tab0 {n : Nat} : carryM o (n + 1) (.tab []) = some (.tab []) := by
  show ((some (if o.od = "rising" then isort ltE ([] : List (Key × PV)) else [])).bind fun l => (pairsM (rawM o n) o l []).map RV.tab).bind (buildM o (n + 1)) = _
  rw [show (if o.od = "rising" then isort ltE ([] : List (Key × PV)) else []) = [] by split <;> rfl]
  rfl
theorem law_B {n : Nat} {v : PV} (h0 : ¬ changesM o (n + 1) probe0) (hp : partsV v = 1) : ¬ changesM o (n + 1) v := fun ⟨w, h1, h2⟩ => by
  have N0 := probe0_no h0
  cases v with
  | non =>
    have h1 : (some PV.non) = some w := h1
    cases h1
    exact h2 rfl
  | bl b =>
    have h1 : (some (PV.bl b)) = some w := h1
    cases h1
    exact h2 rfl
  | str x =>
    have h1 : (some (PV.str x)) = some w := h1
    cases h1
    exact h2 rfl
  | int i =>
    have e : ∀ {j : Int}, carryM o (n + 1) (.int j) = (if (longI j && !decide (o.ln = "keep")) = true then (if o.ln = "refuse" then none else some (.str (txt j))) else some (.int j)) := fun {j} => by
      show (if (longI j && !decide (o.ln = "keep")) = true then (if o.ln = "refuse" then none else some (RV.str (txt j))) else some (RV.int j)).bind (buildM o (n + 1)) = _
      split
      · split <;> rfl
      · rfl
    rw [e] at h1
    by_cases c : (longI i && !decide (o.ln = "keep")) = true
    · rw [if_pos c] at h1
      by_cases c2 : o.ln = "refuse"
      · rw [if_pos c2] at h1; cases h1
      · rw [if_neg c2] at h1
        cases h1
        exact h2 rfl
    · rw [if_neg c] at h1
      cases h1
      exact h2 (by rw [e, if_neg c])
  | row t xs =>
    have hx : xs = [] := by
      cases xs with
      | nil => rfl
      | cons x r =>
        have := parts_pos x
        simp [partsV, partsL] at hp
        omega
    subst hx
    rw [carry_row0] at h1
    by_cases c : (t && decide (o.tu = "refuse")) = true
    · rw [if_pos c] at h1; cases h1
    · rw [if_neg c] at h1
      cases h1
      refine h2 ?_
      rw [carry_row0, if_neg]
      intro z
      rw [Bool.and_eq_true] at z
      exact N0 ⟨of_decide_eq_true z.1, of_decide_eq_true z.2⟩
  | tab es =>
    have hx : es = [] := by
      cases es with
      | nil => rfl
      | cons p r =>
        have := parts_pos p.2
        have e : partsP p = partsV p.2 := by cases p; rw [partsP]
        simp [partsV, partsE, e] at hp
        omega
    subst hx
    rw [carry_tab0] at h1
    cases h1
    exact h2 carry_tab0
end K86
/-! K86All: from the head's facts to the law. -/
namespace K86
open PySem PySem.Spec PyProof.Rows L2
/-- what the head must tell -/
structure Facts (K : PySem.W.Frag) (mg : Str → Option Value) (CT CP CU CV CR CW C0 c : Addr) : Prop where
  B : Bl mg
  FT : TF K CT
  FP : PF K CP
  FU : XF K mg CU "Unwritable" "Unwritable.__init__" (inClass (top 9) 0)
  FV : XF K mg CV "Unreadable" "Unreadable.__init__" (inClass (top 10) 0)
  FR : XF K mg CR "Refused" "Refused.__init__" (inClass (top 11) 0)
  XU : XfC K CU
  XV : XfC K CV
  WD : WF K mg CW
  gT : mg "Table" = some (.ref CT)
  gR : mg "Reader" = some (.ref C0)
  gP : mg "Passage" = some (.ref CP)
  dig : ∃ t, mg "MOST_DIGITS" = some (.int 30 t)
  oW : ∃ a, mg "WRITER_OPTIONS" = some (.ref a) ∧ OptsAt K a wRows
  oR : ∃ a, mg "READER_OPTIONS" = some (.ref a) ∧ OptsAt K a rRows
  d13 : Dn K mg "is_integer" (top 13)
  d14 : Dn K mg "kind" (top 14)
  d15 : Dn K mg "fresh" (top 15)
  d16 : Dn K mg "same_rows" (top 16)
  d17 : Dn K mg "same_tables" (top 17)
  d18 : Dn K mg "same" (top 18) [("ordered", .bl false)]
  tI : DmT K CT "Table.__init__" (inClass (top 19) 0)
  tE : Dm K CT "entries" "Table.entries" (inClass (top 19) 1)
  d21 : Dn K mg "what_comes_back" (top 21)
  d22 : Dn K mg "unsettled" (top 22)
  d34 : Dn K mg "key_text" (top 34)
  d35 : Dn K mg "is_digit_key" (top 35)
  d36 : Dn K mg "check_options" (top 36)
  wI : DmC K CW "Writer.__init__" (inClass (top 37) 1) wKws
  rI : DmC K C0 "Reader.__init__" (inClass (top 38) 0) rKws
  pI : DmP K CP "Passage.__init__" (inClass (top 40) 0) pKws
  wRaw : Dm K CP "raw" "Writer.raw" (inClass (top 37) 3)
  wAt : Dm K CP "raw_at" "Writer.raw_at" (inClass (top 37) 5)
  wPairs : Dm K CP "raw_pairs" "Writer.raw_pairs" (inClass (top 37) 7)
  wKept : DmL K CP "kept_entries" "Writer.kept_entries" (inClass (top 37) 6) c
  rBuild : Dm K CP "build" "Reader.build" (inClass (top 38) 2)
  rAt : Dm K CP "built_at" "Reader.built_at" (inClass (top 38) 4)
  rTab : Dm K CP "built_table" "Reader.built_table" (inClass (top 38) 5)
  rKey : Dm K CP "built_key" "Reader.built_key" (inClass (top 38) 6)
  pCarry : Dm K CP "carry" "Passage.carry" (inClass (top 40) 4)
  d42 : Dn K mg "_law_source" (top 42)
  d43 : Dn K mg "_law_draw" (top 43)
  d44 : Dn K mg "_law_pick" (top 44)
  d45 : Dn K mg "_law_word" (top 45)
  d46 : Dn K mg "_law_text_key" (top 46)
  d47 : Dn K mg "_law_focus" (top 47)
  d48 : Dn K mg "_law_is_number" (top 48)
  d49 : Dn K mg "_law_twins" (top 49)
  d50 : Dn K mg "_law_atoms" (top 50)
  d51 : Dn K mg "_law_scalar" (top 51)
  d52 : Dn K mg "_law_key" (top 52)
  d53 : Dn K mg "_law_value" (top 53)
  d54 : Dn K mg "_law_table" (top 54)
  d55 : Dn K mg "_law_parts" (top 55)
  d56 : Dn K mg "_law_passage" (top 56)
  d57 : Dn K mg "_law_making" (top 57)
  d58 : Dn K mg "_law_changes" (top 58)
section
variable {P : Program} {w : World} {K : PySem.W.Frag} {mg : Str → Option Value} {base : Heap} {CT CP CU CV CR CW C0 c PT : Addr} {T : Tb}
theorem law_all {fL : Addr} {fdL : FuncData} (D : FunD K "law" "law" (defArgs (top 59)) (defBody (top 59)) (defScope (top 59)) [] [] fL fdL) (F : Facts K mg CT CP CU CV CR CW C0 c) (TB : LamX.TabB base mg c PT) (hT : T = [(PT, lamQ)]) : FnOk P w K mg base CX0 20 fL fdL ["_law_script"] (spLaw T K) := by
  have hI := ok_is_integer (P := P) (w := w) (base := base) F.d13 F.B F.FT
  have hKi := ok_kind (P := P) (w := w) (base := base) F.d14 F.B F.FT F.gT
  have hF := ok_fresh (P := P) (w := w) (base := base) (T := T) F.d15 F.B F.FT
  have hS := ok_same (P := P) (w := w) (base := base) (T := T) F.d18 F.d16 F.d17 F.B F.FT F.gT hKi
  have hTm : ∀ n, HasT P w K mg base T CT n := fun n => ok_tabI F.tI F.B F.FT hI (hF n)
  have hEn : ∀ n, HasM P w K mg base CX0 (n + 2) CT "entries" ["self"] (spEntries T CT n) := fun n => ok_entries F.tE F.FT (hF n)
  have hK := ok_key_text (P := P) (w := w) (base := base) F.d34 F.B F.FT
  have hDg := ok_is_dig (P := P) (w := w) (base := base) F.d35 F.B F.FT F.dig
  have hc := ok_check (P := P) (w := w) (base := base) (T := T) F.d36 F.B
  have hW := ok_WI F.wI F.FP hc F.oW
  have hR := ok_RI F.rI F.FP hc F.oR
  have hP := ok_PI F.pI F.FP F.WD.gl F.gR hW hR
  have hRA := ok_rawat (P := P) (w := w) F.wAt F.wPairs F.wKept TB hT F.B F.FP F.FT F.gT F.WD F.FU hI hK 4
  have hRw := ok_raw F.wRaw F.FP (by decide) hRA
  have hBk := ok_bkey F.rKey F.B F.FP hDg
  have hBA := ok_bat F.rAt F.rTab F.B F.FP F.FT F.FV F.gT hBk hTm 4
  have hBd := ok_build F.rBuild F.FP (by decide) hBA
  have hCa := ok_carry F.pCarry F.FP F.FU F.FV F.FR F.XU F.XV (by decide) hRw hBd
  have hWc := ok_wcb F.d21 F.FP F.FR hCa
  have hUn := ok_uns (n := 3) F.d22 F.gT (by decide) (by decide) (hTm 3) (hS 5) hWc
  have hDr := ok_draw (P := P) (w := w) (base := base) (T := T) F.d43 F.B
  have hPk := ok_pick F.d44 F.B hDr
  have hWo := ok_word F.d45 F.B hDr
  have hTk := ok_text_key F.d46 F.B hDr hWo
  have hFo := ok_focus F.d47 F.B hDr hPk hTk
  have hNu := ok_isnum (P := P) (w := w) (base := base) F.d48 F.B
  have hTw := ok_twins (T := T) F.d49 F.B F.FT hNu
  have hAt := ok_atoms F.d50 F.B hDr hWo
  have hSc := ok_scalar F.d51 F.B hDr hPk hWo
  have hLk := ok_lkey F.d52 F.B hDr hPk hWo
  have hVa := ok_val F.d53 F.d54 F.B F.gT hTm hLk hDr hSc 4
  have hPa := ok_parts F.d55 F.B F.FT F.gT hEn 4
  have hSo := ok_source (P := P) (w := w) (base := base) (T := T) F.d42 F.B
  have hLp := ok_lpas F.d56 F.B F.gP hP hDr
  have hMk := ok_making F.d57 F.B F.FP F.gP hP hDr
  have hCh := ok_changes F.d58 F.FP F.FR (by decide) (hS 5) hCa
  exact ok_law (kc := 18) D F.B (by decide) (by decide) (fun o v _ ov h0 h1 => law_A ov h0 h1) (fun o v _ _ h0 hp => law_B h0 hp) hSo hFo hAt hLp hMk hUn hCh hTw hVa hPa
end
end K86
/-! K86HeadF: what the head's checks say. -/
namespace K86
open PySem PySem.Spec PyProof.Rows L2
/-! ### the facts -/
section
variable {K : PySem.W.Frag} {h : Heap} {mg : Str → Option Value}
theorem sf1 (c : He.SaysD fa fn K) (i : Nat) {f : He.Fa} (q : fa[i]? = some f := by rfl) : f.ok K = true := c.fact i q
theorem sfFree (c : He.SaysD fa fn K) {x : Str} (q : x ∈ free0) : (He.Fa.free x).ok K = true := c.facts (List.mem_append_right _ (List.mem_append_left _ (List.mem_map_of_mem q)))
theorem sfGlo (c : He.SaysD fa fn K) {x : Str} (q : x ∈ glo0) : (He.Fa.glo x).ok K = true := c.facts (List.mem_append_right _ (List.mem_append_right _ (List.mem_append_left _ (List.mem_map_of_mem q))))
theorem sfDef (c : He.SaysD fa fn K) {q : Str × Nat} (hq : q ∈ gl1 ++ gl2) : (He.Fa.glo q.1).ok K = true := c.facts (List.mem_append_right _ (List.mem_append_right _ (List.mem_append_right _ (List.mem_append_left _ (List.mem_map_of_mem (f := fun q : Str × Nat => He.Fa.glo q.1) hq)))))
theorem sfNo (c : He.SaysD fa fn K) {x : Str} (q : x ∈ optNames) : (He.Fa.noat "Passage" x).ok K = true := c.facts (List.mem_append_right _ (List.mem_append_right _ (List.mem_append_right _ (List.mem_append_right _ (List.mem_append_left _ (List.mem_map_of_mem q))))))
theorem sfMe (c : He.SaysD fa fn K) {x : Str} (q : x ∈ mts) : (He.Fa.meth "Passage" x).ok K = true := c.facts (List.mem_append_right _ (List.mem_append_right _ (List.mem_append_right _ (List.mem_append_right _ (List.mem_append_right _ (List.mem_map_of_mem q))))))
theorem dn_of (X : K.In h) (G : h.Ns mainGlobals mg) (c : He.SaysD fa fn K) {x : Str} {n : Nat} (q : (x, n) ∈ gl1 ++ gl2) : Dn K mg x (top n) := by
  obtain ⟨fd, F⟩ := c.defs (d := dN x n) (List.mem_append_right _ (List.mem_map_of_mem (f := fun q : Str × Nat => dN q.1 q.2) q))
  exact ⟨_, fd, F, He.glo_ok X G (sfDef c q)⟩
theorem dm_of (c : He.SaysD fa fn K) {m ql : Str} {i j : Nat} (q : dM "Passage" m ql i j ∈ fnM) (hm : m ∈ mts) : Dm K (He.ga K "Passage") m ql (inClass (top i) j) := by
  obtain ⟨fd, F⟩ := c.defs (d := dM "Passage" m ql i j) (List.mem_append_left _ q)
  exact ⟨_, fd, F, He.meth_ok (sfMe c hm)⟩
theorem xf_of (X : K.In h) (G : h.Ns mainGlobals mg) (c : He.SaysD fa fn K) {x ql : Str} {i : Nat} (hx : xfB K x = true) (hg : x ∈ glo0) (q : dM x "__init__" ql i 0 ∈ fnM) : XF K mg (He.ga K x) x ql (inClass (top i) 0) := by
  obtain ⟨h1, hx⟩ := He.ba hx
  obtain ⟨h2, hx⟩ := He.ba hx
  obtain ⟨h3, hx⟩ := He.ba hx
  obtain ⟨h4, h5⟩ := He.ba hx
  obtain ⟨fd, F⟩ := c.defs (d := dM x "__init__" ql i 0) (List.mem_append_left _ q)
  exact ⟨oexB_ok h1, He.glo_ok X G (sfGlo c hg), fun f hf => He.eqO_ok (List.all_eq_true.mp h2 f hf), ⟨_, fd, F, He.eqO_ok h3, of_decide_eq_true h4⟩, of_decide_eq_true h5⟩
theorem bl_of (X : K.In h) (G : h.Ns mainGlobals mg) (c : He.SaysD fa fn K) : Bl mg := by
  have k : ∀ x ∈ free0, mg x = none := fun x hx => He.free_ok X G (sfFree c hx)
  exact ⟨k _ (List.mem_of_getElem? (i := 0) rfl), k _ (List.mem_of_getElem? (i := 1) rfl), k _ (List.mem_of_getElem? (i := 2) rfl), k _ (List.mem_of_getElem? (i := 3) rfl), k _ (List.mem_of_getElem? (i := 4) rfl), k _ (List.mem_of_getElem? (i := 5) rfl), k _ (List.mem_of_getElem? (i := 6) rfl), k _ (List.mem_of_getElem? (i := 7) rfl),
    k _ (List.mem_of_getElem? (i := 8) rfl), k _ (List.mem_of_getElem? (i := 9) rfl), k _ (List.mem_of_getElem? (i := 10) rfl), k _ (List.mem_of_getElem? (i := 11) rfl), k _ (List.mem_of_getElem? (i := 12) rfl), k _ (List.mem_of_getElem? (i := 13) rfl), k _ (List.mem_of_getElem? (i := 14) rfl), k _ (List.mem_of_getElem? (i := 15) rfl)⟩
theorem facts_of (X : K.In h) (G : h.Ns mainGlobals mg) (c : SaysK h K) : Facts K mg (He.ga K "Table") (He.ga K "Passage") (He.ga K "Unwritable") (He.ga K "Unreadable") (He.ga K "Refused") (He.ga K "Writer") (He.ga K "Reader") (He.cT K kePl).1 := by
  have d := c.d
  obtain ⟨x1, x⟩ := He.ba c.ex
  obtain ⟨x2, x⟩ := He.ba x
  obtain ⟨x3, x⟩ := He.ba x
  obtain ⟨x4, x⟩ := He.ba x
  obtain ⟨x5, x⟩ := He.ba x
  obtain ⟨x6, x⟩ := He.ba x
  obtain ⟨x7, x⟩ := He.ba x
  obtain ⟨x8, x⟩ := He.ba x
  obtain ⟨x9, x⟩ := He.ba x
  obtain ⟨xA, x⟩ := He.ba x
  obtain ⟨xB, x⟩ := He.ba x
  obtain ⟨xC, xD⟩ := He.ba x
  have gl : ∀ x ∈ glo0, mg x = some (.ref (He.ga K x)) := fun x hx => He.glo_ok X G (sfGlo d hx)
  have dn : ∀ (i : Nat) {x : Str} {n : Nat}, (gl1 ++ gl2)[i]? = some (x, n) → Dn K mg x (top n) := fun i _ _ q => dn_of X G d (List.mem_of_getElem? q)
  have dm : ∀ (i j : Nat) {m ql : Str} {a b : Nat}, fnM[i]? = some (dM "Passage" m ql a b) → mts[j]? = some m → Dm K (He.ga K "Passage") m ql (inClass (top a) b) := fun i j _ _ _ _ q1 q2 => dm_of d (List.mem_of_getElem? q1) (List.mem_of_getElem? q2)
  refine
    { B := bl_of X G d
      FT := tfB_ok x1 (He.cls_ok (d.fact 1 rfl)) (He.noat_ok (d.fact 3 rfl))
      FP := ⟨He.cls_ok (d.fact 2 rfl), fun f hf => He.noat_ok (sfNo d hf)⟩
      FU := xf_of X G d x2 (List.mem_of_getElem? (i := 5) rfl) (List.mem_of_getElem? (i := 3) rfl)
      FV := xf_of X G d x3 (List.mem_of_getElem? (i := 6) rfl) (List.mem_of_getElem? (i := 4) rfl)
      FR := xf_of X G d x4 (List.mem_of_getElem? (i := 7) rfl) (List.mem_of_getElem? (i := 5) rfl)
      XU := L2.xfB_ok x5
      XV := L2.xfB_ok x6
      WD := ⟨gl _ (List.mem_of_getElem? (i := 4) rfl), ?_⟩
      gT := gl _ (List.mem_of_getElem? (i := 1) rfl)
      gR := gl _ (List.mem_of_getElem? (i := 2) rfl)
      gP := gl _ (List.mem_of_getElem? (i := 3) rfl)
      dig := He.int_ok X G (d.fact 0 rfl)
      oW := ⟨_, gl _ (List.mem_of_getElem? (i := 8) rfl), optsB_ok xC⟩
      oR := ⟨_, gl _ (List.mem_of_getElem? (i := 9) rfl), optsB_ok xD⟩
      d13 := dn 0 rfl
      d14 := dn 1 rfl
      d15 := dn 2 rfl
      d16 := dn 3 rfl
      d17 := dn 4 rfl
      d18 := ?_
      tI := ?_
      tE := ?_
      d21 := dn 5 rfl
      d22 := dn 6 rfl
      d34 := dn 7 rfl
      d35 := dn 8 rfl
      d36 := dn 9 rfl
      wI := ?_
      rI := ?_
      pI := ?_
      wRaw := dm 9 0 rfl rfl
      wAt := dm 10 1 rfl rfl
      wPairs := dm 11 2 rfl rfl
      wKept := ?_
      rBuild := dm 13 4 rfl rfl
      rAt := dm 14 5 rfl rfl
      rTab := dm 15 6 rfl rfl
      rKey := dm 16 7 rfl rfl
      pCarry := dm 17 8 rfl rfl
      d42 := dn 10 rfl
      d43 := dn 11 rfl
      d44 := dn 12 rfl
      d45 := dn 13 rfl
      d46 := dn 14 rfl
      d47 := dn 15 rfl
      d48 := dn 16 rfl
      d49 := dn 17 rfl
      d50 := dn 18 rfl
      d51 := dn 19 rfl
      d52 := dn 20 rfl
      d53 := dn 21 rfl
      d54 := dn 22 rfl
      d55 := dn 23 rfl
      d56 := dn 24 rfl
      d57 := dn 25 rfl
      d58 := dn 26 rfl }
  · obtain ⟨u, hu⟩ := cvB_ok x9
    exact ⟨_, u, rdB_ok x7, hu⟩
  · obtain ⟨fd, F⟩ := d.defs (d := dSame) (List.mem_append_left _ (List.mem_of_getElem? (i := 0) rfl))
    exact ⟨_, fd, F, gl _ (List.mem_of_getElem? (i := 0) rfl)⟩
  · obtain ⟨fd, F⟩ := d.defs (d := dTab) (List.mem_append_left _ (List.mem_of_getElem? (i := 1) rfl))
    exact ⟨_, fd, _, F, He.mkr_ok (d.fact 5 rfl)⟩
  · obtain ⟨fd, F⟩ := d.defs (d := dM "Table" "entries" "Table.entries" 19 1) (List.mem_append_left _ (List.mem_of_getElem? (i := 2) rfl))
    exact ⟨_, fd, F, He.meth_ok (d.fact 4 rfl)⟩
  · obtain ⟨fd, F⟩ := d.defs (d := dK "Writer" "__init__" "Writer.__init__" 37 1 wK0) (List.mem_append_left _ (List.mem_of_getElem? (i := 6) rfl))
    obtain ⟨u, hu⟩ := cvB_ok xA
    obtain rfl : u = Value.ref _ := hu.rel
    exact ⟨_, fd, _, F, rdB_ok x7, hu⟩
  · obtain ⟨fd, F⟩ := d.defs (d := dK "Reader" "__init__" "Reader.__init__" 38 0 rK0) (List.mem_append_left _ (List.mem_of_getElem? (i := 7) rfl))
    obtain ⟨u, hu⟩ := cvB_ok xB
    obtain rfl : u = Value.ref _ := hu.rel
    exact ⟨_, fd, _, F, rdB_ok x8, hu⟩
  · obtain ⟨fd, F⟩ := d.defs (d := dK "Passage" "__init__" "Passage.__init__" 40 0 (wK0 ++ rK0)) (List.mem_append_left _ (List.mem_of_getElem? (i := 8) rfl))
    exact ⟨_, fd, F, He.mkr_ok (d.fact 6 rfl)⟩
  · obtain ⟨fd, F⟩ := d.defs (d := dM "Passage" "kept_entries" "Writer.kept_entries" 37 6) (List.mem_append_left _ (List.mem_of_getElem? (i := 12) rfl))
    obtain ⟨oc, od, dV, kV, doc, pm, an, cdv, ct, osl, rfl, lk, hcd, hD, _⟩ := F.ex
    have eD : dV = .none := by
      rcases hD with ⟨_, e⟩ | ⟨e, _⟩
      · exact e
      · exact absurd rfl e
    subst eD
    obtain ⟨cc, rfl⟩ := He.codeIn_ref hcd
    have ec : He.codeOf K kePl = cc := He.codeOf_eq lk rfl
    have ec2 : (He.cT K kePl).1 = cc := ec
    rw [ec2]
    exact ⟨_, oc, od, kV, doc, pm, an, ct, osl, lk, hcd, He.meth_ok (sfMe d (List.mem_of_getElem? (i := 3) rfl))⟩
end
/-- the law's promise at the head's heap -/
theorem law_at {w : World} {h : Heap} {mg : Str → Option Value} {fL : Addr} (Y : hkK.says w h) (G : h.Ns mainGlobals mg) (hm : mg ("law" : Str) = some (.ref fL)) : ∃ K : PySem.W.Frag, K.In h ∧ LamX.LawAtS PySem.Challenge.rw_keysthroughtext_k86_whole_unsettled w K CX0 20 63 "_law_script" mg fL h := by
  obtain ⟨K, KX, c⟩ := Y
  have F := facts_of KX G c
  have ml : (("law" : Str), 59) ∈ gl1 ++ gl2 := List.mem_of_getElem? (i := 27) rfl
  obtain ⟨fd, D⟩ := c.d.defs (d := dN "law" 59) (List.mem_append_right _ (List.mem_map_of_mem (f := fun q : Str × Nat => dN q.1 q.2) ml))
  have e : fL = He.ga K "law" := Value.ref.inj (Option.some.inj (hm.symm.trans (He.glo_ok KX G (sfDef c.d ml))))
  subst e
  refine ⟨K, KX, fd, [He.cT K kePl], spLaw [((He.cT K kePl).2, lamQ)] K, fun p hp => ?_, fun p hp => ?_, fun p hp => ?_, fun s u => ?_, fun H a ns hl _ hT sq => ⟨a, ns, rfl, sq, hl, fun q hq => ?_, fun _ => rfl⟩, fun base _ _ hTB => law_all D F (hTB _ (List.mem_singleton.mpr rfl)) rfl⟩
  · rw [List.mem_singleton.mp hp]
    exact c.empty
  · rw [List.mem_singleton.mp hp]
    exact c.out
  · rw [List.mem_singleton.mp hp]
    exact PySem.W.codeHd_of_K KX c.hd
  · exact FunD.bindsA (ps := ["_law_script"]) D (fun _ _ _ _ _ _ us hl => match us, hl with | [_], _ => rfl) s [u] rfl
  · rw [List.mem_singleton.mp hq]
    exact ⟨#[], hT _ (List.mem_singleton.mpr rfl), (by simp [TriplesOk]), fun pos cv z => by simp [codeAmong] at z⟩
end K86
open PySem PySem.W PySem.Calls PyProof.Rows
theorem PySem.Challenge.cw_keysthroughtext_k86_whole_unsettled_holds : PySem.Challenge.rw_keysthroughtext_k86_whole_unsettled.Holds := by
  w_on; o_law
  refine HandSHeadRun.head_any (r := OpenLaw.row PySem.Challenge.rw_keysthroughtext_k86_whole_unsettled) (q := view (OpenLaw.row PySem.Challenge.rw_keysthroughtext_k86_whole_unsettled).prog [59]) (H := K86.hkK) (ob := K86.obT) (M := 9000) (loose := K86.names) (d := HandSHeadRun.topDef (OpenLaw.row PySem.Challenge.rw_keysthroughtext_k86_whole_unsettled).prog 59) (kwd := []) K86.obT_eq
    (by kernel_rfl) (fun s => by kernel_rfl) K86.run (by kernel_rfl) (by kernel_rfl) (by kernel_rfl) (by rfl) (by first | assumption | decide +kernel) (by decide +kernel) ⟨rfl, rfl, rfl, rfl, rfl, by decide +kernel⟩ ?hw ?hc
  case hw => w_witness2
  case hc =>
    refine LamX.walk_ofTsE (l := PySem.Challenge.rw_keysthroughtext_k86_whole_unsettled) (n := 63) (k := 20) (x := "_law_script") (CX := fun _ => L2.CX0) rfl (by decide) (by kernel_rfl) ⟨rfl, by decide, by decide⟩ ?F (fun _ _ _ _ _ z => z)
    intro w mg fa h Y G hmg0
    have hmg : mg ("law" : PySem.Str) = some (.ref fa) := by
      have e : (HandSHeadRun.topDef (OpenLaw.row PySem.Challenge.rw_keysthroughtext_k86_whole_unsettled).prog 59).name = ("law" : PySem.Str) := by kernel_rfl
      rw [← e]
      exact hmg0
    exact K86.law_at Y G hmg
