import PyProof.Rows.All
import Wide.All
import OpenK.AllK
import Wide.FinOn
import PySem.Value
import HandS.ForMost
import HandS.ForExc
import HandS.Wide
import HandS.Nested
import HandS.CallSlots
import HandS.Walk
import HandS.Text
import HandS.Dict
import HandS.IsInst
import HandS.WordsDict
import HandS.Deep
import HandS.Small
import HandS.Iter
import KE.KExcSuper
import HandS.ExcInit
import HandS.NestedK
import HandS.FStr
import KE.KExcIs
import HandS.ExcIs
import HandS.ExcField
import HandS.EndTab
import HandS.HeadWalk
import HandS.HeadHook4
import HandS.Head0
import HandS.Head1
import HandS.Head2
import PyProof.Rows.RegStrFacts
import PyProof.FitsInt
import KE.IntBitsLaws
import PyProof.StrOps2
import HandS.TryMany
import HandS.StrMore
import PyProof.TupleOps
import HandS.HotCalls
import KE.SortData
import HandS.SortKw
import PyProof.Rows.Walk
import PySem.Challenge.RW_typeformes_k28_way_paper_bars_less
set_option Elab.async false
set_option linter.all false
set_option maxRecDepth 100000
set_option maxHeartbeats 2000000
/-! pure part: plain data, slots, readings -/
namespace Q
open PySem
abbrev Ky := Sum Int Str
/-- plain data -/
inductive D where
  | non | bl (b : Bool) | int (i : Int) | str (x : Str)
  | lst (xs : List D) | tup (xs : List D)
  | dk (kvs : List (Ky × D)) | dt (kvs : List (List Ky × D))
  | obj (C : Addr) (fs : List (Str × D))
  | ref (a : Addr) | ty (n : String)
  | scr (ns : List Int)
  deriving Inhabited
/-- what a slot (or a temporary) holds: m tells that nothing borrowed is within -/
inductive SV where
  | no
  | fr (m : Bool) (d : D)
  | ol (m : Bool) (xs : List D)
  | od (m : Bool) (kvs : List (Ky × D))
  | oo (m : Bool) (C : Addr) (fs : List (Str × D))
  /-- all that is within is owned: the cells L -/
  | ot (L : List Addr) (d : D)
  | sto (a : Addr)
  | so (a : Addr) (kvs : List (Ky × D))
  | bor (i : Nat)
  /-- an own dict whose keys are tuples -/
  | oe (m : Bool) (kvs : List (List Ky × D))
  deriving Inhabited
/-- an error of the program's own: its class, its fields -/
inductive EC where
  | bv | un | tk | cl | lk | uf | bt | rm | ve
  deriving DecidableEq, Inhabited
/-- d is c or under it -/
def EC.sub (d c : EC) : Bool := match c with
  | .rm => true
  | .ve => true
  | .bv => (match d with | .bv => true | _ => false)
  | .un => (match d with | .un => true | _ => false)
  | .tk => (match d with | .tk => true | _ => false)
  | .cl => (match d with | .cl => true | _ => false)
  | .lk => (match d with | .lk => true | _ => false)
  | .uf => (match d with | .uf => true | _ => false)
  | .bt => (match d with | .bt => true | _ => false)
/-- one of the seven that are raised -/
def EC.own : EC → Bool
  | .rm | .ve => false
  | _ => true
structure Exn where
  cls : EC
  fs : List (Str × D)
abbrev PSt := List SV
/-- both ways of a test -/
structure ifB (b : Bool) (p q : Prop) : Prop where
  t : b = true → p
  f : b = false → q
theorem ifB.T {b : Bool} {p q : Prop} (hb : b = true) (h : p) : ifB b p q := ⟨fun _ => h, fun e => Bool.noConfusion (hb.symm.trans e)⟩
theorem ifB.F {b : Bool} {p q : Prop} (hb : b = false) (h : q) : ifB b p q := ⟨fun e => Bool.noConfusion (hb.symm.trans e), fun _ => h⟩
abbrev RK := SV → PSt → Prop
abbrev RX := Exn → PSt → Prop
abbrev RE := PSt → RK → RX → Prop
abbrev RT := PSt → (Bool → PSt → Prop) → RX → Prop
abbrev RA := PSt → (List SV → PSt → Prop) → RX → Prop
structure PEnds where
  nx : PSt → Prop
  rt : RK
  bk : PSt → Prop := fun _ => False
  ct : PSt → Prop := fun _ => False
  ex : RX
abbrev RS := PEnds → PSt → Prop
def SV.stoOf : SV → Option Addr
  | .sto a => some a
  | .so a _ => some a
  | _ => none
/-- the draws' store, opened -/
def stoKvs (ns : List Int) (pos now left seed turn : Int) (great : Bool) : List (Ky × D) :=
  [(.inr ("cells" : Str), .lst (ns.map .int)), (.inr ("at" : Str), .int pos), (.inr ("now" : Str), .int now), (.inr ("left" : Str), .int left), (.inr ("great" : Str), .bl great), (.inr ("seed" : Str), .int seed), (.inr ("turn" : Str), .int turn)]
def isSto (kvs : List (Ky × D)) : Prop := ∃ (ns : List Int) (pos now left seed turn : Int) (great : Bool), kvs = stoKvs ns pos now left seed turn great ∧
  ns.length ≤ 63 ∧ (∀ n ∈ ns, n.natAbs < 2 ^ 1048577) ∧ 0 ≤ pos ∧ 0 ≤ now ∧ now.natAbs < 2 ^ 2000 ∧ 0 ≤ seed ∧ seed < 1000003
def SV.isBor : SV → Bool
  | .bor _ => true
  | _ => false
/-- what may be read -/
def SV.view0 : SV → Option (Bool × D)
  | .fr m d => some (m, d)
  | .ol m xs => some (m, .lst xs)
  | .od m kvs => some (m, .dk kvs)
  | .oe m kvs => some (m, .dt kvs)
  | .oo m C fs => some (m, .obj C fs)
  | .sto a => some (true, .ref a)
  | .so _ kvs => some (false, .dk kvs)
  | _ => none
def SV.view (ρ : PSt) : SV → Option (Bool × D)
  | .bor i => match ρ[i]? with
    | some sv => sv.view0
    | none => none
  | sv => sv.view0
/-- what it is when it is handed out for good: frozen; the slots behind it -/
def SV.take0 : SV → Option (Bool × D)
  | .fr m d => some (m, d)
  | .ol m xs => some (m, .lst xs)
  | .od m kvs => some (m, .dk kvs)
  | .oe m kvs => some (m, .dt kvs)
  | .oo m C fs => some (m, .obj C fs)
  | _ => none
def SV.take (ρ : PSt) : SV → Option (Bool × D × PSt)
  | .bor i => match ρ[i]? with
    | some sv => (match sv.take0 with
      | some (m, d) => some (m, d, ρ.set i (.fr m d))
      | none => none)
    | none => none
  | sv => (match sv.take0 with
    | some (m, d) => some (m, d, ρ)
    | none => none)
def takeAll : List SV → PSt → Option (Bool × List D × PSt)
  | [], ρ => some (true, [], ρ)
  | sv :: r, ρ => match sv.take ρ with
    | none => none
    | some (m, d, ρ1) => (match takeAll r ρ1 with
      | none => none
      | some (m', ds, ρ2) => some (m && m', d :: ds, ρ2))
/-- what leaves the def -/
def SV.mv (ρ : PSt) : SV → SV
  | .bor i => (ρ[i]?).getD .no
  | sv => sv
mutual
/-- nothing in it can be changed -/
def D.safe : D → Bool
  | .non | .bl _ | .int _ | .str _ | .ref _ | .ty _ => true
  | .tup xs => safes xs
  | _ => false
def safes : List D → Bool
  | [] => true
  | x :: r => D.safe x && safes r
end
def SV.dem (b : Bool) : SV → SV
  | .fr m d => .fr (m && (b || d.safe)) d
  | .ol m xs => .ol (m && b) xs
  | .od m kvs => .od (m && b) kvs
  | .oe m kvs => .oe (m && b) kvs
  | .oo m C fs => .oo (m && b) C fs
  | .ot L d => .ot L d
  | sv => sv
/-- how a parameter is handed over: s: frozen; b: lent to be read; t: the draws' store -/
inductive Mode where
  | s | b | t
def passB (sv : SV) (ρ : PSt) : Option (Bool × D × PSt) := match sv.take ρ with
  | some (_, d, ρ1) => some (true, d, ρ1)
  | none => none
def passT (sv : SV) (ρ : PSt) : Option (Bool × D × PSt) := match sv with
  | .bor i => (match ρ[i]? with
    | some (.sto a) => some (true, .ref a, ρ)
    | _ => none)
  | _ => none
def passA (mo : Mode) (sv : SV) (ρ : PSt) : Option (Bool × D × PSt) := match mo with
  | .s => sv.take ρ
  | .b => passB sv ρ
  | .t => passT sv ρ
theorem passB_ok {sv : SV} {ρ ρ1 : PSt} {m : Bool} {d : D} (h : passB sv ρ = some (m, d, ρ1)) : ∃ m', sv.take ρ = some (m', d, ρ1) ∧ m = true := by
  unfold passB at h
  split at h
  · rename_i m' d' ρ' e
    injection h with h
    injection h with a h
    injection h with b c
    subst a b c
    exact ⟨m', e, rfl⟩
  · cases h
theorem passT_ok {sv : SV} {ρ ρ1 : PSt} {m : Bool} {d : D} (h : passT sv ρ = some (m, d, ρ1)) : ∃ i a, sv = .bor i ∧ ρ[i]? = some (.sto a) ∧ m = true ∧ d = .ref a ∧ ρ1 = ρ := by
  unfold passT at h
  split at h
  · rename_i i
    split at h
    · rename_i a e
      injection h with h
      injection h with h1 h
      injection h with h2 h3
      exact ⟨i, a, rfl, e, h1.symm, h2.symm, h3.symm⟩
    · cases h
  · cases h
def passAll : List Mode → List SV → PSt → Option (Bool × List D × PSt)
  | [], [], ρ => some (true, [], ρ)
  | mo :: ms, sv :: svs, ρ => match passA mo sv ρ with
    | none => none
    | some (m, d, ρ1) => (match passAll ms svs ρ1 with
      | none => none
      | some (m', ds, ρ2) => some (m && m', d :: ds, ρ2))
  | _, _, _ => none
/-- the slots at a def's entry -/
def slot0 : Mode → D → SV
  | .s, d => .fr true d
  | .b, d => .fr false d
  | .t, .ref a => .sto a
  | .t, _ => .no
def slots0 : List Mode → List D → List SV
  | mo :: ms, d :: ds => slot0 mo d :: slots0 ms ds
  | _, _ => []
/-! ### continuations that freeze, that read -/
def kT (Φ : Bool → D → PSt → Prop) : RK := fun sv ρ => match sv.take ρ with
  | some (m, d, ρ2) => Φ m d ρ2
  | none => False
def kTs (Φ : Bool → List D → PSt → Prop) : List SV → PSt → Prop := fun svs ρ => match takeAll svs ρ with
  | some (m, ds, ρ2) => Φ m ds ρ2
  | none => False
def kV (Φ : Bool → D → PSt → Prop) : RK := fun sv ρ => match sv.view ρ with
  | some (m, d) => Φ m d ρ
  | none => False
theorem kT_ok {Φ : Bool → D → PSt → Prop} {sv : SV} {ρ : PSt} (h : kT Φ sv ρ) : ∃ m d ρ2, sv.take ρ = some (m, d, ρ2) ∧ Φ m d ρ2 := by
  unfold kT at h
  split at h
  · rename_i m d ρ2 e; exact ⟨m, d, ρ2, e, h⟩
  · exact h.elim
theorem kTs_ok {Φ : Bool → List D → PSt → Prop} {svs : List SV} {ρ : PSt} (h : kTs Φ svs ρ) : ∃ m ds ρ2, takeAll svs ρ = some (m, ds, ρ2) ∧ Φ m ds ρ2 := by
  unfold kTs at h
  split at h
  · rename_i m d ρ2 e; exact ⟨m, d, ρ2, e, h⟩
  · exact h.elim
theorem kV_ok {Φ : Bool → D → PSt → Prop} {sv : SV} {ρ : PSt} (h : kV Φ sv ρ) : ∃ m d, sv.view ρ = some (m, d) ∧ Φ m d ρ := by
  unfold kV at h
  split at h
  · rename_i m d e; exact ⟨m, d, e, h⟩
  · exact h.elim
def kA (Φ : RK) : RK := fun sv ρ => match sv with
  | .bor i => kT (fun m d ρ2 => Φ (.fr m d) ρ2) (.bor i) ρ
  | sv => Φ sv ρ
def kV2 (F : Bool → D → Bool → D → Prop) (s1 s2 : SV) (ρ : PSt) : Prop := match s1.view ρ, s2.view ρ with
  | some (m1, d1), some (m2, d2) => F m1 d1 m2 d2
  | _, _ => False
theorem kV2_ok {F : Bool → D → Bool → D → Prop} {s1 s2 : SV} {ρ : PSt} (h : kV2 F s1 s2 ρ) : ∃ m1 d1 m2 d2, s1.view ρ = some (m1, d1) ∧ s2.view ρ = some (m2, d2) ∧ F m1 d1 m2 d2 := by
  unfold kV2 at h
  split at h
  · rename_i m1 d1 m2 d2 e1 e2; exact ⟨m1, d1, m2, d2, e1, e2, h⟩
  · exact h.elim
def kB (Φ : Bool → PSt → Prop) : RK := fun sv ρ => match sv with
  | .fr _ (.bl b) => Φ b ρ
  | _ => False
theorem kB_ok {Φ : Bool → PSt → Prop} {sv : SV} {ρ : PSt} (h : kB Φ sv ρ) : ∃ m b, sv = .fr m (.bl b) ∧ Φ b ρ := by
  unfold kB at h
  split at h
  · rename_i m b; exact ⟨m, b, rfl, h⟩
  · exact h.elim
/-! ### names, constants, arguments -/
def rName (i : Nat) : RE := fun ρ k _ => match ρ[i]? with
  | some (.fr m d) => k (.fr m d) ρ
  | some .no => False
  | some _ => k (.bor i) ρ
  | none => False
def rC (d : D) : RE := fun ρ k _ => k (.fr true d) ρ
def rNil : RA := fun ρ k _ => k [] ρ
def rCons (p : RE) (q : RA) : RA := fun ρ k x => p ρ (fun sv ρ1 => q ρ1 (fun svs ρ2 => k (sv :: svs) ρ2) x) x
/-! ### operators by values -/
abbrev Op2 := Bool → D → Bool → D → (SV → Prop) → Prop
def rOp2 (o : Op2) (pa pb : RE) : RE := fun ρ k x => pa ρ (fun s1 ρ1 => pb ρ1 (fun s2 ρ2 => kV2 (fun m1 d1 m2 d2 => o m1 d1 m2 d2 fun r => k r ρ2) s1 s2 ρ2) x) x
def rB (p : RE) : RT := fun ρ k x => p ρ (kB k) x
abbrev line : Nat := 16777216
def oAdd : Op2 := fun m1 d1 m2 d2 k => match d1, d2 with
  | .int i, .int j => k (.fr true (.int (i + j)))
  | .str x, .str y => x.length + y.length ≤ line ∧ k (.fr true (.str (x ++ y)))
  | .lst xs, .lst ys => xs.length + ys.length ≤ line ∧ k (.ol (m1 && m2) (xs ++ ys))
  | _, _ => False
def oInt (f : Int → Int → Int) (C : Int → Int → Prop) : Op2 := fun _ d1 _ d2 k => match d1, d2 with
  | .int i, .int j => C i j ∧ k (.fr true (.int (f i j)))
  | _, _ => False
def oCmpI (f : Int → Int → Bool) : Op2 := fun _ d1 _ d2 k => match d1, d2 with
  | .int i, .int j => k (.fr true (.bl (f i j)))
  | _, _ => False
abbrev oSub : Op2 := oInt (fun i j => i - j) fun _ _ => True
abbrev oMul : Op2 := oInt (fun i j => i * j) fun i j => (-(2 ^ 64) < i ∧ i < 2 ^ 64) ∨ (-(2 ^ 64) < j ∧ j < 2 ^ 64)
abbrev oMod : Op2 := oInt (fun i j => i % j) fun _ j => 0 < j
abbrev oDiv : Op2 := oInt (fun i j => i / j) fun _ j => 0 < j ∧ (j < 1073741824 ∨ j.natAbs.log2 < 9000)
abbrev oLt : Op2 := oCmpI fun i j => decide (i < j)
abbrev oLe : Op2 := oCmpI fun i j => decide (i ≤ j)
abbrev oGt : Op2 := oCmpI fun i j => decide (j < i)
abbrev oGe : Op2 := oCmpI fun i j => decide (j ≤ i)
/-- == of plain data (no dicts, no objects) -/
def D.eqv : D → D → Bool
  | .non, .non => true
  | .bl a, .bl b => a == b
  | .bl a, .int j => (if a then 1 else 0) == j
  | .int i, .bl b => i == (if b then 1 else 0)
  | .int i, .int j => i == j
  | .str x, .str y => x == y
  | .lst xs, .lst ys => eqvs xs ys
  | .tup xs, .tup ys => eqvs xs ys
  | _, _ => false
where eqvs : List D → List D → Bool
  | [], [] => true
  | x :: xs, y :: ys => D.eqv x y && eqvs xs ys
  | _, _ => false
def D.dep : D → Nat
  | .lst xs => deps xs + 1
  | .tup xs => deps xs + 1
  | _ => 1
where deps : List D → Nat
  | [] => 0
  | x :: r => max (D.dep x) (deps r)
def D.flatd : D → Bool
  | .non | .bl _ | .int _ => true
  | .str x => x.cps.all (· < 0x110000)
  | .lst xs => flats xs
  | .tup xs => flats xs
  | _ => false
where flats : List D → Bool
  | [] => true
  | x :: r => D.flatd x && flats r
def oEq (neg : Bool) : Op2 := fun _ d1 _ d2 k => match d1, d2 with
  | .str x, .str y => k (.fr true (.bl (xor neg (x == y))))
  | d1, d2 => (d1.flatd = true ∧ d2.flatd = true ∧ d1.dep ≤ 64 ∧ d2.dep ≤ 64) ∧ k (.fr true (.bl (xor neg (D.eqv d1 d2))))
def D.isNon : D → Bool
  | .non => true
  | _ => false
def oIs (neg : Bool) : Op2 := fun _ d1 _ d2 k => d2 = .non ∧ k (.fr true (.bl (xor neg d1.isNon)))
/-! ### statements -/
def rNext : RS := fun D ρ => D.nx ρ
def rSeq (p q : RS) : RS := fun D ρ => p { D with nx := q D } ρ
def rSet (i : Nat) (p : RE) : RS := fun D ρ => p ρ (kA fun sv ρ' => D.nx (ρ'.set i sv)) D.ex
def rDrop (p : RE) : RS := fun D ρ => p ρ (fun _ ρ' => D.nx ρ') D.ex
def rRet (p : RE) : RS := fun D ρ => p ρ D.rt D.ex
def rRetN : RS := fun D ρ => D.rt (.fr true .non) ρ
def rIf (c : RT) (p q : RS) : RS := fun D ρ => c ρ (fun b ρ' => ifB b (p D ρ') (q D ρ')) D.ex
def rBreak : RS := fun D ρ => D.bk ρ
def rCont : RS := fun D ρ => D.ct ρ
/-! ### and, or, not, if -/
def rAnd (p q : RT) : RT := fun ρ k x => p ρ (fun b ρ' => ifB b (q ρ' k x) (k false ρ')) x
def rOr (p q : RT) : RT := fun ρ k x => p ρ (fun b ρ' => ifB b (k true ρ') (q ρ' k x)) x
def rNot (p : RT) : RT := fun ρ k x => p ρ (fun b ρ' => k (!b) ρ') x
def rAndV (p q : RE) : RE := fun ρ k x => p ρ (kB fun b ρ' => ifB b (q ρ' k x) (k (.fr true (.bl false)) ρ')) x
def rOrV (p q : RE) : RE := fun ρ k x => p ρ (kB fun b ρ' => ifB b (k (.fr true (.bl true)) ρ') (q ρ' k x)) x
def rNotV (p : RE) : RE := fun ρ k x => p ρ (kB fun b ρ' => k (.fr true (.bl (!b))) ρ') x
def rIfE (c : RT) (p q : RE) : RE := fun ρ k x => c ρ (fun b ρ' => ifB b (p ρ' k x) (q ρ' k x)) x
/-! ### displays -/
def rTup (p : RA) : RE := fun ρ k x => p ρ (kTs fun m ds ρ' => ds.length ≤ line ∧ k (.fr m (.tup ds)) ρ') x
def rLst (p : RA) : RE := fun ρ k x => p ρ (kTs fun m ds ρ' => ds.length ≤ line ∧ k (.ol m ds) ρ') x
/-! ### calls -/
abbrev QSpec := List D → (SV → Prop) → (Exn → Prop) → Prop
def rCall (ms : List Mode) (qs : QSpec) (dd : List D) (pa : RA) : RE := fun ρ k x => pa ρ (fun svs ρ1 => match passAll ms svs ρ1 with
  | some (m, ds, ρ2) => qs (ds ++ dd) (fun r => k (r.dem m) ρ2) (fun e => x e ρ2)
  | none => False) x
def m1 : Mode → D → List Addr
  | .t, .ref a => [a]
  | _, _ => []
def mOf : List Mode → List D → List Addr
  | m :: ms, d :: ds => m1 m d ++ mOf ms ds
  | _, _ => []
def keep1 : Mode → D → SV → Prop
  | .t, d, sv => sv = slot0 .t d ∨ ∃ a kvs, d = .ref a ∧ sv = .so a kvs ∧ isSto kvs
  | _, _, _ => True
def keeps : List Mode → List D → PSt → Prop
  | m :: ms, d :: ds, sv :: ρ => keep1 m d sv ∧ keeps ms ds ρ
  | [], _, _ => True
  | _, _, _ => False
def okRes (ms : List Mode) (ds : List D) : SV → Prop
  | .sto _ => mOf ms ds = []
  | .so _ _ => mOf ms ds = []
  | _ => True
def endsF (ms : List Mode) (ds : List D) (R : SV → Prop) (F : Exn → Prop) : PEnds where
  nx := fun ρ => R (.fr true .non) ∧ keeps ms ds ρ
  rt := fun sv ρ => R (sv.mv ρ) ∧ okRes ms ds (sv.mv ρ) ∧ keeps ms ds ρ
  ex := fun x ρ => F x ∧ keeps ms ds ρ
/-! ### walks -/
abbrev RI := PSt → (Bool → List D → PSt → Prop) → RX → Prop
abbrev RG := SV → PSt → (PSt → Prop) → Prop
def riL (p : RE) : RI := fun ρ k x => p ρ (kT fun m d ρ' => match d with
  | .lst xs => k m xs ρ'
  | .scr ns => k true (ns.map .int) ρ'
  | _ => False) x
def riT (p : RE) : RI := fun ρ k x => p ρ (kT fun m d ρ' => match d with
  | .tup xs => k m xs ρ'
  | _ => False) x
def intsF (lo : Int) (n : Nat) : List D := (List.range n).map fun i => .int (lo + (i : Nat))
def riR1 (p : RA) : RI := fun ρ k x => p ρ (fun svs ρ1 => match svs with
  | [s1] => kV (fun _ d ρ' => match d with
    | .int n => (-(2 ^ 62) ≤ n ∧ n < 2 ^ 62) ∧ k true (intsF 0 n.toNat) ρ'
    | _ => False) s1 ρ1
  | _ => False) x
def riR2 (p : RA) : RI := fun ρ k x => p ρ (fun svs ρ2 => match svs with
  | [s1, s2] => kV2 (fun _ d1 _ d2 => match d1, d2 with
    | .int a, .int b => (-(2 ^ 62) ≤ a ∧ a < 2 ^ 62 ∧ -(2 ^ 62) ≤ b ∧ b < 2 ^ 62) ∧ k true (intsF a (b - a).toNat) ρ2
    | _, _ => False) s1 s2 ρ2
  | _ => False) x
def gN (i : Nat) : RG := fun sv ρ k => k (ρ.set i sv)
def gTs : List RG → Bool → List D → PSt → (PSt → Prop) → Prop
  | [], _, [], ρ, k => k ρ
  | g :: gs, m, x :: xs, ρ, k => g (.fr m x) ρ fun ρ' => gTs gs m xs ρ' k
  | _, _, _, _, _ => False
def gT (gs : List RG) : RG := fun sv ρ k => match sv with
  | .fr m (.tup xs) => xs.length = gs.length ∧ gTs gs m xs ρ k
  | _ => False
theorem gT_ok {gs : List RG} {sv : SV} {ρ : PSt} {k : PSt → Prop} (h : gT gs sv ρ k) : ∃ m xs, sv = .fr m (.tup xs) ∧ xs.length = gs.length ∧ gTs gs m xs ρ k := by
  unfold gT at h
  split at h
  · rename_i m xs; exact ⟨m, xs, rfl, h.1, h.2⟩
  · exact h.elim
def rFor (ri : RI) (g : RG) (body : RS) : RS := fun D ρ => ri ρ (fun m xs ρ1 => ∃ Iv : Nat → PSt → Prop, Iv 0 ρ1 ∧ (∀ (i : Nat) x ρ, xs[i]? = some x → Iv i ρ → g (.fr m x) ρ fun ρ2 => body { D with nx := Iv (i + 1), ct := Iv (i + 1), bk := D.nx } ρ2) ∧ ∀ ρ, Iv xs.length ρ → D.nx ρ) D.ex
/-- target = value -/
def rAsg (p : RE) (g : RG) : RS := fun D ρ => p ρ (kT fun m d ρ' => g (.fr m d) ρ' D.nx) D.ex
def wipeP (ρ : PSt) : List Nat → PSt
  | [] => ρ
  | v :: vs => (wipeP ρ vs).set v .no
def noX : RX := fun _ _ => False
def rYes : RT := fun ρ k _ => k true ρ
def rLc (own : List Nat) (ri : RI) (g : RG) (tt : RT) (te : RE) : RE := fun ρ k x => ri ρ (fun m xs ρ1 => ∃ Iv : Nat → List D → Bool → PSt → Prop, Iv 0 [] true (wipeP ρ1 own) ∧
  (∀ (i : Nat) x acc ma ρ, xs[i]? = some x → Iv i acc ma ρ → g (.fr m x) ρ fun ρ2 => tt ρ2 (fun b ρ3 => ifB b (te ρ3 (kT fun md d ρ4 => acc.length < line ∧ Iv (i + 1) (acc ++ [d]) (ma && md) (wipeP ρ4 own)) noX) (Iv (i + 1) acc ma (wipeP ρ3 own))) noX) ∧
  ∀ acc ma ρ, Iv xs.length acc ma ρ → k (.ol ma acc) ρ) x
end Q

namespace Q
open PySem PySem.Spec PyProof.Rows L2
/-! ### plain data in the abstract heap -/
section
variable (K : PySem.W.Frag) (G : Addr → Prop) (H : Hp)
/-- a frozen cell -/
def Fz (a : Addr) (u : HO) : Prop := G a ∧ ∃ o, H a = some (.frz o u)
def KL (K : PySem.W.Frag) (a : Addr) (xs : List V) : Prop := ∃ (o : Obj) (its : Array Value) (n : Nat), K.lookup a = some o ∧ o.cls = .type "list" ∧ o.dict = none ∧ o.data = .seq its n ∧ its.size ≤ sizeLine ∧ Vals xs its.toList
mutual
def Rep : D → V → Prop
  | .non, v => v = .non
  | .bl b, v => v = .bl b
  | .int i, v => v = .int i
  | .str x, v => v = .str x
  | .lst xs, v => ∃ a vs, v = .ref a ∧ Fz G H a (.lst vs) ∧ Reps xs vs
  | .tup xs, v => ∃ a vs, v = .ref a ∧ SqT K H a vs ∧ Reps xs vs
  | .dk kvs, v => ∃ a kv, v = .ref a ∧ Fz G H a (.dK kv) ∧ Repk kvs kv
  | .dt kvs, v => ∃ a kv, v = .ref a ∧ Fz G H a (.dT kv) ∧ Rept kvs kv
  | .obj C fs, v => ∃ a dx fv, v = .ref a ∧ Fz G H a (.ins C dx fv) ∧ Repf fs fv
  | .ref a, v => v = .ref a
  | .ty n, v => v = .ty n
  | .scr ns, v => ∃ a, v = .ref a ∧ (Fz G H a (.lst (ns.map .int)) ∨ KL K a (ns.map .int))
termination_by structural d => d
def Reps : List D → List V → Prop
  | [], vs => vs = []
  | x :: r, vs => ∃ v vs', vs = v :: vs' ∧ Rep x v ∧ Reps r vs'
termination_by structural d => d
def Repk : List (Ky × D) → List (Ky × V) → Prop
  | [], vs => vs = []
  | x :: r, vs => ∃ v vs', vs = v :: vs' ∧ Repk1 x v ∧ Repk r vs'
termination_by structural d => d
def Repk1 : Ky × D → Ky × V → Prop
  | (k, x), v => v.1 = k ∧ Rep x v.2
termination_by structural d => d
def Rept : List (List Ky × D) → List (List Ky × V) → Prop
  | [], vs => vs = []
  | x :: r, vs => ∃ v vs', vs = v :: vs' ∧ Rept1 x v ∧ Rept r vs'
termination_by structural d => d
def Rept1 : List Ky × D → List Ky × V → Prop
  | (k, x), v => v.1 = k ∧ Rep x v.2
termination_by structural d => d
def Repf : List (Str × D) → List (Str × V) → Prop
  | [], vs => vs = []
  | x :: r, vs => ∃ v vs', vs = v :: vs' ∧ Repf1 x v ∧ Repf r vs'
termination_by structural d => d
def Repf1 : Str × D → Str × V → Prop
  | (k, x), v => v.1 = k ∧ Rep x v.2
termination_by structural d => d
end
end
/-- what frozen data leans on -/
structure Stab0 (H H' : Hp) : Prop where
  frz : ∀ a o u, H a = some (.frz o u) → H' a = some (.frz o u)
  tup : ∀ a xs, H a = some (.tup xs) → H' a = some (.tup xs)
structure Stab (H H' : Hp) : Prop extends Stab0 H H' where
  xd : ∀ a fs, H a = some (.xd fs) → H' a = some (.xd fs)
theorem Stab.refl {H : Hp} : Stab H H := ⟨⟨fun _ _ _ h => h, fun _ _ h => h⟩, fun _ _ h => h⟩
/-- what is pinned: said of the heap, and it stays -/
def PinH (H : Hp) (z : Hp → Prop) : Prop := (∀ H1 H2, Stab H1 H2 → z H1 → z H2) ∧ z H
theorem Stab.pin {H H' : Hp} {z : Hp → Prop} (st : Stab H H') (h : PinH H z) : PinH H' z := ⟨h.1, h.1 _ _ st h.2⟩
theorem Stab.trans {H H1 H2 : Hp} (a : Stab H H1) (b : Stab H1 H2) : Stab H H2 := ⟨⟨fun c o u h => b.frz c o u (a.frz c o u h), fun c xs h => b.tup c xs (a.tup c xs h)⟩, fun c fs h => b.xd c fs (a.xd c fs h)⟩
section
variable {K : PySem.W.Frag} {G G' : Addr → Prop} {H H' : Hp}
theorem Fz.mono {a : Addr} {u : HO} (hg : ∀ a, G a → G' a) (st : Stab H H') (h : Fz G H a u) : Fz G' H' a u := ⟨hg a h.1, let ⟨o, e⟩ := h.2; ⟨o, st.frz a o u e⟩⟩
theorem Fz.rd {a : Addr} {u : HO} (h : Fz G H a u) : Rd H a u := .inr h.2
theorem sqT_mono {a : Addr} {xs : List V} (st : Stab H H') (h : SqT K H a xs) : SqT K H' a xs := by
  rcases h with (h | ⟨o, h⟩) | h
  · exact .inl (.inl (st.tup _ _ h))
  · exact .inl (.inr ⟨o, st.frz _ _ _ h⟩)
  · exact .inr h
mutual
theorem Rep.mono (hg : ∀ a, G a → G' a) (st : Stab H H') : ∀ (d : D) (v : V), Rep K G H d v → Rep K G' H' d v
  | .non, _, h => h
  | .bl _, _, h => h
  | .int _, _, h => h
  | .str _, _, h => h
  | .lst xs, _, ⟨a, vs, e, f, r⟩ => ⟨a, vs, e, f.mono hg st, Reps.mono hg st xs vs r⟩
  | .tup xs, _, ⟨a, vs, e, f, r⟩ => ⟨a, vs, e, sqT_mono st f, Reps.mono hg st xs vs r⟩
  | .dk xs, _, ⟨a, vs, e, f, r⟩ => ⟨a, vs, e, f.mono hg st, Repk.mono hg st xs vs r⟩
  | .dt xs, _, ⟨a, vs, e, f, r⟩ => ⟨a, vs, e, f.mono hg st, Rept.mono hg st xs vs r⟩
  | .obj C fs, _, ⟨a, dx, fv, e, f, r⟩ => ⟨a, dx, fv, e, f.mono hg st, Repf.mono hg st fs fv r⟩
  | .ref _, _, h => h
  | .ty _, _, h => h
  | .scr _, _, ⟨a, e, f⟩ => ⟨a, e, f.imp (fun f => f.mono hg st) id⟩
theorem Reps.mono (hg : ∀ a, G a → G' a) (st : Stab H H') : ∀ (d : List D) (v : List V), Reps K G H d v → Reps K G' H' d v
  | [], _, h => h
  | x :: r, _, ⟨v, vs', e, a, b⟩ => ⟨v, vs', e, Rep.mono hg st x v a, Reps.mono hg st r vs' b⟩
theorem Repk.mono (hg : ∀ a, G a → G' a) (st : Stab H H') : ∀ (d : List (Ky × D)) (v : List (Ky × V)), Repk K G H d v → Repk K G' H' d v
  | [], _, h => h
  | (k, x) :: r, _, ⟨v, vs', e, a, b⟩ => ⟨v, vs', e, ⟨a.1, Rep.mono hg st x v.2 a.2⟩, Repk.mono hg st r vs' b⟩
theorem Rept.mono (hg : ∀ a, G a → G' a) (st : Stab H H') : ∀ (d : List (List Ky × D)) (v : List (List Ky × V)), Rept K G H d v → Rept K G' H' d v
  | [], _, h => h
  | (k, x) :: r, _, ⟨v, vs', e, a, b⟩ => ⟨v, vs', e, ⟨a.1, Rep.mono hg st x v.2 a.2⟩, Rept.mono hg st r vs' b⟩
theorem Repf.mono (hg : ∀ a, G a → G' a) (st : Stab H H') : ∀ (d : List (Str × D)) (v : List (Str × V)), Repf K G H d v → Repf K G' H' d v
  | [], _, h => h
  | (k, x) :: r, _, ⟨v, vs', e, a, b⟩ => ⟨v, vs', e, ⟨a.1, Rep.mono hg st x v.2 a.2⟩, Repf.mono hg st r vs' b⟩
end
theorem reps_len : ∀ {ds : List D} {vs : List V}, Reps K G H ds vs → ds.length = vs.length
  | [], _, h => by cases h; rfl
  | _ :: r, _, ⟨v, vs', e, _, b⟩ => by rw [e, List.length_cons, List.length_cons, reps_len b]
theorem reps_get : ∀ {ds : List D} {vs : List V} {i : Nat} {d : D}, Reps K G H ds vs → ds[i]? = some d → ∃ v, vs[i]? = some v ∧ Rep K G H d v
  | [], _, _, _, _, e => by simp at e
  | x :: r, _, 0, d, ⟨v, vs', e, a, _⟩, q => by subst e; simp at q; subst q; exact ⟨v, rfl, a⟩
  | x :: r, _, i + 1, d, ⟨v, vs', e, _, b⟩, q => by subst e; simp at q; obtain ⟨u, h1, h2⟩ := reps_get b q; exact ⟨u, by simpa using h1, h2⟩
theorem reps_app : ∀ {ds es : List D} {vs us : List V}, Reps K G H ds vs → Reps K G H es us → Reps K G H (ds ++ es) (vs ++ us)
  | [], _, _, _, h, b => by cases h; exact b
  | _ :: r, _, _, _, ⟨v, vs', e, a, b⟩, q => by subst e; exact ⟨v, _, rfl, a, reps_app b q⟩
theorem reps_one {d : D} {v : V} (h : Rep K G H d v) : Reps K G H [d] [v] := ⟨v, [], rfl, h, rfl⟩
end
/-! ### states -/
-- the error's fields
/-- the tables of code objects, with the name that each tells; the classes of errors -/
structure TBs where
  tb : List (Addr × Str)
  ea : EC → Addr
structure Gh where
  G : Addr → Prop
  M : List Addr
  T : TBs
  B : Hp
  Z : List (Hp → Prop)
  S : Addr → Prop
def Gh.gm (g : Gh) (m : Bool) : Addr → Prop := fun a => m = true → g.G a
theorem Gh.gm_mono {g : Gh} {m m' : Bool} (h : m' = true → m = true) : ∀ a, g.gm m a → g.gm m' a := fun _ q z => q (h z)
/-- the cells that a slot owns -/
def Own : SV → Option V → Addr → Prop
  | .ol _ _, some (.ref b), a => some b = some a
  | .od _ _, some (.ref b), a => some b = some a
  | .oe _ _, some (.ref b), a => some b = some a
  | .oo _ _ _, some (.ref b), a => some b = some a
  | .sto _, some (.ref b), a => some b = some a
  | .so _ _, some (.ref b), a => some b = some a
  | .ot L _, some _, a => a ∈ L
  | _, _, a => (none : Option Addr) = some a
/-! a value of which all is owned: the cells, in order -/
section
variable (K : PySem.W.Frag) (H : Hp)
mutual
def RepT : D → V → List Addr → Prop
  | .non, v, L => v = .non ∧ L = []
  | .bl b, v, L => v = .bl b ∧ L = []
  | .int i, v, L => v = .int i ∧ L = []
  | .str x, v, L => v = .str x ∧ L = []
  | .lst xs, v, L => ∃ a vs L', v = .ref a ∧ L = a :: L' ∧ H a = some (.lst vs) ∧ RepsT xs vs L'
  | .tup xs, v, L => ∃ a vs, v = .ref a ∧ SqT K H a vs ∧ RepsT xs vs L
  | .dk kvs, v, L => ∃ a kv L', v = .ref a ∧ L = a :: L' ∧ H a = some (.dK kv) ∧ RepkT kvs kv L'
  | .dt _, _, _ => False
  | .obj C fs, v, L => ∃ a dx fv L', v = .ref a ∧ L = a :: L' ∧ H a = some (.ins C dx fv) ∧ RepfT fs fv L'
  | .ref a, v, L => v = .ref a ∧ L = []
  | .ty n, v, L => v = .ty n ∧ L = []
  | .scr _, _, _ => False
termination_by structural d => d
def RepsT : List D → List V → List Addr → Prop
  | [], vs, L => vs = [] ∧ L = []
  | x :: r, vs, L => ∃ v vs' L1 L2, vs = v :: vs' ∧ L = L1 ++ L2 ∧ RepT x v L1 ∧ RepsT r vs' L2
termination_by structural d => d
def RepkT : List (Ky × D) → List (Ky × V) → List Addr → Prop
  | [], vs, L => vs = [] ∧ L = []
  | x :: r, vs, L => ∃ v vs' L1 L2, vs = v :: vs' ∧ L = L1 ++ L2 ∧ Repk1T x v L1 ∧ RepkT r vs' L2
termination_by structural d => d
def Repk1T : Ky × D → Ky × V → List Addr → Prop
  | (k, x), v, L => v.1 = k ∧ RepT x v.2 L
termination_by structural d => d
def RepfT : List (Str × D) → List (Str × V) → List Addr → Prop
  | [], vs, L => vs = [] ∧ L = []
  | x :: r, vs, L => ∃ v vs' L1 L2, vs = v :: vs' ∧ L = L1 ++ L2 ∧ Repf1T x v L1 ∧ RepfT r vs' L2
termination_by structural d => d
def Repf1T : Str × D → Str × V → List Addr → Prop
  | (k, x), v, L => v.1 = k ∧ RepT x v.2 L
termination_by structural d => d
end
end
section
variable {K : PySem.W.Frag} {H H' : Hp}
mutual
theorem RepT.mono (ht : ∀ a xs, SqT K H a xs → SqT K H' a xs) : ∀ (d : D) (v : V) (L : List Addr), (∀ a ∈ L, H' a = H a) → RepT K H d v L → RepT K H' d v L
  | .non, _, _, _, h => h
  | .bl _, _, _, _, h => h
  | .int _, _, _, _, h => h
  | .str _, _, _, _, h => h
  | .lst xs, _, _, ow, ⟨a, vs, L', e1, e2, c, r⟩ => ⟨a, vs, L', e1, e2, (ow a (by rw [e2]; exact List.mem_cons_self)).trans c, RepsT.mono ht xs vs L' (fun b hb => ow b (by rw [e2]; exact List.mem_cons_of_mem _ hb)) r⟩
  | .tup xs, _, L, ow, ⟨a, vs, e1, c, r⟩ => ⟨a, vs, e1, ht a vs c, RepsT.mono ht xs vs L ow r⟩
  | .dk xs, _, _, ow, ⟨a, vs, L', e1, e2, c, r⟩ => ⟨a, vs, L', e1, e2, (ow a (by rw [e2]; exact List.mem_cons_self)).trans c, RepkT.mono ht xs vs L' (fun b hb => ow b (by rw [e2]; exact List.mem_cons_of_mem _ hb)) r⟩
  | .dt _, _, _, _, h => h
  | .obj C fs, _, _, ow, ⟨a, dx, vs, L', e1, e2, c, r⟩ => ⟨a, dx, vs, L', e1, e2, (ow a (by rw [e2]; exact List.mem_cons_self)).trans c, RepfT.mono ht fs vs L' (fun b hb => ow b (by rw [e2]; exact List.mem_cons_of_mem _ hb)) r⟩
  | .ref _, _, _, _, h => h
  | .ty _, _, _, _, h => h
  | .scr _, _, _, _, h => h
theorem RepsT.mono (ht : ∀ a xs, SqT K H a xs → SqT K H' a xs) : ∀ (d : List D) (v : List V) (L : List Addr), (∀ a ∈ L, H' a = H a) → RepsT K H d v L → RepsT K H' d v L
  | [], _, _, _, h => h
  | x :: r, _, _, ow, ⟨v, vs', L1, L2, e1, e2, a, b⟩ => ⟨v, vs', L1, L2, e1, e2, RepT.mono ht x v L1 (fun c hc => ow c (by rw [e2]; exact List.mem_append_left _ hc)) a, RepsT.mono ht r vs' L2 (fun c hc => ow c (by rw [e2]; exact List.mem_append_right _ hc)) b⟩
theorem RepkT.mono (ht : ∀ a xs, SqT K H a xs → SqT K H' a xs) : ∀ (d : List (Ky × D)) (v : List (Ky × V)) (L : List Addr), (∀ a ∈ L, H' a = H a) → RepkT K H d v L → RepkT K H' d v L
  | [], _, _, _, h => h
  | (k, x) :: r, _, _, ow, ⟨v, vs', L1, L2, e1, e2, a, b⟩ => ⟨v, vs', L1, L2, e1, e2, ⟨a.1, RepT.mono ht x v.2 L1 (fun c hc => ow c (by rw [e2]; exact List.mem_append_left _ hc)) a.2⟩, RepkT.mono ht r vs' L2 (fun c hc => ow c (by rw [e2]; exact List.mem_append_right _ hc)) b⟩
theorem RepfT.mono (ht : ∀ a xs, SqT K H a xs → SqT K H' a xs) : ∀ (d : List (Str × D)) (v : List (Str × V)) (L : List Addr), (∀ a ∈ L, H' a = H a) → RepfT K H d v L → RepfT K H' d v L
  | [], _, _, _, h => h
  | (k, x) :: r, _, _, ow, ⟨v, vs', L1, L2, e1, e2, a, b⟩ => ⟨v, vs', L1, L2, e1, e2, ⟨a.1, RepT.mono ht x v.2 L1 (fun c hc => ow c (by rw [e2]; exact List.mem_append_left _ hc)) a.2⟩, RepfT.mono ht r vs' L2 (fun c hc => ow c (by rw [e2]; exact List.mem_append_right _ hc)) b⟩
end
mutual
theorem RepT.own {b : Addr} : ∀ (d : D) (v : V) (L : List Addr), RepT K H d v L → b ∈ L → ∃ u, H b = some u ∧ Mut (some u) ∧ ∀ φ, u ≠ .ext φ
  | .non, _, _, ⟨_, e⟩, hb => by rw [e] at hb; cases hb
  | .bl _, _, _, ⟨_, e⟩, hb => by rw [e] at hb; cases hb
  | .int _, _, _, ⟨_, e⟩, hb => by rw [e] at hb; cases hb
  | .str _, _, _, ⟨_, e⟩, hb => by rw [e] at hb; cases hb
  | .lst xs, _, _, ⟨a, vs, L', e1, e2, c, r⟩, hb => by
    rw [e2] at hb
    rcases List.mem_cons.mp hb with z | z
    · rw [z]; exact ⟨_, c, trivial, fun _ z => nomatch z⟩
    · exact RepsT.own xs vs L' r z
  | .tup xs, _, L, ⟨a, vs, e1, c, r⟩, hb => RepsT.own xs vs L r hb
  | .dk xs, _, _, ⟨a, vs, L', e1, e2, c, r⟩, hb => by
    rw [e2] at hb
    rcases List.mem_cons.mp hb with z | z
    · rw [z]; exact ⟨_, c, trivial, fun _ z => nomatch z⟩
    · exact RepkT.own xs vs L' r z
  | .dt _, _, _, h, _ => h.elim
  | .obj C fs, _, _, ⟨a, dx, vs, L', e1, e2, c, r⟩, hb => by
    rw [e2] at hb
    rcases List.mem_cons.mp hb with z | z
    · rw [z]; exact ⟨_, c, trivial, fun _ z => nomatch z⟩
    · exact RepfT.own fs vs L' r z
  | .ref _, _, _, ⟨_, e⟩, hb => by rw [e] at hb; cases hb
  | .ty _, _, _, ⟨_, e⟩, hb => by rw [e] at hb; cases hb
  | .scr _, _, _, h, _ => h.elim
theorem RepsT.own {b : Addr} : ∀ (d : List D) (v : List V) (L : List Addr), RepsT K H d v L → b ∈ L → ∃ u, H b = some u ∧ Mut (some u) ∧ ∀ φ, u ≠ .ext φ
  | [], _, _, ⟨_, e⟩, hb => by rw [e] at hb; cases hb
  | x :: r, _, _, ⟨v, vs', L1, L2, e1, e2, h1, h2⟩, hb => by
    rw [e2] at hb
    rcases List.mem_append.mp hb with z | z
    · exact RepT.own x v L1 h1 z
    · exact RepsT.own r vs' L2 h2 z
theorem RepkT.own {b : Addr} : ∀ (d : List (Ky × D)) (v : List (Ky × V)) (L : List Addr), RepkT K H d v L → b ∈ L → ∃ u, H b = some u ∧ Mut (some u) ∧ ∀ φ, u ≠ .ext φ
  | [], _, _, ⟨_, e⟩, hb => by rw [e] at hb; cases hb
  | (k, x) :: r, _, _, ⟨v, vs', L1, L2, e1, e2, h1, h2⟩, hb => by
    rw [e2] at hb
    rcases List.mem_append.mp hb with z | z
    · exact RepT.own x v.2 L1 h1.2 z
    · exact RepkT.own r vs' L2 h2 z
theorem RepfT.own {b : Addr} : ∀ (d : List (Str × D)) (v : List (Str × V)) (L : List Addr), RepfT K H d v L → b ∈ L → ∃ u, H b = some u ∧ Mut (some u) ∧ ∀ φ, u ≠ .ext φ
  | [], _, _, ⟨_, e⟩, hb => by rw [e] at hb; cases hb
  | (k, x) :: r, _, _, ⟨v, vs', L1, L2, e1, e2, h1, h2⟩, hb => by
    rw [e2] at hb
    rcases List.mem_append.mp hb with z | z
    · exact RepT.own x v.2 L1 h1.2 z
    · exact RepfT.own r vs' L2 h2 z
end
end
section
variable {K : PySem.W.Frag} {H H' : Hp} {G : Addr → Prop}
mutual
/-- all of it is locked -/
theorem RepT.frz (ht : ∀ a xs, SqT K H a xs → SqT K H' a xs) : ∀ (d : D) (v : V) (L : List Addr), (∀ a ∈ L, ∀ u, H a = some u → Fz G H' a u) → RepT K H d v L → Rep K G H' d v
  | .non, _, _, _, h => h.1
  | .bl _, _, _, _, h => h.1
  | .int _, _, _, _, h => h.1
  | .str _, _, _, _, h => h.1
  | .lst xs, _, _, ow, ⟨a, vs, L', e1, e2, c, r⟩ => ⟨a, vs, e1, ow a (by rw [e2]; exact List.mem_cons_self) _ c, RepsT.frz ht xs vs L' (fun b hb => ow b (by rw [e2]; exact List.mem_cons_of_mem _ hb)) r⟩
  | .tup xs, _, L, ow, ⟨a, vs, e1, c, r⟩ => ⟨a, vs, e1, ht a vs c, RepsT.frz ht xs vs L ow r⟩
  | .dk xs, _, _, ow, ⟨a, vs, L', e1, e2, c, r⟩ => ⟨a, vs, e1, ow a (by rw [e2]; exact List.mem_cons_self) _ c, RepkT.frz ht xs vs L' (fun b hb => ow b (by rw [e2]; exact List.mem_cons_of_mem _ hb)) r⟩
  | .dt _, _, _, _, h => h.elim
  | .obj C fs, _, _, ow, ⟨a, dx, vs, L', e1, e2, c, r⟩ => ⟨a, dx, vs, e1, ow a (by rw [e2]; exact List.mem_cons_self) _ c, RepfT.frz ht fs vs L' (fun b hb => ow b (by rw [e2]; exact List.mem_cons_of_mem _ hb)) r⟩
  | .ref _, _, _, _, h => h.1
  | .ty _, _, _, _, h => h.1
  | .scr _, _, _, _, h => h.elim
theorem RepsT.frz (ht : ∀ a xs, SqT K H a xs → SqT K H' a xs) : ∀ (d : List D) (v : List V) (L : List Addr), (∀ a ∈ L, ∀ u, H a = some u → Fz G H' a u) → RepsT K H d v L → Reps K G H' d v
  | [], _, _, _, h => h.1
  | x :: r, _, _, ow, ⟨v, vs', L1, L2, e1, e2, a, b⟩ => ⟨v, vs', e1, RepT.frz ht x v L1 (fun c hc => ow c (by rw [e2]; exact List.mem_append_left _ hc)) a, RepsT.frz ht r vs' L2 (fun c hc => ow c (by rw [e2]; exact List.mem_append_right _ hc)) b⟩
theorem RepkT.frz (ht : ∀ a xs, SqT K H a xs → SqT K H' a xs) : ∀ (d : List (Ky × D)) (v : List (Ky × V)) (L : List Addr), (∀ a ∈ L, ∀ u, H a = some u → Fz G H' a u) → RepkT K H d v L → Repk K G H' d v
  | [], _, _, _, h => h.1
  | (k, x) :: r, _, _, ow, ⟨v, vs', L1, L2, e1, e2, a, b⟩ => ⟨v, vs', e1, ⟨a.1, RepT.frz ht x v.2 L1 (fun c hc => ow c (by rw [e2]; exact List.mem_append_left _ hc)) a.2⟩, RepkT.frz ht r vs' L2 (fun c hc => ow c (by rw [e2]; exact List.mem_append_right _ hc)) b⟩
theorem RepfT.frz (ht : ∀ a xs, SqT K H a xs → SqT K H' a xs) : ∀ (d : List (Str × D)) (v : List (Str × V)) (L : List Addr), (∀ a ∈ L, ∀ u, H a = some u → Fz G H' a u) → RepfT K H d v L → Repf K G H' d v
  | [], _, _, _, h => h.1
  | (k, x) :: r, _, _, ow, ⟨v, vs', L1, L2, e1, e2, a, b⟩ => ⟨v, vs', e1, ⟨a.1, RepT.frz ht x v.2 L1 (fun c hc => ow c (by rw [e2]; exact List.mem_append_left _ hc)) a.2⟩, RepfT.frz ht r vs' L2 (fun c hc => ow c (by rw [e2]; exact List.mem_append_right _ hc)) b⟩
end
end
/-- the draws' store at a -/
def StoreOk (K : PySem.W.Frag) (S : Addr → Prop) (H : Hp) (a : Addr) : Prop :=
  ∃ (c : V) (ns : List Int) (pos now left seed turn : Int) (great : Bool),
    H a = some (.dK [(.inr ("cells" : Str), c), (.inr ("at" : Str), .int pos), (.inr ("now" : Str), .int now), (.inr ("left" : Str), .int left), (.inr ("great" : Str), .bl great), (.inr ("seed" : Str), .int seed), (.inr ("turn" : Str), .int turn)]) ∧
    Rep K S H (.lst (ns.map .int)) c ∧ ns.length ≤ 63 ∧ (∀ n ∈ ns, n.natAbs < 2 ^ 1048577) ∧ 0 ≤ pos ∧ 0 ≤ now ∧ now.natAbs < 2 ^ 2000 ∧ 0 ≤ seed ∧ seed < 1000003
def SVR (K : PySem.W.Frag) (g : Gh) (H : Hp) (σ : L2.St) : SV → Option V → Prop
  | .no, _ => True
  | .fr m d, v => ∃ u, v = some u ∧ Rep K (g.gm m) H d u
  | .ol m xs, v => ∃ a vs, v = some (.ref a) ∧ H a = some (.lst vs) ∧ Reps K (g.gm m) H xs vs
  | .od m kvs, v => ∃ a kv, v = some (.ref a) ∧ H a = some (.dK kv) ∧ Repk K (g.gm m) H kvs kv
  | .oe m kvs, v => ∃ a kv, v = some (.ref a) ∧ H a = some (.dT kv) ∧ Rept K (g.gm m) H kvs kv
  | .oo m C fs, v => ∃ a dx fv, v = some (.ref a) ∧ H a = some (.ins C dx fv) ∧ Repf K (g.gm m) H fs fv
  | .ot L d, v => ∃ u, v = some u ∧ RepT K H d u L ∧ L.Nodup
  | .sto a, v => v = some (.ref a) ∧ StoreOk K g.S H a
  | .so a kvs, v => v = some (.ref a) ∧ ∃ kw, H a = some (.dK kw) ∧ Repk K g.S H kvs kw
  | .bor i, v => v.isSome = true ∧ ∀ w, σ[i]? = some (some w) → v = some w
structure KeepB (M : List Addr) (H H' : Hp) : Prop where
  keep : ∀ a o, H a = some o → a ∉ M → (∀ ps, o ≠ .tbl ps) → H' a = some o
  live : ∀ a, H' a = none → H a = none
theorem KeepB.refl {M : List Addr} {H : Hp} : KeepB M H H := ⟨fun _ _ h _ _ => h, fun _ h => h⟩
theorem KeepB.trans {M : List Addr} {H H1 H2 : Hp} (a : KeepB M H H1) (b : KeepB M H1 H2) : KeepB M H H2 := ⟨fun c o h m t => b.keep c o (a.keep c o h m t) m t, fun c h => a.live c (b.live c h)⟩
def ents (ρ : PSt) (σ : L2.St) (τ : List SV) (vs : List V) : List (SV × Option V) := τ.zip (vs.map some) ++ ρ.zip σ
structure SR (K : PySem.W.Frag) (g : Gh) (ρ : PSt) (σ : L2.St) (τ : List SV) (vs : List V) (H : Hp) : Prop where
  len : ρ.length = σ.length
  tlen : τ.length = vs.length
  all : ∀ p ∈ ents ρ σ τ vs, SVR K g H σ p.1 p.2
  inj : ∀ (i j : Nat) p q a, (ents ρ σ τ vs)[i]? = some p → (ents ρ σ τ vs)[j]? = some q → Own p.1 p.2 a → Own q.1 q.2 a → i = j
  own : ∀ p ∈ ents ρ σ τ vs, ∀ a, Own p.1 p.2 a → g.B a = none ∨ (a ∈ g.M ∧ p.1.stoOf = some a)
  keep : KeepB g.M g.B H
  tabs : LamX.Tabs g.T.tb H
  gnew : ∀ a, g.B a = none → g.G a
  pin : ∀ z ∈ g.Z, PinH H z
  nb : ∀ sv ∈ ρ, sv.isBor = false
  snew : ∀ a, g.B a = none → g.S a
def NoBor (τ : List SV) : Prop := ∀ sv ∈ τ, sv.isBor = false
/-! ### lists of entries -/
theorem zip_set : ∀ {α β : Type} (l : List α) (m : List β) (i : Nat) (a : α) (b : β), (l.set i a).zip (m.set i b) = (l.zip m).set i (a, b)
  | _, _, [], _, _, _, _ => by simp
  | _, _, _ :: _, [], i, _, _ => by cases i <;> simp
  | _, _, _ :: _, _ :: _, 0, _, _ => by simp
  | _, _, _ :: l, _ :: m, i + 1, a, b => by simp [zip_set l m i a b]
theorem ents_set {ρ : PSt} {σ : L2.St} {τ : List SV} {vs : List V} (h : τ.length = vs.length) (i : Nat) (sv : SV) (v : Option V) : ents (ρ.set i sv) (σ.set i v) τ vs = (ents ρ σ τ vs).set (τ.length + i) (sv, v) := by
  unfold ents
  rw [zip_set, List.set_append_right]
  · congr 1
    rw [List.length_zip, List.length_map, ← h, Nat.min_self, Nat.add_sub_cancel_left]
  · rw [List.length_zip, List.length_map, ← h, Nat.min_self]
    omega
theorem ents_cons {ρ : PSt} {σ : L2.St} {τ : List SV} {vs : List V} {sv : SV} {v : V} : ents ρ σ (sv :: τ) (v :: vs) = (sv, some v) :: ents ρ σ τ vs := rfl
theorem ents_at {ρ : PSt} {σ : L2.St} {τ : List SV} {vs : List V} (h : τ.length = vs.length) (i : Nat) {sv : SV} {v : Option V} (h1 : ρ[i]? = some sv) (h2 : σ[i]? = some v) : (ents ρ σ τ vs)[τ.length + i]? = some (sv, v) := by
  unfold ents
  have e : (τ.zip (vs.map some)).length = τ.length := by rw [List.length_zip, List.length_map, ← h, Nat.min_self]
  rw [List.getElem?_append_right (by omega), e, Nat.add_sub_cancel_left]
  rw [List.getElem?_zip_eq_some]
  exact ⟨h1, h2⟩
def Injs (l : List (SV × Option V)) : Prop := ∀ (i j : Nat) p q a, l[i]? = some p → l[j]? = some q → Own p.1 p.2 a → Own q.1 q.2 a → i = j
theorem Injs.tail {p : SV × Option V} {l : List (SV × Option V)} (h : Injs (p :: l)) : Injs l := fun i j p q a e1 e2 h1 h2 => by
  have z := h (i + 1) (j + 1) p q a (by simpa using e1) (by simpa using e2) h1 h2
  omega
theorem Injs.fresh {p : SV × Option V} {l : List (SV × Option V)} (h : Injs (p :: l)) {a : Addr} (ha : Own p.1 p.2 a) : ∀ q ∈ l, ¬ Own q.1 q.2 a := fun q hq e => by
  obtain ⟨j, hj⟩ := List.mem_iff_getElem?.mp hq
  have z := h 0 (j + 1) p q a rfl (by simpa using hj) ha e
  omega
theorem Injs.cons {p : SV × Option V} {l : List (SV × Option V)} (h : Injs l) (f : ∀ a, Own p.1 p.2 a → ∀ q ∈ l, ¬ Own q.1 q.2 a) : Injs (p :: l) := fun i j r q a e1 e2 h1 h2 => by
  cases i with
  | zero =>
    cases j with
    | zero => rfl
    | succ j =>
      simp at e1 e2
      subst e1
      exact absurd h2 (f a h1 q (List.mem_of_getElem? e2))
  | succ i =>
    cases j with
    | zero =>
      simp at e1 e2
      subst e2
      exact absurd h1 (f a h2 r (List.mem_of_getElem? e1))
    | succ j =>
      have z := h i j r q a (by simpa using e1) (by simpa using e2) h1 h2
      omega
theorem Injs.set {l : List (SV × Option V)} (h : Injs l) (k : Nat) (p : SV × Option V) (f : ∀ a, Own p.1 p.2 a → (∃ o, l[k]? = some o ∧ Own o.1 o.2 a) ∨ ∀ q ∈ l, ¬ Own q.1 q.2 a) : Injs (l.set k p) := fun i j r q a e1 e2 h1 h2 => by
  by_cases hi : k = i
  · by_cases hj : k = j
    · omega
    · exfalso
      rw [List.getElem?_set_ne hj] at e2
      have er : r = p := by
        subst hi
        rw [List.getElem?_set] at e1
        simp at e1
        exact e1.2.symm
      subst er
      rcases f a h1 with ⟨o, ho, z⟩ | z
      · have := h k j o q a ho e2 z h2
        omega
      · exact z q (List.mem_of_getElem? e2) h2
  · rw [List.getElem?_set_ne hi] at e1
    by_cases hj : k = j
    · exfalso
      have eq : q = p := by
        subst hj
        rw [List.getElem?_set] at e2
        simp at e2
        exact e2.2.symm
      subst eq
      rcases f a h2 with ⟨o, ho, z⟩ | z
      · have := h i k r o a e1 ho h1 z
        omega
      · exact z r (List.mem_of_getElem? e1) h1
    · rw [List.getElem?_set_ne hj] at e2
      exact h i j r q a e1 e2 h1 h2
/-! ### entries in the heap -/
section
variable {K : PySem.W.Frag} {g : Gh} {H H' : Hp} {σ σ' : L2.St} {sv : SV} {v : Option V} {a : Addr}
theorem StoreOk.mono {S : Addr → Prop} (st : Stab H H') (e : H' a = H a) (h : StoreOk K S H a) : StoreOk K S H' a := by
  obtain ⟨c, ns, pos, now, left, seed, turn, great, h1, h2, h3⟩ := h
  exact ⟨c, ns, pos, now, left, seed, turn, great, e.trans h1, Rep.mono (fun _ z => z) st _ _ h2, h3⟩
theorem StoreOk.up {S S' : Addr → Prop} (hs : ∀ a, S a → S' a) (h : StoreOk K S H a) : StoreOk K S' H a := by
  obtain ⟨c, ns, pos, now, left, seed, turn, great, h1, h2, h3⟩ := h
  exact ⟨c, ns, pos, now, left, seed, turn, great, h1, Rep.mono hs .refl _ _ h2, h3⟩
theorem svr_mono (st : Stab H H') (ow : ∀ a, Own sv v a → H' a = H a) (h : SVR K g H σ sv v) : SVR K g H' σ sv v := by
  cases sv with
  | no => trivial
  | fr m d => obtain ⟨u, e, r⟩ := h; exact ⟨u, e, Rep.mono (fun _ z => z) st _ _ r⟩
  | ol m xs => obtain ⟨a, vs, e, c, r⟩ := h; exact ⟨a, vs, e, (ow a (by rw [e]; rfl)).trans c, Reps.mono (fun _ z => z) st _ _ r⟩
  | od m xs => obtain ⟨a, vs, e, c, r⟩ := h; exact ⟨a, vs, e, (ow a (by rw [e]; rfl)).trans c, Repk.mono (fun _ z => z) st _ _ r⟩
  | oe m xs => obtain ⟨a, vs, e, c, r⟩ := h; exact ⟨a, vs, e, (ow a (by rw [e]; rfl)).trans c, Rept.mono (fun _ z => z) st _ _ r⟩
  | oo m C xs => obtain ⟨a, dx, vs, e, c, r⟩ := h; exact ⟨a, dx, vs, e, (ow a (by rw [e]; rfl)).trans c, Repf.mono (fun _ z => z) st _ _ r⟩
  | ot L d => obtain ⟨u, e, r, n⟩ := h; exact ⟨u, e, RepT.mono (fun a xs h => sqT_mono st h) d u L (fun a ha => ow a (by rw [e]; exact ha)) r, n⟩
  | sto b => obtain ⟨e, c⟩ := h; exact ⟨e, c.mono st (ow b (by rw [e]; rfl))⟩
  | so b kvs => obtain ⟨e, kw, c, r⟩ := h; exact ⟨e, kw, (ow b (by rw [e]; rfl)).trans c, Repk.mono (fun _ z => z) st _ _ r⟩
  | bor i => exact h
theorem svr_sigma (hb : sv.isBor = false) (h : SVR K g H σ sv v) : SVR K g H σ' sv v := by
  cases sv with
  | bor i => cases hb
  | _ => exact h
theorem svr_own (h : SVR K g H σ sv v) (e : Own sv v a) : True ∧ ∃ u, H a = some u ∧ Mut (some u) ∧ ∀ φ, u ≠ .ext φ := by
  cases sv with
  | no => cases v <;> cases e
  | fr m d => cases v <;> cases e
  | bor i => cases v <;> cases e
  | ot L d =>
    obtain ⟨u, e1, r, _⟩ := h
    subst e1
    exact ⟨trivial, RepT.own d u L r e⟩
  | ol m xs => obtain ⟨b, vs, e1, c, r⟩ := h; subst e1; cases e; exact ⟨trivial, _, c, trivial, fun _ z => nomatch z⟩
  | od m xs => obtain ⟨b, vs, e1, c, r⟩ := h; subst e1; cases e; exact ⟨trivial, _, c, trivial, fun _ z => nomatch z⟩
  | oe m xs => obtain ⟨b, vs, e1, c, r⟩ := h; subst e1; cases e; exact ⟨trivial, _, c, trivial, fun _ z => nomatch z⟩
  | oo m C xs => obtain ⟨b, dx, vs, e1, c, r⟩ := h; subst e1; cases e; exact ⟨trivial, _, c, trivial, fun _ z => nomatch z⟩
  | so b kvs =>
    obtain ⟨e1, kw, c, r⟩ := h
    subst e1
    cases e
    exact ⟨trivial, _, c, trivial, fun _ z => nomatch z⟩
  | sto b =>
    obtain ⟨e1, c⟩ := h
    subst e1
    cases e
    obtain ⟨_, _, _, _, _, _, _, _, q, _⟩ := c
    exact ⟨trivial, _, q, trivial, fun _ z => nomatch z⟩
end
theorem svr_some {K : PySem.W.Frag} {g : Gh} {H : Hp} {σ : L2.St} {sv : SV} {u : Option V} (h : SVR K g H σ sv u) (hn : sv ≠ .no) : ∃ v, u = some v := by
  cases sv with
  | no => exact absurd rfl hn
  | fr m d => obtain ⟨v, e, _⟩ := h; exact ⟨v, e⟩
  | ol m xs => obtain ⟨a, _, e, _⟩ := h; exact ⟨_, e⟩
  | od m xs => obtain ⟨a, _, e, _⟩ := h; exact ⟨_, e⟩
  | oe m xs => obtain ⟨a, _, e, _⟩ := h; exact ⟨_, e⟩
  | oo m C xs => obtain ⟨a, _, _, e, _⟩ := h; exact ⟨_, e⟩
  | ot L d => obtain ⟨u, e, _⟩ := h; exact ⟨u, e⟩
  | sto a => exact ⟨_, h.1⟩
  | so a kvs => exact ⟨_, h.1⟩
  | bor i => exact Option.isSome_iff_exists.mp h.1
theorem stab_new {H : Hp} {p : Addr} {o : HO} (h : H p = none) : Stab H (upd H p o) := ⟨⟨fun a u x e => by rw [upd_ne (ne_of_none e h)]; exact e, fun a x e => by rw [upd_ne (ne_of_none e h)]; exact e⟩, fun a x e => by rw [upd_ne (ne_of_none e h)]; exact e⟩
theorem stab_mut {H : Hp} {p : Addr} {o : HO} (h : Mut (H p)) : Stab H (upd H p o) :=
  ⟨⟨fun a u x e => by rw [upd_ne (fun z => by rw [← z, e] at h; exact h)]; exact e, fun a x e => by rw [upd_ne (fun z => by rw [← z, e] at h; exact h)]; exact e⟩, fun a x e => by rw [upd_ne (fun z => by rw [← z, e] at h; exact h)]; exact e⟩
theorem KeepB.upd {M : List Addr} {H0 H : Hp} {a : Addr} {o : HO} (k : KeepB M H0 H) (h : H0 a = none ∨ a ∈ M) : KeepB M H0 (upd H a o) := by
  refine ⟨fun c u e m t => ?_, fun c e => ?_⟩
  · by_cases hc : c = a
    · subst hc
      rcases h with h | h
      · rw [h] at e; cases e
      · exact absurd h m
    · rw [upd_ne hc]; exact k.keep c u e m t
  · by_cases hc : c = a
    · subst hc; rw [upd_same] at e; cases e
    · rw [upd_ne hc] at e; exact k.live c e
section
variable {X : Cx} {K : PySem.W.Frag} {g : Gh} {ρ : PSt} {σ : L2.St} {τ : List SV} {vs : List V} {H H' : Hp} {sv : SV} {v : V} {a p : Addr} {o : HO} {i : Nat}
theorem SR.heap (S : SR K g ρ σ τ vs H) (st : Stab H H') (ow : ∀ q ∈ ents ρ σ τ vs, ∀ a, Own q.1 q.2 a → H' a = H a) (hk : KeepB g.M g.B H') (tb : LamX.Tabs g.T.tb H') : SR K g ρ σ τ vs H' :=
  ⟨S.len, S.tlen, fun q hq => svr_mono st (ow q hq) (S.all q hq), S.inj, S.own, hk, tb, S.gnew, fun z hz => st.pin (S.pin z hz), S.nb, S.snew⟩
theorem SR.new (S : SR K g ρ σ τ vs H) (h : H p = none) : SR K g ρ σ τ vs (upd H p o) := by
  refine S.heap (stab_new h) (fun q hq b e => ?_) (S.keep.upd (.inl (S.keep.live p h))) (S.tabs.ext fun b u e => by rw [upd_ne (ne_of_none e h)]; exact e)
  obtain ⟨_, u, e1, _⟩ := svr_own (S.all q hq) e
  rw [upd_ne (ne_of_none e1 h)]
theorem SR.pop (S : SR K g ρ σ (sv :: τ) (v :: vs) H) : SR K g ρ σ τ vs H :=
  ⟨S.len, by have := S.tlen; simpa using this, fun q hq => S.all q (List.mem_cons_of_mem _ hq), Injs.tail S.inj, fun q hq => S.own q (List.mem_cons_of_mem _ hq), S.keep, S.tabs, S.gnew, S.pin, S.nb, S.snew⟩
theorem SR.top (S : SR K g ρ σ (sv :: τ) (v :: vs) H) : SVR K g H σ sv (some v) := S.all (sv, some v) List.mem_cons_self
theorem SR.push (S : SR K g ρ σ τ vs H) (h : SVR K g H σ sv (some v)) (f : ∀ a, Own sv (some v) a → (g.B a = none ∨ (a ∈ g.M ∧ sv.stoOf = some a)) ∧ ∀ q ∈ ents ρ σ τ vs, ¬ Own q.1 q.2 a) : SR K g ρ σ (sv :: τ) (v :: vs) H := by
  refine ⟨S.len, by simp [S.tlen], fun q hq => ?_, Injs.cons S.inj fun a e => (f a e).2, fun q hq a e => ?_, S.keep, S.tabs, S.gnew, S.pin, S.nb, S.snew⟩
  · rcases List.mem_cons.mp hq with rfl | hq
    · exact h
    · exact S.all q hq
  · rcases List.mem_cons.mp hq with rfl | hq
    · exact (f a e).1
    · exact S.own q hq a e
/-- a frozen value is laid on top -/
theorem SR.pushF {m : Bool} {d : D} (S : SR K g ρ σ τ vs H) (h : Rep K (g.gm m) H d v) : SR K g ρ σ (.fr m d :: τ) (v :: vs) H :=
  S.push ⟨v, rfl, h⟩ fun a e => by cases e
/-- a slot -/
theorem SR.slot (S : SR K g ρ σ τ vs H) (h : ρ[i]? = some sv) : ∃ u, σ[i]? = some u ∧ SVR K g H σ sv u ∧ (sv, u) ∈ ents ρ σ τ vs := by
  have hi : i < σ.length := by rw [← S.len]; exact (List.getElem?_eq_some_iff.mp h).1
  have e := ents_at S.tlen i h (List.getElem?_eq_getElem hi)
  exact ⟨_, List.getElem?_eq_getElem hi, S.all _ (List.mem_of_getElem? e), List.mem_of_getElem? e⟩
theorem SR.borSlot (S : SR K g ρ σ τ vs H) (h : SVR K g H σ (.bor i) (some v)) (e : ρ[i]? = some sv) (hn : sv ≠ .no) : σ[i]? = some (some v) := by
  obtain ⟨u, hu, z, _⟩ := S.slot e
  obtain ⟨w, rfl⟩ := svr_some z hn
  rw [hu, h.2 w hu]
theorem SR.assign (S : SR K g ρ σ (sv :: τ) (v :: vs) H) (hb : sv.isBor = false) (hn : NoBor τ) : SR K g (ρ.set i sv) (σ.set i (some v)) τ vs H := by
  have S' := S.pop
  have key : ∀ q ∈ ents (ρ.set i sv) (σ.set i (some v)) τ vs, q ∈ ents ρ σ τ vs ∨ q = (sv, some v) := fun q hq => by
    rw [ents_set S'.tlen] at hq
    exact List.mem_or_eq_of_mem_set hq
  have nbq : ∀ q ∈ ents ρ σ τ vs, q.1.isBor = false := fun q hq => by
    rcases List.mem_append.mp hq with z | z
    · exact hn _ (List.of_mem_zip z).1
    · exact S.nb _ (List.of_mem_zip z).1
  refine ⟨by simp [S.len], S'.tlen, fun q hq => ?_, ?_, fun q hq a e => ?_, S.keep, S.tabs, S.gnew, S.pin, fun x hx => ?_, S.snew⟩
  · rcases key q hq with z | rfl
    · exact svr_sigma (nbq q z) (S'.all q z)
    · exact svr_sigma hb S.top
  · have inj : Injs ((ents ρ σ τ vs).set (τ.length + i) (sv, some v)) := Injs.set S'.inj _ _ fun a e => .inr (Injs.fresh S.inj e)
    rw [← ents_set S'.tlen] at inj
    exact inj
  · rcases key q hq with z | rfl
    · exact S'.own q z a e
    · exact S.own (sv, some v) List.mem_cons_self a e
  · rcases List.mem_or_eq_of_mem_set hx with z | rfl
    · exact S.nb x z
    · exact hb
/-- an own cell of a slot is written -/
theorem SR.write {sv' : SV} (S : SR K g ρ σ τ vs H) (h : ρ[i]? = some sv) (hv : σ[i]? = some (some v)) (ho : Own sv (some v) a) (ho' : ∀ b, Own sv' (some v) b → b = a) (hb : sv'.isBor = false) (new : SVR K g (upd H a o) σ sv' (some v)) (ns : sv.stoOf = some a → sv'.stoOf = some a) :
    SR K g (ρ.set i sv') σ τ vs (upd H a o) := by
  have e0 := ents_at S.tlen i h hv
  have m0 := List.mem_of_getElem? e0
  obtain ⟨_, u, hu, mu, nx⟩ := svr_own (S.all _ m0) ho
  have st : Stab H (upd H a o) := stab_mut (by rw [hu]; exact mu)
  have es : ents (ρ.set i sv') σ τ vs = (ents ρ σ τ vs).set (τ.length + i) (sv', some v) := by
    have := ents_set (ρ := ρ) (σ := σ) S.tlen i sv' (some v)
    rw [show σ.set i (some v) = σ from by
      apply List.ext_getElem?
      intro j
      rw [List.getElem?_set]
      split
      · rename_i hj; subst hj; split
        · exact hv.symm
        · rename_i hl; rw [List.getElem?_eq_none (by omega)] at hv; cases hv
      · rfl] at this
    exact this
  refine ⟨by simp [S.len], S.tlen, fun q hq => ?_, ?_, fun q hq b e => ?_, S.keep.upd ((S.own _ m0 a ho).imp id And.left), ?_, S.gnew, fun z hz => st.pin (S.pin z hz), fun x hx => ?_, S.snew⟩
  · rw [es] at hq
    obtain ⟨j, hj⟩ := List.mem_iff_getElem?.mp hq
    by_cases hji : τ.length + i = j
    · subst hji
      rw [List.getElem?_set] at hj
      simp at hj
      rw [← hj.2]
      exact new
    · rw [List.getElem?_set_ne hji] at hj
      refine svr_mono st (fun b eb => ?_) (S.all q (List.mem_of_getElem? hj))
      rw [upd_ne]
      rintro rfl
      exact hji (S.inj _ _ _ _ _ e0 hj ho eb)
  · show Injs _
    rw [es]
    refine Injs.set S.inj _ _ fun b e => .inl ⟨_, e0, ?_⟩
    rw [ho' b e]
    exact ho
  · rw [es] at hq
    rcases List.mem_or_eq_of_mem_set hq with z | rfl
    · exact S.own q z b e
    · rw [ho' b e]
      rcases S.own _ m0 _ ho with w | ⟨w1, w2⟩
      · exact .inl w
      · exact .inr ⟨w1, ns w2⟩
  · intro pt hpt
    obtain ⟨ps, h1, h2, h3⟩ := S.tabs pt hpt
    have ne1 : pt.1 ≠ a := fun z => by rw [z, hu] at h1; cases h1; exact mu
    refine ⟨ps, by rw [upd_ne ne1]; exact h1, h2, fun pos cv hc => ?_⟩
    obtain ⟨c, e1, e2⟩ := h3 pos cv hc
    refine ⟨c, e1, ?_⟩
    rw [upd_ne]
    · exact e2
    rintro rfl
    rw [hu] at e2
    exact nx _ (Option.some.inj e2)
  · rcases List.mem_or_eq_of_mem_set hx with z | rfl
    · exact S.nb x z
    · exact hb
/-! ### the temporaries in another order -/
def Apart (p q : SV × Option V) : Prop := ∀ a, Own p.1 p.2 a → ¬ Own q.1 q.2 a
theorem Apart.symm {p q : SV × Option V} (h : Apart p q) : Apart q p := fun a e1 e2 => h a e2 e1
theorem injs_iff : ∀ {l : List (SV × Option V)}, Injs l ↔ l.Pairwise Apart
  | [] => ⟨fun _ => .nil, fun _ i j p q a e => by simp at e⟩
  | x :: l => by
    rw [List.pairwise_cons, ← injs_iff (l := l)]
    exact ⟨fun h => ⟨fun q hq a e1 e2 => Injs.fresh h e1 q hq e2, Injs.tail h⟩, fun h => Injs.cons h.2 fun a e q hq z => h.1 q hq a e z⟩
theorem injs_perm {l m : List (SV × Option V)} (p : l.Perm m) (h : Injs l) : Injs m :=
  injs_iff.mpr ((p.pairwise_iff (fun h => Apart.symm h)).mp (injs_iff.mp h))
theorem SR.perm {τ' : List SV} {vs' : List V} (S : SR K g ρ σ τ vs H) (hl : τ'.length = vs'.length) (p : (τ.zip (vs.map some)).Perm (τ'.zip (vs'.map some))) : SR K g ρ σ τ' vs' H := by
  have p2 : (ents ρ σ τ vs).Perm (ents ρ σ τ' vs') := p.append_right _
  exact ⟨S.len, hl, fun q hq => S.all q (p2.mem_iff.mpr hq), injs_perm p2 S.inj, fun q hq => S.own q (p2.mem_iff.mpr hq), S.keep, S.tabs, S.gnew, S.pin, S.nb, S.snew⟩
/-- the top goes below the list of temporaries svs -/
theorem SR.sink {svs : List SV} {us : List V} (S : SR K g ρ σ (sv :: (svs ++ τ)) (v :: (us ++ vs)) H) (hl : svs.length = us.length) : SR K g ρ σ (svs ++ (sv :: τ)) (us ++ (v :: vs)) H := by
  have t := S.tlen
  simp at t
  refine S.perm (by simp; omega) ?_
  rw [List.map_append, List.zip_append (by simpa using hl), List.map_cons, List.zip_cons_cons, List.map_cons, List.zip_cons_cons, List.map_append, List.zip_append (by simpa using hl)]
  exact (List.perm_middle).symm
theorem SR.lift {svs : List SV} {us : List V} (S : SR K g ρ σ (svs ++ (sv :: τ)) (us ++ (v :: vs)) H) (hl : svs.length = us.length) : SR K g ρ σ (sv :: (svs ++ τ)) (v :: (us ++ vs)) H := by
  have t := S.tlen
  simp at t
  refine S.perm (by simp; omega) ?_
  rw [List.map_append, List.zip_append (by simpa using hl), List.map_cons, List.zip_cons_cons, List.map_cons, List.zip_cons_cons, List.map_append, List.zip_append (by simpa using hl)]
  exact List.perm_middle
theorem SR.drop : ∀ {svs : List SV} {us : List V}, svs.length = us.length → SR K g ρ σ (svs ++ τ) (us ++ vs) H → SR K g ρ σ τ vs H
  | [], [], _, S => S
  | _ :: svs, _ :: us, hl, S => SR.drop (svs := svs) (us := us) (by simpa using hl) S.pop
/-! ### freezing -/
theorem set_self {l : List α} {i : Nat} {x : α} (h : l[i]? = some x) : l.set i x = l := by
  apply List.ext_getElem?
  intro j
  rw [List.getElem?_set]
  split
  · rename_i hj; subst hj; split
    · exact h.symm
    · rename_i hl; rw [List.getElem?_eq_none (by omega)] at h; cases h
  · rfl
variable {pins : List (Addr × Obj)} {s : Shared} {m : Bool} {d : D}
theorem SR.gm (S : SR K g ρ σ τ vs H) {q : SV × Option V} (hq : q ∈ ents ρ σ τ vs) (e : Own q.1 q.2 a) (ns : q.1.stoOf = none) : g.gm m a := fun _ => S.gnew a ((S.own q hq a e).elim id fun z => absurd z.2 (by rw [ns]; exact fun e => nomatch e))
/-- what a locked cell is worth -/
theorem rep_lock {od : Obj} (S : SR K g ρ σ τ vs H) (hm : (sv, some v) ∈ ents ρ σ τ vs) (t : sv.take0 = some (m, d)) (ho : Own sv (some v) a) (hu : H a = some o) (st : Stab H (upd H a (.frz od o))) : Rep K (g.gm m) (upd H a (.frz od o)) d v := by
  have z := S.all _ hm
  cases sv with
  | ol m' xs =>
    cases t
    obtain ⟨b, ws, e, c, r⟩ := z
    cases e; cases ho
    rw [hu] at c; cases c
    exact ⟨_, ws, rfl, ⟨S.gm hm rfl rfl, od, upd_same⟩, Reps.mono (fun _ z => z) st _ _ r⟩
  | od m' xs =>
    cases t
    obtain ⟨b, ws, e, c, r⟩ := z
    cases e; cases ho
    rw [hu] at c; cases c
    exact ⟨_, ws, rfl, ⟨S.gm hm rfl rfl, od, upd_same⟩, Repk.mono (fun _ z => z) st _ _ r⟩
  | oe m' xs =>
    cases t
    obtain ⟨b, ws, e, c, r⟩ := z
    cases e; cases ho
    rw [hu] at c; cases c
    exact ⟨_, ws, rfl, ⟨S.gm hm rfl rfl, od, upd_same⟩, Rept.mono (fun _ z => z) st _ _ r⟩
  | oo m' C xs =>
    cases t
    obtain ⟨b, dx, ws, e, c, r⟩ := z
    cases e; cases ho
    rw [hu] at c; cases c
    exact ⟨_, dx, ws, rfl, ⟨S.gm hm rfl rfl, od, upd_same⟩, Repf.mono (fun _ z => z) st _ _ r⟩
  | fr m' x => cases ho
  | no => cases ho
  | ot L x => cases t
  | sto b => cases t
  | so b kvs => cases t
  | bor j => cases ho
theorem take0_sto {sv : SV} {md : Bool × D} (t : sv.take0 = some md) : sv.stoOf = none := by
  cases sv <;> first | rfl | cases t
theorem take0_own (t : sv.take0 = some (m, d)) (z : SVR K g H σ sv (some v)) : sv = .fr m d ∨ ∃ a, Own sv (some v) a := by
  cases sv with
  | fr m' x => cases t; exact .inl rfl
  | ol m' xs => obtain ⟨b, ws, e, _⟩ := z; cases e; exact .inr ⟨_, rfl⟩
  | od m' xs => obtain ⟨b, ws, e, _⟩ := z; cases e; exact .inr ⟨_, rfl⟩
  | oe m' xs => obtain ⟨b, ws, e, _⟩ := z; cases e; exact .inr ⟨_, rfl⟩
  | oo m' C xs => obtain ⟨b, dx, ws, e, _⟩ := z; cases e; exact .inr ⟨_, rfl⟩
  | no => cases t
  | ot L x => cases t
  | sto b => cases t
  | so b kvs => cases t
  | bor j => cases t
theorem freezeSlot (I : Inv X pins σ H s) (S : SR X.K g ρ σ τ vs H) (h : ρ[i]? = some sv) (hv : σ[i]? = some (some v)) (t : sv.take0 = some (m, d)) :
    ∃ H', Inv X pins σ H' s ∧ SR X.K g (ρ.set i (.fr m d)) σ τ vs H' ∧ Rep X.K (g.gm m) H' d v := by
  have hm := List.mem_of_getElem? (ents_at S.tlen i h hv)
  rcases take0_own t (S.all _ hm) with e | ⟨a, ho⟩
  · subst e
    obtain ⟨u, e1, r⟩ := S.all _ hm
    cases e1
    exact ⟨H, I, by rw [set_self h]; exact S, r⟩
  · obtain ⟨_, u, hu, mu, _⟩ := svr_own (S.all _ hm) ho
    obtain ⟨od, I1⟩ := I.lock hu mu
    have st : Stab H (upd H a (.frz od u)) := stab_mut (by rw [hu]; exact mu)
    have r := rep_lock S hm t ho hu st
    exact ⟨_, I1, S.write h hv ho (fun _ e => nomatch e) rfl ⟨v, rfl, r⟩ (fun z => by rw [take0_sto t] at z; cases z), r⟩
theorem freezeTop (I : Inv X pins σ H s) (S : SR X.K g ρ σ (sv :: τ) (v :: vs) H) (t : sv.take0 = some (m, d)) : ∃ H', Inv X pins σ H' s ∧ SR X.K g ρ σ (.fr m d :: τ) (v :: vs) H' := by
  have hm : (sv, some v) ∈ ents ρ σ (sv :: τ) (v :: vs) := List.mem_cons_self
  rcases take0_own t S.top with e | ⟨a, ho⟩
  · subst e
    exact ⟨H, I, S⟩
  · obtain ⟨_, u, hu, mu, nx⟩ := svr_own S.top ho
    obtain ⟨od, I1⟩ := I.lock hu mu
    have st : Stab H (upd H a (.frz od u)) := stab_mut (by rw [hu]; exact mu)
    have r := rep_lock S hm t ho hu st
    have S1 := S.pop
    have S2 : SR X.K g ρ σ τ vs (upd H a (.frz od u)) := by
      refine S1.heap st (fun q hq b e => ?_) (S.keep.upd ((S.own _ hm a ho).imp id And.left)) ?_
      · rw [upd_ne]
        rintro rfl
        exact Injs.fresh S.inj ho q hq e
      · intro pt hpt
        obtain ⟨ps, h1, h2, h3⟩ := S.tabs pt hpt
        have ne1 : pt.1 ≠ a := fun z => by rw [z, hu] at h1; cases h1; exact mu
        refine ⟨ps, by rw [upd_ne ne1]; exact h1, h2, fun pos cv hc => ?_⟩
        obtain ⟨c, e1, e2⟩ := h3 pos cv hc
        refine ⟨c, e1, ?_⟩
        rw [upd_ne]
        · exact e2
        rintro rfl
        rw [hu] at e2
        exact nx _ (Option.some.inj e2)
    exact ⟨_, I1, S2.pushF r⟩
/-- the top is handed out for good -/
theorem take_ok {ρ1 : PSt} (I : Inv X pins σ H s) (S : SR X.K g ρ σ (sv :: τ) (v :: vs) H) (t : sv.take ρ = some (m, d, ρ1)) : ∃ H', Inv X pins σ H' s ∧ SR X.K g ρ1 σ (.fr m d :: τ) (v :: vs) H' := by
  have other : sv.isBor = false → ∃ H', Inv X pins σ H' s ∧ SR X.K g ρ1 σ (.fr m d :: τ) (v :: vs) H' := fun hb => by
    have t' : (match sv.take0 with
      | some (m, d) => some (m, d, ρ)
      | none => none) = some (m, d, ρ1) := by
      cases sv with
      | bor j => cases hb
      | _ => exact t
    cases e : sv.take0 with
    | none => rw [e] at t'; cases t'
    | some md =>
      rw [e] at t'
      cases t'
      exact freezeTop I S e
  cases sv with
  | bor j =>
    have t' : (match ρ[j]? with
      | some sv => (match sv.take0 with
        | some (m, d) => some (m, d, ρ.set j (.fr m d))
        | none => none)
      | none => none) = some (m, d, ρ1) := t
    cases e : ρ[j]? with
    | none => rw [e] at t'; cases t'
    | some sv =>
      rw [e] at t'
      cases e2 : sv.take0 with
      | none => simp only [e2] at t'; cases t'
      | some md =>
        simp only [e2] at t'
        cases t'
        have hv := S.borSlot S.top e (fun z => by subst z; cases e2)
        obtain ⟨H', I', S', r⟩ := freezeSlot I S e hv e2
        exact ⟨H', I', S'.pop.pushF r⟩
  | _ => exact other rfl
theorem takeAll_nil {ρ1 : PSt} {ds : List D} (t : takeAll [] ρ = some (m, ds, ρ1)) : m = true ∧ ds = [] ∧ ρ1 = ρ := by
  unfold takeAll at t
  injection t with t
  injection t with a b
  injection b with b c
  exact ⟨a.symm, b.symm, c.symm⟩
theorem takeAll_cons {svs : List SV} {ρ1 : PSt} {ds : List D} (t : takeAll (sv :: svs) ρ = some (m, ds, ρ1)) : ∃ m1 d1 ρ2 m2 ds2, sv.take ρ = some (m1, d1, ρ2) ∧ takeAll svs ρ2 = some (m2, ds2, ρ1) ∧ m = (m1 && m2) ∧ ds = d1 :: ds2 := by
  unfold takeAll at t
  cases e : sv.take ρ with
  | none => rw [e] at t; cases t
  | some r =>
    obtain ⟨m1, d1, ρ2⟩ := r
    simp only [e] at t
    cases e2 : takeAll svs ρ2 with
    | none => rw [e2] at t; cases t
    | some r2 =>
      obtain ⟨m2, ds2, ρ3⟩ := r2
      rw [e2] at t
      injection t with t
      injection t with a b
      injection b with b c
      subst a b c
      exact ⟨m1, d1, ρ2, m2, ds2, rfl, e2, rfl, rfl⟩
theorem takeAll_ok (svs : List SV) : ∀ (us : List V) (ρ ρ1 : PSt) (H : Hp) (m : Bool) (ds : List D) (τ : List SV) (vs : List V), Inv X pins σ H s → svs.length = us.length → SR X.K g ρ σ (svs ++ τ) (us ++ vs) H → takeAll svs ρ = some (m, ds, ρ1) →
    ∃ H', Inv X pins σ H' s ∧ SR X.K g ρ1 σ τ vs H' ∧ Reps X.K (g.gm m) H' ds us := by
  induction svs with
  | nil =>
    intro us ρ ρ1 H m ds τ vs I hl S t
    obtain ⟨rfl, rfl, rfl⟩ := takeAll_nil t
    have : us = [] := by
      cases us with
      | nil => rfl
      | cons _ _ => simp at hl
    subst this
    exact ⟨H, I, S, rfl⟩
  | cons sv svs ih =>
    intro us ρ ρ1 H m ds τ vs I hl S t
    cases us with
    | nil => simp at hl
    | cons u us =>
      have hl' : svs.length = us.length := by simpa using hl
      obtain ⟨m1, d1, ρ2, m2, ds2, e1, e2, rfl, rfl⟩ := takeAll_cons t
      obtain ⟨H1, I1, S1⟩ := take_ok I S e1
      obtain ⟨H2, I2, S2, r2⟩ := ih us ρ2 ρ1 H1 m2 ds2 _ _ I1 hl' (S1.sink hl') e2
      obtain ⟨w, hw, rw1⟩ := S2.top
      cases hw
      exact ⟨H2, I2, S2.pop, u, us, rfl, Rep.mono (Gh.gm_mono fun h => (Bool.and_eq_true_iff.mp h).1) .refl _ _ rw1, Reps.mono (Gh.gm_mono fun h => (Bool.and_eq_true_iff.mp h).2) .refl _ _ r2⟩
end
end Q

namespace Q
open PySem PySem.Spec PyProof.Rows L2
/-! ### judgements -/
def ExnOk (K : PySem.W.Frag) (g : Gh) (H : Hp) (x : Exn) (c : Value) (d : Option Addr) : Prop := (x.cls.own = true ∧ c = .ref (g.T.ea x.cls)) ∧ ∃ dd fv, d = some dd ∧ H dd = some (.xd fv) ∧ Repf K (fun _ => True) H x.fs fv
def WQ (X : Cx) (g : Gh) (Ξ : RX) : WX := fun c d σ H => ∃ x ρ τ vs, SR X.K g ρ σ τ vs H ∧ ExnOk X.K g H x c d ∧ Ξ x ρ
def QEnd (X : Cx) (g : Gh) (pins : List (Addr × Obj)) (σ : L2.St) (τ : List SV) (vs : List V) (Φ : RK) (u : Value) (s' : Shared) : Prop :=
  ∃ v H' sv ρ', L2.Inv X pins σ H' s' ∧ RelV v u ∧ SR X.K g ρ' σ (sv :: τ) (v :: vs) H' ∧ Φ sv ρ'
structure QE (X : Cx) (g : Gh) (e : Expr) (p : RE) : Prop where
  run : ∀ (pins : List (Addr × Obj)) (s : Shared) (σ : L2.St) (H : Hp) (τ : List SV) (vs : List V) (ρ : PSt) (Φ : RK) (Ξ : RX), Takes X (WQ X g Ξ) → L2.Inv X pins σ H s → SR X.K g ρ σ τ vs H → p ρ Φ Ξ →
    wpAny (model X.prog X.w) X.A (eval e X.env) (QEnd X g pins σ τ vs Φ) X.xe s
structure QT (X : Cx) (g : Gh) (e : Expr) (p : RT) : Prop where
  run : ∀ (pins : List (Addr × Obj)) (s : Shared) (σ : L2.St) (H : Hp) (τ : List SV) (vs : List V) (ρ : PSt) (Φ : Bool → PSt → Prop) (Ξ : RX), Takes X (WQ X g Ξ) → L2.Inv X pins σ H s → SR X.K g ρ σ τ vs H → p ρ Φ Ξ →
    wpAny (model X.prog X.w) X.A (isTrue e X.env (eval e X.env)) (fun b s' => ∃ H' ρ', L2.Inv X pins σ H' s' ∧ SR X.K g ρ' σ τ vs H' ∧ Φ b ρ') X.xe s
structure QW (X : Cx) (g : Gh) (e : Expr) (p : RT) : Prop where
  run : ∀ (whole : Sem Value) (pins : List (Addr × Obj)) (s : Shared) (σ : L2.St) (H : Hp) (τ : List SV) (vs : List V) (ρ : PSt) (Φ : Bool → PSt → Prop) (Ξ : RX), Takes X (WQ X g Ξ) → L2.Inv X pins σ H s → SR X.K g ρ σ τ vs H → p ρ Φ Ξ →
    wpAny (model X.prog X.w) X.A (isTrue e X.env whole) (fun b s' => ∃ H' ρ', L2.Inv X pins σ H' s' ∧ SR X.K g ρ' σ τ vs H' ∧ Φ b ρ') X.xe s
theorem QW.qt {X : Cx} {g : Gh} {e : Expr} {p : RT} (h : QW X g e p) : QT X g e p := ⟨h.run _⟩
structure QA (X : Cx) (g : Gh) (es : List Expr) (p : RA) : Prop where
  run : ∀ (pos : Pos) (pins : List (Addr × Obj)) (s : Shared) (σ : L2.St) (H : Hp) (τ : List SV) (vs : List V) (ρ : PSt) (Φ : List SV → PSt → Prop) (Ξ : RX), Takes X (WQ X g Ξ) → L2.Inv X pins σ H s → SR X.K g ρ σ τ vs H → p ρ Φ Ξ →
    wpAny (model X.prog X.w) X.A (spliced (backTo pos (starEach es X.env))) (fun us s' => ∃ ws H' svs ρ', L2.Inv X pins σ H' s' ∧ Vals ws us ∧ svs.length = ws.length ∧ SR X.K g ρ' σ (svs ++ τ) (ws ++ vs) H' ∧ Φ svs ρ') X.xe s
def SQ (X : Cx) (g : Gh) (pins : List (Addr × Obj)) (τ : List SV) (vs : List V) (D : PEnds) (f : Flow) (s' : Shared) : Prop :=
  match f with
  | .next => ∃ σ' H' ρ', L2.Inv X pins σ' H' s' ∧ SR X.K g ρ' σ' τ vs H' ∧ D.nx ρ'
  | .brk => ∃ σ' H' ρ', L2.Inv X pins σ' H' s' ∧ SR X.K g ρ' σ' τ vs H' ∧ D.bk ρ'
  | .cont => ∃ σ' H' ρ', L2.Inv X pins σ' H' s' ∧ SR X.K g ρ' σ' τ vs H' ∧ D.ct ρ'
  | .ret u => ∃ v σ' H' sv ρ' σ'', L2.Inv X pins σ' H' s' ∧ RelV v u ∧ SR X.K g ρ' σ'' (sv :: τ) (v :: vs) H' ∧ D.rt sv ρ'
structure QS (X : Cx) (g : Gh) (st : Stmt) (p : RS) : Prop where
  run : ∀ (pins : List (Addr × Obj)) (s : Shared) (σ : L2.St) (H : Hp) (τ : List SV) (vs : List V) (ρ : PSt) (D : PEnds), NoBor τ → Takes X (WQ X g D.ex) → L2.Inv X pins σ H s → SR X.K g ρ σ τ vs H → p D ρ →
    wpAny (model X.prog X.w) X.A (exec st X.env) (SQ X g pins τ vs D) X.xe s
structure QSs (X : Cx) (g : Gh) (st : List Stmt) (p : RS) : Prop where
  run : ∀ (pins : List (Addr × Obj)) (s : Shared) (σ : L2.St) (H : Hp) (τ : List SV) (vs : List V) (ρ : PSt) (D : PEnds), NoBor τ → Takes X (WQ X g D.ex) → L2.Inv X pins σ H s → SR X.K g ρ σ τ vs H → p D ρ →
    wpAny (model X.prog X.w) X.A (execs st X.env) (SQ X g pins τ vs D) X.xe s
/-! ### from and to the kit's readings -/
section
variable {X : Cx} {g : Gh} {e : Expr} {es : List Expr} {p : RE} {rt : RT} {ra : RA} {Ξ : RX}
def tqe (X : Cx) (g : Gh) (p : RE) (Ξ : RX) : TE := fun σ H Q => ∃ τ vs ρ Φ, SR X.K g ρ σ τ vs H ∧ p ρ Φ Ξ ∧ ∀ sv ρ' v H', SR X.K g ρ' σ (sv :: τ) (v :: vs) H' → Φ sv ρ' → Q v H'
def tqeT (X : Cx) (g : Gh) (p : RE) (Ξ : RX) : TE := fun σ H Q => ∃ τ vs ρ, ∃ Φ : Bool → D → PSt → Prop, SR X.K g ρ σ τ vs H ∧ p ρ (kT Φ) Ξ ∧ ∀ m d ρ' v H', SR X.K g ρ' σ τ vs H' → Rep X.K (g.gm m) H' d v → Φ m d ρ' → Q v H'
def tqt (X : Cx) (g : Gh) (p : RT) (Ξ : RX) : TT := fun σ H Q => ∃ τ vs ρ Φ, SR X.K g ρ σ τ vs H ∧ p ρ Φ Ξ ∧ ∀ b ρ' H', SR X.K g ρ' σ τ vs H' → Φ b ρ' → Q b H'
def tqa (X : Cx) (g : Gh) (p : RA) (Ξ : RX) : TA := fun σ H Q => ∃ τ vs ρ Φ, SR X.K g ρ σ τ vs H ∧ p ρ Φ Ξ ∧ ∀ svs ρ' us H', svs.length = us.length → SR X.K g ρ' σ (svs ++ τ) (us ++ vs) H' → Φ svs ρ' → Q us H'
def tqaT (X : Cx) (g : Gh) (p : RA) (Ξ : RX) : TA := fun σ H Q => ∃ τ vs ρ, ∃ Φ : Bool → List D → PSt → Prop, SR X.K g ρ σ τ vs H ∧ p ρ (kTs Φ) Ξ ∧ ∀ m ds ρ' us H', SR X.K g ρ' σ τ vs H' → Reps X.K (g.gm m) H' ds us → Φ m ds ρ' → Q us H'
theorem QE.pe (h : QE X g e p) (tk : Takes X (WQ X g Ξ)) : PE X e (tqe X g p Ξ) := ⟨fun pins s σ H Q I ⟨τ, vs, ρ, Φ, S, hp, k⟩ =>
  thn (h.run pins s σ H τ vs ρ Φ Ξ tk I S hp) fun u s' ⟨v, H', sv, ρ', I', r, S', q⟩ => ⟨v, H', I', r, k sv ρ' v H' S' q⟩⟩
theorem QE.peT (h : QE X g e p) (tk : Takes X (WQ X g Ξ)) : PE X e (tqeT X g p Ξ) := ⟨fun pins s σ H Q I ⟨τ, vs, ρ, Φ, S, hp, k⟩ =>
  thn (h.run pins s σ H τ vs ρ _ Ξ tk I S hp) fun u s' ⟨v, H', sv, ρ', I', r, S', q⟩ => by
    obtain ⟨m, d, ρ2, e, q⟩ := kT_ok q
    obtain ⟨H2, I2, S2⟩ := take_ok I' S' e
    obtain ⟨w, hw, rw1⟩ := S2.top
    cases hw
    exact ⟨v, H2, I2, r, k m d ρ2 v H2 S2.pop rw1 q⟩⟩
theorem QT.pt (h : QT X g e rt) (tk : Takes X (WQ X g Ξ)) : PT X e (tqt X g rt Ξ) := ⟨fun pins s σ H Q I ⟨τ, vs, ρ, Φ, S, hp, k⟩ =>
  thn (h.run pins s σ H τ vs ρ Φ Ξ tk I S hp) fun b s' ⟨H', ρ', I', S', q⟩ => ⟨H', I', k b ρ' H' S' q⟩⟩
theorem QW.pw (h : QW X g e rt) (tk : Takes X (WQ X g Ξ)) : PW X e (tqt X g rt Ξ) := ⟨fun wh pins s σ H Q I ⟨τ, vs, ρ, Φ, S, hp, k⟩ =>
  thn (h.run wh pins s σ H τ vs ρ Φ Ξ tk I S hp) fun b s' ⟨H', ρ', I', S', q⟩ => ⟨H', I', k b ρ' H' S' q⟩⟩
theorem QA.pa (h : QA X g es ra) (tk : Takes X (WQ X g Ξ)) : PA X es (tqa X g ra Ξ) := ⟨fun pos pins s σ H Q I ⟨τ, vs, ρ, Φ, S, hp, k⟩ =>
  thn (h.run pos pins s σ H τ vs ρ Φ Ξ tk I S hp) fun us s' ⟨ws, H', svs, ρ', I', r, l, S', q⟩ => ⟨ws, H', I', r, k svs ρ' ws H' l S' q⟩⟩
theorem QA.paT (h : QA X g es ra) (tk : Takes X (WQ X g Ξ)) : PA X es (tqaT X g ra Ξ) := ⟨fun pos pins s σ H Q I ⟨τ, vs, ρ, Φ, S, hp, k⟩ =>
  thn (h.run pos pins s σ H τ vs ρ _ Ξ tk I S hp) fun us s' ⟨ws, H', svs, ρ', I', r, l, S', q⟩ => by
    obtain ⟨m, ds, ρ2, e, q⟩ := kTs_ok q
    obtain ⟨H2, I2, S2, r2⟩ := takeAll_ok svs ws ρ' ρ2 H' m ds τ vs I' l S' e
    exact ⟨ws, H2, I2, r, k m ds ρ2 ws H2 S2 r2 q⟩⟩
theorem QE.of {t : RX → TE} (h : ∀ Ξ, Takes X (WQ X g Ξ) → PE X e (t Ξ)) (hp : ∀ τ vs ρ Φ Ξ σ H, SR X.K g ρ σ τ vs H → p ρ Φ Ξ → t Ξ σ H fun v H' => ∃ sv ρ', SR X.K g ρ' σ (sv :: τ) (v :: vs) H' ∧ Φ sv ρ') : QE X g e p :=
  ⟨fun pins s σ H τ vs ρ Φ Ξ tk I S hw => thn ((h Ξ tk).run pins s σ H _ I (hp τ vs ρ Φ Ξ σ H S hw)) fun u s' ⟨v, H', I', r, sv, ρ', S', q⟩ => ⟨v, H', sv, ρ', I', r, S', q⟩⟩
theorem QT.of {t : RX → TT} (h : ∀ Ξ, Takes X (WQ X g Ξ) → PT X e (t Ξ)) (hp : ∀ τ vs ρ Φ Ξ σ H, SR X.K g ρ σ τ vs H → rt ρ Φ Ξ → t Ξ σ H fun b H' => ∃ ρ', SR X.K g ρ' σ τ vs H' ∧ Φ b ρ') : QT X g e rt :=
  ⟨fun pins s σ H τ vs ρ Φ Ξ tk I S hw => thn ((h Ξ tk).run pins s σ H _ I (hp τ vs ρ Φ Ξ σ H S hw)) fun b s' ⟨H', I', ρ', S', q⟩ => ⟨H', ρ', I', S', q⟩⟩
theorem QW.of {t : RX → TT} (h : ∀ Ξ, Takes X (WQ X g Ξ) → PW X e (t Ξ)) (hp : ∀ τ vs ρ Φ Ξ σ H, SR X.K g ρ σ τ vs H → rt ρ Φ Ξ → t Ξ σ H fun b H' => ∃ ρ', SR X.K g ρ' σ τ vs H' ∧ Φ b ρ') : QW X g e rt :=
  ⟨fun wh pins s σ H τ vs ρ Φ Ξ tk I S hw => thn ((h Ξ tk).run wh pins s σ H _ I (hp τ vs ρ Φ Ξ σ H S hw)) fun b s' ⟨H', I', ρ', S', q⟩ => ⟨H', ρ', I', S', q⟩⟩
theorem QA.of {t : RX → TA} (h : ∀ Ξ, Takes X (WQ X g Ξ) → PA X es (t Ξ)) (hp : ∀ τ vs ρ Φ Ξ σ H, SR X.K g ρ σ τ vs H → ra ρ Φ Ξ → t Ξ σ H fun us H' => ∃ svs ρ', svs.length = us.length ∧ SR X.K g ρ' σ (svs ++ τ) (us ++ vs) H' ∧ Φ svs ρ') : QA X g es ra :=
  ⟨fun pos pins s σ H τ vs ρ Φ Ξ tk I S hw => thn ((h Ξ tk).run pos pins s σ H _ I (hp τ vs ρ Φ Ξ σ H S hw)) fun us s' ⟨ws, H', I', r, svs, ρ', l, S', q⟩ => ⟨ws, H', svs, ρ', I', r, l, S', q⟩⟩
end
/-! ### names and constants -/
section
variable {X : Cx} {g : Gh} {a b e : Expr} {es : List Expr} {p pa pb : RE} {pt pu : RT} {ps : RA} {i : Nat} {x : Str} {pos : Pos}
theorem qv (i : Nat) {x : Str} {pos : Pos} (hN : X.N[i]? = some x := by rfl) (hv : Vis X.env.scope x := by first | exact Or.inl rfl | exact Or.inr (Or.inl rfl) | exact Or.inr (Or.inr rfl)) (hd : (x == ("__debug__" : Str)) = false := by decide)
    (hcd : (x == ("__classdict__" : Str)) = false := by decide) : QE X g (.Name x pos) (rName i) := by
  refine QE.of (t := fun _ => tVar i) (fun _ _ => pe_var hN hv hd hcd) fun τ vs ρ Φ Ξ σ H S hw => ?_
  have hw' : (match ρ[i]? with
    | some (.fr m d) => Φ (.fr m d) ρ
    | some .no => False
    | some _ => Φ (.bor i) ρ
    | none => False) := hw
  cases e : ρ[i]? with
  | none => rw [e] at hw'; exact hw'.elim
  | some sv =>
    rw [e] at hw'
    obtain ⟨u, hu, z, hm⟩ := S.slot e
    have bor : sv ≠ .no → Φ (.bor i) ρ → ∃ v, σ[i]? = some (some v) ∧ ∃ sv ρ', SR X.K g ρ' σ (sv :: τ) (v :: vs) H ∧ Φ sv ρ' := fun hn q => by
      obtain ⟨v, rfl⟩ := svr_some z hn
      exact ⟨v, hu, .bor i, ρ, S.push (show SVR X.K g H σ (.bor i) (some v) from ⟨rfl, fun w e => by rw [hu] at e; cases e; rfl⟩) (fun a h => nomatch (show (none : Option Addr) = some a from h)), q⟩
    cases sv with
    | no => exact hw'.elim
    | fr m d =>
      obtain ⟨v, rfl, r⟩ := z
      exact ⟨v, hu, .fr m d, ρ, S.pushF r, hw'⟩
    | ol m xs => exact bor (by simp) hw'
    | od m xs => exact bor (by simp) hw'
    | oe m xs => exact bor (by simp) hw'
    | oo m C xs => exact bor (by simp) hw'
    | ot L d => exact bor (by simp) hw'
    | sto c => exact bor (by simp) hw'
    | so c kvs => exact bor (by simp) hw'
    | bor j => exact bor (by simp) hw'
theorem qc {v : V} {d : D} (h : PE X e (tC v)) (r : ∀ G H, Rep X.K G H d v) : QE X g e (rC d) :=
  QE.of (t := fun _ => tC v) (fun _ _ => h) fun τ vs ρ Φ Ξ σ H S hw => ⟨.fr true d, ρ, S.pushF (r _ _), hw⟩
theorem qi {i : Int} {j pos} : QE X g (.Constant (.int i) j pos) (rC (.int i)) := qc pe_int fun _ _ => rfl
theorem qb {b j pos} : QE X g (.Constant (.bool b) j pos) (rC (.bl b)) := qc pe_bl fun _ _ => rfl
theorem qn {j pos} : QE X g (.Constant .none j pos) (rC .non) := qc pe_non fun _ _ => rfl
theorem qs {x j pos} : QE X g (.Constant (.str x) j pos) (rC (.str x)) := qc pe_str fun _ _ => rfl
/-! ### arguments -/
theorem qa_nil : QA X g [] rNil := QA.of (t := fun _ => tNil) (fun _ _ => pa_nil) fun τ vs ρ Φ Ξ σ H S hw => ⟨[], ρ, rfl, S, hw⟩
theorem qa_cons (ha : QE X g e p) (hr : QA X g es ps) (hs : starEach (e :: es) X.env = (false, eval e X.env) :: starEach es X.env := by rfl) : QA X g (e :: es) (rCons p ps) := by
  refine QA.of (fun Ξ tk => pa_cons (ha.pe tk) (hr.pa tk) hs) fun τ vs ρ Φ Ξ σ H S hw => ?_
  refine ⟨τ, vs, ρ, _, S, hw, fun sv ρ1 v H1 S1 h1 => ?_⟩
  refine ⟨sv :: τ, v :: vs, ρ1, _, S1, h1, fun svs ρ2 us H2 hl S2 h2 => ?_⟩
  exact ⟨sv :: svs, ρ2, by simp [hl], S2.lift hl, h2⟩
end
end Q

namespace Q
open PySem PySem.Spec PyProof.Rows L2
/-! ### what is seen of a value -/
def ViewR (K : PySem.W.Frag) (g : Gh) (H : Hp) (m : Bool) : D → V → Prop
  | .lst xs, v => ∃ a vs, v = .ref a ∧ Rd H a (.lst vs) ∧ Reps K (g.gm m) H xs vs
  | .dk kvs, v => ∃ a kv, v = .ref a ∧ Rd H a (.dK kv) ∧ Repk K (g.gm m) H kvs kv
  | .dt kvs, v => ∃ a kv, v = .ref a ∧ Rd H a (.dT kv) ∧ Rept K (g.gm m) H kvs kv
  | .obj C fs, v => ∃ a dx fv, v = .ref a ∧ Rd H a (.ins C dx fv) ∧ Repf K (g.gm m) H fs fv
  | d, v => Rep K (g.gm m) H d v
theorem line_eq : sizeLine = line := sizeLine_eq
section
variable {K : PySem.W.Frag} {g : Gh} {ρ : PSt} {σ : L2.St} {τ : List SV} {vs : List V} {H : Hp} {sv : SV} {v : V} {m : Bool} {d : D}
theorem ViewR.of (h : Rep K (g.gm m) H d v) : ViewR K g H m d v := by
  cases d with
  | lst xs => obtain ⟨a, vs, e, f, r⟩ := h; exact ⟨a, vs, e, f.rd, r⟩
  | dk xs => obtain ⟨a, vs, e, f, r⟩ := h; exact ⟨a, vs, e, f.rd, r⟩
  | dt xs => obtain ⟨a, vs, e, f, r⟩ := h; exact ⟨a, vs, e, f.rd, r⟩
  | obj C xs => obtain ⟨a, dx, vs, e, f, r⟩ := h; exact ⟨a, dx, vs, e, f.rd, r⟩
  | _ => exact h
theorem view0_ok (h : SVR K g H σ sv (some v)) (e : sv.view0 = some (m, d)) : ViewR K g H m d v := by
  cases sv with
  | fr m' x => cases e; obtain ⟨u, e1, r⟩ := h; cases e1; exact .of r
  | ol m' xs => cases e; obtain ⟨a, ws, e1, c, r⟩ := h; cases e1; exact ⟨a, ws, rfl, .inl c, r⟩
  | od m' xs => cases e; obtain ⟨a, ws, e1, c, r⟩ := h; cases e1; exact ⟨a, ws, rfl, .inl c, r⟩
  | oe m' xs => cases e; obtain ⟨a, ws, e1, c, r⟩ := h; cases e1; exact ⟨a, ws, rfl, .inl c, r⟩
  | oo m' C xs => cases e; obtain ⟨a, dx, ws, e1, c, r⟩ := h; cases e1; exact ⟨a, dx, ws, rfl, .inl c, r⟩
  | sto a => cases e; exact Option.some.inj h.1
  | so a kvs => cases e; obtain ⟨e1, kw, c, r⟩ := h; cases e1; exact ⟨a, kw, rfl, .inl c, Repk.mono (fun _ _ z => Bool.noConfusion z) .refl _ _ r⟩
  | no => cases e
  | ot L x => cases e
  | bor i => cases e
theorem view_ok (S : SR K g ρ σ τ vs H) (h : SVR K g H σ sv (some v)) (e : sv.view ρ = some (m, d)) : ViewR K g H m d v := by
  cases sv with
  | bor i =>
    have e' : (match ρ[i]? with
      | some sv => sv.view0
      | none => none) = some (m, d) := e
    cases q : ρ[i]? with
    | none => rw [q] at e'; cases e'
    | some sv =>
      rw [q] at e'
      have hv := S.borSlot h q (fun z => by subst z; cases e')
      obtain ⟨u, hu, z, _⟩ := S.slot q
      rw [hv] at hu
      cases hu
      exact view0_ok z e'
  | _ => exact view0_ok h e
/-! ### new objects -/
theorem SR.free (S : SR K g ρ σ τ vs H) {p : Addr} (hp : H p = none) : g.B p = none := S.keep.live p hp
theorem SR.newOwn {p : Addr} {o : HO} (S : SR K g ρ σ τ vs H) (hp : H p = none) (h : SVR K g (upd H p o) σ sv (some (.ref p))) (ho : ∀ a, Own sv (some (.ref p)) a → p = a := by intro a e; cases e; rfl) : SR K g ρ σ (sv :: τ) (.ref p :: vs) (upd H p o) := by
  refine (S.new hp).push h fun a e => ?_
  have ea : p = a := ho a e
  subst ea
  refine ⟨.inl (S.free hp), fun q hq z => ?_⟩
  obtain ⟨_, u, e1, _⟩ := svr_own (S.all q hq) z
  rw [hp] at e1
  cases e1
theorem SR.newList {p : Addr} {xs : List D} {ws : List V} (S : SR K g ρ σ τ vs H) (hp : H p = none) (r : Reps K (g.gm m) H xs ws) : SR K g ρ σ (.ol m xs :: τ) (.ref p :: vs) (upd H p (.lst ws)) :=
  S.newOwn hp ⟨p, ws, rfl, upd_same, Reps.mono (fun _ z => z) (stab_new hp) _ _ r⟩
theorem SR.newTup {p : Addr} {xs : List D} {ws : List V} (S : SR K g ρ σ τ vs H) (hp : H p = none) (r : Reps K (g.gm m) H xs ws) : SR K g ρ σ (.fr m (.tup xs) :: τ) (.ref p :: vs) (upd H p (.tup ws)) :=
  (S.new hp).pushF ⟨p, ws, rfl, SqT.of upd_same, Reps.mono (fun _ z => z) (stab_new hp) _ _ r⟩
end
/-! ### two operands -/
def OpRd (X : Cx) (g : Gh) (r : R2) (o : Op2) : Prop := ∀ (σ : L2.St) (τ : List SV) (vs : List V) (ρ : PSt) (H : Hp) (x y : V) (m1 m2 : Bool) (d1 d2 : D) (k : SV → Prop) (Q : VK), SR X.K g ρ σ τ vs H → ViewR X.K g H m1 d1 x → ViewR X.K g H m2 d2 y → o m1 d1 m2 d2 k →
  (∀ sv z H', SR X.K g ρ σ (sv :: τ) (z :: vs) H' → k sv → Q z H') → r x y H Q
section
variable {X : Cx} {g : Gh} {a b e : Expr} {es : List Expr} {pa pb p : RE} {ps : RA} {r : R2} {o : Op2} {pos : Pos}
theorem op2_rd (hr : OpRd X g r o) {Ξ : RX} {τ : List SV} {vs : List V} {ρ : PSt} {Φ : RK} {σ : L2.St} {H : Hp} (S : SR X.K g ρ σ τ vs H) (hw : rOp2 o pa pb ρ Φ Ξ) :
    tOp r (tqe X g pa Ξ) (tqe X g pb Ξ) σ H fun v H' => ∃ sv ρ', SR X.K g ρ' σ (sv :: τ) (v :: vs) H' ∧ Φ sv ρ' := by
  refine ⟨τ, vs, ρ, _, S, hw, fun s1 ρ1 x H1 S1 h1 => ?_⟩
  refine ⟨s1 :: τ, x :: vs, ρ1, _, S1, h1, fun s2 ρ2 y H2 S2 h2 => ?_⟩
  obtain ⟨m1, d1, m2, d2, e1, e2, q⟩ := kV2_ok h2
  have v2 := view_ok S2 S2.top e2
  have v1 := view_ok S2 S2.pop.top e1
  exact hr σ τ vs ρ2 H2 x y m1 m2 d1 d2 _ _ S2.pop.pop v1 v2 q fun sv z H' S' k => ⟨sv, ρ2, S', k⟩
theorem q_op {op : Operator} (ho : OpR X (binaryOp op) r) (hr : OpRd X g r o) (ha : QE X g a pa) (hb : QE X g b pb) : QE X g (.BinOp a op b pos) (rOp2 o pa pb) :=
  QE.of (fun Ξ tk => pe_op ho (ha.pe tk) (hb.pe tk)) fun τ vs ρ Φ Ξ σ H S hw => op2_rd hr S hw
theorem q_cmp {op : CmpOp} (ho : OpR X (compareOp op) r) (hr : OpRd X g r o) (ha : QE X g a pa) (hb : QE X g b pb) (hm : behindInMarks op b = false) : QE X g (.Compare a [op] [b] pos) (rOp2 o pa pb) :=
  QE.of (fun Ξ tk => pe_cmpR ho (ha.pe tk) (hb.pe tk) hm) fun τ vs ρ Φ Ξ σ H S hw => op2_rd hr S hw
theorem SR.bl {K : PySem.W.Frag} {ρ : PSt} {σ : L2.St} {τ : List SV} {vs : List V} {H : Hp} {m c : Bool} {v : V} (S : SR K g ρ σ (.fr m (.bl c) :: τ) (v :: vs) H) : v = .bl c := by
  obtain ⟨u, e, r⟩ := S.top
  cases e
  exact r
/-- an expression that gives True or False, as a test -/
theorem q_cmpT {op : CmpOp} (ho : OpR X (compareOp op) r) (hr : OpRd X g r o) (ha : QE X g a pa) (hb : QE X g b pb) (hm : behindInMarks op b = false) : QT X g (.Compare a [op] [b] pos) (rB (rOp2 o pa pb)) := by
  refine QT.of (fun Ξ tk => pt_cmpR ho (ha.pe tk) (hb.pe tk) hm) fun τ vs ρ Φ Ξ σ H S hw => ?_
  refine ⟨τ, vs, ρ, _, S, hw, fun s1 ρ1 x H1 S1 h1 => ?_⟩
  refine ⟨s1 :: τ, x :: vs, ρ1, _, S1, h1, fun s2 ρ2 y H2 S2 h2 => ?_⟩
  obtain ⟨m1, d1, m2, d2, e1, e2, q⟩ := kV2_ok h2
  have v2 := view_ok S2 S2.top e2
  have v1 := view_ok S2 S2.pop.top e1
  refine hr σ τ vs ρ2 H2 x y m1 m2 d1 d2 _ _ S2.pop.pop v1 v2 q fun sv z H' S' k => ?_
  obtain ⟨m, c, rfl, q⟩ := kB_ok k
  exact ⟨c, S'.bl, ρ2, S'.pop, q⟩
theorem q_val (h : QE X g e p) (he : ∀ whole, isTrue e X.env whole = (do let v ← whole; standAt e.pos; holding [v] (truthy v)) := by intro _; rfl) : QT X g e (rB p) := by
  refine QT.of (fun Ξ tk => pt_val (h.pe tk) he) fun τ vs ρ Φ Ξ σ H S hw => ?_
  refine ⟨τ, vs, ρ, _, S, hw, fun sv ρ1 x H1 S1 h1 => ?_⟩
  obtain ⟨m, c, rfl, q⟩ := kB_ok h1
  exact ⟨c, S1.bl, ρ1, S1.pop, q⟩
/-! ### the operators of ints, texts -/
theorem view_int {K : PySem.W.Frag} {H : Hp} {m : Bool} {i : Int} {v : V} (h : ViewR K g H m (.int i) v) : v = .int i := h
theorem view_str {K : PySem.W.Frag} {H : Hp} {m : Bool} {x : Str} {v : V} (h : ViewR K g H m (.str x) v) : v = .str x := h
theorem rd_int {C : Int → Int → Prop} {f : Int → Int → Int} {C' : Int → Int → Prop} (hc : ∀ i j, C' i j → C i j) : OpRd X g (rI C fun i j => .int (f i j)) (oInt f C') := by
  intro σ τ vs ρ H x y m1 m2 d1 d2 k Q S v1 v2 h kk
  unfold oInt at h
  split at h
  · obtain ⟨c, q⟩ := h
    cases view_int v1
    cases view_int v2
    exact ⟨_, _, rfl, rfl, hc _ _ c, kk _ _ _ (S.pushF (m := true) (d := .int (f _ _)) rfl) q⟩
  · exact h.elim
theorem rd_cmpI {f : Int → Int → Bool} : OpRd X g (rI0 fun i j => .bl (f i j)) (oCmpI f) := by
  intro σ τ vs ρ H x y m1 m2 d1 d2 k Q S v1 v2 h kk
  unfold oCmpI at h
  split at h
  · cases view_int v1
    cases view_int v2
    exact ⟨_, _, rfl, rfl, kk _ _ _ (S.pushF (m := true) (d := .bl (f _ _)) rfl) h⟩
  · exact h.elim
theorem op_subC : OpR X (binaryOp .Sub) (rI (fun _ _ => True) fun i j => .int (i - j)) := fun pins s σ H x y v u Q I rx ry ⟨i, j, e1, e2, _, q⟩ => op_sub pins s σ H x y v u Q I rx ry ⟨i, j, e1, e2, q⟩
theorem q_sub (ha : QE X g a pa) (hb : QE X g b pb) : QE X g (.BinOp a .Sub b pos) (rOp2 oSub pa pb) := q_op op_subC (rd_int fun _ _ h => h) ha hb
theorem q_mul (ha : QE X g a pa) (hb : QE X g b pb) : QE X g (.BinOp a .Mult b pos) (rOp2 oMul pa pb) := q_op op_mul (rd_int fun _ _ h => h) ha hb
theorem q_mod (ha : QE X g a pa) (hb : QE X g b pb) : QE X g (.BinOp a .Mod b pos) (rOp2 oMod pa pb) := q_op op_mod (rd_int fun _ _ h => h) ha hb
theorem op_fdivC : OpR X (binaryOp .FloorDiv) (rI (fun _ j => 0 < j ∧ (j < 1073741824 ∨ j.natAbs.log2 < 9000)) fun i j => .int (i / j)) := fun pins s σ H x y v u Q I rx ry ⟨i, j, e1, e2, c, q⟩ => by
  rcases c.2 with h | h
  · exact op_fdiv pins s σ H x y v u Q I rx ry ⟨i, j, e1, e2, ⟨c.1, h⟩, q⟩
  · exact op_fdivW pins s σ H x y v u Q I rx ry ⟨i, j, e1, e2, ⟨c.1, h⟩, q⟩
theorem q_div (ha : QE X g a pa) (hb : QE X g b pb) : QE X g (.BinOp a .FloorDiv b pos) (rOp2 oDiv pa pb) := q_op op_fdivC (rd_int fun _ _ h => h) ha hb
theorem rd_isN {neg : Bool} : OpRd X g (fun x y H Q => y = .non ∧ Q (.bl (xor neg (decide (x = .non)))) H) (oIs neg) := by
  intro σ τ vs ρ H x y m1 m2 d1 d2 k Q S v1 v2 h kk
  obtain ⟨rfl, q⟩ := h
  refine ⟨v2, kk _ _ _ (S.pushF (m := true) (d := .bl (xor neg d1.isNon)) ?_) q⟩
  have e : d1.isNon = decide (x = .non) := by
    cases d1 with
    | non => cases (show x = V.non from v1); rfl
    | bl b => cases (show x = V.bl b from v1); rfl
    | int b => cases (show x = V.int b from v1); rfl
    | str b => cases (show x = V.str b from v1); rfl
    | ref b => cases (show x = V.ref b from v1); rfl
    | ty b => cases (show x = V.ty b from v1); rfl
    | lst b => obtain ⟨_, _, rfl, _⟩ := v1; rfl
    | tup b => obtain ⟨_, _, rfl, _⟩ := v1; rfl
    | dk b => obtain ⟨_, _, rfl, _⟩ := v1; rfl
    | dt b => obtain ⟨_, _, rfl, _⟩ := v1; rfl
    | obj C b => obtain ⟨_, _, _, rfl, _⟩ := v1; rfl
    | scr b => obtain ⟨_, rfl, _⟩ := v1; rfl
  show V.bl _ = V.bl _
  rw [e]
theorem op_isF : OpR X (compareOp .Is) (fun x y H Q => y = .non ∧ Q (.bl (xor false (decide (x = .non)))) H) := fun pins s σ H x y v u Q I rx ry h => op_isN pins s σ H x y v u Q I rx ry (by simpa using h)
theorem op_isT : OpR X (compareOp .IsNot) (fun x y H Q => y = .non ∧ Q (.bl (xor true (decide (x = .non)))) H) := fun pins s σ H x y v u Q I rx ry h => op_notN pins s σ H x y v u Q I rx ry (by simpa using h)
/-! ### + -/
abbrev rAddQ : R2 := fun x y H Q => ((∃ i j, x = V.int i ∧ y = V.int j ∧ Q (.int (i + j)) H) ∨ (∃ i j, x = V.str i ∧ y = V.str j ∧ i.length + j.length ≤ sizeLine ∧ Q (.str (i ++ j)) H)) ∨
  ∃ l b xs zs, x = V.ref l ∧ y = V.ref b ∧ Rd H l (.lst xs) ∧ Rd H b (.lst zs) ∧ xs.length + zs.length ≤ sizeLine ∧ ∀ p, H p = none → Q (.ref p) (upd H p (.lst (xs ++ zs)))
theorem op_catR : OpR X (binaryOp .Add) (fun x y H Q => ∃ l b xs zs, x = V.ref l ∧ y = V.ref b ∧ Rd H l (.lst xs) ∧ Rd H b (.lst zs) ∧ xs.length + zs.length ≤ sizeLine ∧ ∀ p, H p = none → Q (.ref p) (upd H p (.lst (xs ++ zs)))) := by
  intro pins s σ H x y v u Q I rx ry h
  obtain ⟨l, b, xs, zs, rfl, rfl, h1, h2, hz, q⟩ := h
  cases rx
  cases ry
  obtain ⟨_, i1, n1, r1, e1⟩ := h1.ok I.hok
  obtain ⟨_, i2, n2, r2, e2⟩ := h2.ok I.hok
  have l1 := r1.length
  have l2 := r2.length
  refine PySem.P.add_list e1 e2 ?_ (by rw [List.size_toArray, List.size_toArray]; omega)
  have ea : i1.toArray ++ i2.toArray = (i1 ++ i2).toArray := by simp
  rw [ea]
  refine ⟨.ref _, _, I.lnew (t' := s.toks) (r1.append r2) (by rw [List.length_append]; omega), rfl, ?_⟩
  exact q _ I.fresh
theorem op_addQ : OpR X (binaryOp .Add) rAddQ := (op_add.or op_add_str).or op_catR
theorem rd_add : OpRd X g rAddQ oAdd := by
  intro σ τ vs ρ H x y m1 m2 d1 d2 k Q S v1 v2 h kk
  unfold oAdd at h
  split at h
  · cases view_int v1
    cases view_int v2
    exact .inl (.inl ⟨_, _, rfl, rfl, kk _ _ _ (S.pushF (m := true) (d := .int _) rfl) h⟩)
  · cases view_str v1
    cases view_str v2
    exact .inl (.inr ⟨_, _, rfl, rfl, by rw [line_eq]; exact h.1, kk _ _ _ (S.pushF (m := true) (d := .str _) rfl) h.2⟩)
  · obtain ⟨a, ws, rfl, c, r⟩ := v1
    obtain ⟨b, us, rfl, c2, r2⟩ := v2
    refine .inr ⟨a, b, ws, us, rfl, rfl, c, c2, ?_, fun p hp => kk _ _ _ (S.newList hp (reps_app (Reps.mono (Gh.gm_mono fun h => (Bool.and_eq_true_iff.mp h).1) .refl _ _ r) (Reps.mono (Gh.gm_mono fun h => (Bool.and_eq_true_iff.mp h).2) .refl _ _ r2))) h.2⟩
    rw [line_eq, ← reps_len r, ← reps_len r2]
    exact h.1
  · exact h.elim
theorem q_add (ha : QE X g a pa) (hb : QE X g b pb) : QE X g (.BinOp a .Add b pos) (rOp2 oAdd pa pb) := q_op op_addQ rd_add ha hb
/-! ### == -/
mutual
def D.py : D → PyData
  | .non => .none
  | .bl b => .bool b
  | .int i => .int i
  | .str x => .str x
  | .lst xs => .list (pys xs)
  | .tup xs => .tuple (pys xs)
  | _ => .none
def pys : List D → List PyData
  | [] => []
  | x :: r => D.py x :: pys r
end
mutual
theorem py_lay : ∀ d : D, d.flatd = true → d.py.canLay0 = true
  | .non, _ => by simp only [D.py, PyData.canLay0]
  | .bl _, _ => by simp only [D.py, PyData.canLay0]
  | .int _, _ => by simp only [D.py, PyData.canLay0]
  | .str _, h => by simp only [D.py, PyData.canLay0]; unfold D.flatd at h; exact h
  | .lst xs, h => by
    simp only [D.py, PyData.canLay0]
    exact pys_lay xs (by unfold D.flatd at h; exact h)
  | .tup xs, h => by
    simp only [D.py, PyData.canLay0]
    exact pys_lay xs (by unfold D.flatd at h; exact h)
  | .dk _, h => by unfold D.flatd at h; cases h
  | .dt _, h => by unfold D.flatd at h; cases h
  | .obj _ _, h => by unfold D.flatd at h; cases h
  | .ref _, h => by unfold D.flatd at h; cases h
  | .ty _, h => by unfold D.flatd at h; cases h
  | .scr _, h => by unfold D.flatd at h; cases h
theorem pys_lay : ∀ ds : List D, D.flatd.flats ds = true → PyData.canLayAll0 (pys ds) = true
  | [], _ => by simp only [pys, PyData.canLayAll0]
  | x :: r, h => by
    unfold D.flatd.flats at h
    obtain ⟨h1, h2⟩ := Bool.and_eq_true_iff.mp h
    simp only [pys, PyData.canLayAll0, py_lay x h1, pys_lay r h2, Bool.and_self]
end
mutual
theorem py_dep : ∀ d : D, d.py.depth ≤ d.dep
  | .non => by simp only [D.py, PyData.depth, Nat.zero_le]
  | .bl _ => by simp only [D.py, PyData.depth, Nat.zero_le]
  | .int _ => by simp only [D.py, PyData.depth, Nat.zero_le]
  | .str _ => by simp only [D.py, PyData.depth, Nat.zero_le]
  | .lst xs => by
    have := pys_dep xs
    simp only [D.py, PyData.depth, D.dep]
    omega
  | .tup xs => by
    have := pys_dep xs
    simp only [D.py, PyData.depth, D.dep]
    omega
  | .dk _ => by simp only [D.py, PyData.depth, Nat.zero_le]
  | .dt _ => by simp only [D.py, PyData.depth, Nat.zero_le]
  | .obj _ _ => by simp only [D.py, PyData.depth, Nat.zero_le]
  | .ref _ => by simp only [D.py, PyData.depth, Nat.zero_le]
  | .ty _ => by simp only [D.py, PyData.depth, Nat.zero_le]
  | .scr _ => by simp only [D.py, PyData.depth, Nat.zero_le]
theorem pys_dep : ∀ ds : List D, PyData.depthAll (pys ds) ≤ D.dep.deps ds
  | [] => by simp only [pys, PyData.depthAll, Nat.zero_le]
  | x :: r => by
    have h1 := py_dep x
    have h2 := pys_dep r
    simp only [pys, PyData.depthAll, D.dep.deps]
    omega
end
mutual
theorem py_eqv : ∀ d e : D, d.flatd = true → e.flatd = true → PyData.eqv d.py e.py = D.eqv d e
  | .non, e, _, h => by cases e <;> first | (simp only [D.py, PyData.eqv, D.eqv]; done) | (simp only [D.flatd] at h; cases h)
  | .bl b, e, _, h => by cases e <;> first | (simp only [D.py, PyData.eqv, D.eqv]; done) | (simp only [D.flatd] at h; cases h)
  | .int i, e, _, h => by cases e <;> first | (simp only [D.py, PyData.eqv, D.eqv]; done) | (simp only [D.flatd] at h; cases h)
  | .str x, e, _, h => by cases e <;> first | (simp only [D.py, PyData.eqv, D.eqv]; done) | (simp only [D.flatd] at h; cases h)
  | .lst xs, e, h1, h => by
    cases e with
    | lst ys =>
      simp only [D.py, PyData.eqv, D.eqv]
      exact pys_eqv xs ys (by simp only [D.flatd] at h1; exact h1) (by simp only [D.flatd] at h; exact h)
    | _ => first | (simp only [D.py, PyData.eqv, D.eqv]; done) | (simp only [D.flatd] at h; cases h)
  | .tup xs, e, h1, h => by
    cases e with
    | tup ys =>
      simp only [D.py, PyData.eqv, D.eqv]
      exact pys_eqv xs ys (by simp only [D.flatd] at h1; exact h1) (by simp only [D.flatd] at h; exact h)
    | _ => first | (simp only [D.py, PyData.eqv, D.eqv]; done) | (simp only [D.flatd] at h; cases h)
  | .dk _, _, h, _ => by simp only [D.flatd] at h; cases h
  | .dt _, _, h, _ => by simp only [D.flatd] at h; cases h
  | .obj _ _, _, h, _ => by simp only [D.flatd] at h; cases h
  | .ref _, _, h, _ => by simp only [D.flatd] at h; cases h
  | .ty _, _, h, _ => by simp only [D.flatd] at h; cases h
  | .scr _, _, h, _ => by simp only [D.flatd] at h; cases h
theorem pys_eqv : ∀ xs ys : List D, D.flatd.flats xs = true → D.flatd.flats ys = true → PyData.eqvAll (pys xs) (pys ys) = D.eqv.eqvs xs ys
  | [], [], _, _ => by simp only [pys, PyData.eqvAll, D.eqv.eqvs]
  | [], _ :: _, _, _ => by simp only [pys, PyData.eqvAll, D.eqv.eqvs]
  | _ :: _, [], _, _ => by simp only [pys, PyData.eqvAll, D.eqv.eqvs]
  | x :: xs, y :: ys, h1, h2 => by
    simp only [D.flatd.flats] at h1 h2
    obtain ⟨a1, a2⟩ := Bool.and_eq_true_iff.mp h1
    obtain ⟨b1, b2⟩ := Bool.and_eq_true_iff.mp h2
    simp only [pys, PyData.eqvAll, D.eqv.eqvs, py_eqv x y a1 b1, pys_eqv xs ys a2 b2]
end
mutual
theorem dp_of {G : Addr → Prop} {K : PySem.W.Frag} {H : Hp} : ∀ (d : D) (v : V), d.flatd = true → Rep K G H d v → Dp K H v d.py
  | .non, _, _, r => by cases (show _ = V.non from r); simp only [D.py]; exact .non
  | .bl b, _, _, r => by cases (show _ = V.bl b from r); simp only [D.py]; exact .bl _
  | .int i, _, _, r => by cases (show _ = V.int i from r); simp only [D.py]; exact .int _
  | .str x, _, _, r => by cases (show _ = V.str x from r); simp only [D.py]; exact .str _
  | .lst xs, _, h, r => by
    obtain ⟨a, vs, rfl, f, q⟩ := r
    simp only [D.py]
    exact .lst (.inl f.rd) (dps_of xs vs (by simp only [D.flatd] at h; exact h) q)
  | .tup xs, _, h, r => by
    obtain ⟨a, vs, rfl, f, q⟩ := r
    simp only [D.py]
    exact .tup f (dps_of xs vs (by simp only [D.flatd] at h; exact h) q)
  | .dk _, _, h, _ => by simp only [D.flatd] at h; cases h
  | .dt _, _, h, _ => by simp only [D.flatd] at h; cases h
  | .obj _ _, _, h, _ => by simp only [D.flatd] at h; cases h
  | .ref _, _, h, _ => by simp only [D.flatd] at h; cases h
  | .ty _, _, h, _ => by simp only [D.flatd] at h; cases h
  | .scr _, _, h, _ => by simp only [D.flatd] at h; cases h
theorem dps_of {G : Addr → Prop} {K : PySem.W.Frag} {H : Hp} : ∀ (ds : List D) (vs : List V), D.flatd.flats ds = true → Reps K G H ds vs → DpAll K H vs (pys ds)
  | [], _, _, r => by cases r; simp only [pys]; exact .nil
  | x :: xs, _, h, ⟨v, vs, e, r1, r2⟩ => by
    subst e
    simp only [D.flatd.flats] at h
    obtain ⟨a1, a2⟩ := Bool.and_eq_true_iff.mp h
    simp only [pys]
    exact .cons (dp_of x v a1 r1) (dps_of xs vs a2 r2)
end
theorem dp_view {K : PySem.W.Frag} {H : Hp} {m : Bool} {d : D} {v : V} (h : d.flatd = true) (r : ViewR K g H m d v) : Dp K H v d.py := by
  cases d with
  | lst xs =>
    obtain ⟨a, vs, rfl, f, q⟩ := r
    simp only [D.py]
    exact .lst (.inl f) (dps_of xs vs (by simp only [D.flatd] at h; exact h) q)
  | dk xs => simp only [D.flatd] at h; cases h
  | dt xs => simp only [D.flatd] at h; cases h
  | obj C xs => simp only [D.flatd] at h; cases h
  | _ => exact dp_of (G := g.gm m) _ _ h r
theorem shaped_of {d : D} (h : d.flatd = true) (hd : d.dep ≤ 64) : SeqAt.shaped d.py = true := by
  unfold SeqAt.shaped
  rw [py_lay d h, decide_eq_true (Nat.le_trans (py_dep d) hd)]
  rfl
abbrev rEqQ (K : PySem.W.Frag) : R2 := fun x y H Q => rEq x y H Q ∨ rEqD K x y H Q
abbrev rNeQ (K : PySem.W.Frag) : R2 := fun x y H Q => rNe x y H Q ∨ rNeD K x y H Q
theorem rd_eq : OpRd X g (rEqQ X.K) (oEq false) := by
  intro σ τ vs ρ H x y m1 m2 d1 d2 k Q S v1 v2 h kk
  unfold oEq at h
  split at h
  · cases view_str v1
    cases view_str v2
    rename_i a b
    refine .inl ⟨rfl, kk _ _ _ (S.pushF (m := true) (d := .bl _) ?_) h⟩
    show V.bl _ = V.bl _
    rw [dec_str]
    simp
  · obtain ⟨⟨f1, f2, e1, e2⟩, q⟩ := h
    refine .inr ⟨_, _, dp_view f1 v1, dp_view f2 v2, shaped_of f1 e1, shaped_of f2 e2, ?_⟩
    rw [py_eqv _ _ f1 f2]
    exact kk _ _ _ (S.pushF (m := true) (d := .bl _) (by show V.bl _ = V.bl _; simp)) q
theorem rd_ne : OpRd X g (rNeQ X.K) (oEq true) := by
  intro σ τ vs ρ H x y m1 m2 d1 d2 k Q S v1 v2 h kk
  unfold oEq at h
  split at h
  · cases view_str v1
    cases view_str v2
    rename_i a b
    refine .inl ⟨rfl, kk _ _ _ (S.pushF (m := true) (d := .bl _) ?_) h⟩
    show V.bl _ = V.bl _
    rw [dec_str]
    simp
  · obtain ⟨⟨f1, f2, e1, e2⟩, q⟩ := h
    refine .inr ⟨_, _, dp_view f1 v1, dp_view f2 v2, shaped_of f1 e1, shaped_of f2 e2, ?_⟩
    rw [py_eqv _ _ f1 f2]
    exact kk _ _ _ (S.pushF (m := true) (d := .bl _) (by show V.bl _ = V.bl _; simp)) q
theorem op_eqQ (hu : X.A.units + 64 < cLine) : OpR X (compareOp .Eq) (rEqQ X.K) := op_eq.or (op_eqD hu)
theorem op_neQ (hu : X.A.units + 64 < cLine) : OpR X (compareOp .NotEq) (rNeQ X.K) := op_ne.or (op_neD hu)
end
end Q

namespace Q
open PySem PySem.Spec PyProof.Rows L2
section
variable {X : Cx} {g : Gh} {a b e c : Expr} {es rest : List Expr} {pa pb p q : RE} {ta tb tc : RT} {ps : RA} {pos : Pos} {Ξ : RX}
/-! ### and, or, not -/
theorem qw_and1 (ha : QT X g a ta) : QW X g (.BoolOp .And [a] pos) ta :=
  QW.of (fun Ξ tk => pw_and1 (ha.pt tk)) fun τ vs ρ Φ Ξ σ H S hw => ⟨τ, vs, ρ, Φ, S, hw, fun b ρ' H' S' q => ⟨ρ', S', q⟩⟩
theorem qw_or1 (ha : QT X g a ta) : QW X g (.BoolOp .Or [a] pos) ta :=
  QW.of (fun Ξ tk => pw_or1 (ha.pt tk)) fun τ vs ρ Φ Ξ σ H S hw => ⟨τ, vs, ρ, Φ, S, hw, fun b ρ' H' S' q => ⟨ρ', S', q⟩⟩
theorem qw_and (ha : QT X g a ta) (hb : QW X g (.BoolOp .And (b :: rest) pos) tb) : QW X g (.BoolOp .And (a :: b :: rest) pos) (rAnd ta tb) := by
  refine QW.of (fun Ξ tk => pw_and (ha.pt tk) (hb.pw tk)) fun τ vs ρ Φ Ξ σ H S hw => ⟨τ, vs, ρ, _, S, hw, fun c ρ' H' S' q => ?_⟩
  cases c with
  | true => exact ⟨τ, vs, ρ', Φ, S', q.t rfl, fun b ρ' H' S' q => ⟨ρ', S', q⟩⟩
  | false => exact ⟨ρ', S', q.f rfl⟩
theorem qw_or (ha : QT X g a ta) (hb : QW X g (.BoolOp .Or (b :: rest) pos) tb) : QW X g (.BoolOp .Or (a :: b :: rest) pos) (rOr ta tb) := by
  refine QW.of (fun Ξ tk => pw_or (ha.pt tk) (hb.pw tk)) fun τ vs ρ Φ Ξ σ H S hw => ⟨τ, vs, ρ, _, S, hw, fun c ρ' H' S' q => ?_⟩
  cases c with
  | false => exact ⟨τ, vs, ρ', Φ, S', q.f rfl, fun b ρ' H' S' q => ⟨ρ', S', q⟩⟩
  | true => exact ⟨ρ', S', q.t rfl⟩
theorem qt_not (ha : QT X g a ta) : QT X g (.UnaryOp .Not a pos) (rNot ta) :=
  QT.of (fun Ξ tk => pt_not (ha.pt tk)) fun τ vs ρ Φ Ξ σ H S hw => ⟨τ, vs, ρ, _, S, hw, fun b ρ' H' S' q => ⟨ρ', S', q⟩⟩
theorem q_one {op} (h : QE X g a p) : QE X g (.BoolOp op [a] pos) p :=
  QE.of (fun Ξ tk => pe_one (h.pe tk)) fun τ vs ρ Φ Ξ σ H S hw => ⟨τ, vs, ρ, Φ, S, hw, fun sv ρ' v H' S' q => ⟨sv, ρ', S', q⟩⟩
theorem q_and (ha : QE X g a pa) (hb : QE X g (.BoolOp .And (b :: rest) pos) pb) : QE X g (.BoolOp .And (a :: b :: rest) pos) (rAndV pa pb) := by
  refine QE.of (fun Ξ tk => pe_and (ha.pe tk) (hb.pe tk)) fun τ vs ρ Φ Ξ σ H S hw => ⟨τ, vs, ρ, _, S, hw, fun sv ρ' v H' S' q => ?_⟩
  obtain ⟨m, c, rfl, q⟩ := kB_ok q
  refine ⟨c, S'.bl, ?_⟩
  cases c with
  | true => exact ⟨τ, vs, ρ', Φ, S'.pop, q.t rfl, fun sv ρ' v H' S' q => ⟨sv, ρ', S', q⟩⟩
  | false => exact ⟨_, ρ', S'.pop.pushF (m := true) (d := .bl false) rfl, q.f rfl⟩
theorem q_or (ha : QE X g a pa) (hb : QE X g (.BoolOp .Or (b :: rest) pos) pb) : QE X g (.BoolOp .Or (a :: b :: rest) pos) (rOrV pa pb) := by
  refine QE.of (fun Ξ tk => pe_or (ha.pe tk) (hb.pe tk)) fun τ vs ρ Φ Ξ σ H S hw => ⟨τ, vs, ρ, _, S, hw, fun sv ρ' v H' S' q => ?_⟩
  obtain ⟨m, c, rfl, q⟩ := kB_ok q
  refine ⟨c, S'.bl, ?_⟩
  cases c with
  | false => exact ⟨τ, vs, ρ', Φ, S'.pop, q.f rfl, fun sv ρ' v H' S' q => ⟨sv, ρ', S', q⟩⟩
  | true => exact ⟨_, ρ', S'.pop.pushF (m := true) (d := .bl true) rfl, q.t rfl⟩
theorem q_not (ha : QE X g a pa) : QE X g (.UnaryOp .Not a pos) (rNotV pa) := by
  refine QE.of (fun Ξ tk => pe_not (ha.pe tk)) fun τ vs ρ Φ Ξ σ H S hw => ⟨τ, vs, ρ, _, S, hw, fun sv ρ' v H' S' q => ?_⟩
  obtain ⟨m, c, rfl, q⟩ := kB_ok q
  exact ⟨c, S'.bl, _, ρ', S'.pop.pushF (m := true) (d := .bl (!c)) rfl, q⟩
theorem q_ifE (hc : QT X g c tc) (ha : QE X g a pa) (hb : QE X g b pb) : QE X g (.IfExp c a b pos) (rIfE tc pa pb) := by
  refine QE.of (fun Ξ tk => pe_ifExp (hc.pt tk) (ha.pe tk) (hb.pe tk)) fun τ vs ρ Φ Ξ σ H S hw => ⟨τ, vs, ρ, _, S, hw, fun c ρ' H' S' q => ?_⟩
  cases c with
  | true => exact ⟨τ, vs, ρ', Φ, S', q.t rfl, fun sv ρ' v H' S' q => ⟨sv, ρ', S', q⟩⟩
  | false => exact ⟨τ, vs, ρ', Φ, S', q.f rfl, fun sv ρ' v H' S' q => ⟨sv, ρ', S', q⟩⟩
/-! ### displays -/
theorem q_tup {k} (h : QA X g es ps) : QE X g (.Tuple es k pos) (rTup ps) := by
  refine QE.of (fun Ξ tk => pe_tup (h.paT tk)) fun τ vs ρ Φ Ξ σ H S hw => ⟨τ, vs, ρ, _, S, hw, fun m ds ρ' us H' S' r q => ?_⟩
  exact ⟨by rw [line_eq, ← reps_len r]; exact q.1, fun p hp => ⟨_, ρ', S'.newTup hp r, q.2⟩⟩
theorem q_lst (h : QA X g es ps) : QE X g (.List es pos) (rLst ps) := by
  refine QE.of (fun Ξ tk => pe_lst (h.paT tk)) fun τ vs ρ Φ Ξ σ H S hw => ⟨τ, vs, ρ, _, S, hw, fun m ds ρ' us H' S' r q => ?_⟩
  exact ⟨by rw [line_eq, ← reps_len r]; exact q.1, fun p hp => ⟨_, ρ', S'.newList hp r, q.2⟩⟩
end
/-! ### statements -/
section
variable {X : Cx} {g : Gh} {st : Stmt} {sts : List Stmt} {e c : Expr} {p : RE} {ct : RT} {q r : RS} {pos : Pos} {Ξ : RX} {i : Nat} {x : Str}
def endsQ (X : Cx) (g : Gh) (τ : List SV) (vs : List V) (D : PEnds) : Ends where
  nx := fun σ H => ∃ ρ, SR X.K g ρ σ τ vs H ∧ D.nx ρ
  rt := fun v H => ∃ σ sv ρ, SR X.K g ρ σ (sv :: τ) (v :: vs) H ∧ D.rt sv ρ
  bk := fun σ H => ∃ ρ, SR X.K g ρ σ τ vs H ∧ D.bk ρ
  ct := fun σ H => ∃ ρ, SR X.K g ρ σ τ vs H ∧ D.ct ρ
theorem SP.sq {pins : List (Addr × Obj)} {τ : List SV} {vs : List V} {D : PEnds} {f : Flow} {s' : Shared} (h : SP X pins (endsQ X g τ vs D) f s') : SQ X g pins τ vs D f s' := by
  cases f with
  | next => obtain ⟨σ', H', I, ρ, S, q⟩ := h; exact ⟨σ', H', ρ, I, S, q⟩
  | brk => obtain ⟨σ', H', I, ρ, S, q⟩ := h; exact ⟨σ', H', ρ, I, S, q⟩
  | cont => obtain ⟨σ', H', I, ρ, S, q⟩ := h; exact ⟨σ', H', ρ, I, S, q⟩
  | ret u => obtain ⟨v, σ', H', I, rv, σ'', sv, ρ, S, q⟩ := h; exact ⟨v, σ', H', sv, ρ, σ'', I, rv, S, q⟩
theorem QS.of {t : RX → TS} (h : ∀ Ξ, Takes X (WQ X g Ξ) → PS X st (t Ξ)) (hp : ∀ τ vs ρ D σ H, NoBor τ → SR X.K g ρ σ τ vs H → q D ρ → t D.ex (endsQ X g τ vs D) σ H) : QS X g st q :=
  ⟨fun pins s σ H τ vs ρ D nb tk I S hw => thn ((h _ tk).run pins s σ H _ I (hp τ vs ρ D σ H nb S hw)) fun f s' z => SP.sq z⟩
theorem QSs.of {t : RX → TS} (h : ∀ Ξ, Takes X (WQ X g Ξ) → PSs X sts (t Ξ)) (hp : ∀ τ vs ρ D σ H, NoBor τ → SR X.K g ρ σ τ vs H → q D ρ → t D.ex (endsQ X g τ vs D) σ H) : QSs X g sts q :=
  ⟨fun pins s σ H τ vs ρ D nb tk I S hw => thn ((h _ tk).run pins s σ H _ I (hp τ vs ρ D σ H nb S hw)) fun f s' z => SP.sq z⟩
def tqs (X : Cx) (g : Gh) (p : RS) (Ξ : RX) : TS := fun E σ H => ∃ τ vs ρ D, NoBor τ ∧ D.ex = Ξ ∧ SR X.K g ρ σ τ vs H ∧ p D ρ ∧
  (∀ ρ' σ' H', SR X.K g ρ' σ' τ vs H' → D.nx ρ' → E.nx σ' H') ∧ (∀ sv ρ' v σ' H', SR X.K g ρ' σ' (sv :: τ) (v :: vs) H' → D.rt sv ρ' → E.rt v H') ∧
  (∀ ρ' σ' H', SR X.K g ρ' σ' τ vs H' → D.bk ρ' → E.bk σ' H') ∧ (∀ ρ' σ' H', SR X.K g ρ' σ' τ vs H' → D.ct ρ' → E.ct σ' H')
theorem sq_sp {pins : List (Addr × Obj)} {τ : List SV} {vs : List V} {D : PEnds} {E : Ends} {f : Flow} {s' : Shared} (h : SQ X g pins τ vs D f s') (h1 : ∀ ρ' σ' H', SR X.K g ρ' σ' τ vs H' → D.nx ρ' → E.nx σ' H') (h2 : ∀ sv ρ' v σ' H', SR X.K g ρ' σ' (sv :: τ) (v :: vs) H' → D.rt sv ρ' → E.rt v H')
    (h3 : ∀ ρ' σ' H', SR X.K g ρ' σ' τ vs H' → D.bk ρ' → E.bk σ' H') (h4 : ∀ ρ' σ' H', SR X.K g ρ' σ' τ vs H' → D.ct ρ' → E.ct σ' H') : SP X pins E f s' := by
  cases f with
  | next => obtain ⟨σ', H', ρ, I, S, q⟩ := h; exact ⟨σ', H', I, h1 _ _ _ S q⟩
  | brk => obtain ⟨σ', H', ρ, I, S, q⟩ := h; exact ⟨σ', H', I, h3 _ _ _ S q⟩
  | cont => obtain ⟨σ', H', ρ, I, S, q⟩ := h; exact ⟨σ', H', I, h4 _ _ _ S q⟩
  | ret u => obtain ⟨v, σ', H', sv, ρ, σ'', I, rv, S, q⟩ := h; exact ⟨v, σ', H', I, rv, h2 _ _ _ _ _ S q⟩
theorem QS.ps (h : QS X g st q) (tk : Takes X (WQ X g Ξ)) : PS X st (tqs X g q Ξ) := ⟨fun pins s σ H E I ⟨τ, vs, ρ, D, nb, he, S, hp, h1, h2, h3, h4⟩ => by
  subst he
  exact thn (h.run pins s σ H τ vs ρ D nb tk I S hp) fun f s' z => sq_sp z h1 h2 h3 h4⟩
theorem QSs.pss (h : QSs X g sts q) (tk : Takes X (WQ X g Ξ)) : PSs X sts (tqs X g q Ξ) := ⟨fun pins s σ H E I ⟨τ, vs, ρ, D, nb, he, S, hp, h1, h2, h3, h4⟩ => by
  subst he
  exact thn (h.run pins s σ H τ vs ρ D nb tk I S hp) fun f s' z => sq_sp z h1 h2 h3 h4⟩
/-- the usual witness -/
theorem tqs_in {τ : List SV} {vs : List V} {ρ : PSt} {σ : L2.St} {H : Hp} {D : PEnds} (nb : NoBor τ) (S : SR X.K g ρ σ τ vs H) (h : q D ρ) : tqs X g q D.ex (endsQ X g τ vs D) σ H :=
  ⟨τ, vs, ρ, D, nb, rfl, S, h, fun ρ' _ _ S' q => ⟨ρ', S', q⟩, fun sv ρ' v σ' _ S' q => ⟨σ', sv, ρ', S', q⟩, fun ρ' _ _ S' q => ⟨ρ', S', q⟩, fun ρ' _ _ S' q => ⟨ρ', S', q⟩⟩
theorem qs_nil : QSs X g [] rNext := QSs.of (t := fun _ => tNext) (fun _ _ => pss_nil) fun τ vs ρ D σ H nb S hw => ⟨ρ, S, hw⟩
theorem qs_cons (h1 : QS X g st q) (h2 : QSs X g sts r) : QSs X g (st :: sts) (rSeq q r) := by
  refine QSs.of (fun Ξ tk => pss_cons (h1.ps tk) (h2.pss tk)) fun τ vs ρ D σ H nb S hw => ?_
  refine ⟨τ, vs, ρ, { D with nx := r D }, nb, rfl, S, hw, fun ρ' σ' H' S' q => tqs_in nb S' q, fun sv ρ' v σ' _ S' q => ⟨σ', sv, ρ', S', q⟩, fun ρ' _ _ S' q => ⟨ρ', S', q⟩, fun ρ' _ _ S' q => ⟨ρ', S', q⟩⟩
theorem qs_one (h1 : QS X g st q) : QSs X g [st] q :=
  QSs.of (fun Ξ tk => pss_one (h1.ps tk)) fun τ vs ρ D σ H nb S hw => tqs_in nb S hw
theorem q_pass : QS X g (.Pass pos) rNext := QS.of (t := fun _ => tNext) (fun _ _ => ps_pass) fun τ vs ρ D σ H nb S hw => ⟨ρ, S, hw⟩
theorem q_break : QS X g (.Break pos) rBreak := QS.of (t := fun _ => tBreak) (fun _ _ => ps_break) fun τ vs ρ D σ H nb S hw => ⟨ρ, S, hw⟩
theorem q_cont : QS X g (.Continue pos) rCont := QS.of (t := fun _ => tCont) (fun _ _ => ps_continue) fun τ vs ρ D σ H nb S hw => ⟨ρ, S, hw⟩
theorem q_expr (he : QE X g e p) (hs : swapsWith e none pos.line X.env = pure false := by rfl) : QS X g (.Expr e pos) (rDrop p) :=
  QS.of (fun Ξ tk => ps_expr (he.pe tk) hs) fun τ vs ρ D σ H nb S hw => ⟨τ, vs, ρ, _, S, hw, fun sv ρ' v H' S' q => ⟨ρ', S'.pop, q⟩⟩
theorem q_ret (he : QE X g e p) : QS X g (.Return (some e) pos) (rRet p) :=
  QS.of (fun Ξ tk => ps_ret (he.pe tk)) fun τ vs ρ D σ H nb S hw => ⟨τ, vs, ρ, _, S, hw, fun sv ρ' v H' S' q => ⟨σ, sv, ρ', S', q⟩⟩
theorem q_retN : QS X g (.Return none pos) rRetN :=
  QS.of (t := fun _ => tRetN) (fun _ _ => ps_retN) fun τ vs ρ D σ H nb S hw => ⟨σ, _, ρ, S.pushF (m := true) (d := .non) rfl, hw⟩
theorem q_if {a b : List Stmt} (hc : QT X g c ct) (ha : QSs X g a q) (hb : QSs X g b r) : QS X g (.If c a b pos) (rIf ct q r) := by
  refine QS.of (fun Ξ tk => ps_if (hc.pt tk) (ha.pss tk) (hb.pss tk)) fun τ vs ρ D σ H nb S hw => ⟨τ, vs, ρ, _, S, hw, fun b ρ' H' S' z => ?_⟩
  cases b with
  | true => exact tqs_in nb S' (z.t rfl)
  | false => exact tqs_in nb S' (z.f rfl)
def tqeA (X : Cx) (g : Gh) (p : RE) (Ξ : RX) : TE := fun σ H Q => ∃ τ vs ρ Φ, SR X.K g ρ σ τ vs H ∧ p ρ (kA Φ) Ξ ∧ ∀ sv ρ' v H', sv.isBor = false → SR X.K g ρ' σ (sv :: τ) (v :: vs) H' → Φ sv ρ' → Q v H'
theorem QE.peA (h : QE X g e p) (tk : Takes X (WQ X g Ξ)) : PE X e (tqeA X g p Ξ) := ⟨fun pins s σ H Q I ⟨τ, vs, ρ, Φ, S, hp, k⟩ =>
  thn (h.run pins s σ H τ vs ρ _ Ξ tk I S hp) fun u s' ⟨v, H', sv, ρ', I', r, S', q⟩ => by
    cases sv with
    | bor i =>
      obtain ⟨m, d, ρ2, e, q⟩ := kT_ok (show kT (fun m d ρ2 => Φ (.fr m d) ρ2) (.bor i) ρ' from q)
      obtain ⟨H2, I2, S2⟩ := take_ok I' S' e
      exact ⟨v, H2, I2, r, k _ ρ2 v H2 rfl S2 q⟩
    | _ => exact ⟨v, H', I', r, k _ ρ' v H' rfl S' q⟩⟩
theorem q_set {pos' : Pos} (hN : X.N.Nodup) (hi : X.N[i]? = some x) (hx : Loc X.env.scope x) (he : QE X g e p) (hs : swapsWith e (some (.Name x pos')) pos.line X.env = pure false := by rfl) (hf : X.fn x = true ∨ X.env.scope.names.lookup x = some .local := by first | exact .inl rfl | exact .inr rfl | assumption) :
    QS X g (.Assign [.Name x pos'] e pos) (rSet i p) :=
  QS.of (fun Ξ tk => ps_set hN hi hx (he.peA tk) hs hf) fun τ vs ρ D σ H nb S hw => ⟨τ, vs, ρ, _, S, hw, fun sv ρ' v H' hb S' q => ⟨ρ'.set i sv, S'.assign hb nb, q⟩⟩
end
end Q

namespace Q
open PySem PySem.Spec PyProof.Rows L2
theorem storeOk_of {K : PySem.W.Frag} {S : Addr → Prop} {H : Hp} {a : Addr} {kvs : List (Ky × D)} {kw : List (Ky × V)} (c : H a = some (.dK kw)) (r : Repk K S H kvs kw) (is : isSto kvs) : StoreOk K S H a := by
  obtain ⟨ns, pos, now, left, seed, turn, great, rfl, h⟩ := is
  obtain ⟨⟨k1, v1⟩, _, rfl, r1, ⟨k2, v2⟩, _, rfl, r2, ⟨k3, v3⟩, _, rfl, r3, ⟨k4, v4⟩, _, rfl, r4, ⟨k5, v5⟩, _, rfl, r5, ⟨k6, v6⟩, _, rfl, r6, ⟨k7, v7⟩, _, rfl, r7, r⟩ := r
  cases r
  obtain ⟨e1, q1⟩ := (show k1 = _ ∧ Rep K _ H (.lst (ns.map .int)) v1 from r1)
  obtain ⟨e2, q2⟩ := (show k2 = _ ∧ v2 = V.int pos from r2)
  obtain ⟨e3, q3⟩ := (show k3 = _ ∧ v3 = V.int now from r3)
  obtain ⟨e4, q4⟩ := (show k4 = _ ∧ v4 = V.int left from r4)
  obtain ⟨e5, q5⟩ := (show k5 = _ ∧ v5 = V.bl great from r5)
  obtain ⟨e6, q6⟩ := (show k6 = _ ∧ v6 = V.int seed from r6)
  obtain ⟨e7, q7⟩ := (show k7 = _ ∧ v7 = V.int turn from r7)
  subst e1 e2 e3 e4 e5 e6 e7 q2 q3 q4 q5 q6 q7
  exact ⟨v1, ns, pos, now, left, seed, turn, great, c, q1, h⟩
theorem storeOk_to {K : PySem.W.Frag} {S : Addr → Prop} {H : Hp} {a : Addr} (h : StoreOk K S H a) : ∃ kvs kw, isSto kvs ∧ H a = some (.dK kw) ∧ Repk K S H kvs kw := by
  obtain ⟨c, ns, pos, now, left, seed, turn, great, e, r, h⟩ := h
  exact ⟨stoKvs ns pos now left seed turn great, _, ⟨ns, pos, now, left, seed, turn, great, rfl, h⟩, e, _, _, rfl, ⟨rfl, r⟩, _, _, rfl, ⟨rfl, rfl⟩, _, _, rfl, ⟨rfl, rfl⟩, _, _, rfl, ⟨rfl, rfl⟩, _, _, rfl, ⟨rfl, rfl⟩, _, _, rfl, ⟨rfl, rfl⟩, _, _, rfl, ⟨rfl, rfl⟩, rfl⟩
/-! ### what a def promises, over plain data -/
def ArgR (K : PySem.W.Frag) (G S : Addr → Prop) (H : Hp) : Mode → D → V → Prop
  | .s, d, v => Rep K G H d v
  | .b, d, v => Rep K (fun _ => True) H d v
  | .t, d, v => ∃ a, d = .ref a ∧ v = .ref a ∧ StoreOk K S H a
def ArgsR (K : PySem.W.Frag) (G S : Addr → Prop) (H : Hp) : List Mode → List D → List V → Prop
  | [], [], [] => True
  | m :: ms, d :: ds, v :: vs => ArgR K G S H m d v ∧ ArgsR K G S H ms ds vs
  | _, _, _ => False
structure CallR' (K : PySem.W.Frag) (T : TBs) (S : Addr → Prop) (M : List Addr) (H H' : Hp) : Prop where
  keep : KeepB M H H'
  tabs : LamX.Tabs T.tb H'
  sto : ∀ a ∈ M, StoreOk K S H' a
def spQ (K : PySem.W.Frag) (T : TBs) (ms : List Mode) (qs : QSpec) : Sp := fun vs H Q E =>
  ∃ (G S : Addr → Prop) (ds : List D) (R : SV → Prop) (F : Exn → Prop), (∀ a, H a = none → G a) ∧ (∀ a, H a = none → S a) ∧ (mOf ms ds = [] → ∀ a, S a → H a = none) ∧ LamX.Tabs T.tb H ∧ ArgsR K G S H ms ds vs ∧ (mOf ms ds).Nodup ∧ qs ds R F ∧
    (∀ sv v H' σ, CallR' K T S (mOf ms ds) H H' → SVR K ⟨G, [], T, H, [], S⟩ H' σ sv (some v) → sv.isBor = false → (∀ a, Own sv (some v) a → H a = none) → R sv → Q v H') ∧
    (∀ x c d H', CallR' K T S (mOf ms ds) H H' → ExnOk K ⟨G, [], T, H, [], S⟩ H' x c d → F x → E c d H')
theorem argsR_len {K : PySem.W.Frag} {G S : Addr → Prop} {H : Hp} : ∀ {ms : List Mode} {ds : List D} {vs : List V}, ArgsR K G S H ms ds vs → ms.length = ds.length ∧ ds.length = vs.length
  | [], [], [], _ => ⟨rfl, rfl⟩
  | _ :: ms, _ :: ds, _ :: vs, h => by
    have := argsR_len h.2
    simp [this.1, this.2]
  | [], _ :: _, _, h => h.elim
  | [], [], _ :: _, h => h.elim
  | _ :: _, [], _, h => h.elim
  | _ :: _, _ :: _, [], h => h.elim
theorem slots0_len : ∀ {ms : List Mode} {ds : List D}, ms.length = ds.length → (slots0 ms ds).length = ds.length
  | [], [], _ => rfl
  | _ :: ms, _ :: ds, h => by
    unfold slots0
    rw [List.length_cons, List.length_cons, slots0_len (by simpa using h)]
/-- a parameter's slot -/
theorem slot0_svr {K : PySem.W.Frag} {g : Gh} {H : Hp} {σ : L2.St} {m : Mode} {d : D} {v : V} (h : ArgR K g.G g.S H m d v) : SVR K g H σ (slot0 m d) (some v) ∧ (slot0 m d).isBor = false ∧ ∀ a, Own (slot0 m d) (some v) a → m = .t ∧ d = .ref a ∧ slot0 m d = .sto a := by
  cases m with
  | s => exact ⟨⟨v, rfl, Rep.mono (fun _ z _ => z) .refl _ _ h⟩, rfl, fun a e => nomatch (show (none : Option Addr) = some a from e)⟩
  | b => exact ⟨⟨v, rfl, Rep.mono (fun _ _ z => Bool.noConfusion z) .refl _ _ h⟩, rfl, fun a e => nomatch (show (none : Option Addr) = some a from e)⟩
  | t =>
    obtain ⟨b, rfl, rfl, q⟩ := h
    refine ⟨⟨rfl, q⟩, rfl, fun a e => ?_⟩
    have : b = a := Option.some.inj (show some b = some a from e)
    subst this
    exact ⟨rfl, rfl, rfl⟩
theorem mOf_mem : ∀ {ms : List Mode} {ds : List D} {i : Nat} {a : Addr}, ms[i]? = some .t → ds[i]? = some (.ref a) → a ∈ mOf ms ds
  | m :: ms, d :: ds, 0, a, h1, h2 => by
    simp at h1 h2
    subst h1 h2
    unfold mOf m1
    exact List.mem_cons_self
  | m :: ms, d :: ds, i + 1, a, h1, h2 => by
    have ih := mOf_mem (ms := ms) (ds := ds) (i := i) (a := a) (by simpa using h1) (by simpa using h2)
    unfold mOf
    exact List.mem_append_right _ ih
  | [], _, _, _, h, _ => by simp at h
  | _ :: _, [], _, _, _, h => by simp at h
theorem m1_mem {m : Mode} {d : D} {a : Addr} (h : a ∈ m1 m d) : m = .t ∧ d = .ref a := by
  unfold m1 at h
  split at h
  · simp at h; subst h; exact ⟨rfl, rfl⟩
  · cases h
/-- the entries at a def's entry -/
theorem entry_all {K : PySem.W.Frag} {g : Gh} {H : Hp} {σ : L2.St} : ∀ {ms : List Mode} {ds : List D} {vs : List V}, ArgsR K g.G g.S H ms ds vs → ∀ p ∈ (slots0 ms ds).zip (vs.map some), SVR K g H σ p.1 p.2 ∧ p.1.isBor = false ∧ ∀ a, Own p.1 p.2 a → a ∈ mOf ms ds ∧ p.1 = .sto a
  | [], [], [], _, p, hp => by simp [slots0] at hp
  | m :: ms, d :: ds, v :: vs, h, p, hp => by
    unfold slots0 at hp
    rw [List.map_cons, List.zip_cons_cons] at hp
    rcases List.mem_cons.mp hp with rfl | hp
    · obtain ⟨h1, h2, h3⟩ := slot0_svr (σ := σ) h.1
      refine ⟨h1, h2, fun a e => ?_⟩
      obtain ⟨rfl, rfl, e2⟩ := h3 a e
      exact ⟨by unfold mOf m1; exact List.mem_cons_self, e2⟩
    · obtain ⟨h1, h2, h3⟩ := entry_all (σ := σ) h.2 p hp
      exact ⟨h1, h2, fun a e => ⟨by unfold mOf; exact List.mem_append_right _ (h3 a e).1, (h3 a e).2⟩⟩
  | [], _ :: _, _, h, _, _ => h.elim
  | [], [], _ :: _, h, _, _ => h.elim
  | _ :: _, [], _, h, _, _ => h.elim
  | _ :: _, _ :: _, [], h, _, _ => h.elim
theorem entry_inj {K : PySem.W.Frag} {g : Gh} {H : Hp} : ∀ {ms : List Mode} {ds : List D} {vs : List V}, ArgsR K g.G g.S H ms ds vs → (mOf ms ds).Nodup → Injs ((slots0 ms ds).zip (vs.map some))
  | [], [], [], _, _ => injs_iff.mpr .nil
  | m :: ms, d :: ds, v :: vs, h, nd => by
    unfold mOf at nd
    obtain ⟨n1, n2, n3⟩ := List.nodup_append.mp nd
    unfold slots0
    rw [List.map_cons, List.zip_cons_cons]
    refine Injs.cons (entry_inj h.2 n2) fun a e q hq z => ?_
    obtain ⟨_, _, h3⟩ := slot0_svr (g := g) (σ := []) h.1
    obtain ⟨rfl, rfl, _⟩ := h3 a e
    have z2 := ((entry_all (g := g) (σ := []) h.2 q hq).2.2 a z).1
    exact n3 a (by unfold m1; exact List.mem_cons_self) a z2 rfl
  | [], _ :: _, _, h, _ => h.elim
  | [], [], _ :: _, h, _ => h.elim
  | _ :: _, [], _, h, _ => h.elim
  | _ :: _, _ :: _, [], h, _ => h.elim
theorem zip_rep : ∀ (n : Nat) {p : SV × Option V}, p ∈ (List.replicate n SV.no).zip (List.replicate n (none : Option V)) → p = (.no, none)
  | 0, _, h => by simp at h
  | n + 1, p, h => by
    rw [List.replicate_succ, List.replicate_succ, List.zip_cons_cons] at h
    rcases List.mem_cons.mp h with h | h
    · exact h
    · exact zip_rep n h
theorem injs_app_no {l r : List (SV × Option V)} (h : Injs l) (hr : ∀ p ∈ r, p = (SV.no, none)) : Injs (l ++ r) := by
  intro i j p q a e1 e2 h1 h2
  have low : ∀ {i : Nat} {p : SV × Option V}, (l ++ r)[i]? = some p → Own p.1 p.2 a → l[i]? = some p := fun {i p} e ho => by
    by_cases hi : i < l.length
    · rw [List.getElem?_append_left hi] at e; exact e
    · rw [List.getElem?_append_right (by omega)] at e
      have := hr p (List.mem_of_getElem? e)
      subst this
      cases ho
  exact h i j p q a (low e1 h1) (low e2 h2) h1 h2
theorem sr_start {X : Cx} {B : Hp} {G Sx : Addr → Prop} {T : TBs} {ms : List Mode} {ds : List D} {vs : List V} {n : Nat} (h : ArgsR X.K G Sx B ms ds vs) (nd : (mOf ms ds).Nodup) (hG : ∀ a, B a = none → G a) (hS : ∀ a, B a = none → Sx a) (ht : LamX.Tabs T.tb B) :
    SR X.K ⟨G, mOf ms ds, T, B, [], Sx⟩ (slots0 ms ds ++ List.replicate n .no) (vs.map some ++ List.replicate n none) [] [] B := by
  obtain ⟨l1, l2⟩ := argsR_len h
  have l3 := slots0_len l1
  have es : ents (slots0 ms ds ++ List.replicate n .no) (vs.map some ++ List.replicate n none) [] [] = (slots0 ms ds).zip (vs.map some) ++ (List.replicate n SV.no).zip (List.replicate n none) := by
    unfold ents
    rw [List.zip_nil_left, List.nil_append, List.zip_append (by rw [l3, List.length_map, l2])]
  refine ⟨by simp [l3, l2], rfl, fun p hp => ?_, ?_, fun p hp a e => ?_, KeepB.refl, ht, hG, fun z hz => absurd hz (by simp), fun sv hsv => ?_, hS⟩
  · rw [es] at hp
    rcases List.mem_append.mp hp with hp | hp
    · exact (entry_all (g := ⟨G, mOf ms ds, T, B, [], Sx⟩) h p hp).1
    · rw [zip_rep n hp]; trivial
  · show Injs _
    rw [es]
    exact injs_app_no (entry_inj (g := ⟨G, mOf ms ds, T, B, [], Sx⟩) h nd) fun p hp => zip_rep n hp
  · rw [es] at hp
    rcases List.mem_append.mp hp with hp | hp
    · have z := (entry_all (g := ⟨G, mOf ms ds, T, B, [], Sx⟩) (σ := []) h p hp).2.2 a e
      exact .inr ⟨z.1, by rw [z.2]; rfl⟩
    · rw [zip_rep n hp] at e; cases e
  · rcases List.mem_append.mp hsv with z | z
    · obtain ⟨i, hi⟩ := List.mem_iff_getElem?.mp z
      have hi2 : i < vs.length := by
        have := (List.getElem?_eq_some_iff.mp hi).1
        omega
      have hz : ((slots0 ms ds).zip (vs.map some))[i]? = some (sv, some vs[i]) := by
        rw [List.getElem?_zip_eq_some]
        exact ⟨hi, by simp [hi2]⟩
      exact (entry_all (g := ⟨G, mOf ms ds, T, B, [], Sx⟩) (σ := []) h _ (List.mem_of_getElem? hz)).2.1
    · rw [(List.mem_replicate.mp z).2]; rfl
theorem keeps_sto : ∀ {ms : List Mode} {ds : List D} {ρ : PSt} {a : Addr}, keeps ms ds ρ → a ∈ mOf ms ds → ∃ i : Nat, ρ[i]? = some (SV.sto a) ∨ ∃ kvs, ρ[i]? = some (SV.so a kvs) ∧ isSto kvs
  | m :: ms, d :: ds, sv :: ρ, a, k, h => by
    unfold mOf at h
    unfold keeps at k
    rcases List.mem_append.mp h with h | h
    · obtain ⟨rfl, rfl⟩ := m1_mem h
      rcases (show sv = SV.sto a ∨ ∃ a' kvs, D.ref a = .ref a' ∧ sv = .so a' kvs ∧ isSto kvs from k.1) with e | ⟨a', kvs, e1, e2, e3⟩
      · exact ⟨0, .inl (by rw [e]; rfl)⟩
      · cases e1
        exact ⟨0, .inr ⟨kvs, by rw [e2]; rfl, e3⟩⟩
    · obtain ⟨i, hi⟩ := keeps_sto k.2 h
      exact ⟨i + 1, by simpa using hi⟩
  | [], _, _, _, _, h => by simp [mOf] at h
  | _ :: _, [], _, _, _, h => by simp [mOf] at h
  | m :: ms, d :: ds, [], _, k, _ => by
    unfold keeps at k
    exact k.elim
theorem callR_of {X : Cx} {B : Hp} {G Sx : Addr → Prop} {T : TBs} {ms : List Mode} {ds : List D} {ρ : PSt} {σ : L2.St} {τ : List SV} {vs : List V} {H : Hp} (S : SR X.K ⟨G, mOf ms ds, T, B, [], Sx⟩ ρ σ τ vs H) (k : keeps ms ds ρ) : CallR' X.K T Sx (mOf ms ds) B H :=
  ⟨S.keep, S.tabs, fun a ha => by
    obtain ⟨i, hi⟩ := keeps_sto k ha
    rcases hi with hi | ⟨kvs, hi, is⟩
    · obtain ⟨u, _, z, _⟩ := S.slot hi
      exact z.2
    · obtain ⟨u, _, z, _⟩ := S.slot hi
      obtain ⟨_, kw, c, r⟩ := z
      exact storeOk_of c r is⟩
section
variable {P : Program} {w : World} {K : PySem.W.Frag} {mg : Str → Option Value} {base : Heap}
/-- THE RULE for a def: its body's derivation, its reading over plain data -/
theorem q_fn {x qual : Str} {st : Stmt} {f : Addr} {fd : FuncData} {N ps : List Str} {k : Nat} {T : TBs} {ms : List Mode} {qs : QSpec} {p : RS} (F : Fun K x qual st f fd) (S : FnScope N ps (defScope st)) (hm : ms.length = ps.length)
    (hbody : ∀ (cdv : Value) (A : Around) (outer : List Env) (s : Shared) (H : Hp) (E : XK) (g : Gh), Room k (A.deeper (envOfC qual (defScope st) s.heap.objs.size f cdv)) → g.T = T → QSs (cxOf (L2.CX P w) P w K mg base N qual (defScope st) f cdv A outer s H E) g (defBody st) p)
    (hq : ∀ (ds : List D) (R : SV → Prop) (F : Exn → Prop), qs ds R F → p (endsF ms ds R F) (slots0 ms ds ++ List.replicate (N.length - ps.length) .no)) : FnOk P w K mg base (L2.CX P w) (k + 1) f fd ps (spQ K T ms qs) := by
  refine F.okX S (fun vs H Q E h => ?_) (fun cdv A outer s H vs Q E hr h => ?_)
  · obtain ⟨G, Sx, ds, R, F', _, _, _, _, ha, _⟩ := h
    obtain ⟨l1, l2⟩ := argsR_len ha
    omega
  · obtain ⟨G, Sx, ds, R, F', hG, hS, hS0, ht, ha, nd, hqs, h1, h2⟩ := h
    obtain ⟨l1, l2⟩ := argsR_len ha
    have B := hbody cdv A outer s H E ⟨G, mOf ms ds, T, H, [], Sx⟩ hr rfl
    have S0 := sr_start (X := cxOf (L2.CX P w) P w K mg base N qual (defScope st) f cdv A outer s H E) (n := N.length - ps.length) ha nd hG hS ht
    have tk : Takes (cxOf (L2.CX P w) P w K mg base N qual (defScope st) f cdv A outer s H E) (WQ (cxOf (L2.CX P w) P w K mg base N qual (defScope st) f cdv A outer s H E) ⟨G, mOf ms ds, T, H, [], Sx⟩ (endsF ms ds R F').ex) := by
      refine Takes.imp (takes_of rfl rfl rfl rfl) fun c d σ H' hx => ?_
      obtain ⟨x, ρ, τ, vs', S', ok, hf, hk⟩ := hx
      exact h2 x c d H' (callR_of S' hk) ok hf
    refine ⟨_, B.pss tk, ?_⟩
    have e : L2.start N vs = vs.map some ++ List.replicate (N.length - ps.length) none := by
      unfold L2.start
      rw [← l2, ← l1, hm]
    rw [e]
    refine ⟨[], [], _, endsF ms ds R F', (fun sv h => absurd h (by simp)), rfl, S0, hq ds R F' hqs, fun ρ' σ' H' S' z => ?_, fun sv ρ' v σ' H' S' z => ?_, fun ρ' σ' H' S' z => z, fun ρ' σ' H' S' z => z⟩
    · exact h1 (.fr true .non) .non H' σ' (callR_of S' z.2) ⟨.non, rfl, rfl⟩ rfl (fun a e => nomatch (show (none : Option Addr) = some a from e)) z.1
    · obtain ⟨z1, z2, z3⟩ := z
      have main : ∀ (tv : SV), tv.isBor = false → (tv, some v) ∈ ents ρ' σ' [sv] [v] → R tv → okRes ms ds tv → Q v H' := fun tv hb hm hR ho => by
        refine h1 tv v H' σ' (callR_of S'.pop z3) (S'.all _ hm) hb (fun a e => ?_) hR
        rcases S'.own _ hm a e with q | ⟨q1, q2⟩
        · exact q
        · have ho' : mOf ms ds = [] := by
            cases tv with
            | sto b => exact ho
            | so b kvs => exact ho
            | _ => cases q2
          have q1 : a ∈ mOf ms ds := q1
          rw [ho'] at q1
          cases q1
      cases sv with
      | bor i =>
        have e1 : SV.mv ρ' (.bor i) = (ρ'[i]?).getD .no := rfl
        have gone : R .no → Q v H' := fun hR => h1 .no v H' σ' (callR_of S'.pop z3) trivial rfl (fun a e => nomatch (show (none : Option Addr) = some a from e)) hR
        cases q : ρ'[i]? with
        | none =>
          rw [e1, q] at z1
          exact gone z1
        | some tv =>
          rw [e1, q] at z1 z2
          by_cases hn : tv = .no
          · subst hn; exact gone z1
          · exact main tv (S'.nb _ (List.mem_of_getElem? q)) (List.mem_cons_of_mem _ (List.mem_of_getElem? (ents_at S'.pop.tlen i q (S'.borSlot S'.top q hn)))) z1 z2
      | _ => exact main _ rfl List.mem_cons_self z1 z2
end
end Q

namespace Q
open PySem PySem.Spec PyProof.Rows L2
theorem take_sto {sv : SV} {ρ ρ' : PSt} {m : Bool} {d : D} {i : Nat} {a : Addr} (h : sv.take ρ = some (m, d, ρ')) (k : ρ[i]? = some (.sto a)) : ρ'[i]? = some (.sto a) := by
  cases sv with
  | bor j =>
    have h' : (match ρ[j]? with
      | some sv => (match sv.take0 with
        | some (m, d) => some (m, d, ρ.set j (.fr m d))
        | none => none)
      | none => none) = some (m, d, ρ') := h
    cases e : ρ[j]? with
    | none => rw [e] at h'; cases h'
    | some sv =>
      rw [e] at h'
      cases e2 : sv.take0 with
      | none => simp only [e2] at h'; cases h'
      | some md =>
        simp only [e2] at h'
        injection h' with h'
        injection h' with _ h'
        injection h' with _ h'
        subst h'
        have ne : j ≠ i := fun z => by
          subst z
          rw [k] at e
          cases e
          cases e2
        rw [List.getElem?_set_ne ne]
        exact k
  | fr m' d' => cases h; exact k
  | ol m' d' => cases h; exact k
  | od m' d' => cases h; exact k
  | oe m' d' => cases h; exact k
  | oo m' C d' => cases h; exact k
  | no => cases h
  | ot L x => cases h
  | sto b => cases h
  | so b kvs => cases h
theorem passA_sto {mo : Mode} {sv : SV} {ρ ρ' : PSt} {m : Bool} {d : D} {i : Nat} {a : Addr} (h : passA mo sv ρ = some (m, d, ρ')) (k : ρ[i]? = some (.sto a)) : ρ'[i]? = some (.sto a) := by
  cases mo with
  | s => exact take_sto h k
  | b => obtain ⟨m', e, _⟩ := passB_ok h; exact take_sto e k
  | t => obtain ⟨_, _, _, _, _, _, e⟩ := passT_ok h; rw [e]; exact k
theorem passAll_nil {ms : List Mode} {ρ ρ1 : PSt} {m : Bool} {ds : List D} (h : passAll ms [] ρ = some (m, ds, ρ1)) : ms = [] ∧ m = true ∧ ds = [] ∧ ρ1 = ρ := by
  cases ms with
  | nil => cases h; exact ⟨rfl, rfl, rfl, rfl⟩
  | cons _ _ => cases h
theorem passAll_cons {ms : List Mode} {sv : SV} {svs : List SV} {ρ ρ1 : PSt} {m : Bool} {ds : List D} (h : passAll ms (sv :: svs) ρ = some (m, ds, ρ1)) :
    ∃ mo mr m1 d1 ρ2 m2 ds2, ms = mo :: mr ∧ passA mo sv ρ = some (m1, d1, ρ2) ∧ passAll mr svs ρ2 = some (m2, ds2, ρ1) ∧ m = (m1 && m2) ∧ ds = d1 :: ds2 := by
  cases ms with
  | nil => cases h
  | cons mo mr =>
    unfold passAll at h
    cases e : passA mo sv ρ with
    | none => rw [e] at h; cases h
    | some r =>
      obtain ⟨m1, d1, ρ2⟩ := r
      simp only [e] at h
      cases e2 : passAll mr svs ρ2 with
      | none => rw [e2] at h; cases h
      | some r2 =>
        obtain ⟨m2, ds2, ρ3⟩ := r2
        rw [e2] at h
        injection h with h
        injection h with a b
        injection b with b c
        subst a b c
        exact ⟨mo, mr, m1, d1, ρ2, m2, ds2, rfl, e, e2, rfl, rfl⟩
/-- how an argument lies behind the handing over -/
def ArgQ (K : PySem.W.Frag) (G : Addr → Prop) (H : Hp) (ρ : PSt) : Mode → D → V → Prop
  | .s, d, v => Rep K G H d v
  | .b, d, v => Rep K (fun _ => True) H d v
  | .t, d, v => ∃ a, d = .ref a ∧ v = .ref a ∧ ∃ i : Nat, ρ[i]? = some (.sto a)
def ArgsQ (K : PySem.W.Frag) (G : Addr → Prop) (H : Hp) (ρ : PSt) : List Mode → List D → List V → Prop
  | [], [], [] => True
  | m :: ms, d :: ds, v :: vs => ArgQ K G H ρ m d v ∧ ArgsQ K G H ρ ms ds vs
  | _, _, _ => False
section
variable {X : Cx} {g : Gh} {σ : L2.St} {pins : List (Addr × Obj)} {s : Shared}
theorem argsQ_mono {K : PySem.W.Frag} {G G' : Addr → Prop} {H H' : Hp} {ρ ρ' : PSt} (hg : ∀ a, G a → G' a) (st : Stab H H') (hr : ∀ (i : Nat) a, ρ[i]? = some (SV.sto a) → ρ'[i]? = some (.sto a)) : ∀ {ms : List Mode} {ds : List D} {vs : List V}, ArgsQ K G H ρ ms ds vs → ArgsQ K G' H' ρ' ms ds vs
  | [], [], [], _ => trivial
  | m :: ms, d :: ds, v :: vs, h => by
    refine ⟨?_, argsQ_mono hg st hr h.2⟩
    have h1 := h.1
    cases m with
    | s => exact Rep.mono hg st _ _ h1
    | b => exact Rep.mono (fun _ z => z) st _ _ h1
    | t => obtain ⟨a, e1, e2, i, hi⟩ := h1; exact ⟨a, e1, e2, i, hr i a hi⟩
  | [], _ :: _, _, h => h.elim
  | [], [], _ :: _, h => h.elim
  | _ :: _, [], _, h => h.elim
  | _ :: _, _ :: _, [], h => h.elim
theorem passA_ok {mo : Mode} {sv : SV} {v : V} {ρ ρ1 : PSt} {τ : List SV} {vs : List V} {H : Hp} {m : Bool} {d : D} (I : L2.Inv X pins σ H s) (S : SR X.K g ρ σ (sv :: τ) (v :: vs) H) (h : passA mo sv ρ = some (m, d, ρ1)) :
    ∃ H' sv', L2.Inv X pins σ H' s ∧ SR X.K g ρ1 σ (sv' :: τ) (v :: vs) H' ∧ ∀ H2, SVR X.K g H2 σ sv' (some v) → ArgQ X.K (g.gm m) H2 ρ1 mo d v := by
  cases mo with
  | s =>
    obtain ⟨H', I', S'⟩ := take_ok I S h
    exact ⟨H', _, I', S', fun H2 ⟨w, hw, r⟩ => by cases hw; exact r⟩
  | b =>
    obtain ⟨m', e, rfl⟩ := passB_ok h
    obtain ⟨H', I', S'⟩ := take_ok I S e
    exact ⟨H', _, I', S', fun H2 ⟨w, hw, r⟩ => by cases hw; exact Rep.mono (fun _ _ => trivial) .refl _ _ r⟩
  | t =>
    obtain ⟨i, a, rfl, e, rfl, rfl, rfl⟩ := passT_ok h
    have hv := S.borSlot S.top e (by simp)
    obtain ⟨u, hu, z, _⟩ := S.slot e
    rw [hv] at hu
    cases hu
    have z1 := z.1
    cases z1
    exact ⟨H, _, I, S, fun H2 _ => ⟨a, rfl, rfl, i, e⟩⟩
theorem passAll_ok (svs : List SV) : ∀ (ms : List Mode) (us : List V) (ρ ρ1 : PSt) (H : Hp) (m : Bool) (ds : List D) (τ : List SV) (vs : List V), L2.Inv X pins σ H s → svs.length = us.length → SR X.K g ρ σ (svs ++ τ) (us ++ vs) H → passAll ms svs ρ = some (m, ds, ρ1) →
    ∃ H', L2.Inv X pins σ H' s ∧ SR X.K g ρ1 σ τ vs H' ∧ ArgsQ X.K (g.gm m) H' ρ1 ms ds us ∧ ∀ (i : Nat) a, ρ[i]? = some (SV.sto a) → ρ1[i]? = some (.sto a) := by
  induction svs with
  | nil =>
    intro ms us ρ ρ1 H m ds τ vs I hl S t
    obtain ⟨rfl, rfl, rfl, rfl⟩ := passAll_nil t
    have : us = [] := by
      cases us with
      | nil => rfl
      | cons _ _ => simp at hl
    subst this
    exact ⟨H, I, S, trivial, fun _ _ z => z⟩
  | cons sv svs ih =>
    intro ms us ρ ρ1 H m ds τ vs I hl S t
    cases us with
    | nil => simp at hl
    | cons u us =>
      have hl' : svs.length = us.length := by simpa using hl
      obtain ⟨mo, mr, m1, d1, ρ2, m2, ds2, rfl, e1, e2, rfl, rfl⟩ := passAll_cons t
      obtain ⟨H1, sv', I1, S1, r1⟩ := passA_ok I S e1
      obtain ⟨H2, I2, S2, r2, k2⟩ := ih mr us ρ2 ρ1 H1 m2 ds2 _ _ I1 hl' (S1.sink hl') e2
      have g1 : ∀ a, g.gm m1 a → g.gm (m1 && m2) a := Gh.gm_mono fun h => (Bool.and_eq_true_iff.mp h).1
      have g2 : ∀ a, g.gm m2 a → g.gm (m1 && m2) a := Gh.gm_mono fun h => (Bool.and_eq_true_iff.mp h).2
      refine ⟨H2, I2, S2.pop, ⟨?_, argsQ_mono g2 .refl (fun _ _ z => z) r2⟩, fun i a z => k2 i a (passA_sto e1 z)⟩
      have q := r1 H2 S2.top
      cases mo with
      | s => exact Rep.mono g1 .refl _ _ q
      | b => exact q
      | t => obtain ⟨a, z1, z2, i, hi⟩ := q; exact ⟨a, z1, z2, i, k2 i a hi⟩
/-! ### the call -/
theorem argsQ_R {τ : List SV} {vs : List V} {G : Addr → Prop} {H : Hp} {ρ : PSt} (S : SR X.K g ρ σ τ vs H) : ∀ {ms : List Mode} {ds : List D} {us : List V}, ArgsQ X.K G H ρ ms ds us → ArgsR X.K G g.S H ms ds us
  | [], [], [], _ => trivial
  | m :: ms, d :: ds, v :: vs, h => by
    refine ⟨?_, argsQ_R S h.2⟩
    have h1 := h.1
    cases m with
    | s => exact h1
    | b => exact h1
    | t =>
      obtain ⟨a, e1, e2, i, hi⟩ := h1
      obtain ⟨u, _, z, _⟩ := S.slot hi
      exact ⟨a, e1, e2, z.2⟩
  | [], _ :: _, _, h => h.elim
  | [], [], _ :: _, h => h.elim
  | _ :: _, [], _, h => h.elim
  | _ :: _, _ :: _, [], h => h.elim
theorem argsQ_M {G : Addr → Prop} {H : Hp} {K : PySem.W.Frag} {ρ : PSt} : ∀ {ms : List Mode} {ds : List D} {us : List V}, ArgsQ K G H ρ ms ds us → ∀ a ∈ mOf ms ds, ∃ i : Nat, ρ[i]? = some (SV.sto a)
  | [], [], [], _, a, ha => by simp [mOf] at ha
  | m :: ms, d :: ds, v :: vs, h, a, ha => by
    unfold mOf at ha
    rcases List.mem_append.mp ha with ha | ha
    · obtain ⟨rfl, rfl⟩ := m1_mem ha
      obtain ⟨b, e1, _, i, hi⟩ := h.1
      cases e1
      exact ⟨i, hi⟩
    · exact argsQ_M h.2 a ha
  | [], _ :: _, _, h, _, _ => h.elim
  | [], [], _ :: _, h, _, _ => h.elim
  | _ :: _, [], _, h, _, _ => h.elim
  | _ :: _, _ :: _, [], h, _, _ => h.elim
/-- the state behind a call -/
theorem SR.called {M : List Addr} {τ : List SV} {vs : List V} {H H' : Hp} {ρ : PSt} (S : SR X.K g ρ σ τ vs H) (hM : ∀ a ∈ M, ∃ i : Nat, ρ[i]? = some (SV.sto a)) (c : CallR' X.K g.T g.S M H H') (st0 : Stab0 H H') : SR X.K g ρ σ τ vs H' := by
  have mem : ∀ a ∈ M, ∃ i : Nat, (ents ρ σ τ vs)[i]? = some (SV.sto a, some (.ref a)) := fun a ha => by
    obtain ⟨i, hi⟩ := hM a ha
    obtain ⟨u, hu, z, _⟩ := S.slot hi
    have := z.1
    subst this
    exact ⟨_, ents_at S.tlen i hi hu⟩
  have st : Stab H H' := ⟨st0, fun a fs e => c.keep.keep a _ e (fun ha => by
    obtain ⟨i, hi⟩ := mem a ha
    obtain ⟨_, _, _, _, _, _, _, _, q, _⟩ := (S.all _ (List.mem_of_getElem? hi)).2
    rw [q] at e
    cases e) fun ps z => nomatch z⟩
  have own_stay : ∀ q ∈ ents ρ σ τ vs, ∀ a, Own q.1 q.2 a → a ∉ M → H' a = H a := fun q hq a e hn => by
    obtain ⟨_, u, hu, mu, _⟩ := svr_own (S.all q hq) e
    rw [hu]
    exact c.keep.keep a u hu hn fun ps z => by subst z; exact mu
  refine ⟨S.len, S.tlen, fun q hq => ?_, S.inj, S.own, ⟨fun a o h0 hm ht => ?_, fun a h => S.keep.live a (c.keep.live a h)⟩, c.tabs, S.gnew, fun z hz => st.pin (S.pin z hz), S.nb, S.snew⟩
  · by_cases hs : ∃ a, Own q.1 q.2 a ∧ a ∈ M
    · obtain ⟨a, e, ha⟩ := hs
      obtain ⟨i, hi⟩ := mem a ha
      obtain ⟨j, hj⟩ := List.mem_iff_getElem?.mp hq
      have := S.inj i j _ _ a hi hj rfl e
      subst this
      rw [hi] at hj
      cases hj
      exact ⟨rfl, c.sto a ha⟩
    · exact svr_mono st (fun a e => own_stay q hq a e fun z => hs ⟨a, e, z⟩) (S.all q hq)
  · refine c.keep.keep a o (S.keep.keep a o h0 hm ht) (fun ha => ?_) ht
    obtain ⟨i, hi⟩ := mem a ha
    rcases S.own _ (List.mem_of_getElem? hi) a rfl with z | ⟨z, _⟩
    · rw [z] at h0; cases h0
    · exact hm z
end
theorem run_fnQ {X : Cx} {σ : L2.St} {pins : List (Addr × Obj)} {s : Shared} {H : Hp} {k : Nat} {f : Addr} {fd : FuncData} {ps : List Str} {sp : Sp} {dvs : List V} {ds : List Value} {us : List Value} {vs : List V} {Q : VK} {E : XK} {W : WX} (F : FnOk X.prog X.w X.K X.mg X.base (L2.CX X.prog X.w) k f fd ps sp) (hr : Room k X.A)
    (hb : Binds X.K fd ps ds) (hd : Vals dvs ds) (tk : Takes X W) (I : L2.Inv X pins σ H s) (r : Vals vs us) (h : sp (vs ++ dvs) H Q E) (hE : ∀ c d H', Stab0 H H' → E c d H' → W c d σ H') :
    wpAny (model X.prog X.w) X.A (call (.ref f) us) (fun u s' => ∃ v H', L2.Inv X pins σ H' s' ∧ RelV v u ∧ Stab0 H H' ∧ Q v H') X.xe s := by
  have rr : Vals (vs ++ dvs) (us ++ ds) := r.append hd
  have hl : (us ++ ds).length = ps.length := by rw [← rr.length]; exact F.len _ _ _ _ h
  refine wpAny_call (codeAny_mono (F.run X.A X.stack s H ⟨us, []⟩ (us ++ ds) (vs ++ dvs) Q E hr I.env0 (hb s us I.kIn hl) rr h) fun res s' hq => ?_)
  cases res with
  | error e =>
    obtain ⟨a, B, H', cls, d, e1, fl, hok, ub, na, os, ag, z⟩ := hq
    exact tk _ _ (XE.of_call (E := fun c d H' => Stab0 H H' ∧ E c d H') I (fun c d H' q => hE c d H' q.1 q.2) ⟨a, B, H', cls, d, e1, fl, hok, ub, na, os, ag, ⟨ub.frzs, ub.tups⟩, z⟩)
  | ok fl =>
    cases fl with
    | ret u =>
      obtain ⟨v, H', os, bare, un, hok, rv, q⟩ := hq
      obtain ⟨hh, gg, dd, t, os'⟩ := s'
      obtain rfl : os' = s.os := os
      exact ⟨v, H', I.call (h' := hh) (g' := gg) (d' := dd) (t' := t) (ch := []) un hok bare (fun b z => absurd z (by simp)), rv, ⟨un.frzs, un.tups⟩, q⟩
    | next => exact False.elim hq
    | brk => exact False.elim hq
    | cont => exact False.elim hq
mutual
theorem rep_safe {K : PySem.W.Frag} {G G' : Addr → Prop} {H : Hp} : ∀ (d : D) (v : V), d.safe = true → Rep K G H d v → Rep K G' H d v
  | .non, _, _, r => r
  | .bl _, _, _, r => r
  | .int _, _, _, r => r
  | .str _, _, _, r => r
  | .ref _, _, _, r => r
  | .ty _, _, _, r => r
  | .tup xs, _, h, ⟨a, vs, e, f, r⟩ => ⟨a, vs, e, f, reps_safe xs vs (by simp only [D.safe] at h; exact h) r⟩
  | .lst _, _, h, _ => by simp only [D.safe] at h; cases h
  | .dk _, _, h, _ => by simp only [D.safe] at h; cases h
  | .dt _, _, h, _ => by simp only [D.safe] at h; cases h
  | .obj _ _, _, h, _ => by simp only [D.safe] at h; cases h
  | .scr _, _, h, _ => by simp only [D.safe] at h; cases h
theorem reps_safe {K : PySem.W.Frag} {G G' : Addr → Prop} {H : Hp} : ∀ (ds : List D) (vs : List V), safes ds = true → Reps K G H ds vs → Reps K G' H ds vs
  | [], _, _, r => r
  | x :: xs, _, h, ⟨v, vs, e, r1, r2⟩ => by
    simp only [safes] at h
    obtain ⟨a1, a2⟩ := Bool.and_eq_true_iff.mp h
    exact ⟨v, vs, e, rep_safe x v a1 r1, reps_safe xs vs a2 r2⟩
end
section
variable {X : Cx} {g : Gh} {σ : L2.St} {pins : List (Addr × Obj)} {s : Shared}
theorem svr_dem {K : PySem.W.Frag} {g : Gh} {H : Hp} {σ σ0 : L2.St} {T : TBs} {B : Hp} {Sc : Addr → Prop} {m : Bool} {sv : SV} {v : Option V} (hsc : ∀ a, Sc a → g.S a) (hb : sv.isBor = false) (h : SVR K ⟨g.gm m, [], T, B, [], Sc⟩ H σ0 sv v) : SVR K g H σ (sv.dem m) v := by
  have gg : ∀ m', ∀ a, (⟨g.gm m, [], T, B, [], Sc⟩ : Gh).gm m' a → g.gm (m' && m) a := fun m' a q z => by
    obtain ⟨z1, z2⟩ := Bool.and_eq_true_iff.mp z
    exact q z1 z2
  cases sv with
  | no => trivial
  | fr m' d =>
    obtain ⟨u, e, r⟩ := h
    refine ⟨u, e, ?_⟩
    cases hs : d.safe with
    | true => exact rep_safe _ _ hs r
    | false =>
      rw [Bool.or_false]
      exact Rep.mono (gg m') .refl _ _ r
  | ol m' xs => obtain ⟨a, ws, e, c, r⟩ := h; exact ⟨a, ws, e, c, Reps.mono (gg m') .refl _ _ r⟩
  | od m' xs => obtain ⟨a, ws, e, c, r⟩ := h; exact ⟨a, ws, e, c, Repk.mono (gg m') .refl _ _ r⟩
  | oe m' xs => obtain ⟨a, ws, e, c, r⟩ := h; exact ⟨a, ws, e, c, Rept.mono (gg m') .refl _ _ r⟩
  | oo m' C xs => obtain ⟨a, dx, ws, e, c, r⟩ := h; exact ⟨a, dx, ws, e, c, Repf.mono (gg m') .refl _ _ r⟩
  | ot L d => exact h
  | sto a => exact ⟨h.1, h.2.up hsc⟩
  | so a kvs => obtain ⟨e, kw, c, r⟩ := h; exact ⟨e, kw, c, Repk.mono hsc .refl _ _ r⟩
  | bor i => cases hb
theorem argsR_up {K : PySem.W.Frag} {G Sx Sy : Addr → Prop} {H : Hp} : ∀ {ms : List Mode} {ds : List D} {us : List V}, (∀ a ∈ mOf ms ds, ∀ b, Sx b → Sy b) → ArgsR K G Sx H ms ds us → ArgsR K G Sy H ms ds us
  | [], [], [], _, _ => trivial
  | m :: ms, d :: ds, v :: vs, hs, h => by
    refine ⟨?_, argsR_up (fun a ha => hs a (by unfold mOf; exact List.mem_append_right _ ha)) h.2⟩
    have h1 := h.1
    cases m with
    | s => exact h1
    | b => exact h1
    | t =>
      obtain ⟨a, e1, e2, z⟩ := h1
      refine ⟨a, e1, e2, z.up (hs a ?_)⟩
      subst e1
      unfold mOf
      exact List.mem_append_left _ (by simp [m1])
  | [], _ :: _, _, _, h => h.elim
  | [], [], _ :: _, _, h => h.elim
  | _ :: _, [], _, _, h => h.elim
  | _ :: _, _ :: _, [], _, h => h.elim
theorem CallR'.up {K : PySem.W.Frag} {T : TBs} {Sx Sy : Addr → Prop} {M : List Addr} {H H' : Hp} (hs : ∀ a, Sx a → Sy a) (c : CallR' K T Sx M H H') : CallR' K T Sy M H H' :=
  { c with sto := fun a ha => (c.sto a ha).up hs }
theorem own_dem {m : Bool} {sv : SV} {v : Option V} : Own (sv.dem m) v = Own sv v := by
  cases v with
  | none => cases sv <;> rfl
  | some v => cases v <;> cases sv <;> rfl
theorem argsR_app {K : PySem.W.Frag} {G Sx : Addr → Prop} {H : Hp} {dd : List D} {dV : List V} (hd : Reps K G H dd dV) : ∀ {ms : List Mode} {ds : List D} {us : List V}, ArgsR K G Sx H ms ds us → ArgsR K G Sx H (ms ++ dd.map fun _ => .s) (ds ++ dd) (us ++ dV)
  | [], [], [], _ => by
    have : ∀ {dd : List D} {dV : List V}, Reps K G H dd dV → ArgsR K G Sx H (dd.map fun _ => .s) dd dV := fun {dd} => by
      induction dd with
      | nil => intro dV h; cases h; exact trivial
      | cons x r ih => intro dV ⟨v, vs', e, h1, h2⟩; subst e; exact ⟨h1, ih h2⟩
    exact this hd
  | _ :: ms, _ :: ds, _ :: us, h => ⟨h.1, argsR_app hd h.2⟩
  | [], _ :: _, _, h => h.elim
  | [], [], _ :: _, h => h.elim
  | _ :: _, [], _, h => h.elim
  | _ :: _, _ :: _, [], h => h.elim
theorem mOf_app : ∀ {ms : List Mode} {ds dd : List D}, ms.length = ds.length → mOf (ms ++ dd.map fun _ => .s) (ds ++ dd) = mOf ms ds
  | [], [], dd, _ => by
    have : ∀ dd : List D, mOf (dd.map fun _ => .s) dd = [] := fun dd => by
      induction dd with
      | nil => rfl
      | cons x r ih =>
        rw [List.map_cons]
        unfold mOf
        rw [ih]
        rfl
    simpa [mOf] using this dd
  | _ :: ms, _ :: ds, dd, h => by
    rw [List.cons_append, List.cons_append]
    unfold mOf
    rw [mOf_app (by simpa using h)]
def isT : Mode → Bool
  | .t => true
  | _ => false
theorem mOf_le : ∀ (ms : List Mode) (ds : List D), (mOf ms ds).length ≤ (ms.filter isT).length
  | [], _ => by simp [mOf]
  | _ :: _, [] => by simp [mOf]
  | mo :: ms, d :: ds => by
    have ih := mOf_le ms ds
    unfold mOf
    rw [List.length_append, List.filter_cons]
    cases mo with
    | s => simpa [m1, isT] using ih
    | b => simpa [m1, isT] using ih
    | t =>
      have : (m1 .t d).length ≤ 1 := by
        cases d <;> simp [m1]
      simp [isT]
      omega
theorem stoM_nodup {τ : List SV} {vs : List V} {H : Hp} {ρ : PSt} {ms : List Mode} {ds : List D} (S : SR X.K g ρ σ τ vs H) (h1 : (mOf ms ds).length ≤ 1) : (mOf ms ds).Nodup := by
  cases e : mOf ms ds with
  | nil => exact .nil
  | cons a r =>
    rw [e] at h1
    cases r with
    | nil => simp
    | cons b r => simp at h1
/-- behind the arguments -/
theorem call_core {k : Nat} {f : Addr} {fd : FuncData} {ps : List Str} {ms : List Mode} {qs : QSpec} {dd : List D} {dV : List V} {dvals : List Value} {us : List Value} {ws : List V} {svs : List SV} {ρ : PSt} {τ : List SV} {vs : List V} {H : Hp} {Φ : RK} {Ξ : RX} {m : Bool} {ds : List D} {ρ2 : PSt}
    (F : FnOk X.prog X.w X.K X.mg X.base (L2.CX X.prog X.w) k f fd ps (spQ X.K g.T (ms ++ dd.map fun _ => .s) qs)) (hr : Room k X.A) (hb : Binds X.K fd ps dvals) (hd : Vals dV dvals) (hdd : ∀ K G H, Reps K G H dd dV) (h1 : (ms.filter isT).length ≤ 1)
    (tk : Takes X (WQ X g Ξ)) (I : L2.Inv X pins σ H s) (r : Vals ws us) (hl : svs.length = ws.length) (S : SR X.K g ρ σ (svs ++ τ) (ws ++ vs) H) (hp : passAll ms svs ρ = some (m, ds, ρ2)) (hq : qs (ds ++ dd) (fun r => Φ (r.dem m) ρ2) (fun e => Ξ e ρ2)) :
    wpAny (model X.prog X.w) X.A (call (.ref f) us) (QEnd X g pins σ τ vs Φ) X.xe s := by
  obtain ⟨H2, I2, S2, ra, _⟩ := passAll_ok svs ms ws ρ ρ2 H m ds τ vs I hl S hp
  have rA := argsQ_R S2 ra
  obtain ⟨l1, _⟩ := argsR_len rA
  have hM := argsQ_M ra
  have eM : mOf (ms ++ dd.map fun _ => .s) (ds ++ dd) = mOf ms ds := mOf_app l1
  have nd : (mOf ms ds).Nodup := by
    exact stoM_nodup S2 (Nat.le_trans (mOf_le ms ds) h1)
  have hsc : ∀ a, ((mOf ms ds ≠ [] ∧ g.S a) ∨ H2 a = none) → g.S a := fun a z => z.elim And.right fun z => S2.snew a (S2.free z)
  refine thn (run_fnQ (Q := fun v H3 => ∃ sv σ0, CallR' X.K g.T g.S (mOf ms ds) H2 H3 ∧ SVR X.K ⟨g.gm m, [], g.T, H2, [], fun a => (mOf ms ds ≠ [] ∧ g.S a) ∨ H2 a = none⟩ H3 σ0 sv (some v) ∧ sv.isBor = false ∧ (∀ a, Own sv (some v) a → H2 a = none) ∧ Φ (sv.dem m) ρ2)
    (E := fun c d H3 => ∃ x, CallR' X.K g.T g.S (mOf ms ds) H2 H3 ∧ ExnOk X.K g H3 x c d ∧ Ξ x ρ2) F hr hb hd tk I2 r ?_ ?_) fun u s' hx => ?_
  · refine ⟨g.gm m, fun a => (mOf ms ds ≠ [] ∧ g.S a) ∨ H2 a = none, ds ++ dd, fun r => Φ (r.dem m) ρ2, fun e => Ξ e ρ2, fun a ha _ => S2.gnew a (S2.free ha), fun a ha => .inr ha, fun z a h => h.elim (fun q => absurd (eM ▸ z) q.1) id, S2.tabs, argsR_up (fun a ha b hb => .inl ⟨fun z => (by rw [eM, z] at ha; cases ha), hb⟩) (argsR_app (hdd _ _ _) rA), by rw [eM]; exact nd, hq, ?_, ?_⟩
    · intro sv v H3 σ0 c hs hb ho hR
      rw [eM] at c
      exact ⟨sv, σ0, c.up hsc, hs, hb, ho, hR⟩
    · intro x c d H3 c2 ok hF
      rw [eM] at c2
      exact ⟨x, c2.up hsc, ok, hF⟩
  · intro c d H3 st hx
    obtain ⟨x, c2, ok, hF⟩ := hx
    exact ⟨x, ρ2, τ, vs, S2.called hM c2 st, ok, hF⟩
  · obtain ⟨v, H3, I3, rv, st, sv, σ0, c, hs, hb2, ho, hR⟩ := hx
    have S3 := S2.called hM c st
    refine ⟨v, H3, sv.dem m, ρ2, I3, rv, S3.push (svr_dem hsc hb2 hs) fun a e => ?_, hR⟩
    rw [own_dem] at e
    have hn := ho a e
    refine ⟨.inl (S2.free hn), fun q hq z => ?_⟩
    obtain ⟨_, w, hw, _⟩ := svr_own (S2.all q hq) z
    rw [hn] at hw
    cases hw
theorem rCall_ok {ms : List Mode} {qs : QSpec} {dd : List D} {svs : List SV} {ρ1 : PSt} {k : RK} {x : RX} (h : (match passAll ms svs ρ1 with
  | some (m, ds, ρ2) => qs (ds ++ dd) (fun r => k (r.dem m) ρ2) (fun e => x e ρ2)
  | none => False)) : ∃ m ds ρ2, passAll ms svs ρ1 = some (m, ds, ρ2) ∧ qs (ds ++ dd) (fun r => k (r.dem m) ρ2) (fun e => x e ρ2) := by
  split at h
  · rename_i m ds ρ2 e; exact ⟨m, ds, ρ2, e, h⟩
  · exact h.elim
/-- f(e, ..) of a def of the text -/
theorem q_call {k : Nat} {f : Addr} {fd : FuncData} {ps : List Str} {ms : List Mode} {qs : QSpec} {dd : List D} {dV : List V} {dvals : List Value} {x : Str} {e : Expr} {es : List Expr} {pa : RA} {p pos : Pos}
    (F : FnOk X.prog X.w X.K X.mg X.base (L2.CX X.prog X.w) k f fd ps (spQ X.K g.T (ms ++ dd.map fun _ => .s) qs)) (hr : Room k X.A) (hg : Gl X x) (hm : X.mg x = some (.ref f)) (hk : PySem.W.keepIn X.K (.ref f) = true) (hb : Binds X.K fd ps dvals) (hd : Vals dV dvals) (hdd : ∀ K G H, Reps K G H dd dV)
    (ha : QA X g (e :: es) pa) (h1 : (ms.filter isT).length ≤ 1 := by decide) (hdb : (x == ("__debug__" : Str)) = false := by decide) (he : starEach (e :: es) X.env = (false, eval e X.env) :: starEach es X.env := by rfl)
    (hpl : (backTo pos (starEach es X.env)).any (·.1) = false := by rfl) : QE X g (.Call (.Name x p) (e :: es) [] pos) (rCall ms qs dd pa) := by
  refine ⟨fun pins s σ H τ vs ρ Φ Ξ tk I S hw => ?_⟩
  apply wpAny_Call_Name_kw
  refine ld_glob I hg hm ?_ hdb
  refine PySem.W.callWith_K (h₀ := X.base) I.ok.mod.kin hk (thn (ha.run pos pins s σ H τ vs ρ _ Ξ tk I S hw) fun us s1 hx => ?_) he hpl
  obtain ⟨ws, H1, svs, ρ1, I1, r, hl, S1, q⟩ := hx
  obtain ⟨m, ds, ρ2, e1, q⟩ := rCall_ok q
  exact ⟨I1.kIn, call_core F hr hb hd hdd h1 tk I1 r hl S1 e1 q⟩
theorem q_call0 {k : Nat} {f : Addr} {fd : FuncData} {ps : List Str} {qs : QSpec} {dd : List D} {dV : List V} {dvals : List Value} {x : Str} {p pos : Pos}
    (F : FnOk X.prog X.w X.K X.mg X.base (L2.CX X.prog X.w) k f fd ps (spQ X.K g.T ([] ++ dd.map fun _ => .s) qs)) (hr : Room k X.A) (hg : Gl X x) (hm : X.mg x = some (.ref f)) (hk : PySem.W.keepIn X.K (.ref f) = true) (hb : Binds X.K fd ps dvals) (hd : Vals dV dvals) (hdd : ∀ K G H, Reps K G H dd dV)
    (hdb : (x == ("__debug__" : Str)) = false := by decide) : QE X g (.Call (.Name x p) [] [] pos) (rCall [] qs dd rNil) := by
  refine ⟨fun pins s σ H τ vs ρ Φ Ξ tk I S hw => ?_⟩
  apply wpAny_Call_Name_kw
  refine ld_glob I hg hm ?_ hdb
  obtain ⟨m, ds, ρ2, e1, q⟩ := rCall_ok (k := Φ) (x := Ξ) (ms := []) (svs := []) (ρ1 := ρ) (qs := qs) (dd := dd) (show (match passAll [] [] ρ with
    | some (m, ds, ρ2) => qs (ds ++ dd) (fun r => Φ (r.dem m) ρ2) (fun e => Ξ e ρ2)
    | none => False) from hw)
  exact PySem.W.callWith_K0 I.kIn hk (call_core (us := []) (ws := []) (svs := []) F hr hb hd hdd (Nat.zero_le _) tk I .nil rfl S e1 q)
end
end Q

namespace Q
open PySem PySem.Spec PyProof.Rows L2
/-! ### targets -/
/-- the slots at js alone are stored -/
def Wr (js : List Nat) (σ σ' : L2.St) : Prop := ∀ vs : List Nat, (∀ j ∈ js, j ∈ vs) → wipe σ' vs = wipe σ vs
theorem Wr.refl {js : List Nat} {σ : L2.St} : Wr js σ σ := fun _ _ => rfl
theorem Wr.trans {js ks : List Nat} {σ σ1 σ2 : L2.St} (a : Wr js σ σ1) (b : Wr ks σ1 σ2) : Wr (js ++ ks) σ σ2 := fun vs h => (b vs fun j hj => h j (List.mem_append_right _ hj)).trans (a vs fun j hj => h j (List.mem_append_left _ hj))
theorem wipe_setv {σ : L2.St} {i : Nat} {x : Option V} : ∀ {vs : List Nat}, i ∈ vs → wipe (σ.set i x) vs = wipe σ vs
  | v :: vs, h => by
    unfold wipe
    by_cases hv : i ∈ vs
    · rw [wipe_setv hv]
    · have e : i = v := by
        rcases List.mem_cons.mp h with h | h
        · exact h
        · exact absurd h hv
      subst e
      have q : ∀ {vs : List Nat}, i ∉ vs → wipe (σ.set i x) vs = (wipe σ vs).set i x := fun {vs} => by
        induction vs with
        | nil => intro _; rfl
        | cons w ws ih =>
          intro h
          unfold wipe
          rw [ih (fun z => h (List.mem_cons_of_mem _ z))]
          exact List.set_comm _ _ (fun z => h (by rw [z]; exact List.mem_cons_self))
      rw [q hv, List.set_set]
structure QG (X : Cx) (g : Gh) (js : List Nat) (tg : Expr) (r : RG) : Prop where
  run : ∀ (pins : List (Addr × Obj)) (s : Shared) (σ : L2.St) (H : Hp) (τ : List SV) (vs : List V) (ρ : PSt) (sv : SV) (v : V) (u : Value) (k : PSt → Prop), NoBor τ → sv.isBor = false → L2.Inv X pins σ H s → RelV v u → SR X.K g ρ σ (sv :: τ) (v :: vs) H → r sv ρ k →
    wpAny (model X.prog X.w) X.A (assign tg X.env u) (fun _ s' => ∃ σ' H' ρ', L2.Inv X pins σ' H' s' ∧ SR X.K g ρ' σ' τ vs H' ∧ k ρ' ∧ Wr js σ σ') X.xe s
def tqg (X : Cx) (g : Gh) (js : List Nat) (r : RG) : TG := fun v σ H Q => ∃ τ vs ρ sv k, NoBor τ ∧ sv.isBor = false ∧ SR X.K g ρ σ (sv :: τ) (v :: vs) H ∧ r sv ρ k ∧ ∀ ρ' σ' H', SR X.K g ρ' σ' τ vs H' → k ρ' → Wr js σ σ' → Q σ' H'
section
variable {X : Cx} {g : Gh} {tg e : Expr} {es : List Expr} {r : RG} {p q : RE} {pos : Pos} {js ks : List Nat}
theorem QG.pg (h : QG X g js tg r) : PG X tg (tqg X g js r) := ⟨fun pins s σ H v u Q I rv ⟨τ, vs, ρ, sv, k, nb, hb, S, hr, hk⟩ =>
  thn (h.run pins s σ H τ vs ρ sv v u k nb hb I rv S hr) fun _ s' ⟨σ', H', ρ', I', S', z, wr⟩ => ⟨σ', H', I', hk _ _ _ S' z wr⟩⟩
theorem qg_name {i : Nat} {x : Str} (hN : X.N.Nodup) (hi : X.N[i]? = some x) (hx : Loc X.env.scope x) (hf : X.fn x = true ∨ X.env.scope.names.lookup x = some .local := by first | exact .inl rfl | exact .inr rfl | assumption) : QG X g [i] (.Name x pos) (gN i) :=
  ⟨fun pins s σ H τ vs ρ sv v u k nb hb I rv S hr => thn ((pg_name (pos := pos) hN hi hx hf).run pins s σ H v u (fun σ' H' => ∃ ρ', SR X.K g ρ' σ' τ vs H' ∧ k ρ' ∧ Wr [i] σ σ') I rv ⟨_, S.assign hb nb, hr, fun ws hw => wipe_setv (hw i (by simp))⟩) fun _ s' ⟨σ', H', I', ρ', S', z, wr⟩ => ⟨σ', H', ρ', I', S', z, wr⟩⟩
/-- (a, b, ..): names one after another -/
structure QGs (X : Cx) (g : Gh) (js : List Nat) (ts : List Expr) (r : List RG) : Prop where
  run : ∀ (pins : List (Addr × Obj)) (s : Shared) (σ : L2.St) (H : Hp) (τ : List SV) (vs : List V) (ρ : PSt) (m : Bool) (ds : List D) (ws : List V) (us : List Value) (k : PSt → Prop), NoBor τ → L2.Inv X pins σ H s → Vals ws us → SR X.K g ρ σ (ds.map (.fr m) ++ τ) (ws ++ vs) H → ds.length = ws.length → gTs r m ds ρ k →
    wpAny (model X.prog X.w) X.A (assignInOrder ((assignEach ts X.env).map (·.2)) us) (fun _ s' => ∃ σ' H' ρ', L2.Inv X pins σ' H' s' ∧ SR X.K g ρ' σ' τ vs H' ∧ k ρ' ∧ Wr js σ σ') X.xe s
theorem nobor_fr {m : Bool} {ds : List D} {τ : List SV} (h : NoBor τ) : NoBor (ds.map (.fr m) ++ τ) := fun sv hs => by
  rcases List.mem_append.mp hs with z | z
  · obtain ⟨d, _, rfl⟩ := List.mem_map.mp z; rfl
  · exact h sv z
theorem qgs_nil : QGs X g [] [] [] := ⟨fun pins s σ H τ vs ρ m ds ws us k nb I rv S hl hr => by
  cases ds with
  | nil =>
    cases ws with
    | nil =>
      cases rv
      exact assignInOrder_nil ⟨σ, H, ρ, I, S, hr, Wr.refl⟩
    | cons _ _ => simp at hl
  | cons _ _ => exact hr.elim⟩
theorem qgs_cons {r : RG} {rs : List RG} (h1 : QG X g js e r) (h2 : QGs X g ks es rs) (hs : (assignEach (e :: es) X.env).map (·.2) = assign e X.env :: (assignEach es X.env).map (·.2) := by rfl) : QGs X g (js ++ ks) (e :: es) (r :: rs) :=
  ⟨fun pins s σ H τ vs ρ m ds ws us k nb I rv S hl hr => by
    cases ds with
    | nil => exact hr.elim
    | cons d ds =>
      cases ws with
      | nil => simp at hl
      | cons w ws =>
        cases rv with
        | cons r1 rr =>
          rw [hs]
          refine assignInOrder_cons (thn (h1.run pins s σ H (ds.map (SV.fr m) ++ τ) (ws ++ vs) ρ (.fr m d) w _ _ (nobor_fr nb) rfl I r1 (show SR X.K g ρ σ (SV.fr m d :: (ds.map (SV.fr m) ++ τ)) (w :: (ws ++ vs)) H from S) hr) fun _ s1 hx => ?_)
          obtain ⟨σ1, H1, ρ1, I1, S1, z, w1⟩ := hx
          exact thn (h2.run pins s1 σ1 H1 τ vs ρ1 m ds ws _ k nb I1 rr S1 (by simpa using hl) z) fun _ s2 ⟨σ2, H2, ρ2, I2, S2, z2, w2⟩ => ⟨σ2, H2, ρ2, I2, S2, z2, w1.trans w2⟩⟩
theorem reps_push {K : PySem.W.Frag} {τ : List SV} {vs : List V} {ρ : PSt} {σ : L2.St} {H : Hp} {m : Bool} (S : SR K g ρ σ τ vs H) : ∀ {ds : List D} {ws : List V}, Reps K (g.gm m) H ds ws → SR K g ρ σ (ds.map (.fr m) ++ τ) (ws ++ vs) H
  | [], _, h => by cases h; exact S
  | d :: ds, _, ⟨w, ws, e, a, b⟩ => by
    subst e
    exact (reps_push S b).pushF a
theorem qg_tup {ts : List Expr} {k : Nat} {rs : List RG} (hc : X.calm = true) (h : QGs X g js ts rs) (hn : (assignEach ts X.env).length = rs.length := by rfl) (hst : (assignEach ts X.env).findIdx? (·.1) = none := by rfl) : QG X g js (.Tuple ts k pos) (gT rs) :=
  ⟨fun pins s σ H τ vs ρ sv v u k nb hb I rv S hr => by
    obtain ⟨m, ds, rfl, hlr, hr⟩ := gT_ok hr
    obtain ⟨w, hw, a, ws, rfl, f, rp⟩ := S.top
    cases hw
    cases rv
    obtain ⟨its, rvs, ht, hz⟩ := I.tuple f
    have hl := reps_len rp
    refine assign_Tuple_tuple (I.ok.hd hc) ht (by rw [List.size_toArray, hn, ← rvs.length, ← hl]; exact hlr.symm) hst fun h' hx => ?_
    have I1 : L2.Inv X pins σ H { s with heap := h' } := I.kept (t' := s.toks) fun b o e => hx b o (Nat.ne_of_lt (Heap.lt_size e)) e
    exact h.run pins _ σ H τ vs ρ m ds ws _ k nb I1 (by simpa using rvs) (reps_push S.pop rp) hl hr⟩
/-- target = value -/
theorem q_asg (he : QE X g e p) (hg : QG X g js tg r) (hs : swapsWithSole [tg] e pos.line X.env = pure false := by rfl) (hw : swappedStores [tg] e X.env = pure none := by rfl) (h1 : (assignEach [tg] X.env).map (·.2) = [assign tg X.env] := by rfl) : QS X g (.Assign [tg] e pos) (rAsg p r) := by
  refine QS.of (fun Ξ tk => ps_asg (he.peT tk) hg.pg hs hw h1) fun τ vs ρ D σ H nb S hx => ⟨τ, vs, ρ, _, S, hx, fun m d ρ' v H' S' rp z => ?_⟩
  exact ⟨τ, vs, ρ', .fr m d, D.nx, nb, rfl, S'.pushF rp, z, fun ρ' σ' H' S' z _ => ⟨ρ', S', z⟩⟩
end
/-! ### walks -/
structure WalkQ (K : PySem.W.Frag) (g : Gh) (J : It) (m : Bool) (xs : List D) (tx : List SV) (vx : List V) : Prop where
  goes : ∀ (i : Nat) ρ σ τ vs H, SR K g ρ σ (tx ++ τ) (vx ++ vs) H → i < xs.length → J.go i H
  stops : ∀ ρ σ τ vs H, SR K g ρ σ (tx ++ τ) (vx ++ vs) H → J.stop xs.length H
  yields : ∀ (i : Nat) ρ σ τ vs H v H', SR K g ρ σ (tx ++ τ) (vx ++ vs) H → i < xs.length → J.yld i H v H' → ∃ d, xs[i]? = some d ∧ SR K g ρ σ (.fr m d :: (tx ++ τ)) (v :: (vx ++ vs)) H'
  nb : NoBor tx
  len : tx.length = vx.length
def tqi (X : Cx) (g : Gh) (ri : RI) (Ξ : RX) : TI := fun σ H R => ∃ τ vs ρ Φ, SR X.K g ρ σ τ vs H ∧ ri ρ Φ Ξ ∧ ∀ J m xs ρ' tx vx H', SR X.K g ρ' σ (tx ++ τ) (vx ++ vs) H' → WalkQ X.K g J m xs tx vx → Φ m xs ρ' → R J H'
def QI (X : Cx) (g : Gh) (tg e : Expr) (ri : RI) : Prop := ∀ Ξ, Takes X (WQ X g Ξ) → PI X tg e (tqi X g ri Ξ)
theorem PI.imp {X : Cx} {tg e : Expr} {t t' : TI} (h : PI X tg e t) (i : ∀ σ H R, t' σ H R → t σ H R) : PI X tg e t' := ⟨fun pins s σ H R I hw => h.run pins s σ H R I (i σ H R hw)⟩
section
variable {X : Cx} {g : Gh} {tg e a b : Expr} {p q : RE} {pos pf : Pos}
theorem scr_sq {K : PySem.W.Frag} {G : Addr → Prop} {H : Hp} {a : Addr} {xs : List V} (f : Fz G H a (.lst xs) ∨ KL K a xs) : SqL K H a xs := f.imp (fun f => f.rd) id
theorem qi_list (h : QE X g e p) : QI X g tg e (riL p) := fun Ξ tk => PI.imp (pi_list (h.peT tk)) fun σ H R ⟨τ, vs, ρ, Φ, S, hw, k⟩ => by
  refine ⟨τ, vs, ρ, _, S, hw, fun m d ρ' v H' S' r q => ?_⟩
  cases d with
  | lst xs =>
    obtain ⟨a, ws, rfl, f, rp⟩ := id r
    refine ⟨a, rfl, ⟨ws, .inl f.rd⟩, k (Itl X.K a) m xs ρ' [.fr m (.lst xs)] [.ref a] H' (S'.pushF r) ⟨?_, ?_, ?_, ?_, rfl⟩ q⟩
    · intro i ρ σ τ vs H S hi
      obtain ⟨w, hw, b, us, e, f, rp⟩ := S.top
      cases hw; cases e
      have hl := reps_len rp
      exact ⟨us, us[i]'(by omega), .inl f.rd, by simp⟩
    · intro ρ σ τ vs H S
      obtain ⟨w, hw, b, us, e, f, rp⟩ := S.top
      cases hw; cases e
      exact ⟨us, .inl f.rd, by rw [reps_len rp]; exact Nat.le_refl _⟩
    · intro i ρ σ τ vs H v H' S hi y
      obtain ⟨w, hw, b, us, e, f, rp⟩ := S.top
      cases hw; cases e
      obtain ⟨rfl, hy⟩ := y
      have hv := hy us (.inl f.rd)
      obtain ⟨u, hu, ru⟩ := reps_get rp (List.getElem?_eq_getElem hi)
      rw [hv] at hu
      cases hu
      exact ⟨xs[i], List.getElem?_eq_getElem hi, S.pushF ru⟩
    · intro sv hsv
      rw [List.mem_singleton.mp hsv]; rfl
  | scr ns =>
    obtain ⟨a, rfl, f⟩ := id r
    have len : (ns.map D.int).length = (ns.map V.int).length := by rw [List.length_map, List.length_map]
    refine ⟨a, rfl, ⟨_, scr_sq f⟩, k (Itl X.K a) true (ns.map .int) ρ' [.fr m (.scr ns)] [.ref a] H' (S'.pushF r) ⟨?_, ?_, ?_, ?_, rfl⟩ q⟩
    · intro i ρ σ τ vs H S hi
      obtain ⟨w, hw, b, e, f⟩ := S.top
      cases hw; cases e
      exact ⟨_, (ns.map V.int)[i]'(by omega), scr_sq f, by simp⟩
    · intro ρ σ τ vs H S
      obtain ⟨w, hw, b, e, f⟩ := S.top
      cases hw; cases e
      exact ⟨_, scr_sq f, by omega⟩
    · intro i ρ σ τ vs H v H' S hi y
      obtain ⟨w, hw, b, e, f⟩ := S.top
      cases hw; cases e
      obtain ⟨rfl, hy⟩ := y
      have hv := hy _ (scr_sq f)
      have hi' : i < ns.length := by simpa using hi
      refine ⟨.int ns[i], by simp [hi'], S.pushF ?_⟩
      rw [List.getElem?_map, List.getElem?_eq_getElem hi'] at hv
      exact (Option.some.inj hv).symm
    · intro sv hsv
      rw [List.mem_singleton.mp hsv]; rfl
  | _ => exact q.elim
theorem qi_tup (h : QE X g e p) : QI X g tg e (riT p) := fun Ξ tk => PI.imp (pi_tup (h.peT tk)) fun σ H R ⟨τ, vs, ρ, Φ, S, hw, k⟩ => by
  refine ⟨τ, vs, ρ, _, S, hw, fun m d ρ' v H' S' r q => ?_⟩
  cases d with
  | tup xs =>
    obtain ⟨a, ws, rfl, f, rp⟩ := id r
    refine ⟨a, rfl, ⟨ws, f⟩, k (Itt X.K a) m xs ρ' [.fr m (.tup xs)] [.ref a] H' (S'.pushF r) ⟨?_, ?_, ?_, ?_, rfl⟩ q⟩
    · intro i ρ σ τ vs H S hi
      obtain ⟨w, hw, b, us, e, f, rp⟩ := S.top
      cases hw; cases e
      have hl := reps_len rp
      exact ⟨us, us[i]'(by omega), f, by simp⟩
    · intro ρ σ τ vs H S
      obtain ⟨w, hw, b, us, e, f, rp⟩ := S.top
      cases hw; cases e
      exact ⟨us, f, by rw [reps_len rp]; exact Nat.le_refl _⟩
    · intro i ρ σ τ vs H v H' S hi y
      obtain ⟨w, hw, b, us, e, f, rp⟩ := S.top
      cases hw; cases e
      obtain ⟨rfl, hy⟩ := y
      have hv := hy us f
      obtain ⟨u, hu, ru⟩ := reps_get rp (List.getElem?_eq_getElem hi)
      rw [hv] at hu
      cases hu
      exact ⟨xs[i], List.getElem?_eq_getElem hi, S.pushF ru⟩
    · intro sv hsv
      rw [List.mem_singleton.mp hsv]; rfl
  | _ => exact q.elim
theorem walkQ_range {K : PySem.W.Frag} {lo : Int} {n : Nat} : WalkQ K g (Itr lo n) true (intsF lo n) [] [] := by
  have hl : (intsF lo n).length = n := by simp [intsF]
  refine ⟨fun i ρ σ τ vs H S hi => ?_, fun ρ σ τ vs H S => ?_, fun i ρ σ τ vs H v H' S hi y => ?_, fun sv h => absurd h (by simp), rfl⟩
  · rw [hl] at hi; exact hi
  · rw [hl]; exact Nat.le_refl _
  · obtain ⟨rfl, rfl⟩ := y
    rw [hl] at hi
    refine ⟨.int (lo + (i : Nat)), by simp [intsF, hi], S.pushF rfl⟩
theorem qi_range1 {pa : RA} (hg : Gl X "range") (hm : X.mg "range" = none) (h : QA X g [a] pa) (hs : starEach [a] X.env = [(false, eval a X.env)] := by rfl) : QI X g tg (.Call (.Name "range" pf) [a] [] pos) (riR1 pa) := fun Ξ tk =>
  PI.imp (pi_range1 hg hm (h.pa tk) hs) fun σ H R ⟨τ, vs, ρ, Φ, S, hw, k⟩ => by
    refine ⟨τ, vs, ρ, _, S, hw, fun svs ρ' us H' hl S' q => ?_⟩
    match svs, us, hl, S', q with
    | [s1], [x], _, S', q =>
      obtain ⟨m, d, e, q⟩ := kV_ok q
      have v1 := view_ok S'.pop S'.top e
      cases d with
      | int n =>
        cases view_int v1
        exact ⟨n, rfl, q.1.1, q.1.2, k (Itr 0 n.toNat) true _ ρ' [] [] H' S'.pop walkQ_range q.2⟩
      | _ => exact q.elim
    | [], _, _, _, q => exact q.elim
    | _ :: _ :: _, _, _, _, q => exact q.elim
theorem qi_range2 {pa : RA} (hg : Gl X "range") (hm : X.mg "range" = none) (h : QA X g [a, b] pa) (hs : starEach [a, b] X.env = [(false, eval a X.env), (false, eval b X.env)] := by rfl) (hs2 : starEach [b] X.env = [(false, eval b X.env)] := by rfl) :
    QI X g tg (.Call (.Name "range" pf) [a, b] [] pos) (riR2 pa) := fun Ξ tk =>
  PI.imp (pi_range2 hg hm (h.pa tk) hs hs2) fun σ H R ⟨τ, vs, ρ, Φ, S, hw, k⟩ => by
    refine ⟨τ, vs, ρ, _, S, hw, fun svs ρ' us H' hl S' q => ?_⟩
    match svs, us, hl, S', q with
    | [s1, s2], [x, y], _, S', q =>
      obtain ⟨m1, d1, m2, d2, e1, e2, z⟩ := kV2_ok q
      have v1 := view_ok S'.pop.pop S'.top e1
      have v2 := view_ok S'.pop.pop S'.pop.top e2
      cases d1 with
      | int i =>
        cases d2 with
        | int j =>
          cases view_int v1
          cases view_int v2
          exact ⟨i, j, rfl, z.1, k _ true _ ρ' [] [] H' S'.pop.pop walkQ_range z.2⟩
        | _ => exact z.elim
      | _ => exact z.elim
    | [], _, _, _, q => exact q.elim
    | [_], _, _, _, q => exact q.elim
    | _ :: _ :: _ :: _, _, _, _, q => exact q.elim
theorem SR.nb_app {tx τ : List SV} (h1 : NoBor tx) (h2 : NoBor τ) : NoBor (tx ++ τ) := fun sv h => (List.mem_append.mp h).elim (h1 sv) (h2 sv)
/-- for target in iter: body -/
theorem q_for {js : List Nat} {ri : RI} {r : RG} {body : List Stmt} {rb : RS} (hp : PassesOwn (model X.prog X.w) X.A X.env X.xe) (hc : X.calm = true) (hi : QI X g tg e ri) (hg : QG X g js tg r) (hb : QSs X g body rb) (hs : ∀ x, foldedSetIterable e X.env x = pure x := by intro _; rfl) : QS X g (.For tg e body [] pos) (rFor ri r rb) := by
  refine QS.of (fun Ξ tk => ps_for hp hc (hi Ξ tk) hg.pg (hb.pss tk) hs) fun τ vs ρ D σ H nb S hw => ?_
  refine ⟨τ, vs, ρ, _, S, hw, fun J m xs ρ1 tx vx H1 S1 W ⟨Iv, i0, turn, fin⟩ => ?_⟩
  refine ⟨fun i n σ H => n = xs.length - i ∧ i ≤ xs.length ∧ ∃ ρ, SR X.K g ρ σ (tx ++ τ) (vx ++ vs) H ∧ Iv i ρ, ⟨xs.length, by simp, Nat.zero_le _, ρ1, S1, i0⟩, ?_⟩
  rintro i n σ H ⟨rfl, hi, ρ, S, iv⟩
  by_cases hlt : i < xs.length
  · refine .inr ⟨W.goes i ρ σ τ vs H S hlt, fun σ' H' => i + 1 ≤ xs.length ∧ ∃ ρ, SR X.K g ρ σ' (tx ++ τ) (vx ++ vs) H' ∧ Iv (i + 1) ρ, fun σ' H' ⟨h1, h2⟩ => ⟨xs.length - (i + 1), by omega, rfl, h1, h2⟩, fun v H' y => ?_⟩
    obtain ⟨d, hd, S'⟩ := W.yields i ρ σ τ vs H v H' S hlt y
    have nb2 := SR.nb_app W.nb nb
    refine ⟨tx ++ τ, vx ++ vs, ρ, .fr m d, _, nb2, rfl, S', turn i d ρ hd iv, fun ρ2 σ2 H2 S2 z _ => ?_⟩
    refine ⟨tx ++ τ, vx ++ vs, ρ2, { D with nx := Iv (i + 1), ct := Iv (i + 1), bk := D.nx }, nb2, rfl, S2, z, fun ρ' σ' H' S' z => ⟨hlt, ρ', S', z⟩, fun sv ρ' v σ' H' S' z => ?_, fun ρ' σ' H' S' z => ⟨ρ', S'.drop W.len, z⟩, fun ρ' σ' H' S' z => ⟨hlt, ρ', S', z⟩⟩
    exact ⟨σ', sv, ρ', SR.drop (svs := tx) (us := vx) W.len (S'.sink W.len), z⟩
  · have e : i = xs.length := by omega
    subst e
    exact .inl ⟨W.stops ρ σ τ vs H S, ρ, S.drop W.len, fin ρ iv⟩
end
end Q

namespace Q
open PySem PySem.Spec PyProof.Rows L2
/-! ### the block's slots -/
theorem wipeP_len (ρ : PSt) : ∀ vs : List Nat, (wipeP ρ vs).length = ρ.length
  | [] => rfl
  | v :: vs => by unfold wipeP; rw [List.length_set, wipeP_len ρ vs]
section
variable {K : PySem.W.Frag} {g : Gh} {ρ : PSt} {σ : L2.St} {τ : List SV} {vs : List V} {H : Hp}
/-- a slot is forgotten -/
theorem SR.forget (S : SR K g ρ σ τ vs H) (i : Nat) : SR K g (ρ.set i .no) (σ.set i none) τ vs H := by
  have key : ∀ q ∈ ents (ρ.set i .no) (σ.set i none) τ vs, q ∈ ents ρ σ τ vs ∨ q = (.no, none) := fun q hq => by
    rw [ents_set S.tlen] at hq
    exact List.mem_or_eq_of_mem_set hq
  refine ⟨by simp [S.len], S.tlen, fun q hq => ?_, ?_, fun q hq a e => ?_, S.keep, S.tabs, S.gnew, S.pin, fun x hx => ?_, S.snew⟩
  · rcases key q hq with z | rfl
    · have h := S.all q z
      obtain ⟨sv, v⟩ := q
      cases sv with
      | bor j =>
        refine ⟨h.1, fun w e => h.2 w ?_⟩
        by_cases hj : i = j
        · subst hj
          rw [List.getElem?_set] at e
          simp at e
        · rw [List.getElem?_set_ne hj] at e; exact e
      | _ => exact h
    · trivial
  · have inj : Injs ((ents ρ σ τ vs).set (τ.length + i) (SV.no, none)) := Injs.set S.inj _ _ fun a e => nomatch (show (none : Option Addr) = some a from e)
    rw [← ents_set S.tlen] at inj
    exact inj
  · rcases key q hq with z | rfl
    · exact S.own q z a e
    · cases e
  · rcases List.mem_or_eq_of_mem_set hx with z | rfl
    · exact S.nb x z
    · rfl
theorem SR.wipe (S : SR K g ρ σ τ vs H) : ∀ js : List Nat, SR K g (wipeP ρ js) (L2.wipe σ js) τ vs H
  | [] => S
  | j :: js => (S.wipe js).forget j
def BorOk (σ : L2.St) (τ : List SV) (vs : List V) : Prop := ∀ p ∈ τ.zip (vs.map some), ∀ i, p.1 = .bor i → ∀ w, σ[i]? = some (some w) → p.2 = some w
theorem SR.borOk (S : SR K g ρ σ τ vs H) : BorOk σ τ vs := fun p hp i e w hw => by
  have h := S.all p (List.mem_append_left _ hp)
  rw [e] at h
  exact h.2 w hw
/-- .. and back -/
theorem SR.unwipe {js : List Nat} (S : SR K g ρ (L2.wipe σ js) τ vs H) (hb : BorOk σ τ vs) : SR K g ρ σ τ vs H := by
  have hl : ρ.length = σ.length := by rw [S.len, wipe_length]
  have at_ : ∀ i, i < σ.length → (L2.wipe σ js)[i]? = σ[i]? ∨ (L2.wipe σ js)[i]? = some none := fun i hi => by
    have : ∀ js : List Nat, (L2.wipe σ js)[i]? = σ[i]? ∨ (L2.wipe σ js)[i]? = some none := fun js => by
      induction js with
      | nil => exact .inl rfl
      | cons j js ih =>
        unfold L2.wipe
        rw [List.getElem?_set]
        split
        · rename_i e; subst e; split
          · exact .inr rfl
          · rename_i h; rw [wipe_length] at h; exact absurd hi h
        · exact ih
    exact this js
  have key : ∀ (k : Nat) q, (ents ρ σ τ vs)[k]? = some q → (ents ρ (L2.wipe σ js) τ vs)[k]? = some q ∨ (q.1 = .no ∧ (∀ z, ¬ Own q.1 q.2 z)) := fun k q hk => by
    unfold ents at hk ⊢
    by_cases h1 : k < (τ.zip (vs.map some)).length
    · rw [List.getElem?_append_left h1] at hk ⊢
      exact .inl hk
    · rw [List.getElem?_append_right (by omega)] at hk ⊢
      generalize k - (τ.zip (vs.map some)).length = i at hk ⊢
      obtain ⟨e1, e2⟩ := List.getElem?_zip_eq_some.mp hk
      have hi : i < σ.length := (List.getElem?_eq_some_iff.mp e2).1
      rcases at_ i hi with z | z
      · exact .inl (List.getElem?_zip_eq_some.mpr ⟨e1, z.trans e2⟩)
      · right
        obtain ⟨sv, v⟩ := q
        have hm := S.all (sv, none) (List.mem_of_getElem? (ents_at S.tlen i e1 z))
        have : sv = .no := by
          cases sv with
          | no => rfl
          | fr m d => obtain ⟨u, e, _⟩ := hm; cases e
          | ol m d => obtain ⟨u, _, e, _⟩ := hm; cases e
          | od m d => obtain ⟨u, _, e, _⟩ := hm; cases e
          | oe m d => obtain ⟨u, _, e, _⟩ := hm; cases e
          | oo m C d => obtain ⟨u, _, _, e, _⟩ := hm; cases e
          | ot L d => obtain ⟨u, e, _⟩ := hm; cases e
          | sto a => have := hm.1; cases this
          | so a kvs => have := hm.1; cases this
          | bor j => have := S.nb _ (List.mem_of_getElem? e1); cases this
        subst this
        exact ⟨rfl, fun z hz => by cases v <;> cases hz⟩
  refine ⟨hl, S.tlen, fun q hq => ?_, fun i j p q a e1 e2 h1 h2 => ?_, fun q hq a e => ?_, S.keep, S.tabs, S.gnew, S.pin, S.nb, S.snew⟩
  · obtain ⟨k, hk⟩ := List.mem_iff_getElem?.mp hq
    rcases key k q hk with z | ⟨z, _⟩
    · have h := S.all q (List.mem_of_getElem? z)
      by_cases hbq : q.1.isBor = true
      · obtain ⟨sv, v⟩ := q
        cases sv with
        | bor i =>
          refine ⟨h.1, fun w hw => ?_⟩
          rcases List.mem_append.mp hq with y | y
          · exact hb _ y i rfl w hw
          · have := S.nb _ (List.of_mem_zip y).1
            cases this
        | _ => cases hbq
      · exact svr_sigma (by simpa using hbq) h
    · rw [z]; trivial
  · rcases key i p e1 with z1 | ⟨_, z1⟩
    · rcases key j q e2 with z2 | ⟨_, z2⟩
      · exact S.inj i j p q a z1 z2 h1 h2
      · exact (z2 a h2).elim
    · exact (z1 a h1).elim
  · obtain ⟨k, hk⟩ := List.mem_iff_getElem?.mp hq
    rcases key k q hk with z | ⟨_, z⟩
    · exact S.own q (List.mem_of_getElem? z) a e
    · exact (z a e).elim
/-- an own cell on top is written -/
theorem SR.writeTop {sv sv' : SV} {v : V} {a : Addr} {o : HO} (S : SR K g ρ σ (sv :: τ) (v :: vs) H) (ho : Own sv (some v) a) (ho' : ∀ b, Own sv' (some v) b → b = a) (ns : sv.stoOf = none) (new : SVR K g (upd H a o) σ sv' (some v)) : SR K g ρ σ (sv' :: τ) (v :: vs) (upd H a o) := by
  have hm : (sv, some v) ∈ ents ρ σ (sv :: τ) (v :: vs) := List.mem_cons_self
  obtain ⟨_, u, hu, mu, nx⟩ := svr_own S.top ho
  have st : Stab H (upd H a o) := stab_mut (by rw [hu]; exact mu)
  have hB : g.B a = none := (S.own _ hm a ho).elim id fun z => absurd z.2 (by rw [show (sv, some v).1.stoOf = none from ns]; exact fun e => nomatch e)
  have S2 : SR K g ρ σ τ vs (upd H a o) := by
    refine S.pop.heap st (fun q hq b e => ?_) (S.keep.upd (.inl hB)) ?_
    · rw [upd_ne]
      rintro rfl
      exact Injs.fresh S.inj ho q hq e
    · intro pt hpt
      obtain ⟨ps, h1, h2, h3⟩ := S.tabs pt hpt
      have ne1 : pt.1 ≠ a := fun z => by rw [z, hu] at h1; cases h1; exact mu
      refine ⟨ps, by rw [upd_ne ne1]; exact h1, h2, fun pos cv hc => ?_⟩
      obtain ⟨c, e1, e2⟩ := h3 pos cv hc
      refine ⟨c, e1, ?_⟩
      rw [upd_ne]
      · exact e2
      rintro rfl
      rw [hu] at e2
      exact nx _ (Option.some.inj e2)
  refine S2.push new fun b e => ?_
  rw [ho' b e]
  exact ⟨.inl hB, fun q hq z => Injs.fresh S.inj ho q hq z⟩
end
theorem wipe_wipe (σ : L2.St) : ∀ vs : List Nat, L2.wipe (L2.wipe σ vs) vs = L2.wipe σ vs := fun vs => by
  apply List.ext_getElem?
  intro i
  have one : ∀ (σ : L2.St) (vs : List Nat), (L2.wipe σ vs)[i]? = if i ∈ vs ∧ i < σ.length then some none else σ[i]? := fun σ vs => by
    induction vs with
    | nil => simp [L2.wipe]
    | cons v vs ih =>
      unfold L2.wipe
      rw [List.getElem?_set, wipe_length, ih]
      by_cases h1 : v = i
      · subst h1
        by_cases h2 : v < σ.length
        · simp [h2]
        · simp [h2]
      · simp [h1, Ne.symm h1]
  rw [one, one, wipe_length]
  by_cases h : i ∈ vs ∧ i < σ.length
  · rw [if_pos h, if_pos h]
  · rw [if_neg h, if_neg h]
theorem SR.sinkTop {K : PySem.W.Frag} {g : Gh} {ρ : PSt} {σ : L2.St} {τ tx : List SV} {vs vx : List V} {H : Hp} {sv : SV} {v : V} (S : SR K g ρ σ (sv :: (tx ++ τ)) (v :: (vx ++ vs)) H) (hl : tx.length = vx.length) : SR K g ρ σ (sv :: τ) (v :: vs) H :=
  SR.drop hl (S.sink hl)
/-- without what leans on slots -/
def nob : SV → SV
  | .bor _ => .no
  | sv => sv
theorem nob_nb {τ : List SV} : NoBor (τ.map nob) := fun sv h => by
  obtain ⟨x, _, rfl⟩ := List.mem_map.mp h
  cases x <;> rfl
theorem sto_nob {sv : SV} : (nob sv).stoOf = sv.stoOf := by cases sv <;> rfl
theorem own_nob {sv : SV} {v : Option V} : Own (nob sv) v = Own sv v := by
  cases v with
  | none => cases sv <;> rfl
  | some v => cases v <;> cases sv <;> rfl
theorem ents_nob {ρ : PSt} {σ : L2.St} {τ : List SV} {vs : List V} (i : Nat) (hl : τ.length = vs.length) : (∀ q, (ents ρ σ τ vs)[i]? = some q → ∃ q', (ents ρ σ (τ.map nob) vs)[i]? = some q' ∧ q'.2 = q.2 ∧ (q'.1 = q.1 ∨ (q'.1 = nob q.1 ∧ q ∈ τ.zip (vs.map some)))) ∧
    (∀ q, (ents ρ σ (τ.map nob) vs)[i]? = some q → ∃ q', (ents ρ σ τ vs)[i]? = some q' ∧ q.2 = q'.2 ∧ (q.1 = q'.1 ∨ (q.1 = nob q'.1 ∧ q' ∈ τ.zip (vs.map some)))) := by
  have e : (τ.map nob).zip (vs.map some) = (τ.zip (vs.map some)).map fun p => (nob p.1, p.2) := by
    rw [List.zip_map_left]
    rfl
  unfold ents
  rw [e]
  have l1 : ((τ.zip (vs.map some)).map fun p => (nob p.1, p.2)).length = (τ.zip (vs.map some)).length := List.length_map _
  constructor
  · intro q hq
    by_cases h1 : i < (τ.zip (vs.map some)).length
    · rw [List.getElem?_append_left h1] at hq
      refine ⟨(nob q.1, q.2), ?_, rfl, .inr ⟨rfl, List.mem_of_getElem? hq⟩⟩
      rw [List.getElem?_append_left (by rw [l1]; exact h1), List.getElem?_map, hq]
      rfl
    · rw [List.getElem?_append_right (by omega)] at hq
      refine ⟨q, ?_, rfl, .inl rfl⟩
      rw [List.getElem?_append_right (by rw [l1]; omega), l1]
      exact hq
  · intro q hq
    by_cases h1 : i < (τ.zip (vs.map some)).length
    · rw [List.getElem?_append_left (by rw [l1]; exact h1), List.getElem?_map] at hq
      cases hz : (τ.zip (vs.map some))[i]? with
      | none => rw [hz] at hq; cases hq
      | some z =>
        rw [hz] at hq
        cases hq
        refine ⟨z, ?_, rfl, .inr ⟨rfl, List.mem_of_getElem? hz⟩⟩
        rw [List.getElem?_append_left h1]
        exact hz
    · rw [List.getElem?_append_right (by rw [l1]; omega), l1] at hq
      refine ⟨q, ?_, rfl, .inl rfl⟩
      rw [List.getElem?_append_right (by omega)]
      exact hq
section
variable {K : PySem.W.Frag} {g : Gh} {ρ : PSt} {σ : L2.St} {τ : List SV} {vs : List V} {H : Hp}
theorem SR.nobor (S : SR K g ρ σ τ vs H) : SR K g ρ σ (τ.map nob) vs H := by
  have ow : ∀ {q q' : SV × Option V}, q.2 = q'.2 → (q.1 = q'.1 ∨ (q.1 = nob q'.1 ∧ q' ∈ τ.zip (vs.map some))) → Own q.1 q.2 = Own q'.1 q'.2 := fun {q q'} e1 e2 => by
    rw [e1]
    rcases e2 with e | ⟨e, _⟩
    · rw [e]
    · rw [e, own_nob]
  refine ⟨S.len, by rw [List.length_map]; exact S.tlen, fun q hq => ?_, fun i j p q a e1 e2 h1 h2 => ?_, fun q hq a e => ?_, S.keep, S.tabs, S.gnew, S.pin, S.nb, S.snew⟩
  · obtain ⟨i, hi⟩ := List.mem_iff_getElem?.mp hq
    obtain ⟨q', h1, h2, h3⟩ := (ents_nob i S.tlen).2 q hi
    have z := S.all q' (List.mem_of_getElem? h1)
    rw [h2]
    rcases h3 with e | ⟨e, _⟩
    · rw [e]; exact z
    · rw [e]
      obtain ⟨sv, v⟩ := q'
      cases sv with
      | bor k => trivial
      | _ => exact z
  · obtain ⟨p', p1, p2, p3⟩ := (ents_nob i S.tlen).2 p e1
    obtain ⟨q', q1, q2, q3⟩ := (ents_nob j S.tlen).2 q e2
    rw [ow p2 p3] at h1
    rw [ow q2 q3] at h2
    exact S.inj i j p' q' a p1 q1 h1 h2
  · obtain ⟨i, hi⟩ := List.mem_iff_getElem?.mp hq
    obtain ⟨q', h1, h2, h3⟩ := (ents_nob i S.tlen).2 q hi
    rw [ow h2 h3] at e
    rcases S.own q' (List.mem_of_getElem? h1) a e with z | ⟨z1, z2⟩
    · exact .inl z
    · refine .inr ⟨z1, ?_⟩
      rcases h3 with w | ⟨w, _⟩
      · rw [w]; exact z2
      · rw [w, sto_nob, z2]
theorem SR.rebor (S : SR K g ρ σ (τ.map nob) vs H) (hb : BorOk σ τ vs) (hl : τ.length = vs.length) : SR K g ρ σ τ vs H := by
  have ow : ∀ {q q' : SV × Option V}, q'.2 = q.2 → (q'.1 = q.1 ∨ (q'.1 = nob q.1 ∧ q ∈ τ.zip (vs.map some))) → Own q'.1 q'.2 = Own q.1 q.2 := fun {q q'} e1 e2 => by
    rw [e1]
    rcases e2 with e | ⟨e, _⟩
    · rw [e]
    · rw [e, own_nob]
  refine ⟨S.len, hl, fun q hq => ?_, fun i j p q a e1 e2 h1 h2 => ?_, fun q hq a e => ?_, S.keep, S.tabs, S.gnew, S.pin, S.nb, S.snew⟩
  · obtain ⟨i, hi⟩ := List.mem_iff_getElem?.mp hq
    obtain ⟨q', h1, h2, h3⟩ := (ents_nob i hl).1 q hi
    have z := S.all q' (List.mem_of_getElem? h1)
    rw [h2] at z
    rcases h3 with e | ⟨e, hm⟩
    · rw [e] at z; exact z
    · obtain ⟨sv, v⟩ := q
      cases sv with
      | bor k =>
        refine ⟨?_, fun w hw => hb _ hm k rfl w hw⟩
        obtain ⟨_, hv⟩ := List.of_mem_zip hm
        obtain ⟨y, _, rfl⟩ := List.mem_map.mp hv
        rfl
      | _ => rw [e] at z; exact z
  · obtain ⟨p', p1, p2, p3⟩ := (ents_nob i hl).1 p e1
    obtain ⟨q', q1, q2, q3⟩ := (ents_nob j hl).1 q e2
    rw [← ow p2 p3] at h1
    rw [← ow q2 q3] at h2
    exact S.inj i j p' q' a p1 q1 h1 h2
  · obtain ⟨i, hi⟩ := List.mem_iff_getElem?.mp hq
    obtain ⟨q', h1, h2, h3⟩ := (ents_nob i hl).1 q hi
    rw [← ow h2 h3] at e
    rcases S.own q' (List.mem_of_getElem? h1) a e with z | ⟨z1, z2⟩
    · exact .inl z
    · refine .inr ⟨z1, ?_⟩
      rcases h3 with w | ⟨w, _⟩
      · rw [← w]; exact z2
      · rw [w, sto_nob] at z2; exact z2
end
/-! ### list comprehensions -/
structure QTs (X : Cx) (g : Gh) (ifs : List Expr) (p : RT) : Prop where
  pts : ∀ Ξ, Takes X (WQ X g Ξ) → PTs X ifs (tqt X g p Ξ)
theorem qts_nil {X : Cx} {g : Gh} : QTs X g [] rYes := ⟨fun Ξ _ => ⟨fun pins s σ H Q I ⟨τ, vs, ρ, Φ, S, hp, k⟩ => wpAny_tests_nil ⟨H, I, k true ρ H S hp⟩⟩⟩
theorem qts_one {X : Cx} {g : Gh} {c : Expr} {p : RT} (h : QT X g c p) : QTs X g [c] p := ⟨fun Ξ tk => pts_one (h.pt tk)⟩
theorem takes_noX {X : Cx} {g : Gh} : Takes X (WQ X g noX) := Takes.imp takes0 fun c d σ H h => by
  obtain ⟨_, _, _, _, _, _, z⟩ := h
  exact z
section
variable {X : Cx} {g : Gh} {elt tg iter : Expr} {ifs : List Expr} {scope : Scope} {own : List (Str × Nat)} {pos : Pos} {ri : RI} {r : RG} {tt : RT} {te : RE} {js : List Nat}
theorem map_nob : ∀ {tx : List SV}, NoBor tx → tx.map nob = tx
  | [], _ => rfl
  | x :: r, h => by
    have h1 := h x List.mem_cons_self
    rw [List.map_cons, map_nob fun sv hs => h sv (List.mem_cons_of_mem _ hs)]
    cases x <;> first | rfl | cases h1
theorem nob_app {K : PySem.W.Frag} {g : Gh} {ρ : PSt} {σ : L2.St} {tx τ : List SV} {vs : List V} {H : Hp} (h : NoBor tx) (S : SR K g ρ σ ((tx ++ τ).map nob) vs H) : SR K g ρ σ (tx ++ τ.map nob) vs H := by
  have e : tx.map nob = tx := map_nob h
  rw [List.map_append, e] at S
  exact S
theorem lc_read {τ : List SV} {vs : List V} {ρ : PSt} {σ : L2.St} {H : Hp} {Φ : RK} {Ξ : RX} {ow : List Nat} {Y : Cx} (hj : ∀ j ∈ js, j ∈ ow) (S : SR X.K g ρ σ τ vs H) (hw : rLc ow ri r tt te ρ Φ Ξ) (hY : Y.K = X.K) :
    tLc (tqi X g ri Ξ) (tqg Y g js r) (tqt Y g tt noX) (tqeT Y g te noX) ow σ H fun v H' => ∃ ma acc ρ', SR X.K g ρ' σ (.ol ma acc :: τ) (v :: vs) H' ∧ Φ (.ol ma acc) ρ' := by
  refine ⟨τ, vs, ρ, _, S, hw, fun J m xs ρ1 tx vx H1 S1 W hI D hD => ?_⟩
  obtain ⟨Iv, i0, turn, fin⟩ := hI
  have bo : BorOk σ τ vs := S.borOk
  have tl : τ.length = vs.length := S.tlen
  have mk : ∀ {ρ σ H acc ma v}, SR X.K g ρ σ (SV.ol ma acc :: (tx ++ τ.map nob)) (v :: (vx ++ vs)) H → SR X.K g ρ σ (tx ++ (SV.ol ma acc :: τ.map nob)) (vx ++ (v :: vs)) H := fun S => S.sink W.len
  refine ⟨fun i n H => n = xs.length - i ∧ i ≤ xs.length ∧ ∃ acc ma ρ, SR X.K g ρ (L2.wipe σ ow) (tx ++ (SV.ol ma acc :: τ.map nob)) (vx ++ (V.ref D :: vs)) H ∧ Iv i acc ma ρ, ⟨xs.length, by simp, Nat.zero_le _, [], true, _, mk (SR.newList (nob_app W.nb (S1.nobor.wipe ow)) hD rfl), i0⟩, ?_⟩
  rintro i n H ⟨rfl, hi, acc, ma, ρ, S, iv⟩
  by_cases hlt : i < xs.length
  · refine .inr ⟨W.goes i ρ _ _ _ H S hlt, fun H' => i + 1 ≤ xs.length ∧ ∃ acc ma ρ, SR X.K g ρ (L2.wipe σ ow) (tx ++ (SV.ol ma acc :: τ.map nob)) (vx ++ (V.ref D :: vs)) H' ∧ Iv (i + 1) acc ma ρ, fun H' h => ⟨xs.length - (i + 1), by omega, rfl, h⟩, fun v H' y => ?_⟩
    obtain ⟨d, hd, S'⟩ := W.yields i ρ _ _ _ H v H' S hlt y
    refine ⟨tx ++ (SV.ol ma acc :: τ.map nob), vx ++ (V.ref D :: vs), ρ, .fr m d, _, ?_, rfl, by rw [hY]; exact S', turn i d acc ma ρ hd iv, fun ρ2 σ2 H2 S2 z wr => ?_⟩
    · exact SR.nb_app W.nb fun sv h => (List.mem_cons.mp h).elim (fun z => by rw [z]; rfl) (nob_nb sv)
    · have we : L2.wipe σ2 ow = L2.wipe σ ow := by
        rw [wr ow hj, wipe_wipe]
      refine ⟨we, _, _, ρ2, _, S2, z, fun b ρ3 H3 S3 z => ?_⟩
      have back : ∀ {ρ H}, SR X.K g ρ σ2 (tx ++ (SV.ol ma acc :: τ.map nob)) (vx ++ (V.ref D :: vs)) H → SR X.K g (wipeP ρ ow) (L2.wipe σ ow) (tx ++ (SV.ol ma acc :: τ.map nob)) (vx ++ (V.ref D :: vs)) H := fun S => by
        have := S.wipe ow
        rw [we] at this
        exact this
      rw [hY] at S3
      cases b with
      | false => exact ⟨hlt, acc, ma, _, back S3, z.f rfl⟩
      | true =>
        refine ⟨_, _, ρ3, _, by rw [hY]; exact S3, z.t rfl, fun md d4 ρ4 y4 H4 S4 r4 z => ?_⟩
        rw [hY] at S4 r4
        have T := (back S4).lift W.len
        obtain ⟨a, ws, e, c, rp⟩ := T.top
        cases e
        refine ⟨ws, c, by rw [line_eq, ← reps_len rp]; exact z.1, hlt, acc ++ [d4], ma && md, _, ?_, z.2⟩
        have st : Stab H4 (upd H4 D (.lst (ws ++ [y4]))) := stab_mut (by rw [c]; trivial)
        refine (SR.writeTop (sv' := .ol (ma && md) (acc ++ [d4])) T rfl (fun _ e => (Option.some.inj e).symm) rfl ⟨D, _, rfl, upd_same, ?_⟩).sink W.len
        exact reps_app (Reps.mono (Gh.gm_mono fun h => (Bool.and_eq_true_iff.mp h).1) st _ _ rp) (reps_one (Rep.mono (Gh.gm_mono fun h => (Bool.and_eq_true_iff.mp h).2) st _ _ r4))
  · have e : i = xs.length := by omega
    subst e
    refine .inl ⟨W.stops ρ _ _ _ H S, ma, acc, ρ, ?_, fin acc ma ρ iv⟩
    have T := (S.lift W.len).sinkTop W.len
    have T2 : SR X.K g ρ σ ((SV.ol ma acc :: τ).map nob) (V.ref D :: vs) H := T.unwipe (by
      intro p hp i e w hw
      have := nob_nb (τ := SV.ol ma acc :: τ) p.1 (List.of_mem_zip hp).1
      rw [e] at this
      cases this)
    exact T2.rebor (by
      intro p hp i e w hw
      rw [List.map_cons, List.zip_cons_cons] at hp
      rcases List.mem_cons.mp hp with rfl | hp
      · cases e
      · exact bo p hp i e w hw) (by simp [tl])
theorem tLc_mono {wi : TI} {gg : TG} {t2 : TT} {t3 : TE} {ow : List Nat} {σ : L2.St} {H : Hp} {Q Q' : VK} (m : ∀ v H, Q v H → Q' v H) (h : tLc wi gg t2 t3 ow σ H Q) (mono : ∀ R R' : It → Hp → Prop, (∀ J H, R J H → R' J H) → wi σ H R → wi σ H R') : tLc wi gg t2 t3 ow σ H Q' :=
  mono _ _ (fun J H1 h D hD => by
    obtain ⟨W, h1, h2⟩ := h D hD
    exact ⟨W, h1, fun i m' H hw => (h2 i m' H hw).imp (fun z => ⟨z.1, m _ _ z.2⟩) id⟩) h
theorem tqi_mono {X : Cx} {ri : RI} {Ξ : RX} (R R' : It → Hp → Prop) {σ : L2.St} {H : Hp} (i : ∀ J H, R J H → R' J H) (h : tqi X g ri Ξ σ H R) : tqi X g ri Ξ σ H R' := by
  obtain ⟨τ, vs, ρ, Φ, S, hw, k⟩ := h
  exact ⟨τ, vs, ρ, Φ, S, hw, fun J m xs ρ1 tx vx H1 S1 W q => i _ _ (k J m xs ρ1 tx vx H1 S1 W q)⟩
theorem q_lc (hc : X.calm = true) (hN : X.N.Nodup) (hi : QI X g tg iter ri) (ok : BlkOk X.N X.env.scope scope own) (hj : ∀ j ∈ js, j ∈ own.map (·.2))
    (hg : ∀ (s : Shared) (H : Hp) (C : Addr) (cl : List (Str × Addr)) (fp : List Addr), QG (X.blk s H scope (compEnvC scope cl C X.env) fp) g js tg r) (ht : ∀ (s : Shared) (H : Hp) (C : Addr) (cl : List (Str × Addr)) (fp : List Addr), QTs (X.blk s H scope (compEnvC scope cl C X.env) fp) g ifs tt)
    (he : ∀ (s : Shared) (H : Hp) (C : Addr) (cl : List (Str × Addr)) (fp : List Addr), QE (X.blk s H scope (compEnvC scope cl C X.env) fp) g elt te) (hs : ∀ x, foldedSetIterable iter X.env x = pure x := by intro _; rfl) : QE X g (.ListComp elt [⟨tg, iter, ifs, 0⟩] scope pos) (rLc (own.map (·.2)) ri r tt te) := by
  refine QE.of (fun Ξ tk => pe_lc (wi := tqi X g ri Ξ) (g := tqg X g js r) (tt := tqt X g tt noX) (te := tqeT X g te noX) hc hN (hi Ξ tk) ok (fun s H C cl fp => (hg s H C cl fp).pg) (fun s H C cl fp => (ht s H C cl fp).pts noX takes_noX) (fun s H C cl fp => (he s H C cl fp).peT takes_noX) hs) fun τ vs ρ Φ Ξ σ H S hw => ?_
  exact tLc_mono (fun v H' ⟨ma, acc, ρ', S', q⟩ => ⟨_, ρ', S', q⟩) (lc_read hj S hw rfl) fun R R' i h => tqi_mono R R' i h
theorem q_setLc {i : Nat} {y : Str} {py spos : Pos} (hc : X.calm = true) (hN : X.N.Nodup) (hy : X.N[i]? = some y) (hyl : X.env.scope.names.lookup y = some .local)
    (hi : QI X g tg iter ri) (ok : BlkOk X.N X.env.scope scope own) (hj : ∀ j ∈ js, j ∈ own.map (·.2))
    (hg : ∀ (s : Shared) (H : Hp) (C : Addr) (cl : List (Str × Addr)) (fp : List Addr), QG (X.blk s H scope (compEnvC scope cl C X.env) fp) g js tg r) (ht : ∀ (s : Shared) (H : Hp) (C : Addr) (cl : List (Str × Addr)) (fp : List Addr), QTs (X.blk s H scope (compEnvC scope cl C X.env) fp) g ifs tt)
    (he : ∀ (s : Shared) (H : Hp) (C : Addr) (cl : List (Str × Addr)) (fp : List Addr), QE (X.blk s H scope (compEnvC scope cl C X.env) fp) g elt te)
    (hsw : swapsWith (.ListComp elt [⟨tg, iter, ifs, 0⟩] scope pos) (some (.Name y py)) spos.line X.env = pure true := by rfl) (hs : ∀ x, foldedSetIterable iter X.env x = pure x := by intro _; rfl) : QS X g (.Assign [.Name y py] (.ListComp elt [⟨tg, iter, ifs, 0⟩] scope pos) spos) (rSet i (rLc (own.map (·.2)) ri r tt te)) := by
  refine QS.of (fun Ξ tk => ps_setLc (wi := tqi X g ri Ξ) (g := tqg X g js r) (tt := tqt X g tt noX) (te := tqeT X g te noX) hc hN hy hyl hsw (hi Ξ tk) ok (fun s H C cl fp => (hg s H C cl fp).pg) (fun s H C cl fp => (ht s H C cl fp).pts noX takes_noX) (fun s H C cl fp => (he s H C cl fp).peT takes_noX) hs) fun τ vs ρ D σ H nb S hw => ?_
  refine tLc_mono (fun v H' hx => ?_) (lc_read (Φ := kA fun sv ρ' => D.nx (ρ'.set i sv)) hj S hw rfl) fun R R' i h => tqi_mono R R' i h
  obtain ⟨ma, acc, ρ', S', q⟩ := hx
  exact ⟨_, S'.assign rfl nb, q⟩
end
end Q

/-! pure part 2: built-in functions, subscripts, slices, methods -/
namespace Q
open PySem
abbrev Op1 := Bool → D → (SV → Prop) → Prop
def rB1 (o : Op1) (p : RE) : RE := fun ρ k x => p ρ (fun s ρ1 => match s.view ρ1 with
  | some (m, d) => o m d fun r => k r ρ1
  | none => False) x
/-! ### isinstance -/
inductive Ty where
  | int | bool | str | list | tuple | dict
  deriving DecidableEq
def Ty.nm : Ty → String
  | .int => "int" | .bool => "bool" | .str => "str" | .list => "list" | .tuple => "tuple" | .dict => "dict"
def D.tyn : D → Option String
  | .non => some "NoneType" | .bl _ => some "bool" | .int _ => some "int" | .str _ => some "str" | .lst _ => some "list" | .tup _ => some "tuple" | .dk _ => some "dict"
  | _ => none
def D.isa : D → Ty → Bool
  | .bl _, .int => true | .bl _, .bool => true | .int _, .int => true | .str _, .str => true | .lst _, .list => true | .tup _, .tuple => true | .dk _, .dict => true
  | _, _ => false
def D.plain : D → Bool
  | .non | .bl _ | .int _ | .str _ | .lst _ | .tup _ | .dk _ => true
  | _ => false
def oIsa (T : Ty) : Op1 := fun _ d k => d.plain = true ∧ k (.fr true (.bl (d.isa T)))
def oIsas (Ts : List Ty) : Op1 := fun _ d k => d.plain = true ∧ k (.fr true (.bl (Ts.any d.isa)))
def oLen : Op1 := fun _ d k => match d with
  | .lst xs => k (.fr true (.int xs.length))
  | .tup xs => k (.fr true (.int xs.length))
  | .str x => x.length ≤ line ∧ k (.fr true (.int x.length))
  | .dk kvs => k (.fr true (.int kvs.length))
  | _ => False
def oList : Op1 := fun m d k => match d with
  | .lst xs => k (.ol (m || safes xs) xs)
  | .tup xs => k (.ol (m || safes xs) xs)
  | .scr ns => k (.ol true (ns.map .int))
  | _ => False
def oTuple : Op1 := fun m d k => match d with
  | .lst xs => k (.fr m (.tup xs))
  | .tup xs => k (.fr m (.tup xs))
  | _ => False
def oInt1 : Op1 := fun _ d k => match d with
  | .int i => k (.fr true (.int i))
  | .bl b => k (.fr true (.int (if b then 1 else 0)))
  | .str a => ∃ n, PySem.intText? a = some n ∧ a.length ≤ 640 ∧ k (.fr true (.int n))
  | _ => False
def oStr1 : Op1 := fun _ d k => match d with
  | .int i => i.natAbs.log2 < 1920 ∧ k (.fr true (.str (toString i)))
  | _ => False
def oNeg : Op1 := fun _ d k => match d with
  | .int i => k (.fr true (.int (-i)))
  | _ => False
def oAbs : Op1 := fun _ d k => match d with
  | .int i => k (.fr true (.int (if i < 0 then -i else i)))
  | _ => False
def oAll : Op1 := fun _ d k => match d with
  | .lst xs => ∃ bs : List Bool, xs = bs.map D.bl ∧ k (.fr true (.bl (bs.all id)))
  | _ => False
def oAny : Op1 := fun _ d k => match d with
  | .lst xs => ∃ bs : List Bool, xs = bs.map D.bl ∧ k (.fr true (.bl (bs.any id)))
  | _ => False
def oSum : Op1 := fun _ d k => match d with
  | .lst xs => ∃ ns : List Int, xs = ns.map D.int ∧ k (.fr true (.int ns.sum))
  | _ => False
def oMin : Op2 := fun _ d1 _ d2 k => match d1, d2 with
  | .int i, .int j => k (.fr true (.int (if j < i then j else i)))
  | _, _ => False
def oMax : Op2 := fun _ d1 _ d2 k => match d1, d2 with
  | .int i, .int j => k (.fr true (.int (if j > i then j else i)))
  | _, _ => False
abbrev oPow : Op2 := oInt (fun i j => i ^ j.toNat) fun i j => 0 ≤ j ∧ ((j ≤ 1000000 ∧ i.natAbs < 2 ^ 64) ∨ (j ≤ 10000 ∧ i.natAbs.log2 < 10000))
/-! ### subscripts, slices -/
def D.key : D → Option Ky
  | .int i => some (.inl i)
  | .str x => some (.inr x)
  | _ => none
def dget (kvs : List (Ky × D)) (k : Ky) : Option D := (kvs.find? fun kv => decide (kv.1 = k)).map (·.2)
/-- a tuple of ints and texts as a key -/
def keysD : List D → Option (List Ky)
  | [] => some []
  | x :: r => match x.key, keysD r with
    | some k, some l => some (k :: l)
    | _, _ => none
def D.keyT : D → Option (List Ky)
  | .tup xs => keysD xs
  | _ => none
def dgetT (kvs : List (List Ky × D)) (k : List Ky) : Option D := (kvs.find? fun kv => decide (kv.1 = k)).map (·.2)
def dputT (kvs : List (List Ky × D)) (k : List Ky) (v : D) : List (List Ky × D) :=
  if (kvs.any fun kv => decide (kv.1 = k)) = true then kvs.map (fun kv => if kv.1 = k then (kv.1, v) else kv) else kvs ++ [(k, v)]
def dput (kvs : List (Ky × D)) (k : Ky) (v : D) : List (Ky × D) :=
  if (kvs.any fun kv => decide (kv.1 = k)) = true then kvs.map (fun kv => if kv.1 = k then (kv.1, v) else kv) else kvs ++ [(k, v)]
def oIx : Op2 := fun m1 d1 _ d2 k => match d1, d2 with
  | .lst xs, .int i => ∃ d, L2.atI xs i = some d ∧ k (.fr m1 d)
  | .tup xs, .int i => ∃ d, L2.atI xs i = some d ∧ k (.fr m1 d)
  | .str x, .int i => x.length ≤ line ∧ ∃ c, L2.atI x.cps.toList i = some c ∧ k (.fr true (.str ⟨#[c]⟩))
  | .dk kvs, y => ∃ ky d, y.key = some ky ∧ dget kvs ky = some d ∧ k (.fr m1 d)
  | .dt kvs, y => ∃ ky d, y.keyT = some ky ∧ dgetT kvs ky = some d ∧ k (.fr m1 d)
  | _, _ => False
abbrev RO := PSt → (Option Int → PSt → Prop) → RX → Prop
def roN : RO := fun ρ k _ => k none ρ
def roE (p : RE) : RO := fun ρ k x => p ρ (kV fun _ d ρ' => match d with
  | .int i => k (some i) ρ'
  | _ => False) x
def cutD (xs : List D) (lo hi : Option Int) : List D := (xs.drop (HT.sIx xs.length 0 lo)).take (HT.sIx xs.length xs.length hi - HT.sIx xs.length 0 lo)
abbrev OSl := Bool → D → Option Int → Option Int → (SV → Prop) → Prop
def oSl : OSl := fun m d lo hi k => match d with
  | .lst xs => k (.ol m (cutD xs lo hi))
  | .tup xs => ¬ (HT.sIx xs.length 0 lo = 0 ∧ HT.sIx xs.length xs.length hi = xs.length) ∧ k (.fr m (.tup (cutD xs lo hi)))
  | .str z => z.length ≤ line ∧ k (.fr true (.str (L2.cutS z lo hi)))
  | _ => False
def rSl (p : RE) (lo hi : RO) : RE := fun ρ k x => p ρ (fun s ρ1 => lo ρ1 (fun l ρ2 => hi ρ2 (fun h ρ3 => match s.view ρ3 with
  | some (m, d) => oSl m d l h fun r => k r ρ3
  | none => False) x) x) x
/-! ### a < b < c -/
def rChain (o o' : Op2) (pa pb pc : RE) : RE := fun ρ k x => pa ρ (fun s1 ρ1 => pb ρ1 (fun s2 ρ2 => kV2 (fun m1 d1 m2 d2 => o m1 d1 m2 d2 fun r => kB (fun b ρ3 => ifB b (pc ρ3 (fun s3 ρ4 => kV2 (fun m1 d1 m2 d2 => o' m1 d1 m2 d2 fun r => k r ρ4) s2 s3 ρ4) x) (k (.fr true (.bl false)) ρ3)) r ρ2) s1 s2 ρ2) x) x
/-! ### in -/
def oIn (neg : Bool) : Op2 := fun _ d1 _ d2 k => match d1, d2 with
  | .str i, .str j => k (.fr true (.bl (xor neg (!(Builtin.Str.occurrences j i 0 j.length 1).isEmpty))))
  | d, .lst xs => (d.flatd = true ∧ d.dep ≤ 64 ∧ (D.lst xs).flatd = true ∧ (D.lst xs).dep ≤ 64) ∧ k (.fr true (.bl (xor neg (xs.any fun z => D.eqv z d))))
  | d, .dk kvs => ∃ ky, d.key = some ky ∧ k (.fr true (.bl (xor neg (dget kvs ky).isSome)))
  | d, .dt kvs => ∃ ky, d.keyT = some ky ∧ k (.fr true (.bl (xor neg (dgetT kvs ky).isSome)))
  | _, _ => False
/-! ### methods of an own list in slot i -/
abbrev MOp := Bool → List D → Bool → List D → (SV → Bool → List D → Prop) → Prop
def rMS (i : Nat) (o : MOp) (ps : RA) : RE := fun ρ k x => ps ρ (kTs fun m' ds ρ' => match ρ'[i]? with
  | some (.ol m xs) => o m xs m' ds fun r m2 xs2 => k r (ρ'.set i (.ol m2 xs2))
  | _ => False) x
/-- the slot holds an own list when the name is read -/
def rMS2 (i : Nat) (o : MOp) (ps : RA) : RE := fun ρ k x => match ρ[i]? with
  | some (.ol _ _) => rMS i o ps ρ k x
  | _ => False
def moAppend : MOp := fun m xs m' ds k => match ds with
  | [d] => xs.length < line ∧ k (.fr true .non) (m && m') (xs ++ [d])
  | _ => False
def moExtend : MOp := fun m xs m' ds k => match ds with
  | [.lst zs] => xs.length + zs.length ≤ line ∧ k (.fr true .non) (m && m') (xs ++ zs)
  | _ => False
def moPop : MOp := fun m xs _ ds k => match ds with
  | [.int z] => (-(2 ^ 63) ≤ z ∧ z < 2 ^ 63) ∧ ∃ j y, seqIndex? z xs.length = some j ∧ xs[j]? = some y ∧ k (.fr m y) m (xs.eraseIdx j)
  | _ => False
def moPop0 : MOp := fun m xs _ ds k => match ds with
  | [] => ∃ y, xs[xs.length - 1]? = some y ∧ k (.fr m y) m xs.dropLast
  | _ => False
def moClear : MOp := fun m xs _ ds k => match ds with
  | [] => k (.fr true .non) true []
  | _ => False
/-- slot[e] = v -/
def isOwn : SV → Bool
  | .ol _ _ | .od _ _ | .so _ _ => true
  | _ => false
def putIx (i : Nat) (mv : Bool) (dv di : D) (ρ : PSt) (k : PSt → Prop) : Prop := match ρ[i]? with
  | some (.ol m xs) => (match di with
    | .int z => ∃ j, L2.ixN xs.length z = some j ∧ k (ρ.set i (.ol (m && mv) (xs.set j dv)))
    | _ => False)
  | some (.od m kvs) => ∃ ky, di.key = some ky ∧ kvs.length < line ∧ k (ρ.set i (.od (m && mv) (dput kvs ky dv)))
  | some (.so a kvs) => dv.safe = true ∧ ∃ ky, di.key = some ky ∧ kvs.length < line ∧ k (ρ.set i (.so a (dput kvs ky dv)))
  | _ => False
def rSetIx (i : Nat) (pi pv : RE) : RS := fun D ρ => pv ρ (kT fun mv dv ρ1 => match ρ1[i]? with
  | some sv => isOwn sv = true ∧ pi ρ1 (kV fun _ di ρ2 => putIx i mv dv di ρ2 D.nx) D.ex
  | none => False) D.ex
/-! ### dict displays -/
abbrev RP := PSt → (Bool → List (Ky × D) → PSt → Prop) → RX → Prop
def rpNil : RP := fun ρ k _ => k true [] ρ
def rpCons (pk pv : RE) (r : RP) : RP := fun ρ k x => pk ρ (kV fun _ dk ρ1 => pv ρ1 (kT fun m d ρ2 => r ρ2 (fun m' kvs ρ3 => ∃ ky, dk.key = some ky ∧ k (m && m') ((ky, d) :: kvs) ρ3) x) x) x
def mergeD (kvs more : List (Ky × D)) : List (Ky × D) := more.foldl (fun acc kv => dput acc kv.1 kv.2) kvs
def rDict (p : RP) : RE := fun ρ k x => p ρ (fun m kvs ρ' => kvs.length ≤ 15 ∧ k (.od m (mergeD [] kvs)) ρ') x
def rDict0 : RE := fun ρ k _ => k (.od true []) ρ
/-- {} whose keys will be tuples -/
def rDict0T : RE := fun ρ k _ => k (.oe true []) ρ
def isOe : SV → Bool
  | .oe _ _ => true
  | _ => false
def putT (i : Nat) (mv : Bool) (dv : D) (ds : List D) (ρ : PSt) (k : PSt → Prop) : Prop := match ρ[i]? with
  | some (.oe m kvs) => ds.length ≤ line ∧ ∃ ky, keysD ds = some ky ∧ kvs.length < line ∧ k (ρ.set i (.oe (m && mv) (dputT kvs ky dv)))
  | _ => False
/-- slot[a, b] = v -/
def rSetIxT (i : Nat) (pi : RA) (pv : RE) : RS := fun D ρ => pv ρ (kT fun mv dv ρ1 => match ρ1[i]? with
  | some sv => isOe sv = true ∧ pi ρ1 (kTs fun _ ds ρ2 => putT i mv dv ds ρ2 D.nx) D.ex
  | none => False) D.ex
/-- a text's method: the text, one argument -/
abbrev SOp := Str → Bool → D → (SV → Prop) → Prop
def rS1 (o : SOp) (pa pb : RE) : RE := fun ρ k x => pa ρ (fun s1 ρ1 => match s1 with
  | .fr _ (.str a) => pb ρ1 (fun s2 ρ2 => match s2.view ρ2 with
    | some (m, d) => o a m d fun r => k r ρ2
    | none => False) x
  | _ => False) x
def rS0 (o : Str → (SV → Prop) → Prop) (pa : RE) : RE := fun ρ k x => pa ρ (fun s1 ρ1 => match s1 with
  | .fr _ (.str a) => o a fun r => k r ρ1
  | _ => False) x
def oJoin : SOp := fun a _ d k => match d with
  | .lst xs => ∃ ys : List Str, xs = ys.map D.str ∧ (ys.map (·.length)).sum + ys.length * a.length ≤ 16777216 ∧ k (.fr true (.str (Txt.join a ys)))
  | .tup xs => ∃ ys : List Str, xs = ys.map D.str ∧ (ys.map (·.length)).sum + ys.length * a.length ≤ 16777216 ∧ k (.fr true (.str (Txt.join a ys)))
  | _ => False
def oStarts : SOp := fun a _ d k => match d with
  | .str b => k (.fr true (.bl (Txt.startswith a b)))
  | _ => False
def oEnds : SOp := fun a _ d k => match d with
  | .str b => k (.fr true (.bl (Txt.endswith a b)))
  | _ => False
def oFind : SOp := fun a _ d k => match d with
  | .str b => k (.fr true (.int (Txt.find a b)))
  | _ => False
def oCount : SOp := fun a _ d k => match d with
  | .str b => k (.fr true (.int (Txt.count a b)))
  | _ => False
def oUpper : Str → (SV → Prop) → Prop := fun a k => a.length ≤ 5592405 ∧ k (.fr true (.str (Txt.upper a)))
/-- list * int -/
def oRep : Op2 := fun m1 d1 _ d2 k => match d1, d2 with
  | .lst xs, .int n => (-(2 ^ 63) ≤ n ∧ n < 2 ^ 63 ∧ xs.length * n.toNat ≤ line) ∧ k (.ol m1 (List.replicate n.toNat xs).flatten)
  | .int i, .int j => ((-(2 ^ 64) < i ∧ i < 2 ^ 64) ∨ (-(2 ^ 64) < j ∧ j < 2 ^ 64)) ∧ k (.fr true (.int (i * j)))
  | _, _ => False
end Q
namespace Q
open PySem
def kyD : Ky → D
  | .inl i => .int i
  | .inr x => .str x
/-- over the keys of a dict -/
def riK (p : RE) : RI := fun ρ k x => p ρ (kT fun _ d ρ' => match d with
  | .dk kvs => k true (kvs.map fun kv => kyD kv.1) ρ'
  | _ => False) x
/-- over the signs of a text -/
def riS (p : RE) : RI := fun ρ k x => p ρ (fun s ρ' => match s with
  | .fr _ (.str x) => k true (x.cps.toList.map fun c => .str ⟨#[c]⟩) ρ'
  | _ => False) x
end Q
namespace Q
open PySem
/-! ### calls with keywords -/
def permL {α : Type} (pm : List Nat) (xs : List α) : List α := pm.filterMap fun i => xs[i]?
def rCallK (ms : List Mode) (qs : QSpec) (np : Nat) (pm : List Nat) (pa pk : RA) : RE := fun ρ k x => pa ρ (fun svs ρ1 => pk ρ1 (fun kvs ρ2 => (svs.length = np ∧ (svs ++ kvs).length = pm.length) ∧ match passAll ms (permL pm (svs ++ kvs)) ρ2 with
  | some (m, ds, ρ3) => qs ds (fun r => k (r.dem m) ρ3) (fun e => x e ρ3)
  | none => False) x) x
end Q
namespace Q
open PySem
/-! ### raise -/
/-- a text or an int that fits into a message -/
def D.fits : D → Prop
  | .str s => s.length ≤ 1000000
  | .int i => i.natAbs.log2 < 1920
  | _ => False
def rRaise1 (C : EC) (f1 : Str) (ok : D → Prop) (p : RE) : RS := fun D ρ => p ρ (kT fun _ d ρ' => ok d ∧ D.ex ⟨C, [(f1, d)]⟩ ρ') D.ex
end Q

namespace Q
open PySem
/-! ### the store is opened, closed, made -/
def rOpen (i : Nat) (p : RS) : RS := fun D ρ => match ρ[i]? with
  | some (.sto a) => ∀ kvs, isSto kvs → p D (ρ.set i (.so a kvs))
  | _ => False
def rClose (i : Nat) (p : RS) : RS := fun D ρ => match ρ[i]? with
  | some (.so a kvs) => isSto kvs ∧ p D (ρ.set i (.sto a))
  | _ => False
def rRetSto (p : RE) : RS := fun D ρ => p ρ (fun sv ρ' => match sv with
  | .od m kvs => m = true ∧ isSto kvs ∧ ∀ a, D.rt (.sto a) ρ'
  | _ => False) D.ex
end Q

namespace Q
open PySem
/-! ### try, except; what is asked of the error in the suite -/
def rTryAs (cx : EC) (i : Nat) (pb : RS) (psu : Addr → Exn → RS) : RS := fun D ρ =>
  pb { D with ex := fun e ρ' => ifB (e.cls.sub cx) (∀ a, psu a e { nx := fun r => D.nx (r.set i .no), rt := D.rt, bk := fun r => D.bk (r.set i .no), ct := fun r => D.ct (r.set i .no), ex := noX } (ρ'.set i (.fr true (.ref a)))) (D.ex e ρ') } ρ
def rIsE (a : Addr) (x : Exn) (cx : EC) (i : Nat) : RE := fun ρ k _ => match ρ[i]? with
  | some (.fr _ (.ref b)) => b = a ∧ k (.fr true (.bl (x.cls.sub cx))) ρ
  | _ => False
def rIsEs (a : Addr) (x : Exn) (cs : List EC) (i : Nat) : RE := fun ρ k _ => match ρ[i]? with
  | some (.fr _ (.ref b)) => b = a ∧ k (.fr true (.bl (cs.any x.cls.sub))) ρ
  | _ => False
def rXf (a : Addr) (x : Exn) (n : Str) (i : Nat) : RE := fun ρ k _ => match ρ[i]? with
  | some (.fr _ (.ref b)) => b = a ∧ ∃ d, x.fs.lookup n = some d ∧ k (.fr d.safe d) ρ
  | _ => False
/-! ### own things lent for a while -/
def SV.clean : SV → Bool
  | .fr m d => m || d.safe
  | .ol m _ => m
  | .od m _ => m
  | .oe m _ => m
  | .oo m _ _ => m
  | .ot _ _ => true
  | _ => false
def SV.lent : SV → SV
  | .fr m d => .fr m d
  | .ol _ xs => .fr false (.lst xs)
  | .od _ kvs => .fr false (.dk kvs)
  | .oe _ kvs => .fr false (.dt kvs)
  | .oo _ C fs => .fr false (.obj C fs)
  | .ot _ d => .fr false d
  | .sto a => .sto a
  | _ => .no
def rLend (p : RE) : RE := fun ρ k _ => p (ρ.map SV.lent) (fun r ρ' => (ρ' = ρ.map SV.lent ∧ r.clean = true) ∧ k r ρ) noX
/-! ### a lambda handed to a def -/
abbrev AskP := (SV → Prop) → (Exn → Prop) → Prop
/-- ask(), the slot i holds what is asked -/
def rAct (f : Addr) (ask : AskP) (i : Nat) : RE := fun ρ k x => match ρ[i]? with
  | some (.fr _ (.ref b)) => b = f ∧ ask (fun r => k r ρ) (fun e => x e ρ)
  | _ => False
/-- what a lambda sees of its maker's slots -/
def SV.seen : SV → SV
  | .fr m d => .fr m d
  | _ => .no
def rAskCall (qs : AskP → AskP) (p : RE) : RE := fun ρ k x => qs (fun R F => p (ρ.map SV.seen) (fun sv ρ' => sv.isBor = false ∧ R sv) (fun e _ => F e)) (fun r => k r ρ) (fun e => x e ρ)
end Q

namespace Q
open PySem PySem.Spec PyProof.Rows L2
/-! ### one argument -/
def Op1Rd (X : Cx) (g : Gh) (r : List V → Hp → VK → Prop) (o : Op1) : Prop := ∀ (σ : L2.St) (τ : List SV) (vs : List V) (ρ : PSt) (H : Hp) (x : V) (m : Bool) (d : D) (k : SV → Prop) (Q : VK), SR X.K g ρ σ τ vs H → ViewR X.K g H m d x → o m d k →
  (∀ sv z H', SR X.K g ρ σ (sv :: τ) (z :: vs) H' → k sv → Q z H') → r [x] H Q
theorem rB1_ok {o : Op1} {s : SV} {ρ1 : PSt} {k : RK} (h : (match s.view ρ1 with
  | some (m, d) => o m d fun r => k r ρ1
  | none => False)) : ∃ m d, s.view ρ1 = some (m, d) ∧ o m d fun r => k r ρ1 := by
  cases e : s.view ρ1 with
  | none => rw [e] at h; exact h.elim
  | some md => rw [e] at h; exact ⟨md.1, md.2, rfl, h⟩
section
variable {X : Cx} {g : Gh} {a b e : Expr} {es : List Expr} {pa pb p : RE} {ps : RA} {r : List V → Hp → VK → Prop} {o : Op1} {pos pf : Pos} {x : Str} {id : String}
theorem b1_rd (hr : Op1Rd X g r o) {Ξ : RX} {τ : List SV} {vs : List V} {ρ : PSt} {Φ : RK} {σ : L2.St} {H : Hp} (S : SR X.K g ρ σ τ vs H) (hw : rB1 o p ρ Φ Ξ) :
    tCB r (tCons (tqe X g p Ξ) tNil) σ H fun v H' => ∃ sv ρ', SR X.K g ρ' σ (sv :: τ) (v :: vs) H' ∧ Φ sv ρ' := by
  refine ⟨τ, vs, ρ, _, S, hw, fun s1 ρ1 x H1 S1 h1 => ?_⟩
  obtain ⟨m, d, e1, q⟩ := rB1_ok h1
  exact hr σ τ vs ρ1 H1 x m d _ _ S1.pop (view_ok S1 S1.top e1) q fun sv z H' S' k => ⟨sv, ρ1, S', k⟩
theorem q_b1 (hc : CallR X (.builtin id) r) (hr : Op1Rd X g r o) (hg : Gl X x) (hm : X.mg x = none) (hv : bootBuiltins x = some (.builtin id)) (ha : QE X g e p) (hn : x ≠ "__name__" := by decide) (hdb : (x == ("__debug__" : Str)) = false := by decide)
    (he : starEach [e] X.env = (false, eval e X.env) :: starEach [] X.env := by rfl) (hpl : (backTo pos (starEach [] X.env)).any (·.1) = false := by rfl) : QE X g (.Call (.Name x pf) [e] [] pos) (rB1 o p) :=
  QE.of (fun Ξ tk => pe_callB hc hg hm hv (pa_cons (ha.pe tk) pa_nil he) hn hdb he hpl) fun τ vs ρ Φ Ξ σ H S hw => b1_rd hr S hw
theorem q_t1 (hc : CallR X (.type id) r) (hr : Op1Rd X g r o) (hg : Gl X x) (hm : X.mg x = none) (hv : bootBuiltins x = some (.type id)) (ha : QE X g e p) (hn : x ≠ "__name__" := by decide) (hdb : (x == ("__debug__" : Str)) = false := by decide)
    (he : starEach [e] X.env = (false, eval e X.env) :: starEach [] X.env := by rfl) (hpl : (backTo pos (starEach [] X.env)).any (·.1) = false := by rfl) : QE X g (.Call (.Name x pf) [e] [] pos) (rB1 o p) :=
  QE.of (fun Ξ tk => pe_callTy hc hg hm hv (pa_cons (ha.pe tk) pa_nil he) hn hdb he hpl) fun τ vs ρ Φ Ξ σ H S hw => b1_rd hr S hw
theorem b2_rd {r : List V → Hp → VK → Prop} {o : Op2} (hr : OpRd X g (fun x y => r [x, y]) o) {Ξ : RX} {τ : List SV} {vs : List V} {ρ : PSt} {Φ : RK} {σ : L2.St} {H : Hp} (S : SR X.K g ρ σ τ vs H) (hw : rOp2 o pa pb ρ Φ Ξ) :
    tCB r (tCons (tqe X g pa Ξ) (tCons (tqe X g pb Ξ) tNil)) σ H fun v H' => ∃ sv ρ', SR X.K g ρ' σ (sv :: τ) (v :: vs) H' ∧ Φ sv ρ' :=
  op2_rd (r := fun x y => r [x, y]) hr S hw
theorem q_b2 {o : Op2} (hc : CallR X (.builtin id) r) (hr : OpRd X g (fun x y => r [x, y]) o) (hg : Gl X x) (hm : X.mg x = none) (hv : bootBuiltins x = some (.builtin id)) (ha : QE X g a pa) (hb : QE X g b pb) (hn : x ≠ "__name__" := by decide) (hdb : (x == ("__debug__" : Str)) = false := by decide)
    (he : starEach [a, b] X.env = (false, eval a X.env) :: starEach [b] X.env := by rfl) (he2 : starEach [b] X.env = (false, eval b X.env) :: starEach [] X.env := by rfl) (hpl : (backTo pos (starEach [b] X.env)).any (·.1) = false := by rfl) : QE X g (.Call (.Name x pf) [a, b] [] pos) (rOp2 o pa pb) :=
  QE.of (fun Ξ tk => pe_callB hc hg hm hv (pa_cons (ha.pe tk) (pa_cons (hb.pe tk) pa_nil he2) he) hn hdb he hpl) fun τ vs ρ Φ Ξ σ H S hw => b2_rd hr S hw
/-! ### isinstance -/
theorem isa_kit {d : D} {t : String} (T : Ty) (h : d.tyn = some t) : kitB t T.nm = some (d.isa T) := by
  cases d <;> first
    | (cases h; cases T <;> (first | rfl | decide +kernel))
    | cases h
theorem plain_ty {K : PySem.W.Frag} {H : Hp} {m : Bool} {d : D} {v : V} (r : ViewR K g H m d v) (h : d.plain = true) : ∃ t, d.tyn = some t ∧ TyX K H v (.type t) := by
  cases d with
  | non => cases (show v = V.non from r); exact ⟨_, rfl, .base .non⟩
  | bl b => cases (show v = V.bl b from r); exact ⟨_, rfl, .base (.bl b)⟩
  | int b => cases (show v = V.int b from r); exact ⟨_, rfl, .base (.int b)⟩
  | str b => cases (show v = V.str b from r); exact ⟨_, rfl, .base (.str b)⟩
  | lst xs =>
    obtain ⟨a, vs, rfl, c, _⟩ := r
    rcases c with c | ⟨o, c⟩
    · exact ⟨_, rfl, .base (.lst c)⟩
    · exact ⟨_, rfl, .base (.frz c)⟩
  | tup xs =>
    obtain ⟨a, vs, rfl, c, _⟩ := r
    rcases c with (c | ⟨o, c⟩) | ⟨o, its, n, c1, c2, _⟩
    · exact ⟨_, rfl, .base (.tup c)⟩
    · exact ⟨_, rfl, .fTuple c⟩
    · exact ⟨_, rfl, .kTuple c1 c2⟩
  | dk xs =>
    obtain ⟨a, vs, rfl, c, _⟩ := r
    rcases c with c | ⟨o, c⟩
    · exact ⟨_, rfl, .base (.dK c)⟩
    · exact ⟨_, rfl, .fDict c⟩
  | dt _ => cases h
  | scr _ => cases h
  | obj _ _ => cases h
  | ref _ => cases h
  | ty _ => cases h
theorem isas_kit {K : PySem.W.Frag} {d : D} {t : String} (h : d.tyn = some t) : ∀ Ts : List Ty, PySem.W.kitAny K (.type t) (Ts.map fun T => Value.type T.nm) = some (Ts.any d.isa)
  | [] => rfl
  | T :: Ts => by
    rw [List.map_cons, List.any_cons]
    refine kitAny_cons (kit_ty (isa_kit T h)) (fun hb => ?_) fun hb => by rw [hb]; rfl
    rw [hb, Bool.false_or]
    exact isas_kit h Ts
theorem tyname {T : Ty} (hg : Gl X (T.nm : Str)) (hm : X.mg (T.nm : Str) = none) {pos : Pos} : PE X (.Name (T.nm : Str) pos) (tC (.ty T.nm)) := by
  cases T <;> exact pe_bltn hg hm (by rfl) rfl
theorem q_isa (T : Ty) {p1 p2 p3 : Pos} (hgi : Gl X "isinstance") (hmi : X.mg "isinstance" = none) (hg : Gl X (T.nm : Str)) (hm : X.mg (T.nm : Str) = none) (ha : QE X g e p)
    (he : starEach [e, .Name (T.nm : Str) p2] X.env = (false, eval e X.env) :: starEach [.Name (T.nm : Str) p2] X.env := by rfl) (he2 : starEach [.Name (T.nm : Str) p2] X.env = (false, eval (.Name (T.nm : Str) p2) X.env) :: starEach [] X.env := by rfl)
    (hpl : (backTo p3 (starEach [.Name (T.nm : Str) p2] X.env)).any (·.1) = false := by rfl) : QE X g (.Call (.Name "isinstance" p1) [e, .Name (T.nm : Str) p2] [] p3) (rB1 (oIsa T) p) := by
  refine QE.of (fun Ξ tk => pe_callB call_isi hgi hmi (by rfl) (pa_cons (ha.pe tk) (pa_cons (tyname hg hm) pa_nil he2) he) (by decide) (by decide) he hpl) fun τ vs ρ Φ Ξ σ H S hw => ?_
  refine ⟨τ, vs, ρ, _, S, hw, fun s1 ρ1 x H1 S1 h1 => ?_⟩
  obtain ⟨m, d, e1, hp, q⟩ := rB1_ok h1
  obtain ⟨t, ht, ty⟩ := plain_ty (view_ok S1 S1.top e1) hp
  exact ⟨x, .ty T.nm, _, _, _, rfl, .ty _, ty, kit_ty (isa_kit T ht), .fr true (.bl (d.isa T)), ρ1, S1.pop.pushF rfl, q⟩
def tCs (cs : List V) : TA := fun _ H Q => Q cs H
theorem pac_nil : PA X [] (tCs []) := pa_nil
theorem pac_cons {v : V} {cs : List V} (h : PE X e (tC v)) (hr : PA X es (tCs cs)) (he : starEach (e :: es) X.env = (false, eval e X.env) :: starEach es X.env := by rfl) : PA X (e :: es) (tCs (v :: cs)) := pa_cons h hr he
theorem q_isas (Ts : List Ty) {p1 p2 p3 : Pos} {k : Nat} (hgi : Gl X "isinstance") (hmi : X.mg "isinstance" = none) (hT : PA X es (tCs (Ts.map fun T => V.ty T.nm))) (hl : Ts.length ≤ 100) (ha : QE X g e p)
    (he : starEach [e, .Tuple es k p2] X.env = (false, eval e X.env) :: starEach [.Tuple es k p2] X.env := by rfl) (he2 : starEach [.Tuple es k p2] X.env = (false, eval (.Tuple es k p2) X.env) :: starEach [] X.env := by rfl)
    (hpl : (backTo p3 (starEach [.Tuple es k p2] X.env)).any (·.1) = false := by rfl) : QE X g (.Call (.Name "isinstance" p1) [e, .Tuple es k p2] [] p3) (rB1 (oIsas Ts) p) := by
  refine QE.of (fun Ξ tk => pe_callB call_isiT hgi hmi (by rfl) (pa_cons (ha.pe tk) (pa_cons (pe_tup hT) pa_nil he2) he) (by decide) (by decide) he hpl) fun τ vs ρ Φ Ξ σ H S hw => ?_
  refine ⟨τ, vs, ρ, _, S, hw, fun s1 ρ1 x H1 S1 h1 => ?_⟩
  obtain ⟨m, d, e1, hp, q⟩ := rB1_ok h1
  refine ⟨by rw [line_eq, List.length_map]; exact Nat.le_trans hl (by decide), fun tp htp => ?_⟩
  have S2 := S1.new (o := .tup (Ts.map fun T => V.ty T.nm)) htp
  obtain ⟨t, ht, ty⟩ := plain_ty (view_ok S2 S2.top e1) hp
  have pr : ∀ Ts : List Ty, Paired ClsV (Ts.map fun T => V.ty T.nm) (Ts.map fun T => Value.type T.nm) := fun Ts => by
    induction Ts with
    | nil => exact .nil
    | cons T Ts ih => exact .cons (.ty _) ih
  exact ⟨x, tp, _, _, _, _, rfl, upd_same, pr Ts, ty, isas_kit ht Ts, .fr true (.bl (Ts.any d.isa)), ρ1, S2.pop.pushF rfl, q⟩
/-! ### len, list, tuple, int, str, all, any, sum, min, max -/
abbrev rLenQ (K : PySem.W.Frag) : List V → Hp → VK → Prop := fun xs H Q => (∃ x n, xs = [x] ∧ LenV K x H n ∧ Q (.int n) H) ∨ ∃ a kvs, xs = [V.ref a] ∧ Rd H a (.dK kvs) ∧ Q (.int kvs.length) H
theorem call_lenR : CallR X (.builtin "len") (fun xs H Q => ∃ a kvs, xs = [V.ref a] ∧ Rd H a (.dK kvs) ∧ Q (.int kvs.length) H) := by
  intro pins s σ H xs us Q I r h
  obtain ⟨a, kvs, rfl, c, q⟩ := h
  obtain ⟨u, rfl, rx⟩ := vals1 r
  cases rx
  exact d_len I c fun t s' I' => ⟨.int kvs.length, H, I', ⟨_, rfl⟩, q⟩
theorem call_lenQ : CallR X (.builtin "len") (rLenQ X.K) := call_len.or call_lenR
theorem repk_len {K : PySem.W.Frag} {G : Addr → Prop} {H : Hp} : ∀ {ds : List (Ky × D)} {vs : List (Ky × V)}, Repk K G H ds vs → ds.length = vs.length
  | [], _, h => by cases h; rfl
  | _ :: r, _, ⟨v, vs', e, _, b⟩ => by rw [e, List.length_cons, List.length_cons, repk_len b]
theorem rd_len : Op1Rd X g (rLenQ X.K) oLen := by
  intro σ τ vs ρ H x m d k Q S v h kk
  unfold oLen at h
  split at h
  · obtain ⟨a, ws, rfl, c, r⟩ := v
    refine .inl ⟨_, ws.length, rfl, .inl ⟨ws, .inl c, rfl⟩, kk _ _ _ (S.pushF (m := true) (d := .int _) ?_) h⟩
    rw [← reps_len r]; rfl
  · obtain ⟨a, ws, rfl, c, r⟩ := v
    refine .inl ⟨_, ws.length, rfl, .inr ⟨ws, c, rfl⟩, kk _ _ _ (S.pushF (m := true) (d := .int _) ?_) h⟩
    rw [← reps_len r]; rfl
  · cases view_str v
    rename_i y
    exact .inl ⟨_, y.length, rfl, ⟨by rw [line_eq]; exact h.1, rfl⟩, kk _ _ _ (S.pushF (m := true) (d := .int _) rfl) h.2⟩
  · obtain ⟨a, ws, rfl, c, r⟩ := v
    refine .inr ⟨a, ws, rfl, c, kk _ _ _ (S.pushF (m := true) (d := .int _) ?_) h⟩
    rw [← repk_len r]; rfl
  · exact h.elim
theorem q_len (hg : Gl X "len") (hm : X.mg "len" = none) (ha : QE X g e p) (he : starEach [e] X.env = (false, eval e X.env) :: starEach [] X.env := by rfl) (hpl : (backTo pos (starEach [] X.env)).any (·.1) = false := by rfl) : QE X g (.Call (.Name "len" pf) [e] [] pos) (rB1 oLen p) :=
  q_b1 call_lenQ rd_len hg hm (by rfl) ha (by decide) (by decide) he hpl
theorem reps_or {K : PySem.W.Frag} {H : Hp} {m : Bool} {xs : List D} {ys : List V} (r : Reps K (g.gm m) H xs ys) : Reps K (g.gm (m || safes xs)) H xs ys := by
  cases hs : safes xs with
  | true => exact reps_safe xs ys hs r
  | false => rw [Bool.or_false]; exact r
theorem reps_nsR {K : PySem.W.Frag} {G : Addr → Prop} {H : Hp} : ∀ {ns : List Int}, Reps K G H (ns.map .int) (ns.map .int)
  | [] => rfl
  | _ :: _ => ⟨_, _, rfl, rfl, reps_nsR⟩
theorem rd_list : Op1Rd X g (fun xs H Q => ∃ p ys, xs = [.ref p] ∧ (SqL X.K H p ys ∨ SqT X.K H p ys) ∧ ∀ l, H l = none → Q (.ref l) (upd H l (.lst ys))) oList := by
  intro σ τ vs ρ H x m d k Q S v h kk
  unfold oList at h
  split at h
  · obtain ⟨a, ws, rfl, c, r⟩ := v
    exact ⟨a, ws, rfl, .inl (.inl c), fun l hl => kk _ _ _ (S.newList hl (reps_or r)) h⟩
  · obtain ⟨a, ws, rfl, c, r⟩ := v
    exact ⟨a, ws, rfl, .inr c, fun l hl => kk _ _ _ (S.newList hl (reps_or r)) h⟩
  · obtain ⟨a, rfl, f⟩ := v
    exact ⟨a, _, rfl, .inl (scr_sq f), fun l hl => kk _ _ _ (S.newList hl reps_nsR) h⟩
  · exact h.elim
theorem q_list (hg : Gl X "list") (hm : X.mg "list" = none) (ha : QE X g e p) (he : starEach [e] X.env = (false, eval e X.env) :: starEach [] X.env := by rfl) (hpl : (backTo pos (starEach [] X.env)).any (·.1) = false := by rfl) : QE X g (.Call (.Name "list" pf) [e] [] pos) (rB1 oList p) :=
  q_t1 call_list_of rd_list hg hm (by rfl) ha (by decide) (by decide) he hpl
theorem rd_tuple : Op1Rd X g (fun xs H Q => ∃ p ys, xs = [.ref p] ∧ ((SqL X.K H p ys ∧ ∀ l, H l = none → Q (.ref l) (upd H l (.tup ys))) ∨ (SqT X.K H p ys ∧ Q (.ref p) H))) oTuple := by
  intro σ τ vs ρ H x m d k Q S v h kk
  unfold oTuple at h
  split at h
  · obtain ⟨a, ws, rfl, c, r⟩ := v
    exact ⟨a, ws, rfl, .inl ⟨.inl c, fun l hl => kk _ _ _ (S.newTup hl r) h⟩⟩
  · obtain ⟨a, ws, rfl, c, r⟩ := v
    exact ⟨a, ws, rfl, .inr ⟨c, kk _ _ _ (S.pushF (m := m) (d := .tup _) ⟨a, ws, rfl, c, r⟩) h⟩⟩
  · exact h.elim
theorem q_tuple (hg : Gl X "tuple") (hm : X.mg "tuple" = none) (ha : QE X g e p) (he : starEach [e] X.env = (false, eval e X.env) :: starEach [] X.env := by rfl) (hpl : (backTo pos (starEach [] X.env)).any (·.1) = false := by rfl) : QE X g (.Call (.Name "tuple" pf) [e] [] pos) (rB1 oTuple p) :=
  q_t1 call_tuple_of rd_tuple hg hm (by rfl) ha (by decide) (by decide) he hpl
theorem rd_int1 : Op1Rd X g (fun xs H Q => ((∃ i, xs = [.int i] ∧ Q (.int i) H) ∨ ∃ k, xs = [.bl k] ∧ Q (.int (if k then 1 else 0)) H) ∨ ∃ a n, xs = [.str a] ∧ PySem.intText? a = some n ∧ a.length ≤ 640 ∧ Q (.int n) H) oInt1 := by
  intro σ τ vs ρ H x m d k Q S v h kk
  unfold oInt1 at h
  split at h
  · cases view_int v
    exact .inl (.inl ⟨_, rfl, kk _ _ _ (S.pushF (m := true) (d := .int _) rfl) h⟩)
  · rename_i b
    cases (show x = V.bl b from v)
    exact .inl (.inr ⟨_, rfl, kk _ _ _ (S.pushF (m := true) (d := .int _) rfl) h⟩)
  · cases view_str v
    obtain ⟨n, h1, h2, q⟩ := h
    exact .inr ⟨_, n, rfl, h1, h2, kk _ _ _ (S.pushF (m := true) (d := .int _) rfl) q⟩
  · exact h.elim
theorem q_int1 (hg : Gl X "int") (hm : X.mg "int" = none) (ha : QE X g e p) (he : starEach [e] X.env = (false, eval e X.env) :: starEach [] X.env := by rfl) (hpl : (backTo pos (starEach [] X.env)).any (·.1) = false := by rfl) : QE X g (.Call (.Name "int" pf) [e] [] pos) (rB1 oInt1 p) :=
  q_t1 (call_int1.or call_int_str) rd_int1 hg hm (by rfl) ha (by decide) (by decide) he hpl
theorem rd_str1 : Op1Rd X g (fun xs H Q => ∃ i, xs = [.int i] ∧ i.natAbs.log2 < 1920 ∧ Q (.str (toString i)) H) oStr1 := by
  intro σ τ vs ρ H x m d k Q S v h kk
  unfold oStr1 at h
  split at h
  · cases view_int v
    exact ⟨_, rfl, h.1, kk _ _ _ (S.pushF (m := true) (d := .str _) rfl) h.2⟩
  · exact h.elim
theorem q_str1 (hg : Gl X "str") (hm : X.mg "str" = none) (ha : QE X g e p) (he : starEach [e] X.env = (false, eval e X.env) :: starEach [] X.env := by rfl) (hpl : (backTo pos (starEach [] X.env)).any (·.1) = false := by rfl) : QE X g (.Call (.Name "str" pf) [e] [] pos) (rB1 oStr1 p) :=
  q_t1 call_str_int rd_str1 hg hm (by rfl) ha (by decide) (by decide) he hpl
theorem reps_bls {K : PySem.W.Frag} {G : Addr → Prop} {H : Hp} : ∀ {bs : List Bool} {ws : List V}, Reps K G H (bs.map D.bl) ws → ws = bs.map V.bl
  | [], _, h => h
  | b :: bs, _, ⟨v, vs', e, r1, r2⟩ => by
    subst e
    rw [List.map_cons, ← reps_bls r2, show v = V.bl b from r1]
theorem reps_ints {K : PySem.W.Frag} {G : Addr → Prop} {H : Hp} : ∀ {ns : List Int} {ws : List V}, Reps K G H (ns.map D.int) ws → ws = ns.map V.int
  | [], _, h => h
  | b :: bs, _, ⟨v, vs', e, r1, r2⟩ => by
    subst e
    rw [List.map_cons, ← reps_ints r2, show v = V.int b from r1]
theorem reps_strs {K : PySem.W.Frag} {G : Addr → Prop} {H : Hp} : ∀ {ns : List Str} {ws : List V}, Reps K G H (ns.map D.str) ws → ws = ns.map V.str
  | [], _, h => h
  | b :: bs, _, ⟨v, vs', e, r1, r2⟩ => by
    subst e
    rw [List.map_cons, ← reps_strs r2, show v = V.str b from r1]
theorem rd_all : Op1Rd X g (rAll X.K) oAll := by
  intro σ τ vs ρ H x m d k Q S v h kk
  unfold oAll at h
  split at h
  · obtain ⟨bs, rfl, q⟩ := h
    obtain ⟨a, ws, rfl, c, r⟩ := v
    exact ⟨a, bs, rfl, .inl (by rw [← reps_bls r]; exact c), kk _ _ _ (S.pushF (m := true) (d := .bl _) rfl) q⟩
  · exact h.elim
theorem rd_any : Op1Rd X g (rAny X.K) oAny := by
  intro σ τ vs ρ H x m d k Q S v h kk
  unfold oAny at h
  split at h
  · obtain ⟨bs, rfl, q⟩ := h
    obtain ⟨a, ws, rfl, c, r⟩ := v
    exact ⟨a, bs, rfl, .inl (by rw [← reps_bls r]; exact c), kk _ _ _ (S.pushF (m := true) (d := .bl _) rfl) q⟩
  · exact h.elim
theorem rd_sum : Op1Rd X g (rSum X.K) oSum := by
  intro σ τ vs ρ H x m d k Q S v h kk
  unfold oSum at h
  split at h
  · obtain ⟨bs, rfl, q⟩ := h
    obtain ⟨a, ws, rfl, c, r⟩ := v
    exact ⟨a, bs, rfl, .inl (by rw [← reps_ints r]; exact c), kk _ _ _ (S.pushF (m := true) (d := .int _) rfl) q⟩
  · exact h.elim
theorem q_all (hc : X.calm = true) (hg : Gl X "all") (hm : X.mg "all" = none) (ha : QE X g e p) (he : starEach [e] X.env = (false, eval e X.env) :: starEach [] X.env := by rfl) (hpl : (backTo pos (starEach [] X.env)).any (·.1) = false := by rfl) : QE X g (.Call (.Name "all" pf) [e] [] pos) (rB1 oAll p) :=
  q_b1 (cr_all hc) rd_all hg hm (by rfl) ha (by decide) (by decide) he hpl
theorem q_any (hc : X.calm = true) (hg : Gl X "any") (hm : X.mg "any" = none) (ha : QE X g e p) (he : starEach [e] X.env = (false, eval e X.env) :: starEach [] X.env := by rfl) (hpl : (backTo pos (starEach [] X.env)).any (·.1) = false := by rfl) : QE X g (.Call (.Name "any" pf) [e] [] pos) (rB1 oAny p) :=
  q_b1 (cr_any hc) rd_any hg hm (by rfl) ha (by decide) (by decide) he hpl
theorem q_sum (hc : X.calm = true) (hg : Gl X "sum") (hm : X.mg "sum" = none) (ha : QE X g e p) (he : starEach [e] X.env = (false, eval e X.env) :: starEach [] X.env := by rfl) (hpl : (backTo pos (starEach [] X.env)).any (·.1) = false := by rfl) : QE X g (.Call (.Name "sum" pf) [e] [] pos) (rB1 oSum p) :=
  q_b1 (cr_sum hc) rd_sum hg hm (by rfl) ha (by decide) (by decide) he hpl
theorem rd_abs : Op1Rd X g (fun xs H Q => ∃ i, xs = [.int i] ∧ Q (.int (if i < 0 then -i else i)) H) oAbs := by
  intro σ τ vs ρ H x m d k Q S v h kk
  unfold oAbs at h
  split at h
  · cases view_int v
    exact ⟨_, rfl, kk _ _ _ (S.pushF (m := true) (d := .int _) rfl) h⟩
  · exact h.elim
theorem rd_neg {σ : L2.St} {τ : List SV} {vs : List V} {ρ : PSt} {H : Hp} {x : V} {m : Bool} {d : D} {k : SV → Prop} {Q : VK} (S : SR X.K g ρ σ τ vs H) (v : ViewR X.K g H m d x) (h : oNeg m d k)
    (kk : ∀ sv z H', SR X.K g ρ σ (sv :: τ) (z :: vs) H' → k sv → Q z H') : rU (fun i => .int (-i)) x H Q := by
  unfold oNeg at h
  split at h
  · cases view_int v
    exact ⟨_, rfl, kk _ _ _ (S.pushF (m := true) (d := .int _) rfl) h⟩
  · exact h.elim
theorem q_neg (ha : QE X g e p) : QE X g (.UnaryOp .USub e pos) (rB1 oNeg p) :=
  QE.of (fun Ξ tk => pe_un un_neg (ha.pe tk)) fun τ vs ρ Φ Ξ σ H S hw => ⟨τ, vs, ρ, _, S, hw, fun s1 ρ1 x H1 S1 h1 => by
    obtain ⟨m, d, e1, q⟩ := rB1_ok h1
    exact rd_neg S1.pop (view_ok S1 S1.top e1) q fun sv z H' S' k => ⟨sv, ρ1, S', k⟩⟩
theorem rd_min : OpRd X g (fun x y H Q => ∃ i j, [x, y] = [V.int i, .int j] ∧ Q (.int (if j < i then j else i)) H) oMin := by
  intro σ τ vs ρ H x y m1 m2 d1 d2 k Q S v1 v2 h kk
  unfold oMin at h
  split at h
  · cases view_int v1
    cases view_int v2
    exact ⟨_, _, rfl, kk _ _ _ (S.pushF (m := true) (d := .int _) rfl) h⟩
  · exact h.elim
theorem rd_max : OpRd X g (fun x y H Q => ∃ i j, [x, y] = [V.int i, .int j] ∧ Q (.int (if j > i then j else i)) H) oMax := by
  intro σ τ vs ρ H x y m1 m2 d1 d2 k Q S v1 v2 h kk
  unfold oMax at h
  split at h
  · cases view_int v1
    cases view_int v2
    exact ⟨_, _, rfl, kk _ _ _ (S.pushF (m := true) (d := .int _) rfl) h⟩
  · exact h.elim
theorem q_min (hc : X.calm = true) (hg : Gl X "min") (hm : X.mg "min" = none) (ha : QE X g a pa) (hb : QE X g b pb)
    (he : starEach [a, b] X.env = (false, eval a X.env) :: starEach [b] X.env := by rfl) (he2 : starEach [b] X.env = (false, eval b X.env) :: starEach [] X.env := by rfl) (hpl : (backTo pos (starEach [b] X.env)).any (·.1) = false := by rfl) : QE X g (.Call (.Name "min" pf) [a, b] [] pos) (rOp2 oMin pa pb) :=
  q_b2 (call_min2 hc) rd_min hg hm (by rfl) ha hb (by decide) (by decide) he he2 hpl
theorem q_max (hc : X.calm = true) (hg : Gl X "max") (hm : X.mg "max" = none) (ha : QE X g a pa) (hb : QE X g b pb)
    (he : starEach [a, b] X.env = (false, eval a X.env) :: starEach [b] X.env := by rfl) (he2 : starEach [b] X.env = (false, eval b X.env) :: starEach [] X.env := by rfl) (hpl : (backTo pos (starEach [b] X.env)).any (·.1) = false := by rfl) : QE X g (.Call (.Name "max" pf) [a, b] [] pos) (rOp2 oMax pa pb) :=
  q_b2 (call_max2 hc) rd_max hg hm (by rfl) ha hb (by decide) (by decide) he he2 hpl
theorem op_powC : OpR X (binaryOp .Pow) (rI (fun i j => 0 ≤ j ∧ ((j ≤ 1000000 ∧ i.natAbs < 2 ^ 64) ∨ (j ≤ 10000 ∧ i.natAbs.log2 < 10000))) fun i j => .int (i ^ j.toNat)) := fun pins s σ H x y v u Q I rx ry ⟨i, j, e1, e2, c, q⟩ => by
  rcases c.2 with h | h
  · exact op_pow pins s σ H x y v u Q I rx ry ⟨i, j, e1, e2, ⟨c.1, h.1, h.2⟩, q⟩
  · subst e1 e2
    obtain ⟨t, rfl⟩ := rx
    obtain ⟨t', rfl⟩ := ry
    refine pow_int c.1 ?_ ⟨.int _, H, I.tok _, ⟨_, rfl⟩, q⟩
    have hb : Builtin.Int.intBits i ≤ i.natAbs.log2 + 1 := by
      unfold Builtin.Int.intBits
      split <;> omega
    have h1 : ((Builtin.Int.intBits i : Nat) : Int) ≤ 10000 := by omega
    have h2 : ((Builtin.Int.intBits i : Nat) : Int) * j ≤ 10000 * 10000 := Int.mul_le_mul h1 h.1 c.1 (by omega)
    exact Int.le_trans h2 (by decide)
theorem q_pow (ha : QE X g a pa) (hb : QE X g b pb) : QE X g (.BinOp a .Pow b pos) (rOp2 oPow pa pb) := q_op op_powC (rd_int fun _ _ h => h) ha hb
end
end Q

namespace Q
open PySem PySem.Spec PyProof.Rows L2
/-! ### lookups agree -/
section
variable {K : PySem.W.Frag} {G : Addr → Prop} {H : Hp}
theorem atI_rep {ds : List D} {vs : List V} {i : Int} {d : D} (r : Reps K G H ds vs) (h : atI ds i = some d) : ∃ v, atI vs i = some v ∧ Rep K G H d v := by
  unfold atI at h ⊢
  rw [← reps_len r]
  cases e : ixN ds.length i with
  | none => rw [e] at h; cases h
  | some j =>
    rw [e] at h
    exact reps_get r h
theorem reps_drop : ∀ {ds : List D} {vs : List V} (n : Nat), Reps K G H ds vs → Reps K G H (ds.drop n) (vs.drop n)
  | _, _, 0, r => r
  | [], _, n + 1, r => by cases r; exact rfl
  | _ :: _, _, n + 1, ⟨v, vs', e, _, b⟩ => by subst e; exact reps_drop n b
theorem reps_take : ∀ {ds : List D} {vs : List V} (n : Nat), Reps K G H ds vs → Reps K G H (ds.take n) (vs.take n)
  | _, _, 0, r => rfl
  | [], _, n + 1, r => by cases r; exact rfl
  | _ :: _, _, n + 1, ⟨v, vs', e, a, b⟩ => by subst e; exact ⟨v, _, rfl, a, reps_take n b⟩
theorem reps_cut {ds : List D} {vs : List V} (lo hi : Option Int) (r : Reps K G H ds vs) : Reps K G H (cutD ds lo hi) (cutV vs lo hi) := by
  unfold cutD cutV
  rw [← reps_len r]
  exact reps_take _ (reps_drop _ r)
theorem reps_set : ∀ {ds : List D} {vs : List V} (j : Nat) {d : D} {v : V}, Reps K G H ds vs → Rep K G H d v → Reps K G H (ds.set j d) (vs.set j v)
  | [], _, _, _, _, r, _ => by cases r; exact rfl
  | _ :: _, _, 0, _, _, ⟨v, vs', e, a, b⟩, q => by subst e; exact ⟨_, _, rfl, q, b⟩
  | _ :: _, _, j + 1, _, _, ⟨v, vs', e, a, b⟩, q => by subst e; exact ⟨v, _, rfl, a, reps_set j b q⟩
theorem reps_erase : ∀ {ds : List D} {vs : List V} (j : Nat), Reps K G H ds vs → Reps K G H (ds.eraseIdx j) (vs.eraseIdx j)
  | [], _, _, r => by cases r; exact rfl
  | _ :: _, _, 0, ⟨v, vs', e, a, b⟩ => by subst e; exact b
  | _ :: _, _, j + 1, ⟨v, vs', e, a, b⟩ => by subst e; exact ⟨v, _, rfl, a, reps_erase j b⟩
theorem reps_dropLast : ∀ {ds : List D} {vs : List V}, Reps K G H ds vs → Reps K G H ds.dropLast vs.dropLast
  | [], _, r => by cases r; exact rfl
  | [_], _, ⟨v, vs', e, a, b⟩ => by subst e; cases b; exact rfl
  | _ :: _ :: _, _, ⟨v, vs', e, a, v2, vs2, e2, b⟩ => by subst e; subst e2; exact ⟨v, _, rfl, a, reps_dropLast ⟨v2, vs2, rfl, b⟩⟩
theorem reps_rep {ds : List D} {vs : List V} (r : Reps K G H ds vs) : ∀ n : Nat, Reps K G H (List.replicate n ds).flatten (List.replicate n vs).flatten
  | 0 => rfl
  | n + 1 => by
    rw [List.replicate_succ, List.replicate_succ, List.flatten_cons, List.flatten_cons]
    exact reps_app r (reps_rep r n)
theorem repk1 {p : Ky × D} {v : Ky × V} (h : Repk1 K G H p v) : v.1 = p.1 ∧ Rep K G H p.2 v.2 := by
  obtain ⟨k, d⟩ := p
  exact h
theorem repk_get : ∀ {ds : List (Ky × D)} {vs : List (Ky × V)} {k : Ky} {d : D}, Repk K G H ds vs → dget ds k = some d → ∃ v, valV vs k = some v ∧ Rep K G H d v
  | [], _, _, _, _, e => by simp [dget] at e
  | p :: r, _, k, d, ⟨v, vs', e, a, b⟩, h => by
    subst e
    have e1 : v.1 = p.1 := (repk1 a).1
    by_cases hk : p.1 = k
    · rw [valV_pos (e1.trans hk)]
      have : some p.2 = some d := by rw [← h]; simp [dget, List.find?_cons, hk]
      cases this
      exact ⟨_, rfl, (repk1 a).2⟩
    · rw [valV_neg (by rw [e1]; exact hk)]
      exact repk_get b (by rw [← h]; simp [dget, List.find?_cons, hk])
theorem repk_none : ∀ {ds : List (Ky × D)} {vs : List (Ky × V)} {k : Ky}, Repk K G H ds vs → dget ds k = none → valV vs k = none
  | [], _, _, r, _ => by cases r; rfl
  | p :: r, _, k, ⟨v, vs', e, a, b⟩, h => by
    subst e
    have e1 : v.1 = p.1 := (repk1 a).1
    by_cases hk : p.1 = k
    · have : (some p.2 : Option D) = none := by rw [← h]; simp [dget, List.find?_cons, hk]
      cases this
    · rw [valV_neg (by rw [e1]; exact hk)]
      exact repk_none b (by rw [← h]; simp [dget, List.find?_cons, hk])
theorem repk_some {ds : List (Ky × D)} {vs : List (Ky × V)} {k : Ky} (r : Repk K G H ds vs) : (valV vs k).isSome = (dget ds k).isSome := by
  cases e : dget ds k with
  | none => rw [repk_none r e]; rfl
  | some d => obtain ⟨v, hv, _⟩ := repk_get r e; rw [hv]; rfl
theorem repk_any (k : Ky) : ∀ {ds : List (Ky × D)} {vs : List (Ky × V)}, Repk K G H ds vs → (vs.any fun kv => decide (kv.1 = k)) = (ds.any fun kv => decide (kv.1 = k))
  | [], _, r => by cases r; rfl
  | p :: r, _, ⟨v, vs', e, a, b⟩ => by
    subst e
    rw [List.any_cons, List.any_cons, repk_any k b, (repk1 a).1]
theorem repk_map (k : Ky) {d : D} {y : V} (q : Rep K G H d y) : ∀ {ds : List (Ky × D)} {vs : List (Ky × V)}, Repk K G H ds vs → Repk K G H (ds.map fun kv => if kv.1 = k then (kv.1, d) else kv) (vs.map fun kv => if kv.1 = k then (kv.1, y) else kv)
  | [], _, r => by cases r; rfl
  | p :: r, _, ⟨v, vs', e, a, b⟩ => by
    subst e
    rw [List.map_cons, List.map_cons]
    refine ⟨_, _, rfl, ?_, repk_map k q b⟩
    have e1 : v.1 = p.1 := (repk1 a).1
    by_cases hk : p.1 = k
    · rw [if_pos hk, if_pos (e1.trans hk)]; exact (show v.1 = p.1 ∧ Rep K G H d y from ⟨e1, q⟩)
    · rw [if_neg hk, if_neg (by rw [e1]; exact hk)]; exact a
theorem repk_app : ∀ {ds es : List (Ky × D)} {vs us : List (Ky × V)}, Repk K G H ds vs → Repk K G H es us → Repk K G H (ds ++ es) (vs ++ us)
  | [], _, _, _, h, b => by cases h; exact b
  | _ :: r, _, _, _, ⟨v, vs', e, a, b⟩, q => by subst e; exact ⟨v, _, rfl, a, repk_app b q⟩
theorem repk_put {ds : List (Ky × D)} {vs : List (Ky × V)} {k : Ky} {d : D} {y : V} (r : Repk K G H ds vs) (q : Rep K G H d y) : Repk K G H (dput ds k d) (putK vs k y) := by
  unfold dput putK
  rw [repk_any k r]
  split
  · exact repk_map k q r
  · exact repk_app r ⟨(k, y), [], rfl, ⟨rfl, q⟩, rfl⟩
theorem rept1 {p : List Ky × D} {v : List Ky × V} (h : Rept1 K G H p v) : v.1 = p.1 ∧ Rep K G H p.2 v.2 := by
  obtain ⟨k, d⟩ := p
  exact h
theorem rept_get : ∀ {ds : List (List Ky × D)} {vs : List (List Ky × V)} {k : List Ky} {d : D}, Rept K G H ds vs → dgetT ds k = some d → ∃ v, valV vs k = some v ∧ Rep K G H d v
  | [], _, _, _, _, e => by simp [dgetT] at e
  | p :: r, _, k, d, ⟨v, vs', e, a, b⟩, h => by
    subst e
    have e1 : v.1 = p.1 := (rept1 a).1
    by_cases hk : p.1 = k
    · rw [valV_pos (e1.trans hk)]
      have : some p.2 = some d := by rw [← h]; simp [dgetT, List.find?_cons, hk]
      cases this
      exact ⟨_, rfl, (rept1 a).2⟩
    · rw [valV_neg (by rw [e1]; exact hk)]
      exact rept_get b (by rw [← h]; simp [dgetT, List.find?_cons, hk])
theorem rept_none : ∀ {ds : List (List Ky × D)} {vs : List (List Ky × V)} {k : List Ky}, Rept K G H ds vs → dgetT ds k = none → valV vs k = none
  | [], _, _, r, _ => by cases r; rfl
  | p :: r, _, k, ⟨v, vs', e, a, b⟩, h => by
    subst e
    have e1 : v.1 = p.1 := (rept1 a).1
    by_cases hk : p.1 = k
    · have : (some p.2 : Option D) = none := by rw [← h]; simp [dgetT, List.find?_cons, hk]
      cases this
    · rw [valV_neg (by rw [e1]; exact hk)]
      exact rept_none b (by rw [← h]; simp [dgetT, List.find?_cons, hk])
theorem rept_some {ds : List (List Ky × D)} {vs : List (List Ky × V)} {k : List Ky} (r : Rept K G H ds vs) : (valV vs k).isSome = (dgetT ds k).isSome := by
  cases e : dgetT ds k with
  | none => rw [rept_none r e]; rfl
  | some d => obtain ⟨v, hv, _⟩ := rept_get r e; rw [hv]; rfl
theorem rept_any (k : List Ky) : ∀ {ds : List (List Ky × D)} {vs : List (List Ky × V)}, Rept K G H ds vs → (vs.any fun kv => decide (kv.1 = k)) = (ds.any fun kv => decide (kv.1 = k))
  | [], _, r => by cases r; rfl
  | p :: r, _, ⟨v, vs', e, a, b⟩ => by
    subst e
    rw [List.any_cons, List.any_cons, rept_any k b, (rept1 a).1]
theorem rept_map (k : List Ky) {d : D} {y : V} (q : Rep K G H d y) : ∀ {ds : List (List Ky × D)} {vs : List (List Ky × V)}, Rept K G H ds vs → Rept K G H (ds.map fun kv => if kv.1 = k then (kv.1, d) else kv) (vs.map fun kv => if kv.1 = k then (kv.1, y) else kv)
  | [], _, r => by cases r; rfl
  | p :: r, _, ⟨v, vs', e, a, b⟩ => by
    subst e
    rw [List.map_cons, List.map_cons]
    refine ⟨_, _, rfl, ?_, rept_map k q b⟩
    have e1 : v.1 = p.1 := (rept1 a).1
    by_cases hk : p.1 = k
    · rw [if_pos hk, if_pos (e1.trans hk)]; exact (show v.1 = p.1 ∧ Rep K G H d y from ⟨e1, q⟩)
    · rw [if_neg hk, if_neg (by rw [e1]; exact hk)]; exact a
theorem rept_app : ∀ {ds es : List (List Ky × D)} {vs us : List (List Ky × V)}, Rept K G H ds vs → Rept K G H es us → Rept K G H (ds ++ es) (vs ++ us)
  | [], _, _, _, h, b => by cases h; exact b
  | _ :: r, _, _, _, ⟨v, vs', e, a, b⟩, q => by subst e; exact ⟨v, _, rfl, a, rept_app b q⟩
theorem rept_put {ds : List (List Ky × D)} {vs : List (List Ky × V)} {k : List Ky} {d : D} {y : V} (r : Rept K G H ds vs) (q : Rep K G H d y) : Rept K G H (dputT ds k d) (putK vs k y) := by
  unfold dputT putK
  rw [rept_any k r]
  split
  · exact rept_map k q r
  · exact rept_app r ⟨(k, y), [], rfl, ⟨rfl, q⟩, rfl⟩
theorem repk_merge : ∀ {es : List (Ky × D)} {us : List (Ky × V)} {ds : List (Ky × D)} {vs : List (Ky × V)}, Repk K G H es us → Repk K G H ds vs → Repk K G H (mergeD ds es) (mergeK vs us)
  | [], _, _, _, h, r => by cases h; exact r
  | p :: es, _, ds, vs, ⟨v, us, e, a, b⟩, r => by
    subst e
    show Repk K G H (mergeD (dput ds p.1 p.2) es) (mergeK (putK vs v.1 v.2) us)
    have e1 : v.1 = p.1 := (repk1 a).1
    rw [e1]
    exact repk_merge b (repk_put r (repk1 a).2)
theorem Repk.mono' {G' : Addr → Prop} {H' : Hp} (hg : ∀ a, G a → G' a) (st : Stab H H') {ds : List (Ky × D)} {vs : List (Ky × V)} (r : Repk K G H ds vs) : Repk K G' H' ds vs := Repk.mono hg st ds vs r
theorem key_rep {d : D} {v : V} {k : Ky} (h : d.key = some k) (r : Rep K G H d v) : v = L2.kV k := by
  cases d with
  | int i => cases h; exact r
  | str x => cases h; exact r
  | _ => cases h
end
/-! ### subscripts -/
section
variable {X : Cx} {g : Gh} {a b c e : Expr} {es : List Expr} {pa pb pc p : RE} {ps : RA} {pos p2 : Pos}
theorem key_view {K : PySem.W.Frag} {H : Hp} {m : Bool} {d : D} {v : V} {k : Ky} (h : d.key = some k) (r : ViewR K g H m d v) : v = L2.kV k := by
  cases d with
  | int i => cases h; exact r
  | str x => cases h; exact r
  | _ => cases h
theorem keys_view {K : PySem.W.Frag} {H : Hp} {m : Bool} : ∀ {ds : List D} {vs : List V} {k : List Ky}, keysD ds = some k → Reps K (g.gm m) H ds vs → vs = k.map L2.kV
  | [], _, _, h, r => by cases h; cases r; rfl
  | d :: ds, _, k, h, ⟨v, vs', e, a, b⟩ => by
    subst e
    simp only [keysD] at h
    cases e1 : d.key with
    | none => rw [e1] at h; cases h
    | some k1 =>
      cases e2 : keysD ds with
      | none => rw [e1, e2] at h; cases h
      | some l =>
        rw [e1, e2] at h
        cases h
        rw [key_rep e1 a, keys_view e2 b]
        rfl
theorem keyT_view {K : PySem.W.Frag} {H : Hp} {m : Bool} {d : D} {v : V} {k : List Ky} (h : d.keyT = some k) (r : ViewR K g H m d v) : ∃ b, v = .ref b ∧ SqT K H b (k.map L2.kV) := by
  cases d with
  | tup xs =>
    obtain ⟨b, vs, rfl, f, q⟩ := r
    exact ⟨b, rfl, by rw [← keys_view (show keysD xs = some k from h) q]; exact f⟩
  | _ => cases h
theorem keyT_of {pins : List (Addr × Obj)} {σ : L2.St} {H : Hp} {s : Shared} {b : Addr} {k : List Key} (I : Inv X pins σ H s) (eb : SqT X.K H b (k.map L2.kV)) : (tupleKind (mixKind X.prog X.w)).is s.heap k b := by
  obtain ⟨its, rv, ⟨o, h1, h2, n, h3⟩, hz⟩ := I.tuple eb
  exact ⟨o, its.toArray, n, h1, h2, h3, by simpa using items_are rv⟩
abbrev rDGT (K : PySem.W.Frag) : R2 := fun x y H Q => ∃ a b kvs k v, x = V.ref a ∧ y = V.ref b ∧ Rd H a (.dT kvs) ∧ SqT K H b (k.map L2.kV) ∧ valV kvs k = some v ∧ Q v H
theorem ix_dictT (hu : X.A.units + 1 < cLine) : IxR X (rDGT X.K) := by
  intro value slice pins s σ H x y v u Q I rx ry h hs
  obtain ⟨a, b, kvs, k, z, rfl, rfl, c, eb, l, q⟩ := h
  cases (show v = Value.ref a from rx)
  cases (show u = Value.ref b from ry)
  obtain ⟨_, hd, xs, rel, dd⟩ := dt_rd I.hok c
  obtain ⟨w', hw, rw'⟩ := RelO.some_of (v := z) (o := (atKey xs k).map (·.2)) (by rw [← l]; exact rel.val k)
  obtain ⟨p, hp, hp2⟩ := Option.map_eq_some_iff.mp hw
  refine tail_any dd.typeIs slot_dict_getitem.lookup (wpAny_getItem_heap (tupleKind_room_in1 hu) (keyT_of I eb) dd hp ?_) hs
  rw [hp2]
  exact ⟨z, H, I.tok _, rw', q⟩
abbrev rDG : R2 := fun x y H Q => ∃ a v, x = V.ref a ∧ DGet H a y (some v) ∧ Q v H
theorem ix_dictH (hu : X.A.units + 1 < cLine) : IxR X rDG := by
  intro value slice pins s σ H x y v u Q I rx ry h hs
  obtain ⟨a, z, rfl, gt, q⟩ := h
  cases (show v = Value.ref a from rx)
  exact tail_any (dict_typeIs I gt) slot_dict_getitem.lookup (d_getItem hu I gt ry fun w' s' I' rw' => ⟨z, H, I', rw', q⟩) hs
abbrev rIxQ (K : PySem.W.Frag) : R2 := fun x y H Q => (rIx K x y H Q ∨ rDG x y H Q) ∨ rDGT K x y H Q
theorem rd_ix : OpRd X g (rIxQ X.K) oIx := by
  intro σ τ vs ρ H x y m1 m2 d1 d2 k Q S v1 v2 h kk
  unfold oIx at h
  split at h
  · obtain ⟨d, hd, q⟩ := h
    obtain ⟨a, ws, rfl, c, r⟩ := v1
    cases view_int v2
    obtain ⟨v, hv, rv⟩ := atI_rep r hd
    exact .inl (.inl (.inl ⟨a, ws, _, v, rfl, rfl, .inl c, hv, kk _ _ _ (S.pushF rv) q⟩))
  · obtain ⟨d, hd, q⟩ := h
    obtain ⟨a, ws, rfl, c, r⟩ := v1
    cases view_int v2
    obtain ⟨v, hv, rv⟩ := atI_rep r hd
    exact .inl (.inl (.inr (.inl ⟨a, ws, _, v, rfl, rfl, c, hv, kk _ _ _ (S.pushF rv) q⟩)))
  · obtain ⟨hl, c, hc, q⟩ := h
    cases view_str v1
    cases view_int v2
    exact .inl (.inl (.inr (.inr ⟨_, _, c, rfl, rfl, by rw [line_eq]; exact hl, hc, kk _ _ _ (S.pushF (m := true) (d := .str _) rfl) q⟩)))
  · obtain ⟨ky, d, hk, hd, q⟩ := h
    obtain ⟨a, ws, rfl, c, r⟩ := v1
    obtain ⟨v, hv, rv⟩ := repk_get r hd
    exact .inl (.inr ⟨a, v, rfl, .inl ⟨ws, ky, c, key_view hk v2, hv.symm⟩, kk _ _ _ (S.pushF rv) q⟩)
  · obtain ⟨ky, d, hk, hd, q⟩ := h
    obtain ⟨a, ws, rfl, c, r⟩ := v1
    obtain ⟨v, hv, rv⟩ := rept_get r hd
    obtain ⟨b, rfl, eb⟩ := keyT_view hk v2
    exact .inr ⟨a, b, ws, ky, v, rfl, rfl, c, eb, hv, kk _ _ _ (S.pushF rv) q⟩
  · exact h.elim
theorem q_ix (hu : X.A.units + 1 < cLine) (ha : QE X g a pa) (hb : QE X g b pb) (hs : PlainIx b := by intros _ _; rfl) : QE X g (.Subscript a b pos) (rOp2 oIx pa pb) :=
  QE.of (fun Ξ tk => pe_ix ((ix_seq.or (ix_dictH hu)).or (ix_dictT hu)) (ha.pe tk) (hb.pe tk) hs) fun τ vs ρ Φ Ξ σ H S hw => op2_rd rd_ix S hw
/-! ### slices -/
structure QO (X : Cx) (g : Gh) (e : Option Expr) (p : RO) : Prop where
  po : ∀ Ξ, Takes X (WQ X g Ξ) → PO X e (fun σ H Q => ∃ τ vs ρ Φ, SR X.K g ρ σ τ vs H ∧ p ρ Φ Ξ ∧ ∀ o ρ' H', SR X.K g ρ' σ τ vs H' → Φ o ρ' → Q o H')
theorem qo_n : QO X g none roN := ⟨fun Ξ tk => ⟨fun pins s σ H Q I ⟨τ, vs, ρ, Φ, S, hp, k⟩ => po_none.run pins s σ H Q I (k none ρ H S hp)⟩⟩
theorem qo_e (h : QE X g e p) : QO X g (some e) (roE p) := ⟨fun Ξ tk => ⟨fun pins s σ H Q I ⟨τ, vs, ρ, Φ, S, hp, k⟩ => by
  refine (po_some (h.pe tk)).run pins s σ H Q I ⟨τ, vs, ρ, _, S, hp, fun sv ρ' v H' S' q => ?_⟩
  obtain ⟨m, d, e1, q⟩ := kV_ok q
  cases d <;> first
    | exact ⟨_, view_int (view_ok S' S'.top e1), k _ _ _ S'.pop q⟩
    | exact q.elim⟩⟩
abbrev rSlQ (K : PySem.W.Frag) : V → Option Int → Option Int → Hp → VK → Prop := fun x lo hi H Q => (rSlL K x lo hi H Q ∨ rSlT K x lo hi H Q) ∨ rSlS x lo hi H Q
theorem rSl_view {s : SV} {ρ : PSt} {k : RK} {l h : Option Int} (q : (match s.view ρ with
  | some (m, d) => oSl m d l h fun r => k r ρ
  | none => False)) : ∃ m d, s.view ρ = some (m, d) ∧ oSl m d l h fun r => k r ρ := by
  cases e : s.view ρ with
  | none => rw [e] at q; exact q.elim
  | some md => rw [e] at q; exact ⟨md.1, md.2, rfl, q⟩
theorem q_sl {lo hi : Option Expr} {rl rh : RO} (he : QE X g e p) (hl : QO X g lo rl) (hh : QO X g hi rh) : QE X g (.Subscript e (.Slice lo hi none p2) pos) (rSl p rl rh) := by
  refine QE.of (fun Ξ tk => pe_slice ((sl_list.or sl_tup).or sl_str) (he.pe tk) (hl.po Ξ tk) (hh.po Ξ tk)) fun τ vs ρ Φ Ξ σ H S hw => ?_
  refine ⟨τ, vs, ρ, _, S, hw, fun s1 ρ1 x H1 S1 h1 => ⟨s1 :: τ, x :: vs, ρ1, _, S1, h1, fun l ρ2 H2 S2 h2 => ⟨s1 :: τ, x :: vs, ρ2, _, S2, h2, fun u ρ3 H3 S3 h3 => ?_⟩⟩⟩
  obtain ⟨m, d, e1, q⟩ := rSl_view h3
  have v := view_ok S3 S3.top e1
  unfold oSl at q
  split at q
  · obtain ⟨a, ws, rfl, c, r⟩ := v
    exact .inl (.inl ⟨a, ws, rfl, .inl c, fun p hp => ⟨_, ρ3, S3.pop.newList hp (reps_cut l u r), q⟩⟩)
  · obtain ⟨a, ws, rfl, c, r⟩ := v
    exact .inl (.inr ⟨a, ws, rfl, c, by rw [← reps_len r]; exact q.1, fun p hp => ⟨_, ρ3, S3.pop.newTup hp (reps_cut l u r), q.2⟩⟩)
  · cases view_str v
    exact .inr ⟨_, rfl, by rw [line_eq]; exact q.1, _, ρ3, S3.pop.pushF (m := true) (d := .str _) rfl, q.2⟩
  · exact q.elim
/-! ### a < b < c -/
theorem chain_rd {r r' : R2} {o o' : Op2} (hr : OpRd X g r o) (hr' : OpRd X g r' o') {Ξ : RX} {τ : List SV} {vs : List V} {ρ : PSt} {Φ : RK} {σ : L2.St} {H : Hp} {Q : VK} (S : SR X.K g ρ σ τ vs H) (hw : rChain o o' pa pb pc ρ Φ Ξ) (kk : ∀ sv ρ' v H', SR X.K g ρ' σ (sv :: τ) (v :: vs) H' → Φ sv ρ' → Q v H') :
    tChain r r' (tqe X g pa Ξ) (tqe X g pb Ξ) (tqe X g pc Ξ) σ H Q := by
  refine ⟨τ, vs, ρ, _, S, hw, fun s1 ρ1 x H1 S1 h1 => ?_⟩
  refine ⟨s1 :: τ, x :: vs, ρ1, _, S1, h1, fun s2 ρ2 y H2 S2 h2 => ?_⟩
  obtain ⟨m1, d1, m2, d2, e1, e2, q⟩ := kV2_ok h2
  have v2 := view_ok S2 S2.top e2
  have v1 := view_ok S2 S2.pop.top e1
  refine hr σ (s2 :: s1 :: τ) (y :: x :: vs) ρ2 H2 x y m1 m2 d1 d2 _ _ S2 v1 v2 q fun sv z H' S' k => ?_
  obtain ⟨m, c, rfl, q⟩ := kB_ok k
  refine ⟨c, S'.bl, ?_⟩
  cases c with
  | false => exact kk _ ρ2 _ _ (S'.pop.pop.pop.pushF (m := true) (d := .bl false) rfl) (q.f rfl)
  | true =>
    refine ⟨s2 :: s1 :: τ, y :: x :: vs, ρ2, _, S'.pop, q.t rfl, fun s3 ρ4 w' H4 S4 h4 => ?_⟩
    obtain ⟨m3, d3, m4, d4, e3, e4, q4⟩ := kV2_ok h4
    have v4 := view_ok S4 S4.top e4
    have v3 := view_ok S4 S4.pop.top e3
    exact hr' σ τ vs ρ4 H4 y w' m3 m4 d3 d4 _ _ S4.pop.pop.pop v3 v4 q4 fun sv z H' S' k => kk sv ρ4 z H' S' k
theorem q_chain {op op' : CmpOp} {r r' : R2} {o o' : Op2} (ho : OpR X (compareOp op) r) (ho' : OpR X (compareOp op') r') (hr : OpRd X g r o) (hr' : OpRd X g r' o') (ha : QE X g a pa) (hb : QE X g b pb) (hc : QE X g c pc)
    (hm : lastMarks [op, op'] [b, c] = false := by with_unfolding_all rfl) : QE X g (.Compare a [op, op'] [b, c] pos) (rChain o o' pa pb pc) :=
  QE.of (fun Ξ tk => pe_chain ho ho' (ha.pe tk) (hb.pe tk) (hc.pe tk) hm) fun τ vs ρ Φ Ξ σ H S hw => chain_rd hr hr' S hw fun sv ρ' v H' S' k => ⟨sv, ρ', S', k⟩
theorem q_chainT {op op' : CmpOp} {r r' : R2} {o o' : Op2} (ho : OpR X (compareOp op) r) (ho' : OpR X (compareOp op') r') (hr : OpRd X g r o) (hr' : OpRd X g r' o') (ha : QE X g a pa) (hb : QE X g b pb) (hc : QE X g c pc)
    (hm : lastMarks [op, op'] [b, c] = false := by with_unfolding_all rfl) : QT X g (.Compare a [op, op'] [b, c] pos) (rB (rChain o o' pa pb pc)) := by
  refine QT.of (fun Ξ tk => pt_chain ho ho' (ha.pe tk) (hb.pe tk) (hc.pe tk) hm) fun τ vs ρ Φ Ξ σ H S hw => ?_
  refine chain_rd hr hr' S hw fun sv ρ' v H' S' k => ?_
  obtain ⟨m, c, rfl, q⟩ := kB_ok k
  exact ⟨c, S'.bl, ρ', S'.pop, q⟩
end
end Q

namespace Q
open PySem PySem.Spec PyProof.Rows L2
/-! ### in -/
section
variable {X : Cx} {g : Gh} {a b c e : Expr} {es : List Expr} {pa pb pc p : RE} {ps : RA} {pos p2 : Pos}
theorem any_eqv (d : D) (hd : d.flatd = true) : ∀ xs : List D, D.flatd.flats xs = true → ((pys xs).any fun z => PyData.eqv z d.py) = xs.any fun z => D.eqv z d
  | [], _ => rfl
  | x :: r, h => by
    unfold D.flatd.flats at h
    obtain ⟨h1, h2⟩ := Bool.and_eq_true_iff.mp h
    simp only [pys, List.any_cons]
    rw [py_eqv x d h1 hd, any_eqv d hd r h2]
abbrev rInDict : R2 := fun y x H Q => ∃ a o, x = V.ref a ∧ DGet H a y o ∧ Q (.bl o.isSome) H
abbrev rNotInDict : R2 := fun y x H Q => ∃ a o, x = V.ref a ∧ DGet H a y o ∧ Q (.bl (!o.isSome)) H
theorem op_inDict (hu : X.A.units + 1 < cLine) : OpR X (compareOp .In) rInDict := by
  intro pins s σ H x y v u Q I rx ry h
  obtain ⟨a, o, rfl, gt, q⟩ := h
  cases (show u = Value.ref a from ry)
  exact d_in hu I gt rx fun s' I' => ⟨.bl _, H, I', rfl, q⟩
theorem op_notInDict (hu : X.A.units + 1 < cLine) : OpR X (compareOp .NotIn) rNotInDict := by
  intro pins s σ H x y v u Q I rx ry h
  obtain ⟨a, o, rfl, gt, q⟩ := h
  cases (show u = Value.ref a from ry)
  exact d_notIn hu I gt rx fun s' I' => ⟨.bl _, H, I', rfl, q⟩
abbrev rInS : R2 := fun x y H Q => ∃ i j, x = V.str i ∧ y = V.str j ∧ Q (.bl (!(Builtin.Str.occurrences j i 0 j.length 1).isEmpty)) H
abbrev rNotInS : R2 := fun x y H Q => ∃ i j, x = V.str i ∧ y = V.str j ∧ Q (.bl (!(!(Builtin.Str.occurrences j i 0 j.length 1).isEmpty))) H
abbrev rInT (K : PySem.W.Frag) (neg : Bool) : R2 := fun x y H Q => ∃ a b kvs k, x = V.ref b ∧ y = V.ref a ∧ Rd H a (.dT kvs) ∧ SqT K H b (k.map L2.kV) ∧ Q (.bl (xor neg (valV kvs k).isSome)) H
theorem op_inT (hu : X.A.units + 1 < cLine) : OpR X (compareOp .In) (rInT X.K false) := by
  intro pins s σ H x y v u Q I rx ry h
  obtain ⟨a, b, kvs, k, rfl, rfl, c, eb, q⟩ := h
  cases (show v = Value.ref b from rx)
  cases (show u = Value.ref a from ry)
  obtain ⟨_, hd, xs, rel, dd⟩ := dt_rd I.hok c
  refine wpAny_in_heap (tupleKind_room_in1 hu) (keyT_of I eb) hd dd ?_
  have z := (rel.val k).isSome_eq
  rw [Option.isSome_map] at z
  rw [← z]
  exact ⟨.bl _, H, I.tok _, rfl, by simpa using q⟩
theorem op_notInT (hu : X.A.units + 1 < cLine) : OpR X (compareOp .NotIn) (rInT X.K true) := by
  intro pins s σ H x y v u Q I rx ry h
  obtain ⟨a, b, kvs, k, rfl, rfl, c, eb, q⟩ := h
  cases (show v = Value.ref b from rx)
  cases (show u = Value.ref a from ry)
  obtain ⟨_, hd, xs, rel, dd⟩ := dt_rd I.hok c
  refine wpAny_notIn_heap (tupleKind_room_in1 hu) (keyT_of I eb) hd dd ?_
  have z := (rel.val k).isSome_eq
  rw [Option.isSome_map] at z
  rw [← z]
  exact ⟨.bl _, H, I.tok _, rfl, by simpa using q⟩
abbrev rInQ (K : PySem.W.Frag) : R2 := fun x y H Q => ((rInS x y H Q ∨ rInD K x y H Q) ∨ rInDict x y H Q) ∨ rInT K false x y H Q
abbrev rNotInQ (K : PySem.W.Frag) : R2 := fun x y H Q => ((rNotInS x y H Q ∨ rNotInD K x y H Q) ∨ rNotInDict x y H Q) ∨ rInT K true x y H Q
theorem rd_in : OpRd X g (rInQ X.K) (oIn false) := by
  intro σ τ vs ρ H x y m1 m2 d1 d2 k Q S v1 v2 h kk
  unfold oIn at h
  split at h
  · cases view_str v1
    cases view_str v2
    exact .inl (.inl (.inl ⟨_, _, rfl, rfl, kk _ _ _ (S.pushF (m := true) (d := .bl _) (by show V.bl _ = V.bl _; simp)) h⟩))
  · rename_i d xs
    obtain ⟨⟨f1, e1, f2, e2⟩, q⟩ := h
    have q1 := dp_view f2 v2
    have s2 := shaped_of f2 e2
    simp only [D.py] at q1 s2
    refine .inl (.inl (.inr ⟨_, _, dp_view f1 v1, q1, shaped_of f1 e1, s2, ?_⟩))
    rw [any_eqv d1 f1 xs (by simpa only [D.flatd] using f2)]
    exact kk _ _ _ (S.pushF (m := true) (d := .bl _) (by show V.bl _ = V.bl _; simp)) q
  · obtain ⟨ky, hk, q⟩ := h
    obtain ⟨a, ws, rfl, c, r⟩ := v2
    refine .inl (.inr ⟨a, _, rfl, .inl ⟨ws, ky, c, key_view hk v1, rfl⟩, ?_⟩)
    rw [repk_some r]
    exact kk _ _ _ (S.pushF (m := true) (d := .bl _) (by show V.bl _ = V.bl _; simp)) q
  · obtain ⟨ky, hk, q⟩ := h
    obtain ⟨a, ws, rfl, c, r⟩ := v2
    obtain ⟨b, rfl, eb⟩ := keyT_view hk v1
    refine .inr ⟨a, b, ws, ky, rfl, rfl, c, eb, ?_⟩
    rw [rept_some r]
    exact kk _ _ _ (S.pushF (m := true) (d := .bl _) rfl) q
  · exact h.elim
theorem rd_notIn : OpRd X g (rNotInQ X.K) (oIn true) := by
  intro σ τ vs ρ H x y m1 m2 d1 d2 k Q S v1 v2 h kk
  unfold oIn at h
  split at h
  · cases view_str v1
    cases view_str v2
    exact .inl (.inl (.inl ⟨_, _, rfl, rfl, kk _ _ _ (S.pushF (m := true) (d := .bl _) (by show V.bl _ = V.bl _; simp)) h⟩))
  · rename_i d xs
    obtain ⟨⟨f1, e1, f2, e2⟩, q⟩ := h
    have q1 := dp_view f2 v2
    have s2 := shaped_of f2 e2
    simp only [D.py] at q1 s2
    refine .inl (.inl (.inr ⟨_, _, dp_view f1 v1, q1, shaped_of f1 e1, s2, ?_⟩))
    rw [any_eqv d1 f1 xs (by simpa only [D.flatd] using f2)]
    exact kk _ _ _ (S.pushF (m := true) (d := .bl _) (by show V.bl _ = V.bl _; simp)) q
  · obtain ⟨ky, hk, q⟩ := h
    obtain ⟨a, ws, rfl, c, r⟩ := v2
    refine .inl (.inr ⟨a, _, rfl, .inl ⟨ws, ky, c, key_view hk v1, rfl⟩, ?_⟩)
    rw [repk_some r]
    exact kk _ _ _ (S.pushF (m := true) (d := .bl _) (by show V.bl _ = V.bl _; simp)) q
  · obtain ⟨ky, hk, q⟩ := h
    obtain ⟨a, ws, rfl, c, r⟩ := v2
    obtain ⟨b, rfl, eb⟩ := keyT_view hk v1
    refine .inr ⟨a, b, ws, ky, rfl, rfl, c, eb, ?_⟩
    rw [rept_some r]
    exact kk _ _ _ (S.pushF (m := true) (d := .bl _) rfl) q
  · exact h.elim
theorem units1 {n : Nat} (h : n + 65 < cLine) : n + 1 < cLine := by omega
theorem op_inQ (hu : X.A.units + 65 < cLine) : OpR X (compareOp .In) (rInQ X.K) := ((op_in_str.or (op_inD hu)).or (op_inDict (units1 hu))).or (op_inT (units1 hu))
theorem op_notInQ (hu : X.A.units + 65 < cLine) : OpR X (compareOp .NotIn) (rNotInQ X.K) := ((op_notIn_str.or (op_notInD hu)).or (op_notInDict (units1 hu))).or (op_notInT (units1 hu))
/-! ### list * int, str.join -/
abbrev rRepQ : R2 := fun x y H Q => rI CMul (fun i j => .int (i * j)) x y H Q ∨ ∃ l k xs, x = V.ref l ∧ y = .int k ∧ Rd H l (.lst xs) ∧ -(2 ^ 63) ≤ k ∧ k < 2 ^ 63 ∧ xs.length * k.toNat ≤ sizeLine ∧
  ∀ p, H p = none → Q (.ref p) (upd H p (.lst (List.replicate k.toNat xs).flatten))
theorem op_repR : OpR X (binaryOp .Mult) (fun x y H Q => ∃ l k xs, x = V.ref l ∧ y = .int k ∧ Rd H l (.lst xs) ∧ -(2 ^ 63) ≤ k ∧ k < 2 ^ 63 ∧ xs.length * k.toNat ≤ sizeLine ∧
  ∀ p, H p = none → Q (.ref p) (upd H p (.lst (List.replicate k.toNat xs).flatten))) := by
  intro pins s σ H x y v u Q I rx ry h
  obtain ⟨l, k, xs, rfl, rfl, hH, h1, h2, hz, q⟩ := h
  cases rx
  obtain ⟨t, rfl⟩ := ry
  obtain ⟨z, its, n, r, e⟩ := hH.ok I.hok
  have hl := r.length
  have hlen : its.toArray.size * k.toNat ≤ sizeLine := by rw [List.size_toArray, ← hl]; exact hz
  have hcap : ¬ its.toArray.size * k.toNat > (2 ^ 63 - 1) / 8 := by
    have : (sizeLine : Nat) ≤ (2 ^ 63 - 1) / 8 := by decide
    omega
  have hfit : ¬ (!Builtin.List.listFitsIndex k) = true := by
    rw [fitsIndex_both h1 h2]
    exact Bool.false_ne_true
  have hlong : ¬ Builtin.List.listTooLong (its.toArray.size * k.toNat) = true := by
    rw [notLongL hlen]
    exact Bool.false_ne_true
  have hnew : List.foldl (fun x1 x2 => x1 ++ x2) #[] (List.replicate (if its.toArray.isEmpty = true then 0 else k.toNat) its.toArray) = (List.replicate k.toNat its).flatten.toArray := by
    have f0 : ∀ m : Nat, List.foldl (fun x1 x2 => x1 ++ x2) #[] (List.replicate m its.toArray) = (List.replicate m its).flatten.toArray := fun m => by
      have := foldl_rep its m []
      rw [List.nil_append] at this
      exact this
    rw [f0]
    cases its with
    | nil => simp
    | cons a r' => rw [if_neg (by simp)]
  refine wpAny_binaryOp_repeat_ref (T := "list") (U := "int") (by decide) ⟨_, e, rfl⟩ (fun s' => typeIs_int s' k t) noFill_list_mul F.fills_int_mul F.slot_int_rmul repeat_list F.slot_int_index.lookup
    (call_meets F.slot_int_rmul (typeIs_int s k t) F.entry_int_rmul (F.args_int_rmul_2 _ _) (int___rmul___int_list k t l its.toArray n)
      ⟨e, rfl, ⟨_, e, rfl⟩, call_meets F.slot_list_mul ⟨_, e, rfl⟩ F.entry_list_mul (F.args_list_mul_2 _ _) (AutoListH.list___mul___list_int_3 l its.toArray n k t hfit hcap hlong) ⟨e, ?_⟩⟩)
  rw [hnew]
  exact ⟨.ref _, _, I.lnew (t' := s.toks) (r.rep k.toNat) (by rw [PyProof.Rows.lm_len_rep_flat, Nat.mul_comm]; exact hz), rfl, q _ I.fresh⟩
theorem rd_rep : OpRd X g rRepQ oRep := by
  intro σ τ vs ρ H x y m1 m2 d1 d2 k Q S v1 v2 h kk
  unfold oRep at h
  split at h
  · obtain ⟨⟨h1, h2, h3⟩, q⟩ := h
    obtain ⟨a, ws, rfl, c, r⟩ := v1
    cases view_int v2
    exact .inr ⟨a, _, ws, rfl, rfl, c, h1, h2, by rw [line_eq, ← reps_len r]; exact h3, fun p hp => kk _ _ _ (S.newList hp (reps_rep r _)) q⟩
  · cases view_int v1
    cases view_int v2
    exact .inl ⟨_, _, rfl, rfl, h.1, kk _ _ _ (S.pushF (m := true) (d := .int _) rfl) h.2⟩
  · exact h.elim
theorem q_rep (ha : QE X g a pa) (hb : QE X g b pb) : QE X g (.BinOp a .Mult b pos) (rOp2 oRep pa pb) := q_op (op_mul.or op_repR) rd_rep ha hb
theorem rS1_view {o : SOp} {a : Str} {s2 : SV} {ρ2 : PSt} {k : RK} (h : (match s2.view ρ2 with
    | some (m, d) => o a m d fun r => k r ρ2
    | none => False)) : ∃ m d, s2.view ρ2 = some (m, d) ∧ o a m d fun r => k r ρ2 := by
  cases e : s2.view ρ2 with
  | none => rw [e] at h; exact h.elim
  | some md => rw [e] at h; exact ⟨md.1, md.2, rfl, h⟩
def SOpRd (X : Cx) (g : Gh) (r : V → List V → Hp → VK → Prop) (o : SOp) : Prop := ∀ (σ : L2.St) (τ : List SV) (vs : List V) (ρ : PSt) (H : Hp) (a : Str) (y : V) (m : Bool) (d : D) (k : SV → Prop) (Q : VK), SR X.K g ρ σ τ vs H → ViewR X.K g H m d y → o a m d k →
  (∀ sv z H', SR X.K g ρ σ (sv :: τ) (z :: vs) H' → k sv → Q z H') → r (.str a) [y] H Q
theorem s1_rd {r : V → List V → Hp → VK → Prop} {o : SOp} (hr : SOpRd X g r o) {Ξ : RX} {τ : List SV} {vs : List V} {ρ : PSt} {Φ : RK} {σ : L2.St} {H : Hp} (S : SR X.K g ρ σ τ vs H) (hw : rS1 o pa pb ρ Φ Ξ) :
    tM1 r (tqe X g pa Ξ) (tqe X g pb Ξ) σ H fun v H' => ∃ sv ρ', SR X.K g ρ' σ (sv :: τ) (v :: vs) H' ∧ Φ sv ρ' := by
  refine ⟨τ, vs, ρ, _, S, hw, fun s1 ρ1 x H1 S1 h1 => ?_⟩
  split at h1
  · rename_i m a
    obtain ⟨u, e, ru⟩ := S1.top
    cases e
    cases (show x = V.str a from ru)
    refine ⟨⟨a, rfl⟩, .fr m (.str a) :: τ, .str a :: vs, ρ1, _, S1, h1, fun s2 ρ2 y H2 S2 h2 => ?_⟩
    obtain ⟨m2, d2, e2, q⟩ := rS1_view h2
    exact hr σ τ vs ρ2 H2 a y m2 d2 _ _ S2.pop.pop (view_ok S2 S2.top e2) q fun sv z H' S' k => ⟨sv, ρ2, S', k⟩
  · exact h1.elim
theorem s0_rd {r : V → List V → Hp → VK → Prop} {o : Str → (SV → Prop) → Prop} (hr : ∀ (a : Str) (k : SV → Prop) (H : Hp) (Q : VK), o a k → (∀ d z, k (.fr true d) → (∀ G H, Rep X.K G H d z) → Q z H) → r (.str a) [] H Q) {Ξ : RX} {τ : List SV} {vs : List V} {ρ : PSt} {Φ : RK} {σ : L2.St} {H : Hp} (S : SR X.K g ρ σ τ vs H) (hw : rS0 o pa ρ Φ Ξ) :
    tM0 r (tqe X g pa Ξ) σ H fun v H' => ∃ sv ρ', SR X.K g ρ' σ (sv :: τ) (v :: vs) H' ∧ Φ sv ρ' := by
  refine ⟨τ, vs, ρ, _, S, hw, fun s1 ρ1 x H1 S1 h1 => ?_⟩
  split at h1
  · rename_i m a
    obtain ⟨u, e, ru⟩ := S1.top
    cases e
    cases (show x = V.str a from ru)
    exact ⟨⟨a, rfl⟩, hr a _ H1 _ h1 fun d z k rz => ⟨_, ρ1, S1.pop.pushF (rz _ _), k⟩⟩
  · exact h1.elim
abbrev rJoinQ (K : PySem.W.Frag) : V → List V → Hp → VK → Prop := fun x xs H Q => ∃ a p, ∃ ys : List Str, x = V.str a ∧ xs = [.ref p] ∧ (SqL K H p (ys.map V.str) ∨ SqT K H p (ys.map V.str)) ∧
      (ys.map (·.length)).sum + ys.length * a.length ≤ 16777216 ∧ Q (.str (Txt.join a ys)) H
theorem rd_join : SOpRd X g (rJoinQ X.K) oJoin := by
  intro σ τ vs ρ H a y m d k Q S v h kk
  unfold oJoin at h
  split at h
  · obtain ⟨ys, rfl, hz, q⟩ := h
    obtain ⟨b, ws, rfl, c, r⟩ := v
    exact ⟨a, b, ys, rfl, rfl, .inl (.inl (by rw [← reps_strs r]; exact c)), hz, kk _ _ _ (S.pushF (m := true) (d := .str _) rfl) q⟩
  · obtain ⟨ys, rfl, hz, q⟩ := h
    obtain ⟨b, ws, rfl, c, r⟩ := v
    exact ⟨a, b, ys, rfl, rfl, .inr (by rw [← reps_strs r]; exact c), hz, kk _ _ _ (S.pushF (m := true) (d := .str _) rfl) q⟩
  · exact h.elim
theorem q_join {apos : Pos} (ha : QE X g a pa) (hb : QE X g b pb) (hs : starEach [b] X.env = [(false, eval b X.env)] := by rfl) (hbase : attributeBase a "join" X.env (eval a X.env) = eval a X.env := by rfl) (hline : (apos.endLine == pos.line) = true := by rfl) :
    QE X g (.Call (.Attribute a "join" apos) [b] [] pos) (rS1 oJoin pa pb) :=
  QE.of (fun Ξ tk => pe_join (ha.pe tk) (hb.pe tk) hs hbase hline) fun τ vs ρ Φ Ξ σ H S hw => s1_rd rd_join S hw
/-! ### methods of an own list -/
def MRd (X : Cx) (g : Gh) (r : V → List V → Hp → VK → Prop) (o : MOp) : Prop := ∀ (H : Hp) (a : Addr) (ws us : List V) (m m' : Bool) (xs ds : List D) (k : SV → Bool → List D → Prop) (Q : VK), H a = some (.lst ws) → Reps X.K (g.gm m) H xs ws → Reps X.K (g.gm m') H ds us → o m xs m' ds k →
  (∀ m3 d v m2 xs2 ws2, Rep X.K (g.gm m3) H d v → Reps X.K (g.gm m2) H xs2 ws2 → k (.fr m3 d) m2 xs2 → Q v (upd H a (.lst ws2))) → r (.ref a) us H Q
theorem rMS_ok {i : Nat} {o : MOp} {m' : Bool} {ds : List D} {ρ' : PSt} {k : RK} (h : (match ρ'[i]? with
  | some (.ol m xs) => o m xs m' ds fun r m2 xs2 => k r (ρ'.set i (.ol m2 xs2))
  | _ => False)) : ∃ m xs, ρ'[i]? = some (.ol m xs) ∧ o m xs m' ds fun r m2 xs2 => k r (ρ'.set i (.ol m2 xs2)) := by
  split at h
  · rename_i m xs e; exact ⟨m, xs, e, h⟩
  · exact h.elim
theorem rMS2_ok {i : Nat} {o : MOp} {ρ : PSt} {k : RK} {y : RX} (h : rMS2 i o ps ρ k y) : ∃ m xs, ρ[i]? = some (.ol m xs) ∧ rMS i o ps ρ k y := by
  unfold rMS2 at h
  split at h
  · rename_i m xs e; exact ⟨m, xs, e, h⟩
  · exact h.elim
/-- the slot's list after a method -/
theorem SR.mput {ρ : PSt} {σ : L2.St} {τ : List SV} {vs : List V} {H : Hp} {i : Nat} {m m2 m3 : Bool} {xs xs2 : List D} {ws ws2 : List V} {a : Addr} {d : D} {v : V} (S : SR X.K g ρ σ τ vs H) (hr : ρ[i]? = some (.ol m xs)) (hs : σ[i]? = some (some (.ref a))) (hH : H a = some (.lst ws))
    (r3 : Rep X.K (g.gm m3) H d v) (r2 : Reps X.K (g.gm m2) H xs2 ws2) : SR X.K g (ρ.set i (.ol m2 xs2)) σ (.fr m3 d :: τ) (v :: vs) (upd H a (.lst ws2)) := by
  have st : Stab H (upd H a (.lst ws2)) := stab_mut (by rw [hH]; trivial)
  have S2 := S.write (sv' := .ol m2 xs2) (o := .lst ws2) hr hs rfl (fun _ e => (Option.some.inj e).symm) rfl ⟨a, ws2, rfl, upd_same, Reps.mono (fun _ z => z) st _ _ r2⟩ (fun z => nomatch z)
  exact S2.pushF (Rep.mono (fun _ z => z) st _ _ r3)
theorem ol_slot {ρ : PSt} {σ : L2.St} {τ : List SV} {vs : List V} {H : Hp} {i : Nat} {m : Bool} {xs : List D} (S : SR X.K g ρ σ τ vs H) (hr : ρ[i]? = some (.ol m xs)) : ∃ a ws, σ[i]? = some (some (.ref a)) ∧ H a = some (.lst ws) ∧ Reps X.K (g.gm m) H xs ws := by
  obtain ⟨u, hu, ⟨a, ws, rfl, c, r⟩, _⟩ := S.slot hr
  exact ⟨a, ws, hu, c, r⟩
theorem q_ms (i : Nat) {x name : Str} {id : String} {r : V → List V → Hp → VK → Prop} {o : MOp} {apos np : Pos} (slot : Slot "list" name id) (hty : typeOf (.builtin id) = pure (.type "method_descriptor")) (hmt : MtM X id r) (hr : MRd X g r o) (hN : X.N[i]? = some x) (ha : QA X g (e :: es) ps)
    (hv : Vis X.env.scope x := by first | exact Or.inl rfl | exact Or.inr (Or.inl rfl) | exact Or.inr (Or.inr rfl)) (hd : (x == ("__debug__" : Str)) = false := by decide) (hcd : (x == ("__classdict__" : Str)) = false := by decide)
    (hbase : attributeBase (.Name x np) name X.env (eval (.Name x np) X.env) = eval (.Name x np) X.env := by rfl)
    (hfew : ((backTo pos (starEach (e :: es) X.env)).all (fun x => !x.1) && (backToKw pos (keywordEach [] X.env)).all (fun x => x.1.isSome)
      && decide ((e :: es).length + ([] : List Keyword).length + (if ([] : List Keyword).isEmpty then 0 else 1) < 30)) = true := by rfl)
    (hline : (apos.endLine == pos.line) = true := by rfl) (hs : starEach (e :: es) X.env = (false, eval e X.env) :: starEach es X.env := by rfl) (hplain : (backTo pos (starEach es X.env)).any (·.1) = false := by rfl) :
    QE X g (.Call (.Attribute (.Name x np) name apos) (e :: es) [] pos) (rMS2 i o ps) := by
  refine QE.of (fun Ξ tk => pe_bm F.plainAttrs_list slot hty hmt (pe_var (i := i) hN hv hd hcd) (ha.paT tk) hbase hfew hline hs hplain) fun τ vs ρ Φ Ξ σ H S hw => ?_
  obtain ⟨m0, xs0, e0, hw⟩ := rMS2_ok hw
  obtain ⟨a, ws0, hsl, c0, _⟩ := ol_slot S e0
  refine ⟨.ref a, hsl, .inl ⟨rfl, ws0, .inl (.inl c0)⟩, τ, vs, ρ, _, S, hw, fun m' ds ρ' us H' S' r' q => ?_⟩
  obtain ⟨m, xs, e1, q⟩ := rMS_ok q
  obtain ⟨b, ws, hsl2, c1, rs⟩ := ol_slot S' e1
  rw [hsl] at hsl2
  cases hsl2
  exact hr H' a ws us m m' xs ds _ _ c1 rs r' q fun m3 d v m2 xs2 ws2 r3 r2 k => ⟨_, _, S'.mput e1 hsl c1 r3 r2, k⟩
theorem q_ms0 (i : Nat) {x name : Str} {id : String} {r : V → List V → Hp → VK → Prop} {o : MOp} {apos np : Pos} (slot : Slot "list" name id) (hty : typeOf (.builtin id) = pure (.type "method_descriptor")) (hmt : MtM X id r) (hr : MRd X g r o) (hN : X.N[i]? = some x)
    (hv : Vis X.env.scope x := by first | exact Or.inl rfl | exact Or.inr (Or.inl rfl) | exact Or.inr (Or.inr rfl)) (hd : (x == ("__debug__" : Str)) = false := by decide) (hcd : (x == ("__classdict__" : Str)) = false := by decide)
    (hbase : attributeBase (.Name x np) name X.env (eval (.Name x np) X.env) = eval (.Name x np) X.env := by rfl) (hline : (apos.endLine == pos.line) = true := by rfl) :
    QE X g (.Call (.Attribute (.Name x np) name apos) [] [] pos) (rMS2 i o rNil) := by
  refine QE.of (fun Ξ tk => pe_bm0 F.plainAttrs_list slot hty hmt (pe_var (i := i) hN hv hd hcd) hbase hline) fun τ vs ρ Φ Ξ σ H S hw => ?_
  obtain ⟨m0, xs0, e0, hw⟩ := rMS2_ok hw
  obtain ⟨a, ws0, hsl, c0, rs0⟩ := ol_slot S e0
  refine ⟨.ref a, hsl, .inl ⟨rfl, ws0, .inl (.inl c0)⟩, ?_⟩
  obtain ⟨m', ds, ρ', e2, q⟩ := kTs_ok (show kTs (fun m' ds ρ' => match ρ'[i]? with
    | some (.ol m xs) => o m xs m' ds fun r m2 xs2 => Φ r (ρ'.set i (.ol m2 xs2))
    | _ => False) [] ρ from hw)
  cases e2
  obtain ⟨m, xs, e1, q⟩ := rMS_ok q
  rw [e0] at e1
  cases e1
  exact hr H a ws0 [] m0 true xs0 [] _ _ c0 rs0 rfl q fun m3 d v m2 xs2 ws2 r3 r2 k => ⟨_, _, S.mput e0 hsl c0 r3 r2, k⟩
theorem gm_and1 {K : PySem.W.Frag} {m m' : Bool} {H : Hp} {ds : List D} {ws : List V} (r : Reps K (g.gm m) H ds ws) : Reps K (g.gm (m && m')) H ds ws := Reps.mono (Gh.gm_mono fun h => (Bool.and_eq_true_iff.mp h).1) .refl _ _ r
theorem gm_and2 {K : PySem.W.Frag} {m m' : Bool} {H : Hp} {ds : List D} {ws : List V} (r : Reps K (g.gm m') H ds ws) : Reps K (g.gm (m && m')) H ds ws := Reps.mono (Gh.gm_mono fun h => (Bool.and_eq_true_iff.mp h).2) .refl _ _ r
theorem reps_1 {K : PySem.W.Frag} {G : Addr → Prop} {H : Hp} {d : D} {us : List V} (r : Reps K G H [d] us) : ∃ v, us = [v] ∧ Rep K G H d v := by
  obtain ⟨v, vs', e, a, b⟩ := r
  cases b
  exact ⟨v, e, a⟩
theorem md_append : MRd X g rAppend moAppend := by
  intro H a ws us m m' xs ds k Q c r r' h kk
  unfold moAppend at h
  split at h
  · rename_i d
    obtain ⟨v, rfl, rv⟩ := reps_1 r'
    refine ⟨a, ws, v, rfl, rfl, c, by rw [line_eq, ← reps_len r]; exact h.1, ?_⟩
    exact kk true .non .non _ _ _ rfl (reps_app (gm_and1 r) (gm_and2 (reps_one rv))) h.2
  · exact h.elim
theorem md_pop : MRd X g rPopAt moPop := by
  intro H a ws us m m' xs ds k Q c r r' h kk
  unfold moPop at h
  split at h
  · rename_i z
    obtain ⟨v, rfl, rv⟩ := reps_1 r'
    obtain ⟨⟨h1, h2⟩, j, y, hj, hy, q⟩ := h
    cases (show v = V.int z from rv)
    obtain ⟨w, hw, rw'⟩ := reps_get r hy
    exact ⟨a, ws, z, j, w, rfl, rfl, c, h1, h2, by rw [← reps_len r]; exact hj, hw, kk m y w _ _ _ rw' (reps_erase j r) q⟩
  · exact h.elim
theorem md_pop0 : MRd X g rPop moPop0 := by
  intro H a ws us m m' xs ds k Q c r r' h kk
  unfold moPop0 at h
  split at h
  · cases r'
    obtain ⟨y, hy, q⟩ := h
    obtain ⟨w, hw, rw'⟩ := reps_get r hy
    exact ⟨a, ws, w, rfl, rfl, c, by rw [← reps_len r]; exact hw, kk m y w _ _ _ rw' (reps_dropLast r) q⟩
  · exact h.elim
theorem md_clear : MRd X g rClear moClear := by
  intro H a ws us m m' xs ds k Q c r r' h kk
  unfold moClear at h
  split at h
  · cases r'
    exact ⟨a, ws, rfl, rfl, c, kk true .non .non true [] [] rfl rfl h⟩
  · exact h.elim
abbrev rExtendR : V → List V → Hp → VK → Prop := fun x vs H Q => ∃ l b xs zs, x = V.ref l ∧ vs = [.ref b] ∧ H l = some (.lst xs) ∧ Rd H b (.lst zs) ∧ xs.length + zs.length ≤ sizeLine ∧ Q .non (upd H l (.lst (xs ++ zs)))
theorem mt_extendR : MtM X "list.extend" rExtendR := by
  intro pins s σ H x vs v us Q I rx rv h
  obtain ⟨l, b, xs, zs, rfl, rfl, hH, hB, hz, q⟩ := h
  cases rx
  obtain ⟨u, rfl, ru⟩ := rv.one
  cases ru
  obtain ⟨z, its, n, r, hl, e⟩ := I.lstM hH
  obtain ⟨z2, its2, n2, r2, e2⟩ := hB.ok I.hok
  have hl2 := r2.length
  have hsz : its.toArray.size + its2.toArray.size ≤ sizeLine := by rw [List.size_toArray, List.size_toArray]; omega
  have hlong : ¬ (!its.toArray.isEmpty && Builtin.List.listTooLong (its.toArray.size + its2.toArray.size)) = true := by
    rw [notLongL hsz, Bool.and_false]
    exact Bool.false_ne_true
  refine call_meets F.slot_list_extend ⟨_, e, rfl⟩ F.entry_list_extend (F.args_list_extend_2 _ _)
    (AutoSeq1.list_extend_list_list_0 l its.toArray n b its2.toArray n2 hlong (by rw [List.size_toArray]; omega) (by omega)) ⟨e, e2, ?_⟩
  refine ⟨.non, _, I.lset (its' := its ++ its2) hH e (by simp) (r.append r2) ?_, rfl, q⟩
  rw [List.length_append]
  omega
theorem md_extend : MRd X g rExtendR moExtend := by
  intro H a ws us m m' xs ds k Q c r r' h kk
  unfold moExtend at h
  split at h
  · rename_i zs
    obtain ⟨v, rfl, b, us, rfl, f, rz⟩ := reps_1 r'
    refine ⟨a, b, ws, us, rfl, rfl, c, f.rd, by rw [line_eq, ← reps_len r, ← reps_len rz]; exact h.1, ?_⟩
    exact kk true .non .non _ _ _ rfl (reps_app (gm_and1 r) (gm_and2 rz)) h.2
  · exact h.elim
theorem q_append (i : Nat) {x : Str} {apos np : Pos} (hN : X.N[i]? = some x) (he : QE X g e p)
    (hv : Vis X.env.scope x := by first | exact Or.inl rfl | exact Or.inr (Or.inl rfl) | exact Or.inr (Or.inr rfl)) (hd : (x == ("__debug__" : Str)) = false := by decide) (hcd : (x == ("__classdict__" : Str)) = false := by decide)
    (hbase : attributeBase (.Name x np) "append" X.env (eval (.Name x np) X.env) = eval (.Name x np) X.env := by rfl)
    (hfew : ((backTo pos (starEach [e] X.env)).all (fun x => !x.1) && (backToKw pos (keywordEach [] X.env)).all (fun x => x.1.isSome)
      && decide ([e].length + ([] : List Keyword).length + (if ([] : List Keyword).isEmpty then 0 else 1) < 30)) = true := by rfl)
    (hline : (apos.endLine == pos.line) = true := by rfl) (hs : starEach [e] X.env = (false, eval e X.env) :: starEach [] X.env := by rfl) (hplain : (backTo pos (starEach [] X.env)).any (·.1) = false := by rfl) :
    QE X g (.Call (.Attribute (.Name x np) "append" apos) [e] [] pos) (rMS2 i moAppend (rCons p rNil)) :=
  q_ms i F.slot_list_append F.type_list_append mt_append md_append hN (qa_cons he qa_nil hs) hv hd hcd hbase hfew hline hs hplain
theorem q_extend (i : Nat) {x : Str} {apos np : Pos} (hN : X.N[i]? = some x) (he : QE X g e p)
    (hv : Vis X.env.scope x := by first | exact Or.inl rfl | exact Or.inr (Or.inl rfl) | exact Or.inr (Or.inr rfl)) (hd : (x == ("__debug__" : Str)) = false := by decide) (hcd : (x == ("__classdict__" : Str)) = false := by decide)
    (hbase : attributeBase (.Name x np) "extend" X.env (eval (.Name x np) X.env) = eval (.Name x np) X.env := by rfl)
    (hfew : ((backTo pos (starEach [e] X.env)).all (fun x => !x.1) && (backToKw pos (keywordEach [] X.env)).all (fun x => x.1.isSome)
      && decide ([e].length + ([] : List Keyword).length + (if ([] : List Keyword).isEmpty then 0 else 1) < 30)) = true := by rfl)
    (hline : (apos.endLine == pos.line) = true := by rfl) (hs : starEach [e] X.env = (false, eval e X.env) :: starEach [] X.env := by rfl) (hplain : (backTo pos (starEach [] X.env)).any (·.1) = false := by rfl) :
    QE X g (.Call (.Attribute (.Name x np) "extend" apos) [e] [] pos) (rMS2 i moExtend (rCons p rNil)) :=
  q_ms i F.slot_list_extend F.type_list_extend mt_extendR md_extend hN (qa_cons he qa_nil hs) hv hd hcd hbase hfew hline hs hplain
theorem q_popAt (i : Nat) {x : Str} {apos np : Pos} (hN : X.N[i]? = some x) (he : QE X g e p)
    (hv : Vis X.env.scope x := by first | exact Or.inl rfl | exact Or.inr (Or.inl rfl) | exact Or.inr (Or.inr rfl)) (hd : (x == ("__debug__" : Str)) = false := by decide) (hcd : (x == ("__classdict__" : Str)) = false := by decide)
    (hbase : attributeBase (.Name x np) "pop" X.env (eval (.Name x np) X.env) = eval (.Name x np) X.env := by rfl)
    (hfew : ((backTo pos (starEach [e] X.env)).all (fun x => !x.1) && (backToKw pos (keywordEach [] X.env)).all (fun x => x.1.isSome)
      && decide ([e].length + ([] : List Keyword).length + (if ([] : List Keyword).isEmpty then 0 else 1) < 30)) = true := by rfl)
    (hline : (apos.endLine == pos.line) = true := by rfl) (hs : starEach [e] X.env = (false, eval e X.env) :: starEach [] X.env := by rfl) (hplain : (backTo pos (starEach [] X.env)).any (·.1) = false := by rfl) :
    QE X g (.Call (.Attribute (.Name x np) "pop" apos) [e] [] pos) (rMS2 i moPop (rCons p rNil)) :=
  q_ms i F.slot_list_pop F.type_list_pop mt_popAt md_pop hN (qa_cons he qa_nil hs) hv hd hcd hbase hfew hline hs hplain
end
end Q

namespace Q
open PySem PySem.Spec PyProof.Rows L2
section
variable {X : Cx} {g : Gh} {a b c e ie value : Expr} {es : List Expr} {pa pb pc p pv pi : RE} {ps : RA} {pos p2 pos' : Pos}
/-! ### slot[e] = v -/
abbrev rSetQ : TSet := fun o i v H Q => rSetL o i v H Q ∨ rSetD o i v H Q
theorem set_Q (hu : X.A.units + 1 < cLine) : PSet X rSetQ := by
  intro pins s σ H o i v ov iv u Q I ro ri rv h
  rcases h with h | h
  · exact set_list pins s σ H o i v ov iv u Q I ro ri rv h
  · exact set_dict hu pins s σ H o i v ov iv u Q I ro ri rv h
theorem own_ref {ρ : PSt} {σ : L2.St} {τ : List SV} {vs : List V} {H : Hp} {i : Nat} {sv : SV} (S : SR X.K g ρ σ τ vs H) (hr : ρ[i]? = some sv) (ho : isOwn sv = true) : ∃ a, σ[i]? = some (some (.ref a)) := by
  obtain ⟨u, hu, z, _⟩ := S.slot hr
  cases sv with
  | ol m xs => obtain ⟨a, _, rfl, _⟩ := z; exact ⟨a, hu⟩
  | od m xs => obtain ⟨a, _, rfl, _⟩ := z; exact ⟨a, hu⟩
  | oe m xs => obtain ⟨a, _, rfl, _⟩ := z; exact ⟨a, hu⟩
  | so a kvs => obtain ⟨rfl, _⟩ := z; exact ⟨a, hu⟩
  | _ => cases ho
theorem od_slot {ρ : PSt} {σ : L2.St} {τ : List SV} {vs : List V} {H : Hp} {i : Nat} {m : Bool} {xs : List (Ky × D)} (S : SR X.K g ρ σ τ vs H) (hr : ρ[i]? = some (.od m xs)) : ∃ a ws, σ[i]? = some (some (.ref a)) ∧ H a = some (.dK ws) ∧ Repk X.K (g.gm m) H xs ws := by
  obtain ⟨u, hu, ⟨a, ws, rfl, c, r⟩, _⟩ := S.slot hr
  exact ⟨a, ws, hu, c, r⟩
theorem putIx_ok {ρ : PSt} {σ : L2.St} {τ : List SV} {vs : List V} {H : Hp} {i : Nat} {mv mi : Bool} {dv di : D} {v vi : V} {x : Addr} {k : PSt → Prop} (S : SR X.K g ρ σ τ vs H) (hs : σ[i]? = some (some (.ref x))) (rv : Rep X.K (g.gm mv) H dv v) (ri : ViewR X.K g H mi di vi) (h : putIx i mv dv di ρ k) :
    rSetQ (.ref x) vi v H fun H' => ∃ ρ', SR X.K g ρ' σ τ vs H' ∧ k ρ' := by
  unfold putIx at h
  split at h
  · rename_i m xs e
    obtain ⟨a, ws, h1, h2, h3⟩ := ol_slot S e
    rw [hs] at h1
    cases h1
    split at h
    · rename_i z
      obtain ⟨j, hj, q⟩ := h
      cases view_int ri
      refine .inl ⟨x, ws, z, j, rfl, rfl, h2, by rw [← reps_len h3]; exact hj, _, ?_, q⟩
      have st : Stab H (upd H x (.lst (ws.set j v))) := stab_mut (by rw [h2]; trivial)
      exact S.write (sv' := .ol (m && mv) (xs.set j dv)) (o := .lst (ws.set j v)) e hs rfl (fun _ e => (Option.some.inj e).symm) rfl ⟨x, _, rfl, upd_same, reps_set j (Reps.mono (Gh.gm_mono fun h => (Bool.and_eq_true_iff.mp h).1) st _ _ h3) (Rep.mono (Gh.gm_mono fun h => (Bool.and_eq_true_iff.mp h).2) st _ _ rv)⟩ (fun z => nomatch z)
    · exact h.elim
  · rename_i m kvs e
    obtain ⟨a, ws, h1, h2, h3⟩ := od_slot S e
    rw [hs] at h1
    cases h1
    obtain ⟨ky, hk, hl, q⟩ := h
    cases key_view hk ri
    refine .inr ⟨x, _, rfl, .inl ⟨ws, ky, h2, rfl, by rw [line_eq, ← repk_len h3]; exact hl, rfl⟩, _, ?_, q⟩
    have st : Stab H (upd H x (.dK (putK ws ky v))) := stab_mut (by rw [h2]; trivial)
    exact S.write (sv' := .od (m && mv) (dput kvs ky dv)) (o := .dK (putK ws ky v)) e hs rfl (fun _ e => (Option.some.inj e).symm) rfl ⟨x, _, rfl, upd_same, repk_put (Repk.mono (Gh.gm_mono fun h => (Bool.and_eq_true_iff.mp h).1) st _ _ h3) (Rep.mono (Gh.gm_mono fun h => (Bool.and_eq_true_iff.mp h).2) st _ _ rv)⟩ (fun z => nomatch z)
  · rename_i a kvs e
    obtain ⟨u, hu, ⟨rfl, ws, h2, h3⟩, _⟩ := S.slot e
    rw [hs] at hu
    cases hu
    obtain ⟨sf, ky, hk, hl, q⟩ := h
    cases key_view hk ri
    refine .inr ⟨_, _, rfl, .inl ⟨ws, ky, h2, rfl, by rw [line_eq, ← repk_len h3]; exact hl, rfl⟩, _, ?_, q⟩
    have st : Stab H (upd H x (.dK (putK ws ky v))) := stab_mut (by rw [h2]; trivial)
    exact S.write (sv' := .so x (dput kvs ky dv)) (o := .dK (putK ws ky v)) e hs rfl (fun _ e => (Option.some.inj e).symm) rfl ⟨rfl, _, upd_same, repk_put (Repk.mono (fun _ z => z) st _ _ h3) (rep_safe _ _ sf (Rep.mono (fun _ z => z) st _ _ rv))⟩ (fun _ => rfl)
  · exact h.elim
theorem q_setIx (i : Nat) {x : Str} {np : Pos} (hu : X.A.units + 1 < cLine) (hN : X.N[i]? = some x) (hi : QE X g ie pi) (hv : QE X g value pv)
    (hvi : Vis X.env.scope x := by first | exact Or.inl rfl | exact Or.inr (Or.inl rfl) | exact Or.inr (Or.inr rfl)) (hd : (x == ("__debug__" : Str)) = false := by decide) (hcd : (x == ("__classdict__" : Str)) = false := by decide)
    (ha : ∀ v, assign (.Subscript (.Name x np) ie pos') X.env v = (do
      let ov ← holding [v] (eval (.Name x np) X.env)
      let iv ← holding [v, ov] (eval ie X.env)
      standAt pos'
      holding [v, ov, iv] (setItem ov iv v)
      release [v, ov, iv] []) := by intro _; rfl)
    (hs : swapsWithSole [.Subscript (.Name x np) ie pos'] value pos.line X.env = pure false := by rfl) (hw : swappedStores [.Subscript (.Name x np) ie pos'] value X.env = pure none := by rfl)
    (h1 : (assignEach [.Subscript (.Name x np) ie pos'] X.env).map (·.2) = [assign (.Subscript (.Name x np) ie pos') X.env] := by rfl) :
    QS X g (.Assign [.Subscript (.Name x np) ie pos'] value pos) (rSetIx i pi pv) := by
  refine QS.of (fun Ξ tk => ps_asg (hv.peT tk) (pg_sub (pe_var (i := i) hN hvi hd hcd) (hi.pe tk) (set_Q hu) ha) hs hw h1) fun τ vs ρ D σ H nb S hw => ?_
  refine ⟨τ, vs, ρ, _, S, hw, fun mv dv ρ1 v H1 S1 rv q => ?_⟩
  cases e : ρ1[i]? with
  | none => rw [e] at q; exact q.elim
  | some sv =>
    rw [e] at q
    obtain ⟨ho, q⟩ := q
    obtain ⟨x, hx⟩ := own_ref S1 e ho
    refine ⟨.ref x, hx, .fr mv dv :: τ, v :: vs, ρ1, _, S1.pushF rv, q, fun si ρ2 vi H2 S2 h2 => ?_⟩
    obtain ⟨mi, di, e2, q2⟩ := kV_ok h2
    have vI := view_ok S2 S2.top e2
    obtain ⟨w, hw, rw'⟩ := S2.pop.top
    cases hw
    exact putIx_ok S2.pop.pop hx rw' vI q2
theorem oe_slot {ρ : PSt} {σ : L2.St} {τ : List SV} {vs : List V} {H : Hp} {i : Nat} {m : Bool} {xs : List (List Ky × D)} (S : SR X.K g ρ σ τ vs H) (hr : ρ[i]? = some (.oe m xs)) : ∃ a ws, σ[i]? = some (some (.ref a)) ∧ H a = some (.dT ws) ∧ Rept X.K (g.gm m) H xs ws := by
  obtain ⟨u, hu, ⟨a, ws, rfl, c, r⟩, _⟩ := S.slot hr
  exact ⟨a, ws, hu, c, r⟩
theorem rept_len {K : PySem.W.Frag} {G : Addr → Prop} {H : Hp} : ∀ {ds : List (List Ky × D)} {vs : List (List Ky × V)}, Rept K G H ds vs → ds.length = vs.length
  | [], _, h => by cases h; rfl
  | _ :: r, _, ⟨v, vs', e, _, b⟩ => by rw [e, List.length_cons, List.length_cons, rept_len b]
theorem putT_ok {ρ : PSt} {σ : L2.St} {τ : List SV} {vs : List V} {H : Hp} {i : Nat} {mv mi : Bool} {dv : D} {ds : List D} {v : V} {us : List V} {x q : Addr} {k : PSt → Prop} (S : SR X.K g ρ σ τ vs H) (hs : σ[i]? = some (some (.ref x))) (rv : Rep X.K (g.gm mv) H dv v) (ri : Reps X.K (g.gm mi) H ds us) (hq : H q = some (.tup us)) (h : putT i mv dv ds ρ k) :
    rSetQ (.ref x) (.ref q) v H fun H' => ∃ ρ', SR X.K g ρ' σ τ vs H' ∧ k ρ' := by
  unfold putT at h
  split at h
  · rename_i m kvs e
    obtain ⟨a, ws, h1, h2, h3⟩ := oe_slot S e
    rw [hs] at h1
    cases h1
    obtain ⟨hn, ky, hk, hl, z⟩ := h
    have eu := keys_view hk ri
    subst eu
    refine .inr ⟨x, _, rfl, .inr ⟨ws, ky, q, h2, rfl, hq, by rw [line_eq, ← rept_len h3]; exact hl, rfl⟩, _, ?_, z⟩
    have st : Stab H (upd H x (.dT (putK ws ky v))) := stab_mut (by rw [h2]; trivial)
    exact S.write (sv' := .oe (m && mv) (dputT kvs ky dv)) (o := .dT (putK ws ky v)) e hs rfl (fun _ e => (Option.some.inj e).symm) rfl ⟨x, _, rfl, upd_same, rept_put (Rept.mono (Gh.gm_mono fun h => (Bool.and_eq_true_iff.mp h).1) st _ _ h3) (Rep.mono (Gh.gm_mono fun h => (Bool.and_eq_true_iff.mp h).2) st _ _ rv)⟩ (fun z => nomatch z)
  · exact h.elim
theorem q_setIxT (i : Nat) {x : Str} {np tp : Pos} {kk : Nat} (hu : X.A.units + 1 < cLine) (hN : X.N[i]? = some x) (hi : QA X g es ps) (hv : QE X g value pv)
    (hvi : Vis X.env.scope x := by first | exact Or.inl rfl | exact Or.inr (Or.inl rfl) | exact Or.inr (Or.inr rfl)) (hd : (x == ("__debug__" : Str)) = false := by decide) (hcd : (x == ("__classdict__" : Str)) = false := by decide)
    (ha : ∀ v, assign (.Subscript (.Name x np) (.Tuple es kk tp) pos') X.env v = (do
      let ov ← holding [v] (eval (.Name x np) X.env)
      let iv ← holding [v, ov] (eval (.Tuple es kk tp) X.env)
      standAt pos'
      holding [v, ov, iv] (setItem ov iv v)
      release [v, ov, iv] []) := by intro _; rfl)
    (hs : swapsWithSole [.Subscript (.Name x np) (.Tuple es kk tp) pos'] value pos.line X.env = pure false := by rfl) (hw : swappedStores [.Subscript (.Name x np) (.Tuple es kk tp) pos'] value X.env = pure none := by rfl)
    (h1 : (assignEach [.Subscript (.Name x np) (.Tuple es kk tp) pos'] X.env).map (·.2) = [assign (.Subscript (.Name x np) (.Tuple es kk tp) pos') X.env] := by rfl) :
    QS X g (.Assign [.Subscript (.Name x np) (.Tuple es kk tp) pos'] value pos) (rSetIxT i ps pv) := by
  refine QS.of (fun Ξ tk => ps_asg (hv.peT tk) (pg_sub (pe_var (i := i) hN hvi hd hcd) (pe_tup (hi.paT tk)) (set_Q hu) ha) hs hw h1) fun τ vs ρ D σ H nb S hw => ?_
  refine ⟨τ, vs, ρ, _, S, hw, fun mv dv ρ1 v H1 S1 rv q => ?_⟩
  cases e : ρ1[i]? with
  | none => rw [e] at q; exact q.elim
  | some sv =>
    rw [e] at q
    obtain ⟨ho, q⟩ := q
    obtain ⟨x, hx⟩ : ∃ a, σ[i]? = some (some (.ref a)) := by
      cases sv with
      | oe m kvs => obtain ⟨a, ws, h1, _⟩ := oe_slot S1 e; exact ⟨a, h1⟩
      | _ => cases ho
    refine ⟨.ref x, hx, .fr mv dv :: τ, v :: vs, ρ1, _, S1.pushF rv, q, fun mi ds ρ2 us H2 S2 ri q2 => ?_⟩
    unfold putT at q2
    split at q2
    · rename_i m kvs e2
      obtain ⟨hn, ky, hk, hl, z⟩ := q2
      have le : us.length ≤ sizeLine := by
        rw [← reps_len ri, line_eq]
        exact hn
      refine ⟨le, fun p hp => ?_⟩
      have S3 := S2.new (o := .tup us) hp
      obtain ⟨w, hw, rw'⟩ := S3.top
      cases hw
      exact putT_ok (mi := mi) S3.pop hx rw' (Reps.mono (fun _ z => z) (stab_new hp) _ _ ri) upd_same (by unfold putT; rw [e2]; exact ⟨hn, ky, hk, hl, z⟩)
    · exact q2.elim
/-! ### dict displays -/
/-- a reading that its post-condition may be weakened in -/
structure QPm (X : Cx) (g : Gh) (keys : List (Option Expr)) (values : List Expr) (p : RP) : Prop where
  trs : ∀ Ξ, Takes X (WQ X g Ξ) → ∃ trs, (∀ pos, PPs X pos keys values trs) ∧ ∀ (τ : List SV) (vs : List V) (ρ : PSt) (Φ : Bool → List (Ky × D) → PSt → Prop) (σ : L2.St) (H : Hp) (Q : List (V × V) → Hp → Prop), SR X.K g ρ σ τ vs H → p ρ Φ Ξ →
    (∀ m kvs (kw : List (Key × V)) ρ' H', Repk X.K (g.gm m) H' kvs kw → SR X.K g ρ' σ τ vs H' → Φ m kvs ρ' → Q (kw.map (fun kv => (L2.kV kv.1, kv.2))) H') → tPairs trs σ H Q
theorem qpm_nil : QPm X g [] [] rpNil := ⟨fun Ξ tk => ⟨[], fun pos => pps_nil, fun τ vs ρ Φ σ H Q S h k => k true [] [] ρ H rfl S h⟩⟩
theorem qpm_cons {ks : List (Option Expr)} {vs' : List Expr} {k v : Expr} {pk pv : RE} {r : RP} (hk : QE X g k pk) (hv : QE X g v pv) (hr : QPm X g ks vs' r) : QPm X g (some k :: ks) (v :: vs') (rpCons pk pv r) := ⟨fun Ξ tk => by
  obtain ⟨trs, h1, h2⟩ := hr.trs Ξ tk
  refine ⟨_, fun pos => pps_cons (hk.pe tk) (hv.peT tk) (h1 pos), fun τ vs ρ Φ σ H Q S h kk => ?_⟩
  refine ⟨τ, vs, ρ, _, S, h, fun sk ρ1 x H1 S1 q1 => ?_⟩
  obtain ⟨mk, dk, e1, q1⟩ := kV_ok q1
  have vk := view_ok S1 S1.top e1
  refine ⟨τ, vs, ρ1, _, S1.pop, q1, fun m d ρ2 y H2 S2 ry q2 => ?_⟩
  refine h2 (.fr m d :: τ) (y :: vs) ρ2 _ σ H2 _ (S2.pushF ry) q2 fun m' kvs kw ρ3 H3 r3 S3 q3 => ?_
  obtain ⟨ky, hky, q3⟩ := q3
  obtain ⟨w, hw, rw'⟩ := S3.top
  cases hw
  have ex : x = L2.kV ky := key_view hky vk
  subst ex
  exact kk (m && m') ((ky, d) :: kvs) ((ky, y) :: kw) ρ3 H3 ⟨(ky, y), kw, rfl, (show ky = ky ∧ _ from ⟨rfl, Rep.mono (Gh.gm_mono fun h => (Bool.and_eq_true_iff.mp h).1) .refl _ _ rw'⟩), Repk.mono (Gh.gm_mono fun h => (Bool.and_eq_true_iff.mp h).2) .refl _ _ r3⟩ S3.pop q3⟩
theorem q_dict {keys : List (Option Expr)} {values : List Expr} {r : RP} (h : QPm X g keys values r) (hall : keys.all (·.isSome) = true := by rfl) (hl : keys.length = values.length := by rfl) (h0 : keys ≠ [] := by simp) (h15 : keys.length ≤ 15 := by decide) : QE X g (.Dict keys values pos) (rDict r) := by
  refine ⟨fun pins s σ H τ vs ρ Φ Ξ tk I S hw => ?_⟩
  obtain ⟨trs, h1, h2⟩ := h.trs Ξ tk
  refine thn ((pe_disp (h1 pos) hall hl h0 h15).run pins s σ H (fun v H' => ∃ sv ρ', SR X.K g ρ' σ (sv :: τ) (v :: vs) H' ∧ Φ sv ρ') I ?_) fun u s' ⟨v, H', I', rv, sv, ρ', S', q⟩ => ⟨v, H', sv, ρ', I', rv, S', q⟩
  intro p hp
  have S1 : SR X.K g ρ σ (.od true [] :: τ) (.ref p :: vs) (upd H p (.dK [])) := S.newOwn hp ⟨p, [], rfl, upd_same, rfl⟩
  refine h2 _ _ ρ _ σ _ _ S1 hw fun m kvs kw ρ' H' rk S' q => ?_
  obtain ⟨a, kw0, e, c, r0⟩ := S'.top
  cases e
  cases r0
  have ln := repk_len rk
  refine ⟨c, kw, rfl, by rw [← ln]; exact q.1, .od m (mergeD [] kvs), ρ', ?_, q.2⟩
  have st : Stab H' (upd H' p (.dK (mergeK [] kw))) := stab_mut (by rw [c]; trivial)
  exact SR.writeTop (sv' := .od m (mergeD [] kvs)) S' rfl (fun _ e => (Option.some.inj e).symm) rfl ⟨p, _, rfl, upd_same, repk_merge (Repk.mono (fun _ z => z) st _ _ rk) rfl⟩
theorem q_dict0 : QE X g (.Dict [] [] pos) rDict0 :=
  QE.of (t := fun _ => tDNewK) (fun _ _ => pe_dnewK) fun τ vs ρ Φ Ξ σ H S hw => fun p hp => ⟨.od true [], ρ, S.newOwn hp ⟨p, [], rfl, upd_same, rfl⟩, hw⟩
theorem q_dict0T : QE X g (.Dict [] [] pos) rDict0T :=
  QE.of (t := fun _ => tDNewT) (fun _ _ => pe_dnewT) fun τ vs ρ Φ Ξ σ H S hw => fun p hp => ⟨.oe true [], ρ, S.newOwn hp ⟨p, [], rfl, upd_same, rfl⟩, hw⟩
/-! ### the draws' store is made -/
end
end Q

namespace Q
open PySem PySem.Spec PyProof.Rows L2
/-! ### pins: a frozen cell that is kept in sight -/
def Gh.pinned (g : Gh) (z : Addr × Obj × HO) : Gh := { g with Z := (fun H => H z.1 = some (.frz z.2.1 z.2.2)) :: g.Z }
section
variable {K : PySem.W.Frag} {g : Gh} {ρ : PSt} {σ : L2.St} {τ : List SV} {vs : List V} {H : Hp} {z : Addr × Obj × HO}
theorem SR.topin (S : SR K g ρ σ τ vs H) (h : H z.1 = some (.frz z.2.1 z.2.2)) : SR K (g.pinned z) ρ σ τ vs H :=
  ⟨S.len, S.tlen, S.all, S.inj, S.own, S.keep, S.tabs, S.gnew, fun y hy => (List.mem_cons.mp hy).elim (fun e => by rw [e]; exact ⟨fun _ _ st e => st.frz _ _ _ e, h⟩) (S.pin y), S.nb, S.snew⟩
theorem SR.unpin (S : SR K (g.pinned z) ρ σ τ vs H) : SR K g ρ σ τ vs H :=
  ⟨S.len, S.tlen, S.all, S.inj, S.own, S.keep, S.tabs, S.gnew, fun y hy => S.pin y (List.mem_cons_of_mem _ hy), S.nb, S.snew⟩
theorem SR.pin1 (S : SR K (g.pinned z) ρ σ τ vs H) : H z.1 = some (.frz z.2.1 z.2.2) := (S.pin _ List.mem_cons_self).2
end
theorem takes_pin {X : Cx} {g : Gh} {Ξ : RX} (z : Addr × Obj × HO) (tk : Takes X (WQ X g Ξ)) : Takes X (WQ X (g.pinned z) Ξ) := Takes.imp tk fun c d σ H h => by
  obtain ⟨x, ρ, τ, vs, S, ok, h⟩ := h
  exact ⟨x, ρ, τ, vs, S.unpin, ok, h⟩
theorem key_kv {K : PySem.W.Frag} {G : Addr → Prop} {H : Hp} (k : Ky) : Rep K G H (kyD k) (L2.kV k) := by
  cases k <;> rfl
theorem repk_at {K : PySem.W.Frag} {G : Addr → Prop} {H : Hp} : ∀ {ds : List (Ky × D)} {vs : List (Ky × V)} {i : Nat} {p : Ky × V}, Repk K G H ds vs → vs[i]? = some p → ∃ d, ds[i]? = some d ∧ p.1 = d.1 ∧ Rep K G H d.2 p.2
  | [], _, _, _, r, h => by cases r; simp at h
  | x :: r, _, 0, p, ⟨v, vs', e, a, _⟩, h => by
    subst e
    simp at h
    subst h
    exact ⟨x, rfl, (repk1 a).1, (repk1 a).2⟩
  | x :: r, _, i + 1, p, ⟨v, vs', e, _, b⟩, h => by
    subst e
    simp at h
    obtain ⟨d, h1, h2⟩ := repk_at b h
    exact ⟨d, by simpa using h1, h2⟩
section
variable {X : Cx} {g : Gh} {tg e : Expr} {p : RE} {pos apos cpos : Pos}
/-! ### over the signs of a text -/
theorem qi_str (h : QE X g e p) : QI X g tg e (riS p) := fun Ξ tk => PI.imp (pi_str (h.pe tk)) fun σ H R ⟨τ, vs, ρ, Φ, S, hw, k⟩ => by
  refine ⟨τ, vs, ρ, _, S, hw, fun sv ρ' v H' S' q => ?_⟩
  split at q
  · rename_i m x
    obtain ⟨u, e, ru⟩ := S'.top
    cases e
    cases (show v = V.str x from ru)
    refine ⟨x, rfl, k (Its x) true _ ρ' [] [] H' S'.pop ⟨?_, ?_, ?_, fun sv h => absurd h (by simp), rfl⟩ q⟩
    · intro i ρ σ τ vs H S hi
      show i < x.cps.size
      simpa using hi
    · intro ρ σ τ vs H S
      show x.cps.size ≤ _
      simp
    · intro i ρ σ τ vs H v H' S hi y
      obtain ⟨rfl, c, hc, rfl⟩ := y
      refine ⟨.str ⟨#[c]⟩, ?_, S.pushF rfl⟩
      rw [List.getElem?_map, Array.getElem?_toList, hc]
      rfl
  · exact q.elim
/-! ### over the keys of a dict -/
theorem q_forK {js : List Nat} {r : RG} {body : List Stmt} {rb : RS} (hp : PassesOwn (model X.prog X.w) X.A X.env X.xe) (hc : X.calm = true) (he : QE X g e p) (hg : ∀ z, QG X (g.pinned z) js tg r) (hb : ∀ z, QSs X (g.pinned z) body rb)
    (hbase : attributeBase e "keys" X.env (eval e X.env) = eval e X.env := by rfl) (hline : (apos.endLine == cpos.line) = true := by rfl)
    (hs : ∀ x, foldedSetIterable (.Call (.Attribute e "keys" apos) [] [] cpos) X.env x = pure x := by intro _; rfl) : QS X g (.For tg (.Call (.Attribute e "keys" apos) [] [] cpos) body [] pos) (rFor (riK p) r rb) := by
  have hgU : PG X tg (fun v σ H Q => ∃ z, tqg X (g.pinned z) js r v σ H Q) := ⟨fun pins s σ H v u Q I rv ⟨z, h⟩ => (hg z).pg.run pins s σ H v u Q I rv h⟩
  have hbU : ∀ Ξ, Takes X (WQ X g Ξ) → PSs X body (fun E σ H => ∃ z, tqs X (g.pinned z) rb Ξ E σ H) := fun Ξ tk => ⟨fun pins s σ H E I ⟨z, h⟩ => ((hb z).pss (takes_pin z tk)).run pins s σ H E I h⟩
  refine QS.of (fun Ξ tk => ps_for hp hc (pi_keysM (he.peT tk) hbase hline) hgU (hbU Ξ tk) hs) fun τ vs ρ D σ H nb S hw => ?_
  refine ⟨τ, vs, ρ, _, S, hw, fun m d ρ1 v H1 S1 rv q => ?_⟩
  cases d with
  | dk kvs =>
    obtain ⟨Iv, i0, turn, fin⟩ := q
    obtain ⟨a, kw, rfl, fz, rk⟩ := id rv
    obtain ⟨_, o, fo⟩ := fz
    have ln := repk_len rk
    refine ⟨a, o, kw, rfl, fo, ?_⟩
    have S2 : SR X.K (g.pinned (a, o, .dK kw)) ρ1 σ (.fr m (.dk kvs) :: τ) (.ref a :: vs) H1 := (S1.pushF rv).topin fo
    have nb2 : NoBor (.fr m (.dk kvs) :: τ) := fun sv h => (List.mem_cons.mp h).elim (fun z => by rw [z]; rfl) (nb sv)
    refine ⟨fun i n σ H => n = kvs.length - i ∧ i ≤ kvs.length ∧ ∃ ρ, SR X.K (g.pinned (a, o, .dK kw)) ρ σ (.fr m (.dk kvs) :: τ) (.ref a :: vs) H ∧ Iv i ρ, ⟨kvs.length, by simp, Nat.zero_le _, ρ1, S2, i0⟩, ?_⟩
    rintro i n σ H ⟨rfl, hi, ρ, S, iv⟩
    have fo := S.pin1
    by_cases hlt : i < kvs.length
    · refine .inr ⟨⟨fo, by rw [← ln]; exact hlt⟩, fun σ' H' => i + 1 ≤ kvs.length ∧ ∃ ρ, SR X.K (g.pinned (a, o, .dK kw)) ρ σ' (.fr m (.dk kvs) :: τ) (.ref a :: vs) H' ∧ Iv (i + 1) ρ, fun σ' H' ⟨h1, h2⟩ => ⟨kvs.length - (i + 1), by omega, rfl, h1, h2⟩, fun v H' y => ?_⟩
      obtain ⟨rfl, k, w', hk, rfl⟩ := y
      obtain ⟨dp, hdp, hk1, _⟩ := repk_at rk hk
      have hk1 : k = dp.1 := hk1
      subst hk1
      refine ⟨(a, o, .dK kw), .fr m (.dk kvs) :: τ, .ref a :: vs, ρ, .fr true (kyD dp.1), _, nb2, rfl, S.pushF (key_kv _), turn i (kyD dp.1) ρ (by rw [List.getElem?_map, hdp]; rfl) iv, fun ρ2 σ2 H2 S2 z _ => ?_⟩
      refine ⟨(a, o, .dK kw), .fr m (.dk kvs) :: τ, .ref a :: vs, ρ2, { D with nx := Iv (i + 1), ct := Iv (i + 1), bk := D.nx }, nb2, rfl, S2, z, fun ρ' σ' H' S' z => ⟨hlt, ρ', S', z⟩, fun sv ρ' v σ' H' S' z => ?_, fun ρ' σ' H' S' z => ⟨ρ', S'.pop.unpin, z⟩, fun ρ' σ' H' S' z => ⟨hlt, ρ', S', z⟩⟩
      exact ⟨σ', sv, ρ', (SR.drop (svs := [.fr m (.dk kvs)]) (us := [.ref a]) rfl (S'.sink (svs := [.fr m (.dk kvs)]) (us := [.ref a]) rfl)).unpin, z⟩
    · have e : i = kvs.length := by omega
      subst e
      exact .inl ⟨⟨fo, by rw [← ln]; exact Nat.le_refl _⟩, ρ, S.pop.unpin, fin ρ (by simpa using iv)⟩
  | _ => exact q.elim
end
end Q

namespace Q
open PySem PySem.Spec PyProof.Rows L2
/-! ### calls with keywords -/
theorem permL_range {α : Type} (l : List α) : permL (List.range l.length) l = l := by
  unfold permL
  apply List.ext_getElem?
  intro i
  have e : (List.range l.length).filterMap (fun i => l[i]?) = l := by
    induction l with
    | nil => rfl
    | cons a l ih =>
      rw [List.length_cons, List.range_succ_eq_map, List.filterMap_cons, List.filterMap_map]
      simp only [List.getElem?_cons_zero]
      congr 1
  rw [e]
theorem permL_perm {α : Type} {pm : List Nat} {l : List α} (h : pm.Perm (List.range pm.length)) (hl : l.length = pm.length) : (permL pm l).Perm l := by
  have := h.filterMap (fun i => l[i]?)
  rw [← hl] at this
  exact this.trans (by rw [show (List.range l.length).filterMap (fun i => l[i]?) = l from permL_range l])
theorem permL_zip {α β : Type} {a : List α} {b : List β} (hl : a.length = b.length) : ∀ pm : List Nat, permL pm (a.zip b) = (permL pm a).zip (permL pm b)
  | [] => rfl
  | i :: pm => by
    have ih := permL_zip hl pm
    unfold permL at ih ⊢
    rw [List.filterMap_cons, List.filterMap_cons, List.filterMap_cons]
    by_cases hi : i < a.length
    · rw [List.getElem?_eq_getElem hi, List.getElem?_eq_getElem (show i < b.length by omega), List.getElem?_eq_getElem (show i < (a.zip b).length by rw [List.length_zip]; omega)]
      simp only [List.zip_cons_cons, List.getElem_zip]
      rw [ih]
    · rw [List.getElem?_eq_none (show a.length ≤ i by omega), List.getElem?_eq_none (show b.length ≤ i by omega), List.getElem?_eq_none (show (a.zip b).length ≤ i by rw [List.length_zip]; omega)]
      exact ih
theorem permL_map {α β : Type} (f : α → β) (l : List α) : ∀ pm : List Nat, permL pm (l.map f) = (permL pm l).map f
  | [] => rfl
  | i :: pm => by
    have ih := permL_map f l pm
    unfold permL at ih ⊢
    rw [List.filterMap_cons, List.filterMap_cons, List.getElem?_map]
    cases l[i]? with
    | none => exact ih
    | some x => simp only [Option.map_some, List.map_cons]; rw [ih]
theorem permL_len {α β : Type} {a : List α} {b : List β} (hl : a.length = b.length) : ∀ pm : List Nat, (permL pm a).length = (permL pm b).length
  | [] => rfl
  | i :: pm => by
    have ih := permL_len hl pm
    unfold permL at ih ⊢
    rw [List.filterMap_cons, List.filterMap_cons]
    by_cases hi : i < a.length
    · rw [List.getElem?_eq_getElem hi, List.getElem?_eq_getElem (show i < b.length by omega)]
      simp only [List.length_cons]; rw [ih]
    · rw [List.getElem?_eq_none (show a.length ≤ i by omega), List.getElem?_eq_none (show b.length ≤ i by omega)]
      exact ih
theorem permL_vals {pm : List Nat} {ws : List V} {us : List Value} (r : Vals ws us) : Vals (permL pm ws) (permL pm us) := by
  induction pm with
  | nil => exact .nil
  | cons i pm ih =>
    have hl := r.length
    unfold permL at ih ⊢
    rw [List.filterMap_cons, List.filterMap_cons]
    by_cases hi : i < ws.length
    · obtain ⟨u, hu, ru⟩ := r.get (List.getElem?_eq_getElem hi)
      rw [List.getElem?_eq_getElem hi, hu]
      exact .cons ru ih
    · rw [List.getElem?_eq_none (show ws.length ≤ i by omega), List.getElem?_eq_none (show us.length ≤ i by omega)]
      exact ih
/-- the binding of such a call -/
def KwB (K : PySem.W.Frag) (fd : FuncData) (ps ks : List Str) (pm : List Nat) : Prop := ∀ (s : Shared) (us ws : List Value), K.In s.heap → ws.length = ks.length → (us ++ ws).length = pm.length → BindsTo s fd ⟨us, ks.zip ws⟩ (ps.zip (permL pm (us ++ ws)))
theorem kwB {x qual : Str} {st : Stmt} {f : Addr} {fd : FuncData} {ps ks : List Str} {pm : List Nat} {K : PySem.W.Frag} (n0 : Nat) (hn : pm.length = n0 + ks.length) (F : Fun K x qual st f fd)
    (h : ∀ (kV doc pmv : Value) (an : Option Addr) (cdv ct : Value) (us ws : List Value), us.length = n0 → ws.length = ks.length → bindArgs (PySem.W.fnOf x qual (defArgs st) (defBody st) (defScope st) .none kV doc pmv an cdv ct) ⟨us, ks.zip ws⟩ = pure (ps.zip (permL pm (us ++ ws)))) : KwB K fd ps ks pm := by
  obtain ⟨oc, od, kV, doc, pmv, an, cdv, ct, osl, rfl, lk, hcd⟩ := F.ex
  exact fun s us ws _ h1 h2 => .of_eq (h kV doc pmv an cdv ct us ws (by rw [List.length_append] at h2; omega) h1)
section
variable {X : Cx} {g : Gh} {pins : List (Addr × Obj)} {s : Shared} {σ : L2.St}
theorem run_fnA {H : Hp} {k : Nat} {f : Addr} {fd : FuncData} {ps : List Str} {sp : Sp} {us all : List Value} {kw : List (Str × Value)} {vs : List V} {Q : VK} {E : XK} {W : WX} (F : FnOk X.prog X.w X.K X.mg X.base (L2.CX X.prog X.w) k f fd ps sp) (hr : Room k X.A)
    (hb : all.length = ps.length → BindsTo s fd ⟨us, kw⟩ (ps.zip all)) (tk : Takes X W) (I : L2.Inv X pins σ H s) (r : Vals vs all) (h : sp vs H Q E) (hE : ∀ c d H', Stab0 H H' → E c d H' → W c d σ H') :
    wpAny (model X.prog X.w) X.A (call (.ref f) us kw) (fun u s' => ∃ v H', L2.Inv X pins σ H' s' ∧ RelV v u ∧ Stab0 H H' ∧ Q v H') X.xe s := by
  have hl : all.length = ps.length := by rw [← r.length]; exact F.len _ _ _ _ h
  refine wpAny_call (codeAny_mono (F.run X.A X.stack s H ⟨us, kw⟩ all vs Q E hr I.env0 (hb hl) r h) fun res s' hq => ?_)
  cases res with
  | error e =>
    obtain ⟨a, B, H', cls, d, e1, fl, hok, ub, na, os, ag, z⟩ := hq
    exact tk _ _ (XE.of_call (E := fun c d H' => Stab0 H H' ∧ E c d H') I (fun c d H' q => hE c d H' q.1 q.2) ⟨a, B, H', cls, d, e1, fl, hok, ub, na, os, ag, ⟨ub.frzs, ub.tups⟩, z⟩)
  | ok fl =>
    cases fl with
    | ret u =>
      obtain ⟨v, H', os, bare, un, hok, rv, q⟩ := hq
      obtain ⟨hh, gg, dd, t, os'⟩ := s'
      obtain rfl : os' = s.os := os
      exact ⟨v, H', I.call (h' := hh) (g' := gg) (d' := dd) (t' := t) (ch := []) un hok bare (fun b z => absurd z (by simp)), rv, ⟨un.frzs, un.tups⟩, q⟩
    | next => exact False.elim hq
    | brk => exact False.elim hq
    | cont => exact False.elim hq
theorem call_coreA {k : Nat} {f : Addr} {fd : FuncData} {ps : List Str} {ms : List Mode} {qs : QSpec} {us all : List Value} {kw : List (Str × Value)} {ws : List V} {svs : List SV} {ρ : PSt} {τ : List SV} {vs : List V} {H : Hp} {Φ : RK} {Ξ : RX} {m : Bool} {ds : List D} {ρ2 : PSt}
    (F : FnOk X.prog X.w X.K X.mg X.base (L2.CX X.prog X.w) k f fd ps (spQ X.K g.T ms qs)) (hr : Room k X.A) (hb : all.length = ps.length → BindsTo s fd ⟨us, kw⟩ (ps.zip all)) (h1 : (ms.filter isT).length ≤ 1)
    (tk : Takes X (WQ X g Ξ)) (I : L2.Inv X pins σ H s) (r : Vals ws all) (hl : svs.length = ws.length) (S : SR X.K g ρ σ (svs ++ τ) (ws ++ vs) H) (hp : passAll ms svs ρ = some (m, ds, ρ2)) (hq : qs ds (fun r => Φ (r.dem m) ρ2) (fun e => Ξ e ρ2)) :
    wpAny (model X.prog X.w) X.A (call (.ref f) us kw) (QEnd X g pins σ τ vs Φ) X.xe s := by
  obtain ⟨H2, I2, S2, ra, _⟩ := passAll_ok svs ms ws ρ ρ2 H m ds τ vs I hl S hp
  have rA := argsQ_R S2 ra
  have hM := argsQ_M ra
  have nd : (mOf ms ds).Nodup := stoM_nodup S2 (Nat.le_trans (mOf_le ms ds) h1)
  have hsc : ∀ a, ((mOf ms ds ≠ [] ∧ g.S a) ∨ H2 a = none) → g.S a := fun a z => z.elim And.right fun z => S2.snew a (S2.free z)
  refine thn (run_fnA (Q := fun v H3 => ∃ sv σ0, CallR' X.K g.T g.S (mOf ms ds) H2 H3 ∧ SVR X.K ⟨g.gm m, [], g.T, H2, [], fun a => (mOf ms ds ≠ [] ∧ g.S a) ∨ H2 a = none⟩ H3 σ0 sv (some v) ∧ sv.isBor = false ∧ (∀ a, Own sv (some v) a → H2 a = none) ∧ Φ (sv.dem m) ρ2)
    (E := fun c d H3 => ∃ x, CallR' X.K g.T g.S (mOf ms ds) H2 H3 ∧ ExnOk X.K g H3 x c d ∧ Ξ x ρ2) F hr hb tk I2 r ?_ ?_) fun u s' hx => ?_
  · refine ⟨g.gm m, fun a => (mOf ms ds ≠ [] ∧ g.S a) ∨ H2 a = none, ds, fun r => Φ (r.dem m) ρ2, fun e => Ξ e ρ2, fun a ha _ => S2.gnew a (S2.free ha), fun a ha => .inr ha, fun z a h => h.elim (fun q => absurd z q.1) id, S2.tabs, argsR_up (fun a ha b hb => .inl ⟨fun z => (by rw [z] at ha; cases ha), hb⟩) rA, nd, hq, ?_, ?_⟩
    · intro sv v H3 σ0 c hs hb ho hR
      exact ⟨sv, σ0, c.up hsc, hs, hb, ho, hR⟩
    · intro x c d H3 c2 ok hF
      exact ⟨x, c2.up hsc, ok, hF⟩
  · intro c d H3 st hx
    obtain ⟨x, c2, ok, hF⟩ := hx
    exact ⟨x, ρ2, τ, vs, S2.called hM c2 st, ok, hF⟩
  · obtain ⟨v, H3, I3, rv, st, sv, σ0, c, hs, hb2, ho, hR⟩ := hx
    have S3 := S2.called hM c st
    refine ⟨v, H3, sv.dem m, ρ2, I3, rv, S3.push (svr_dem hsc hb2 hs) fun a e => ?_, hR⟩
    rw [own_dem] at e
    have hn := ho a e
    refine ⟨.inl (S2.free hn), fun q hq z => ?_⟩
    obtain ⟨_, w, hw, _⟩ := svr_own (S2.all q hq) z
    rw [hn] at hw
    cases hw
end
/-! ### the keywords' values -/
structure QKw (X : Cx) (g : Gh) (kws : List Keyword) (p : RA) : Prop where
  pk : ∀ Ξ, Takes X (WQ X g Ξ) → PK X kws (tqa X g p Ξ)
section
variable {X : Cx} {g : Gh} {e : Expr} {es : List Expr} {kws : List Keyword} {p : RE} {pa pk : RA} {nm : Option Str} {kpos pos np : Pos}
theorem qk_nil : QKw X g [] rNil := ⟨fun Ξ tk => ⟨fun pos pins s σ H Q I ⟨τ, vs, ρ, Φ, S, h, k⟩ => pk_nil.run pos pins s σ H Q I (k [] ρ [] H rfl S h)⟩⟩
theorem qk_cons (ha : QE X g e p) (hr : QKw X g kws pk) : QKw X g (⟨nm, e, kpos⟩ :: kws) (rCons p pk) := ⟨fun Ξ tk => ⟨fun pos pins s σ H Q I ⟨τ, vs, ρ, Φ, S, h, k⟩ => by
  refine (pk_cons (ha.pe tk) (hr.pk Ξ tk)).run pos pins s σ H Q I ⟨τ, vs, ρ, _, S, h, fun sv ρ1 v H1 S1 h1 => ?_⟩
  refine ⟨sv :: τ, v :: vs, ρ1, _, S1, h1, fun svs ρ2 us H2 hl S2 h2 => ?_⟩
  exact k (sv :: svs) ρ2 (v :: us) H2 (by simp [hl]) (S2.lift hl) h2⟩⟩
/-- behind both kinds of arguments, permuted -/
theorem SR.permArgs {K : PySem.W.Frag} {ρ : PSt} {σ : L2.St} {τ : List SV} {vs : List V} {H : Hp} {sp sk : List SV} {up uk : List V} {pm : List Nat} (S : SR K g ρ σ (sk ++ (sp ++ τ)) (uk ++ (up ++ vs)) H) (h1 : sp.length = up.length) (h2 : sk.length = uk.length)
    (hp : pm.Perm (List.range pm.length)) (hl : (sp ++ sk).length = pm.length) : SR K g ρ σ (permL pm (sp ++ sk) ++ τ) (permL pm (up ++ uk) ++ vs) H := by
  have hl2 : (sp ++ sk).length = (up ++ uk).length := by simp [h1, h2]
  have e1 : (permL pm (sp ++ sk)).length = (permL pm (up ++ uk)).length := permL_len hl2 pm
  have t0 := S.tlen
  refine S.perm (by rw [List.length_append, List.length_append, e1]; simp only [List.length_append] at t0; omega) ?_
  rw [List.map_append, List.map_append, List.map_append, List.zip_append (by simp [h2]), List.zip_append (by simp [h1]), List.zip_append (by rw [List.length_map]; exact e1)]
  rw [← permL_map, ← permL_zip (by rw [List.length_map]; exact hl2), List.map_append, List.zip_append (by simp [h1])]
  have pp : (permL pm (sp.zip (up.map some) ++ sk.zip (uk.map some))).Perm (sp.zip (up.map some) ++ sk.zip (uk.map some)) := permL_perm hp (by rw [← hl]; simp [h1, h2])
  refine List.Perm.trans ?_ (pp.symm.append_right _)
  rw [← List.append_assoc]
  exact List.Perm.append_right _ List.perm_append_comm
theorem rCallK_ok {ms : List Mode} {qs : QSpec} {svs : List SV} {ρ1 : PSt} {k : RK} {x : RX} (h : (match passAll ms svs ρ1 with
  | some (m, ds, ρ2) => qs ds (fun r => k (r.dem m) ρ2) (fun e => x e ρ2)
  | none => False)) : ∃ m ds ρ2, passAll ms svs ρ1 = some (m, ds, ρ2) ∧ qs ds (fun r => k (r.dem m) ρ2) (fun e => x e ρ2) := by
  split at h
  · rename_i m ds ρ2 e; exact ⟨m, ds, ρ2, e, h⟩
  · exact h.elim
theorem q_callK {k n0 : Nat} {f : Addr} {fd : FuncData} {ps ks : List Str} {ms : List Mode} {qs : QSpec} {x : Str} {pm : List Nat}
    (F : FnOk X.prog X.w X.K X.mg X.base (L2.CX X.prog X.w) k f fd ps (spQ X.K g.T ms qs)) (hr : Room k X.A) (hg : Gl X x) (hm : X.mg x = some (.ref f)) (hk : PySem.W.keepIn X.K (.ref f) = true) (hb : KwB X.K fd ps ks pm)
    (ha : QA X g (e :: es) pa) (hkw : QKw X g kws pk) (hkn : pm.length = n0 + ks.length := by rfl) (hpm : pm.Perm (List.range pm.length) := by decide) (h1 : (ms.filter isT).length ≤ 1 := by decide)
    (hall : (backToKw pos (keywordEach kws X.env)).all (·.1.isSome) = true := by rfl) (hks : (backToKw pos (keywordEach kws X.env)).filterMap (·.1) = ks := by rfl)
    (hdb : (x == ("__debug__" : Str)) = false := by decide) (he : starEach (e :: es) X.env = (false, eval e X.env) :: starEach es X.env := by rfl)
    (hpl : ((backTo pos (starEach (e :: es) X.env)).any (·.1) || (backToKw pos (keywordEach kws X.env)).any (·.1.isNone)) = false := by rfl) : QE X g (.Call (.Name x np) (e :: es) kws pos) (rCallK ms qs n0 pm pa pk) := by
  refine ⟨fun pins s σ H τ vs ρ Φ Ξ tk I S hw => ?_⟩
  refine wpAny_Call_Name_kw (ld_glob I hg hm ?_ hdb)
  refine PySem.W.callWith_KW (h₀ := X.base) I.ok.mod.kin hk hall (thn (ha.run pos pins s σ H τ vs ρ _ Ξ tk I S hw) fun us s1 hx => ?_) hpl he
  obtain ⟨up, H1, svp, ρ1, I1, rp, hlp, S1, q1⟩ := hx
  refine thn ((hkw.pk Ξ tk).run pos pins s1 σ H1 (fun zs H' => ∃ svs ρ', svs.length = zs.length ∧ SR X.K g ρ' σ (svs ++ (svp ++ τ)) (zs ++ (up ++ vs)) H' ∧ _) I1 ⟨_, _, ρ1, _, S1, q1, fun svs ρ' us H' hl S' q => ⟨svs, ρ', hl, S', q⟩⟩) fun ws s2 ⟨zs, H2, I2, rz, svs, ρ2, hl, S2, q2⟩ => ⟨I2.kIn, ?_⟩
  rw [hks]
  obtain ⟨hz, q2⟩ := q2
  obtain ⟨m, ds, ρ3, e1, q3⟩ := rCallK_ok q2
  have lk : (svp ++ svs).length = pm.length := hz.2
  have l0 := hz.1
  rw [List.length_append] at lk
  have l1 := rp.length
  have l2 := rz.length
  have S3 := SR.permArgs S2 hlp hl hpm hz.2
  refine call_coreA (us := us) (all := permL pm (us ++ ws)) (ws := permL pm (up ++ zs)) (svs := permL pm (svp ++ svs)) F hr (fun _ => hb s2 us ws I2.kIn ?_ ?_) h1 tk I2 (permL_vals (rp.append rz)) (permL_len (by simp [hlp, hl]) pm) S3 e1 q3
  · omega
  · rw [List.length_append]; omega
theorem q_callK0 {k : Nat} {f : Addr} {fd : FuncData} {ps ks : List Str} {ms : List Mode} {qs : QSpec} {x : Str} {pm : List Nat}
    (F : FnOk X.prog X.w X.K X.mg X.base (L2.CX X.prog X.w) k f fd ps (spQ X.K g.T ms qs)) (hr : Room k X.A) (hg : Gl X x) (hm : X.mg x = some (.ref f)) (hk : PySem.W.keepIn X.K (.ref f) = true) (hb : KwB X.K fd ps ks pm)
    (hkw : QKw X g kws pk) (hkn : pm.length = ks.length := by rfl) (hpm : pm.Perm (List.range pm.length) := by decide) (h1 : (ms.filter isT).length ≤ 1 := by decide)
    (hall : (backToKw pos (keywordEach kws X.env)).all (·.1.isSome) = true := by rfl) (hks : (backToKw pos (keywordEach kws X.env)).filterMap (·.1) = ks := by rfl)
    (hdb : (x == ("__debug__" : Str)) = false := by decide)
    (hpl : ((backTo pos (starEach [] X.env)).any (·.1) || (backToKw pos (keywordEach kws X.env)).any (·.1.isNone)) = false := by rfl) : QE X g (.Call (.Name x np) [] kws pos) (rCallK ms qs 0 pm rNil pk) := by
  refine ⟨fun pins s σ H τ vs ρ Φ Ξ tk I S hw => ?_⟩
  refine wpAny_Call_Name_kw (ld_glob I hg hm ?_ hdb)
  refine PySem.W.callWith_KW0 (h₀ := X.base) I.ok.mod.kin hk hall (thn ((hkw.pk Ξ tk).run pos pins s σ H (fun zs H' => ∃ svs ρ', svs.length = zs.length ∧ SR X.K g ρ' σ (svs ++ τ) (zs ++ vs) H' ∧ _) I ⟨τ, vs, ρ, _, S, hw, fun svs ρ' us H' hl S' q => ⟨svs, ρ', hl, S', q⟩⟩) fun ws s2 ⟨zs, H2, I2, rz, svs, ρ2, hl, S2, q2⟩ => ⟨I2.kIn, ?_⟩) hpl
  rw [hks]
  obtain ⟨hz, q2⟩ := q2
  obtain ⟨m, ds, ρ3, e1, q3⟩ := rCallK_ok q2
  have hz' : svs.length = pm.length := by simpa using hz.2
  have lw : ws.length = ks.length := by rw [← rz.length, ← hl, hz', hkn]
  have S3 : SR X.K g ρ2 σ (permL pm ([] ++ svs) ++ τ) (permL pm ([] ++ zs) ++ vs) H2 := SR.permArgs (sp := []) (up := []) S2 rfl hl hpm hz.2
  exact call_coreA (us := []) (all := permL pm ([] ++ ws)) (ws := permL pm ([] ++ zs)) (svs := permL pm ([] ++ svs)) F hr (fun _ => hb s2 [] ws I2.kIn lw (by rw [← hz', hl, rz.length]; rfl)) h1 tk I2 (permL_vals rz) (permL_len (by simpa using hl) pm) S3 e1 q3
end
end Q

namespace Q
open PySem PySem.Spec PyProof.Rows L2 PySem.Calls NdefX
/-! ### super().__init__(msg) in an own exception's __init__ -/
def mwO (q a : Addr) : HO := .ext fun h => h.get? q = some (PySem.W.kxs_mw "ValueError.__init__" a)
theorem mwO_ok {P : Program} {w : World} {H : Hp} {h : Heap} {q a : Addr} (e : h.get? q = some (PySem.W.kxs_mw "ValueError.__init__" a)) : ObjOk P w H h q (mwO q a) :=
  ⟨e, ⟨_, e⟩, fun h1 h2 x k => k _ x⟩
theorem mwO_at {P : Program} {w : World} {H : Hp} {h : Heap} {q a : Addr} (hok : HOk P w H h) (e : H q = some (mwO q a)) : h.get? q = some (PySem.W.kxs_mw "ValueError.__init__" a) := (show ObjOk P w H h q (mwO q a) from hok q _ e).1
structure SupC (K : PySem.W.Frag) (prog : Program) (C f cda cc : Addr) (fd : FuncData) (sn : Str) : Prop where
  hf : ∃ oc od osl, K.lookup f = some ⟨oc, od, .func fd, osl⟩
  hp : ∃ ar, (fd.params.posonlyargs ++ fd.params.args).head? = some ar ∧ ar.arg = sn
  code : ∃ ccl cdd ccs, ∃ vs : Array Value, ∃ file tf, K.lookup cda = some ⟨ccl, cdd, .fields vs, ccs⟩ ∧ vs[2]? = some (.str file tf) ∧ ((prog.main.file : Str) == file) = true
  cell : ∃ cl cld csl, K.lookup cc = some ⟨cl, cld, .cell (some (.ref C)), csl⟩
  cls : ∃ cd, PySem.W.clsIn K C = some cd
  sub : PySem.W.mroIn K C (.ref C) = some true
  top : (prog.main.scope.names.lookup ("super" : Str)).isSome = false
  sup : PySem.W.ks_superIn K C C "__init__" = some (some (.builtin "ValueError.__init__"))
  any : PySem.W.nsIn K PySem.cStatics "thirdparty.any" = some none
  subV : PySem.W.subIn K (.ref C) (.type "ValueError") = some true
  oex : OexC K C
section
variable {X : Cx} {σ : L2.St} {H : Hp} {s : Shared} {C f cda cc a : Addr} {fd : FuncData} {sn : Str} {body : List Stmt} {msg : Expr} {tm : TE} {p0 p1 p2 p3 p4 : Pos}
theorem exo_inst {h : Heap} {t1 : Addr} (e : h.get? a = some ({ cls := .ref C, dict := none, data := .fields #[.ref t1, .none, .none, .none, .bool false, .none] } : Obj)) : PySem.W.InstAt h a ({ cls := .ref C, dict := none, data := .fields #[.ref t1, .none, .none, .none, .bool false, .none] } : Obj) C none := ⟨e, rfl, rfl, trivial⟩
theorem sup_init (T : SupC X.K X.prog C f cda cc fd sn) (I : L2.Inv X [] σ H s) (h0 : X.N[0]? = some sn) (hs : σ[0]? = some (some (V.ref a))) (ha : H a = some (exo a C none))
    (hfu : X.env.func = some f) (hco : X.env.code = .ref cda) (hcl : X.env.cells.lookup ("__class__" : Str) = some cc) (hks : X.env.kindOf "super" = some .globalImplicit) (hkc : X.env.kindOf "__class__" = some .free) (hka : X.env.kindOf sn = some .local)
    (hmg : X.mg "super" = none) (hm : PE X msg tm) (hmr : ∀ q, H q = none → ∀ Q : VK, (∀ v, Q v (upd H q (mwO q a))) → tm σ (upd H q (mwO q a)) Q)
    (hin : interactive X.env = false) (hsw : swapsWith (.Call (.Attribute (.Call (.Name "super" p0) [] [] p1) "__init__" p2) [msg] [] p3) none p4.line X.env = pure false)
    (hst : starEach [msg] X.env = (false, eval msg X.env) :: starEach [] X.env)
    {R : Flow → Shared → Prop} {pl : Sem Bool}
    (hev : eval (.Call (.Attribute (.Call (.Name "super" p0) [] [] p1) "__init__" p2) [msg] [] p3) X.env = (do
      let ov ← attributeBase (.Call (.Name "super" p0) [] [] p1) "__init__" X.env (eval (.Call (.Name "super" p0) [] [] p1) X.env)
      standAt p2.atName
      let (f, first) ← holding [ov] (getMethod ov "__init__" pl)
      callWith p3 f first (backTo p3 (starEach [msg] X.env)) []))
    (h : ∀ q s', H q = none → L2.Inv X [] σ (upd H q (mwO q a)) s' → R .next s') :
    _root_.PySem.wpAt (model X.prog X.w) X.A (.func body X.env) (exec (.Expr (.Call (.Attribute (.Call (.Name "super" p0) [] [] p1) "__init__" p2) [msg] [] p3) p4) X.env) R X.xe s := by
  obtain ⟨oc, od, osl, lf⟩ := T.hf
  obtain ⟨ar, hp, rfl⟩ := T.hp
  obtain ⟨ccl, cdd, ccs, vs, file, tf, lc, hvs, hfile⟩ := T.code
  obtain ⟨cl, cld, csl, lcell⟩ := T.cell
  obtain ⟨cd, hcd⟩ := T.cls
  have KX := I.kIn
  refine PySem.ks_wpAt_Expr_any (PySem.ks_wpAt_MethodCall (pl := pl) ?_ hev) hin hsw
  obtain ⟨m, hns, hlook⟩ := I.loc
  obtain ⟨u, ru, lk⟩ := hlook 0 ar.arg (.ref a) h0 hs (.inl hka)
  cases ru
  obtain ⟨t1, hoe⟩ := exo_at I.hok ha
  have hm1 : m ar.arg = some (.ref a) := by
    rcases lk with ⟨_, e⟩ | ⟨k, _⟩
    · exact e
    · rcases k with k | k
      · have : X.env.kindOf ar.arg = some .cell := k
        rw [hka] at this; cases this
      · have : X.env.kindOf ar.arg = some .free := k
        rw [hka] at this; cases this
  refine PySem.ks_wpAt_super_base (env := X.env) hks hkc rfl hfu (KX _ _ lf) rfl hp hco (KX _ _ lc) rfl hvs hfile T.top ?_
  obtain ⟨mb, b1, b2⟩ := I.mod.blt
  refine PySem.W.ks_loadName_global I.ok.kind hks (Calls.loadGlobal_builtin (by rw [I.ok.glob]; exact I.mod.glob.keeps I.bk) hmg (by rw [I.ok.blt]; exact b1.keeps I.bk) ((b2 "super" (by decide)).trans (by rfl)) ⟨rfl, ?_⟩)
  refine wpAny_loadName_free I.ok.kind hkc hcl ⟨_, KX _ _ lcell, rfl⟩ ?_
  refine wpAny_loadName_local I.ok.kind hka hns hm1 ?_
  obtain ⟨oD, hD1, hD2⟩ : ∃ oD, s.heap.get? C = some oD ∧ oD.data = .cls cd := by
    unfold PySem.W.clsIn at hcd
    split at hcd
    · rename_i c d cd' sl ho
      cases hcd
      exact ⟨_, KX _ _ ho, rfl⟩
    · cases hcd
  obtain ⟨hh, g, d, t, os⟩ := s
  refine PySem.ks_wpAny_isType_cls hD1 hD2 ⟨rfl, ?_⟩
  refine PySem.ks_wpAny_call_super hD1 hD2 hoe rfl (fun c e => by cases e) (PySem.W.looks_mroIn KX T.sub) (fun h' e k => ?_)
  -- the super object stands
  have I2 : L2.Inv X [] σ H ⟨h', g, d, t, os⟩ := I.kept (t' := t) k
  obtain ⟨t2, hoe2⟩ := exo_at I2.hok ha
  have sup := T.sup
  unfold PySem.W.ks_superIn at sup
  rw [hcd] at sup
  have hI : PySem.W.Looks (model X.prog X.w) h' (isInstance (.ref a) (.type "ValueError")) true := (exo_inst hoe2).type.andThen (PySem.W.looks_subIn I2.kIn T.subV)
  refine PySem.W.kxs_getMethod PySem.W.kxs_ValueError e (PySem.W.looks_opaque I2.kIn T.any) (l₀ := cd.mro) ?_ rfl I2.kIn sup hI (PySem.W.ks_ne I2.kIn (exo_inst hoe2) hcd) (by decide) ?_
  · exact fun A Q E s k q => wpAny_bind ((PySem.W.looks_clsIn I2.kIn hcd) A _ E s k (wpAny_pure q))
  -- the method wrapper stands
  have hq0 : H h'.objs.size = none := I2.hok.fresh (Nat.le_refl _)
  have hmw : (h'.push (PySem.W.kxs_mw "ValueError.__init__" a)).get? h'.objs.size = some (PySem.W.kxs_mw "ValueError.__init__" a) := Heap.get?_push_at rfl rfl
  have I3 : L2.Inv X [] σ (upd H h'.objs.size (mwO h'.objs.size a)) ⟨h'.push (PySem.W.kxs_mw "ValueError.__init__" a), g, d, t + 1, os⟩ :=
    I2.laid (a := h'.objs.size) (o := mwO h'.objs.size a) (h' := h'.push (PySem.W.kxs_mw "ValueError.__init__" a)) (t' := t + 1) (fun _ _ e => Heap.get?_push_of_some _ e) (Nat.le_refl _) (mwO_ok hmw)
  have hpl : (backTo p3 (starEach [msg] X.env)).any (·.1) = false := by rw [hst]; rfl
  show wpAny (model X.prog X.w) X.A (callWith p3 (.ref h'.objs.size) [] (backTo p3 (starEach [msg] X.env)) []) _ X.xe _
  have hA := (pa_cons hm pa_nil hst).run p3 [] _ σ _ (fun vs H1 => (∃ v, vs = [v]) ∧ H1 = upd H h'.objs.size (mwO h'.objs.size a)) I3 (hmr _ hq0 _ fun v => ⟨⟨v, rfl⟩, rfl⟩)
  rw [hst] at hA hpl ⊢
  refine PySem.W.kxs_callWith (i := "ValueError.__init__") (x := a) hpl (Calls.evalArgs_plain ?_)
  refine thn hA fun us s1 hx => ?_
  obtain ⟨vs', H1, I4, r4, ⟨v, rfl⟩, rfl⟩ := hx
  have hu := mwO_at I4.hok upd_same
  refine ⟨hu, ?_⟩
  have hne : a ≠ h'.objs.size := fun z => by rw [z, hq0] at ha; cases ha
  have ha4 : upd H h'.objs.size (mwO h'.objs.size a) a = some (exo a C none) := by rw [upd_ne hne]; exact ha
  obtain ⟨nm, qn, N, bs, bm, sn2, sub, ab, col, dd, k0, k1, k2, k3, k5, hC, hbm⟩ := T.oex.cls
  obtain ⟨t4, hoe4⟩ := exo_at I4.hok ha4
  have hC4 := I4.kIn _ _ hC
  have lus : us.length ≤ sizeLine := by
    have := r4.length
    rw [← this, sizeLine_eq]
    exact (by decide : 1 ≤ 16777216)
  obtain ⟨h4, g4, d4, tk4, os4⟩ := s1
  show wpAny (model X.prog X.w) X.A (call (.ref h'.objs.size) us) _ X.xe _
  refine wpAny_call (codeAny_of_tree ?_)
  show wpAny _ X.A.in1 (callAny (.ref h'.objs.size) ⟨us, []⟩) _ _ _
  simp only [callAny]
  refine wpAny_bind (wpAny_load hu ?_)
  simp only [PySem.W.kxs_mw, show (Value.type "method-wrapper" == Value.type "method" || Value.type "method-wrapper" == Value.type "builtin_function_or_method" || Value.type "method-wrapper" == Value.type "method-wrapper") = true by decide, if_true]
  refine PySem.W.KFB.if_so (by decide) ?_
  refine wpAny_bind (PySem.W.check_bound_init F.excBase_ValueError.toExcCallFacts hC4 hoe4 rfl ?_)
  refine wpAny_bind (wpAny_pure (wpAny_pure ?_))
  refine ⟨plainId_quiet F.excBase_ValueError.init.plain _, codeAny_builtin F.excBase_ValueError.initEntry ?_⟩
  refine PySem.W.exc_init_tree (cls := .ref C) (t0 := t4) (dv := none) (c2 := .none) (c3 := .none) (b4 := .bool false) hoe4 lus fun h5 k5 e5 _ => ?_
  refine h h'.objs.size _ hq0 ?_
  have J := I4.write (t' := tk4) (x := a) (e := a) (o := exo a C none) (by rw [ha4]; exact True.intro) (.inl rfl) k5 ⟨_, e5⟩ (exo_ok e5)
  have eu : upd (upd H h'.objs.size (mwO h'.objs.size a)) a (exo a C none) = upd H h'.objs.size (mwO h'.objs.size a) := by
    funext b
    by_cases hb : b = a
    · rw [hb, upd_same, ha4]
    · rw [upd_ne hb]
  rw [eu] at J
  exact J
end
/-! ### such an __init__ keeps its promise -/
section
variable {CX : CXT} {P : Program} {w : World} {K : PySem.W.Frag} {mg : Str → Option Value} {base : Heap} {k : Nat} {f C cda cc : Addr} {name qual sn : Str} {params : Arguments} {rest : List Stmt} {scope : Scope} {kV doc pm ct oc : Value} {an od : Option Addr} {osl : Array (Option Value)} {N ps : List Str} {sp : Sp} {msg : Expr} {p0 p1 p2 p3 p4 : Pos}
abbrev initBody (msg : Expr) (p0 p1 p2 p3 p4 : Pos) (rest : List Stmt) : List Stmt := .Expr (.Call (.Attribute (.Call (.Name "super" p0) [] [] p1) "__init__" p2) [msg] [] p3) p4 :: rest
theorem fn_init (lk : K.lookup f = some ⟨oc, od, .func (PySem.W.ksFn name qual params (initBody msg p0 p1 p2 p3 p4 rest) scope .none kV doc pm an (.ref cda) ct cc), osl⟩) (hcd : PySem.W.codeIn K (.ref cda) qual = true) (S : NScope N ps ["__class__"] scope) (h0 : N[0]? = some sn) (hps : ps[0]? = some sn)
    (T : SupC K P C f cda cc (PySem.W.ksFn name qual params (initBody msg p0 p1 p2 p3 p4 rest) scope .none kV doc pm an (.ref cda) ct cc) sn) (hmg : mg "super" = none) (hks : scope.names.lookup ("super" : Str) = some .globalImplicit)
    (len : ∀ vs H Q E, sp vs H Q E → vs.length = ps.length)
    (hbody : ∀ (A : Around) (outer : List Env) (s : Shared) (H : Hp) (vs : List V) (Q : VK) (E : XK), Room k (A.deeper (envF ⟨name, qual, params, initBody msg p0 p1 p2 p3 p4 rest, scope, [("__class__", cc)], cda⟩ f s.heap.objs.size)) → sp vs H Q E → ∃ (a : Addr) (us : List V) (tm : TE) (t : TS), vs = .ref a :: us ∧ H a = some (exo a C none) ∧
      PE (ncx CX P w K mg base N ⟨name, qual, params, initBody msg p0 p1 p2 p3 p4 rest, scope, [("__class__", cc)], cda⟩ f A outer s H E) msg tm ∧ PSs (ncx CX P w K mg base N ⟨name, qual, params, initBody msg p0 p1 p2 p3 p4 rest, scope, [("__class__", cc)], cda⟩ f A outer s H E) rest t ∧
      (∀ q, H q = none → ∀ Q : VK, (∀ v, Q v (upd H q (mwO q a))) → tm (startF N vs [some (.ref C)]) (upd H q (mwO q a)) Q) ∧ ∀ q, H q = none → t { nx := fun _ H' => Q .non H', rt := Q } (startF N vs [some (.ref C)]) (upd H q (mwO q a)))
    (hsw : ∀ L, swapsWith (.Call (.Attribute (.Call (.Name "super" p0) [] [] p1) "__init__" p2) [msg] [] p3) none p4.line (envF ⟨name, qual, params, initBody msg p0 p1 p2 p3 p4 rest, scope, [("__class__", cc)], cda⟩ f L) = pure false := by intro _; rfl)
    (hst : ∀ L, starEach [msg] (envF ⟨name, qual, params, initBody msg p0 p1 p2 p3 p4 rest, scope, [("__class__", cc)], cda⟩ f L) = (false, eval msg (envF ⟨name, qual, params, initBody msg p0 p1 p2 p3 p4 rest, scope, [("__class__", cc)], cda⟩ f L)) :: starEach [] (envF ⟨name, qual, params, initBody msg p0 p1 p2 p3 p4 rest, scope, [("__class__", cc)], cda⟩ f L) := by intro _; rfl)
    {pl : Sem Bool}
    (hev : ∀ L, eval (.Call (.Attribute (.Call (.Name "super" p0) [] [] p1) "__init__" p2) [msg] [] p3) (envF ⟨name, qual, params, initBody msg p0 p1 p2 p3 p4 rest, scope, [("__class__", cc)], cda⟩ f L) = (do
      let ov ← attributeBase (.Call (.Name "super" p0) [] [] p1) "__init__" (envF ⟨name, qual, params, initBody msg p0 p1 p2 p3 p4 rest, scope, [("__class__", cc)], cda⟩ f L) (eval (.Call (.Name "super" p0) [] [] p1) (envF ⟨name, qual, params, initBody msg p0 p1 p2 p3 p4 rest, scope, [("__class__", cc)], cda⟩ f L))
      standAt p2.atName
      let (f', first) ← holding [ov] (getMethod ov "__init__" pl)
      callWith p3 f' first (backTo p3 (starEach [msg] (envF ⟨name, qual, params, initBody msg p0 p1 p2 p3 p4 rest, scope, [("__class__", cc)], cda⟩ f L))) []) := by intro _; rfl) :
    FnOk P w K mg base CX (k + 1) f (PySem.W.ksFn name qual params (initBody msg p0 p1 p2 p3 p4 rest) scope .none kV doc pm an (.ref cda) ct cc) ps sp := by
  refine ⟨len, fun A outer s H args us vs Q E hr e0 hb r hsp => ?_⟩
  have hl := len _ _ _ _ hsp
  have KX : K.In s.heap := e0.mod.kin.keeps fun b o e => (e0.bs b o e).1
  have lim : s.heap.NoLimit := e0.mod.nolimit.keeps fun b o e => (e0.bs b o e).1
  obtain ⟨a, us', tm, t, ev, ha, hm, ht, rm, rt⟩ := hbody A outer s H vs Q E (hr.deeper _) hsp
  refine PySem.ks_codeAny_call_defAt (fd := PySem.W.ksFn name qual params (initBody msg p0 p1 p2 p3 p4 rest) scope .none kV doc pm an (.ref cda) ct cc) (body := initBody msg p0 p1 p2 p3 p4 rest) (binds := ps.zip us) hr.depth (KX _ _ lk) rfl lim (PySem.W.codeRec_of KX hcd) rfl hb S.nocell (fun ⟨n, _⟩ hy => S.par n (List.of_mem_zip hy).1) (fun h₁ hns kp => ?_) S.co S.gen S.kind
  obtain ⟨cl, cld, csl, lcell⟩ := T.cell
  have Cl : CellsAt [("__class__", cc)] ["__class__"] [some (V.ref C)] s.heap H := by
    have hcc : s.heap.IsCell cc (some (.ref C)) := ⟨_, KX _ _ lcell, rfl⟩
    have key : ∀ (y : Str) c, ([("__class__", cc)] : List (Str × Addr)).lookup y = some c → y = "__class__" ∧ c = cc := fun y c e => by
      by_cases h : y = "__class__"
      · subst h
        exact ⟨rfl, by cases e; rfl⟩
      · rw [List.lookup_cons, beq_false_of_ne h] at e
        cases e
    refine ⟨rfl, fun y c e => ?_, fun x y c e1 e2 => (key _ _ e1).1.trans (key _ _ e2).1.symm, fun i y hy => ?_⟩
    · obtain ⟨rfl, rfl⟩ := key _ _ e
      exact ⟨(e0.bs _ _ (e0.mod.kin _ _ lcell)).2, _, hcc⟩
    · cases i with
      | zero =>
        cases hy
        exact ⟨cc, rfl, fun v e => by cases e; exact ⟨.ref C, rfl, hcc⟩⟩
      | succ i => simp at hy
  have I : L2.Inv (ncx CX P w K mg base N ⟨name, qual, params, initBody msg p0 p1 p2 p3 p4 rest, scope, [("__class__", cc)], cda⟩ f A outer s H E) [] (startF N vs [some (.ref C)]) H { s with heap := h₁, toks := s.toks + (ps.zip us).length } := inv_startN S hr.hd e0 hl r Cl hns kp
  have fin : ∀ {σ' : L2.St} {H' : Hp} {v : V} {u : Value} {s' : Shared}, L2.Inv (ncx CX P w K mg base N ⟨name, qual, params, initBody msg p0 p1 p2 p3 p4 rest, scope, [("__class__", cc)], cda⟩ f A outer s H E) [] σ' H' s' → L2.RelV v u → Q v H' → CE outer P w H s Q u s' :=
    fun {σ' H' v u s'} J rv q => ⟨v, H', J.os, J.bare, J.base, J.hok, rv, q⟩
  have e00 : (startF N vs [some (V.ref C)])[0]? = some (some (V.ref a)) := by rw [ev]; rfl
  refine PySem.ks_wpAt_execs_cons (sup_init (X := ncx CX P w K mg base N ⟨name, qual, params, initBody msg p0 p1 p2 p3 p4 rest, scope, [("__class__", cc)], cda⟩ f A outer s H E) (pl := pl) T I h0 e00 ha rfl rfl rfl hks (S.frk _ (by simp)) (S.par _ (List.mem_of_getElem? hps)) hmg hm rm (by show (scope.kind == .module && _) = false; rw [S.kind]; rfl) (hsw _) (hst _) (hev _) (fun q s' hq J => ?_))
  refine _root_.PySem.wpAt_of_wpAny ?_
  refine wpAny_mono (ht.run [] s' _ _ _ J (rt q hq)) (fun fl s2 hs => ?_) fun e s2 hs => hs
  cases fl with
  | ret u =>
    obtain ⟨v, σ', H', J, rv, q⟩ := hs
    exact fin J rv q
  | next =>
    obtain ⟨σ', H', J, q⟩ := hs
    exact fin (v := V.non) (u := Value.none) J rfl q
  | brk =>
    obtain ⟨_, _, _, q⟩ := hs
    exact False.elim q
  | cont =>
    obtain ⟨_, _, _, q⟩ := hs
    exact False.elim q
end
end Q

namespace Q
open PySem PySem.Spec PyProof.Rows L2 NdefX
/-! ### raise C(e), C an own class with one field -/
def spI1 (C : Addr) (f1 : Str) (ok : V → Prop) : Sp := fun vs H Q E => ∃ (a : Addr) (y : V), vs = [.ref a, y] ∧ ok y ∧ H a = some (exo a C none) ∧
  ∀ q d, H q = none → H d = none → d ≠ a → d ≠ q → q ≠ a → Q .non (upd (upd (upd H q (mwO q a)) d (exd d [(f1, y)])) a (exo a C (some d)))
structure Exc1 (P : Program) (w : World) (K : PySem.W.Frag) (mg : Str → Option Value) (base : Heap) (x : Str) (C : Addr) (f1 : Str) (k : Nat) (ok : V → Prop) : Prop where
  oex : OexC K C
  init : ∃ fI fd ps, PySem.W.findIn K (.ref C) "__init__" = some (some (.ref fI)) ∧ PySem.W.typeIn K (.ref fI) = some (.type "function") ∧ FnOk P w K mg base (L2.CX P w) k fI fd ps (spI1 C f1 ok) ∧ Binds K fd ps []
  mg : mg x = some (.ref C)
section
variable {X : Cx} {g : Gh} {e : Expr} {p : RE} {x f1 : Str} {C : Addr} {k : Nat} {ok : V → Prop} {np cpos pos : Pos}
theorem passes_no : Passes (L2.CX X.prog X.w) X (fun _ _ _ => False) := fun _ _ _ _ _ _ _ h => by
  obtain ⟨_, _, _, _, _, _, _, _, _, _, _, _, z⟩ := h
  exact z.elim
theorem fin_heap {H1 : Hp} {a q d : Addr} {o0 o1 mw : HO} {fs : List (Str × V)} {ex : HO} (ha : H1 a = none) (hda : d ≠ a) (hdq : d ≠ q) (hqa : q ≠ a) :
    upd (del (upd (upd (upd (upd H1 a o0) q mw) d ex) a o1) a) d (.xd fs) = upd (upd H1 q mw) d (.xd fs) := by
  funext b
  by_cases h1 : b = d
  · rw [h1, upd_same, upd_same]
  · rw [upd_ne h1, upd_ne h1]
    by_cases h2 : b = a
    · rw [h2, del_same, upd_ne (fun z => hqa z.symm), ha]
    · rw [del_ne h2, upd_ne h2, upd_ne h1]
      by_cases h3 : b = q
      · rw [h3, upd_same, upd_same]
      · rw [upd_ne h3, upd_ne h3, upd_ne h2]
theorem q_raise1 {okD : D → Prop} (T : Exc1 X.prog X.w X.K X.mg X.base x C f1 k ok) {ec : EC} (how : ec.own = true) (hea : g.T.ea ec = C) (hok : ∀ {H : Hp} {d : D} {v : V} {m : Bool}, Rep X.K (g.gm m) H d v → okD d → ok v) (hr : Room (k + 1) X.A) (hg : Gl X x) (hc : X.calm = true) (ha : QE X g e p)
    (hdb : (x == ("__debug__" : Str)) = false := by decide) (he : starEach [e] X.env = (false, eval e X.env) :: starEach [] X.env := by rfl) (hpl : (backTo cpos (starEach [] X.env)).any (·.1) = false := by rfl) :
    QS X g (.Raise (some (.Call (.Name x np) [e] [] cpos)) none pos) (rRaise1 ec f1 okD p) := by
  obtain ⟨fI, fd, ps, iC, tI, F1, hb⟩ := T.init
  refine QS.of (fun Ξ tk => ps_raise hc tk (pmk_oex T.oex iC tI F1 hr hb .nil passes_no hg T.mg (pa_cons (ha.peT tk) pa_nil he) hdb he hpl)) fun τ vs ρ D σ H nb S hw => ?_
  refine ⟨τ, vs, ρ, _, S, hw, fun m d ρ' v H1 S1 r q => ?_⟩
  refine ⟨(by decide : 1 ≤ 1000), fun a ha => ⟨a, v, rfl, hok r q.1, upd_same, fun qq dd hq hd hda hdq hqa => ?_⟩⟩
  have hq1 : H1 qq = none := by rw [upd_ne hqa] at hq; exact hq
  have hd1 : H1 dd = none := by rw [upd_ne hda] at hd; exact hd
  refine ⟨rfl, dd, [(f1, v)], upd_same, by rw [upd_ne hda, upd_same], hd1, ?_⟩
  rw [fin_heap ha hda hdq hqa]
  have S2 := S1.new (o := mwO qq a) hq1
  have hd2 : upd H1 qq (mwO qq a) dd = none := by rw [upd_ne hdq]; exact hd1
  have S3 := S2.new (o := .xd [(f1, v)]) hd2
  refine ⟨⟨ec, [(f1, d)]⟩, ρ', τ, vs, S3, ⟨⟨how, by rw [hea]⟩, dd, [(f1, v)], rfl, upd_same, (f1, v), [], rfl, ?_, rfl⟩, q.2⟩
  exact (show f1 = f1 ∧ _ from ⟨rfl, Rep.mono (fun _ _ => trivial) ((stab_new hq1).trans (stab_new hd2)) _ _ r⟩)
end
/-! ### its __init__ -/
def okV (y : V) : Prop := (∃ s : Str, y = .str s ∧ s.length ≤ 1000000) ∨ ∃ i : Int, y = .int i ∧ i.natAbs.log2 < 1920
theorem okV_of {K : PySem.W.Frag} {G : Addr → Prop} {H : Hp} {d : D} {v : V} (r : Rep K G H d v) (h : d.fits) : okV v := by
  cases d with
  | str s => exact .inl ⟨s, r, h⟩
  | int i => exact .inr ⟨i, r, h⟩
  | _ => exact h.elim
section
variable {P : Program} {w : World} {K : PySem.W.Frag} {mg : Str → Option Value} {base : Heap} {f C cda cc : Addr} {name qual f1 p1 : Str} {params : Arguments} {scope : Scope} {kV doc pm ct oc : Value} {an od : Option Addr} {osl : Array (Option Value)} {msg : Expr} {p0 p1' p2 p3 p4 a1 a2 a3 a4 : Pos}
theorem fn_init1 {tm : TE} (lk : K.lookup f = some ⟨oc, od, .func (PySem.W.ksFn name qual params (initBody msg p0 p1' p2 p3 p4 [.Assign [.Attribute (.Name "self" a1) f1 a2] (.Name p1 a3) a4]) scope .none kV doc pm an (.ref cda) ct cc), osl⟩) (hcd : PySem.W.codeIn K (.ref cda) qual = true)
    (S : NScope ["self", p1, "__class__"] ["self", p1] ["__class__"] scope) (T : SupC K P C f cda cc (PySem.W.ksFn name qual params (initBody msg p0 p1' p2 p3 p4 [.Assign [.Attribute (.Name "self" a1) f1 a2] (.Name p1 a3) a4]) scope .none kV doc pm an (.ref cda) ct cc) "self")
    (hno : PySem.W.findIn K (.ref C) f1 = some none) (hmg : mg "super" = none) (hks : scope.names.lookup ("super" : Str) = some .globalImplicit) (hl : scope.names.lookup p1 = some .local) (hl0 : scope.names.lookup ("self" : Str) = some .local)
    (hd : (p1 == ("__debug__" : Str)) = false) (hcl : (p1 == ("__classdict__" : Str)) = false)
    (hm : ∀ (A : Around) (outer : List Env) (s : Shared) (H : Hp) (E : XK), PE (ncx (L2.CX P w) P w K mg base ["self", p1, "__class__"] ⟨name, qual, params, initBody msg p0 p1' p2 p3 p4 [.Assign [.Attribute (.Name "self" a1) f1 a2] (.Name p1 a3) a4], scope, [("__class__", cc)], cda⟩ f A outer s H E) msg tm)
    (rm : ∀ (a : Addr) (y : V) (H : Hp) (Q : VK), okV y → (∀ v, Q v H) → tm [some (.ref a), some y, some (.ref C)] H Q)
    (hsw : ∀ L, swapsWith (.Call (.Attribute (.Call (.Name "super" p0) [] [] p1') "__init__" p2) [msg] [] p3) none p4.line (envF ⟨name, qual, params, initBody msg p0 p1' p2 p3 p4 [.Assign [.Attribute (.Name "self" a1) f1 a2] (.Name p1 a3) a4], scope, [("__class__", cc)], cda⟩ f L) = pure false)
    (hst : ∀ L, starEach [msg] (envF ⟨name, qual, params, initBody msg p0 p1' p2 p3 p4 [.Assign [.Attribute (.Name "self" a1) f1 a2] (.Name p1 a3) a4], scope, [("__class__", cc)], cda⟩ f L) = (false, eval msg (envF ⟨name, qual, params, initBody msg p0 p1' p2 p3 p4 [.Assign [.Attribute (.Name "self" a1) f1 a2] (.Name p1 a3) a4], scope, [("__class__", cc)], cda⟩ f L)) :: starEach [] (envF ⟨name, qual, params, initBody msg p0 p1' p2 p3 p4 [.Assign [.Attribute (.Name "self" a1) f1 a2] (.Name p1 a3) a4], scope, [("__class__", cc)], cda⟩ f L))
    {pl : Sem Bool}
    (hev : ∀ L, eval (.Call (.Attribute (.Call (.Name "super" p0) [] [] p1') "__init__" p2) [msg] [] p3) (envF ⟨name, qual, params, initBody msg p0 p1' p2 p3 p4 [.Assign [.Attribute (.Name "self" a1) f1 a2] (.Name p1 a3) a4], scope, [("__class__", cc)], cda⟩ f L) = (do
      let ov ← attributeBase (.Call (.Name "super" p0) [] [] p1') "__init__" (envF ⟨name, qual, params, initBody msg p0 p1' p2 p3 p4 [.Assign [.Attribute (.Name "self" a1) f1 a2] (.Name p1 a3) a4], scope, [("__class__", cc)], cda⟩ f L) (eval (.Call (.Name "super" p0) [] [] p1') (envF ⟨name, qual, params, initBody msg p0 p1' p2 p3 p4 [.Assign [.Attribute (.Name "self" a1) f1 a2] (.Name p1 a3) a4], scope, [("__class__", cc)], cda⟩ f L))
      standAt p2.atName
      let (f', first) ← holding [ov] (getMethod ov "__init__" pl)
      callWith p3 f' first (backTo p3 (starEach [msg] (envF ⟨name, qual, params, initBody msg p0 p1' p2 p3 p4 [.Assign [.Attribute (.Name "self" a1) f1 a2] (.Name p1 a3) a4], scope, [("__class__", cc)], cda⟩ f L))) [])) :
    FnOk P w K mg base (L2.CX P w) 1 f (PySem.W.ksFn name qual params (initBody msg p0 p1' p2 p3 p4 [.Assign [.Attribute (.Name "self" a1) f1 a2] (.Name p1 a3) a4]) scope .none kV doc pm an (.ref cda) ct cc) ["self", p1] (spI1 C f1 okV) := by
  refine fn_init (k := 0) lk hcd S rfl rfl T hmg hks (fun vs H Q E h => ?_) (fun A outer s H vs Q E hr h => ?_) hsw hst (pl := pl) hev
  · obtain ⟨a, y, rfl, _⟩ := h; rfl
  · obtain ⟨a, y, rfl, hy, ha, hq⟩ := h
    refine ⟨a, [y], tm, _, rfl, ha, hm A outer s H E, pss_one (ps_ost (pe_var (i := 0) rfl (.inl hl0)) (pe_var (i := 1) rfl (.inl hl) hd hcl)), fun q _ Q k => rm a y _ Q hy k, fun q hq0 => ?_⟩
    have hqa : q ≠ a := fun z => by rw [z, ha] at hq0; cases hq0
    refine ⟨y, rfl, .ref a, rfl, a, C, rfl, T.oex, hno, .inl ⟨by rw [upd_ne (fun z => hqa z.symm)]; exact ha, fun dx hdx hda => ?_⟩⟩
    have hdq : dx ≠ q := fun z => by rw [z, upd_same] at hdx; cases hdx
    exact hq q dx hq0 (by rw [upd_ne hdq] at hdx; exact hdx) hda hdq hqa
end
end Q

namespace Q
open PySem PySem.Spec PyProof.Rows L2
section
variable {K : PySem.W.Frag} {g : Gh} {ρ : PSt} {σ : L2.St} {τ : List SV} {vs : List V} {H : Hp} {i : Nat} {a : Addr}
theorem upd_self {H : Hp} {a : Addr} {o : HO} (h : H a = some o) : upd H a o = H := by
  funext b
  by_cases hb : b = a
  · rw [hb, upd_same, h]
  · rw [upd_ne hb]
theorem SR.opened (S : SR K g ρ σ τ vs H) (h : ρ[i]? = some (.sto a)) : ∃ kvs, isSto kvs ∧ SR K g (ρ.set i (.so a kvs)) σ τ vs H := by
  obtain ⟨u, hu, ⟨rfl, c⟩, _⟩ := S.slot h
  obtain ⟨kvs, kw, is, e, r⟩ := storeOk_to c
  refine ⟨kvs, is, ?_⟩
  have W := S.write (sv' := .so a kvs) (o := .dK kw) h hu rfl (fun _ e => (Option.some.inj e).symm) rfl (by rw [upd_self e]; exact ⟨rfl, kw, e, r⟩) (fun _ => rfl)
  rw [upd_self e] at W
  exact W
theorem SR.closed {kvs : List (Ky × D)} (S : SR K g ρ σ τ vs H) (h : ρ[i]? = some (.so a kvs)) (is : isSto kvs) : SR K g (ρ.set i (.sto a)) σ τ vs H := by
  obtain ⟨u, hu, ⟨rfl, kw, e, r⟩, _⟩ := S.slot h
  have W := S.write (sv' := .sto a) (o := .dK kw) h hu rfl (fun _ e => (Option.some.inj e).symm) rfl (by rw [upd_self e]; exact ⟨rfl, storeOk_of e r is⟩) (fun _ => rfl)
  rw [upd_self e] at W
  exact W
end
section
variable {X : Cx} {g : Gh} {sts : List Stmt} {st : Stmt} {p : RS} {e : Expr} {pe : RE} {pos : Pos}
theorem rOpen_ok {i : Nat} {D : PEnds} {ρ : PSt} (h : rOpen i p D ρ) : ∃ a, ρ[i]? = some (.sto a) ∧ ∀ kvs, isSto kvs → p D (ρ.set i (.so a kvs)) := by
  unfold rOpen at h
  split at h
  · rename_i a e; exact ⟨a, e, h⟩
  · exact h.elim
theorem rClose_ok {i : Nat} {D : PEnds} {ρ : PSt} (h : rClose i p D ρ) : ∃ a kvs, ρ[i]? = some (.so a kvs) ∧ isSto kvs ∧ p D (ρ.set i (.sto a)) := by
  unfold rClose at h
  split at h
  · rename_i a kvs e; exact ⟨a, kvs, e, h⟩
  · exact h.elim
theorem q_open (i : Nat) (h : QSs X g sts p) : QSs X g sts (rOpen i p) := ⟨fun pins s σ H τ vs ρ D nb tk I S hw => by
  obtain ⟨a, e, k⟩ := rOpen_ok hw
  obtain ⟨kvs, is, S2⟩ := S.opened e
  exact h.run pins s σ H τ vs _ D nb tk I S2 (k kvs is)⟩
theorem q_close (i : Nat) (h : QS X g st p) : QS X g st (rClose i p) := ⟨fun pins s σ H τ vs ρ D nb tk I S hw => by
  obtain ⟨a, kvs, e, is, k⟩ := rClose_ok hw
  exact h.run pins s σ H τ vs _ D nb tk I (S.closed e is) k⟩
theorem q_retSto (hGS : ∀ a, g.G a → g.S a) (h : QE X g e pe) : QS X g (.Return (some e) pos) (rRetSto pe) := by
  refine QS.of (fun Ξ tk => ps_ret (h.pe tk)) fun τ vs ρ D σ H nb S hw => ⟨τ, vs, ρ, _, S, hw, fun sv ρ' v H' S' q => ?_⟩
  split at q
  · rename_i m kvs
    obtain ⟨em, is, q⟩ := q
    obtain ⟨a, kw, e1, c, r⟩ := S'.top
    cases e1
    have hm : (SV.od m kvs, some (V.ref a)) ∈ ents ρ' σ (.od m kvs :: τ) (.ref a :: vs) := List.mem_cons_self
    refine ⟨σ, .sto a, ρ', S'.pop.push (show SVR X.K g H' σ (.sto a) (some (.ref a)) from ⟨rfl, storeOk_of c (Repk.mono (fun a z => hGS a (z em)) .refl _ _ r) is⟩) fun b hb => ?_, q a⟩
    have : a = b := Option.some.inj (show some a = some b from hb)
    subst this
    refine ⟨(S'.own _ hm a rfl).imp id fun z => ?_, fun q hq z => Injs.fresh S'.inj (p := (SV.od m kvs, some (V.ref a))) rfl q hq z⟩
    exact absurd z.2 (fun e => nomatch (show (none : Option Addr) = some a from e))
  · exact q.elim
end
theorem svr_up {K : PySem.W.Frag} {G G' S S' : Addr → Prop} {M M' : List Addr} {T T' : TBs} {B B' : Hp} {Z Z' : List (Hp → Prop)} {H : Hp} {σ : L2.St} {sv : SV} {v : Option V} (hG : ∀ a, G a → G' a) (hS : ∀ a, S a → S' a) (hb : sv.isBor = false) (h : SVR K ⟨G, M, T, B, Z, S⟩ H σ sv v) : SVR K ⟨G', M', T', B', Z', S'⟩ H σ sv v := by
  have gg : ∀ m, ∀ a, (⟨G, M, T, B, Z, S⟩ : Gh).gm m a → (⟨G', M', T', B', Z', S'⟩ : Gh).gm m a := fun m a q z => hG a (q z)
  cases sv with
  | no => trivial
  | fr m d => obtain ⟨u, e, r⟩ := h; exact ⟨u, e, Rep.mono (gg m) .refl _ _ r⟩
  | ol m xs => obtain ⟨a, ws, e, c, r⟩ := h; exact ⟨a, ws, e, c, Reps.mono (gg m) .refl _ _ r⟩
  | od m xs => obtain ⟨a, ws, e, c, r⟩ := h; exact ⟨a, ws, e, c, Repk.mono (gg m) .refl _ _ r⟩
  | oe m xs => obtain ⟨a, ws, e, c, r⟩ := h; exact ⟨a, ws, e, c, Rept.mono (gg m) .refl _ _ r⟩
  | oo m C xs => obtain ⟨a, dx, ws, e, c, r⟩ := h; exact ⟨a, dx, ws, e, c, Repf.mono (gg m) .refl _ _ r⟩
  | ot L d => exact h
  | sto a => exact ⟨h.1, h.2.up hS⟩
  | so a kvs => obtain ⟨e, kw, c, r⟩ := h; exact ⟨e, kw, c, Repk.mono hS .refl _ _ r⟩
  | bor i => cases hb
theorem argsR_b {K : PySem.W.Frag} {G G' S S' : Addr → Prop} {H : Hp} : ∀ (n : Nat) {ds : List D} {vs : List V}, ArgsR K G S H (List.replicate n .b) ds vs → ArgsR K G' S' H (List.replicate n .b) ds vs
  | 0, [], [], _ => trivial
  | n + 1, _ :: _, _ :: _, h => ⟨h.1, argsR_b n h.2⟩
  | 0, _ :: _, _, h => h.elim
  | 0, [], _ :: _, h => h.elim
  | _ + 1, [], _, h => h.elim
  | _ + 1, _ :: _, [], h => h.elim
section
variable {P : Program} {w : World} {K : PySem.W.Frag} {mg : Str → Option Value} {base : Heap}
/-- the rule for a def that makes a store: all it is given is lent -/
theorem q_fnF {x qual : Str} {st : Stmt} {f : Addr} {fd : FuncData} {N ps : List Str} {k : Nat} {T : TBs} {qs : QSpec} {p : RS} {nb : Nat} (F : Fun K x qual st f fd) (S : FnScope N ps (defScope st)) (hm : (List.replicate nb Mode.b).length = ps.length)
    (hbody : ∀ (cdv : Value) (A : Around) (outer : List Env) (s : Shared) (H : Hp) (E : XK) (g : Gh), Room k (A.deeper (envOfC qual (defScope st) s.heap.objs.size f cdv)) → g.T = T → (∀ a, g.G a → g.S a) → QSs (cxOf (L2.CX P w) P w K mg base N qual (defScope st) f cdv A outer s H E) g (defBody st) p)
    (hq : ∀ (ds : List D) (R : SV → Prop) (F : Exn → Prop), qs ds R F → p (endsF (List.replicate nb Mode.b) ds R F) (slots0 (List.replicate nb Mode.b) ds ++ List.replicate (N.length - ps.length) .no)) : FnOk P w K mg base (L2.CX P w) (k + 1) f fd ps (spQ K T (List.replicate nb Mode.b) qs) := by
  refine F.okX S (fun vs H Q E h => ?_) (fun cdv A outer s H vs Q E hr h => ?_)
  · obtain ⟨G, Sx, ds, R, F', _, _, _, _, ha, _⟩ := h
    obtain ⟨l1, l2⟩ := argsR_len ha
    omega
  · obtain ⟨G0, Sx0, ds, R, F', hG0, hS0, _, ht, ha0, nd, hqs, h10, h20⟩ := h
    obtain ⟨G, eG⟩ : ∃ G : Addr → Prop, G = fun a => H a = none := ⟨_, rfl⟩
    obtain ⟨Sx, eS⟩ : ∃ G : Addr → Prop, G = fun a => H a = none := ⟨_, rfl⟩
    have hG : ∀ a, H a = none → G a := fun a h => by rw [eG]; exact h
    have hS : ∀ a, H a = none → Sx a := fun a h => by rw [eS]; exact h
    have uG : ∀ a, G a → G0 a := fun a h => hG0 a (by rw [eG] at h; exact h)
    have uS : ∀ a, Sx a → Sx0 a := fun a h => hS0 a (by rw [eS] at h; exact h)
    have ha := argsR_b (G' := G) (S' := Sx) nb ha0
    have h1 : ∀ sv v H' σ, CallR' K T Sx (mOf (List.replicate nb Mode.b) ds) H H' → SVR K ⟨G, [], T, H, [], Sx⟩ H' σ sv (some v) → sv.isBor = false → (∀ a, Own sv (some v) a → H a = none) → R sv → Q v H' := fun sv v H' σ c hs hb ho hR => h10 sv v H' σ (c.up uS) (svr_up uG uS hb hs) hb ho hR
    have h2 : ∀ x c d H', CallR' K T Sx (mOf (List.replicate nb Mode.b) ds) H H' → ExnOk K ⟨G, [], T, H, [], Sx⟩ H' x c d → F' x → E c d H' := fun x c d H' cr ok hF => h20 x c d H' (cr.up uS) ok hF
    obtain ⟨l1, l2⟩ := argsR_len ha
    have B := hbody cdv A outer s H E ⟨G, mOf (List.replicate nb Mode.b) ds, T, H, [], Sx⟩ hr rfl (fun a z => by rw [eG] at z; rw [eS]; exact z)
    have S0 := sr_start (X := cxOf (L2.CX P w) P w K mg base N qual (defScope st) f cdv A outer s H E) (n := N.length - ps.length) ha nd hG hS ht
    have tk : Takes (cxOf (L2.CX P w) P w K mg base N qual (defScope st) f cdv A outer s H E) (WQ (cxOf (L2.CX P w) P w K mg base N qual (defScope st) f cdv A outer s H E) ⟨G, mOf (List.replicate nb Mode.b) ds, T, H, [], Sx⟩ (endsF (List.replicate nb Mode.b) ds R F').ex) := by
      refine Takes.imp (takes_of rfl rfl rfl rfl) fun c d σ H' hx => ?_
      obtain ⟨x, ρ, τ, vs', S', ok, hf, hk⟩ := hx
      exact h2 x c d H' (callR_of S' hk) ok hf
    refine ⟨_, B.pss tk, ?_⟩
    have e : L2.start N vs = vs.map some ++ List.replicate (N.length - ps.length) none := by
      unfold L2.start
      rw [← l2, ← l1, hm]
    rw [e]
    refine ⟨[], [], _, endsF (List.replicate nb Mode.b) ds R F', (fun sv h => absurd h (by simp)), rfl, S0, hq ds R F' hqs, fun ρ' σ' H' S' z => ?_, fun sv ρ' v σ' H' S' z => ?_, fun ρ' σ' H' S' z => z, fun ρ' σ' H' S' z => z⟩
    · exact h1 (.fr true .non) .non H' σ' (callR_of S' z.2) ⟨.non, rfl, rfl⟩ rfl (fun a e => nomatch (show (none : Option Addr) = some a from e)) z.1
    · obtain ⟨z1, z2, z3⟩ := z
      have main : ∀ (tv : SV), tv.isBor = false → (tv, some v) ∈ ents ρ' σ' [sv] [v] → R tv → okRes (List.replicate nb Mode.b) ds tv → Q v H' := fun tv hb hm hR ho => by
        refine h1 tv v H' σ' (callR_of S'.pop z3) (S'.all _ hm) hb (fun a e => ?_) hR
        rcases S'.own _ hm a e with q | ⟨q1, q2⟩
        · exact q
        · have ho' : mOf (List.replicate nb Mode.b) ds = [] := by
            cases tv with
            | sto b => exact ho
            | so b kvs => exact ho
            | _ => cases q2
          have q1 : a ∈ mOf (List.replicate nb Mode.b) ds := q1
          rw [ho'] at q1
          cases q1
      cases sv with
      | bor i =>
        have e1 : SV.mv ρ' (.bor i) = (ρ'[i]?).getD .no := rfl
        have gone : R .no → Q v H' := fun hR => h1 .no v H' σ' (callR_of S'.pop z3) trivial rfl (fun a e => nomatch (show (none : Option Addr) = some a from e)) hR
        cases q : ρ'[i]? with
        | none =>
          rw [e1, q] at z1
          exact gone z1
        | some tv =>
          rw [e1, q] at z1 z2
          by_cases hn : tv = .no
          · subst hn; exact gone z1
          · exact main tv (S'.nb _ (List.mem_of_getElem? q)) (List.mem_cons_of_mem _ (List.mem_of_getElem? (ents_at S'.pop.tlen i q (S'.borSlot S'.top q hn)))) z1 z2
      | _ => exact main _ rfl List.mem_cons_self z1 z2
end
end Q

namespace Q
open PySem PySem.Spec PyProof.Rows L2
/-! ### try: .. except C as n: .. -/
theorem takes_no {X : Cx} {g : Gh} : Takes X (WQ X g noX) := fun u s' h => by
  obtain ⟨_, _, _, _, _, _, _, _, _, _, _, _, _, _, _, _, x, ρ, τ, vs, _, _, z⟩ := h
  exact z.elim
/-- the error is kept in sight -/
def Gh.exc (g : Gh) (K : PySem.W.Frag) (dd : Addr) (fv : List (Str × V)) (x : Exn) : Gh := { g with Z := (fun H => H dd = some (.xd fv) ∧ Repf K (fun _ => True) H x.fs fv) :: g.Z }
section
variable {K : PySem.W.Frag} {g : Gh} {ρ : PSt} {σ : L2.St} {τ : List SV} {vs : List V} {H : Hp} {dd : Addr} {fv : List (Str × V)} {x : Exn}
theorem SR.toexc (S : SR K g ρ σ τ vs H) (h : H dd = some (.xd fv)) (r : Repf K (fun _ => True) H x.fs fv) : SR K (g.exc K dd fv x) ρ σ τ vs H :=
  ⟨S.len, S.tlen, S.all, S.inj, S.own, S.keep, S.tabs, S.gnew, fun y hy => (List.mem_cons.mp hy).elim (fun e => by rw [e]; exact ⟨fun _ _ st e => ⟨st.xd _ _ e.1, Repf.mono (fun _ z => z) st _ _ e.2⟩, h, r⟩) (S.pin y), S.nb, S.snew⟩
theorem SR.unexc (S : SR K (g.exc K dd fv x) ρ σ τ vs H) : SR K g ρ σ τ vs H :=
  ⟨S.len, S.tlen, S.all, S.inj, S.own, S.keep, S.tabs, S.gnew, fun y hy => S.pin y (List.mem_cons_of_mem _ hy), S.nb, S.snew⟩
theorem SR.exc1 (S : SR K (g.exc K dd fv x) ρ σ τ vs H) : H dd = some (.xd fv) ∧ Repf K (fun _ => True) H x.fs fv := (S.pin _ List.mem_cons_self).2
/-- slot i is emptied -/
theorem SR.clear (S : SR K g ρ σ τ vs H) (i : Nat) (nb : NoBor τ) : SR K g (ρ.set i .no) (σ.set i none) τ vs H := by
  have es := ents_set (ρ := ρ) (σ := σ) S.tlen i .no none
  have key : ∀ q ∈ ents (ρ.set i .no) (σ.set i none) τ vs, q ∈ ents ρ σ τ vs ∨ q = (.no, none) := fun q hq => by
    rw [es] at hq
    exact List.mem_or_eq_of_mem_set hq
  have nbq : ∀ q ∈ ents ρ σ τ vs, q.1.isBor = false := fun q hq => by
    rcases List.mem_append.mp hq with z | z
    · exact nb _ (List.of_mem_zip z).1
    · exact S.nb _ (List.of_mem_zip z).1
  refine ⟨by simp [S.len], S.tlen, fun q hq => ?_, ?_, fun q hq a e => ?_, S.keep, S.tabs, S.gnew, S.pin, fun y hy => ?_, S.snew⟩
  · rcases key q hq with z | rfl
    · exact svr_sigma (nbq q z) (S.all q z)
    · trivial
  · show Injs _
    rw [es]
    exact Injs.set S.inj _ _ fun a e => nomatch (show (none : Option Addr) = some a from e)
  · rcases key q hq with z | rfl
    · exact S.own q z a e
    · exact nomatch (show (none : Option Addr) = some a from e)
  · rcases List.mem_or_eq_of_mem_set hy with z | rfl
    · exact S.nb y z
    · rfl
/-- slot i holds a new thing that nobody owns -/
theorem SR.put (S : SR K g ρ σ τ vs H) (i : Nat) (nb : NoBor τ) {d : D} {v : V} (r : Rep K (g.gm true) H d v) : SR K g (ρ.set i (.fr true d)) (σ.set i (some v)) τ vs H :=
  (S.pushF (m := true) r).assign rfl nb
end
/-! ### blocks of a def itself: no temporaries lie below -/
structure QS0 (X : Cx) (g : Gh) (st : Stmt) (p : RS) : Prop where
  run : ∀ (pins : List (Addr × Obj)) (s : Shared) (σ : L2.St) (H : Hp) (ρ : PSt) (D : PEnds), Takes X (WQ X g D.ex) → L2.Inv X pins σ H s → SR X.K g ρ σ [] [] H → p D ρ →
    wpAny (model X.prog X.w) X.A (exec st X.env) (SQ X g pins [] [] D) X.xe s
structure QSs0 (X : Cx) (g : Gh) (st : List Stmt) (p : RS) : Prop where
  run : ∀ (pins : List (Addr × Obj)) (s : Shared) (σ : L2.St) (H : Hp) (ρ : PSt) (D : PEnds), Takes X (WQ X g D.ex) → L2.Inv X pins σ H s → SR X.K g ρ σ [] [] H → p D ρ →
    wpAny (model X.prog X.w) X.A (execs st X.env) (SQ X g pins [] [] D) X.xe s
theorem nobor_nil : NoBor [] := fun _ h => nomatch h
section
variable {X : Cx} {g : Gh} {st : Stmt} {sts : List Stmt} {q r : RS} {Ξ : RX} {pos : Pos} {c : Expr} {ct : RT}
theorem QS.q0 (h : QS X g st q) : QS0 X g st q := ⟨fun pins s σ H ρ D tk I S hq => h.run pins s σ H [] [] ρ D nobor_nil tk I S hq⟩
theorem QSs.q0 (h : QSs X g sts q) : QSs0 X g sts q := ⟨fun pins s σ H ρ D tk I S hq => h.run pins s σ H [] [] ρ D nobor_nil tk I S hq⟩
def tqs0 (X : Cx) (g : Gh) (p : RS) (Ξ : RX) : TS := fun E σ H => ∃ ρ D, D.ex = Ξ ∧ SR X.K g ρ σ [] [] H ∧ p D ρ ∧
  (∀ ρ' σ' H', SR X.K g ρ' σ' [] [] H' → D.nx ρ' → E.nx σ' H') ∧ (∀ sv ρ' v σ' H', SR X.K g ρ' σ' [sv] [v] H' → D.rt sv ρ' → E.rt v H') ∧ (∀ ρ' σ' H', SR X.K g ρ' σ' [] [] H' → D.bk ρ' → E.bk σ' H') ∧ ∀ ρ' σ' H', SR X.K g ρ' σ' [] [] H' → D.ct ρ' → E.ct σ' H'
theorem QS0.ps (h : QS0 X g st q) (tk : Takes X (WQ X g Ξ)) : PS X st (tqs0 X g q Ξ) := ⟨fun pins s σ H E I ⟨ρ, D, he, S, hp, h1, h2, h3, h4⟩ => by
  subst he
  exact thn (h.run pins s σ H ρ D tk I S hp) fun f s' z => sq_sp z h1 h2 h3 h4⟩
theorem QSs0.pss (h : QSs0 X g sts q) (tk : Takes X (WQ X g Ξ)) : PSs X sts (tqs0 X g q Ξ) := ⟨fun pins s σ H E I ⟨ρ, D, he, S, hp, h1, h2, h3, h4⟩ => by
  subst he
  exact thn (h.run pins s σ H ρ D tk I S hp) fun f s' z => sq_sp z h1 h2 h3 h4⟩
theorem tqs0_in {ρ : PSt} {σ : L2.St} {H : Hp} {D : PEnds} (S : SR X.K g ρ σ [] [] H) (h : q D ρ) : tqs0 X g q D.ex (endsQ X g [] [] D) σ H :=
  ⟨ρ, D, rfl, S, h, fun ρ' _ _ S' q => ⟨ρ', S', q⟩, fun sv ρ' v σ' _ S' q => ⟨σ', sv, ρ', S', q⟩, fun ρ' _ _ S' q => ⟨ρ', S', q⟩, fun ρ' _ _ S' q => ⟨ρ', S', q⟩⟩
theorem QS0.of {t : RX → TS} (h : ∀ Ξ, Takes X (WQ X g Ξ) → PS X st (t Ξ)) (hp : ∀ ρ D σ H, SR X.K g ρ σ [] [] H → q D ρ → t D.ex (endsQ X g [] [] D) σ H) : QS0 X g st q :=
  ⟨fun pins s σ H ρ D tk I S hw => thn ((h _ tk).run pins s σ H _ I (hp ρ D σ H S hw)) fun f s' z => SP.sq z⟩
theorem QSs0.of {t : RX → TS} (h : ∀ Ξ, Takes X (WQ X g Ξ) → PSs X sts (t Ξ)) (hp : ∀ ρ D σ H, SR X.K g ρ σ [] [] H → q D ρ → t D.ex (endsQ X g [] [] D) σ H) : QSs0 X g sts q :=
  ⟨fun pins s σ H ρ D tk I S hw => thn ((h _ tk).run pins s σ H _ I (hp ρ D σ H S hw)) fun f s' z => SP.sq z⟩
theorem qs0_cons (h1 : QS0 X g st q) (h2 : QSs0 X g sts r) : QSs0 X g (st :: sts) (rSeq q r) := by
  refine QSs0.of (fun Ξ tk => pss_cons (h1.ps tk) (h2.pss tk)) fun ρ D σ H S hw => ?_
  exact ⟨ρ, { D with nx := r D }, rfl, S, hw, fun ρ' σ' H' S' q => tqs0_in S' q, fun sv ρ' v σ' _ S' q => ⟨σ', sv, ρ', S', q⟩, fun ρ' _ _ S' q => ⟨ρ', S', q⟩, fun ρ' _ _ S' q => ⟨ρ', S', q⟩⟩
theorem qs0_one (h1 : QS0 X g st q) : QSs0 X g [st] q :=
  QSs0.of (fun Ξ tk => pss_one (h1.ps tk)) fun ρ D σ H S hw => tqs0_in S hw
end
section
variable {X : Cx} {g : Gh} {x n : Str} {c : Value} {cx : EC} {i : Nat} {body suite : List Stmt} {b₀ : Stmt} {np pos pos' : Pos} {pb : RS} {psu : Addr → Exn → RS}
/-- the suite's reading, for the kit's rule -/
def tSuite (X : Cx) (g : Gh) (psu : Addr → Exn → RS) (a : Addr) (cls : Value) (d : Option Addr) : TS := fun E σ H =>
  ∃ (y : Exn) (dd : Addr) (fv : List (Str × V)), y.cls.own = true ∧ cls = .ref (g.T.ea y.cls) ∧ d = some dd ∧ tqs X (g.exc X.K dd fv y) (psu a y) noX E σ H
def tBody (X : Cx) (g : Gh) (pb : RS) (W : WX) : TS := fun E σ H => ∃ Ξ : RX, (∀ c d σ' H', WQ X g Ξ c d σ' H' → W c d σ' H') ∧ tqs X g pb Ξ E σ H
theorem q_try_as (hs : X.stack = X.env :: X.outer) (hf : X.env.frame = some X.env.locals) (hN : X.N.Nodup) (hi : X.N[i]? = some n) (hln : X.env.kindOf n = some .local) (hc : Names X x c)
    (het : ∀ d : EC, d.own = true → PySem.W.exmOne X.K (.ref (g.T.ea d)) c = some (d.sub cx))
    (hb : ∀ (pn : List (Addr × Obj)) (xe : Value → Shared → Prop), PassesOwn (model X.prog X.w) X.A X.env xe → QSs (X.tr pn xe) g body pb)
    (hsu : ∀ (a : Addr) (oe : Obj) (y : Exn) (dd : Addr) (fv : List (Str × V)) (pn : List (Addr × Obj)), y.cls.own = true → Zc (.ref (g.T.ea y.cls)) (some dd) oe → (∃ vs, oe.data = .fields vs) → QSs (X.suite a ((a, oe) :: pn)) (g.exc X.K dd fv y) (b₀ :: suite) (psu a y)) :
    QS0 X g (.Try body [.ExceptHandler (some (.Name x np)) (some n) (b₀ :: suite) pos'] [] [] pos) (rTryAs cx i pb psu) := by
  refine QS0.of (t := fun Ξ => fun D σ H => tBody X g pb (wAs X.K c i (tSuite X g psu) (WQ X g Ξ) D) D σ H) (fun Ξ tk => ps_try_as hs hf hN hi hln hc tk (fun W pn xe tkW hp => ?_) (fun a oe cls d pn hz hd => ?_)) (fun ρ D σ H S hw => ?_)
  · refine ⟨fun pins s σ H E I ⟨Ξ', imp, h⟩ => ?_⟩
    exact ((hb pn xe hp).pss (Ξ := Ξ') (Takes.imp tkW imp)).run pins s σ H E I h
  · refine ⟨fun pins s σ H E I ⟨y, dd, fv, ho, e1, e2, h⟩ => ?_⟩
    subst e1 e2
    exact ((hsu a oe y dd fv pn ho hz hd).pss (Ξ := noX) takes_no).run pins s σ H E I h
  · refine ⟨(fun e ρ' => ifB (e.cls.sub cx) (∀ a, psu a e { nx := fun r => D.nx (r.set i .no), rt := D.rt, bk := fun r => D.bk (r.set i .no), ct := fun r => D.ct (r.set i .no), ex := noX } (ρ'.set i (.fr true (.ref a)))) (D.ex e ρ')), fun c' d σ' H' hx => ?_, tqs_in (D := { D with ex := _ }) nobor_nil S hw⟩
    obtain ⟨y, ρ', τ', vs', S', ⟨⟨ho, e1⟩, dd, fv, e2, e3, r⟩, hif⟩ := hx
    subst e1 e2
    refine ⟨_, het _ ho, fun hb a ha => ?_, fun hb => ⟨y, ρ', τ', vs', S', ⟨⟨ho, rfl⟩, dd, fv, rfl, e3, r⟩, hif.f hb⟩⟩
    have S1 : SR X.K g ρ' σ' [] [] H' := SR.drop (svs := τ') (us := vs') S'.tlen (by rw [List.append_nil, List.append_nil]; exact S')
    have S2 := (S1.put i nobor_nil (d := .ref a) (v := .ref a) rfl).toexc e3 r
    refine ⟨y, dd, fv, ho, rfl, rfl, [], [], _, _, nobor_nil, rfl, S2, hif.t hb a, fun ρ2 σ2 H2 S3 q => ⟨ρ2.set i .no, S3.unexc.clear i nobor_nil, q⟩, fun sv ρ2 v σ2 H2 S3 q => ⟨σ2, sv, ρ2, S3.unexc, q⟩, fun ρ2 σ2 H2 S3 q => ⟨ρ2.set i .no, S3.unexc.clear i nobor_nil, q⟩, fun ρ2 σ2 H2 S3 q => ⟨ρ2.set i .no, S3.unexc.clear i nobor_nil, q⟩⟩
end
end Q

namespace Q
open PySem PySem.Spec PyProof.Rows L2
/-! ### what is asked of the error in the suite -/
/-- the facts of an error's class -/
structure ErrK (K : PySem.W.Frag) (C : Addr) : Prop where
  hc : (PySem.W.clsIn K C).isSome = true
  ga : PySem.W.findIn K (.ref C) "__getattribute__" = some (some (.builtin "BaseException.__getattribute__"))
  gg : PySem.W.findIn K (.ref C) "__getattr__" = some none
  hs : PySem.W.subIn K (.ref C) (.type "BaseException") = some true
  hd : PySem.W.hasDictIn K C = true
  ha : PySem.W.findIn K (.ref C) "__class__" = some (some (.builtin "object.__class__"))
  hn : PySem.W.specialIn K (.builtin "object.__class__") "__get__" = some (some (.builtin "getset_descriptor.__get__"))
  ht : PySem.W.takesIn K (.builtin "object.__class__") = some true
  hm : PySem.W.mroIn K C (.type "object") = some true
/-- a class that isinstance asks for -/
structure ClE (K : PySem.W.Frag) (T : TBs) (cx : EC) (v : V) (u : Value) : Prop where
  cv : ClsV v u
  kit : ∀ d : EC, d.own = true → PySem.W.kitOne K (.ref (T.ea d)) u = some (d.sub cx)
inductive ClEs (K : PySem.W.Frag) (T : TBs) : List EC → List V → List Value → Prop where
  | nil : ClEs K T [] [] []
  | cons {cx cs v vs u us} : ClE K T cx v u → ClEs K T cs vs us → ClEs K T (cx :: cs) (v :: vs) (u :: us)
theorem ClEs.paired {K : PySem.W.Frag} {T : TBs} : ∀ {cs : List EC} {vs : List V} {us : List Value}, ClEs K T cs vs us → Paired ClsV vs us
  | _, _, _, .nil => .nil
  | _, _, _, .cons a b => .cons a.cv b.paired
theorem ClEs.kit {K : PySem.W.Frag} {T : TBs} {d : EC} (hd : d.own = true) : ∀ {cs : List EC} {vs : List V} {us : List Value}, ClEs K T cs vs us → PySem.W.kitAny K (.ref (T.ea d)) us = some (cs.any d.sub)
  | _, _, _, .nil => rfl
  | _, _, _, .cons (cx := cx) (cs := cs) a b => by
    rw [List.any_cons]
    refine kitAny_cons (a.kit d hd) (fun hb => ?_) fun hb => by rw [hb]; rfl
    rw [hb, Bool.false_or]
    exact b.kit hd
section
variable {X : Cx} {g : Gh} {a dd : Addr} {oe : Obj} {y : Exn} {fv : List (Str × V)} {pn : List (Addr × Obj)} {n : Str} {i : Nat} {cx : EC} {cs : List EC} {v : V} {u : Value} {vs : List V} {us : List Value} {p1 p2 p3 p4 : Pos} {C : Expr} {es : List Expr}
theorem err_at {pins : List (Addr × Obj)} {s : Shared} {σ : L2.St} {H : Hp} (I : L2.Inv (X.suite a ((a, oe) :: pn)) pins σ H s) (hz : Zc (.ref (g.T.ea y.cls)) (some dd) oe) (hf : ∃ vs, oe.data = .fields vs) (hx : H dd = some (.xd fv)) :
    ∃ od, PySem.W.InstAt s.heap a oe (g.T.ea y.cls) (some od) ∧ s.heap.get? dd = some od := by
  have q := (I.pin (a, oe) (List.mem_append.mpr (.inl List.mem_cons_self))).1
  obtain ⟨ws, hw⟩ := hf
  obtain ⟨mA, hns, _⟩ := (show ObjOk X.prog X.w H s.heap dd (.xd fv) from I.hok dd _ hx)
  obtain ⟨od, ho, _⟩ := lookIn_ns hns
  refine ⟨od, ⟨q, hz.1, ?_, ?_⟩, ho⟩
  · unfold PySem.W.notCls
    rw [hw] <;> rfl
  · rw [hz.2]
    exact ho
theorem call_isX (T : ErrK X.K (g.T.ea y.cls)) (hz : Zc (.ref (g.T.ea y.cls)) (some dd) oe) (hf : ∃ vs, oe.data = .fields vs) :
    CallR (X.suite a ((a, oe) :: pn)) (.builtin "isinstance") fun xs H Q => ∃ (c : V) (cv : Value) (b : Bool), xs = [.ref a, c] ∧ H dd = some (.xd fv) ∧ ClsV c cv ∧ PySem.W.kitOne X.K (.ref (g.T.ea y.cls)) cv = some b ∧ Q (.bl b) H := by
  intro pins s σ H xs us Q I r h
  obtain ⟨c, cv, b, rfl, hx, k, e, q⟩ := h
  obtain ⟨u1, u2, rfl, r1, r2⟩ := vals2 r
  have e2 := k.eq r2
  subst e2
  cases (show u1 = Value.ref a from r1)
  obtain ⟨od, J, _⟩ := err_at I hz hf hx
  exact PySem.W.kia_one (PySem.W.kitx_exc T.hc T.ga T.gg T.hs T.ha T.hn T.ht T.hm) I.kIn J e (fun z => nomatch z) fun tk => ⟨.bl b, H, I.kept (t' := tk) fun _ _ z => z, rfl, q⟩
theorem call_isXT (T : ErrK X.K (g.T.ea y.cls)) (hz : Zc (.ref (g.T.ea y.cls)) (some dd) oe) (hf : ∃ vs, oe.data = .fields vs) :
    CallR (X.suite a ((a, oe) :: pn)) (.builtin "isinstance") fun xs H Q => ∃ (tp : Addr) (cs : List V) (ws : List Value) (b : Bool), xs = [.ref a, .ref tp] ∧ H dd = some (.xd fv) ∧ H tp = some (.tup cs) ∧ Paired ClsV cs ws ∧ PySem.W.kitAny X.K (.ref (g.T.ea y.cls)) ws = some b ∧ Q (.bl b) H := by
  intro pins s σ H xs us Q I r h
  obtain ⟨tp, cs, ws, b, rfl, hx, hT, k, e, q⟩ := h
  obtain ⟨u1, u2, rfl, r1, r2⟩ := vals2 r
  cases (show u1 = Value.ref a from r1)
  cases (show u2 = Value.ref tp from r2)
  obtain ⟨od, J, _⟩ := err_at I hz hf hx
  obtain ⟨_, its, rv, o, h1, h2, n, h3⟩ := (show ObjOk X.prog X.w H s.heap tp (.tup cs) from I.hok tp _ hT)
  have e3 := ClsV.all k rv
  subst e3
  obtain ⟨oc, od', dt, sl⟩ := o
  simp only at h2 h3
  subst h2 h3
  exact PySem.W.kia_tup (PySem.W.kitx_exc T.hc T.ga T.gg T.hs T.ha T.hn T.ht T.hm) I.kIn J h1 e (fun z => nomatch z) fun tk => ⟨.bl b, H, I.kept (t' := tk) fun _ _ z => z, rfl, q⟩
theorem rSlot_ok {ρ : PSt} {P : Prop} (h : match ρ[i]? with
  | some (.fr _ (.ref b)) => b = a ∧ P
  | _ => False) : ∃ m, ρ[i]? = some (.fr m (.ref a)) ∧ P := by
  split at h
  · rename_i m b e
    obtain ⟨rfl, h⟩ := h
    exact ⟨m, e, h⟩
  · exact h.elim
theorem slot_val {ρ : PSt} {σ : L2.St} {τ : List SV} {vs : List V} {H : Hp} {m : Bool} {K : PySem.W.Frag} (S : SR K g ρ σ τ vs H) (e : ρ[i]? = some (.fr m (.ref a))) : σ[i]? = some (some (.ref a)) := by
  obtain ⟨w, hw, ⟨z, rfl, r⟩, _⟩ := S.slot e
  rw [hw, show z = V.ref a from r]
theorem q_isE (T : ErrK X.K (g.T.ea y.cls)) (ho : y.cls.own = true) (hz : Zc (.ref (g.T.ea y.cls)) (some dd) oe) (hf : ∃ vs, oe.data = .fields vs) (cl : ClE X.K g.T cx v u) (hC : PE (X.suite a ((a, oe) :: pn)) C (tC v))
    (hgi : Gl X "isinstance") (hmi : X.mg "isinstance" = none) (i : Nat) (hN : X.N[i]? = some n := by rfl) (hv : Vis X.env.scope n := by first | exact Or.inl rfl | exact Or.inr (Or.inl rfl) | exact Or.inr (Or.inr rfl)) (hdb : (n == ("__debug__" : Str)) = false := by decide)
    (hcd : (n == ("__classdict__" : Str)) = false := by decide)
    (he : starEach [.Name n p2, C] X.env = (false, eval (.Name n p2) X.env) :: starEach [C] X.env := by rfl) (he2 : starEach [C] X.env = (false, eval C X.env) :: starEach [] X.env := by rfl)
    (hpl : (backTo p3 (starEach [C] X.env)).any (·.1) = false := by rfl) : QE (X.suite a ((a, oe) :: pn)) (g.exc X.K dd fv y) (.Call (.Name "isinstance" p1) [.Name n p2, C] [] p3) (rIsE a y cx i) := by
  refine QE.of (t := fun _ => _) (fun Ξ tk => pe_callB (call_isX (fv := fv) T hz hf) hgi hmi (by rfl) (pa_cons (pe_var hN hv hdb hcd) (pa_cons hC pa_nil he2) he) (by decide) (by decide) he hpl) fun τ vs ρ Φ Ξ σ H S hw => ?_
  obtain ⟨m, e, q⟩ := rSlot_ok hw
  exact ⟨_, slot_val S e, _, _, _, rfl, S.exc1.1, cl.cv, cl.kit _ ho, .fr true (.bl (y.cls.sub cx)), ρ, S.pushF rfl, q⟩
theorem q_isEs (T : ErrK X.K (g.T.ea y.cls)) (ho : y.cls.own = true) (hz : Zc (.ref (g.T.ea y.cls)) (some dd) oe) (hf : ∃ vs, oe.data = .fields vs) (cl : ClEs X.K g.T cs vs us) (hl : vs.length ≤ 100) (hC : PA (X.suite a ((a, oe) :: pn)) es (tCs vs))
    (hgi : Gl X "isinstance") (hmi : X.mg "isinstance" = none) (i : Nat) {k : Nat} (hN : X.N[i]? = some n := by rfl) (hv : Vis X.env.scope n := by first | exact Or.inl rfl | exact Or.inr (Or.inl rfl) | exact Or.inr (Or.inr rfl)) (hdb : (n == ("__debug__" : Str)) = false := by decide)
    (hcd : (n == ("__classdict__" : Str)) = false := by decide)
    (he : starEach [.Name n p2, .Tuple es k p4] X.env = (false, eval (.Name n p2) X.env) :: starEach [.Tuple es k p4] X.env := by rfl) (he2 : starEach [.Tuple es k p4] X.env = (false, eval (.Tuple es k p4) X.env) :: starEach [] X.env := by rfl)
    (hpl : (backTo p3 (starEach [.Tuple es k p4] X.env)).any (·.1) = false := by rfl) : QE (X.suite a ((a, oe) :: pn)) (g.exc X.K dd fv y) (.Call (.Name "isinstance" p1) [.Name n p2, .Tuple es k p4] [] p3) (rIsEs a y cs i) := by
  refine QE.of (t := fun _ => _) (fun Ξ tk => pe_callB (call_isXT (fv := fv) T hz hf) hgi hmi (by rfl) (pa_cons (pe_var hN hv hdb hcd) (pa_cons (pe_tup hC) pa_nil he2) he) (by decide) (by decide) he hpl) fun τ ws ρ Φ Ξ σ H S hw => ?_
  obtain ⟨m, e, q⟩ := rSlot_ok hw
  refine ⟨_, slot_val S e, by rw [line_eq]; exact Nat.le_trans hl (by decide), fun tp htp => ?_⟩
  have S2 := S.new (o := .tup vs) htp
  exact ⟨_, _, _, _, rfl, S2.exc1.1, upd_same, cl.paired, cl.kit ho, .fr true (.bl (cs.any y.cls.sub)), ρ, S2.pushF rfl, q⟩
theorem repf_get {K : PySem.W.Frag} {G : Addr → Prop} {H : Hp} : ∀ {fs : List (Str × D)} {fv : List (Str × V)} {n : Str} {d : D}, Repf K G H fs fv → fs.lookup n = some d → ∃ v, fv.lookup n = some v ∧ Rep K G H d v
  | [], _, _, _, _, e => nomatch e
  | (k, x) :: r, _, n, d, ⟨(k', v), vs', rfl, ⟨e1, h1⟩, h2⟩, e => by
    have e1 : k' = k := e1
    subst e1
    rw [List.lookup_cons] at e ⊢
    cases hb : n == k' with
    | true =>
      rw [hb] at e
      cases e
      exact ⟨v, rfl, h1⟩
    | false =>
      rw [hb] at e
      exact repf_get h2 e
theorem q_xf (T : ErrK X.K (g.T.ea y.cls)) (hno : PySem.W.findIn X.K (.ref (g.T.ea y.cls)) f = some none) (hz : Zc (.ref (g.T.ea y.cls)) (some dd) oe) (hf : ∃ vs, oe.data = .fields vs) (i : Nat)
    (hN : X.N[i]? = some n := by rfl) (hv : Vis X.env.scope n := by first | exact Or.inl rfl | exact Or.inr (Or.inl rfl) | exact Or.inr (Or.inr rfl)) (hdb : (n == ("__debug__" : Str)) = false := by decide)
    (hcd : (n == ("__classdict__" : Str)) = false := by decide) (hb : attributeBase (.Name n p1) f X.env (eval (.Name n p1) X.env) = eval (.Name n p1) X.env := by rfl) :
    QE (X.suite a ((a, oe) :: pn)) (g.exc X.K dd fv y) (.Attribute (.Name n p1) f p2) (rXf a y f i) := by
  refine QE.of (t := fun _ => _) (fun Ξ tk => pe_xf ⟨T.ga, T.gg, T.hs, T.hd⟩ hno hz hf (pe_var hN hv hdb hcd) hb) fun τ vs ρ Φ Ξ σ H S hw => ?_
  obtain ⟨m, e, d, hd, q⟩ := rSlot_ok hw
  obtain ⟨h1, h2⟩ := S.exc1
  obtain ⟨v, hl, r⟩ := repf_get h2 hd
  refine ⟨_, slot_val S e, rfl, rfl, dd, fv, v, rfl, h1, hl, .fr d.safe d, ρ, S.pushF ?_, q⟩
  cases hs : d.safe with
  | true => exact rep_safe d v hs r
  | false => exact Rep.mono (fun _ _ z => Bool.noConfusion z) .refl _ _ r
end
end Q

namespace Q
open PySem PySem.Spec PyProof.Rows L2
/-! ### own things lent for a while: all are locked, then unlocked -/
section
variable {K : PySem.W.Frag} {G G' : Addr → Prop} {H H' : Hp}
mutual
theorem Rep.map (hf : ∀ a u, Fz G H a u → Fz G' H' a u) (ht : ∀ a xs, SqT K H a xs → SqT K H' a xs) : ∀ (d : D) (v : V), Rep K G H d v → Rep K G' H' d v
  | .non, _, h => h
  | .bl _, _, h => h
  | .int _, _, h => h
  | .str _, _, h => h
  | .lst xs, _, ⟨a, vs, e, f, r⟩ => ⟨a, vs, e, hf _ _ f, Reps.map hf ht xs vs r⟩
  | .tup xs, _, ⟨a, vs, e, f, r⟩ => ⟨a, vs, e, ht _ _ f, Reps.map hf ht xs vs r⟩
  | .dk xs, _, ⟨a, vs, e, f, r⟩ => ⟨a, vs, e, hf _ _ f, Repk.map hf ht xs vs r⟩
  | .dt xs, _, ⟨a, vs, e, f, r⟩ => ⟨a, vs, e, hf _ _ f, Rept.map hf ht xs vs r⟩
  | .obj C fs, _, ⟨a, dx, fv, e, f, r⟩ => ⟨a, dx, fv, e, hf _ _ f, Repf.map hf ht fs fv r⟩
  | .ref _, _, h => h
  | .ty _, _, h => h
  | .scr _, _, ⟨a, e, f⟩ => ⟨a, e, f.imp (hf _ _) id⟩
theorem Reps.map (hf : ∀ a u, Fz G H a u → Fz G' H' a u) (ht : ∀ a xs, SqT K H a xs → SqT K H' a xs) : ∀ (d : List D) (v : List V), Reps K G H d v → Reps K G' H' d v
  | [], _, h => h
  | x :: r, _, ⟨v, vs', e, a, b⟩ => ⟨v, vs', e, Rep.map hf ht x v a, Reps.map hf ht r vs' b⟩
theorem Repk.map (hf : ∀ a u, Fz G H a u → Fz G' H' a u) (ht : ∀ a xs, SqT K H a xs → SqT K H' a xs) : ∀ (d : List (Ky × D)) (v : List (Ky × V)), Repk K G H d v → Repk K G' H' d v
  | [], _, h => h
  | (k, x) :: r, _, ⟨v, vs', e, a, b⟩ => ⟨v, vs', e, ⟨a.1, Rep.map hf ht x v.2 a.2⟩, Repk.map hf ht r vs' b⟩
theorem Rept.map (hf : ∀ a u, Fz G H a u → Fz G' H' a u) (ht : ∀ a xs, SqT K H a xs → SqT K H' a xs) : ∀ (d : List (List Ky × D)) (v : List (List Ky × V)), Rept K G H d v → Rept K G' H' d v
  | [], _, h => h
  | (k, x) :: r, _, ⟨v, vs', e, a, b⟩ => ⟨v, vs', e, ⟨a.1, Rep.map hf ht x v.2 a.2⟩, Rept.map hf ht r vs' b⟩
theorem Repf.map (hf : ∀ a u, Fz G H a u → Fz G' H' a u) (ht : ∀ a xs, SqT K H a xs → SqT K H' a xs) : ∀ (d : List (Str × D)) (v : List (Str × V)), Repf K G H d v → Repf K G' H' d v
  | [], _, h => h
  | (k, x) :: r, _, ⟨v, vs', e, a, b⟩ => ⟨v, vs', e, ⟨a.1, Rep.map hf ht x v.2 a.2⟩, Repf.map hf ht r vs' b⟩
end
end
section
variable {X : Cx} {g : Gh} {σ : L2.St} {pins : List (Addr × Obj)} {s : Shared}
theorem lockAll {H : Hp} : ∀ (L : List Addr), L2.Inv X pins σ H s → (∀ a ∈ L, ∃ u, H a = some u ∧ Mut (some u)) → ∃ H1, L2.Inv X pins σ H1 s ∧ (∀ a ∈ L, ∃ od u, H a = some u ∧ H1 a = some (.frz od u)) ∧ ∀ b, b ∉ L → H1 b = H b
  | [], I, _ => ⟨H, I, fun _ h => (nomatch h), fun _ _ => rfl⟩
  | a :: L, I, hL => by
    obtain ⟨H1, I1, h1, h2⟩ := lockAll L I fun b hb => hL b (List.mem_cons_of_mem _ hb)
    by_cases ha : a ∈ L
    · exact ⟨H1, I1, fun b hb => (List.mem_cons.mp hb).elim (fun e => by rw [e]; exact h1 a ha) (h1 b), fun b hb => h2 b fun z => hb (List.mem_cons_of_mem _ z)⟩
    · obtain ⟨u, e, mu⟩ := hL a List.mem_cons_self
      have e1 : H1 a = some u := (h2 a ha).trans e
      obtain ⟨od, I2⟩ := I1.lock e1 mu
      refine ⟨_, I2, fun b hb => ?_, fun b hb => ?_⟩
      · by_cases hba : b = a
        · subst hba
          exact ⟨od, u, e, upd_same⟩
        · rw [upd_ne hba]
          exact h1 b ((List.mem_cons.mp hb).resolve_left hba)
      · rw [upd_ne fun z => hb (by rw [z]; exact List.mem_cons_self)]
        exact h2 b fun z => hb (List.mem_cons_of_mem _ z)
theorem unlockAll {H0 H2 : Hp} : ∀ (L : List Addr), L2.Inv X pins σ H2 s → (∀ a ∈ L, (∃ od u, H0 a = some u ∧ H2 a = some (.frz od u)) ∧ ∀ o' u', X.H_0 a ≠ some (.frz o' u')) → ∃ H3, L2.Inv X pins σ H3 s ∧ (∀ a ∈ L, H3 a = H0 a) ∧ ∀ b, b ∉ L → H3 b = H2 b
  | [], I, _ => ⟨H2, I, fun _ h => (nomatch h), fun _ _ => rfl⟩
  | a :: L, I, hL => by
    obtain ⟨H3, I1, h1, h2⟩ := unlockAll L I fun b hb => hL b (List.mem_cons_of_mem _ hb)
    by_cases ha : a ∈ L
    · exact ⟨H3, I1, fun b hb => (List.mem_cons.mp hb).elim (fun e => by rw [e]; exact h1 a ha) (h1 b), fun b hb => h2 b fun z => hb (List.mem_cons_of_mem _ z)⟩
    · obtain ⟨⟨od, u, e, e2⟩, hn⟩ := hL a List.mem_cons_self
      have e1 : H3 a = some (.frz od u) := (h2 a ha).trans e2
      refine ⟨_, I1.unlock e1 hn, fun b hb => ?_, fun b hb => ?_⟩
      · by_cases hba : b = a
        · subst hba
          rw [upd_same, e]
        · rw [upd_ne hba]
          exact h1 b ((List.mem_cons.mp hb).resolve_left hba)
      · rw [upd_ne fun z => hb (by rw [z]; exact List.mem_cons_self)]
        exact h2 b fun z => hb (List.mem_cons_of_mem _ z)
/-- the own cells of the slots -/
def SV.cells : SV → Option V → List Addr
  | .ol _ _, some (.ref a) => [a]
  | .od _ _, some (.ref a) => [a]
  | .oe _ _, some (.ref a) => [a]
  | .oo _ _ _, some (.ref a) => [a]
  | .ot L _, some _ => L
  | _, _ => []
theorem cells_own {sv : SV} {v : Option V} {a : Addr} : a ∈ sv.cells v ↔ sv.stoOf = none ∧ Own sv v a := by
  have key : ∀ b : Addr, a ∈ [b] ↔ (none : Option Addr) = none ∧ some b = some a := fun b => by simp [eq_comm]
  have non : ∀ P : Prop, (a ∈ ([] : List Addr)) ↔ P ∧ (none : Option Addr) = some a := fun P => by simp
  have sto : ∀ b c : Addr, a ∈ ([] : List Addr) ↔ some c = (none : Option Addr) ∧ some b = some a := fun b c => by simp
  cases v with
  | none => cases sv <;> exact non _
  | some v =>
    cases sv with
    | ot L d => exact ⟨fun h => ⟨rfl, h⟩, fun h => h.2⟩
    | ol m xs => cases v <;> first | exact key _ | exact non _
    | od m xs => cases v <;> first | exact key _ | exact non _
    | oe m xs => cases v <;> first | exact key _ | exact non _
    | oo m C xs => cases v <;> first | exact key _ | exact non _
    | sto b => cases v <;> first | exact sto _ _ | exact non _
    | so b kvs => cases v <;> first | exact sto _ _ | exact non _
    | _ => cases v <;> exact non _
def lentL (ρ : PSt) (σ : L2.St) : List Addr := (ρ.zip σ).flatMap fun p => p.1.cells p.2
theorem lentL_mem {ρ : PSt} {σ : L2.St} {a : Addr} (h : a ∈ lentL ρ σ) : ∃ p ∈ ρ.zip σ, p.1.stoOf = none ∧ Own p.1 p.2 a := by
  obtain ⟨p, hp, e⟩ := List.mem_flatMap.mp h
  exact ⟨p, hp, cells_own.mp e⟩
theorem lentL_of {ρ : PSt} {σ : L2.St} {a : Addr} {p : SV × Option V} (hp : p ∈ ρ.zip σ) (h1 : p.1.stoOf = none) (h2 : Own p.1 p.2 a) : a ∈ lentL ρ σ := List.mem_flatMap.mpr ⟨p, hp, cells_own.mpr ⟨h1, h2⟩⟩
def lentM (ρ : PSt) : List Addr := ρ.filterMap fun sv => match sv with
  | .sto a => some a
  | _ => none
theorem lentM_mem {ρ : PSt} {a : Addr} (h : a ∈ lentM ρ) : ∃ i : Nat, ρ[i]? = some (SV.sto a) := by
  obtain ⟨p, hp, e⟩ := List.mem_filterMap.mp h
  obtain ⟨i, hi⟩ := List.mem_iff_getElem?.mp hp
  cases p <;> first | cases e; exact ⟨i, hi⟩ | cases e
theorem lentM_of {ρ : PSt} {a : Addr} (h : SV.sto a ∈ ρ) : a ∈ lentM ρ := List.mem_filterMap.mpr ⟨_, h, rfl⟩
theorem zip_map1 {α β γ : Type} (f : α → γ) : ∀ (l : List α) (m : List β), (l.map f).zip m = (l.zip m).map fun p => (f p.1, p.2)
  | [], _ => by simp
  | _ :: _, [] => by simp
  | _ :: l, _ :: m => by simp [zip_map1 f l m]
theorem own_lent {sv : SV} {v : Option V} {a : Addr} (h : Own sv.lent v a) : ∃ b, sv = .sto b ∧ Own sv v a := by
  cases v with
  | none => cases sv <;> exact nomatch h
  | some v => cases sv <;> cases v <;> first | exact ⟨_, rfl, h⟩ | exact nomatch h
/-- the ghost within -/
def Gh.lent (g : Gh) (L M : List Addr) (H1 : Hp) : Gh := { g with G := fun b => g.G b ∧ b ∉ L, M := M, B := H1, S := fun b => g.S b ∧ b ∉ L }
theorem svr_lent {K : PySem.W.Frag} {H H1 : Hp} {L M : List Addr} {sv : SV} {v : Option V} (h : SVR K g H σ sv v) (hL : ∀ a ∈ L, ∃ od u, H a = some u ∧ Mut (some u) ∧ H1 a = some (.frz od u)) (hN : ∀ b, b ∉ L → H1 b = H b) (ho : sv.stoOf = none → ∀ a, Own sv v a → a ∈ L) (nb : sv.isBor = false) (hB : ∀ b, sv = .sto b → b ∉ L) :
    SVR K (g.lent L M H1) H1 σ sv.lent v := by
  have out : ∀ b o u, H b = some (.frz o u) → b ∉ L := fun b o u e hb => by
    obtain ⟨_, _, e1, mu, _⟩ := hL b hb
    rw [e] at e1
    cases e1
    exact mu
  have hf : ∀ m b u, Fz (g.gm m) H b u → Fz ((g.lent L M H1).gm m) H1 b u := fun m b u ⟨h1, o, e⟩ => ⟨fun z => ⟨h1 z, out b o u e⟩, o, by rw [hN b (out b o u e)]; exact e⟩
  have ht : ∀ b xs, SqT K H b xs → SqT K H1 b xs := fun b xs z => by
    rcases z with (z | ⟨o, z⟩) | z
    · refine .inl (.inl ?_)
      rw [hN b fun hb => ?_]
      · exact z
      · obtain ⟨_, _, e1, mu, _⟩ := hL b hb
        rw [z] at e1
        cases e1
        exact mu
    · exact .inl (.inr ⟨o, by rw [hN b (out b o _ z)]; exact z⟩)
    · exact .inr z
  have fz : ∀ a u, a ∈ L → H a = some u → Fz ((g.lent L M H1).gm false) H1 a u := fun a u ha e => by
    obtain ⟨od, u', e1, _, e2⟩ := hL a ha
    rw [e] at e1
    cases e1
    exact ⟨fun z => Bool.noConfusion z, od, e2⟩
  have wk : ∀ m b u, Fz (g.gm m) H b u → Fz ((g.lent L M H1).gm false) H1 b u := fun m b u z => ⟨fun z => Bool.noConfusion z, (hf m b u z).2⟩
  cases sv with
  | no => trivial
  | fr m d => obtain ⟨u, e, r⟩ := h; exact ⟨u, e, Rep.map (hf m) ht _ _ r⟩
  | ol m xs =>
    obtain ⟨a, ws, rfl, c, r⟩ := h
    exact ⟨_, rfl, a, ws, rfl, fz a _ (ho rfl a rfl) c, Reps.map (wk m) ht _ _ r⟩
  | od m xs =>
    obtain ⟨a, ws, rfl, c, r⟩ := h
    exact ⟨_, rfl, a, ws, rfl, fz a _ (ho rfl a rfl) c, Repk.map (wk m) ht _ _ r⟩
  | oe m xs =>
    obtain ⟨a, ws, rfl, c, r⟩ := h
    exact ⟨_, rfl, a, ws, rfl, fz a _ (ho rfl a rfl) c, Rept.map (wk m) ht _ _ r⟩
  | oo m C xs =>
    obtain ⟨a, dx, ws, rfl, c, r⟩ := h
    exact ⟨_, rfl, a, dx, ws, rfl, fz a _ (ho rfl a rfl) c, Repf.map (wk m) ht _ _ r⟩
  | sto b =>
    obtain ⟨e, c, ns, pos, now, left, seed, turn, great, h1, h2, h3⟩ := h
    exact ⟨e, c, ns, pos, now, left, seed, turn, great, by rw [hN b (hB b rfl)]; exact h1, Rep.map (fun b u ⟨h1, o, e⟩ => ⟨⟨h1, out b o u e⟩, o, by rw [hN b (out b o u e)]; exact e⟩) ht _ _ h2, h3⟩
  | ot Lc d => obtain ⟨u, e, r, _⟩ := h; exact ⟨u, e, RepT.frz ht d u Lc (fun a ha u' e' => fz a u' (ho rfl a (by rw [e]; exact ha)) e') r⟩
  | so b kvs => trivial
  | bor i => cases nb
theorem tup_back {K : PySem.W.Frag} {H2 H3 : Hp} {L : List Addr} (hL : ∀ a ∈ L, ∃ od u, Mut (some u) ∧ H2 a = some (.frz od u)) (hN : ∀ b, b ∉ L → H3 b = H2 b) : ∀ b xs, SqT K H2 b xs → SqT K H3 b xs := fun b xs z => by
    have nl : ∀ o, H2 b = some o → (∀ od u, Mut (some u) → o ≠ .frz od u) → b ∉ L := fun o e q hb => by
      obtain ⟨od, u, mu, e1⟩ := hL b hb
      rw [e] at e1
      cases e1
      exact q od u mu rfl
    rcases z with (z | ⟨o, z⟩) | z
    · exact .inl (.inl (by rw [hN b (nl _ z fun _ _ _ q => nomatch q)]; exact z))
    · refine .inl (.inr ⟨o, ?_⟩)
      rw [hN b (nl _ z fun od u mu q => by cases q; exact mu)]
      exact z
    · exact .inr z
theorem svr_back {K : PySem.W.Frag} {H1 H2 H3 : Hp} {L M : List Addr} {sv : SV} {v : Option V} (h : SVR K (g.lent L M H1) H2 σ sv v) (hL : ∀ a ∈ L, ∃ od u, Mut (some u) ∧ H2 a = some (.frz od u)) (hN : ∀ b, b ∉ L → H3 b = H2 b) (hc : sv.clean = true) : SVR K g H3 σ sv v := by
  have ht := tup_back (K := K) hL hN
  have hf : ∀ b u, Fz ((g.lent L M H1).gm true) H2 b u → Fz (g.gm true) H3 b u := fun b u ⟨h1, o, e⟩ => ⟨fun z => (h1 z).1, o, by rw [hN b (h1 rfl).2]; exact e⟩
  have own : ∀ a o, H2 a = some o → Mut (some o) → H3 a = some o := fun a o e mu => by
    rw [hN a fun ha => ?_]
    · exact e
    · obtain ⟨od, u, _, e1⟩ := hL a ha
      rw [e] at e1
      cases e1
      exact mu
  cases sv with
  | no => trivial
  | fr m d =>
    obtain ⟨u, e, r⟩ := h
    cases m with
    | true => exact ⟨u, e, Rep.map hf ht _ _ r⟩
    | false =>
      have hs : d.safe = true := hc
      exact ⟨u, e, Rep.map (G := fun b => b ∉ L) (fun b u ⟨h1, o, e⟩ => ⟨fun z => Bool.noConfusion z, o, by rw [hN b h1]; exact e⟩) ht _ _ (rep_safe d u hs r)⟩
  | ol m xs => cases (show m = true from hc); obtain ⟨a, ws, rfl, c, r⟩ := h; exact ⟨a, ws, rfl, own _ _ c trivial, Reps.map hf ht _ _ r⟩
  | od m xs => cases (show m = true from hc); obtain ⟨a, ws, rfl, c, r⟩ := h; exact ⟨a, ws, rfl, own _ _ c trivial, Repk.map hf ht _ _ r⟩
  | oe m xs => cases (show m = true from hc); obtain ⟨a, ws, rfl, c, r⟩ := h; exact ⟨a, ws, rfl, own _ _ c trivial, Rept.map hf ht _ _ r⟩
  | oo m C xs => cases (show m = true from hc); obtain ⟨a, dx, ws, rfl, c, r⟩ := h; exact ⟨a, dx, ws, rfl, own _ _ c trivial, Repf.map hf ht _ _ r⟩
  | ot Lc d =>
    obtain ⟨u, e, r, n⟩ := h
    refine ⟨u, e, RepT.mono ht d u Lc (fun a ha => ?_) r, n⟩
    obtain ⟨o, e1, mu, _⟩ := RepT.own d u Lc r ha
    rw [e1]
    exact own a o e1 mu
  | sto b => cases hc
  | so b kvs => cases hc
  | bor i => cases hc
theorem q_lend {e : Expr} {p : RE} (h : ∀ g' : Gh, g'.T = g.T → QE X g' e p) : QE X g e (rLend p) := by
  refine ⟨fun pins s σ H τ vs ρ Φ Ξ tk I S hw => ?_⟩
  have mem2 : ∀ q ∈ ρ.zip σ, q ∈ ents ρ σ τ vs := fun q hq => List.mem_append_right _ hq
  have hL0 : ∀ a ∈ lentL ρ σ, ∃ u, H a = some u ∧ Mut (some u) ∧ ∀ φ, u ≠ .ext φ := fun a ha => by
    obtain ⟨q, hq, h1, h2⟩ := lentL_mem ha
    obtain ⟨_, u, e, mu, nx⟩ := svr_own (S.all q (mem2 q hq)) h2
    exact ⟨u, e, mu, nx⟩
  obtain ⟨H1, I1, hA, hN⟩ := lockAll (lentL ρ σ) I fun a ha => let ⟨u, e, mu, _⟩ := hL0 a ha; ⟨u, e, mu⟩
  have hL : ∀ a ∈ lentL ρ σ, ∃ od u, H a = some u ∧ Mut (some u) ∧ H1 a = some (.frz od u) := fun a ha => by
    obtain ⟨u, e, mu, _⟩ := hL0 a ha
    obtain ⟨od, u', e1, e2⟩ := hA a ha
    rw [e] at e1
    cases e1
    exact ⟨od, u, e, mu, e2⟩
  have notL : ∀ b o, H b = some o → ¬ Mut (some o) → b ∉ lentL ρ σ := fun b o e nm hb => by
    obtain ⟨u, e1, mu, _⟩ := hL0 b hb
    rw [e] at e1
    cases e1
    exact nm mu
  have notLx : ∀ b φ, H b = some (.ext φ) → b ∉ lentL ρ σ := fun b φ e hb => by
    obtain ⟨u, e1, _, nx⟩ := hL0 b hb
    rw [e] at e1
    cases e1
    exact nx φ rfl
  have tabs1 : LamX.Tabs g.T.tb H1 := fun pt hpt => by
    obtain ⟨ps, h1, h2, h3⟩ := S.tabs pt hpt
    refine ⟨ps, by rw [hN _ (notL _ _ h1 id)]; exact h1, h2, fun pos cv hc => ?_⟩
    obtain ⟨c, e1, e2⟩ := h3 pos cv hc
    exact ⟨c, e1, by rw [hN _ (notLx _ _ e2)]; exact e2⟩
  have st1 : Stab H H1 := ⟨⟨fun a o u e => by rw [hN _ (notL _ _ e id)]; exact e, fun a xs e => by rw [hN _ (notL _ _ e id)]; exact e⟩, fun a xs e => by rw [hN _ (notL _ _ e id)]; exact e⟩
  have lnone : ∀ b, H1 b = none → b ∉ lentL ρ σ ∧ H b = none := fun b e => by
    have nb : b ∉ lentL ρ σ := fun hb => by
      obtain ⟨_, _, _, _, e1⟩ := hL b hb
      rw [e] at e1
      cases e1
    exact ⟨nb, by rw [← hN b nb]; exact e⟩
  have stoL : ∀ q ∈ ρ.zip σ, ∀ b, q.1 = .sto b → b ∉ lentL ρ σ := fun q hq b e hb => by
    obtain ⟨r, hr, h1, h2⟩ := lentL_mem hb
    obtain ⟨i, hi⟩ := List.mem_iff_getElem?.mp (mem2 q hq)
    obtain ⟨j, hj⟩ := List.mem_iff_getElem?.mp (mem2 r hr)
    have hv := S.all q (mem2 q hq)
    obtain ⟨q1, q2⟩ := q
    have e : q1 = .sto b := e
    subst e
    have hv : q2 = some (.ref b) := hv.1
    subst hv
    have := S.inj i j _ _ b hi hj rfl h2
    subst this
    rw [hi] at hj
    cases hj
    cases h1
  have zinj : ∀ (i j : Nat) (q r : SV × Option V) (a : Addr), (ρ.zip σ)[i]? = some q → (ρ.zip σ)[j]? = some r → Own q.1 q.2 a → Own r.1 r.2 a → i = j := fun i j q r a h1 h2 e1 e2 => by
    have := S.inj ((τ.zip (vs.map some)).length + i) ((τ.zip (vs.map some)).length + j) q r a (by unfold ents; rw [List.getElem?_append_right (by omega)]; simpa using h1) (by unfold ents; rw [List.getElem?_append_right (by omega)]; simpa using h2) e1 e2
    omega
  have S1 : SR X.K (g.lent (lentL ρ σ) (lentM ρ) H1) (ρ.map SV.lent) σ [] [] H1 := by
    refine ⟨by rw [List.length_map]; exact S.len, rfl, fun q hq => ?_, fun i j q r a h1 h2 e1 e2 => ?_, fun q hq a e => ?_, KeepB.refl, tabs1, fun b e => ⟨S.gnew b (S.free (lnone b e).2), (lnone b e).1⟩, fun z hz => st1.pin (S.pin z hz), fun sv hs => ?_, fun b e => ⟨S.snew b (S.free (lnone b e).2), (lnone b e).1⟩⟩
    · have hq : q ∈ (ρ.map SV.lent).zip σ := hq
      rw [zip_map1] at hq
      obtain ⟨r, hr, rfl⟩ := List.mem_map.mp hq
      exact svr_lent (S.all r (mem2 r hr)) hL hN (fun h1 a h2 => lentL_of hr h1 h2) (S.nb _ (List.of_mem_zip hr).1) (stoL r hr)
    · have h1 : ((ρ.map SV.lent).zip σ)[i]? = some q := h1
      have h2 : ((ρ.map SV.lent).zip σ)[j]? = some r := h2
      rw [zip_map1, List.getElem?_map] at h1 h2
      obtain ⟨q', hq', rfl⟩ := Option.map_eq_some_iff.mp h1
      obtain ⟨r', hr', rfl⟩ := Option.map_eq_some_iff.mp h2
      obtain ⟨_, _, o1⟩ := own_lent e1
      obtain ⟨_, _, o2⟩ := own_lent e2
      exact zinj i j q' r' a hq' hr' o1 o2
    · have hq : q ∈ (ρ.map SV.lent).zip σ := hq
      rw [zip_map1] at hq
      obtain ⟨r, hr, rfl⟩ := List.mem_map.mp hq
      obtain ⟨b, eb, o⟩ := own_lent e
      obtain ⟨r1, r2⟩ := r
      have eb : r1 = .sto b := eb
      subst eb
      have hv : r2 = some (.ref b) := (S.all _ (mem2 _ hr)).1
      subst hv
      cases (show some b = some a from o)
      exact .inr ⟨lentM_of (List.of_mem_zip hr).1, rfl⟩
    · obtain ⟨r, hr, rfl⟩ := List.mem_map.mp hs
      cases r <;> rfl
  refine thn ((h (g.lent (lentL ρ σ) (lentM ρ) H1) rfl).run pins s σ H1 [] [] _ _ noX takes_no I1 S1 hw) fun u s' ⟨v, H2, sv, ρ', I2, rv, S2, ⟨⟨eρ, hc⟩, q⟩⟩ => ?_
  have mK : ∀ b ∈ lentM ρ, ∃ kw, H b = some (.dK kw) ∧ b ∉ lentL ρ σ := fun b hb => by
    obtain ⟨i, hi⟩ := lentM_mem hb
    obtain ⟨u, hu, ⟨rfl, _, _, _, _, _, _, _, _, e, _⟩, _⟩ := S.slot hi
    exact ⟨_, e, stoL (SV.sto b, some (V.ref b)) (List.mem_of_getElem? ((List.getElem?_zip_eq_some (i := i)).mpr ⟨hi, hu⟩)) b rfl⟩
  have kp : ∀ b o, H1 b = some o → b ∉ lentM ρ → (∀ ps, o ≠ .tbl ps) → H2 b = some o := fun b o e nm n => S2.keep.keep b o e nm n
  have Lm : ∀ b, b ∈ lentL ρ σ → b ∉ lentM ρ := fun b hb hm => by
    obtain ⟨_, _, n⟩ := mK b hm
    exact n hb
  have h2L : ∀ a ∈ lentL ρ σ, ∃ od u, Mut (some u) ∧ H2 a = some (.frz od u) := fun a ha => by
    obtain ⟨od, u, _, mu, e⟩ := hL a ha
    exact ⟨od, u, mu, kp _ _ e (Lm a ha) fun _ z => nomatch z⟩
  obtain ⟨H3, I3, hB, hM⟩ := unlockAll (H0 := H) (lentL ρ σ) I2 fun a ha => by
    obtain ⟨od, u, e0, mu, e⟩ := hL a ha
    exact ⟨⟨od, u, e0, kp _ _ e (Lm a ha) (fun _ z => nomatch z)⟩, I.nofrz e0 mu⟩
  have kp3 : ∀ b o, H b = some o → b ∉ lentM ρ → (∀ ps, o ≠ .tbl ps) → H3 b = some o := fun b o e nm n => by
    by_cases hb : b ∈ lentL ρ σ
    · rw [hB b hb]; exact e
    · rw [hM b hb]
      exact kp b o (by rw [hN b hb]; exact e) nm n
  have live3 : ∀ b, H3 b = none → H b = none := fun b e => by
    have nb : b ∉ lentL ρ σ := fun hb => by
      rw [hB b hb] at e
      obtain ⟨_, _, e1, _⟩ := hL b hb
      rw [e] at e1
      cases e1
    rw [hM b nb] at e
    exact (lnone b (S2.keep.live b e)).2
  have nM : ∀ b o, H b = some o → (∀ kw, o ≠ .dK kw) → b ∉ lentM ρ := fun b o e n hb => by
    obtain ⟨kw, e1, _⟩ := mK b hb
    rw [e] at e1
    cases e1
    exact n _ rfl
  have st3 : Stab0 H H3 := ⟨fun a o u e => kp3 _ _ e (nM _ _ e fun _ z => nomatch z) (fun _ z => nomatch z), fun a xs e => kp3 _ _ e (nM _ _ e fun _ z => nomatch z) (fun _ z => nomatch z)⟩
  have tabs3 : LamX.Tabs g.T.tb H3 := fun pt hpt => by
    obtain ⟨ps, h1, h2, h3⟩ := S2.tabs pt hpt
    have nl : ∀ b o, H2 b = some o → (∀ od u, o ≠ .frz od u) → b ∉ lentL ρ σ := fun b o e n hb => by
      obtain ⟨od, u, _, e1⟩ := h2L b hb
      rw [e] at e1
      cases e1
      exact n od u rfl
    refine ⟨ps, by rw [hM _ (nl _ _ h1 (fun _ _ z => nomatch z))]; exact h1, h2, fun pos cv hc => ?_⟩
    obtain ⟨c, e1, e2⟩ := h3 pos cv hc
    refine ⟨c, e1, ?_⟩
    rw [hM _ (nl _ _ e2 fun _ _ z => by unfold LamX.CodeO at z; cases z)]
    exact e2
  have sto3 : ∀ a ∈ lentM ρ, StoreOk X.K g.S H3 a := fun a ha => by
    obtain ⟨i, hi⟩ := lentM_mem ha
    have hi' : ρ'[i]? = some (.sto a) := by rw [eρ, List.getElem?_map, hi]; rfl
    obtain ⟨u, hu, ⟨_, c, ns, pos, now, left, seed, turn, great, h1, h2, h3⟩, _⟩ := S2.slot hi'
    obtain ⟨_, _, nl⟩ := mK a ha
    exact ⟨c, ns, pos, now, left, seed, turn, great, by rw [hM a nl]; exact h1, Rep.map (G := fun b => g.S b ∧ b ∉ lentL ρ σ) (fun b u ⟨h1, o, e⟩ => ⟨h1.1, o, by rw [hM b h1.2]; exact e⟩) (tup_back h2L hM) _ _ h2, h3⟩
  have S3 : SR X.K g ρ σ τ vs H3 := S.called (M := lentM ρ) (fun a ha => lentM_mem ha) ⟨⟨fun a o e m t => kp3 a o e m t, fun a e => live3 a e⟩, tabs3, sto3⟩ st3
  refine ⟨v, H3, sv, ρ, I3, rv, S3.push (svr_back S2.top h2L hM hc) fun a e => ?_, q⟩
  have nst : sv.stoOf = none := by cases sv <;> first | rfl | cases hc
  have h1n : H1 a = none := (S2.own _ List.mem_cons_self a e).elim id fun z => absurd z.2 (by rw [nst]; exact fun e => nomatch e)
  have hn := (lnone a h1n).2
  refine ⟨.inl (S.free hn), fun q hq z => ?_⟩
  obtain ⟨_, w, hw, _⟩ := svr_own (S.all q hq) z
  rw [hn] at hw
  cases hw
end
end Q

namespace Q
open PySem PySem.Spec PyProof.Rows L2 LamX
/-! ### a lambda is made -/
def LamStep (P : Addr) (H H1 : Hp) : Prop := H1 = H ∨ ∃ (ps more : Array Value) (c' : Addr) (q : Str), H P = some (.tbl ps) ∧ H c' = none ∧ H1 = upd (upd H P (.tbl (ps ++ more))) c' (CodeO c' q)
section
variable {X : Cx} {pins : List (Addr × Obj)} {σ : L2.St} {H : Hp} {s : Shared}
theorem lam_mk {T : List (Addr × Str)} {q : Str} {c P : Addr} {params : Arguments} {body : Expr} {scope : Scope} {pos : Pos} {Ex : Value → Shared → Prop} {Qv : Value → Shared → Prop} (I : L2.Inv X pins σ H s) (TB : TabB X.base X.mg c P) (hcode : X.env.code = .ref c)
    (hm : (P, q) ∈ T) (hu : ∀ p ∈ T, p.1 = P → p.2 = q) (hq : q = X.env.qual ++ "<lambda>") (hT : Tabs T H) (hdef : defaultsOf params X.env = ([], [])) (hfree : ∀ y ∈ scope.names, y.2 = .free → ∃ c, X.env.cells.lookup y.1 = some c)
    (h : ∀ (f c' : Addr) (pm ctv : Value) (H1 : Hp) (s' : Shared), L2.Inv X pins σ H1 s' → LamStep P H H1 → Tabs T H1 → s'.heap.get? f = some (PySem.W.kla_obj "<lambda>" (X.env.qual ++ "<lambda>") params body scope (cloFrom X.env.cells scope.names []) pm c' ctv) →
      H1 f = none → f ∉ frs X.stack → H1 c' = some (CodeO c' (X.env.qual ++ "<lambda>")) → Qv (.ref f) s') : wpAny (model X.prog X.w) X.A (eval (.Lambda params body scope pos) X.env) Qv Ex s := by
  subst hq
  obtain ⟨ps, eP, ht, ha⟩ := hT _ hm
  have eP : H P = some (.tbl ps) := eP
  have noP : ∀ b o, H b = some o → (∀ q, o ≠ .tbl q) → b ≠ P := fun b o e n z => by
    subst z
    rw [eP] at e
    exact n ps (Option.some.inj e).symm
  have oP : s.heap.get? P = some { cls := .none, data := .fields ps } := I.hok P _ eP
  have bP := TB.bm.keeps I.bk
  have far : ∀ f, s.heap.objs.size ≤ f → f ∉ frs X.stack := fun f hf z => (List.mem_cons.mp (I.stkSub _ z)).elim (fun e => absurd (e ▸ I.lt) (Nat.not_lt.mpr hf)) (I.nofs hf)
  apply PySem.W.kla_eval hdef
  cases hc : codeAmong pos ps.toList with
  | some cv =>
    obtain ⟨c', rfl, hco⟩ := ha pos cv hc
    refine PySem.W.kla_makeFunctionHit (closure_ok hfree) I.ok.glob (I.mod.glob.keeps I.bk) hcode (TB.code.keeps I.bk) oP ht hc bP fun ctv h' tk hx hsz => ?_
    exact h _ c' _ ctv H _ (I.kept fun b o e => Heap.get?_push_of_some _ (hx b o e)) (.inl rfl) hT (Heap.get?_push_size _ rfl) (I.hok.fresh hsz) (far _ hsz) hco
  | none =>
    refine PySem.W.kla_makeFunction (closure_ok hfree) I.ok.glob (I.mod.glob.keeps I.bk) hcode (TB.code.keeps I.bk) oP ht hc TB.gP bP fun c' ctv h' tk hx hge hlt hrec htb => ?_
    obtain ⟨_, oc, ws, t, rfl', hoc, hd, hv⟩ := hrec
    cases rfl'
    have nC : H c' = none := I.hok.fresh hge
    have I1 := inv_table (t' := tk) (h' := h'.push (PySem.W.kla_obj "<lambda>" (X.env.qual ++ "<lambda>") params body scope (cloFrom X.env.cells scope.names []) ((X.mg "__name__").getD .none) c' ctv)) I eP (fun b o hb e => Heap.get?_push_of_some _ (hx b o hb e)) (Heap.get?_push_of_some _ htb) hge ⟨oc, ws, t, Heap.get?_push_of_some _ hoc, hd, hv⟩
    have up : ∀ b o, H b = some o → (∀ q, o ≠ .tbl q) → upd (upd H P (.tbl (ps ++ #[rawInt pos.line, rawInt pos.col, .ref c']))) c' (CodeO c' (X.env.qual ++ "<lambda>")) b = some o := fun b o e n => by
      rw [upd_ne (ne_of_none e nC), upd_ne (noP b o e n)]
      exact e
    have hsz := Nat.le_trans hge (Nat.le_of_lt hlt)
    refine h _ c' _ ctv _ _ I1 (.inr ⟨ps, _, c', _, eP, nC, rfl⟩) (fun p hp => ?_) (Heap.get?_push_size _ rfl) ?_ (far _ hsz) upd_same
    · by_cases hb : p.1 = P
      · refine ⟨ps ++ #[rawInt pos.line, rawInt pos.col, .ref c'], ?_, ?_, fun p' cv hcv => ?_⟩
        · rw [hb, upd_ne (ne_of_none eP nC), upd_same]
        · rw [Array.toList_append]
          exact PySem.TriplesOk_snoc _ _ _ _ ht
        · rw [Array.toList_append] at hcv
          rw [hu p hp hb]
          rcases among_app _ ht hcv with z | z
          · obtain ⟨c0, e1, e2⟩ := ha p' cv z
            exact ⟨c0, e1, up _ _ e2 codeO_ne⟩
          · exact ⟨c', z, upd_same⟩
      · obtain ⟨qs, a1, a2, a3⟩ := hT p hp
        refine ⟨qs, (upd_ne (ne_of_none a1 nC)).trans ((upd_ne hb).trans a1), a2, fun p' cv hcv => ?_⟩
        obtain ⟨c0, e1, e2⟩ := a3 p' cv hcv
        exact ⟨c0, e1, up _ _ e2 codeO_ne⟩
    · exact (upd_ne (Nat.ne_of_gt hlt)).trans ((upd_ne (Nat.ne_of_gt (Nat.lt_of_lt_of_le (Heap.lt_size oP) hsz))).trans (I.hok.fresh hsz))
end
section
variable {K : PySem.W.Frag} {g : Gh} {ρ : PSt} {σ : L2.St} {τ : List SV} {vs : List V} {H H1 : Hp} {P : Addr}
theorem LamStep.keep (h : LamStep P H H1) : ∀ b o, H b = some o → (∀ ps, o ≠ .tbl ps) → H1 b = some o := fun b o e n => by
  rcases h with rfl | ⟨ps, more, c', q, eP, nC, rfl⟩
  · exact e
  · have hb : b ≠ P := fun z => by
      subst z
      rw [eP] at e
      exact n ps (Option.some.inj e).symm
    rw [upd_ne (ne_of_none e nC), upd_ne hb]
    exact e
theorem LamStep.live (h : LamStep P H H1) : ∀ b, H1 b = none → H b = none := fun b e => by
  rcases h with rfl | ⟨ps, more, c', q, eP, nC, rfl⟩
  · exact e
  · exact NdefX.upd_none (NdefX.upd_none e)
/-- what keeps all but the tables keeps the state -/
theorem SR.ext (S : SR K g ρ σ τ vs H) (kp : ∀ b o, H b = some o → (∀ ps, o ≠ .tbl ps) → H1 b = some o) (lv : ∀ b, H1 b = none → H b = none) (T1 : LamX.Tabs g.T.tb H1) : SR K g ρ σ τ vs H1 := by
  refine S.heap ⟨⟨fun a o u e => kp _ _ e (fun _ z => nomatch z), fun a xs e => kp _ _ e (fun _ z => nomatch z)⟩, fun a xs e => kp _ _ e (fun _ z => nomatch z)⟩ (fun q hq a e => ?_) ⟨fun a o e m t => kp a o (S.keep.keep a o e m t) t, fun a e => S.keep.live a (lv a e)⟩ T1
  obtain ⟨_, o, e1, mu, _⟩ := svr_own (S.all q hq) e
  rw [e1]
  exact kp _ _ e1 fun ps z => by subst z; exact mu
theorem svr_g {g' : Gh} {σ' : L2.St} {sv : SV} {v : Option V} (hg : g'.G = g.G) (hS : g'.S = g.S) (nb : sv.isBor = false) (h : SVR K g H σ sv v) : SVR K g' H σ' sv v := by
  have e : ∀ m, g'.gm m = g.gm m := fun m => by unfold Gh.gm; rw [hg]
  cases sv with
  | bor i => cases nb
  | no => trivial
  | fr m d => obtain ⟨u, e1, r⟩ := h; exact ⟨u, e1, by rw [e]; exact r⟩
  | ol m xs => obtain ⟨a, ws, e1, c, r⟩ := h; exact ⟨a, ws, e1, c, by rw [e]; exact r⟩
  | od m xs => obtain ⟨a, ws, e1, c, r⟩ := h; exact ⟨a, ws, e1, c, by rw [e]; exact r⟩
  | oe m xs => obtain ⟨a, ws, e1, c, r⟩ := h; exact ⟨a, ws, e1, c, by rw [e]; exact r⟩
  | oo m C xs => obtain ⟨a, dx, ws, e1, c, r⟩ := h; exact ⟨a, dx, ws, e1, c, by rw [e]; exact r⟩
  | ot L d => exact h
  | sto b => exact ⟨h.1, by rw [hS]; exact h.2⟩
  | so b kvs => obtain ⟨e1, kw, c, r⟩ := h; exact ⟨e1, kw, c, by rw [hS]; exact r⟩
/-- what the lambda sees of its maker's slots, at any later heap -/
theorem SR.seen (S : SR K g ρ σ τ vs H) (st : Stab H H1) (hG : ∀ a, H1 a = none → g.G a) (hS : ∀ a, H1 a = none → g.S a) (T1 : LamX.Tabs g.T.tb H1) : SR K ⟨g.G, [], g.T, H1, [], g.S⟩ (ρ.map SV.seen) σ [] [] H1 := by
  have mem2 : ∀ q ∈ ρ.zip σ, q ∈ ents ρ σ τ vs := fun q hq => List.mem_append_right _ hq
  have no : ∀ (sv : SV) (v : Option V) a, ¬ Own sv.seen v a := fun sv v a => by
    cases v with
    | none => cases sv <;> exact fun z => nomatch z
    | some v => cases sv <;> cases v <;> exact fun z => nomatch z
  have hz : ∀ q ∈ ents (ρ.map SV.seen) σ [] [], ∃ r ∈ ρ.zip σ, q = (r.1.seen, r.2) := fun q hq => by
    have hq : q ∈ (ρ.map SV.seen).zip σ := hq
    rw [zip_map1] at hq
    obtain ⟨r, hr, rfl⟩ := List.mem_map.mp hq
    exact ⟨r, hr, rfl⟩
  refine ⟨by rw [List.length_map]; exact S.len, rfl, fun q hq => ?_, fun i j q r a h1 h2 e1 e2 => ?_, fun q hq a e => ?_, KeepB.refl, T1, hG, (fun z hz => nomatch hz), fun sv hs => ?_, hS⟩
  · obtain ⟨r, hr, rfl⟩ := hz q hq
    have z := S.all r (mem2 r hr)
    obtain ⟨sv, v⟩ := r
    cases sv with
    | fr m d => obtain ⟨u, e1, r⟩ := z; exact ⟨u, e1, Rep.mono (fun _ q => q) st _ _ r⟩
    | _ => trivial
  · obtain ⟨r', _, rfl⟩ := hz q (List.mem_of_getElem? h1)
    exact absurd e1 (no _ _ _)
  · obtain ⟨r', _, rfl⟩ := hz q hq
    exact absurd e (no _ _ _)
  · obtain ⟨r, hr, rfl⟩ := List.mem_map.mp hs
    cases r <;> rfl
end
/-! ### it is called, in the def that got it -/
section
variable {X : Cx} {pins : List (Addr × Obj)} {σ : L2.St} {H : Hp} {s : Shared}
theorem rAct_ok {f : Addr} {ask : AskP} {i : Nat} {ρ : PSt} {k : RK} {x : RX} (h : rAct f ask i ρ k x) : ∃ m, ρ[i]? = some (.fr m (.ref f)) ∧ ask (fun r => k r ρ) (fun e => x e ρ) := by
  unfold rAct at h
  split at h
  · rename_i m b e
    obtain ⟨rfl, h⟩ := h
    exact ⟨m, e, h⟩
  · exact h.elim
/-- a lambda's wish about errors -/
theorem takes_lam {A : Around} {outer : List Env} {s1 : Shared} {HZ : Hp} {E : XK} {scope : Scope} {f c' : Addr} : Takes (lamCx X A outer s1 HZ E scope f c') (fun cls d _ H => E cls d H) := takes_of rfl rfl rfl rfl
def askOf (p : RE) (ρ : PSt) : AskP := fun R F => p (ρ.map SV.seen) (fun sv _ => sv.isBor = false ∧ R sv) (fun e _ => F e)
theorem q_act {Eg : XK} {Ng : List Str} {qg : Str} {sg : Scope} {gA f c' : Addr} {cdg pm ctv : Value} {params : Arguments} {body : Expr} {scope : Scope} {k i : Nat} {a : Str} {pn : List (Addr × Obj)} {xe : Value → Shared → Prop} {g0 gc : Gh} {ρ0 : PSt} {τ0 : List SV} {vs0 : List V} {p : RE} {p1 p2 : Pos}
    (I : L2.Inv X pins σ H s) (L : LamS X.env.scope scope) (hf : s.heap.get? f = some (PySem.W.kla_obj "<lambda>" (X.env.qual ++ "<lambda>") params body scope (cloFrom X.env.cells scope.names []) pm c' ctv)) (hfn : H f = none) (hfr : f ∉ frs X.stack) (hco : H c' = some (CodeO c' (X.env.qual ++ "<lambda>")))
    (hbind : bindArgs (PySem.W.kla_fn "<lambda>" (X.env.qual ++ "<lambda>") params body scope (cloFrom X.env.cells scope.names []) pm (.ref c') ctv) ⟨[], []⟩ = pure []) (hr : Room (k + 1) (X.A.deeper (envOfC qg sg s.heap.objs.size gA cdg)))
    (hbody : ∀ (A : Around) (outer : List Env) (s1 : Shared) (H1 : Hp) (E : XK) (gl : Gh), gl.T = g0.T → Room k (A.deeper (lamEnv X scope s1.heap.objs.size f c')) → QE (lamCx X A outer s1 H1 E scope f c') gl body p)
    (S0 : SR X.K g0 ρ0 σ τ0 vs0 H) (hB : gc.B = H) (hM : gc.M = []) (hTc : gc.T = g0.T) (hG : gc.G = g0.G) (hSc : gc.S = g0.S)
    (hN : Ng[i]? = some a) (hv : Vis sg a) (hd : (a == ("__debug__" : Str)) = false := by decide) (hcd : (a == ("__classdict__" : Str)) = false := by decide) :
    QE ((cxOf (L2.CX X.prog X.w) X.prog X.w X.K X.mg X.base Ng qg sg gA cdg X.A X.stack s H Eg).tr pn xe) gc (.Call (.Name a p1) [] [] p2) (rAct f (askOf p ρ0) i) := by
  refine ⟨fun pinsZ sZ σZ HZ τ vs ρ Φ Ξ tk IZ SZ hw => ?_⟩
  obtain ⟨m, hslot, hask⟩ := rAct_ok hw
  have hs := slot_val SZ hslot
  have kpB : ∀ b o, H b = some o → (∀ ps, o ≠ .tbl ps) → HZ b = some o := fun b o e n => SZ.keep.keep b o (by rw [hB]; exact e) (by rw [hM]; exact fun z => nomatch z) n
  have stB : Stab H HZ := ⟨⟨fun a o u e => kpB _ _ e (fun _ z => nomatch z), fun a xs e => kpB _ _ e (fun _ z => nomatch z)⟩, fun a xs e => kpB _ _ e (fun _ z => nomatch z)⟩
  refine wpAny_Call_Name_kw (thn ((pe_var (pos := p1) hN hv hd hcd).run pinsZ sZ σZ HZ (fun v H1 => v = .ref f ∧ H1 = HZ) IZ ⟨.ref f, hs, rfl, rfl⟩) fun u s1 ⟨v, H1, I1, r1, q1⟩ => ?_)
  obtain ⟨rfl, rfl⟩ := q1
  obtain rfl : u = Value.ref f := r1
  have of1 := I1.base.keep f _ hf hfn hfr (fun z => nomatch (show f ∈ ([] : List Addr) from z))
  have hcZ := kpB c' _ hco fun _ z => codeO_ne _ z
  obtain ⟨⟨oc, ws, t, hoc, hdc, hvc⟩, _, _⟩ := I1.hok c' _ hcZ
  refine PySem.W.callWith_F0 ⟨_, _, _, _, of1⟩ ?_
  -- the state that the lambda sees
  have Sl : SR X.K ⟨gc.G, [], gc.T, H1, [], gc.S⟩ (ρ0.map SV.seen) σ [] [] H1 := by
    have z := S0.seen (H1 := H1) stB (fun a e => S0.gnew a (S0.free (by rw [← hB]; exact SZ.keep.live a e))) (fun a e => S0.snew a (S0.free (by rw [← hB]; exact SZ.keep.live a e))) (by rw [← hTc]; exact SZ.tabs)
    rw [hG, hTc, hSc]
    exact z
  -- back in the def
  have back : ∀ {H' : Hp} {ρ' : PSt} {σ' : L2.St} {τ' : List SV} {vs' : List V}, SR X.K ⟨gc.G, [], gc.T, H1, [], gc.S⟩ ρ' σ' τ' vs' H' → SR X.K gc ρ σZ τ vs H' := fun {H' ρ' σ' τ' vs'} Sx =>
    SZ.ext (fun b o e n => Sx.keep.keep b o e (fun z => nomatch z) n) Sx.keep.live Sx.tabs
  have rc : codeAny (model X.prog X.w) (X.A.deeper (envOfC qg sg s.heap.objs.size gA cdg)) (.call (.ref f) ⟨[], []⟩) (CR (L2.CX X.prog X.w) (envOfC qg sg s.heap.objs.size gA cdg :: X.stack) X.prog X.w H1 s1
      (fun v H' => ∃ sv, SR X.K gc ρ σZ (sv :: τ) (v :: vs) H' ∧ Φ sv ρ) (fun c d H' => WQ ((cxOf (L2.CX X.prog X.w) X.prog X.w X.K X.mg X.base Ng qg sg gA cdg X.A X.stack s H Eg).tr pn xe) gc Ξ c d σZ H')) s1 := by
    refine PySem.W.kla_callFunE hr.depth of1 rfl L.co L.gen rfl ⟨c', oc, ws, t, rfl, hoc, hdc, hvc⟩ ?_
    rw [hbind]
    refine wpAny_pure (wpAny_newFunctionEnv (fun y hy => (L.own y hy).2) (fun y hy => nomatch hy) (fun h₁ hns hsb => ⟨I1.nolimit.fresh _ hsb, ?_⟩) L.kind)
    have J := lam_start2 (E := fun c d H' => WQ ((cxOf (L2.CX X.prog X.w) X.prog X.w X.K X.mg X.base Ng qg sg gA cdg X.A X.stack s H Eg).tr pn xe) gc Ξ c d σZ H') (f := f) (c' := c') (tk := s1.toks + ([] : List (Str × Value)).length) I L I1.env0 hr.hd I1.base hns fun b o e => hsb.extBut b o (Nat.ne_of_lt (Heap.lt_size e)) (Heap.get?_push_of_some _ e)
    refine PySem.W.kla_codeExpr (wpAny_mono ((hbody _ _ s1 H1 _ ⟨gc.G, [], gc.T, H1, [], gc.S⟩ hTc (hr.deeper _)).run [] _ σ H1 [] [] _ _ (fun e _ => Ξ e ρ) (Takes.imp takes_lam fun c d σ' H' hx => ?_) J Sl hask) (fun u s' hq => ?_) fun e s' hq => hq)
    · obtain ⟨x, ρ', τ', vs', S', ok, hΞ⟩ := hx
      exact ⟨x, ρ, τ, vs, back S', ok, hΞ⟩
    · obtain ⟨v, H', sv, ρ', J', rv, S', nb, hΦ⟩ := hq
      refine ⟨v, H', J'.os, J'.bare, J'.base, J'.hok, rv, sv, (back S').push (svr_g rfl rfl nb S'.top) fun a e => ?_, hΦ⟩
      have hn : H1 a = none := (S'.own _ List.mem_cons_self a e).elim id fun z => nomatch (show a ∈ ([] : List Addr) from z.1)
      refine ⟨.inl (SZ.free hn), fun q hq z => ?_⟩
      obtain ⟨_, w, hw, _⟩ := svr_own (SZ.all q hq) z
      rw [hn] at hw
      cases hw
  refine wpAny_call (codeAny_mono rc fun r s' hq => ?_)
  cases r with
  | error e => exact tk _ _ (XE.of_call I1 (fun c d H' q => q) hq)
  | ok fl =>
    cases fl with
    | ret u =>
      obtain ⟨v, H', I2, rv, sv, S2, q⟩ := I1.after hq
      exact ⟨v, H', sv, ρ, I2, rv, S2, q⟩
    | next => exact False.elim hq
    | brk => exact False.elim hq
    | cont => exact False.elim hq
end
end Q

namespace Q
open PySem PySem.Spec PyProof.Rows L2 LamX
section
variable {P : Program} {w : World} {K : PySem.W.Frag} {mg : Str → Option Value} {base : Heap}
/-- the slots and the ends of a def's body, over the kit's ends -/
theorem body_end {X : Cx} {G Sx : Addr → Prop} {T : TBs} {ms : List Mode} {ds : List D} {H : Hp} {R : SV → Prop} {F' : Exn → Prop} {Q : VK} {p : RS} {σ : L2.St} {ρ : PSt} (S0 : SR X.K ⟨G, mOf ms ds, T, H, [], Sx⟩ ρ σ [] [] H) (hp : p (endsF ms ds R F') ρ)
    (h1 : ∀ sv v H' σ, CallR' X.K T Sx (mOf ms ds) H H' → SVR X.K ⟨G, [], T, H, [], Sx⟩ H' σ sv (some v) → sv.isBor = false → (∀ a, Own sv (some v) a → H a = none) → R sv → Q v H') :
    tqs0 X ⟨G, mOf ms ds, T, H, [], Sx⟩ p (endsF ms ds R F').ex { nx := fun _ H' => Q .non H', rt := Q } σ H := by
  refine ⟨ρ, endsF ms ds R F', rfl, S0, hp, fun ρ' σ' H' S' z => ?_, fun sv ρ' v σ' H' S' z => ?_, fun ρ' σ' H' S' z => z, fun ρ' σ' H' S' z => z⟩
  · exact h1 (.fr true .non) .non H' σ' (callR_of S' z.2) ⟨.non, rfl, rfl⟩ rfl (fun a e => nomatch (show (none : Option Addr) = some a from e)) z.1
  · obtain ⟨z1, z2, z3⟩ := z
    have main : ∀ (tv : SV), tv.isBor = false → (tv, some v) ∈ ents ρ' σ' [sv] [v] → R tv → okRes ms ds tv → Q v H' := fun tv hb hm hR ho => by
      refine h1 tv v H' σ' (callR_of S'.pop z3) (S'.all _ hm) hb (fun a e => ?_) hR
      rcases S'.own _ hm a e with q | ⟨q1, q2⟩
      · exact q
      · have ho' : mOf ms ds = [] := by
          cases tv with
          | sto b => exact ho
          | so b kvs => exact ho
          | _ => cases q2
        have q1 : a ∈ mOf ms ds := q1
        rw [ho'] at q1
        cases q1
    cases sv with
    | bor i =>
      have e1 : SV.mv ρ' (.bor i) = (ρ'[i]?).getD .no := rfl
      have gone : R .no → Q v H' := fun hR => h1 .no v H' σ' (callR_of S'.pop z3) trivial rfl (fun a e => nomatch (show (none : Option Addr) = some a from e)) hR
      cases q : ρ'[i]? with
      | none =>
        rw [e1, q] at z1
        exact gone z1
      | some tv =>
        rw [e1, q] at z1 z2
        by_cases hn : tv = .no
        · subst hn; exact gone z1
        · exact main tv (S'.nb _ (List.mem_of_getElem? q)) (List.mem_cons_of_mem _ (List.mem_of_getElem? (ents_at S'.pop.tlen i q (S'.borSlot S'.top q hn)))) z1 z2
    | _ => exact main _ rfl List.mem_cons_self z1 z2
/-- THE RULE for a def, once more: its code object is told, its block may hold a try -/
theorem q_fnC {x qual : Str} {st : Stmt} {f : Addr} {fd : FuncData} {N ps : List Str} {k : Nat} {T : TBs} {ms : List Mode} {qs : QSpec} {p : RS} (F : Fun K x qual st f fd) (S : FnScope N ps (defScope st)) (hm : ms.length = ps.length)
    (hbody : ∀ (A : Around) (outer : List Env) (s : Shared) (H : Hp) (E : XK) (g : Gh), Room k (A.deeper (envOfC qual (defScope st) s.heap.objs.size f fd.code)) → g.T = T → QSs0 (cxOf (L2.CX P w) P w K mg base N qual (defScope st) f fd.code A outer s H E) g (defBody st) p)
    (hq : ∀ (ds : List D) (R : SV → Prop) (F : Exn → Prop), qs ds R F → p (endsF ms ds R F) (slots0 ms ds ++ List.replicate (N.length - ps.length) .no)) : FnOk P w K mg base (L2.CX P w) (k + 1) f fd ps (spQ K T ms qs) := by
  obtain ⟨oc, od, kV, doc, pm, an, cdv, ct, osl, rfl, lk, hcd⟩ := F.ex
  refine fn_of lk hcd S (fun vs H Q E h => ?_) (fun A outer s H vs Q E hr h => ?_)
  · obtain ⟨G, Sx, ds, R, F', _, _, _, _, ha, _⟩ := h
    obtain ⟨l1, l2⟩ := argsR_len ha
    omega
  · obtain ⟨G, Sx, ds, R, F', hG, hS, hS0, ht, ha, nd, hqs, h1, h2⟩ := h
    obtain ⟨l1, l2⟩ := argsR_len ha
    have B := hbody A outer s H E ⟨G, mOf ms ds, T, H, [], Sx⟩ hr rfl
    have S0 := sr_start (X := cxOf (L2.CX P w) P w K mg base N qual (defScope st) f cdv A outer s H E) (n := N.length - ps.length) ha nd hG hS ht
    have tk : Takes (cxOf (L2.CX P w) P w K mg base N qual (defScope st) f cdv A outer s H E) (WQ (cxOf (L2.CX P w) P w K mg base N qual (defScope st) f cdv A outer s H E) ⟨G, mOf ms ds, T, H, [], Sx⟩ (endsF ms ds R F').ex) := by
      refine Takes.imp (takes_of rfl rfl rfl rfl) fun c d σ H' hx => ?_
      obtain ⟨x, ρ, τ, vs', S', ok, hf, hk⟩ := hx
      exact h2 x c d H' (callR_of S' hk) ok hf
    refine ⟨_, B.pss tk, ?_⟩
    have e : L2.start N vs = vs.map some ++ List.replicate (N.length - ps.length) none := by
      unfold L2.start
      rw [← l2, ← l1, hm]
    rw [e]
    exact body_end S0 (hq ds R F' hqs) h1
/-- a def that calls what it got (its only parameter a) -/
structure AskD (P : Program) (w : World) (K : PySem.W.Frag) (mg : Str → Option Value) (base : Heap) (T : TBs) (k : Nat) (x : Str) (st : Stmt) (gA : Addr) (fd : FuncData) (a : Str) (qs : AskP → AskP) : Prop where
  fn : Fun K x x st gA fd
  gl : mg x = some (.ref gA)
  bd : Binds K fd [a] []
  run : ∃ (N : List Str) (rb : Addr → AskP → RS), FnScope N [a] (defScope st) ∧ N[0]? = some a ∧ Vis (defScope st) a ∧ (a == ("__debug__" : Str)) = false ∧ (a == ("__classdict__" : Str)) = false ∧
    (∀ (A : Around) (outer : List Env) (s : Shared) (H : Hp) (E : XK) (g : Gh) (f : Addr) (ask : AskP), Room k (A.deeper (envOfC x (defScope st) s.heap.objs.size gA fd.code)) → g.T = T →
      (∀ (pn : List (Addr × Obj)) (xe : Value → Shared → Prop) (p1 p2 : Pos), QE ((cxOf (L2.CX P w) P w K mg base N x (defScope st) gA fd.code A outer s H E).tr pn xe) g (.Call (.Name a p1) [] [] p2) (rAct f ask 0)) →
      QSs0 (cxOf (L2.CX P w) P w K mg base N x (defScope st) gA fd.code A outer s H E) g (defBody st) (rb f ask)) ∧
    ∀ (f : Addr) (ask : AskP) (R : SV → Prop) (F : Exn → Prop), qs ask R F → rb f ask (endsF [.s] [.ref f] R F) (.fr true (.ref f) :: List.replicate (N.length - 1) .no)
theorem AskD.mono {T : TBs} {j k : Nat} {x : Str} {st : Stmt} {gA : Addr} {fd : FuncData} {a : Str} {qs : AskP → AskP} (h : AskD P w K mg base T j x st gA fd a qs) (hk : j ≤ k) : AskD P w K mg base T k x st gA fd a qs := by
  obtain ⟨h1, h2, h3, N, rb, s1, s2, s3, s4, s5, s6, s7⟩ := h
  exact ⟨h1, h2, h3, N, rb, s1, s2, s3, s4, s5, fun A outer s H E g f ask hr => s6 A outer s H E g f ask (hr.mono hk), s7⟩
end
section
variable {X : Cx} {g : Gh}
/-- x(lambda: body) -/
theorem q_ask {k : Nat} {x a q : Str} {st : Stmt} {gA c Pt : Addr} {fd : FuncData} {qs : AskP → AskP} {params : Arguments} {body : Expr} {scope : Scope} {p : RE} {pn lpos pos : Pos} (Dx : AskD X.prog X.w X.K X.mg X.base g.T (k + 1) x st gA fd a qs) (hg : Gl X x)
    (TB : TabB X.base X.mg c Pt) (hcode : X.env.code = .ref c) (hm : (Pt, q) ∈ g.T.tb) (hu : ∀ p ∈ g.T.tb, p.1 = Pt → p.2 = q) (hq : q = X.env.qual ++ "<lambda>") (hr : Room (k + 2) X.A) (L : LamS X.env.scope scope)
    (hbody : ∀ (A : Around) (outer : List Env) (s : Shared) (H : Hp) (E : XK) (f c' : Addr) (gl : Gh), gl.T = g.T → Room k (A.deeper (lamEnv X scope s.heap.objs.size f c')) → QE (lamCx X A outer s H E scope f c') gl body p)
    (hdef : defaultsOf params X.env = ([], []) := by rfl) (hbind : ∀ (q : Str) (cl : List (Str × Addr)) (pm cv ctv : Value), bindArgs (PySem.W.kla_fn "<lambda>" q params body scope cl pm cv ctv) ⟨[], []⟩ = pure [] := by intros; rfl)
    (hdb : (x == ("__debug__" : Str)) = false := by decide) : QE X g (.Call (.Name x pn) [.Lambda params body scope lpos] [] pos) (rAskCall qs p) := by
  refine ⟨fun pins s σ H τ vs ρ Φ Ξ tk I S hw => ?_⟩
  refine wpAny_Call_Name_kw (ld_glob I hg Dx.gl ?_ hdb)
  refine PySem.W.callWith_K (h₀ := X.base) I.ok.mod.kin Dx.fn.kp ?_ (by rfl) (by rfl)
  show wpAny _ _ (spliced ((false, eval (.Lambda params body scope lpos) X.env) :: backTo pos (starEach [] X.env))) _ _ s
  refine Calls.spliced_cons (lam_mk I TB hcode hm hu hq S.tabs hdef (L.has I.ok) fun f c' pm' ctv H1 s' I1 step T1 hf hfn hfr hco => ?_)
  refine Calls.spliced_nil ⟨I1.kIn, ?_⟩
  have S1 : SR X.K g ρ σ τ vs H1 := S.ext step.keep step.live T1
  obtain ⟨N, rb, sc, n0, va, d1, d2, hD, hp⟩ := Dx.run
  obtain ⟨oc, od, kV, doc, pm, an, cdv, ct, osl, rfl, lk, hcd⟩ := Dx.fn.ex
  have hG : ∀ b, H1 b = none → g.G b := fun b e => S1.gnew b (S1.free e)
  have aR : ArgsR X.K g.G g.S H1 [.s] [.ref f] [.ref f] := ⟨rfl, trivial⟩
  refine thn (Q := fun u s2 => ∃ v H2, L2.Inv X pins σ H2 s2 ∧ L2.RelV v u ∧ ∃ sv σ0, CallR' X.K g.T g.S [] H1 H2 ∧ SVR X.K ⟨g.G, [], g.T, H1, [], g.S⟩ H2 σ0 sv (some v) ∧ sv.isBor = false ∧ (∀ a, Own sv (some v) a → H1 a = none) ∧ Φ sv ρ) ?_ fun u s2 hx => ?_
  · have rc : codeAny (model X.prog X.w) X.A (.call (.ref gA) ⟨[.ref f], []⟩) (CR (L2.CX X.prog X.w) X.stack X.prog X.w H1 s'
        (fun v H2 => ∃ sv σ0, CallR' X.K g.T g.S [] H1 H2 ∧ SVR X.K ⟨g.G, [], g.T, H1, [], g.S⟩ H2 σ0 sv (some v) ∧ sv.isBor = false ∧ (∀ a, Own sv (some v) a → H1 a = none) ∧ Φ sv ρ)
        (fun c d H2 => ∃ y, CallR' X.K g.T g.S [] H1 H2 ∧ ExnOk X.K g H2 y c d ∧ Ξ y ρ)) s' := by
      refine run_ofS (N := N) (ps := [a]) (us := [.ref f]) (vs := [.ref f]) (k := k + 1) lk hcd sc hr I1.env0 (by
        have z := Dx.bd s' [.ref f] I1.kIn rfl
        rw [List.append_nil] at z
        exact z) (.cons rfl .nil) rfl fun hr' => ?_
      have act := fun pn xe p1 p2 => q_act (pn := pn) (xe := xe) (p1 := p1) (p2 := p2) (g0 := g) (gc := ⟨g.G, mOf [.s] [.ref f], g.T, H1, [], g.S⟩) (ρ0 := ρ) (p := p) (Ng := N) (qg := x) (sg := defScope st) (gA := gA) (cdg := cdv) (i := 0) (a := a) (k := k)
        (Eg := fun c d H2 => ∃ y, CallR' X.K g.T g.S [] H1 H2 ∧ ExnOk X.K g H2 y c d ∧ Ξ y ρ) I1 L hf hfn hfr hco (hbind _ _ _ _ _) hr' (fun A outer s2 H2 E gl e hr2 => hbody A outer s2 H2 E f c' gl e hr2) S1 rfl rfl rfl rfl rfl n0 va d1 d2
      have B := hD X.A X.stack s' H1 (fun c d H2 => ∃ y, CallR' X.K g.T g.S [] H1 H2 ∧ ExnOk X.K g H2 y c d ∧ Ξ y ρ) ⟨g.G, mOf [.s] [.ref f], g.T, H1, [], g.S⟩ f (askOf p ρ) hr' rfl act
      have S0 := sr_start (X := cxOf (L2.CX X.prog X.w) X.prog X.w X.K X.mg X.base N x (defScope st) gA cdv X.A X.stack s' H1 (fun c d H2 => ∃ y, CallR' X.K g.T g.S [] H1 H2 ∧ ExnOk X.K g H2 y c d ∧ Ξ y ρ)) (n := N.length - 1) aR .nil hG (fun b e => S1.snew b (S1.free e)) T1
      refine ⟨_, B.pss (Ξ := (endsF [.s] [.ref f] (fun r => Φ r ρ) (fun e => Ξ e ρ)).ex) ?_, ?_⟩
      · refine Takes.imp (takes_of rfl rfl rfl rfl) fun c d σ' H' hx => ?_
        obtain ⟨y, ρ', τ', vs', S', ok, hF, hk⟩ := hx
        exact ⟨y, callR_of (ms := [.s]) (ds := [.ref f]) S' hk, ok, hF⟩
      · have e : L2.start N [V.ref f] = [V.ref f].map some ++ List.replicate (N.length - 1) none := rfl
        rw [e]
        exact body_end (X := cxOf (L2.CX X.prog X.w) X.prog X.w X.K X.mg X.base N x (defScope st) gA cdv X.A X.stack s' H1 (fun c d H2 => ∃ y, CallR' X.K g.T g.S [] H1 H2 ∧ ExnOk X.K g H2 y c d ∧ Ξ y ρ)) (ms := [.s]) (ds := [.ref f]) (Q := fun v H2 => ∃ sv σ0, CallR' X.K g.T g.S [] H1 H2 ∧ SVR X.K ⟨g.G, [], g.T, H1, [], g.S⟩ H2 σ0 sv (some v) ∧ sv.isBor = false ∧ (∀ a, Own sv (some v) a → H1 a = none) ∧ Φ sv ρ) S0 (hp f (askOf p ρ) (fun r => Φ r ρ) (fun e => Ξ e ρ) hw) fun sv v H' σ' c s b o r => ⟨sv, σ', c, s, b, o, r⟩
    refine wpAny_call (codeAny_mono rc fun r s2 hq => ?_)
    cases r with
    | error e =>
      refine tk _ _ (XE.of_call I1 (fun c d H' q => ?_) hq)
      obtain ⟨y, c2, ok, hΞ⟩ := q
      exact ⟨y, ρ, τ, vs, S1.ext (fun b o e n => c2.keep.keep b o e (fun z => nomatch z) n) c2.keep.live c2.tabs, ok, hΞ⟩
    | ok fl =>
      cases fl with
      | ret u =>
        obtain ⟨v, H2, I2, rv, z⟩ := I1.after hq
        exact ⟨v, H2, I2, rv, z⟩
      | next => exact False.elim hq
      | brk => exact False.elim hq
      | cont => exact False.elim hq
  · obtain ⟨v, H2, I2, rv, sv, σ0, c2, hs, hb, ho, hΦ⟩ := hx
    have S2 : SR X.K g ρ σ τ vs H2 := S1.ext (fun b o e n => c2.keep.keep b o e (fun z => nomatch z) n) c2.keep.live c2.tabs
    refine ⟨v, H2, sv, ρ, I2, rv, S2.push (svr_g rfl rfl hb hs) fun a e => ?_, hΦ⟩
    have hn := ho a e
    refine ⟨.inl (S1.free hn), fun q hq z => ?_⟩
    obtain ⟨_, u, hu, mu, _⟩ := svr_own (S1.all q hq) z
    rw [hn] at hu
    cases hu
end
end Q

namespace Q
open PySem PySem.Spec PyProof.Rows L2 He
/-! ### the errors' classes, by names -/
def ecn : EC → Str
  | .bv => "BadValue" | .un => "Unknown" | .tk => "Taken" | .cl => "Clash" | .lk => "Lacking" | .uf => "Unfit" | .bt => "BadText" | .rm => "RoomError" | .ve => "ValueError"
def ecl : List EC := [.bv, .un, .tk, .cl, .lk, .uf, .bt]
theorem ecl_own {e : EC} (h : e.own = true) : e ∈ ecl := by
  cases e <;> first | exact (by decide) | cases h
def eaOf (K : PySem.W.Frag) (e : EC) : Addr := ga K (ecn e)
def errKB (K : PySem.W.Frag) (C : Addr) : Bool :=
  (PySem.W.clsIn K C).isSome && (eqO (PySem.W.findIn K (.ref C) "__getattribute__") (some (some (.builtin "BaseException.__getattribute__"))) && (eqO (PySem.W.findIn K (.ref C) "__getattr__") (some none) && (decide (PySem.W.subIn K (.ref C) (.type "BaseException") = some true) &&
  (PySem.W.hasDictIn K C && (eqO (PySem.W.findIn K (.ref C) "__class__") (some (some (.builtin "object.__class__"))) && (eqO (PySem.W.specialIn K (.builtin "object.__class__") "__get__") (some (some (.builtin "getset_descriptor.__get__"))) && (decide (PySem.W.takesIn K (.builtin "object.__class__") = some true) && decide (PySem.W.mroIn K C (.type "object") = some true))))))))
theorem errKB_ok {K : PySem.W.Frag} {C : Addr} (h : errKB K C = true) : ErrK K C := by
  obtain ⟨h1, h⟩ := ba h
  obtain ⟨h2, h⟩ := ba h
  obtain ⟨h3, h⟩ := ba h
  obtain ⟨h4, h⟩ := ba h
  obtain ⟨h5, h⟩ := ba h
  obtain ⟨h6, h⟩ := ba h
  obtain ⟨h7, h⟩ := ba h
  obtain ⟨h8, h9⟩ := ba h
  exact ⟨h1, eqO_ok h2, eqO_ok h3, of_decide_eq_true h4, h5, eqO_ok h6, eqO_ok h7, of_decide_eq_true h8, of_decide_eq_true h9⟩
/-- what a class stands for, as a value -/
def ecv (K : PySem.W.Frag) : EC → Value
  | .ve => .type "ValueError"
  | e => .ref (eaOf K e)
def errsB (fs : List Str) (cs : List EC) (K : PySem.W.Frag) : Bool :=
  (ecl.all fun e => errKB K (eaOf K e) && fs.all fun f => eqO (PySem.W.findIn K (.ref (eaOf K e)) f) (some none)) &&
  (ecl.all fun d => cs.all fun c => decide (PySem.W.kitOne K (.ref (eaOf K d)) (ecv K c) = some (d.sub c)) && decide (PySem.W.exmOne K (.ref (eaOf K d)) (ecv K c) = some (d.sub c)))
structure ErrsF (fs : List Str) (cs : List EC) (K : PySem.W.Frag) : Prop where
  errK : ∀ e : EC, e.own = true → ErrK K (eaOf K e)
  noat : ∀ e : EC, e.own = true → ∀ f ∈ fs, PySem.W.findIn K (.ref (eaOf K e)) f = some none
  kit : ∀ c ∈ cs, ∀ d : EC, d.own = true → PySem.W.kitOne K (.ref (eaOf K d)) (ecv K c) = some (d.sub c)
  exm : ∀ c ∈ cs, ∀ d : EC, d.own = true → PySem.W.exmOne K (.ref (eaOf K d)) (ecv K c) = some (d.sub c)
theorem errsB_ok {fs : List Str} {cs : List EC} {K : PySem.W.Frag} (h : errsB fs cs K = true) : ErrsF fs cs K := by
  obtain ⟨h1, h2⟩ := ba h
  refine ⟨fun e he => errKB_ok (ba (List.all_eq_true.mp h1 e (ecl_own he))).1, fun e he f hf => ?_, fun c hc d hd => ?_, fun c hc d hd => ?_⟩
  · exact eqO_ok (List.all_eq_true.mp (ba (List.all_eq_true.mp h1 e (ecl_own he))).2 f hf)
  · exact of_decide_eq_true (ba (List.all_eq_true.mp (List.all_eq_true.mp h2 d (ecl_own hd)) c hc)).1
  · exact of_decide_eq_true (ba (List.all_eq_true.mp (List.all_eq_true.mp h2 d (ecl_own hd)) c hc)).2
theorem ErrsF.cl {fs : List Str} {cs : List EC} {K : PySem.W.Frag} (F : ErrsF fs cs K) {T : TBs} (hT : T.ea = eaOf K) {c : EC} (h : c ∈ cs) : ∃ v, ClE K T c v (ecv K c) ∧ L2.RelV v (ecv K c) := by
  cases c with
  | ve => exact ⟨.ty "ValueError", ⟨.ty _, fun d hd => by rw [hT]; exact F.kit _ h d hd⟩, rfl⟩
  | _ => exact ⟨.ref (eaOf K _), ⟨.own _, fun d hd => by rw [hT]; exact F.kit _ h d hd⟩, rfl⟩
/-! ### an error's class that is raised, its __init__ -/
def oexB (K : PySem.W.Frag) (C : Addr) : Bool := (match K.lookup C with
  | some ⟨.type t, _, .cls cd, sl⟩ => decide (t = "type") && (match cd.mro, sl.toList with
    | .ref C' :: bm, [_, _, _, _, some (.builtin n), _] => decide (C' = C) && (decide (n = "ValueError.__new__") && (cd.hasDict && (!cd.hasDel && PySem.HandSPX.refsVE bm)))
    | _, _ => false)
  | _ => false) && (eqO (PySem.W.findIn K (.ref C) "__setattr__") (some (some (.builtin "object.__setattr__"))) && (decide (PySem.W.subIn K (.ref C) (.type "BaseException") = some true) && (decide (PySem.W.typeIn K (.ref C) = some (.type "type")) && PySem.W.keepIn K (.ref C))))
theorem oexB_ok {K : PySem.W.Frag} {C : Addr} (h : oexB K C = true) : OexC K C := by
  obtain ⟨h1, h⟩ := ba h
  obtain ⟨h2, h⟩ := ba h
  obtain ⟨h3, h⟩ := ba h
  obtain ⟨h4, h5⟩ := ba h
  refine ⟨?_, eqO_ok h2, of_decide_eq_true h3, of_decide_eq_true h4, h5⟩
  cases q : K.lookup C with
  | none =>
    rw [q] at h1
    cases h1
  | some o =>
    obtain ⟨oc, od, dt, sl⟩ := o
    rw [q] at h1
    cases oc with
    | type t =>
      cases dt with
      | cls cd =>
        obtain ⟨k1, k2⟩ := ba h1
        obtain ⟨nm, bs, mro, ns, qn, hd, sn, sub, ab, col, del⟩ := cd
        obtain ⟨sl⟩ := sl
        cases of_decide_eq_true k1
        dsimp only at k2
        split at k2
        · rename_i C' bm k0 k1' k2' k3 n k5
          obtain ⟨z1, k2⟩ := ba k2
          obtain ⟨z2, k2⟩ := ba k2
          obtain ⟨z3, k2⟩ := ba k2
          obtain ⟨z4, z5⟩ := ba k2
          cases of_decide_eq_true z1
          cases of_decide_eq_true z2
          subst z3
          have z4 : del = false := by cases del <;> first | rfl | cases z4
          subst z4
          exact ⟨nm, qn, ns, bs, bm, sn, sub, ab, col, od, k0, k1', k2', k3, k5, rfl, z5⟩
        · cases k2
      | _ => cases h1
    | _ => cases dt <;> cases h1
abbrev FnC : Type := Option (Str × Str × Arguments × FuncBody × Scope × Addr × List Str × Addr)
def fnC (K : PySem.W.Frag) (p : Str × Option Str) : FnC := match K.lookup (fAd K p) with
  | some ⟨_, _, .func fd, _⟩ => some (fd.name, fd.qualname, fd.params, fd.body, fd.scope, fd.globals, fd.closure.map (·.1), fd.builtins)
  | _ => none
/-- an own error's __init__, a closure over __class__ -/
structure IniD where
  cls : Str
  st : Stmt
def IniD.at_ (d : IniD) : Str × Option Str := (d.cls, some "__init__")
def IniD.qual (d : IniD) : Str := d.cls ++ ".__init__"
def IniD.val (d : IniD) : FnC := some ("__init__", d.qual, defArgs d.st, .stmts (defBody d.st), defScope d.st, mainGlobals, ["__class__"], builtinsNs)
def IniD.ok (file : Str) (K : PySem.W.Frag) (d : IniD) : Bool :=
  (match K.lookup (fAd K d.at_) with
  | some ⟨_, _, .func fd, _⟩ => (match fd.defaults with
    | .none => true
    | _ => false) && (match fd.closure with
    | [(_, cc)] => (match K.lookup cc with
      | some ⟨_, _, .cell (some (.ref C)), _⟩ => decide (C = ga K d.cls)
      | _ => false)
    | _ => false) && ((match fd.code with
    | .ref cda => (match K.lookup cda with
      | some ⟨_, _, .fields vs, _⟩ => (match (vs[2]? : Option Value) with
        | some (.str f _) => f == file
        | _ => false)
      | _ => false)
    | _ => false) && PySem.W.codeIn K fd.code d.qual)
  | _ => false) && (oexB K (ga K d.cls) && (eqO (PySem.W.findIn K (.ref (ga K d.cls)) "__init__") (some (some (.ref (fAd K d.at_)))) && (decide (PySem.W.typeIn K (.ref (fAd K d.at_)) = some (.type "function")) &&
  (decide (PySem.W.mroIn K (ga K d.cls) (.ref (ga K d.cls)) = some true) && (eqO (PySem.W.ks_superIn K (ga K d.cls) (ga K d.cls) "__init__") (some (some (.builtin "ValueError.__init__"))) && (eqO (PySem.W.nsIn K PySem.cStatics "thirdparty.any") (some none) && (decide (PySem.W.subIn K (.ref (ga K d.cls)) (.type "ValueError") = some true) && (PySem.W.clsIn K (ga K d.cls)).isSome)))))))
theorem IniD.facts {P : Program} {K : PySem.W.Frag} {d : IniD} (e : fnC K d.at_ = d.val) (c : d.ok P.main.file K = true) (top : (P.main.scope.names.lookup ("super" : Str)).isSome = false) {sn : Str} (hp : ∃ ar, ((defArgs d.st).posonlyargs ++ (defArgs d.st).args).head? = some ar ∧ ar.arg = sn) :
    PySem.W.findIn K (.ref (ga K d.cls)) "__init__" = some (some (.ref (fAd K d.at_))) ∧ PySem.W.typeIn K (.ref (fAd K d.at_)) = some (.type "function") ∧ OexC K (ga K d.cls) ∧
    ∃ (oc : Value) (od : Option Addr) (osl : Array (Option Value)) (kV doc pm : Value) (an : Option Addr) (cda : Addr) (ct : Value) (cc : Addr),
      K.lookup (fAd K d.at_) = some ⟨oc, od, .func (PySem.W.ksFn "__init__" d.qual (defArgs d.st) (defBody d.st) (defScope d.st) .none kV doc pm an (.ref cda) ct cc), osl⟩ ∧ PySem.W.codeIn K (.ref cda) d.qual = true ∧
      SupC K P (ga K d.cls) (fAd K d.at_) cda cc (PySem.W.ksFn "__init__" d.qual (defArgs d.st) (defBody d.st) (defScope d.st) .none kV doc pm an (.ref cda) ct cc) sn := by
  obtain ⟨c1, c⟩ := ba c
  obtain ⟨c2, c⟩ := ba c
  obtain ⟨c3, c⟩ := ba c
  obtain ⟨c4, c⟩ := ba c
  obtain ⟨c5, c⟩ := ba c
  obtain ⟨c6, c⟩ := ba c
  obtain ⟨c7, c⟩ := ba c
  obtain ⟨c8, c9⟩ := ba c
  refine ⟨eqO_ok c3, of_decide_eq_true c4, oexB_ok c2, ?_⟩
  unfold fnC at e
  cases q : K.lookup (fAd K d.at_) with
  | none =>
    rw [q] at c1
    cases c1
  | some o =>
    obtain ⟨oc, od, dt, osl⟩ := o
    rw [q] at c1 e
    cases dt with
    | func fd =>
      obtain ⟨n1, n2, n3, n4, n5, n6, n7, n8, n9, n10, n11, n12, n13, n14, n15⟩ := fd
      have e2 : (some (n1, n2, n3, n4, n5, n6, n7.map (·.1), n15) : FnC) = some (("__init__" : Str), d.qual, defArgs d.st, FuncBody.stmts (defBody d.st), defScope d.st, mainGlobals, [("__class__" : Str)], builtinsNs) := e
      simp only [Option.some.injEq, Prod.mk.injEq] at e2
      obtain ⟨h1, h2, h3, h4, h5, h6, h7, h8⟩ := e2
      subst h1 h2 h3 h4 h5 h6 h8
      obtain ⟨k1, k2⟩ := ba c1
      obtain ⟨k0, k1⟩ := ba k1
      obtain ⟨k3, k4⟩ := ba k2
      dsimp only at k0 k1 k3 k4
      cases n8 with
      | none =>
        match n7, h7 with
        | [(y, cc)], h7 =>
          have h7 : y = "__class__" := by simpa using h7
          subst h7
          cases n13 with
          | ref cda =>
            have hcell : ∃ cl cld csl, K.lookup cc = some ⟨cl, cld, .cell (some (.ref (ga K d.cls))), csl⟩ := by
              dsimp only at k1
              cases q2 : K.lookup cc with
              | none =>
                rw [q2] at k1
                cases k1
              | some o2 =>
                obtain ⟨oc2, od2, dt2, osl2⟩ := o2
                rw [q2] at k1
                cases dt2 with
                | cell v =>
                  cases v with
                  | none => cases k1
                  | some v =>
                    cases v with
                    | ref C =>
                      cases (of_decide_eq_true k1 : C = ga K d.cls)
                      exact ⟨_, _, _, rfl⟩
                    | _ => cases k1
                | _ => cases k1
            have hcode : ∃ ccl cdd ccs, ∃ vs : Array Value, ∃ file tf, K.lookup cda = some ⟨ccl, cdd, .fields vs, ccs⟩ ∧ vs[2]? = some (.str file tf) ∧ ((P.main.file : Str) == file) = true := by
              dsimp only at k3
              cases q2 : K.lookup cda with
              | none =>
                rw [q2] at k3
                cases k3
              | some o2 =>
                obtain ⟨oc2, od2, dt2, osl2⟩ := o2
                rw [q2] at k3
                cases dt2 with
                | fields vs =>
                  dsimp only at k3
                  cases q3 : vs[2]? with
                  | none =>
                    rw [q3] at k3
                    cases k3
                  | some u =>
                    rw [q3] at k3
                    cases u with
                    | str f tf =>
                      have z : f = P.main.file := eq_of_beq k3
                      exact ⟨_, _, _, vs, f, tf, rfl, q3, by rw [z]; exact beq_self_eq_true _⟩
                    | _ => cases k3
                | _ => cases k3
            exact ⟨oc, od, osl, n9, n10, n11, n12, cda, n14, cc, rfl, k4, ⟨oc, od, osl, q⟩, hp, hcode, hcell, Option.isSome_iff_exists.mp c9, of_decide_eq_true c5, top, eqO_ok c6, eqO_ok c7, of_decide_eq_true c8, oexB_ok c2⟩
          | _ => cases k3
      | _ => cases k0
    | _ => cases c1
/-! ### the head's look -/
/-- what is told at the law's entry -/
structure SaysY (fa : List Fa) (fn : List DefD) (ini : List IniD) (file : Str) (tf : List Defn) (ex : PySem.W.Frag → Bool) (h : Heap) (K : PySem.W.Frag) : Prop where
  d : SaysD fa fn K
  i : ini.map (fun d => fnC K d.at_) = ini.map IniD.val
  io : ∀ d ∈ ini, d.ok file K = true
  more : ex K = true
  hd : ∀ p ∈ tf, PySem.W.codeHdIn K (cT K p).1 (cT K p).2 = true
  out : ∀ p ∈ tf, K.lookup (cT K p).2 = none
  empty : ∀ p ∈ tf, h.get? (cT K p).2 = some { cls := .none, data := .fields #[] }
abbrev AlY : Type := AlD × List FnC × Bool
def obsK (fa : List Fa) (fn : List DefD) (ini : List IniD) (file : Str) (tf : List Defn) (ex : PySem.W.Frag → Bool) (g : Addr → Option Obj) (K : PySem.W.Frag) : AlY := (obsD fa fn K, ini.map (fun d => fnC K d.at_), (ini.all fun d => d.ok file K) && (ex K && tabsB g tf K))
def obsY (n : Nat) (fa : List Fa) (fn : List DefD) (ini : List IniD) (file : Str) (tf : List Defn) (ex : PySem.W.Frag → Bool) (g : Addr → Option Obj) : AlY := obsK fa fn ini file tf ex g (frT g (PySem.cStatics :: asD g n))
def valY (fn : List DefD) (ini : List IniD) : AlY := (valD fn, ini.map IniD.val, true)
theorem saysY_of {n : Nat} {fa : List Fa} {fn : List DefD} {ini : List IniD} {file : Str} {tf : List Defn} {ex : PySem.W.Frag → Bool} {h : Heap} (e : obsY n fa fn ini file tf ex h.get? = valY fn ini) : SaysY fa fn ini file tf ex h (frT h.get? (PySem.cStatics :: asD h.get? n)) := by
  unfold obsY at e
  generalize hK : frT h.get? (PySem.cStatics :: asD h.get? n) = K at e ⊢
  have e1 : obsD fa fn K = valD fn := congrArg (fun z : AlY => z.1) e
  have e2 : ini.map (fun d => fnC K d.at_) = ini.map IniD.val := congrArg (fun z : AlY => z.2.1) e
  have e3 : ((ini.all fun d => d.ok file K) && (ex K && tabsB h.get? tf K)) = true := congrArg (fun z : AlY => z.2.2) e
  obtain ⟨h0, e3⟩ := ba e3
  obtain ⟨h1, h2⟩ := ba e3
  have key : ∀ p ∈ tf, PySem.W.codeHdIn K (cT K p).1 (cT K p).2 = true ∧ ∃ o, h.get? (cT K p).2 = some o ∧ emptyTab o = true := fun p hp => by
    obtain ⟨h3, h4⟩ := ba (List.all_eq_true.mp h2 p hp)
    refine ⟨h3, ?_⟩
    cases q : h.get? (cT K p).2 with
    | none =>
      rw [q] at h4
      cases h4
    | some o =>
      rw [q] at h4
      exact ⟨o, rfl, h4⟩
  refine ⟨e1, e2, List.all_eq_true.mp h0, h1, fun p hp => (key p hp).1, fun p hp => ?_, fun p hp => ?_⟩
  · obtain ⟨_, o, q, z⟩ := key p hp
    have w := frT_none (as := PySem.cStatics :: asD h.get? n) q z
    rw [hK] at w
    exact w
  · obtain ⟨_, o, q, z⟩ := key p hp
    rw [q, emptyTab_eq z]
def hookY (n : Nat) (fa : List Fa) (fn : List DefD) (ini : List IniD) (file : Str) (tf : List Defn) (ex : PySem.W.Frag → Bool) : PySem.W.Hook where
  α := AlY
  obs := fun s => obsY n fa fn ini file tf ex s.heap.get?
  val := fun _ => valY fn ini
  says := fun _ h => ∃ K : PySem.W.Frag, K.In h ∧ SaysY fa fn ini file tf ex h K
  of := fun _ _ e => ⟨_, frT_in, saysY_of e⟩
  keeps := fun _ _ _ ⟨K, hK, c⟩ k => ⟨K, PySem.W.Frag.In.keeps hK k, ⟨c.d, c.i, c.io, c.more, c.hd, c.out, fun p hp => k _ _ (c.empty p hp)⟩⟩
theorem obsY_eq {n : Nat} {fa : List Fa} {fn : List DefD} {ini : List IniD} {file : Str} {tf : List Defn} {ex : PySem.W.Frag → Bool} {g : Addr → Option Obj} {s : Shared} (h : ∀ a, g a = s.heap.get? a) : obsY n fa fn ini file tf ex g = (hookY n fa fn ini file tf ex).obs s := by
  have e : g = s.heap.get? := funext h
  rw [e] <;> rfl
theorem SaysY.ini_ {fa : List Fa} {fn : List DefD} {ini : List IniD} {file : Str} {tf : List Defn} {ex : PySem.W.Frag → Bool} {h : Heap} {K : PySem.W.Frag} (c : SaysY fa fn ini file tf ex h K) {d : IniD} (hd : d ∈ ini) : fnC K d.at_ = d.val := by
  obtain ⟨i, hi, e⟩ := List.mem_iff_getElem.mp hd
  have e2 : (ini.map fun d => fnC K d.at_)[i]? = (ini.map IniD.val)[i]? := by rw [c.i]
  rw [List.getElem?_map, List.getElem?_map, List.getElem?_eq_getElem hi, e] at e2
  exact Option.some.inj e2
/-- a def of the text, without defaults -/
theorem fun_of {K : PySem.W.Frag} {x qual : Str} {st : Stmt} {f : Addr} {fd : FuncData} (F : FunD K x qual (defArgs st) (defBody st) (defScope st) [] [] f fd) : Fun K x qual st f fd := by
  obtain ⟨oc, od, dV, kV, doc, pm, an, cdv, ct, osl, e, lk, hcd, hd, _⟩ := F.ex
  rcases hd with ⟨_, rfl⟩ | ⟨z, _⟩
  · exact ⟨⟨oc, od, kV, doc, pm, an, cdv, ct, osl, e, lk, hcd⟩, F.kp⟩
  · exact absurd rfl z
end Q

namespace Q
open PySem PySem.Spec PyProof.Rows L2
/-! ### what the printed derivations use -/
section
variable {P : Program} {w : World} {K : PySem.W.Frag} {mg : Str → Option Value} {base : Heap} {T T' : TBs}
theorem fnT {k : Nat} {f : Addr} {fd : FuncData} {ps : List Str} {ms : List Mode} {qs : QSpec} (h : T' = T) (F : FnOk P w K mg base (L2.CX P w) k f fd ps (spQ K T ms qs)) : FnOk P w K mg base (L2.CX P w) k f fd ps (spQ K T' ms qs) := by
  rw [h]
  exact F
theorem askT {k : Nat} {x : Str} {st : Stmt} {gA : Addr} {fd : FuncData} {a : Str} {qs : AskP → AskP} (h : T' = T) (F : AskD P w K mg base T k x st gA fd a qs) : AskD P w K mg base T' k x st gA fd a qs := by
  rw [h]
  exact F
theorem eaT {e : EC} {C : Addr} (h : T' = T) (F : T.ea e = C) : T'.ea e = C := by
  rw [h]
  exact F
theorem clT {cx : EC} {v : V} {u : Value} (h : T' = T) (F : ClE K T cx v u) : ClE K T' cx v u := by
  rw [h]
  exact F
theorem clsT {cs : List EC} {vs : List V} {us : List Value} (h : T' = T) (F : ClEs K T cs vs us) : ClEs K T' cs vs us := by
  rw [h]
  exact F
theorem ekT {e : EC} (h : T' = T) (F : ∀ d : EC, d.own = true → ErrK K (T.ea d)) (ho : e.own = true) : ErrK K (T'.ea e) := by
  rw [h]
  exact F e ho
theorem noT {e : EC} {f : Str} (h : T' = T) (F : ∀ d : EC, d.own = true → PySem.W.findIn K (.ref (T.ea d)) f = some none) (ho : e.own = true) : PySem.W.findIn K (.ref (T'.ea e)) f = some none := by
  rw [h]
  exact F e ho
theorem tbT {q : Addr × Str} (h : T' = T) (F : q ∈ T.tb) : q ∈ T'.tb := by
  rw [h]
  exact F
theorem tuT {Pt : Addr} {q : Str} (h : T' = T) (F : ∀ p ∈ T.tb, p.1 = Pt → p.2 = q) : ∀ p ∈ T'.tb, p.1 = Pt → p.2 = q := by
  rw [h]
  exact F
/-- a class of errors, by its name in the module -/
structure EG (K : PySem.W.Frag) (mg : Str → Option Value) (T : TBs) (x : Str) (cx : EC) (v : V) (u : Value) : Prop where
  cl : ClE K T cx v u
  exm : ∀ d : EC, d.own = true → PySem.W.exmOne K (.ref (T.ea d)) u = some (d.sub cx)
  rel : L2.RelV v u
  at_ : mg x = some u ∨ (mg x = none ∧ bootBuiltins x = some u ∧ x ≠ "__name__")
theorem EG.pe {X : Cx} {x : Str} {cx : EC} {v : V} {u : Value} {pos : Pos} (E : EG K X.mg T x cx v u) (hg : Gl X x) (hd : (x == ("__debug__" : Str)) = false := by decide) : PE X (.Name x pos) (tC v) := by
  rcases E.at_ with h | ⟨h1, h2, h3⟩
  · exact pe_glob hg h E.rel hd
  · exact pe_bltn hg h1 h2 E.rel h3 hd
theorem EG.names {X : Cx} {x : Str} {cx : EC} {v : V} {u : Value} (E : EG K X.mg T x cx v u) (hg : Gl X x) (hd : (x == ("__debug__" : Str)) = false := by decide) : Names X x u := ⟨hg, hd, E.at_⟩
theorem EG.exT {x : Str} {cx : EC} {v : V} {u : Value} (h : T' = T) (E : EG K mg T x cx v u) : ∀ d : EC, d.own = true → PySem.W.exmOne K (.ref (T'.ea d)) u = some (d.sub cx) := by
  rw [h]
  exact E.exm
end
end Q

namespace Q
open PySem PySem.Spec PyProof.Rows L2
/-! ### the law's own def: the script may lie anywhere -/
theorem pss_lock {X : Cx} {sts : List Stmt} {t : Obj → TS} {a : Addr} (h : ∀ od, PSs X sts (t od)) : PSs X sts (fun D σ H => ∃ u, H a = some u ∧ Mut (some u) ∧ ∀ od, t od { nx := fun σ' H' => H' a = some (.frz od u) ∧ D.nx σ' (upd H' a u), rt := fun v H' => H' a = some (.frz od u) ∧ D.rt v (upd H' a u), bk := fun σ' H' => H' a = some (.frz od u) ∧ D.bk σ' (upd H' a u), ct := fun σ' H' => H' a = some (.frz od u) ∧ D.ct σ' (upd H' a u) } σ (upd H a (.frz od u))) := ⟨fun pins s σ H D I ⟨u, e, mu, hw⟩ => by
  obtain ⟨od, I1⟩ := I.lock e mu
  have hn := I.nofrz e mu
  refine thn ((h od).run pins s σ _ _ I1 (hw od)) fun f s' z => ?_
  cases f with
  | next => obtain ⟨σ', H', J, e', q⟩ := z; exact ⟨σ', _, J.unlock e' hn, q⟩
  | brk => obtain ⟨σ', H', J, e', q⟩ := z; exact ⟨σ', _, J.unlock e' hn, q⟩
  | cont => obtain ⟨σ', H', J, e', q⟩ := z; exact ⟨σ', _, J.unlock e' hn, q⟩
  | ret u' => obtain ⟨v, σ', H', J, r, e', q⟩ := z; exact ⟨v, σ', _, J.unlock e' hn, r, q⟩⟩
def spL (K : PySem.W.Frag) (T : TBs) (qs : QSpec) : Sp := fun vs H Q _ => ∃ (a : Addr) (ns : List Int), vs = [.ref a] ∧ SqL K H a (ns.map .int) ∧ (∀ p ∈ T.tb, H p.1 = some (.tbl #[])) ∧ qs [.scr ns] (fun sv => sv = .fr true (.bl true)) (fun _ => False) ∧ ∀ H', Q (.bl true) H'
section
variable {P : Program} {w : World} {K : PySem.W.Frag} {mg : Str → Option Value} {base : Heap}
theorem q_fnL {x qual a0 : Str} {st : Stmt} {f : Addr} {fd : FuncData} {N : List Str} {k : Nat} {T : TBs} {qs : QSpec} {p : RS} (F : Fun K x qual st f fd) (S : FnScope N [a0] (defScope st))
    (hbody : ∀ (A : Around) (outer : List Env) (s : Shared) (H : Hp) (E : XK) (g : Gh), Room k (A.deeper (envOfC qual (defScope st) s.heap.objs.size f fd.code)) → g.T = T → QSs0 (cxOf (L2.CX P w) P w K mg base N qual (defScope st) f fd.code A outer s H E) g (defBody st) p)
    (hq : ∀ (ds : List D) (R : SV → Prop) (F : Exn → Prop), qs ds R F → p (endsF [.s] ds R F) (slots0 [.s] ds ++ List.replicate (N.length - 1) .no)) : FnOk P w K mg base (L2.CX P w) (k + 1) f fd [a0] (spL K T qs) := by
  obtain ⟨oc, od, kV, doc, pm, an, cdv, ct, osl, rfl, lk, hcd⟩ := F.ex
  refine fn_of lk hcd S (fun vs H Q E h => ?_) (fun A outer s H vs Q E hr h => ?_)
  · obtain ⟨a, ns, rfl, _⟩ := h
    rfl
  · obtain ⟨a, ns, rfl, hL, ht, hqs, hQ⟩ := h
    have core : ∀ (H1 : Hp) (Q1 : VK), (∀ p ∈ T.tb, H1 p.1 = some (.tbl #[])) → (Fz (fun _ => True) H1 a (.lst (ns.map .int)) ∨ KL K a (ns.map .int)) → (∀ H', (∀ o u, H1 a = some (.frz o u) → H' a = some (.frz o u)) → Q1 (.bl true) H') →
        PSs (cxOf (L2.CX P w) P w K mg base N qual (defScope st) f cdv A outer s H E) (defBody st) (tqs0 (cxOf (L2.CX P w) P w K mg base N qual (defScope st) f cdv A outer s H E) ⟨fun _ => True, mOf [.s] [.scr ns], T, H1, [], fun b => H1 b = none⟩ p (endsF [.s] [.scr ns] (fun sv => sv = .fr true (.bl true)) (fun _ => False)).ex) ∧
        tqs0 (cxOf (L2.CX P w) P w K mg base N qual (defScope st) f cdv A outer s H E) ⟨fun _ => True, mOf [.s] [.scr ns], T, H1, [], fun b => H1 b = none⟩ p (endsF [.s] [.scr ns] (fun sv => sv = .fr true (.bl true)) (fun _ => False)).ex { nx := fun _ H' => Q1 .non H', rt := Q1 } (L2.start N [V.ref a]) H1 := fun H1 Q1 ht1 hF hQ1 => by
      have B := hbody A outer s H E ⟨fun _ => True, mOf [.s] [.scr ns], T, H1, [], fun b => H1 b = none⟩ hr rfl
      have tb : LamX.Tabs T.tb H1 := fun p hp => LamX.TabS.nil (ht1 p hp)
      have S0 := sr_start (X := cxOf (L2.CX P w) P w K mg base N qual (defScope st) f cdv A outer s H E) (G := fun _ => True) (Sx := fun b => H1 b = none) (ms := [.s]) (ds := [.scr ns]) (vs := [.ref a]) (n := N.length - 1) (B := H1) (T := T) ⟨⟨a, rfl, hF⟩, trivial⟩ .nil (fun _ _ => trivial) (fun _ h => h) tb
      have tk : Takes (cxOf (L2.CX P w) P w K mg base N qual (defScope st) f cdv A outer s H E) (WQ (cxOf (L2.CX P w) P w K mg base N qual (defScope st) f cdv A outer s H E) ⟨fun _ => True, mOf [.s] [.scr ns], T, H1, [], fun b => H1 b = none⟩ (endsF [.s] [.scr ns] (fun sv => sv = .fr true (.bl true)) (fun _ => False)).ex) := by
        refine Takes.imp (takes_of rfl rfl rfl rfl) fun c d σ H' hx => ?_
        obtain ⟨x, ρ, τ, vs', S', ok, hf, hk⟩ := hx
        exact hf.elim
      refine ⟨B.pss tk, ?_⟩
      have e : L2.start N [V.ref a] = [V.ref a].map some ++ List.replicate (N.length - 1) none := rfl
      rw [e]
      refine body_end S0 (hq _ _ _ hqs) fun sv v H' σ c hs hb ho hR => ?_
      subst hR
      obtain ⟨u, hu, hv⟩ := hs
      cases hu
      cases hv
      exact hQ1 H' fun o u e => c.keep.keep a _ e (fun z => nomatch z) fun _ z => nomatch z
    rcases hL with (e | ⟨o, e⟩) | hK
    · have hp : ∀ od, _ := fun od : Obj => core (upd H a (.frz od (.lst (ns.map .int)))) (fun v H' => H' a = some (.frz od (.lst (ns.map .int))) ∧ Q v (upd H' a (.lst (ns.map .int)))) (fun p hp => by
        rw [upd_ne fun z => ?_]
        · exact ht p hp
        · rw [← z, ht p hp] at e
          cases e) (.inl ⟨trivial, od, upd_same⟩) fun H' hk => ⟨hk _ _ upd_same, hQ _⟩
      refine ⟨_, pss_lock (a := a) fun od => (hp od).1, _, e, trivial, fun od => ?_⟩
      obtain ⟨ρ, D, he, S', hp', h1, h2, h3, h4⟩ := (hp od).2
      exact ⟨ρ, D, he, S', hp', h1, h2, fun ρ' σ' H' s q => (h3 ρ' σ' H' s q).elim, fun ρ' σ' H' s q => (h4 ρ' σ' H' s q).elim⟩
    · obtain ⟨h1, h2⟩ := core H Q ht (.inl ⟨trivial, o, e⟩) fun H' _ => hQ H'
      exact ⟨_, h1, h2⟩
    · obtain ⟨h1, h2⟩ := core H Q ht (.inr hK) fun H' _ => hQ H'
      exact ⟨_, h1, h2⟩
end
theorem str_app {x y : Str} : (x ++ y).length = x.length + y.length := by
  show (x.cps ++ y.cps).size = _
  rw [Array.size_append]
  rfl
theorem rm_fmt {p q : Str} (hp : p.length ≤ 1000) (hq : q.length ≤ 1000) {σ : L2.St} {y : V} {H : Hp} {Q : VK} (hs : σ[1]? = some (some y)) (hy : okV y) (k : ∀ v, Q v H) : tJs [tC (.str p), tFmt (tVar 1), tC (.str q)] Str.empty σ H fun out H1 => Q (.str out) H1 := by
  have e0 : (Str.empty ++ p).length ≤ 1000 := by rw [str_app]; show 0 + _ ≤ _; omega
  have main : ∀ z : Str, z.length ≤ 1000000 → ∃ y : Str, V.str z = .str y ∧ (Str.empty ++ p ++ y).length ≤ sizeLine ∧ tJs [tC (.str q)] (Str.empty ++ p ++ y) σ H fun out H1 => Q (.str out) H1 := fun z hz => by
    refine ⟨z, rfl, ?_, q, rfl, ?_, k _⟩
    · rw [sizeLine_eq, str_app]; omega
    · rw [sizeLine_eq, str_app, str_app]; omega
  refine ⟨p, rfl, by rw [sizeLine_eq]; omega, y, hs, ?_⟩
  rcases hy with ⟨z, rfl, hz⟩ | ⟨i, rfl, hi⟩
  · exact .inl ⟨z, rfl, by rw [sizeLine_eq]; omega, main z hz⟩
  · have := int_text_len_1921 hi
    exact .inr ⟨i, rfl, hi, main _ (by show (Str.ofString (toString i)).length ≤ _; omega)⟩
/-! ### the closing's small facts -/
section
variable {P : Program} {w : World} {K : PySem.W.Frag} {mg : Str → Option Value} {base : Heap} {T : TBs}
theorem fn_zero {CX : CXT} {f : Addr} {fd : FuncData} {ps : List Str} {sp : Sp} (h : ∀ vs H Q E, ¬ sp vs H Q E) : FnOk P w K mg base CX 0 f fd ps sp :=
  ⟨fun vs H Q E q => (h vs H Q E q).elim, fun _ _ _ H _ _ vs Q E _ _ _ _ q => (h vs H Q E q).elim⟩
theorem eg_own {fs : List Str} {cs : List EC} (X1 : ErrsF fs cs K) (hT : T.ea = eaOf K) {c : EC} (hc : c ∈ cs) (ho : c ≠ .ve) (hm : mg (ecn c) = some (.ref (eaOf K c))) : EG K mg T (ecn c) c (.ref (eaOf K c)) (.ref (eaOf K c)) := by
  have e : ecv K c = .ref (eaOf K c) := by cases c <;> first | rfl | exact absurd rfl ho
  refine ⟨⟨.own _, fun d hd => ?_⟩, fun d hd => ?_, rfl, .inl hm⟩
  · rw [hT, ← e]; exact X1.kit c hc d hd
  · rw [hT, ← e]; exact X1.exm c hc d hd
theorem eg_ve {fs : List Str} {cs : List EC} (X1 : ErrsF fs cs K) (hT : T.ea = eaOf K) (hc : EC.ve ∈ cs) (hm : mg "ValueError" = none) : EG K mg T "ValueError" .ve (.ty "ValueError") (.type "ValueError") := by
  refine ⟨⟨.ty _, fun d hd => ?_⟩, fun d hd => ?_, rfl, .inr ⟨hm, rfl, by decide⟩⟩
  · rw [hT]; exact X1.kit .ve hc d hd
  · rw [hT]; exact X1.exm .ve hc d hd
theorem code_of {p : He.Defn} {x q : Str} {st : Stmt} {fd : FuncData} (F : Fun K x q st (He.fAd K p) fd) : fd.code = .ref (He.cT K p).1 := by
  obtain ⟨oc, od, kV, doc, pm, an, cdv, ct, osl, rfl, lk, hcd⟩ := F.ex
  cases cdv with
  | ref c =>
    show Value.ref c = .ref (He.codeOf K p)
    rw [He.codeOf_eq lk rfl]
  | _ => cases hcd
end
theorem bits_lt {z : Int} (h : Builtin.Int.intBits z ≤ 1048576) : z.natAbs < 2 ^ 1048577 :=
  Nat.lt_of_lt_of_le (PySem.intBits_le_iff.mp h) (Nat.pow_le_pow_right (by decide) (by omega : (1048576 : Nat) ≤ 1048577))
end Q

namespace Q
open PySem PySem.Spec PyProof.Rows L2
section
variable {X : Cx} {g : Gh} {e : Expr} {p : RE} {x : Str} {pos pos' pf : Pos}
/-! ### the module's constants -/
theorem q_gint {i : Int} (hm : ∃ t, X.mg x = some (.int i t)) (hg : Gl X x) (hd : (x == ("__debug__" : Str)) = false := by decide) : QE X g (.Name x pos) (rC (.int i)) := by
  obtain ⟨t, h⟩ := hm
  exact qc (pe_glob (v := .int i) hg h ⟨t, rfl⟩ hd) fun _ _ => rfl
theorem q_gstr {z : Str} (hm : ∃ t, X.mg x = some (.str z t)) (hg : Gl X x) (hd : (x == ("__debug__" : Str)) = false := by decide) : QE X g (.Name x pos) (rC (.str z)) := by
  obtain ⟨t, h⟩ := hm
  exact qc (pe_glob (v := .str z) hg h ⟨t, rfl⟩ hd) fun _ _ => rfl
/-! ### x += e, x -= e, ints -/
def rAugI (i : Nat) (f : Int → Int → Int) (p : RE) : RS := fun D ρ => match ρ[i]? with
  | some (.fr _ (.int a)) => p ρ (kT fun _ d ρ' => match d with
    | .int b => D.nx (ρ'.set i (.fr true (.int (f a b))))
    | _ => False) D.ex
  | _ => False
theorem q_augI {i : Nat} {op : Operator} {f : Int → Int → Int} (ho : PIp X op (ipI f)) (hN : X.N.Nodup) (hi : X.N[i]? = some x) (hx : Loc X.env.scope x) (he : QE X g e p) (hf : X.fn x = true ∨ X.env.scope.names.lookup x = some .local := by first | exact .inl rfl | exact .inr rfl | assumption) :
    QS X g (.AugAssign (.Name x pos') op e pos) (rAugI i f p) := by
  refine QS.of (fun Ξ tk => ps_aug hN hi hx (he.peT tk) ho hf) fun τ vs ρ D σ H nb S hw => ?_
  unfold rAugI at hw
  split at hw
  · rename_i m a e1
    obtain ⟨w, hw1, ⟨z, rfl, r⟩, _⟩ := S.slot e1
    cases r
    refine ⟨_, hw1, τ, vs, ρ, _, S, hw, fun m' d ρ' v H' S' rp q => ?_⟩
    cases d with
    | int b =>
      cases (show v = V.int b from rp)
      exact ⟨a, b, rfl, rfl, _, (S'.pushF (m := true) (d := .int (f a b)) rfl).assign rfl nb, q⟩
    | _ => exact q.elim
  · exact hw.elim
/-! ### ord -/
def oOrd : Op1 := fun _ d k => match d with
  | .str z => z.length = 1 ∧ k (.fr true (.int (z.cps.getD 0 0 : Nat)))
  | _ => False
theorem rd_ord : Op1Rd X g (fun xs H Q => ∃ x, xs = [.str x] ∧ x.length = 1 ∧ Q (.int (x.cps.getD 0 0 : Nat)) H) oOrd := by
  intro σ τ vs ρ H x m d k Q S v h kk
  unfold oOrd at h
  split at h
  · cases view_str v
    exact ⟨_, rfl, h.1, kk _ _ _ (S.pushF (m := true) (d := .int _) rfl) h.2⟩
  · exact h.elim
theorem q_ord (hg : Gl X "ord") (hm : X.mg "ord" = none) (ha : QE X g e p) (he : starEach [e] X.env = (false, eval e X.env) :: starEach [] X.env := by rfl) (hpl : (backTo pos (starEach [] X.env)).any (·.1) = false := by rfl) : QE X g (.Call (.Name "ord" pf) [e] [] pos) (rB1 oOrd p) :=
  q_b1 call_ord rd_ord hg hm (by rfl) ha (by decide) (by decide) he hpl
end
end Q

namespace Q
open PySem PySem.Spec PyProof.Rows L2
/-! ### for .. in enumerate(list) -/
def enumD (xs : List D) : List D := xs.zipIdx.map fun p => .tup [.int (p.2 : Nat), p.1]
theorem enum_len {xs : List D} : (enumD xs).length = xs.length := by simp [enumD]
theorem enum_get {xs : List D} {i : Nat} (h : i < xs.length) : (enumD xs)[i]? = some (.tup [.int (i : Nat), xs[i]]) := by
  simp [enumD, h]
def riE (p : RE) : RI := fun ρ k x => p ρ (kT fun m d ρ' => match d with
  | .lst xs => k m (enumD xs) ρ'
  | _ => False) x
section
variable {X : Cx} {g : Gh} {e : Expr} {p : RE} {pf pos tpos : Pos} {elts : List Expr} {kk : Nat}
theorem qi_enum (hg : Gl X "enumerate") (hm : X.mg "enumerate" = none) (h : QE X g e p) (he : starEach [e] X.env = (false, eval e X.env) :: starEach [] X.env := by rfl) (hs : starEach [e] X.env = [(false, eval e X.env)] := by rfl) : QI X g (.Tuple elts kk tpos) (.Call (.Name "enumerate" pf) [e] [] pos) (riE p) := fun Ξ tk =>
  PI.imp (pi_enum hg hm (pa_cons (h.peT tk) pa_nil he) hs) fun σ H R ⟨τ, vs, ρ, Φ, S, hw, k⟩ => by
  refine ⟨τ, vs, ρ, _, S, hw, fun m d ρ' v H' S' r q => ?_⟩
  cases d with
  | lst xs =>
    obtain ⟨a, ws, rfl, f, rp⟩ := id r
    refine ⟨a, ws, rfl, .inl f.rd, k (Ite X.K a) m (enumD xs) ρ' [.fr m (.lst xs)] [.ref a] H' (S'.pushF r) ⟨?_, ?_, ?_, ?_, rfl⟩ q⟩
    · intro i ρ σ τ vs H S hi
      rw [enum_len] at hi
      obtain ⟨w, hw, b, us, e, f, rp⟩ := S.top
      cases hw; cases e
      have hl := reps_len rp
      exact ⟨us, us[i]'(by omega), .inl f.rd, by simp⟩
    · intro ρ σ τ vs H S
      obtain ⟨w, hw, b, us, e, f, rp⟩ := S.top
      cases hw; cases e
      exact ⟨us, .inl f.rd, by rw [enum_len, reps_len rp]; exact Nat.le_refl _⟩
    · intro i ρ σ τ vs H v H' S hi y
      rw [enum_len] at hi
      obtain ⟨w, hw, b, us, e, f, rp⟩ := S.top
      cases hw; cases e
      obtain ⟨T, x, rfl, hT, rfl, hy⟩ := y
      have hv := hy us (.inl f.rd)
      obtain ⟨u, hu, ru⟩ := reps_get rp (List.getElem?_eq_getElem hi)
      rw [hv] at hu
      cases hu
      exact ⟨_, enum_get hi, S.newTup hT ⟨.int (i : Nat), [x], rfl, rfl, x, [], rfl, ru, rfl⟩⟩
    · intro sv hsv
      rw [List.mem_singleton.mp hsv]; rfl
  | _ => exact q.elim
end
end Q

namespace Q
open PySem PySem.Spec PyProof.Rows L2
/-! ### trees: what is owned down to its leaves -/
section
variable {K : PySem.W.Frag} {G : Addr → Prop} {H : Hp}
mutual
theorem repT_safe : ∀ (d : D) (v : V), d.safe = true → Rep K G H d v → RepT K H d v []
  | .non, _, _, r => ⟨r, rfl⟩
  | .bl _, _, _, r => ⟨r, rfl⟩
  | .int _, _, _, r => ⟨r, rfl⟩
  | .str _, _, _, r => ⟨r, rfl⟩
  | .ref _, _, _, r => ⟨r, rfl⟩
  | .ty _, _, _, r => ⟨r, rfl⟩
  | .tup xs, _, h, ⟨a, vs, e, c, r⟩ => ⟨a, vs, e, c, repsT_safe xs vs h r⟩
  | .lst _, _, h, _ => nomatch h
  | .dk _, _, h, _ => nomatch h
  | .dt _, _, h, _ => nomatch h
  | .obj _ _, _, h, _ => nomatch h
  | .scr _, _, h, _ => nomatch h
theorem repsT_safe : ∀ (ds : List D) (vs : List V), safes ds = true → Reps K G H ds vs → RepsT K H ds vs []
  | [], _, _, r => ⟨r, rfl⟩
  | x :: r, _, h, ⟨v, vs', e, a, b⟩ => ⟨v, vs', [], [], e, rfl, repT_safe x v (Bool.and_eq_true_iff.mp h).1 a, repsT_safe r vs' (Bool.and_eq_true_iff.mp h).2 b⟩
end
theorem repsT_len : ∀ {ds : List D} {vs : List V} {L : List Addr}, RepsT K H ds vs L → ds.length = vs.length
  | [], _, _, ⟨e, _⟩ => by rw [e]; rfl
  | _ :: r, _, _, ⟨v, vs', L1, L2, e, _, _, b⟩ => by rw [e, List.length_cons, List.length_cons, repsT_len b]
theorem repsT_app : ∀ {ds es : List D} {vs us : List V} {L M : List Addr}, RepsT K H ds vs L → RepsT K H es us M → RepsT K H (ds ++ es) (vs ++ us) (L ++ M)
  | [], _, _, _, _, _, ⟨e1, e2⟩, b => by subst e1 e2; exact b
  | _ :: r, _, _, _, _, _, ⟨v, vs', L1, L2, e1, e2, a, b⟩, q => by subst e1 e2; exact ⟨v, _, L1, _, rfl, by rw [List.append_assoc], a, repsT_app b q⟩
theorem repsT_one {d : D} {v : V} {L : List Addr} (h : RepT K H d v L) : RepsT K H [d] [v] L := ⟨v, [], L, [], rfl, by simp, h, rfl, rfl⟩
end
section
variable {X : Cx} {K : PySem.W.Frag} {g : Gh} {ρ : PSt} {σ : L2.St} {τ : List SV} {vs : List V} {H : Hp} {sv sv' : SV} {v : V}
/-- the top is told in another way -/
theorem SR.retop (S : SR K g ρ σ (sv :: τ) (v :: vs) H) (h : SVR K g H σ sv' (some v)) (ho : ∀ a, Own sv' (some v) a → Own sv (some v) a) (ns : sv.stoOf = none) : SR K g ρ σ (sv' :: τ) (v :: vs) H :=
  S.pop.push h fun a e => ⟨.inl ((S.own _ List.mem_cons_self a (ho a e)).elim id fun z => absurd z.2 (by rw [ns]; exact fun e => nomatch e)), fun q hq z => Injs.fresh S.inj (ho a e) q hq z⟩
/-- a slot's thing is taken out of it -/
theorem SR.lose (S : SR K g ρ σ τ vs H) (i : Nat) : SR K g (ρ.set i .no) σ τ vs H := by
  by_cases hi : i < ρ.length
  · have hs : σ[i]? = some (σ[i]'(by rw [← S.len]; exact hi)) := List.getElem?_eq_getElem (by rw [← S.len]; exact hi)
    have es : ents (ρ.set i .no) σ τ vs = (ents ρ σ τ vs).set (τ.length + i) (.no, σ[i]'(by rw [← S.len]; exact hi)) := by
      have := ents_set (ρ := ρ) (σ := σ) S.tlen i .no (σ[i]'(by rw [← S.len]; exact hi))
      rw [set_self hs] at this
      exact this
    have key : ∀ q ∈ ents (ρ.set i .no) σ τ vs, q ∈ ents ρ σ τ vs ∨ q.1 = .no := fun q hq => by
      rw [es] at hq
      exact (List.mem_or_eq_of_mem_set hq).imp id fun e => by rw [e]
    refine ⟨by simp [S.len], S.tlen, fun q hq => ?_, ?_, fun q hq a e => ?_, S.keep, S.tabs, S.gnew, S.pin, fun x hx => ?_, S.snew⟩
    · rcases key q hq with z | z
      · exact S.all q z
      · obtain ⟨q1, q2⟩ := q
        have z : q1 = .no := z
        subst z
        trivial
    · show Injs _
      rw [es]
      refine Injs.set S.inj _ _ fun a e => ?_
      exact nomatch (show (none : Option Addr) = some a from by revert e; cases σ[i]'(by rw [← S.len]; exact hi) <;> exact id)
    · rcases key q hq with z | z
      · exact S.own q z a e
      · obtain ⟨q1, q2⟩ := q
        have z : q1 = .no := z
        subst z
        exact nomatch (show (none : Option Addr) = some a from by revert e; cases q2 <;> exact id)
    · rcases List.mem_or_eq_of_mem_set hx with z | z
      · exact S.nb x z
      · rw [z]; rfl
  · rw [List.set_eq_of_length_le (by omega)]
    exact S
/-- a slot's thing, taken out of it, lies on top -/
theorem SR.takeOut {i : Nat} (S : SR K g ρ σ (.bor i :: τ) (v :: vs) H) (h : ρ[i]? = some sv) (hn : sv ≠ .no) (ns : sv.stoOf = none) (hb : sv.isBor = false) : SR K g (ρ.set i .no) σ (sv :: τ) (v :: vs) H := by
  have hv := S.borSlot S.top h hn
  have S1 := S.pop
  have e0 := ents_at S1.tlen i h hv
  have m0 := List.mem_of_getElem? e0
  have S2 := S1.lose i
  refine S2.push (svr_sigma hb (S1.all _ m0)) fun a e => ?_
  refine ⟨.inl ((S1.own _ m0 a e).elim id fun z => absurd z.2 (by rw [ns]; exact fun e => nomatch e)), fun q hq z => ?_⟩
  have es : ents (ρ.set i .no) σ τ vs = (ents ρ σ τ vs).set (τ.length + i) (.no, some v) := by
    have := ents_set (ρ := ρ) (σ := σ) S1.tlen i .no (some v)
    rw [set_self hv] at this
    exact this
  rw [es] at hq
  obtain ⟨j, hj⟩ := List.mem_iff_getElem?.mp hq
  by_cases hji : τ.length + i = j
  · subst hji
    rw [List.getElem?_set] at hj
    simp at hj
    rw [← hj.2] at z
    exact nomatch (show (none : Option Addr) = some a from z)
  · rw [List.getElem?_set_ne hji] at hj
    exact hji (S1.inj _ _ _ _ _ e0 hj e z)
/-- what may become a tree -/
def treeK (k : RK) : RK := fun sv ρ => match sv with
  | .ot L d => k (.ot L d) ρ
  | .fr _ d => d.safe = true ∧ k (.ot [] d) ρ
  | .ol _ xs => safes xs = true ∧ ∀ a, k (.ot [a] (.lst xs)) ρ
  | .bor i => (match ρ[i]? with
    | some (.ot L d) => k (.ot L d) (ρ.set i .no)
    | some (.ol _ xs) => safes xs = true ∧ ∀ a, k (.ot [a] (.lst xs)) (ρ.set i .no)
    | _ => False)
  | _ => False
def rTree (p : RE) : RE := fun ρ k x => p ρ (treeK k) x
theorem SR.olTree {m : Bool} {xs : List D} (S : SR K g ρ σ (.ol m xs :: τ) (v :: vs) H) (hs : safes xs = true) : ∃ a, SR K g ρ σ (.ot [a] (.lst xs) :: τ) (v :: vs) H := by
  obtain ⟨a, ws, e, c, r⟩ := S.top
  cases e
  exact ⟨a, S.retop ⟨_, rfl, ⟨a, ws, [], rfl, rfl, c, repsT_safe xs ws hs r⟩, List.nodup_cons.mpr ⟨List.not_mem_nil, .nil⟩⟩ (fun b hb => by rw [List.mem_singleton.mp hb]; rfl) rfl⟩
theorem treeK_ok {k : RK} (S : SR K g ρ σ (sv :: τ) (v :: vs) H) (h : treeK k sv ρ) : ∃ sv' ρ', SR K g ρ' σ (sv' :: τ) (v :: vs) H ∧ k sv' ρ' := by
  cases sv with
  | ot L d => exact ⟨_, _, S, h⟩
  | fr m d =>
    obtain ⟨h1, h2⟩ := h
    obtain ⟨w, e, r⟩ := S.top
    cases e
    exact ⟨.ot [] d, _, S.retop (sv' := .ot [] d) ⟨_, rfl, repT_safe d v h1 r, .nil⟩ (fun b hb => by cases hb) rfl, h2⟩
  | ol m xs =>
    obtain ⟨h1, h2⟩ := h
    obtain ⟨a, S'⟩ := S.olTree h1
    exact ⟨_, _, S', h2 a⟩
  | bor i =>
    have h : (match ρ[i]? with
      | some (.ot L d) => k (.ot L d) (ρ.set i .no)
      | some (.ol _ xs) => safes xs = true ∧ ∀ a, k (.ot [a] (.lst xs)) (ρ.set i .no)
      | _ => False) := h
    split at h
    · rename_i L d e
      exact ⟨_, _, S.takeOut e (fun z => nomatch z) rfl rfl, h⟩
    · rename_i m xs e
      obtain ⟨a, S'⟩ := (S.takeOut e (fun z => nomatch z) rfl rfl).olTree h.1
      exact ⟨_, _, S', h.2 a⟩
    · exact h.elim
  | _ => exact h.elim
end
section
variable {X : Cx} {g : Gh} {e : Expr} {es : List Expr} {p : RE} {ps : RA} {pos : Pos} {x : Str}
theorem q_tree (h : QE X g e p) : QE X g e (rTree p) := ⟨fun pins s σ H τ vs ρ Φ Ξ tk I S hw =>
  thn (h.run pins s σ H τ vs ρ _ Ξ tk I S hw) fun u s' ⟨v, H', sv, ρ', I', r, S', q⟩ => by
    obtain ⟨sv', ρ2, S2, q2⟩ := treeK_ok S' q
    exact ⟨v, H', sv', ρ2, I', r, S2, q2⟩⟩
/-- a tree is given up: frozen for good -/
def frzK (k : RK) : RK := fun sv ρ => match sv with
  | .ot _ d => k (.fr true d) ρ
  | sv => k sv ρ
def rFrz (p : RE) : RE := fun ρ k x => p ρ (frzK k) x
theorem SR.freezeT {pins : List (Addr × Obj)} {s : Shared} {ρ : PSt} {σ : L2.St} {τ : List SV} {vs : List V} {H : Hp} {v : V} {L : List Addr} {d : D} (I : L2.Inv X pins σ H s) (S : SR X.K g ρ σ (.ot L d :: τ) (v :: vs) H) :
    ∃ H', L2.Inv X pins σ H' s ∧ SR X.K g ρ σ (.fr true d :: τ) (v :: vs) H' := by
  have hm : (SV.ot L d, some v) ∈ ents ρ σ (.ot L d :: τ) (v :: vs) := List.mem_cons_self
  have hown : ∀ a ∈ L, ∃ u, H a = some u ∧ Mut (some u) ∧ ∀ φ, u ≠ .ext φ := fun a ha => (svr_own (S.all _ hm) (a := a) ha).2
  obtain ⟨H1, I1, hA, hN⟩ := lockAll L I fun a ha => let ⟨u, e, mu, _⟩ := hown a ha; ⟨u, e, mu⟩
  have notL : ∀ b o, H b = some o → ¬ Mut (some o) → b ∉ L := fun b o e nm hb => by
    obtain ⟨u, e1, mu, _⟩ := hown b hb
    rw [e] at e1; cases e1
    exact nm mu
  have notLx : ∀ b φ, H b = some (.ext φ) → b ∉ L := fun b φ e hb => by
    obtain ⟨u, e1, _, nx⟩ := hown b hb
    rw [e] at e1; cases e1
    exact nx φ rfl
  have st : Stab H H1 := ⟨⟨fun a o u e => by rw [hN _ (notL _ _ e id)]; exact e, fun a xs e => by rw [hN _ (notL _ _ e id)]; exact e⟩, fun a xs e => by rw [hN _ (notL _ _ e id)]; exact e⟩
  have hB : ∀ a ∈ L, g.B a = none := fun a ha => (S.own _ hm a ha).elim id fun z => nomatch z.2
  refine ⟨H1, I1, ?_⟩
  have S1 : SR X.K g ρ σ τ vs H1 := by
    refine S.pop.heap st (fun q hq b e => hN b fun hb => Injs.fresh S.inj (p := (SV.ot L d, some v)) (a := b) hb q hq e) ⟨fun a o e m t => ?_, fun a e => ?_⟩ ?_
    · rw [hN a fun hb => by rw [hB a hb] at e; cases e]
      exact S.keep.keep a o e m t
    · by_cases hb : a ∈ L
      · exact hB a hb
      · rw [hN a hb] at e
        exact S.keep.live a e
    · intro pt hpt
      obtain ⟨ps, h1, h2, h3⟩ := S.tabs pt hpt
      refine ⟨ps, by rw [hN _ (notL _ _ h1 id)]; exact h1, h2, fun pos cv hc => ?_⟩
      obtain ⟨c, e1, e2⟩ := h3 pos cv hc
      exact ⟨c, e1, by rw [hN _ (notLx _ _ e2)]; exact e2⟩
  refine S1.pushF ?_
  obtain ⟨w, e, r, _⟩ := S.top
  cases e
  refine RepT.frz (fun a xs h => sqT_mono st h) d v L (fun a ha u e => ?_) r
  obtain ⟨od, u', e1, e2⟩ := hA a ha
  rw [e] at e1; cases e1
  exact ⟨fun _ => S.gnew a (hB a ha), od, e2⟩
theorem q_frz (h : QE X g e p) : QE X g e (rFrz p) := ⟨fun pins s σ H τ vs ρ Φ Ξ tk I S hw =>
  thn (h.run pins s σ H τ vs ρ _ Ξ tk I S hw) fun u s' ⟨v, H', sv, ρ', I', r, S', q⟩ => by
    cases sv with
    | ot L d =>
      obtain ⟨H2, I2, S2⟩ := SR.freezeT I' S'
      exact ⟨v, H2, _, ρ', I2, r, S2, q⟩
    | _ => exact ⟨v, H', _, ρ', I', r, S', q⟩⟩
/-! ### displays of trees -/
def allOt : List SV → Option (List Addr × List D)
  | [] => some ([], [])
  | .ot L d :: r => (match allOt r with
    | some (M, ds) => some (L ++ M, d :: ds)
    | none => none)
  | _ => none
theorem allOt_cons {sv : SV} {r : List SV} {L : List Addr} {ds : List D} (h : allOt (sv :: r) = some (L, ds)) : ∃ L1 d L2 ds2, sv = .ot L1 d ∧ allOt r = some (L2, ds2) ∧ L = L1 ++ L2 ∧ ds = d :: ds2 := by
  cases sv with
  | ot L1 d =>
    have h : (match allOt r with
      | some (M, ds) => some (L1 ++ M, d :: ds)
      | none => none) = some (L, ds) := h
    split at h
    · rename_i M ds2 e
      cases h
      exact ⟨L1, d, M, ds2, rfl, e, rfl, rfl⟩
    · cases h
  | _ => cases h
theorem SR.allots {K : PySem.W.Frag} {ρ : PSt} {σ : L2.St} {τ : List SV} {vs : List V} {H : Hp} : ∀ {svs : List SV} {us : List V} {L : List Addr} {ds : List D}, svs.length = us.length → SR K g ρ σ (svs ++ τ) (us ++ vs) H → allOt svs = some (L, ds) →
    RepsT K H ds us L ∧ L.Nodup ∧ (∀ a ∈ L, g.B a = none ∧ ∀ q ∈ ents ρ σ τ vs, ¬ Own q.1 q.2 a)
  | [], [], _, _, _, S, h => by cases h; exact ⟨⟨rfl, rfl⟩, .nil, fun _ z => nomatch z⟩
  | sv :: svs, u :: us, L, ds, hl, S, h => by
    obtain ⟨L1, d, L2, ds2, rfl, e, rfl, rfl⟩ := allOt_cons h
    have hl : svs.length = us.length := by simpa using hl
    obtain ⟨r2, n2, o2⟩ := SR.allots hl S.pop e
    obtain ⟨w, ew, r1, n1⟩ := S.top
    cases ew
    have hm : (SV.ot L1 d, some u) ∈ ents ρ σ (.ot L1 d :: (svs ++ τ)) (u :: (us ++ vs)) := List.mem_cons_self
    have dis : ∀ a ∈ L1, ∀ q ∈ ents ρ σ (svs ++ τ) (us ++ vs), ¬ Own q.1 q.2 a := fun a ha q hq z => Injs.fresh S.inj (p := (SV.ot L1 d, some u)) ha q hq z
    have mem : ∀ {svs : List SV} {us : List V} {L : List Addr} {ds : List D}, svs.length = us.length → allOt svs = some (L, ds) → ∀ a ∈ L, ∃ q ∈ svs.zip (us.map some), Own q.1 q.2 a := by
      intro svs
      induction svs with
      | nil => intro us L ds hl h a ha; cases h; cases ha
      | cons sv svs ih =>
        intro us L ds hl h a ha
        obtain ⟨L1, d, L2, ds2, rfl, e, rfl, rfl⟩ := allOt_cons h
        cases us with
        | nil => cases hl
        | cons u us =>
          rcases List.mem_append.mp ha with z | z
          · exact ⟨_, List.mem_cons_self, z⟩
          · obtain ⟨q, hq, o⟩ := ih (by simpa using hl) e a z
            exact ⟨q, List.mem_cons_of_mem _ hq, o⟩
    have sub : ∀ q, q ∈ svs.zip (us.map some) → q ∈ ents ρ σ (svs ++ τ) (us ++ vs) := fun q hq => by
      unfold ents
      rw [List.map_append, List.zip_append (by simpa using hl)]
      exact List.mem_append_left _ (List.mem_append_left _ hq)
    have sub2 : ∀ q, q ∈ ents ρ σ τ vs → q ∈ ents ρ σ (svs ++ τ) (us ++ vs) := fun q hq => by
      unfold ents
      rw [List.map_append, List.zip_append (by simpa using hl)]
      rcases List.mem_append.mp hq with z | z
      · exact List.mem_append_left _ (List.mem_append_right _ z)
      · exact List.mem_append_right _ z
    refine ⟨⟨u, us, L1, L2, rfl, rfl, r1, r2⟩, List.nodup_append.mpr ⟨n1, n2, fun a ha b hb e => ?_⟩, fun a ha => ?_⟩
    · subst e
      obtain ⟨q, hq, o⟩ := mem hl e a hb
      exact dis a ha q (sub q hq) o
    · rcases List.mem_append.mp ha with z | z
      · exact ⟨(S.own _ hm a z).elim id (fun y => nomatch y.2), fun q hq => dis a z q (sub2 q hq)⟩
      · exact o2 a z
  | [], _ :: _, _, _, hl, _, _ => by cases hl
  | _ :: _, [], _, _, hl, _, _ => by cases hl
def rTupT (ps : RA) : RE := fun ρ k x => ps ρ (fun svs ρ' => match allOt svs with
  | some (L, ds) => ds.length ≤ line ∧ k (.ot L (.tup ds)) ρ'
  | none => False) x
def rLstT (ps : RA) : RE := fun ρ k x => ps ρ (fun svs ρ' => match allOt svs with
  | some (L, ds) => ds.length ≤ line ∧ ∀ a, k (.ot (a :: L) (.lst ds)) ρ'
  | none => False) x
theorem q_tupT {kk} (h : QA X g es ps) : QE X g (.Tuple es kk pos) (rTupT ps) := by
  refine QE.of (fun Ξ tk => pe_tup (h.pa tk)) fun τ vs ρ Φ Ξ σ H S hw => ⟨τ, vs, ρ, _, S, hw, fun svs ρ' us H' hl S' q => ?_⟩
  split at q
  · rename_i L ds e
    obtain ⟨r, n, o⟩ := SR.allots hl S' e
    refine ⟨by rw [line_eq, ← repsT_len r]; exact q.1, fun p hp => ⟨_, ρ', SR.push (sv := .ot L (.tup ds)) ((SR.drop hl S').new hp) ⟨_, rfl, ⟨p, us, rfl, SqT.of upd_same, RepsT.mono (fun a xs h => sqT_mono (stab_new hp) h) _ _ _ (fun a ha => ?_) r⟩, n⟩ (fun a ha => ⟨.inl (o a ha).1, (o a ha).2⟩), q.2⟩⟩
    obtain ⟨u, e1, _⟩ := RepsT.own _ _ _ r ha
    exact upd_ne (ne_of_none e1 hp)
  · exact q.elim
theorem q_lstT (h : QA X g es ps) : QE X g (.List es pos) (rLstT ps) := by
  refine QE.of (fun Ξ tk => pe_lst (h.pa tk)) fun τ vs ρ Φ Ξ σ H S hw => ⟨τ, vs, ρ, _, S, hw, fun svs ρ' us H' hl S' q => ?_⟩
  split at q
  · rename_i L ds e
    obtain ⟨r, n, o⟩ := SR.allots hl S' e
    have S2 := SR.drop hl S'
    refine ⟨by rw [line_eq, ← repsT_len r]; exact q.1, fun p hp => ⟨_, ρ', SR.push (sv := .ot (p :: L) (.lst ds)) (S2.new hp) ⟨_, rfl, ⟨p, us, L, rfl, rfl, upd_same, RepsT.mono (fun a xs h => sqT_mono (stab_new hp) h) _ _ _ (fun a ha => ?_) r⟩, List.nodup_cons.mpr ⟨fun hpL => ?_, n⟩⟩ (fun a ha => ?_), q.2 p⟩⟩
    · obtain ⟨u, e1, _⟩ := RepsT.own _ _ _ r ha
      exact upd_ne (ne_of_none e1 hp)
    · obtain ⟨u, e1, _⟩ := RepsT.own _ _ _ r hpL
      rw [hp] at e1; cases e1
    · rcases List.mem_cons.mp ha with z | z
      · subst z
        refine ⟨.inl (S2.free hp), fun q hq z => ?_⟩
        obtain ⟨_, u, e1, _⟩ := svr_own (S2.all q hq) z
        rw [hp] at e1; cases e1
      · exact ⟨.inl (o a z).1, (o a z).2⟩
  · exact q.elim
/-- [] as a tree -/
def rLst0T : RE := fun ρ k _ => ∀ a, k (.ot [a] (.lst [])) ρ
theorem q_lst0T : QE X g (.List [] pos) rLst0T := by
  have h := q_lstT (X := X) (g := g) (pos := pos) qa_nil
  refine ⟨fun pins s σ H τ vs ρ Φ Ξ tk I S hw => h.run pins s σ H τ vs ρ Φ Ξ tk I S ?_⟩
  exact ⟨Nat.zero_le _, hw⟩
end
/-! ### a tree grows -/
section
variable {X : Cx} {K : PySem.W.Frag} {g : Gh} {ρ : PSt} {σ : L2.St} {τ : List SV} {vs : List V} {H : Hp} {sv sv' svi : SV} {v vi : V} {a : Addr} {o : HO} {i : Nat}
theorem tabs_upd {T : List (Addr × Str)} {u : HO} (t : LamX.Tabs T H) (hu : H a = some u) (mu : Mut (some u)) (nx : ∀ φ, u ≠ .ext φ) : LamX.Tabs T (upd H a o) := by
  intro pt hpt
  obtain ⟨ps, h1, h2, h3⟩ := t pt hpt
  have ne1 : pt.1 ≠ a := fun z => by rw [z, hu] at h1; cases h1; exact mu
  refine ⟨ps, by rw [upd_ne ne1]; exact h1, h2, fun pos cv hc => ?_⟩
  obtain ⟨c, e1, e2⟩ := h3 pos cv hc
  refine ⟨c, e1, ?_⟩
  rw [upd_ne]
  · exact e2
  rintro rfl
  rw [hu] at e2
  exact nx _ (Option.some.inj e2)
/-- the top's cells go over to a slot, of which one cell is written -/
theorem SR.absorb (S : SR K g ρ σ (sv :: τ) (v :: vs) H) (h : ρ[i]? = some svi) (hv : σ[i]? = some (some vi)) (ho : Own svi (some vi) a) (new : SVR K g (upd H a o) σ sv' (some vi)) (hb : sv'.isBor = false)
    (ho' : ∀ b, Own sv' (some vi) b → Own svi (some vi) b ∨ Own sv (some v) b) (n1 : sv.stoOf = none) (n2 : svi.stoOf = none) : SR K g (ρ.set i sv') σ τ vs (upd H a o) := by
  have S1 := S.pop
  have e0 := ents_at S1.tlen i h hv
  have m0 := List.mem_of_getElem? e0
  obtain ⟨_, u, hu, mu, nx⟩ := svr_own (S1.all _ m0) ho
  have st : Stab H (upd H a o) := stab_mut (by rw [hu]; exact mu)
  have es : ents (ρ.set i sv') σ τ vs = (ents ρ σ τ vs).set (τ.length + i) (sv', some vi) := by
    have := ents_set (ρ := ρ) (σ := σ) S1.tlen i sv' (some vi)
    rw [set_self hv] at this
    exact this
  have hB : ∀ b, Own svi (some vi) b → g.B b = none := fun b z => (S1.own _ m0 b z).elim id fun z => absurd z.2 (by rw [n2]; exact fun e => nomatch e)
  have hB2 : ∀ b, Own sv (some v) b → g.B b = none := fun b z => (S.own _ List.mem_cons_self b z).elim id fun z => absurd z.2 (by rw [n1]; exact fun e => nomatch e)
  refine ⟨by simp [S.len], S1.tlen, fun q hq => ?_, ?_, fun q hq b e => ?_, S.keep.upd (.inl (hB a ho)), tabs_upd S.tabs hu mu nx, S.gnew, fun z hz => st.pin (S.pin z hz), fun x hx => ?_, S.snew⟩
  · rw [es] at hq
    obtain ⟨j, hj⟩ := List.mem_iff_getElem?.mp hq
    by_cases hji : τ.length + i = j
    · subst hji
      rw [List.getElem?_set] at hj
      simp at hj
      rw [← hj.2]
      exact new
    · rw [List.getElem?_set_ne hji] at hj
      refine svr_mono st (fun b eb => ?_) (S1.all q (List.mem_of_getElem? hj))
      rw [upd_ne]
      rintro rfl
      exact hji (S1.inj _ _ _ _ _ e0 hj ho eb)
  · show Injs _
    rw [es]
    exact Injs.set S1.inj _ _ fun b e => (ho' b e).imp (fun z => ⟨_, e0, z⟩) fun z q hq => Injs.fresh S.inj z q hq
  · rw [es] at hq
    rcases List.mem_or_eq_of_mem_set hq with z | rfl
    · exact S1.own q z b e
    · exact .inl ((ho' b e).elim (hB b) (hB2 b))
  · rcases List.mem_or_eq_of_mem_set hx with z | rfl
    · exact S.nb x z
    · exact hb
/-- the same, the tree below on the stack -/
theorem SR.absorbTop (S : SR K g ρ σ (sv :: svi :: τ) (v :: vi :: vs) H) (ho : Own svi (some vi) a) (new : SVR K g (upd H a o) σ sv' (some vi)) (ho' : ∀ b, Own sv' (some vi) b → Own svi (some vi) b ∨ Own sv (some v) b) (n1 : sv.stoOf = none) (n2 : svi.stoOf = none) :
    SR K g ρ σ (sv' :: τ) (vi :: vs) (upd H a o) := by
  have S1 := S.pop
  have m0 : (svi, some vi) ∈ ents ρ σ (svi :: τ) (vi :: vs) := List.mem_cons_self
  obtain ⟨_, u, hu, mu, nx⟩ := svr_own (S1.all _ m0) ho
  have st : Stab H (upd H a o) := stab_mut (by rw [hu]; exact mu)
  have hB : ∀ b, Own svi (some vi) b → g.B b = none := fun b z => (S1.own _ m0 b z).elim id fun z => absurd z.2 (by rw [n2]; exact fun e => nomatch e)
  have hB2 : ∀ b, Own sv (some v) b → g.B b = none := fun b z => (S.own _ List.mem_cons_self b z).elim id fun z => absurd z.2 (by rw [n1]; exact fun e => nomatch e)
  have S2 : SR K g ρ σ τ vs (upd H a o) := S1.pop.heap st (fun q hq b e => by
    rw [upd_ne]
    rintro rfl
    exact Injs.fresh S1.inj ho q hq e) (S.keep.upd (.inl (hB a ho))) (tabs_upd S.tabs hu mu nx)
  refine S2.push new fun b e => ?_
  refine ⟨.inl ((ho' b e).elim (hB b) (hB2 b)), fun q hq z => ?_⟩
  rcases ho' b e with y | y
  · exact Injs.fresh S1.inj y q hq z
  · exact Injs.fresh S.inj y q (List.mem_cons_of_mem _ hq) z
end
/-- the value of a grown tree -/
theorem grow_svr {K : PySem.W.Frag} {g : Gh} {H : Hp} {σ : L2.St} {a b : Addr} {L L2 : List Addr} {xs : List D} {d : D} {ws : List V} {v : V} (e : b = a) (c : H b = some (.lst ws)) (r : RepsT K H xs ws L) (r2 : RepT K H d v L2) (n : (a :: L).Nodup) (n2 : L2.Nodup) (dis : ∀ x ∈ L2, x ∉ a :: L) :
    SVR K g (upd H b (.lst (ws ++ [v]))) σ (.ot (a :: (L ++ L2)) (.lst (xs ++ [d]))) (some (.ref b)) := by
  subst e
  have st : Stab H (upd H b (.lst (ws ++ [v]))) := stab_mut (by rw [c]; trivial)
  have ht : ∀ a xs, SqT K H a xs → SqT K (upd H b (.lst (ws ++ [v]))) a xs := fun a xs h => sqT_mono st h
  obtain ⟨n0, n1⟩ := List.nodup_cons.mp n
  refine ⟨_, rfl, ⟨b, _, _, rfl, rfl, upd_same, repsT_app (RepsT.mono ht _ _ _ (fun x hx => upd_ne fun z => n0 (z ▸ hx)) r) (repsT_one (RepT.mono ht _ _ _ (fun x hx => upd_ne fun z => dis x hx (z ▸ List.mem_cons_self)) r2))⟩, ?_⟩
  refine List.nodup_cons.mpr ⟨fun h => (List.mem_append.mp h).elim n0 fun z => dis _ z List.mem_cons_self, List.nodup_append.mpr ⟨n1, n2, fun x hx y hy e => ?_⟩⟩
  subst e
  exact dis x hy (List.mem_cons_of_mem _ hx)
section
variable {X : Cx} {g : Gh} {e elt tg iter : Expr} {ifs : List Expr} {es : List Expr} {p te : RE} {ps : RA} {pos : Pos} {scope : Scope} {own : List (Str × Nat)} {ri : RI} {r : RG} {tt : RT} {js : List Nat}
/-- x.append(e), x a tree -/
def rApT (i : Nat) (p : RE) : RE := fun ρ k x => match ρ[i]? with
  | some (.ot (_ :: _) (.lst _)) => p ρ (fun sv ρ' => match sv with
    | .ot L2 d => (match ρ'[i]? with
      | some (.ot (a :: L) (.lst xs)) => xs.length < line ∧ k (.fr true .non) (ρ'.set i (.ot (a :: (L ++ L2)) (.lst (xs ++ [d]))))
      | _ => False)
    | _ => False) x
  | _ => False
theorem ot_slot {ρ : PSt} {σ : L2.St} {τ : List SV} {vs : List V} {H : Hp} {i : Nat} {a : Addr} {L : List Addr} {xs : List D} (S : SR X.K g ρ σ τ vs H) (hr : ρ[i]? = some (.ot (a :: L) (.lst xs))) : ∃ ws, σ[i]? = some (some (.ref a)) ∧ H a = some (.lst ws) ∧ RepsT X.K H xs ws L ∧ (a :: L).Nodup := by
  obtain ⟨u, hu, ⟨w, rfl, ⟨b, ws, L', rfl, e, c, r⟩, n⟩, _⟩ := S.slot hr
  cases e
  exact ⟨ws, hu, c, r, n⟩
theorem q_apT (i : Nat) {x : Str} {apos np : Pos} (hN : X.N[i]? = some x) (he : QE X g e p)
    (hv : Vis X.env.scope x := by first | exact Or.inl rfl | exact Or.inr (Or.inl rfl) | exact Or.inr (Or.inr rfl)) (hd : (x == ("__debug__" : Str)) = false := by decide) (hcd : (x == ("__classdict__" : Str)) = false := by decide)
    (hbase : attributeBase (.Name x np) "append" X.env (eval (.Name x np) X.env) = eval (.Name x np) X.env := by rfl)
    (hfew : ((backTo pos (starEach [e] X.env)).all (fun x => !x.1) && (backToKw pos (keywordEach [] X.env)).all (fun x => x.1.isSome)
      && decide ([e].length + ([] : List Keyword).length + (if ([] : List Keyword).isEmpty then 0 else 1) < 30)) = true := by rfl)
    (hline : (apos.endLine == pos.line) = true := by rfl) (hs : starEach [e] X.env = (false, eval e X.env) :: starEach [] X.env := by rfl) (hplain : (backTo pos (starEach [] X.env)).any (·.1) = false := by rfl) :
    QE X g (.Call (.Attribute (.Name x np) "append" apos) [e] [] pos) (rApT i p) := by
  refine QE.of (fun Ξ tk => pe_bm F.plainAttrs_list F.slot_list_append F.type_list_append mt_append (pe_var (i := i) hN hv hd hcd) (pa_cons (he.pe tk) pa_nil hs) hbase hfew hline hs hplain) fun τ vs ρ Φ Ξ σ H S hw => ?_
  unfold rApT at hw
  split at hw
  · rename_i a0 L0 xs0 e0
    obtain ⟨ws0, hsl, c0, r0, n0⟩ := ot_slot S e0
    refine ⟨.ref a0, hsl, .inl ⟨rfl, ws0, .inl (.inl c0)⟩, τ, vs, ρ, _, S, hw, fun sv ρ' v H' S' q => ?_⟩
    split at q
    · rename_i L2 d
      split at q
      · rename_i a L xs e1
        have S1 := S'.pop
        obtain ⟨ws, hsl2, c, rr, n⟩ := ot_slot S1 e1
        rw [hsl] at hsl2
        cases hsl2
        obtain ⟨w, ew, r2, n2⟩ := S'.top
        cases ew
        refine ⟨_, ws, v, rfl, rfl, c, by rw [line_eq, ← repsT_len rr]; exact q.1, ?_⟩
        have dis : ∀ x ∈ L2, x ∉ a0 :: L := fun x hx hxL => by
          obtain ⟨u, hu, z, hm⟩ := S1.slot e1
          rw [hsl] at hu
          cases hu
          exact Injs.fresh S'.inj (p := (SV.ot L2 d, some v)) (a := x) hx _ hm hxL
        refine ⟨_, _, SR.pushF (m := true) (d := .non) (SR.absorb (o := .lst (ws ++ [v])) (a := a0) S' e1 hsl List.mem_cons_self (grow_svr rfl c rr r2 n n2 dis) rfl (fun b hb => ?_) rfl rfl) rfl, q.2⟩
        rcases List.mem_cons.mp (show b ∈ a0 :: (L ++ L2) from hb) with z | z
        · exact .inl (show b ∈ a0 :: L from z ▸ List.mem_cons_self)
        · exact (List.mem_append.mp z).imp (fun z => List.mem_cons_of_mem _ z) id
      · exact q.elim
    · exact q.elim
  · exact hw.elim
/-! ### comprehensions of trees -/
def rLcT (own : List Nat) (ri : RI) (g : RG) (tt : RT) (te : RE) : RE := fun ρ k x => ri ρ (fun m xs ρ1 => ∃ Iv : Nat → List Addr → List D → PSt → Prop, Iv 0 [] [] (wipeP ρ1 own) ∧
  (∀ (i : Nat) x L acc ρ, xs[i]? = some x → Iv i L acc ρ → g (.fr m x) ρ fun ρ2 => tt ρ2 (fun b ρ3 => ifB b (te ρ3 (fun sv ρ4 => match sv with
    | .ot L2 d => acc.length < line ∧ Iv (i + 1) (L ++ L2) (acc ++ [d]) (wipeP ρ4 own)
    | _ => False) noX) (Iv (i + 1) L acc (wipeP ρ3 own))) noX) ∧
  ∀ L acc ρ, Iv xs.length L acc ρ → ∀ a, k (.ot (a :: L) (.lst acc)) ρ) x
theorem lcT_read {τ : List SV} {vs : List V} {ρ : PSt} {σ : L2.St} {H : Hp} {Φ : RK} {Ξ : RX} {ow : List Nat} {Y : Cx} (hj : ∀ j ∈ js, j ∈ ow) (S : SR X.K g ρ σ τ vs H) (hw : rLcT ow ri r tt te ρ Φ Ξ) (hY : Y.K = X.K) :
    tLc (tqi X g ri Ξ) (tqg Y g js r) (tqt Y g tt noX) (tqe Y g te noX) ow σ H fun v H' => ∃ L acc ρ', SR X.K g ρ' σ (.ot L (.lst acc) :: τ) (v :: vs) H' ∧ Φ (.ot L (.lst acc)) ρ' := by
  refine ⟨τ, vs, ρ, _, S, hw, fun J m xs ρ1 tx vx H1 S1 W hI D hD => ?_⟩
  obtain ⟨Iv, i0, turn, fin⟩ := hI
  have bo : BorOk σ τ vs := S.borOk
  have tl : τ.length = vs.length := S.tlen
  have mk : ∀ {ρ σ H sv v}, SR X.K g ρ σ (sv :: (tx ++ τ.map nob)) (v :: (vx ++ vs)) H → SR X.K g ρ σ (tx ++ (sv :: τ.map nob)) (vx ++ (v :: vs)) H := fun S => S.sink W.len
  have start : SR X.K g (wipeP ρ1 ow) (L2.wipe σ ow) (SV.ot [D] (.lst []) :: (tx ++ τ.map nob)) (V.ref D :: (vx ++ vs)) (upd H1 D (.lst [])) :=
    (SR.newList (m := true) (xs := []) (ws := []) (nob_app W.nb (S1.nobor.wipe ow)) hD rfl).retop ⟨_, rfl, ⟨D, [], [], rfl, rfl, upd_same, rfl, rfl⟩, List.nodup_cons.mpr ⟨List.not_mem_nil, .nil⟩⟩ (fun b hb => by rw [List.mem_singleton.mp hb]; rfl) rfl
  refine ⟨fun i n H => n = xs.length - i ∧ i ≤ xs.length ∧ ∃ L acc ρ, SR X.K g ρ (L2.wipe σ ow) (tx ++ (SV.ot (D :: L) (.lst acc) :: τ.map nob)) (vx ++ (V.ref D :: vs)) H ∧ Iv i L acc ρ, ⟨xs.length, by simp, Nat.zero_le _, [], [], _, mk start, i0⟩, ?_⟩
  rintro i n H ⟨rfl, hi, L, acc, ρ, S, iv⟩
  by_cases hlt : i < xs.length
  · refine .inr ⟨W.goes i ρ _ _ _ H S hlt, fun H' => i + 1 ≤ xs.length ∧ ∃ L acc ρ, SR X.K g ρ (L2.wipe σ ow) (tx ++ (SV.ot (D :: L) (.lst acc) :: τ.map nob)) (vx ++ (V.ref D :: vs)) H' ∧ Iv (i + 1) L acc ρ, fun H' h => ⟨xs.length - (i + 1), by omega, rfl, h⟩, fun v H' y => ?_⟩
    obtain ⟨d, hd, S'⟩ := W.yields i ρ _ _ _ H v H' S hlt y
    refine ⟨tx ++ (SV.ot (D :: L) (.lst acc) :: τ.map nob), vx ++ (V.ref D :: vs), ρ, .fr m d, _, ?_, rfl, by rw [hY]; exact S', turn i d L acc ρ hd iv, fun ρ2 σ2 H2 S2 z wr => ?_⟩
    · exact SR.nb_app W.nb fun sv h => (List.mem_cons.mp h).elim (fun z => by rw [z]; rfl) (nob_nb sv)
    · have we : L2.wipe σ2 ow = L2.wipe σ ow := by
        rw [wr ow hj, wipe_wipe]
      refine ⟨we, _, _, ρ2, _, S2, z, fun b ρ3 H3 S3 z => ?_⟩
      rw [hY] at S3
      cases b with
      | false =>
        have := S3.wipe ow
        rw [we] at this
        exact ⟨hlt, L, acc, _, this, z.f rfl⟩
      | true =>
        refine ⟨_, _, ρ3, _, by rw [hY]; exact S3, z.t rfl, fun sv ρ4 y4 H4 S4 z => ?_⟩
        rw [hY] at S4
        split at z
        · rename_i M2 d4
          have S5 := S4.wipe ow
          rw [we] at S5
          have S6 : SR X.K g (wipeP ρ4 ow) (L2.wipe σ ow) (SV.ot M2 d4 :: SV.ot (D :: L) (.lst acc) :: (tx ++ τ.map nob)) (y4 :: V.ref D :: (vx ++ vs)) H4 := by
            refine S5.perm (by have t := S5.tlen; simp at t ⊢; omega) ?_
            rw [List.map_cons, List.zip_cons_cons, List.map_cons, List.zip_cons_cons, List.map_cons, List.zip_cons_cons, List.map_append, List.zip_append (by simpa using W.len), List.map_append, List.zip_append (by simpa using W.len), List.map_cons, List.zip_cons_cons]
            exact List.perm_middle.cons _
          obtain ⟨w, ew, ⟨b, ws, L', eb, el, c, rp⟩, n⟩ := S6.pop.top
          cases ew; cases eb; cases el
          obtain ⟨w2, ew2, r2, n2⟩ := S6.top
          cases ew2
          refine ⟨ws, c, by rw [line_eq, ← repsT_len rp]; exact z.1, hlt, L ++ M2, acc ++ [d4], _, ?_, z.2⟩
          have dis : ∀ x ∈ M2, x ∉ D :: L := fun x hx hxL => Injs.fresh S6.inj (p := (SV.ot M2 d4, some y4)) (a := x) hx _ (List.mem_cons_self (a := (SV.ot (D :: L) (.lst acc), some (V.ref D)))) hxL
          refine (SR.absorbTop (o := .lst (ws ++ [y4])) (a := D) S6 List.mem_cons_self (grow_svr rfl c rp r2 n n2 dis) (fun b hb => ?_) rfl rfl).sink W.len
          rcases List.mem_cons.mp (show b ∈ D :: (L ++ M2) from hb) with z | z
          · exact .inl (show b ∈ D :: L from z ▸ List.mem_cons_self)
          · exact (List.mem_append.mp z).imp (fun z => List.mem_cons_of_mem _ z) id
        · exact z.elim
  · have e : i = xs.length := by omega
    subst e
    refine .inl ⟨W.stops ρ _ _ _ H S, D :: L, acc, ρ, ?_, fin L acc ρ iv D⟩
    have T := (S.lift W.len).sinkTop W.len
    have T2 : SR X.K g ρ σ ((SV.ot (D :: L) (.lst acc) :: τ).map nob) (V.ref D :: vs) H := T.unwipe (by
      intro p hp i e w hw
      have := nob_nb (τ := SV.ot (D :: L) (.lst acc) :: τ) p.1 (List.of_mem_zip hp).1
      rw [e] at this
      cases this)
    exact T2.rebor (by
      intro p hp i e w hw
      rw [List.map_cons, List.zip_cons_cons] at hp
      rcases List.mem_cons.mp hp with rfl | hp
      · cases e
      · exact bo p hp i e w hw) (by simp [tl])
theorem q_lcT (hc : X.calm = true) (hN : X.N.Nodup) (hi : QI X g tg iter ri) (ok : BlkOk X.N X.env.scope scope own) (hj : ∀ j ∈ js, j ∈ own.map (·.2))
    (hg : ∀ (s : Shared) (H : Hp) (C : Addr) (cl : List (Str × Addr)) (fp : List Addr), QG (X.blk s H scope (compEnvC scope cl C X.env) fp) g js tg r) (ht : ∀ (s : Shared) (H : Hp) (C : Addr) (cl : List (Str × Addr)) (fp : List Addr), QTs (X.blk s H scope (compEnvC scope cl C X.env) fp) g ifs tt)
    (he : ∀ (s : Shared) (H : Hp) (C : Addr) (cl : List (Str × Addr)) (fp : List Addr), QE (X.blk s H scope (compEnvC scope cl C X.env) fp) g elt te) (hs : ∀ x, foldedSetIterable iter X.env x = pure x := by intro _; rfl) : QE X g (.ListComp elt [⟨tg, iter, ifs, 0⟩] scope pos) (rLcT (own.map (·.2)) ri r tt te) := by
  refine QE.of (fun Ξ tk => pe_lc (wi := tqi X g ri Ξ) (g := tqg X g js r) (tt := tqt X g tt noX) (te := tqe X g te noX) hc hN (hi Ξ tk) ok (fun s H C cl fp => (hg s H C cl fp).pg) (fun s H C cl fp => (ht s H C cl fp).pts noX takes_noX) (fun s H C cl fp => (he s H C cl fp).pe takes_noX) hs) fun τ vs ρ Φ Ξ σ H S hw => ?_
  exact tLc_mono (fun v H' ⟨L, acc, ρ', S', q⟩ => ⟨_, ρ', S', q⟩) (lcT_read hj S hw rfl) fun R R' i h => tqi_mono R R' i h
theorem q_setLcT {i : Nat} {y : Str} {py spos : Pos} (hc : X.calm = true) (hN : X.N.Nodup) (hy : X.N[i]? = some y) (hyl : X.env.scope.names.lookup y = some .local)
    (hi : QI X g tg iter ri) (ok : BlkOk X.N X.env.scope scope own) (hj : ∀ j ∈ js, j ∈ own.map (·.2))
    (hg : ∀ (s : Shared) (H : Hp) (C : Addr) (cl : List (Str × Addr)) (fp : List Addr), QG (X.blk s H scope (compEnvC scope cl C X.env) fp) g js tg r) (ht : ∀ (s : Shared) (H : Hp) (C : Addr) (cl : List (Str × Addr)) (fp : List Addr), QTs (X.blk s H scope (compEnvC scope cl C X.env) fp) g ifs tt)
    (he : ∀ (s : Shared) (H : Hp) (C : Addr) (cl : List (Str × Addr)) (fp : List Addr), QE (X.blk s H scope (compEnvC scope cl C X.env) fp) g elt te)
    (hsw : swapsWith (.ListComp elt [⟨tg, iter, ifs, 0⟩] scope pos) (some (.Name y py)) spos.line X.env = pure true := by rfl) (hs : ∀ x, foldedSetIterable iter X.env x = pure x := by intro _; rfl) : QS X g (.Assign [.Name y py] (.ListComp elt [⟨tg, iter, ifs, 0⟩] scope pos) spos) (rSet i (rLcT (own.map (·.2)) ri r tt te)) := by
  refine QS.of (fun Ξ tk => ps_setLc (wi := tqi X g ri Ξ) (g := tqg X g js r) (tt := tqt X g tt noX) (te := tqe X g te noX) hc hN hy hyl hsw (hi Ξ tk) ok (fun s H C cl fp => (hg s H C cl fp).pg) (fun s H C cl fp => (ht s H C cl fp).pts noX takes_noX) (fun s H C cl fp => (he s H C cl fp).pe takes_noX) hs) fun τ vs ρ D σ H nb S hw => ?_
  refine tLc_mono (fun v H' hx => ?_) (lcT_read (Φ := kA fun sv ρ' => D.nx (ρ'.set i sv)) hj S hw rfl) fun R R' i h => tqi_mono R R' i h
  obtain ⟨L, acc, ρ', S', q⟩ := hx
  exact ⟨_, S'.assign rfl nb, q⟩
end
end Q

namespace Q
open PySem PySem.Spec PyProof.Rows L2
/-! ### a def of the law that spoils all lists of a tree -/
def wkD : Nat → D → Bool
  | 0, d => (match d with
    | .non | .bl _ | .int _ | .str _ => true
    | _ => false)
  | n + 1, d => (match d with
    | .non | .bl _ | .int _ | .str _ => true
    | .lst xs => decide (xs.length < line) && xs.all (wkD n)
    | .tup xs => xs.all (wkD n)
    | _ => false)
theorem wkD_up : ∀ {n : Nat} {d : D}, wkD n d = true → wkD (n + 1) d = true
  | 0, d, h => by cases d <;> first | rfl | cases h
  | n + 1, d, h => by
    cases d with
    | lst xs =>
      have h : (decide (xs.length < line) && xs.all (wkD n)) = true := h
      show (decide (xs.length < line) && xs.all (wkD (n + 1))) = true
      rw [Bool.and_eq_true] at h ⊢
      exact ⟨h.1, List.all_eq_true.mpr fun x hx => wkD_up (List.all_eq_true.mp h.2 x hx)⟩
    | tup xs =>
      have h : xs.all (wkD n) = true := h
      show xs.all (wkD (n + 1)) = true
      exact List.all_eq_true.mpr fun x hx => wkD_up (List.all_eq_true.mp h x hx)
    | _ => first | rfl | cases h
structure WrR (K : PySem.W.Frag) (T : TBs) (S : Addr → Prop) (M L : List Addr) (H H' : Hp) : Prop where
  keep : ∀ a o, H a = some o → a ∉ M → a ∉ L → (∀ ps, o ≠ .tbl ps) → H' a = some o
  live : ∀ a, H' a = none → H a = none
  tabs : LamX.Tabs T.tb H'
  sto : ∀ a ∈ M, StoreOk K S H' a
section
variable {K : PySem.W.Frag} {T : TBs} {S : Addr → Prop} {M L L1 L2 : List Addr} {H H1 H' : Hp}
theorem WrR.refl (ht : LamX.Tabs T.tb H) (hs : ∀ a ∈ M, StoreOk K S H a) : WrR K T S M L H H := ⟨fun _ _ h _ _ _ => h, fun _ h => h, ht, hs⟩
theorem WrR.trans (a : WrR K T S M L H H1) (b : WrR K T S M L H1 H') : WrR K T S M L H H' := ⟨fun c o h m l t => b.keep c o (a.keep c o h m l t) m l t, fun c h => a.live c (b.live c h), b.tabs, b.sto⟩
theorem WrR.mono (h : ∀ a ∈ L1, a ∈ L) (a : WrR K T S M L1 H H') : WrR K T S M L H H' := ⟨fun c o e m l t => a.keep c o e m (fun z => l (h c z)) t, a.live, a.tabs, a.sto⟩
theorem WrR.call (c : CallR' K T S M H H') : WrR K T S M L H H' := ⟨fun a o e m _ t => c.keep.keep a o e m t, c.keep.live, c.tabs, c.sto⟩
theorem WrR.new {p : Addr} {o : HO} (hp : H p = none) (ht : LamX.Tabs T.tb H) (hs : ∀ a ∈ M, StoreOk K S H a) : WrR K T S M L H (upd H p o) := by
  have kp : ∀ b u, H b = some u → upd H p o b = some u := fun b u e => by rw [upd_ne (ne_of_none e hp)]; exact e
  refine ⟨fun a u e _ _ _ => kp a u e, fun a e => ?_, ht.ext kp, fun a ha => (hs a ha).mono (stab_new hp) ?_⟩
  · by_cases h : a = p
    · subst h; exact hp
    · rw [upd_ne h] at e; exact e
  · obtain ⟨_, _, _, _, _, _, _, _, q, _⟩ := hs a ha
    exact (kp _ _ q).trans q.symm
theorem WrR.write {a : Addr} {u o : HO} (hu : H a = some u) (hl : ∃ ws, u = .lst ws) (ha : a ∈ L) (ht : LamX.Tabs T.tb H) (hs : ∀ a ∈ M, StoreOk K S H a) : WrR K T S M L H (upd H a o) := by
  obtain ⟨ws, rfl⟩ := hl
  refine ⟨fun b u e _ l _ => by rw [upd_ne (fun z => l (by rw [z]; exact ha))]; exact e, fun b e => ?_, tabs_upd ht hu trivial (fun _ z => nomatch z), fun b hb => (hs b hb).mono (stab_mut (by rw [hu]; trivial)) ?_⟩
  · by_cases h : b = a
    · subst h; rw [upd_same] at e; cases e
    · rw [upd_ne h] at e; exact e
  · obtain ⟨_, _, _, _, _, _, _, _, q, _⟩ := hs b hb
    rw [upd_ne]
    rintro rfl
    rw [hu] at q; cases q
theorem WrR.sqt (w : WrR K T S M L H H') (hM : ∀ a ∈ M, ∃ kw, H a = some (.dK kw)) (hL : ∀ a ∈ L, ∃ u, H a = some u ∧ Mut (some u)) : ∀ a xs, SqT K H a xs → SqT K H' a xs := fun a xs h => by
  have key : ∀ o, H a = some o → ¬ Mut (some o) → (∀ ps, o ≠ .tbl ps) → H' a = some o := fun o e nm nt => w.keep a o e (fun z => by
    obtain ⟨kw, e2⟩ := hM a z
    rw [e] at e2; cases e2
    exact nm trivial) (fun z => by
    obtain ⟨u, e2, mu⟩ := hL a z
    rw [e] at e2; cases e2
    exact nm mu) nt
  rcases h with (h | ⟨o, h⟩) | h
  · exact .inl (.inl (key _ h id fun _ z => nomatch z))
  · exact .inl (.inr ⟨o, key _ h id fun _ z => nomatch z⟩)
  · exact .inr h
/-- what is known of a tree's cell stays if it is not among those that are spoilt -/
theorem WrR.cell (w : WrR K T S M L H H') {a : Addr} (hu : ∃ u, H a = some u ∧ Mut (some u)) (h1 : a ∉ M) (h2 : a ∉ L) : H' a = H a := by
  obtain ⟨u, e, mu⟩ := hu
  rw [e]
  exact w.keep a u e h1 h2 fun ps z => by rw [z] at mu; exact mu
end
/-- the children's loop -/
def WPre (K : PySem.W.Frag) (T : TBs) (S : Addr → Prop) (M : List Addr) (n : Nat) (d : D) (v : V) (L : List Addr) (H : Hp) : Prop :=
  RepT K H d v L ∧ L.Nodup ∧ wkD n d = true ∧ LamX.Tabs T.tb H ∧ (∀ a ∈ M, StoreOk K S H a ∧ a ∉ L)
def spW1 (K : PySem.W.Frag) (T : TBs) : Nat → Sp
  | 0 => fun _ _ _ _ => False
  | n + 1 => fun vs H Q _ => ∃ S d v L, vs = [v] ∧ WPre K T S [] n d v L H ∧ ∀ H', WrR K T S [] L H H' → Q .non H'
def spW2 (K : PySem.W.Frag) (T : TBs) : Nat → Sp
  | 0 => fun _ _ _ _ => False
  | n + 1 => fun vs H Q _ => ∃ S b d v L, vs = [.ref b, v] ∧ WPre K T S [b] n d v L H ∧ (∀ a, H a = none → S a) ∧ ∀ H', WrR K T S [b] L H H' → Q .non H'
def iAny (K : PySem.W.Frag) (tl : TE) : TI := fun σ H R => iList K tl σ H R ∨ iTup K tl σ H R
theorem pi_any {X : Cx} {tg l : Expr} {tl : TE} (hl : PE X l tl) : PI X tg l (iAny X.K tl) := ⟨fun pins s σ H R I h => h.elim (fun h => (pi_list hl).run pins s σ H R I h) fun h => (pi_tup hl).run pins s σ H R I h⟩
section
variable {K : PySem.W.Frag} {T : TBs} {S : Addr → Prop} {M : List Addr} {H H' : Hp}
theorem sto_dk {a : Addr} (h : StoreOk K S H a) : ∃ kw, H a = some (.dK kw) := by
  obtain ⟨_, _, _, _, _, _, _, _, q, _⟩ := h
  exact ⟨_, q⟩
theorem repT_ty {d : D} {v : V} {L : List Addr} {n : Nat} (r : RepT K H d v L) (h : wkD n d = true) : ∃ t, d.tyn = some t ∧ TyX K H v (.type t) := by
  have hp : d.plain = true := by cases n <;> (cases d <;> first | rfl | cases h)
  cases d with
  | non => cases r.1; exact ⟨_, rfl, .base .non⟩
  | bl b => cases r.1; exact ⟨_, rfl, .base (.bl b)⟩
  | int b => cases r.1; exact ⟨_, rfl, .base (.int b)⟩
  | str b => cases r.1; exact ⟨_, rfl, .base (.str b)⟩
  | lst xs =>
    obtain ⟨a, vs, L', rfl, _, c, _⟩ := r
    exact ⟨_, rfl, .base (.lst c)⟩
  | tup xs =>
    obtain ⟨a, vs, rfl, c, _⟩ := r
    rcases c with (c | ⟨o, c⟩) | ⟨o, its, n, c1, c2, _⟩
    · exact ⟨_, rfl, .base (.tup c)⟩
    · exact ⟨_, rfl, .fTuple c⟩
    · exact ⟨_, rfl, .kTuple c1 c2⟩
  | dk xs => obtain ⟨a, vs, L', rfl, _, c, _⟩ := r; exact ⟨_, rfl, .base (.dK c)⟩
  | dt _ => cases hp
  | scr _ => cases hp
  | obj _ _ => cases hp
  | ref _ => cases hp
  | ty _ => cases hp
theorem ty_stay {v : V} {t : String} {p : Addr} {o : HO} (hp : H p = none) {d : D} {L : List Addr} {n : Nat} (r : RepT K H d v L) (h : wkD n d = true) (e : d.tyn = some t) : TyX K (upd H p o) v (.type t) := by
  have r2 : RepT K (upd H p o) d v L := RepT.mono (fun a xs h => sqT_mono (stab_new hp) h) d v L (fun a ha => by
    obtain ⟨u, e1, _⟩ := RepT.own d v L r ha
    exact upd_ne (ne_of_none e1 hp)) r
  obtain ⟨t', e', ty⟩ := repT_ty r2 h
  rw [e] at e'; cases e'
  exact ty
/-- the state of the children's loop -/
theorem repsT_at : ∀ {xs : List D} {vs : List V} {L : List Addr} {i : Nat} {v : V}, RepsT K H xs vs L → vs[i]? = some v → ∃ d L1 La Lb, L = L1 ++ (La ++ Lb) ∧ xs[i]? = some d ∧ RepT K H d v La
  | [], _, _, i, _, ⟨e, _⟩, h => by subst e; simp at h
  | x :: r, _, _, 0, _, ⟨v, vs', L1, L2, e1, e2, a, b⟩, h => by subst e1 e2; simp at h; subst h; exact ⟨x, [], L1, L2, rfl, rfl, a⟩
  | x :: r, _, _, i + 1, w, ⟨v, vs', L1, L2, e1, e2, a, b⟩, h => by
    subst e1 e2
    obtain ⟨d, M1, La, Lb, e, hd, q⟩ := repsT_at b (by simpa using h)
    exact ⟨d, L1 ++ M1, La, Lb, by rw [e, List.append_assoc], by simpa using hd, q⟩
def Kids (K : PySem.W.Frag) (T : TBs) (S : Addr → Prop) (M L' : List Addr) (xs : List D) (vs : List V) (H0 : Hp) (i : Nat) (H : Hp) : Prop :=
  WrR K T S M L' H0 H ∧ ∃ L1 Lr, L' = L1 ++ Lr ∧ RepsT K H (xs.drop i) (vs.drop i) Lr
theorem kids_step {L' : List Addr} {xs : List D} {vs : List V} {H0 : Hp} {i n : Nat} {v : V} (nd : L'.Nodup) (hw : ∀ x ∈ xs, wkD n x = true) (hM : ∀ a ∈ M, a ∉ L') (h : Kids K T S M L' xs vs H0 i H) (hv : vs[i]? = some v) :
    ∃ d La, WPre K T S M n d v La H ∧ (∀ a ∈ La, a ∈ L') ∧ ∀ H', WrR K T S M La H H' → Kids K T S M L' xs vs H0 (i + 1) H' := by
  obtain ⟨w, L1, Lr, e, r⟩ := h
  have hi : i < vs.length := (List.getElem?_eq_some_iff.mp hv).1
  have ev : vs.drop i = v :: vs.drop (i + 1) := by rw [List.drop_eq_getElem_cons hi]; rw [(List.getElem?_eq_some_iff.mp hv).2]
  cases ex : xs.drop i with
  | nil =>
    rw [ex, ev] at r
    cases r.1
  | cons x rest =>
    have hx : i < xs.length := by
      have := congrArg List.length ex
      rw [List.length_drop, List.length_cons] at this
      omega
    have ex2 : xs.drop i = xs[i] :: xs.drop (i + 1) := List.drop_eq_getElem_cons hx
    rw [ex] at ex2
    obtain ⟨e1, e2⟩ := List.cons.inj ex2
    rw [ex, ev] at r
    obtain ⟨v', vs', La, Lb, q1, q2, ra, rb⟩ := r
    cases q1
    subst q2
    have nd2 : (La ++ Lb).Nodup := by rw [e] at nd; exact (List.nodup_append.mp nd).2.1
    obtain ⟨n1, n2, n3⟩ := List.nodup_append.mp nd2
    have sub : ∀ a ∈ La, a ∈ L' := fun a ha => by rw [e]; exact List.mem_append_right _ (List.mem_append_left _ ha)
    refine ⟨x, La, ⟨ra, n1, hw x (by rw [e1]; exact List.getElem_mem hx), w.tabs, fun a ha => ⟨w.sto a ha, fun z => hM a ha (sub a z)⟩⟩, sub, fun H' w2 => ⟨w.trans (w2.mono sub), L1 ++ La, Lb, by rw [e, List.append_assoc], ?_⟩⟩
    rw [e2] at rb
    refine RepsT.mono (w2.sqt (fun a ha => sto_dk (w.sto a ha)) fun a ha => let ⟨u, e, mu, _⟩ := RepT.own _ _ _ ra ha; ⟨u, e, mu⟩) _ _ _ (fun a ha => ?_) rb
    obtain ⟨u, eu, mu, _⟩ := RepsT.own _ _ _ rb ha
    refine w2.cell ⟨u, eu, mu⟩ (fun z => hM a z (by rw [e]; exact List.mem_append_right _ (List.mem_append_right _ ha))) fun z => n3 a z a ha rfl
end
/-! #### cleared -/
abbrev tIsLT (K : PySem.W.Frag) (i : Nat) : TT := tB (tCB (rIsiT K) (tCons (tVar i) (tCons (tTup (tCs [.ty "list", .ty "tuple"])) tNil)))
abbrev tIsL (K : PySem.W.Frag) (i : Nat) : TT := tB (tCB (rIsi K) (tCons (tVar i) (tCons (tC (.ty "list")) tNil)))
abbrev tApS (K : PySem.W.Frag) (i : Nat) : TS := tDrop (tBM K "list" rAppend (tVar i) (tCons (tC (.str "spoilt")) tNil))
abbrev tSet0 (i : Nat) : TS := tAsg (tC (.str "spoilt")) (gSub (tVar i) (tC (.int 0)) rSetL)
def tClr (K : PySem.W.Frag) (sp : Sp) : TS := tSeq (tIfS (tIsLT K 0) (tFor (iAny K (tVar 0)) (gName 1) (tDrop (tCall sp [] E0 (tCons (tVar 1) tNil)))) tNext) (tIfS (tIsL K 0) (tSeq (tApS K 0) (tSet0 0)) tNext)
section
variable {K : PySem.W.Frag} {T : TBs} {S : Addr → Prop} {M : List Addr} {H H' : Hp}
theorem isLT_ok {i n : Nat} {d : D} {v : V} {L : List Addr} {σ : L2.St} {Q : Bool → Hp → Prop} (hs : σ[i]? = some (some v)) (r : RepT K H d v L) (hw : wkD n d = true) (k : ∀ p o, H p = none → Q (d.isa .list || d.isa .tuple) (upd H p o)) : tIsLT K i σ H Q := by
  obtain ⟨t, ht, ty⟩ := repT_ty r hw
  refine ⟨v, hs, by rw [line_eq]; decide, fun p hp => ⟨v, p, _, _, _, _, rfl, upd_same, .cons (.ty "list") (.cons (.ty "tuple") .nil), ty_stay hp r hw ht, isas_kit ht [.list, .tuple], _, rfl, ?_⟩⟩
  have e : ([Ty.list, Ty.tuple].any d.isa) = (d.isa .list || d.isa .tuple) := by simp
  rw [e]
  exact k p _ hp
theorem isL_ok {i : Nat} {d : D} {v : V} {σ : L2.St} {Q : Bool → Hp → Prop} (hs : σ[i]? = some (some v)) (hty : ∃ t, d.tyn = some t ∧ TyX K H v (.type t)) (k : Q (d.isa .list) H) : tIsL K i σ H Q := by
  obtain ⟨t, ht, ty⟩ := hty
  exact ⟨v, hs, v, .ty "list", _, _, _, rfl, .ty _, ty, kit_ty (isa_kit .list ht), _, rfl, k⟩
/-- a list's cell is changed -/
theorem spoil_ap {i : Nat} {a : Addr} {ws : List V} {D : Ends} {σ : L2.St} (hs : σ[i]? = some (some (.ref a))) (h : H a = some (.lst ws)) (hl : ws.length < sizeLine) (k : D.nx σ (upd H a (.lst (ws ++ [.str "spoilt"])))) : tApS K i D σ H :=
  ⟨.ref a, hs, .inl ⟨rfl, ws, .inl (.inl h)⟩, a, ws, _, rfl, rfl, h, hl, k⟩
theorem spoil_0 {i : Nat} {a : Addr} {ws : List V} {D : Ends} {σ : L2.St} (hs : σ[i]? = some (some (.ref a))) (h : H a = some (.lst ws)) (hl : 0 < ws.length) (k : ∀ ws', D.nx σ (upd H a (.lst ws'))) : tSet0 i D σ H :=
  ⟨.ref a, hs, a, ws, 0, 0, rfl, rfl, h, by unfold ixN; simp [hl]; try omega, k _⟩
/-- the walk over the children -/
theorem kids_loop {iv j n : Nat} {d : Q.D} {v : V} {L : List Addr} {σ0 : L2.St} {tb : TS} {D : Ends} (hv : σ0[iv]? = some (some v)) (hij : iv ≠ j) (hj : j < σ0.length) (pre : WPre K T S M (n + 1) d v L H) (hd : (d.isa .list || d.isa .tuple) = true)
    (step : ∀ (x : V) (σ : L2.St) (H1 : Hp) (D' : Ends) (e : Q.D) (La : List Addr), WrR K T S M L H H1 → (∀ k, k ≠ j → σ[k]? = σ0[k]?) → σ.length = σ0.length → σ[j]? = some (some x) → WPre K T S M n e x La H1 → (∀ H', WrR K T S M La H1 H' → D'.nx σ H') → tb D' σ H1)
    (fin : ∀ (σ : L2.St) (H' : Hp), (∀ k, k ≠ j → σ[k]? = σ0[k]?) → σ.length = σ0.length → WrR K T S M L H H' → (∀ xs, d = .lst xs → ∃ a ws, v = .ref a ∧ a ∈ L ∧ H' a = some (.lst ws) ∧ ws.length = xs.length) → D.nx σ H') :
    tFor (iAny K (tVar iv)) (gName j) tb D σ0 H := by
  obtain ⟨r, nd, hw, ht, hM⟩ := pre
  have base : WrR K T S M L H H := .refl ht fun a ha => (hM a ha).1
  cases d with
  | lst xs =>
    obtain ⟨a, vs, L', rfl, rfl, c, rs⟩ := r
    obtain ⟨n0, n1⟩ := List.nodup_cons.mp nd
    have hw2 : ∀ x ∈ xs, wkD n x = true := fun x hx => List.all_eq_true.mp (Bool.and_eq_true_iff.mp (show (decide (xs.length < line) && xs.all (wkD n)) = true from hw)).2 x hx
    have hM' : ∀ b ∈ M, b ∉ L' := fun b hb z => (hM b hb).2 (List.mem_cons_of_mem _ z)
    have stay : ∀ {H1}, WrR K T S M L' H H1 → H1 a = some (.lst vs) := fun w => (w.cell ⟨_, c, trivial⟩ (fun z => (hM a z).2 List.mem_cons_self) n0).trans c
    refine .inl ⟨_, hv, a, rfl, ⟨vs, .inl (.inl c)⟩, for_list (xs := vs) (fun i σ H1 => (∀ k, k ≠ j → σ[k]? = σ0[k]?) ∧ σ.length = σ0.length ∧ Kids K T S M L' xs vs H i H1) ⟨fun _ _ => rfl, rfl, .refl ht fun a ha => (hM a ha).1, [], L', rfl, rs⟩ (fun i σ H1 _ p => .inl (.inl (stay p.2.2.1))) (fun i x σ H1 hx p => ?_) fun σ H1 p => ?_⟩
    · obtain ⟨p1, p2, p3⟩ := p
      obtain ⟨e, La, pre', sub, k⟩ := kids_step n1 hw2 hM' p3 hx
      refine step x (σ.set j (some x)) H1 _ e La (p3.1.mono fun b hb => List.mem_cons_of_mem _ hb) (fun k hk => by rw [List.getElem?_set_ne (Ne.symm hk)]; exact p1 k hk) (by rw [List.length_set]; exact p2) (by rw [List.getElem?_set]; simp [p2, hj]) pre' fun H' w => ⟨fun k hk => by rw [List.getElem?_set_ne (Ne.symm hk)]; exact p1 k hk, by rw [List.length_set]; exact p2, k H' w⟩
    · refine fin σ H1 p.1 p.2.1 (p.2.2.1.mono fun b hb => List.mem_cons_of_mem _ hb) fun ys e => ⟨a, vs, rfl, List.mem_cons_self, stay p.2.2.1, ?_⟩
      cases e
      exact (repsT_len rs).symm
  | tup xs =>
    obtain ⟨a, vs, rfl, c, rs⟩ := r
    have hw2 : ∀ x ∈ xs, wkD n x = true := fun x hx => List.all_eq_true.mp (show xs.all (wkD n) = true from hw) x hx
    have hM' : ∀ b ∈ M, b ∉ L := fun b hb z => (hM b hb).2 z
    have stay : ∀ {H1}, WrR K T S M L H H1 → SqT K H1 a vs := fun w => w.sqt (fun b hb => sto_dk (hM b hb).1) (fun b hb => let ⟨u, e, mu, _⟩ := RepsT.own _ _ _ rs hb; ⟨u, e, mu⟩) a vs c
    refine .inr ⟨_, hv, a, rfl, ⟨vs, c⟩, for_tup (xs := vs) (fun i σ H1 => (∀ k, k ≠ j → σ[k]? = σ0[k]?) ∧ σ.length = σ0.length ∧ Kids K T S M L xs vs H i H1) ⟨fun _ _ => rfl, rfl, base, [], L, rfl, rs⟩ (fun i σ H1 _ p => stay p.2.2.1) (fun i x σ H1 hx p => ?_) fun σ H1 p => ?_⟩
    · obtain ⟨p1, p2, p3⟩ := p
      obtain ⟨e, La, pre', sub, k⟩ := kids_step nd hw2 hM' p3 hx
      refine step x (σ.set j (some x)) H1 _ e La p3.1 (fun k hk => by rw [List.getElem?_set_ne (Ne.symm hk)]; exact p1 k hk) (by rw [List.length_set]; exact p2) (by rw [List.getElem?_set]; simp [p2, hj]) pre' fun H' w => ⟨fun k hk => by rw [List.getElem?_set_ne (Ne.symm hk)]; exact p1 k hk, by rw [List.length_set]; exact p2, k H' w⟩
    · exact fin σ H1 p.1 p.2.1 p.2.2.1 fun ys e => by cases e
  | _ => cases hd
theorem ty_list {a : Addr} {ws : List V} (h : H a = some (.lst ws)) : ∃ t, (D.lst []).tyn = some t ∧ TyX K H (.ref a) (.type t) := ⟨_, rfl, .base (.lst h)⟩
theorem wpre_new {p : Addr} {o : HO} {n : Nat} {d : D} {v : V} {L : List Addr} (hp : H p = none) (h : WPre K T S M n d v L H) : WPre K T S M n d v L (upd H p o) ∧ WrR K T S M L H (upd H p o) := by
  obtain ⟨r, nd, hw, ht, hM⟩ := h
  have w : WrR K T S M L H (upd H p o) := .new hp ht fun a ha => (hM a ha).1
  refine ⟨⟨RepT.mono (fun a xs h => sqT_mono (stab_new hp) h) d v L (fun a ha => ?_) r, nd, hw, w.tabs, fun a ha => ⟨w.sto a ha, (hM a ha).2⟩⟩, w⟩
  obtain ⟨u, e, _⟩ := RepT.own d v L r ha
  exact upd_ne (ne_of_none e hp)
/-- the type stays, whatever became of the cells -/
theorem ty_after {n : Nat} {d : D} {v : V} {L : List Addr} {H' : Hp} (h : WPre K T S M n d v L H) (w : WrR K T S M L H H') (hl : ∀ xs, d = .lst xs → ∃ a ws, v = .ref a ∧ a ∈ L ∧ H' a = some (.lst ws) ∧ ws.length = xs.length) : ∃ t, d.tyn = some t ∧ TyX K H' v (.type t) := by
  obtain ⟨r, nd, hw, ht, hM⟩ := h
  cases d with
  | lst xs => obtain ⟨a, ws, rfl, _, e, _⟩ := hl xs rfl; exact ⟨_, rfl, .base (.lst e)⟩
  | tup xs =>
    obtain ⟨a, vs, rfl, c, rs⟩ := r
    have c' := w.sqt (fun b hb => sto_dk (hM b hb).1) (fun b hb => let ⟨u, e, mu, _⟩ := RepsT.own _ _ _ rs hb; ⟨u, e, mu⟩) a vs c
    rcases c' with (c | ⟨o, c⟩) | ⟨o, its, n, c1, c2, _⟩
    · exact ⟨_, rfl, .base (.tup c)⟩
    · exact ⟨_, rfl, .fTuple c⟩
    · exact ⟨_, rfl, .kTuple c1 c2⟩
  | non => cases r.1; exact ⟨_, rfl, .base .non⟩
  | bl b => cases r.1; exact ⟨_, rfl, .base (.bl b)⟩
  | int b => cases r.1; exact ⟨_, rfl, .base (.int b)⟩
  | str b => cases r.1; exact ⟨_, rfl, .base (.str b)⟩
  | _ => cases n <;> cases hw
theorem isa_lst {d : D} (h : d.isa .list = true) : ∃ xs, d = .lst xs := by
  cases d <;> first | exact ⟨_, rfl⟩ | cases h
theorem wk_kids {n : Nat} {d : D} (h : wkD n d = true) (hd : (d.isa .list || d.isa .tuple) = true) : ∃ m, n = m + 1 := by
  cases n with
  | succ m => exact ⟨m, rfl⟩
  | zero => cases d <;> first | (cases h; done) | (cases hd; done)
/-- the loop, if there are children -/
theorem kids_if {iv j n : Nat} {d : Q.D} {v : V} {L : List Addr} {σ0 : L2.St} {tb : TS} {D : Ends} (hv : σ0[iv]? = some (some v)) (hij : iv ≠ j) (hj : j < σ0.length) (pre : WPre K T S M n d v L H)
    (step : ∀ (m : Nat) (x : V) (σ : L2.St) (H1 : Hp) (D' : Ends) (e : Q.D) (La : List Addr), n = m + 1 → WrR K T S M L H H1 → (∀ k, k ≠ j → σ[k]? = σ0[k]?) → σ.length = σ0.length → σ[j]? = some (some x) → WPre K T S M m e x La H1 → (∀ H', WrR K T S M La H1 H' → D'.nx σ H') → tb D' σ H1)
    (fin : ∀ (σ : L2.St) (H' : Hp), (∀ k, k ≠ j → σ[k]? = σ0[k]?) → σ.length = σ0.length → WrR K T S M L H H' → (∀ xs, d = .lst xs → ∃ a ws, v = .ref a ∧ a ∈ L ∧ H' a = some (.lst ws) ∧ ws.length = xs.length) → D.nx σ H') :
    tIfS (tIsLT K iv) (tFor (iAny K (tVar iv)) (gName j) tb) tNext D σ0 H := by
  refine isLT_ok hv pre.1 pre.2.2.1 fun p o hp => ?_
  obtain ⟨pre2, w⟩ := wpre_new (o := o) hp pre
  cases hd : (d.isa .list || d.isa .tuple) with
  | true =>
    obtain ⟨m, rfl⟩ := wk_kids pre.2.2.1 hd
    rw [if_pos rfl]
    exact kids_loop hv hij hj pre2 hd (fun x σ H1 D' e La h0 h1 h2 h3 h4 h5 => step m x σ H1 D' e La rfl (w.trans h0) h1 h2 h3 h4 h5) fun σ H' h1 h2 h3 h4 => fin σ H' h1 h2 (w.trans h3) h4
  | false =>
    rw [if_neg (by decide)]
    exact fin σ0 _ (fun _ _ => rfl) rfl w fun xs e => by subst e; cases hd
theorem wk_len {n : Nat} {xs : List D} (h : wkD n (.lst xs) = true) : xs.length < line := by
  cases n with
  | zero => cases h
  | succ n => exact of_decide_eq_true (Bool.and_eq_true_iff.mp (show (decide (xs.length < line) && xs.all (wkD n)) = true from h)).1
theorem clr_read {n : Nat} {vs : List V} {Q : VK} {E : XK} (h : spW1 K T (n + 1) vs H Q E) : ∃ v, vs = [v] ∧ tClr K (spW1 K T n) { nx := fun _ H' => Q .non H', rt := Q } [some v, none] H := by
  obtain ⟨S, d, v, L, rfl, pre, k⟩ := h
  refine ⟨v, rfl, ?_⟩
  refine kids_if (S := S) (M := []) (j := 1) rfl (by decide) (Nat.lt_succ_self 1) pre (fun m x σ H1 D' e La hn h0 h1 h2 h3 h4 h5 => ?_) fun σ H' h1 h2 w hl => ?_
  · subst hn
    exact ⟨x, h3, S, e, x, La, rfl, h4, fun H' w => h5 H' w⟩
  · have hs : σ[0]? = some (some v) := by rw [h1 0 (by decide)]; rfl
    refine isL_ok hs (ty_after pre w hl) ?_
    cases hd : d.isa .list with
    | false =>
      rw [if_neg (by decide)]
      exact k H' w
    | true =>
      rw [if_pos rfl]
      obtain ⟨xs, rfl⟩ := isa_lst hd
      obtain ⟨a, ws, rfl, ha, e, el⟩ := hl xs rfl
      have w2 : WrR K T S [] L H (upd H' a (.lst (ws ++ [.str "spoilt"]))) := w.trans (.write e ⟨_, rfl⟩ ha w.tabs w.sto)
      refine spoil_ap hs e (by rw [line_eq, el]; exact wk_len pre.2.2.1) ?_
      refine spoil_0 hs upd_same (by simp) fun ws' => ?_
      exact k _ (w2.trans (.write upd_same ⟨_, rfl⟩ ha w2.tabs w2.sto))
/-! #### spoil: the store is drawn from -/
def tSpl (K : PySem.W.Frag) (T : TBs) (qt : QSpec) (sp : Sp) : TS := tSeq (tIfS (tIsLT K 1) (tFor (iAny K (tVar 1)) (gName 2) (tDrop (tCall sp [] E0 (tCons (tVar 0) (tCons (tVar 2) tNil))))) tNext)
  (tIfS (tIsL K 1) (tSeq (tAsg (tCall (spQ K T [.t, .s] qt) [] E0 (tCons (tVar 0) (tCons (tC (.int 3)) tNil))) (gName 3))
    (tIfS (tOr (tTest (tOp rEq (tVar 3) (tC (.int 0)))) (tTest (tOp (rI0 fun i j => .bl (decide (i < j))) (tCB (fun xs H Q => ∃ x n, xs = [x] ∧ LenV K x H n ∧ Q (.int n) H) (tCons (tVar 1) tNil)) (tC (.int 1)))))
      (tApS K 1) (tIfS (tTest (tOp rEq (tVar 3) (tC (.int 1)))) (tSet0 1) (tDrop (tBM0 K "list" rClear (tVar 1)))))) tNext)
theorem spl_read {qt : QSpec} (hqt : ∀ a (R : SV → Prop) (F : Exn → Prop), (∀ r : Int, R (.fr true (.int r))) → qt [.ref a, .int 3] R F) {n : Nat} {vs : List V} {Q : VK} {E : XK} (h : spW2 K T (n + 1) vs H Q E) :
    ∃ b v, vs = [.ref b, v] ∧ tSpl K T qt (spW2 K T n) { nx := fun _ H' => Q .non H', rt := Q } [some (.ref b), some v, none, none] H := by
  obtain ⟨S, b, d, v, L, rfl, pre, hS, k⟩ := h
  refine ⟨b, v, rfl, ?_⟩
  have hS' : ∀ {H'}, WrR K T S [b] L H H' → ∀ a, H' a = none → S a := fun w a ha => hS a (w.live a ha)
  refine kids_if (S := S) (M := [b]) (j := 2) rfl (by decide) (show 2 < 4 by decide) pre (fun m x σ H1 D' e La hn h0 h1 h2 h3 h4 h5 => ?_) fun σ H' h1 h2 w hl => ?_
  · subst hn
    exact ⟨.ref b, (h1 0 (by decide)).trans rfl, x, h3, S, b, e, x, La, rfl, h4, hS' h0, fun H' w => h5 H' w⟩
  · have hs : σ[1]? = some (some v) := by rw [h1 1 (by decide)]; rfl
    have hs0 : σ[0]? = some (some (.ref b)) := by rw [h1 0 (by decide)]; rfl
    have hl3 : 3 < σ.length := by rw [h2]; show 3 < 4; decide
    refine isL_ok hs (ty_after pre w hl) ?_
    cases hd : d.isa .list with
    | false =>
      rw [if_neg (by decide)]
      exact k H' w
    | true =>
      rw [if_pos rfl]
      obtain ⟨xs, rfl⟩ := isa_lst hd
      obtain ⟨a, ws, rfl, ha, e, el⟩ := hl xs rfl
      have sb := w.sto b List.mem_cons_self
      have hab : a ≠ b := fun z => by
        obtain ⟨kw, q⟩ := sto_dk sb
        rw [← z, e] at q; cases q
      refine ⟨.ref b, hs0, fun _ => True, S, [.ref b, .int 3], (fun sv => ∃ r : Int, sv = .fr true (.int r)), fun _ => False, fun _ _ => trivial, hS' w, (fun z => by cases z), w.tabs, ⟨⟨b, rfl, rfl, sb⟩, rfl, trivial⟩, List.nodup_cons.mpr ⟨List.not_mem_nil, .nil⟩, hqt b _ _ fun r => ⟨r, rfl⟩, fun sv v2 H2 σ2 c hv nb ho hR => ?_, fun x c dd H2 _ _ hf => hf.elim⟩
      obtain ⟨r, rfl⟩ := hR
      obtain ⟨u, eu, ru⟩ := hv
      cases eu
      cases (show v2 = V.int r from ru)
      have w2 : WrR K T S [b] L H H2 := w.trans (.call c)
      have e2 : H2 a = some (.lst ws) := c.keep.keep a _ e (fun z => hab (List.mem_singleton.mp z)) fun _ z => nomatch z
      have g1 : (σ.set 3 (some (V.int r)))[1]? = some (some (.ref a)) := by rw [List.getElem?_set_ne (by decide)]; exact hs
      have g3 : (σ.set 3 (some (V.int r)))[3]? = some (some (V.int r)) := by rw [List.getElem?_set]; simp [hl3]
      have ap : ∀ D : Ends, (∀ H', WrR K T S [b] L H H' → D.nx (σ.set 3 (some (V.int r))) H') → tApS K 1 D (σ.set 3 (some (V.int r))) H2 := fun D kk =>
        spoil_ap g1 e2 (by rw [line_eq, el]; exact wk_len pre.2.2.1) (kk _ (w2.trans (.write e2 ⟨_, rfl⟩ ha w2.tabs w2.sto)))
      refine ⟨_, g3, rfl, _, rfl, ?_⟩
      by_cases h0 : V.int r = V.int 0
      · rw [decide_eq_true h0]
        dsimp only
        rw [if_pos rfl, if_pos rfl]
        exact ap _ fun H' w' => k H' w'
      · rw [decide_eq_false h0]
        dsimp only
        rw [if_neg (by decide)]
        refine ⟨_, g1, _, ws.length, rfl, .inl ⟨ws, .inl (.inl e2), rfl⟩, _, 1, rfl, rfl, _, rfl, ?_⟩
        by_cases hlen : (ws.length : Int) < 1
        · rw [decide_eq_true hlen]
          dsimp only
          rw [if_pos rfl]
          exact ap _ fun H' w' => k H' w'
        · rw [decide_eq_false hlen]
          dsimp only
          rw [if_neg (by decide)]
          refine ⟨_, g3, rfl, _, rfl, ?_⟩
          by_cases h1 : V.int r = V.int 1
          · rw [decide_eq_true h1]
            dsimp only
            rw [if_pos rfl]
            exact spoil_0 g1 e2 (by omega) fun ws' => k _ (w2.trans (.write e2 ⟨_, rfl⟩ ha w2.tabs w2.sto))
          · rw [decide_eq_false h1]
            dsimp only
            rw [if_neg (by decide)]
            exact ⟨_, g1, .inl ⟨rfl, _, .inl (.inl e2)⟩, a, ws, rfl, rfl, e2, k _ (w2.trans (.write e2 ⟨_, rfl⟩ ha w2.tabs w2.sto))⟩
end
section
variable {P : Program} {w : World} {K : PySem.W.Frag} {mg : Str → Option Value} {base : Heap} {T : TBs}
theorem fnW1 {x qual v p : Str} {st : Stmt} {f : Addr} {fd : FuncData} {k n : Nat} (F : Fun K x qual st f fd) (S : FnScope [v, p] [v] (defScope st))
    (hbody : ∀ (cdv : Value) (A : Around) (outer : List Env) (s : Shared) (H : Hp) (E : XK), Room k (A.deeper (envOfC qual (defScope st) s.heap.objs.size f cdv)) → PSs (cxOf (L2.CX P w) P w K mg base [v, p] qual (defScope st) f cdv A outer s H E) (defBody st) (tClr K (spW1 K T n))) :
    FnOk P w K mg base (L2.CX P w) (k + 1) f fd [v] (spW1 K T (n + 1)) := by
  refine F.okX S (fun vs H Q E h => ?_) (fun cdv A outer s H vs Q E hr h => ?_)
  · obtain ⟨v, rfl, _⟩ := clr_read h
    rfl
  · obtain ⟨v, rfl, q⟩ := clr_read h
    exact ⟨_, hbody cdv A outer s H E hr, q⟩
theorem fnW2 {x qual b v p c : Str} {st : Stmt} {f : Addr} {fd : FuncData} {k n : Nat} {qt : QSpec} (hqt : ∀ a (R : SV → Prop) (F : Exn → Prop), (∀ r : Int, R (.fr true (.int r))) → qt [.ref a, .int 3] R F) (F : Fun K x qual st f fd) (S : FnScope [b, v, p, c] [b, v] (defScope st))
    (hbody : ∀ (cdv : Value) (A : Around) (outer : List Env) (s : Shared) (H : Hp) (E : XK), Room k (A.deeper (envOfC qual (defScope st) s.heap.objs.size f cdv)) → PSs (cxOf (L2.CX P w) P w K mg base [b, v, p, c] qual (defScope st) f cdv A outer s H E) (defBody st) (tSpl K T qt (spW2 K T n))) :
    FnOk P w K mg base (L2.CX P w) (k + 1) f fd [b, v] (spW2 K T (n + 1)) := by
  refine F.okX S (fun vs H Q E h => ?_) (fun cdv A outer s H vs Q E hr h => ?_)
  · obtain ⟨_, v, rfl, _⟩ := spl_read hqt h
    rfl
  · obtain ⟨_, v, rfl, q⟩ := spl_read hqt h
    exact ⟨_, hbody cdv A outer s H E hr, q⟩
end
/-! #### where it is called -/
section
variable {X : Cx} {K : PySem.W.Frag} {g : Gh} {ρ : PSt} {σ : L2.St} {τ : List SV} {vs : List V} {H H' : Hp}
theorem SR.calledW {M L : List Addr} (S : SR K g ρ σ τ vs H) (hM : ∀ a ∈ M, ∃ i : Nat, ρ[i]? = some (SV.sto a)) (hL : ∀ a ∈ L, g.B a = none ∧ (∀ q ∈ ents ρ σ τ vs, ¬ Own q.1 q.2 a) ∧ ∃ u, H a = some u ∧ Mut (some u)) (c : WrR K g.T g.S M L H H') : SR K g ρ σ τ vs H' := by
  have mem : ∀ a ∈ M, ∃ i : Nat, (ents ρ σ τ vs)[i]? = some (SV.sto a, some (.ref a)) := fun a ha => by
    obtain ⟨i, hi⟩ := hM a ha
    obtain ⟨u, hu, z, _⟩ := S.slot hi
    have := z.1
    subst this
    exact ⟨_, ents_at S.tlen i hi hu⟩
  have stoM : ∀ a ∈ M, ∃ kw, H a = some (.dK kw) := fun a ha => by
    obtain ⟨i, hi⟩ := mem a ha
    exact sto_dk (S.all _ (List.mem_of_getElem? hi)).2
  have key : ∀ a o, H a = some o → ¬ Mut (some o) → (∀ ps, o ≠ .tbl ps) → H' a = some o := fun a o e nm nt => c.keep a o e (fun z => by
    obtain ⟨kw, e2⟩ := stoM a z
    rw [e] at e2; cases e2
    exact nm trivial) (fun z => by
    obtain ⟨_, _, u, e2, mu⟩ := hL a z
    rw [e] at e2; cases e2
    exact nm mu) nt
  have st : Stab H H' := ⟨⟨fun a o u e => key a _ e id (fun _ z => nomatch z), fun a xs e => key a _ e id (fun _ z => nomatch z)⟩, fun a fs e => key a _ e id (fun _ z => nomatch z)⟩
  have own_stay : ∀ q ∈ ents ρ σ τ vs, ∀ a, Own q.1 q.2 a → a ∉ M → H' a = H a := fun q hq a e hn => by
    obtain ⟨_, u, hu, mu, _⟩ := svr_own (S.all q hq) e
    exact c.cell ⟨u, hu, mu⟩ hn fun z => (hL a z).2.1 q hq e
  refine ⟨S.len, S.tlen, fun q hq => ?_, S.inj, S.own, ⟨fun a o h0 hm ht => ?_, fun a h => S.keep.live a (c.live a h)⟩, c.tabs, S.gnew, fun z hz => st.pin (S.pin z hz), S.nb, S.snew⟩
  · by_cases hs : ∃ a, Own q.1 q.2 a ∧ a ∈ M
    · obtain ⟨a, e, ha⟩ := hs
      obtain ⟨i, hi⟩ := mem a ha
      obtain ⟨j, hj⟩ := List.mem_iff_getElem?.mp hq
      have := S.inj i j _ _ a hi hj rfl e
      subst this
      rw [hi] at hj
      cases hj
      exact ⟨rfl, c.sto a ha⟩
    · exact svr_mono st (fun a e => own_stay q hq a e fun z => hs ⟨a, e, z⟩) (S.all q hq)
  · refine c.keep a o (S.keep.keep a o h0 hm ht) (fun ha => ?_) (fun ha => by rw [(hL a ha).1] at h0; cases h0) ht
    obtain ⟨i, hi⟩ := mem a ha
    rcases S.own _ (List.mem_of_getElem? hi) a rfl with z | ⟨z, _⟩
    · rw [z] at h0; cases h0
    · exact hm z
theorem SR.wrecked {M L L' : List Addr} {d : D} {i : Nat} (S : SR K g ρ σ τ vs H) (h : ρ[i]? = some (.ot L d)) (sub : ∀ a ∈ L', a ∈ L) (hM : ∀ a ∈ M, ∃ i : Nat, ρ[i]? = some (SV.sto a)) (c : WrR K g.T g.S M L' H H') : SR K g (ρ.set i .no) σ τ vs H' := by
  obtain ⟨u, hu, ⟨v, rfl, r, nd⟩, hm⟩ := S.slot h
  have e0 := ents_at S.tlen i h hu
  refine (S.lose i).calledW (fun a ha => ?_) (fun a ha => ?_) c
  · obtain ⟨j, hj⟩ := hM a ha
    refine ⟨j, ?_⟩
    rw [List.getElem?_set_ne]
    · exact hj
    · rintro rfl
      rw [h] at hj; cases hj
  · have hl := sub a ha
    obtain ⟨u, e, mu, _⟩ := RepT.own d v L r hl
    refine ⟨(S.own _ hm a hl).elim id (fun z => nomatch z.2), fun q hq z => ?_, u, e, mu⟩
    have es : ents (ρ.set i .no) σ τ vs = (ents ρ σ τ vs).set (τ.length + i) (.no, some v) := by
      have := ents_set (ρ := ρ) (σ := σ) S.tlen i .no (some v)
      rw [set_self hu] at this
      exact this
    rw [es] at hq
    obtain ⟨j, hj⟩ := List.mem_iff_getElem?.mp hq
    by_cases hji : τ.length + i = j
    · subst hji
      rw [List.getElem?_set] at hj
      simp at hj
      rw [← hj.2] at z
      exact nomatch (show (none : Option Addr) = some a from z)
    · rw [List.getElem?_set_ne hji] at hj
      exact hji (S.inj _ _ _ _ _ e0 hj hl z)
/-- a part of a slot's tree -/
structure Sub (K : PySem.W.Frag) (i : Nat) (pth : D → Option D) (te : TE) : Prop where
  run : ∀ (σ : L2.St) (H : Hp) (v : V) (L : List Addr) (d d' : D) (Q : VK), σ[i]? = some (some v) → RepT K H d v L → L.Nodup → pth d = some d' → (∀ v' L', RepT K H d' v' L' → (∀ a ∈ L', a ∈ L) → L'.Nodup → Q v' H) → te σ H Q
theorem sub_var {i : Nat} : Sub K i some (tVar i) := ⟨fun σ H v L d d' Q hs r n e k => ⟨v, hs, by cases e; exact k v L r (fun _ h => h) n⟩⟩
def D.part (k : Int) : D → Option D
  | .lst xs => atI xs k
  | .tup xs => atI xs k
  | _ => none
theorem repsT_get {xs : List D} {vs : List V} {L : List Addr} {k : Int} {d : D} (r : RepsT K H xs vs L) (h : atI xs k = some d) : ∃ v L1 La Lb, atI vs k = some v ∧ L = L1 ++ (La ++ Lb) ∧ RepT K H d v La := by
  unfold atI at h ⊢
  rw [← repsT_len r]
  cases e : ixN xs.length k with
  | none => rw [e] at h; cases h
  | some j =>
    rw [e] at h
    have h : xs[j]? = some d := h
    have hj := (List.getElem?_eq_some_iff.mp h).1
    have hv : vs[j]? = some (vs[j]'(by rw [← repsT_len r]; exact hj)) := List.getElem?_eq_getElem (by rw [← repsT_len r]; exact hj)
    obtain ⟨d2, L1, La, Lb, e2, hd, q⟩ := repsT_at r hv
    rw [h] at hd
    cases hd
    exact ⟨_, L1, La, Lb, hv, e2, q⟩
theorem sub_ix {i : Nat} {pth : D → Option D} {te : TE} {k : Int} (h : Sub K i pth te) : Sub K i (fun d => (pth d).bind (D.part k)) (tOp (rIx K) te (tC (.int k))) := ⟨fun σ H v L d d' Q hs r n e kk => by
  cases ep : pth d with
  | none => rw [ep] at e; cases e
  | some d1 =>
    rw [ep] at e
    have e : D.part k d1 = some d' := e
    refine h.run σ H v L d d1 _ hs r n ep fun v1 L1 r1 s1 n1 => ?_
    cases d1 with
    | lst xs =>
      obtain ⟨a, ws, L2, rfl, rfl, c, rs⟩ := r1
      obtain ⟨w, M1, La, Lb, hw, eL, ra⟩ := repsT_get rs e
      have n2 := (List.nodup_cons.mp n1).2
      rw [eL] at n2
      exact .inl ⟨a, ws, k, w, rfl, rfl, .inl (.inl c), hw, kk w La ra (fun b hb => s1 b (List.mem_cons_of_mem _ (by rw [eL]; exact List.mem_append_right _ (List.mem_append_left _ hb)))) (List.nodup_append.mp (List.nodup_append.mp n2).2.1).1⟩
    | tup xs =>
      obtain ⟨a, ws, rfl, c, rs⟩ := r1
      obtain ⟨w, M1, La, Lb, hw, eL, ra⟩ := repsT_get rs e
      rw [eL] at n1
      exact .inr (.inl ⟨a, ws, k, w, rfl, rfl, c, hw, kk w La ra (fun b hb => s1 b (by rw [eL]; exact List.mem_append_right _ (List.mem_append_left _ hb))) (List.nodup_append.mp (List.nodup_append.mp n1).2.1).1⟩)
    | _ => cases e⟩
def rWr (i : Nat) (pth : D → Option D) (n : Nat) : RS := fun D ρ => match ρ[i]? with
  | some (.ot _ d) => ∃ d', pth d = some d' ∧ wkD n d' = true ∧ D.nx (ρ.set i .no)
  | _ => False
end
section
variable {X : Cx} {g : Gh} {e b : Expr} {te : TE} {pth : D → Option D} {i j k n : Nat} {f : Addr} {fd : FuncData} {ps : List Str} {x bn : Str} {p p0 p1 pos pos' : Pos}
/-- f(part of a tree): the tree is gone -/
theorem q_wr1 (F : FnOk X.prog X.w X.K X.mg X.base (L2.CX X.prog X.w) k f fd ps (spW1 X.K g.T (n + 1))) (hr : Room k X.A) (hg : Gl X x) (hm : X.mg x = some (.ref f)) (hk : PySem.W.keepIn X.K (.ref f) = true) (hb : Binds X.K fd ps []) (he : PE X e te) (hs : Sub X.K i pth te)
    (hdb : (x == ("__debug__" : Str)) = false := by decide) (h1 : starEach [e] X.env = (false, eval e X.env) :: starEach [] X.env := by rfl) (hpl : (backTo pos (starEach [] X.env)).any (·.1) = false := by rfl) (hsw : swapsWith (.Call (.Name x p) [e] [] pos) none pos'.line X.env = pure false := by rfl) :
    QS X g (.Expr (.Call (.Name x p) [e] [] pos) pos') (rWr i pth n) := by
  refine QS.of (fun Ξ tk => ps_expr (pe_call F hr hg hm hk hb .nil passL (pa_cons he pa_nil h1) hdb h1 hpl) hsw) fun τ vs ρ D σ H nb S hw => ?_
  unfold rWr at hw
  split at hw
  · rename_i L d e0
    obtain ⟨d', ep, wk, q⟩ := hw
    obtain ⟨u, hu, ⟨v, rfl, r, nd⟩, hm⟩ := S.slot e0
    refine hs.run σ H v L d d' _ hu r nd ep fun v' L' r' s' n' => ?_
    refine ⟨g.S, d', v', L', rfl, ⟨r', n', wk, S.tabs, (fun a ha => nomatch ha)⟩, fun H' w => ⟨_, S.wrecked (M := []) e0 s' (fun a ha => by cases ha) w, q⟩⟩
  · exact hw.elim
def rWr2 (j i : Nat) (pth : D → Option D) (n : Nat) : RS := fun D ρ => match ρ[j]?, ρ[i]? with
  | some (.sto _), some (.ot _ d) => ∃ d', pth d = some d' ∧ wkD n d' = true ∧ D.nx (ρ.set i .no)
  | _, _ => False
theorem q_wr2 (F : FnOk X.prog X.w X.K X.mg X.base (L2.CX X.prog X.w) k f fd ps (spW2 X.K g.T (n + 1))) (hr : Room k X.A) (hg : Gl X x) (hm : X.mg x = some (.ref f)) (hk : PySem.W.keepIn X.K (.ref f) = true) (hb : Binds X.K fd ps []) (hn : X.N[j]? = some bn) (he : PE X e te) (hs : Sub X.K i pth te)
    (hv : Vis X.env.scope bn := by first | exact Or.inl rfl | exact Or.inr (Or.inl rfl) | exact Or.inr (Or.inr rfl)) (hd : (bn == ("__debug__" : Str)) = false := by decide) (hcd : (bn == ("__classdict__" : Str)) = false := by decide)
    (hdb : (x == ("__debug__" : Str)) = false := by decide) (h1 : starEach [e] X.env = (false, eval e X.env) :: starEach [] X.env := by rfl) (h2 : starEach [.Name bn p0, e] X.env = (false, eval (.Name bn p0) X.env) :: starEach [e] X.env := by rfl) (hpl : (backTo pos (starEach [e] X.env)).any (·.1) = false := by rfl) (hsw : swapsWith (.Call (.Name x p) [.Name bn p0, e] [] pos) none pos'.line X.env = pure false := by rfl) :
    QS X g (.Expr (.Call (.Name x p) [.Name bn p0, e] [] pos) pos') (rWr2 j i pth n) := by
  refine QS.of (fun Ξ tk => ps_expr (pe_call F hr hg hm hk hb .nil passL (pa_cons (pe_var (i := j) hn hv hd hcd) (pa_cons he pa_nil h1) h2) hdb h2 hpl) hsw) fun τ vs ρ D σ H nb S hw => ?_
  unfold rWr2 at hw
  split at hw
  · rename_i b L d e1 e0
    obtain ⟨d', ep, wk, q⟩ := hw
    obtain ⟨u, hu, ⟨v, rfl, r, nd⟩, hm⟩ := S.slot e0
    obtain ⟨u2, hu2, ⟨rfl, so⟩, hm2⟩ := S.slot e1
    refine ⟨_, hu2, hs.run σ H v L d d' _ hu r nd ep fun v' L' r' s' n' => ?_⟩
    refine ⟨g.S, b, d', v', L', rfl, ⟨r', n', wk, S.tabs, fun a ha => ?_⟩, fun a ha => S.snew a (S.free ha), fun H' w => ⟨_, S.wrecked e0 s' (fun a ha => ⟨j, ?_⟩) w, q⟩⟩
    · rw [List.mem_singleton.mp ha]
      refine ⟨so, fun z => ?_⟩
      have i1 := ents_at S.tlen j e1 hu2
      have i2 := ents_at S.tlen i e0 hu
      have := S.inj _ _ _ _ b i1 i2 rfl (s' b z)
      have : i = j := by omega
      subst this
      rw [e1] at e0; cases e0
    · rw [List.mem_singleton.mp ha]; exact e1
  · exact hw.elim
end
end Q

namespace Q
open PySem PySem.Spec PyProof.Rows L2
section
variable {P : Program} {w : World} {K : PySem.W.Frag} {mg : Str → Option Value} {base : Heap} {T T' : TBs}
theorem fnTW1 {k n : Nat} {f : Addr} {fd : FuncData} {ps : List Str} (h : T' = T) (F : FnOk P w K mg base (L2.CX P w) k f fd ps (spW1 K T n)) : FnOk P w K mg base (L2.CX P w) k f fd ps (spW1 K T' n) := by
  subst h; exact F
theorem fnTW2 {k n : Nat} {f : Addr} {fd : FuncData} {ps : List Str} (h : T' = T) (F : FnOk P w K mg base (L2.CX P w) k f fd ps (spW2 K T n)) : FnOk P w K mg base (L2.CX P w) k f fd ps (spW2 K T' n) := by
  subst h; exact F
end
section
variable {X : Cx} {g : Gh} {e : Expr} {p : RE} {pos pf : Pos}
/-- tuple(a tree's list) -/
def rTupleT (p : RE) : RE := fun ρ k x => p ρ (fun sv ρ' => match sv with
  | .ot (_ :: L) (.lst xs) => k (.ot L (.tup xs)) ρ'
  | _ => False) x
theorem q_tupleT (hg : Gl X "tuple") (hm : X.mg "tuple" = none) (ha : QE X g e p) (he : starEach [e] X.env = (false, eval e X.env) :: starEach [] X.env := by rfl) (hpl : (backTo pos (starEach [] X.env)).any (·.1) = false := by rfl) : QE X g (.Call (.Name "tuple" pf) [e] [] pos) (rTupleT p) := by
  refine QE.of (fun Ξ tk => pe_callTy call_tuple_of hg hm (by rfl) (pa_cons (ha.pe tk) pa_nil he) (by decide) (by decide) he hpl) fun τ vs ρ Φ Ξ σ H S hw => ?_
  refine ⟨τ, vs, ρ, _, S, hw, fun sv ρ1 x H1 S1 q => ?_⟩
  split at q
  · rename_i a L xs
    obtain ⟨w, ew, ⟨b, ws, L', rfl, eL, c, rs⟩, n⟩ := S1.top
    cases ew; cases eL
    refine ⟨a, ws, rfl, .inl ⟨.inl (.inl c), fun l hl => ⟨_, ρ1, SR.push (sv := .ot L (.tup xs)) (S1.pop.new hl) ⟨_, rfl, ⟨l, ws, rfl, SqT.of upd_same, RepsT.mono (fun a xs h => sqT_mono (stab_new hl) h) _ _ _ (fun c1 ha => ?_) rs⟩, (List.nodup_cons.mp n).2⟩ (fun c1 ha => ⟨.inl ?_, fun q hq z => ?_⟩), q⟩⟩⟩
    · obtain ⟨u, e1, _⟩ := RepsT.own _ _ _ rs ha
      exact upd_ne (ne_of_none e1 hl)
    · exact (S1.own _ List.mem_cons_self c1 (show c1 ∈ a :: L from List.mem_cons_of_mem _ ha)).elim id (fun z => nomatch z.2)
    · exact Injs.fresh S1.inj (p := (SV.ot (a :: L) (.lst xs), some (V.ref a))) (a := c1) (List.mem_cons_of_mem _ ha) q hq z
  · exact q.elim
end
end Q

namespace Q
open PySem PySem.Spec PyProof.Rows L2
/-! ### order of ints and of texts -/
def ltS (x y : Str) : Bool := decide (x.cps.toList < y.cps.toList)
def oCmpG (f : Int → Int → Bool) (h : Str → Str → Bool) : Op2 := fun _ d1 _ d2 k => match d1, d2 with
  | .int i, .int j => k (.fr true (.bl (f i j)))
  | .str i, .str j => k (.fr true (.bl (h i j)))
  | _, _ => False
abbrev oLtG : Op2 := oCmpG (fun i j => decide (i < j)) fun x y => ltS x y
abbrev oLeG : Op2 := oCmpG (fun i j => decide (i ≤ j)) fun x y => !ltS y x
abbrev oGtG : Op2 := oCmpG (fun i j => decide (j < i)) fun x y => ltS y x
abbrev oGeG : Op2 := oCmpG (fun i j => decide (j ≤ i)) fun x y => !ltS x y
section
variable {X : Cx} {g : Gh}
abbrev rCmpG (f : Int → Int → Bool) (h : Str → Str → Bool) : R2 := fun x y H Q => (rI0 (fun i j => .bl (f i j)) x y H Q) ∨ ∃ i j, x = .str i ∧ y = .str j ∧ Q (.bl (h i j)) H
theorem rd_cmpG {f : Int → Int → Bool} {h : Str → Str → Bool} : OpRd X g (rCmpG f h) (oCmpG f h) := by
  intro σ τ vs ρ H x y m1 m2 d1 d2 k Q S v1 v2 hh kk
  unfold oCmpG at hh
  split at hh
  · cases view_int v1
    cases view_int v2
    exact .inl ⟨_, _, rfl, rfl, kk _ _ _ (S.pushF (m := true) (d := .bl (f _ _)) rfl) hh⟩
  · cases view_str v1
    cases view_str v2
    exact .inr ⟨_, _, rfl, rfl, kk _ _ _ (S.pushF (m := true) (d := .bl (h _ _)) rfl) hh⟩
  · exact hh.elim
theorem op_ltG : OpR X (compareOp .Lt) (rCmpG (fun i j => decide (i < j)) fun x y => ltS x y) := op_lt.or op_lt_str
theorem op_leG : OpR X (compareOp .LtE) (rCmpG (fun i j => decide (i ≤ j)) fun x y => !ltS y x) := op_le.or op_le_str
theorem op_gtG : OpR X (compareOp .Gt) (rCmpG (fun i j => decide (j < i)) fun x y => ltS y x) := op_gt.or op_gt_str
theorem op_geG : OpR X (compareOp .GtE) (rCmpG (fun i j => decide (j ≤ i)) fun x y => !ltS x y) := op_ge.or op_ge_str
end
end Q

namespace Q
open PySem PySem.Spec PyProof.Rows L2
/-! ### text * int -/
/-- x * n, n at least 2 -/
def repS (x : Str) (n : Nat) : Str := ⟨(List.replicate n x.cps.toList).flatten.toArray⟩
theorem foldl_arr (a : Array Nat) : ∀ (n : Nat) (acc : Array Nat), (List.replicate n a).foldl (· ++ ·) acc = acc ++ (List.replicate n a.toList).flatten.toArray
  | 0, acc => by simp
  | n + 1, acc => by
    rw [List.replicate_succ, List.foldl_cons, foldl_arr a n, List.replicate_succ, List.flatten_cons]
    apply Array.ext'
    simp
def oRepG : Op2 := fun m1 d1 m2 d2 k => match d1, d2 with
  | .str x, .int n => (2 ≤ n ∧ n ≤ 1000 ∧ 1 ≤ x.length ∧ x.length ≤ 1000) ∧ k (.fr true (.str (repS x n.toNat)))
  | d1, d2 => oRep m1 d1 m2 d2 k
section
variable {X : Cx} {g : Gh} {a b : Expr} {pa pb : RE} {pos : Pos}
abbrev rRepS : R2 := fun x y H Q => ∃ z n, x = V.str z ∧ y = .int n ∧ 2 ≤ n ∧ n ≤ 1000 ∧ 1 ≤ z.length ∧ z.length ≤ 1000 ∧ Q (.str (repS z n.toNat)) H
theorem op_repS : OpR X (binaryOp .Mult) rRepS := by
  intro pins s σ H x y v u Q I rx ry h
  obtain ⟨z, n, rfl, rfl, h1, h2, h3, h4, q⟩ := h
  obtain ⟨t, rfl⟩ := rx
  obtain ⟨t', rfl⟩ := ry
  have hz : ¬ n < 1 := by omega
  have hc : (n == 1 || z.length == 0) = false := by
    rw [Bool.or_eq_false_iff]
    exact ⟨beq_eq_false_iff_ne.mpr (by omega), beq_eq_false_iff_ne.mpr (by omega)⟩
  have hm : z.length * n.toNat ≤ 1000 * 1000 := Nat.mul_le_mul h4 (by omega)
  have hq : (2 ^ 63 - 1) / n ≥ 1000 := by
    rw [ge_iff_le, Int.le_ediv_iff_mul_le (by omega)]
    omega
  refine P.mul_str (by rw [decide_eq_false (by omega), decide_eq_false (by omega)]; rfl) (fun _ _ => by omega) (fun _ _ => ?_) ?_
  · unfold PySem.Builtin.Str.tooLong
    exact decide_eq_false (by rw [sizeLine_eq]; omega)
  · rw [if_neg hz, if_neg (by rw [hc]; exact Bool.false_ne_true), foldl_arr]
    have e : (#[] : Array Nat) ++ (List.replicate n.toNat z.cps.toList).flatten.toArray = (repS z n.toNat).cps := by simp [repS]
    rw [e]
    refine ⟨?_, .str (repS z n.toNat), H, I.tok _, ⟨_, rfl⟩, q⟩
    have el : (repS z n.toNat).length = n.toNat * z.length := by
      show (List.replicate n.toNat z.cps.toList).flatten.toArray.size = _
      rw [List.size_toArray]
      simp [List.length_flatten]
      rfl
    show (repS z n.toNat).length ≤ _
    rw [el, Nat.mul_comm, sizeLine_eq]
    omega
abbrev rRepG : R2 := fun x y H Q => rRepQ x y H Q ∨ rRepS x y H Q
theorem rd_repG : OpRd X g rRepG oRepG := by
  intro σ τ vs ρ H x y m1 m2 d1 d2 k Q S v1 v2 hh kk
  unfold oRepG at hh
  split at hh
  · cases view_str v1
    cases view_int v2
    exact .inr ⟨_, _, rfl, rfl, hh.1.1, hh.1.2.1, hh.1.2.2.1, hh.1.2.2.2, kk _ _ _ (S.pushF (m := true) (d := .str _) rfl) hh.2⟩
  · exact .inl (rd_rep σ τ vs ρ H x y m1 m2 d1 d2 k Q S v1 v2 hh kk)
theorem q_repG (ha : QE X g a pa) (hb : QE X g b pb) : QE X g (.BinOp a .Mult b pos) (rOp2 oRepG pa pb) := q_op ((op_mul.or op_repR).or op_repS) rd_repG ha hb
end
end Q

namespace Q
open PySem PySem.Spec PyProof.Rows L2
theorem tb_one {l : List (Addr × Str)} (h : (l.map (·.1)).Nodup) {P : Addr} {q : Str} (hm : (P, q) ∈ l) : ∀ p ∈ l, p.1 = P → p.2 = q := by
  induction l with
  | nil => cases hm
  | cons x r ih =>
    rw [List.map_cons, List.nodup_cons] at h
    intro p hp e
    rcases List.mem_cons.mp hm with z | z
    · rcases List.mem_cons.mp hp with y | y
      · rw [y, ← z]
      · exact absurd (List.mem_map.mpr ⟨p, y, by rw [e, ← z]⟩) h.1
    · rcases List.mem_cons.mp hp with y | y
      · exact absurd (List.mem_map.mpr ⟨(P, q), z, by rw [← y]; exact e.symm⟩) h.1
      · exact ih h.2 z p y e
/-- a message: words, one value -/
theorem rm_fmt2 {p : Str} (hp : p.length ≤ 1000) {σ : L2.St} {y : V} {H : Hp} {Q : VK} (hs : σ[1]? = some (some y)) (hy : okV y) (k : ∀ v, Q v H) : tJs [tC (.str p), tFmt (tVar 1)] Str.empty σ H fun out H1 => Q (.str out) H1 := by
  have e0 : (Str.empty ++ p).length ≤ 1000 := by rw [str_app]; show 0 + _ ≤ _; omega
  have main : ∀ z : Str, z.length ≤ 1000000 → ∃ y : Str, V.str z = .str y ∧ (Str.empty ++ p ++ y).length ≤ sizeLine ∧ tJs [] (Str.empty ++ p ++ y) σ H fun out H1 => Q (.str out) H1 := fun z hz =>
    ⟨z, rfl, by rw [sizeLine_eq, str_app]; omega, k _⟩
  refine ⟨p, rfl, by rw [sizeLine_eq]; omega, y, hs, ?_⟩
  rcases hy with ⟨z, rfl, hz⟩ | ⟨i, rfl, hi⟩
  · exact .inl ⟨z, rfl, by rw [sizeLine_eq]; omega, main z hz⟩
  · have := int_text_len_1921 hi
    exact .inr ⟨i, rfl, hi, main _ (by show (Str.ofString (toString i)).length ≤ _; omega)⟩
end Q

/-! ### several except clauses, with names or without -/
namespace L2
open PySem PySem.Spec PyProof.Rows
abbrev HdA := Value × Option Nat × (Addr → Value → Option Addr → TS)
/-- the ends of a suite whose error stands in slot i -/
def endsAs (D : Ends) (i : Nat) : Ends := { nx := fun σ' H' => D.nx (σ'.set i none) H', rt := D.rt, bk := fun σ' H' => D.bk (σ'.set i none) H', ct := fun σ' H' => D.ct (σ'.set i none) H' }
def wOne (ts : Addr → Value → Option Addr → TS) (D : Ends) (cls : Value) (d : Option Addr) (σ : St) (H : Hp) (a : Addr) : Option Nat → Prop
  | some i => ts a cls d (endsAs D i) (σ.set i (some (.ref a))) H
  | none => ts a cls d D σ H
def wManyA (K : PySem.W.Frag) (Wout : WX) (D : Ends) : List HdA → WX
  | [] => Wout
  | h :: r => fun cls d σ H => ∃ b, PySem.W.exmOne K cls h.1 = some b ∧ (b = true → ∀ a, H a = none → wOne h.2.2 D cls d σ H a h.2.1) ∧ (b = false → wManyA K Wout D r cls d σ H)
inductive HdsA (X : Cx) : List ExceptHandler → List HdA → Prop
  | nil : HdsA X [] []
  | plain {x : Str} {c : Value} {ts : Addr → Value → Option Addr → TS} {b₀ : Stmt} {suite : List Stmt} {np pos' : Pos} {hds : List ExceptHandler} {l : List HdA} (hc : Names X x c)
      (hsu : ∀ (a : Addr) (oe : Obj) (cls : Value) (d : Option Addr) (pn : List (Addr × Obj)), Zc cls d oe → (∃ vs, oe.data = .fields vs) → PSs (X.suite a ((a, oe) :: pn)) (b₀ :: suite) (ts a cls d)) (r : HdsA X hds l) :
      HdsA X (.ExceptHandler (some (.Name x np)) none (b₀ :: suite) pos' :: hds) ((c, none, ts) :: l)
  | named {x n : Str} {i : Nat} {c : Value} {ts : Addr → Value → Option Addr → TS} {b₀ : Stmt} {suite : List Stmt} {np pos' : Pos} {hds : List ExceptHandler} {l : List HdA} (hi : X.N[i]? = some n) (hln : X.env.kindOf n = some .local) (hc : Names X x c)
      (hsu : ∀ (a : Addr) (oe : Obj) (cls : Value) (d : Option Addr) (pn : List (Addr × Obj)), Zc cls d oe → (∃ vs, oe.data = .fields vs) → PSs (X.suite a ((a, oe) :: pn)) (b₀ :: suite) (ts a cls d)) (r : HdsA X hds l) :
      HdsA X (.ExceptHandler (some (.Name x np)) (some n) (b₀ :: suite) pos' :: hds) ((c, some i, ts) :: l)
section
variable {X : Cx} {body : List Stmt} {h₀ : ExceptHandler} {hds : List ExceptHandler} {l : List HdA} {pos : Pos} {tb : WX → TS} {Wout : WX}
theorem ps_try_manyA (hs : X.stack = X.env :: X.outer) (hf : X.env.frame = some X.env.locals) (hN : X.N.Nodup) (tk : Takes X Wout)
    (hb : ∀ (W : WX) (pn : List (Addr × Obj)) (xe : Value → Shared → Prop), Takes (X.tr pn xe) W → PassesOwn (model X.prog X.w) X.A X.env xe → PSs (X.tr pn xe) body (tb W))
    (hh : HdsA X (h₀ :: hds) l) : PS X (.Try body (h₀ :: hds) [] [] pos) (fun D σ H => tb (wManyA X.K Wout D l) D σ H) := by
  refine ⟨fun pins s σ H D I h => ?_⟩
  have ok := I.ok
  have hfr : X.A.frames = some (X.env :: X.outer) := by rw [ok.frames, hs]
  refine wpAny_Try_except ?_
  refine wpAny_mono ((hb (wManyA X.K Wout D l) (X.pn ++ pins) (fun e s₁ => wpAny (model X.prog X.w) X.A (noteFrame e X.env) (fun _ s₂ => wpAny (model X.prog X.w) X.A (setFlight e none) (fun _ s₃ =>
    wpAny (model X.prog X.w) X.A (handleBy e X.env (h₀ :: hds)) (SP X pins D) X.xe s₃) X.xe s₂) X.xe s₁) (fun u s' xx => ?_) PassesOwn.looking).run [] s σ H D (I.toTry _) h) (fun f s1 hsp => ?_) (fun e s1 he => he)
  · -- the catch
    obtain ⟨a, B, sI, pins', σ', H', cls, d, rfl, J', nb, up, sky, na, os, ag, w⟩ := xx
    have J : Inv X pins σ' H' sI := J'.ofTry ok
    have sky' : Sky B (X.env :: X.outer) a (Zc cls d) X.env.locals s'.heap := by rw [← hs]; exact sky
    show wpAny (model X.prog X.w) X.A (noteFrame (.ref a) X.env) _ _ _
    refine Sky.land Zc.steady hfr hf sky' fun h3 fl3 up3 => ?_
    have J3 : Inv X pins σ' H' { s' with heap := h3 } := J.landed nb fl3.1 (up.trans up3) os ag
    obtain ⟨oe3, vs3, he3, hz3, hd3⟩ := fl3.there
    have notFr : ∀ {h : Heap} {o : Obj} {vs : Array Value}, h.FunFrames B (X.env :: X.outer) → h.get? a = some o → o.data = .fields vs → a ∉ frs (X.env :: X.outer) := fun {h o vs} ff e dd hm => by
      obtain ⟨_, o', e', hnf⟩ := ff.mem hm
      rw [e] at e'; cases e'
      exact hnf _ dd
    have nfr := notFr fl3.2.2.1 he3 hd3
    have nL : a ≠ X.env.locals := fun z => nfr (List.mem_filterMap.mpr ⟨X.env, List.mem_cons_self, by rw [hf, z]⟩)
    have nF : a ∉ X.fs := fun hm => by
      obtain ⟨e, he, q⟩ := List.mem_filterMap.mp hm
      exact nfr (List.mem_filterMap.mpr ⟨e, List.mem_cons_of_mem _ he, q⟩)
    have S3 := J3.suite he3 hd3 na nL nF
    have LT : PySem.W.Looks (model X.prog X.w) h3 (typeOf (.ref a)) cls := fun A Q E s k q => wpAny_typeOf_ref (k _ _ he3) (by rw [hz3.1]; exact q)
    have test : ∀ {x : Str} {c : Value} {np : Pos}, Names X x c → ∀ {Q : Value → Shared → Prop} {E : Value → Shared → Prop}, Q c { s' with heap := h3 } → wpAny (model X.prog X.w) (X.A.mark (some (.ref a))) (eval (.Name x np) X.env) Q E { s' with heap := h3 } := fun {x c np} hc {Q E} q => by
      obtain ⟨hg, hdbg, hm | ⟨hm, hv, hnn⟩⟩ := hc
      · exact ld_glob (X := X.suite a ((a, oe3) :: (X.pn ++ pins))) S3 hg hm q hdbg
      · exact ld_blt (X := X.suite a ((a, oe3) :: (X.pn ++ pins))) S3 hg hm hv q hnn hdbg
    have go : ∀ {hds' : List ExceptHandler} {l' : List HdA}, HdsA X hds' l' → wManyA X.K Wout D l' cls d σ' H' →
        wpAny (model X.prog X.w) X.A (handleBy (.ref a) X.env hds') (SP X pins D) X.xe { s' with heap := h3 } := by
      intro hds' l' hk
      induction hk with
      | nil =>
        intro w
        refine wpAny_handleBy_nil ?_
        obtain ⟨k1, k2, k3, oe, vs, T, oT, ts', he, hz, hd, h1, hr⟩ := id fl3
        unfold PySem.passOn
        refine wpAny_bind (wpAny_field he hd h1 ?_)
        rw [if_neg (show ¬ ((Value.ref T == Value.none) = true) from by simp)]
        have fin : wpAny (model X.prog X.w) X.A (setFlight (.ref a) X.env.frame) (fun _ s4 => wpAny (model X.prog X.w) X.A (throw (.ref a) : Sem Flow) (SP X pins D) X.xe s4) X.xe { s' with heap := h3 } := by
          rw [hf]
          refine HandSPX.setFlight_upZ fl3 fun h4 hh4 up4 => wpAny_throw (tk _ _ ?_)
          exact ⟨a, B, sI, pins, σ', H', cls, d, rfl, J, nb, (up.trans up3).trans up4, .inr (.inr (by rw [hs]; exact hh4)), na, os, ag, w⟩
        first
          | exact wpAny_bind (wpAny_pure (wpAny_bind fin))
          | exact wpAny_bind fin
      | @plain x c ts b₀ suite np pos' hds2 l2 hc hsu r ih =>
        intro w
        obtain ⟨b, hb1, hyes, hno⟩ := w
        refine wpAny_handleBy_cons (codeAny_handlers_test ?_) (by intro q; cases q)
        have LM := PySem.W.exm_one (M := model X.prog X.w) (J3.kIn) LT hb1
        refine test hc (LM.here ?_)
        cases b with
        | true =>
          refine codeAny_handlers_suite ?_
          refine HandSPX.lands_againZ fl3 fun h4 fl4 up4 => ?_
          have J4 : Inv X pins σ' H' { s' with heap := h4 } := J.landed nb fl4.1 ((up.trans up3).trans up4) os ag
          obtain ⟨oe4, vs4, he4, hz4, hd4⟩ := fl4.there
          have S4 := J4.suite he4 hd4 na nL nF
          refine wpAny_mono ((hsu a oe4 cls d (X.pn ++ pins) hz4 ⟨_, hd4⟩).run [] _ _ H' _ S4 (hyes rfl a na)) (fun f s6 hsp => ?_) (fun _ _ z => False.elim z)
          cases f with
          | next =>
            obtain ⟨σ6, H6, S6, q6⟩ := hsp
            exact ⟨_, _, S6.unsuite ok, q6⟩
          | brk =>
            obtain ⟨σ6, H6, S6, q6⟩ := hsp
            exact ⟨_, _, S6.unsuite ok, q6⟩
          | cont =>
            obtain ⟨σ6, H6, S6, q6⟩ := hsp
            exact ⟨_, _, S6.unsuite ok, q6⟩
          | ret u =>
            obtain ⟨v6, σ6, H6, S6, r6, q6⟩ := hsp
            exact ⟨_, _, _, S6.unsuite ok, r6, q6⟩
        | false =>
          show wpAny _ X.A (handleBy (.ref a) X.env hds2) _ _ _
          exact ih (hno rfl)
      | @named x n i c ts b₀ suite np pos' hds2 l2 hi hln hc hsu r ih =>
        intro w
        obtain ⟨b, hb1, hyes, hno⟩ := w
        have hloc : Loc X.env.scope n := .inl hln
        refine wpAny_handleBy_cons (codeAny_handlers_test ?_) (by intro q; cases q)
        have LM := PySem.W.exm_one (M := model X.prog X.w) (J3.kIn) LT hb1
        refine test hc (LM.here ?_)
        cases b with
        | true =>
          refine codeAny_handlers_suite_as ?_
          refine HandSPX.lands_againZ fl3 fun h4 fl4 up4 => ?_
          have J4 : Inv X pins σ' H' { s' with heap := h4 } := J.landed nb fl4.1 ((up.trans up3).trans up4) os ag
          obtain ⟨oe4, vs4, he4, hz4, hd4⟩ := fl4.there
          have S4 := J4.suite he4 hd4 na nL nF
          refine store_ok (X := X.suite a ((a, oe4) :: (X.pn ++ pins))) (v := .ref a) S4 hN hi hloc rfl (fun s5 S5 => ?_) (.inr hln)
          refine wpAny_mono ((hsu a oe4 cls d (X.pn ++ pins) hz4 ⟨_, hd4⟩).run [] s5 _ H' _ S5 (hyes rfl a na)) (fun f s6 hsp => ?_) (fun _ _ z => False.elim z)
          have end_ : ∀ {σ6 : St} {H6 : Hp} {Q : Shared → Prop}, Inv (X.suite a ((a, oe4) :: (X.pn ++ pins))) [] σ6 H6 s6 → (∀ s7, Inv X pins (σ6.set i none) H6 s7 → Q s7) →
              wpAny (model X.prog X.w) X.A (do bindName X.env n .none; unbindBehindTheSuite X.env n pos') (fun _ s7 => Q s7) X.xe s6 := fun {σ6 H6 Q} S6 hq => gone_ok (S6.unsuite ok) hN hi hln hq
          cases f with
          | next =>
            obtain ⟨σ6, H6, S6, q6⟩ := hsp
            exact end_ S6 fun s7 J7 => ⟨_, _, J7, q6⟩
          | brk =>
            obtain ⟨σ6, H6, S6, q6⟩ := hsp
            exact end_ S6 fun s7 J7 => ⟨_, _, J7, q6⟩
          | cont =>
            obtain ⟨σ6, H6, S6, q6⟩ := hsp
            exact end_ S6 fun s7 J7 => ⟨_, _, J7, q6⟩
          | ret u =>
            obtain ⟨v6, σ6, H6, S6, r6, q6⟩ := hsp
            exact end_ S6 fun s7 J7 => ⟨_, _, _, J7, r6, q6⟩
        | false =>
          show wpAny _ X.A (handleBy (.ref a) X.env hds2) _ _ _
          exact ih (hno rfl)
    exact go hh w
  · cases f with
    | next =>
      obtain ⟨σ', H', J', q⟩ := hsp
      exact wpAny_execs_nil ⟨σ', H', J'.ofTry ok, q⟩
    | brk =>
      obtain ⟨σ', H', J', q⟩ := hsp
      exact ⟨σ', H', J'.ofTry ok, q⟩
    | cont =>
      obtain ⟨σ', H', J', q⟩ := hsp
      exact ⟨σ', H', J'.ofTry ok, q⟩
    | ret u =>
      obtain ⟨v, σ', H', J', r, q⟩ := hsp
      exact ⟨v, σ', H', J'.ofTry ok, r, q⟩
end
end L2
namespace Q
open PySem PySem.Spec PyProof.Rows L2
/-- a clause: its class, its name's slot, what its suite does -/
abbrev HdR := EC × Option Nat × (Addr → Exn → RS)
/-- the ends of a suite -/
def pendsH (D : PEnds) : Option Nat → PEnds
  | some i => { nx := fun r => D.nx (r.set i .no), rt := D.rt, bk := fun r => D.bk (r.set i .no), ct := fun r => D.ct (r.set i .no), ex := noX }
  | none => { nx := D.nx, rt := D.rt, bk := D.bk, ct := D.ct, ex := noX }
def putH (a : Addr) (ρ : PSt) : Option Nat → PSt
  | some i => ρ.set i (.fr true (.ref a))
  | none => ρ
def rHs (D : PEnds) (e : Exn) (ρ : PSt) : List HdR → Prop
  | [] => D.ex e ρ
  | h :: r => ifB (e.cls.sub h.1) (∀ a, h.2.2 a e (pendsH D h.2.1) (putH a ρ h.2.1)) (rHs D e ρ r)
def rTryMany (pb : RS) (hs : List HdR) : RS := fun D ρ => pb { D with ex := fun e ρ' => rHs D e ρ' hs } ρ
inductive HdsQ (X : Cx) (g : Gh) : List ExceptHandler → List HdR → List HdA → Prop
  | nil : HdsQ X g [] [] []
  | plain {x : Str} {c : Value} {cx : EC} {psu : Addr → Exn → RS} {b₀ : Stmt} {suite : List Stmt} {np pos' : Pos} {hds : List ExceptHandler} {l : List HdR} {l' : List HdA} (hc : Names X x c)
      (het : ∀ d : EC, d.own = true → PySem.W.exmOne X.K (.ref (g.T.ea d)) c = some (d.sub cx))
      (hsu : ∀ (a : Addr) (oe : Obj) (y : Exn) (dd : Addr) (fv : List (Str × V)) (pn : List (Addr × Obj)), y.cls.own = true → Zc (.ref (g.T.ea y.cls)) (some dd) oe → (∃ vs, oe.data = .fields vs) → QSs (X.suite a ((a, oe) :: pn)) (g.exc X.K dd fv y) (b₀ :: suite) (psu a y))
      (r : HdsQ X g hds l l') : HdsQ X g (.ExceptHandler (some (.Name x np)) none (b₀ :: suite) pos' :: hds) ((cx, none, psu) :: l) ((c, none, tSuite X g psu) :: l')
  | named {x n : Str} {c : Value} {cx : EC} {i : Nat} {psu : Addr → Exn → RS} {b₀ : Stmt} {suite : List Stmt} {np pos' : Pos} {hds : List ExceptHandler} {l : List HdR} {l' : List HdA} (hi : X.N[i]? = some n) (hln : X.env.kindOf n = some .local) (hc : Names X x c)
      (het : ∀ d : EC, d.own = true → PySem.W.exmOne X.K (.ref (g.T.ea d)) c = some (d.sub cx))
      (hsu : ∀ (a : Addr) (oe : Obj) (y : Exn) (dd : Addr) (fv : List (Str × V)) (pn : List (Addr × Obj)), y.cls.own = true → Zc (.ref (g.T.ea y.cls)) (some dd) oe → (∃ vs, oe.data = .fields vs) → QSs (X.suite a ((a, oe) :: pn)) (g.exc X.K dd fv y) (b₀ :: suite) (psu a y))
      (r : HdsQ X g hds l l') : HdsQ X g (.ExceptHandler (some (.Name x np)) (some n) (b₀ :: suite) pos' :: hds) ((cx, some i, psu) :: l) ((c, some i, tSuite X g psu) :: l')
section
variable {X : Cx} {g : Gh} {body : List Stmt} {h₀ : ExceptHandler} {hds : List ExceptHandler} {l : List HdR} {l' : List HdA} {pos : Pos} {pb : RS}
theorem HdsQ.hdsA (h : HdsQ X g hds l l') : HdsA X hds l' := by
  induction h with
  | nil => exact .nil
  | plain hc het hsu r ih =>
    refine .plain hc (fun a oe cls d pn hz hd => ?_) ih
    refine ⟨fun pins s σ H E I ⟨y, dd, fv, ho, e1, e2, h⟩ => ?_⟩
    subst e1 e2
    exact ((hsu a oe y dd fv pn ho hz hd).pss (Ξ := noX) takes_no).run pins s σ H E I h
  | named hi hln hc het hsu r ih =>
    refine .named hi hln hc (fun a oe cls d pn hz hd => ?_) ih
    refine ⟨fun pins s σ H E I ⟨y, dd, fv, ho, e1, e2, h⟩ => ?_⟩
    subst e1 e2
    exact ((hsu a oe y dd fv pn ho hz hd).pss (Ξ := noX) takes_no).run pins s σ H E I h
theorem HdsQ.wish {D : PEnds} (h : HdsQ X g hds l l') {y : Exn} {ρ' : PSt} {τ' : List SV} {vs' : List V} {σ' : L2.St} {H' : Hp} {dd : Addr} {fv : List (Str × V)} (S' : SR X.K g ρ' σ' τ' vs' H') (ho : y.cls.own = true)
    (e3 : H' dd = some (.xd fv)) (r3 : Repf X.K (fun _ => True) H' y.fs fv) (hq : D.ex y ρ' → WQ X g D.ex (.ref (g.T.ea y.cls)) (some dd) σ' H') (q : rHs D y ρ' l) :
    wManyA X.K (WQ X g D.ex) (endsQ X g [] [] D) l' (.ref (g.T.ea y.cls)) (some dd) σ' H' := by
  have S1 : SR X.K g ρ' σ' [] [] H' := SR.drop (svs := τ') (us := vs') S'.tlen (by rw [List.append_nil, List.append_nil]; exact S')
  induction h with
  | nil => exact hq q
  | @plain x c cx psu b₀ suite np pos' hds l l' hc het hsu r ih =>
    refine ⟨_, het _ ho, fun hb a ha => ?_, fun hb => ih (ifB.f q hb)⟩
    refine ⟨y, dd, fv, ho, rfl, rfl, [], [], _, _, nobor_nil, rfl, S1.toexc e3 r3, ifB.t q hb a, fun ρ2 σ2 H2 S3 q => ⟨ρ2, S3.unexc, q⟩, fun sv ρ2 v σ2 H2 S3 q => ⟨σ2, sv, ρ2, S3.unexc, q⟩, fun ρ2 σ2 H2 S3 q => ⟨ρ2, S3.unexc, q⟩, fun ρ2 σ2 H2 S3 q => ⟨ρ2, S3.unexc, q⟩⟩
  | @named x n c cx i psu b₀ suite np pos' hds l l' hi hln hc het hsu r ih =>
    refine ⟨_, het _ ho, fun hb a ha => ?_, fun hb => ih (ifB.f q hb)⟩
    have S2 := (S1.put i nobor_nil (d := .ref a) (v := .ref a) rfl).toexc e3 r3
    refine ⟨y, dd, fv, ho, rfl, rfl, [], [], _, _, nobor_nil, rfl, S2, ifB.t q hb a, fun ρ2 σ2 H2 S3 q => ⟨ρ2.set i .no, S3.unexc.clear i nobor_nil, q⟩, fun sv ρ2 v σ2 H2 S3 q => ⟨σ2, sv, ρ2, S3.unexc, q⟩, fun ρ2 σ2 H2 S3 q => ⟨ρ2.set i .no, S3.unexc.clear i nobor_nil, q⟩, fun ρ2 σ2 H2 S3 q => ⟨ρ2.set i .no, S3.unexc.clear i nobor_nil, q⟩⟩
theorem q_try_many (hs : X.stack = X.env :: X.outer) (hf : X.env.frame = some X.env.locals) (hN : X.N.Nodup)
    (hb : ∀ (pn : List (Addr × Obj)) (xe : Value → Shared → Prop), PassesOwn (model X.prog X.w) X.A X.env xe → QSs (X.tr pn xe) g body pb)
    (hh : HdsQ X g (h₀ :: hds) l l') : QS0 X g (.Try body (h₀ :: hds) [] [] pos) (rTryMany pb l) := by
  refine QS0.of (t := fun Ξ => fun D σ H => tBody X g pb (wManyA X.K (WQ X g Ξ) D l') D σ H) (fun Ξ tk => ps_try_manyA hs hf hN tk (fun W pn xe tkW hp => ?_) hh.hdsA) (fun ρ D σ H S hw => ?_)
  · refine ⟨fun pins s σ H E I ⟨Ξ', imp, h⟩ => ?_⟩
    exact ((hb pn xe hp).pss (Ξ := Ξ') (Takes.imp tkW imp)).run pins s σ H E I h
  · refine ⟨(fun e ρ' => rHs D e ρ' l), fun c' d σ' H' hx => ?_, tqs_in (D := { D with ex := _ }) nobor_nil S hw⟩
    obtain ⟨y, ρ', τ', vs', S', ⟨⟨ho, e1⟩, dd, fv, e2, e3, r⟩, hif⟩ := hx
    subst e1 e2
    exact hh.wish S' ho e3 r (fun q => ⟨y, ρ', τ', vs', S', ⟨⟨ho, rfl⟩, dd, fv, rfl, e3, r⟩, q⟩) hif
end
end Q

namespace Q
open PySem PySem.Spec PyProof.Rows L2
/-! ### methods of a text -/
theorem mt_index0 {X : Cx} : MtR X "str.index" (fun x xs H Q => ∃ (a b : Str) (k : Nat), x = .str a ∧ xs = [.str b] ∧ Txt.index0 a b = some k ∧ Q (.int (k : Nat)) H) := by
  intro pins s σ H x xs v us Q I rx rs h
  obtain ⟨a, b, k, rfl, rfl, hk, w⟩ := h
  obtain ⟨t, rfl⟩ := rx
  cases rs with
  | cons r1 rs =>
    cases rs
    obtain ⟨u, rfl⟩ := r1
    cases q : Builtin.Str.occurrences a b 0 a.length 1 with
    | nil =>
      unfold Txt.index0 at hk
      rw [q] at hk
      cases hk
    | cons k' rest =>
      have e : k' = k := by
        unfold Txt.index0 at hk
        rw [q] at hk
        exact Option.some.inj hk
      subst e
      exact PySem.SC.index q ⟨.int (k' : Nat), H, I.tok _, ⟨_, rfl⟩, w⟩
def oStrip : SOp := fun a _ d k => match d with
  | .str b => a.length ≤ 16777216 ∧ k (.fr true (.str (Txt.stripChars a b)))
  | _ => False
def oIndexS : SOp := fun a _ d k => match d with
  | .str b => ∃ i : Nat, Txt.index0 a b = some i ∧ k (.fr true (.int (i : Nat)))
  | _ => False
def oParts : SOp := fun a _ d k => match d with
  | .str b => ((b.length == 0) = false ∧ a.length ≤ 16777216) ∧ k (.fr true (.tup [.str (Txt.partition a b).1, .str (Txt.partition a b).2.1, .str (Txt.partition a b).2.2]))
  | _ => False
section
variable {X : Cx} {g : Gh} {a b : Expr} {pa pb : RE} {pos apos : Pos}
theorem rd_strip : SOpRd X g (fun x xs H Q => ∃ a b, x = .str a ∧ xs = [.str b] ∧ a.length ≤ sizeLine ∧ Q (.str (Txt.stripChars a b)) H) oStrip := by
  intro σ τ vs ρ H a y m d k Q S v h kk
  unfold oStrip at h
  split at h
  · cases view_str v
    exact ⟨_, _, rfl, rfl, by rw [sizeLine_eq]; omega, kk _ _ _ (S.pushF (m := true) (d := .str _) rfl) h.2⟩
  · exact h.elim
theorem rd_find : SOpRd X g (fun x xs H Q => ∃ a b, x = .str a ∧ xs = [.str b] ∧ Q (.int (Txt.find a b)) H) oFind := by
  intro σ τ vs ρ H a y m d k Q S v h kk
  unfold oFind at h
  split at h
  · cases view_str v
    exact ⟨_, _, rfl, rfl, kk _ _ _ (S.pushF (m := true) (d := .int _) rfl) h⟩
  · exact h.elim
theorem rd_indexS : SOpRd X g (fun x xs H Q => ∃ (a b : Str) (k : Nat), x = .str a ∧ xs = [.str b] ∧ Txt.index0 a b = some k ∧ Q (.int (k : Nat)) H) oIndexS := by
  intro σ τ vs ρ H a y m d k Q S v h kk
  unfold oIndexS at h
  split at h
  · cases view_str v
    obtain ⟨i, e, q⟩ := h
    exact ⟨_, _, i, rfl, rfl, e, kk _ _ _ (S.pushF (m := true) (d := .int _) rfl) q⟩
  · exact h.elim
theorem rd_parts : SOpRd X g (fun x xs H Q => ∃ a b, x = .str a ∧ xs = [.str b] ∧ (b.length == 0) = false ∧ a.length ≤ sizeLine ∧
    ∀ p, H p = none → Q (.ref p) (upd H p (.tup [.str (Txt.partition a b).1, .str (Txt.partition a b).2.1, .str (Txt.partition a b).2.2]))) oParts := by
  intro σ τ vs ρ H a y m d k Q S v h kk
  unfold oParts at h
  split at h
  · cases view_str v
    exact ⟨_, _, rfl, rfl, h.1.1, by rw [sizeLine_eq]; omega, fun p hp => kk _ _ _ (S.newTup (m := true) (xs := [.str _, .str _, .str _]) hp ⟨_, _, rfl, rfl, _, _, rfl, rfl, _, _, rfl, rfl, rfl⟩) h.2⟩
  · exact h.elim
variable (hs : starEach [b] X.env = [(false, eval b X.env)] := by rfl) (hline : (apos.endLine == pos.line) = true := by rfl)
theorem q_strip (ha : QE X g a pa) (hb : QE X g b pb) (hbase : attributeBase a "strip" X.env (eval a X.env) = eval a X.env := by rfl) (hs : starEach [b] X.env = [(false, eval b X.env)] := by rfl) (hline : (apos.endLine == pos.line) = true := by rfl) :
    QE X g (.Call (.Attribute a "strip" apos) [b] [] pos) (rS1 oStrip pa pb) :=
  QE.of (fun Ξ tk => pe_m1 F.slot_str_strip F.type_str_strip mt_stripChars (ha.pe tk) (hb.pe tk) hs hbase hline) fun τ vs ρ Φ Ξ σ H S hw => s1_rd rd_strip S hw
theorem q_find (ha : QE X g a pa) (hb : QE X g b pb) (hbase : attributeBase a "find" X.env (eval a X.env) = eval a X.env := by rfl) (hs : starEach [b] X.env = [(false, eval b X.env)] := by rfl) (hline : (apos.endLine == pos.line) = true := by rfl) :
    QE X g (.Call (.Attribute a "find" apos) [b] [] pos) (rS1 oFind pa pb) :=
  QE.of (fun Ξ tk => pe_m1 F.slot_str_find F.type_str_find mt_find (ha.pe tk) (hb.pe tk) hs hbase hline) fun τ vs ρ Φ Ξ σ H S hw => s1_rd rd_find S hw
theorem q_indexS (ha : QE X g a pa) (hb : QE X g b pb) (hbase : attributeBase a "index" X.env (eval a X.env) = eval a X.env := by rfl) (hs : starEach [b] X.env = [(false, eval b X.env)] := by rfl) (hline : (apos.endLine == pos.line) = true := by rfl) :
    QE X g (.Call (.Attribute a "index" apos) [b] [] pos) (rS1 oIndexS pa pb) :=
  QE.of (fun Ξ tk => pe_m1 F.slot_str_index F.type_str_index mt_index0 (ha.pe tk) (hb.pe tk) hs hbase hline) fun τ vs ρ Φ Ξ σ H S hw => s1_rd rd_indexS S hw
theorem q_parts (ha : QE X g a pa) (hb : QE X g b pb) (hbase : attributeBase a "partition" X.env (eval a X.env) = eval a X.env := by rfl) (hs : starEach [b] X.env = [(false, eval b X.env)] := by rfl) (hline : (apos.endLine == pos.line) = true := by rfl) :
    QE X g (.Call (.Attribute a "partition" apos) [b] [] pos) (rS1 oParts pa pb) :=
  QE.of (fun Ξ tk => pe_m1 F.slot_str_partition F.type_str_partition mt_partition (ha.pe tk) (hb.pe tk) hs hbase hline) fun τ vs ρ Φ Ξ σ H S hw => s1_rd rd_parts S hw
theorem q_upper (ha : QE X g a pa) (hbase : attributeBase a "upper" X.env (eval a X.env) = eval a X.env := by rfl) (hline : (apos.endLine == pos.line) = true := by rfl) :
    QE X g (.Call (.Attribute a "upper" apos) [] [] pos) (rS0 oUpper pa) :=
  QE.of (fun Ξ tk => pe_m0 F.slot_str_upper F.type_str_upper mt_upper (ha.pe tk) hbase hline) fun τ vs ρ Φ Ξ σ H S hw =>
    s0_rd (fun a k H Q h kk => ⟨a, rfl, rfl, h.1, kk (.str _) _ h.2 fun _ _ => rfl⟩) S hw
end
/-! ### products of any size, text * any number -/
def repW (x : Str) (n : Int) : Str := ⟨(List.replicate n.toNat x.cps.toList).flatten.toArray⟩
def oRepW : Op2 := fun m1 d1 m2 d2 k => match d1, d2 with
  | .str x, .int n => (-1000 ≤ n ∧ n ≤ 5000 ∧ x.length ≤ 1000) ∧ k (.fr true (.str (repW x n)))
  | .int i, .int j => CMulW i j ∧ k (.fr true (.int (i * j)))
  | d1, d2 => oRep m1 d1 m2 d2 k
abbrev rRepW : R2 := fun x y H Q => ∃ z n, x = V.str z ∧ y = .int n ∧ (-1000 ≤ n ∧ n ≤ 5000 ∧ z.length ≤ 1000) ∧ Q (.str (repW z n)) H
theorem repW_len (z : Str) (n : Int) : (repW z n).length = n.toNat * z.length := by
  show (List.replicate n.toNat z.cps.toList).flatten.toArray.size = _
  rw [List.size_toArray]
  simp [List.length_flatten]
  rfl
section
variable {X : Cx} {g : Gh} {a b : Expr} {pa pb : RE} {pos : Pos}
theorem op_repW : OpR X (binaryOp .Mult) rRepW := by
  intro pins s σ H x y v u Q I rx ry h
  obtain ⟨z, n, rfl, rfl, ⟨h1, h2, h4⟩, q⟩ := h
  obtain ⟨t, rfl⟩ := rx
  obtain ⟨t', rfl⟩ := ry
  have hm : z.length * n.toNat ≤ 1000 * 5000 := Nat.mul_le_mul h4 (by omega)
  refine P.mul_str (by rw [decide_eq_false (by omega), decide_eq_false (by omega)]; rfl) (fun hn hz => ?_) (fun hn hz => ?_) ?_
  · have hq : (2 ^ 63 - 1) / n ≥ 1000 := by
      rw [ge_iff_le, Int.le_ediv_iff_mul_le (by omega)]
      omega
    omega
  · unfold PySem.Builtin.Str.tooLong
    exact decide_eq_false (by rw [sizeLine_eq]; omega)
  · by_cases hn : n < 1
    · rw [if_pos hn]
      have e : repW z n = Str.empty := by
        unfold repW
        rw [show n.toNat = 0 from by omega]
        rfl
      exact ⟨by decide, .str (repW z n), H, I.tok _, ⟨_, by rw [e]⟩, q⟩
    · rw [if_neg hn]
      by_cases hc : (n == 1 || z.length == 0) = true
      · rw [if_pos hc]
        have e : repW z n = z := by
          unfold repW
          rcases Bool.or_eq_true_iff.mp hc with h | h
          · have h := eq_of_beq h
            subst h
            show (⟨(List.flatten [z.cps.toList]).toArray⟩ : Str) = z
            simp
          · have h := eq_of_beq h
            have hz : z.cps.toList = [] := List.eq_nil_of_length_eq_zero (by rw [Array.length_toList]; exact h)
            rw [hz]
            have : (List.replicate n.toNat ([] : List Nat)).flatten = [] := by simp
            rw [this, ← hz]
        exact ⟨.str (repW z n), H, I, ⟨t, by rw [e]⟩, q⟩
      · rw [if_neg hc, foldl_arr]
        have e : (#[] : Array Nat) ++ (List.replicate n.toNat z.cps.toList).flatten.toArray = (repW z n).cps := by simp [repW]
        rw [e]
        refine ⟨?_, .str (repW z n), H, I.tok _, ⟨_, rfl⟩, q⟩
        show (repW z n).length ≤ _
        rw [repW_len, Nat.mul_comm, sizeLine_eq]
        omega
abbrev rRepWQ : R2 := fun x y H Q => (rRepQ x y H Q ∨ rI CMulW (fun i j => .int (i * j)) x y H Q) ∨ rRepW x y H Q
theorem rd_repW : OpRd X g rRepWQ oRepW := by
  intro σ τ vs ρ H x y m1 m2 d1 d2 k Q S v1 v2 hh kk
  unfold oRepW at hh
  split at hh
  · cases view_str v1
    cases view_int v2
    exact .inr ⟨_, _, rfl, rfl, hh.1, kk _ _ _ (S.pushF (m := true) (d := .str _) rfl) hh.2⟩
  · cases view_int v1
    cases view_int v2
    exact .inl (.inr ⟨_, _, rfl, rfl, hh.1, kk _ _ _ (S.pushF (m := true) (d := .int _) rfl) hh.2⟩)
  · exact .inl (.inl (rd_rep σ τ vs ρ H x y m1 m2 d1 d2 k Q S v1 v2 hh kk))
theorem q_repW (ha : QE X g a pa) (hb : QE X g b pb) : QE X g (.BinOp a .Mult b pos) (rOp2 oRepW pa pb) := q_op (((op_mul.or op_repR).or op_mulW).or op_repW) rd_repW ha hb
end
end Q

namespace Q
open PySem PySem.Spec PyProof.Rows L2
/-! ### a list against the empty list -/
def oEq0 : Op2 := fun _ d1 _ d2 k => match d1, d2 with
  | .lst xs, .lst [] => k (.fr true (.bl xs.isEmpty))
  | _, _ => False
section
variable {X : Cx} {g : Gh}
abbrev rEq0 : R2 := fun x y H Q => ∃ l b xs, x = V.ref l ∧ y = V.ref b ∧ Rd H l (.lst xs) ∧ Rd H b (.lst []) ∧ Q (.bl xs.isEmpty) H
theorem op_eq0 (hu : X.A.units + 64 < cLine) : OpR X (compareOp .Eq) rEq0 := by
  intro pins s σ H x y v u Q I rx ry h
  obtain ⟨l, b, xs, rfl, rfl, h1, h2, q⟩ := h
  cases rx
  cases ry
  obtain ⟨z, its, n, r, e⟩ := h1.ok I.hok
  obtain ⟨z2, its2, n2, r2, e2⟩ := h2.ok I.hok
  have hl := r.length
  have hl2 := r2.length
  cases its2 with
  | cons _ _ => cases hl2
  | nil =>
    have hu' : X.A.units < cLine := by omega
    cases xs with
    | nil =>
      cases its with
      | cons _ _ => cases hl
      | nil => exact P.eq_list (e := fun _ => true) e e2 rfl (fun j h1 _ => absurd h1 (Nat.not_lt_zero j)) hu' ⟨.bl true, H, I, rfl, q⟩
    | cons a t =>
      refine P.eq_list_lengths e e2 ?_ hu' ⟨.bl false, H, I, rfl, q⟩
      cases its with
      | nil => cases hl
      | cons _ _ => rfl
theorem rd_eq0 : OpRd X g rEq0 oEq0 := by
  intro σ τ vs ρ H x y m1 m2 d1 d2 k Q S v1 v2 hh kk
  unfold oEq0 at hh
  split at hh
  · obtain ⟨a, ws, rfl, c, r⟩ := v1
    obtain ⟨b, ws2, rfl, c2, r2⟩ := v2
    have e2 : ws2 = [] := by have := reps_len r2; exact List.length_eq_zero_iff.mp this.symm
    subst e2
    refine ⟨a, b, ws, rfl, rfl, c, c2, ?_⟩
    have e : ws.isEmpty = (‹List D›).isEmpty := by
      have := reps_len r
      rename_i xs
      cases xs <;> cases ws <;> first | rfl | cases this
    rw [e]
    exact kk _ _ _ (S.pushF (m := true) (d := .bl _) rfl) hh
  · exact hh.elim
end
end Q

/-! ### a def that is handed the error which is handled: its object stands pinned -/
namespace L2
open PySem PySem.Spec PyProof.Rows L2H HotX
abbrev SpE := Addr × Obj → Sp
structure FnE (P : Program) (w : World) (K : PySem.W.Frag) (mg : Str → Option Value) (base : Heap) (CX : CXT) (k : Nat) (f : Addr) (fd : FuncData) (ps : List Str) (sp : SpE) : Prop where
  len : ∀ p vs H Q E, sp p vs H Q E → vs.length = ps.length
  run : ∀ (A : Around) (outer : List Env) (s : Shared) (H : Hp) (args : Args) (us : List Value) (vs : List V) (Q : VK) (E : XK) (p : Addr × Obj), RoomH k A → Hot1 A p → PinOk outer H s p → Env0 P w K mg base A outer s H → BindsTo s fd args (ps.zip us) → Vals vs us → sp p vs H Q E →
    codeAny (model P w) A (.call (.ref f) args) (CR CX outer P w H s Q E) s
theorem fn_ofE {CX : CXT} {P : Program} {w : World} {K : PySem.W.Frag} {mg : Str → Option Value} {base : Heap} {k : Nat} {f : Addr} {name qual : Str} {params : Arguments} {body : List Stmt} {scope : Scope} {dV kV doc pm cdv ct oc : Value} {an od : Option Addr}
    {osl : Array (Option Value)} {N ps : List Str} {sp : SpE} (lk : K.lookup f = some ⟨oc, od, .func (PySem.W.fnOf name qual params body scope dV kV doc pm an cdv ct), osl⟩) (hcd : PySem.W.codeIn K cdv qual = true) (S : FnScope N ps scope)
    (len : ∀ p vs H Q E, sp p vs H Q E → vs.length = ps.length)
    (hbody : ∀ (A : Around) (outer : List Env) (s : Shared) (H : Hp) (vs : List V) (Q : VK) (E : XK) (p : Addr × Obj), Hot1 A p → RoomH k (A.deeper (envOfC qual scope s.heap.objs.size f cdv)) → sp p vs H Q E →
      ∃ t, PSs (cxH CX P w K mg base N qual scope f cdv A outer s H E p) body t ∧ t { nx := fun _ H' => Q .non H', rt := Q } (L2.start N vs) H) :
    FnE P w K mg base CX (k + 1) f (PySem.W.fnOf name qual params body scope dV kV doc pm an cdv ct) ps sp := by
  refine ⟨len, fun A outer s H args us vs Q E p hr hot hpin e0 hb r hsp => ?_⟩
  have hl := len _ _ _ _ _ hsp
  have KX : K.In s.heap := e0.mod.kin.keeps fun b o e => (e0.bs b o e).1
  have lim : s.heap.NoLimit := e0.mod.nolimit.keeps fun b o e => (e0.bs b o e).1
  have hkind : ∀ y ∈ ps.zip us, scope.names.lookup y.1 = some .local ∨ (scope.names.lookup y.1 = some .cell ∧ ((cellsFrom (s.heap.objs.size + 1) scope.names []).lookup y.1).isSome = true) := fun ⟨n, v⟩ hy => by
    rcases S.par n (List.of_mem_zip hy).1 with q | q
    · exact .inl q
    · exact .inr ⟨q, PySem.W.cellsFrom_some _ _ _ (.inl q)⟩
  refine codeAny_call_function hr.depth (KX _ _ lk) rfl S.co S.gen rfl (PySem.W.codeRec_of KX hcd) (hb _ _ _ _ ?_)
  refine wpAny_newFunctionEnv_cells S.kind hkind fun env he s1 x => ?_
  subst he
  refine ⟨lim.keeps x.toInCall.keep, codeAny_func ?_⟩
  obtain ⟨t, ht, hq⟩ := hbody A outer s H vs Q E p hot (hr.deeper _) hsp
  have I : Inv (cxH CX P w K mg base N qual scope f cdv A outer s H E p) [] (L2.start N vs) H s1 := inv_startH S hpin e0 hl r x
  refine wpAny_mono (ht.run [] s1 (L2.start N vs) H _ I hq) (fun fl s' hs => ?_) fun e s' hs => hs
  have fin : ∀ {σ' : St} {H' : Hp} {v : V} {u : Value}, Inv (cxH CX P w K mg base N qual scope f cdv A outer s H E p) [] σ' H' s' → RelV v u → Q v H' → CE outer P w H s Q u s' :=
    fun {σ' H' v u} J rv q => ⟨v, H', J.os, J.bare, J.base, J.hok, rv, q⟩
  cases fl with
  | ret u =>
    obtain ⟨v, σ', H', J, rv, q⟩ := hs
    exact fin J rv q
  | next =>
    obtain ⟨σ', H', J, q⟩ := hs
    exact fin (v := V.non) (u := Value.none) J rfl q
  | brk =>
    obtain ⟨_, _, _, q⟩ := hs
    exact False.elim q
  | cont =>
    obtain ⟨_, _, _, q⟩ := hs
    exact False.elim q
section
variable {X : Cx} {CX : CXT} {k : Nat} {f : Addr} {fd : FuncData} {ps : List Str} {sp : SpE} {E : St → XK} {x : Str} {q pos : Pos} {e : Expr} {es : List Expr} {t : TA} {p : Addr × Obj}
theorem run_fnE {pins : List (Addr × Obj)} {σ : St} {H : Hp} {s : Shared} {Q : VK} {us : List Value} {vs : List V} (F : FnE X.prog X.w X.K X.mg X.base CX k f fd ps sp) (hr : RoomH k X.A) (hh : Hot1 X.A p) (hp : p ∈ X.pn) (hb : Binds X.K fd ps []) (hx : PassesAt CX X σ (E σ))
    (I : Inv X pins σ H s) (r : Vals vs us) (h : sp p vs H Q (E σ)) : wpAny (model X.prog X.w) X.A (call (.ref f) us) (EP X pins σ Q) X.xe s := by
  have hl : us.length = ps.length := by rw [← r.length]; exact F.len _ _ _ _ _ h
  have b := hb s us I.kIn (by rw [List.append_nil]; exact hl)
  rw [List.append_nil] at b
  have P1 := I.pin p (List.mem_append_left _ hp)
  have hpin : PinOk X.stack H s p := ⟨P1.1, P1.2.1, fun hm => (List.mem_cons.mp (I.stkSub p.1 hm)).elim P1.2.2.1 P1.2.2.2.1, P1.2.2.2.2⟩
  refine wpAny_call (codeAny_mono (F.run X.A X.stack s H ⟨us, []⟩ us vs Q (E σ) p hr hh hpin I.env0 b r h) fun r s' hq => ?_)
  cases r with
  | error e => exact hx pins H s e s' I hq
  | ok fl =>
    cases fl with
    | ret u => exact I.after hq
    | next => exact False.elim hq
    | brk => exact False.elim hq
    | cont => exact False.elim hq
theorem pe_callE (F : FnE X.prog X.w X.K X.mg X.base CX k f fd ps sp) (hr : RoomH k X.A) (hh : Hot1 X.A p) (hp : p ∈ X.pn) (hg : Gl X x) (hm : X.mg x = some (.ref f)) (hk : PySem.W.keepIn X.K (.ref f) = true) (hb : Binds X.K fd ps []) (hx : ∀ σ, PassesAt CX X σ (E σ))
    (ha : PA X (e :: es) t) (hdb : (x == ("__debug__" : Str)) = false := by decide) (he : starEach (e :: es) X.env = (false, eval e X.env) :: starEach es X.env := by rfl) (hpl : (backTo pos (starEach es X.env)).any (·.1) = false := by rfl) :
    PE X (.Call (.Name x q) (e :: es) [] pos) (tCallS (sp p) E t) := by
  refine ⟨fun pins s σ H Q I h => ?_⟩
  refine wpAny_Call_Name_kw (ld_glob I hg hm ?_ hdb)
  refine PySem.W.callWith_K (h₀ := X.base) I.ok.mod.kin hk (thn (ha.run pos pins s σ H _ I h) fun us s1 ⟨vs, H1, I1, r, q⟩ => ⟨I1.kIn, ?_⟩) he hpl
  exact run_fnE F hr hh hp hb (hx σ) I1 r q
end
end L2

namespace Q
open PySem PySem.Spec PyProof.Rows L2 L2H
/-! ### a def that is handed the error which is handled: f(e) in a suite -/
abbrev QSpecE := Exn → (SV → Prop) → Prop
def spQE (K : PySem.W.Frag) (T : TBs) (qe : QSpecE) : SpE := fun p vs H Q E => ∃ (y : Exn) (dd : Addr) (fv : List (Str × V)), (y.cls.own = true ∧ Zc (.ref (T.ea y.cls)) (some dd) p.2 ∧ (∃ ws, p.2.data = .fields ws) ∧ H dd = some (.xd fv) ∧ Repf K (fun _ => True) H y.fs fv) ∧ vs = [.ref p.1] ∧
  spQ K T [.s] (fun ds R _ => ds = [.ref p.1] ∧ qe y R) vs H Q E
def endsE (a : Addr) (R : SV → Prop) : PEnds := { endsF [.s] [.ref a] R (fun _ => False) with ex := noX }
section
variable {P : Program} {w : World} {K : PySem.W.Frag} {mg : Str → Option Value} {base : Heap}
theorem q_fnE {x qual : Str} {st : Stmt} {f : Addr} {fd : FuncData} {N : List Str} {n1 : Str} {k : Nat} {T : TBs} {qe : QSpecE} {pr : Addr → Exn → RS} (F : Fun K x qual st f fd) (S : FnScope N [n1] (defScope st))
    (hbody : ∀ (cdv : Value) (A : Around) (outer : List Env) (s : Shared) (H : Hp) (E : XK) (g : Gh) (p : Addr × Obj) (y : Exn) (dd : Addr) (fv : List (Str × V)), HotC (cxH (L2.CX P w) P w K mg base N qual (defScope st) f cdv A outer s H E p) → RoomH k (A.deeper (envOfC qual (defScope st) s.heap.objs.size f cdv)) → g.T = T → y.cls.own = true → Zc (.ref (g.T.ea y.cls)) (some dd) p.2 → (∃ ws, p.2.data = .fields ws) →
      QSs (cxH (L2.CX P w) P w K mg base N qual (defScope st) f cdv A outer s H E p) (g.exc K dd fv y) (defBody st) (pr p.1 y))
    (hq : ∀ (a : Addr) (y : Exn) (R : SV → Prop), qe y R → pr a y (endsE a R) (.fr true (.ref a) :: List.replicate (N.length - 1) .no)) : FnE P w K mg base (L2.CX P w) (k + 1) f fd [n1] (spQE K T qe) := by
  obtain ⟨oc, od, kV, doc, pm, an, cdv, ct, osl, rfl, lk, hcd⟩ := F.ex
  refine fn_ofE lk hcd S (fun p vs H Q E h => ?_) fun A outer s H vs Q E p hot hr h => ?_
  · obtain ⟨y, dd, fv, _, e, _⟩ := h
    rw [e]
    rfl
  · obtain ⟨y, dd, fv, ⟨ho, hz, hf, hx, hrf⟩, rfl, G, Sx, ds, R, F', hG, hS, hS0, ht, ha, nd, ⟨rfl, hqs⟩, h1, h2⟩ := h
    have B := hbody _ A outer s H E ⟨G, [], T, H, [], Sx⟩ p y dd fv ⟨p, hot, List.mem_cons_self⟩ hr rfl ho hz hf
    have S0 := sr_start (X := cxH (L2.CX P w) P w K mg base N qual (defScope st) f cdv A outer s H E p) (n := N.length - 1) ha nd hG hS ht
    refine ⟨_, B.pss (Ξ := noX) takes_no, ?_⟩
    have e : L2.start N [V.ref p.1] = [V.ref p.1].map some ++ List.replicate (N.length - 1) none := by
      unfold L2.start
      rfl
    rw [e]
    refine ⟨[], [], _, endsE p.1 R, (fun sv h => absurd h (by simp)), rfl, S0.toexc hx hrf, hq p.1 y R hqs, fun ρ' σ' H' S' z => ?_, fun sv ρ' v σ' H' S' z => ?_, fun ρ' σ' H' S' z => z, fun ρ' σ' H' S' z => z⟩
    · exact h1 (.fr true .non) .non H' σ' (callR_of (ms := [.s]) (ds := [.ref p.1]) S'.unexc z.2) ⟨.non, rfl, rfl⟩ rfl (fun a e => nomatch (show (none : Option Addr) = some a from e)) z.1
    · have S' := S'.unexc
      obtain ⟨z1, z2, z3⟩ := z
      have main : ∀ (tv : SV), tv.isBor = false → (tv, some v) ∈ ents ρ' σ' [sv] [v] → R tv → Q v H' := fun tv hb hm hR => by
        refine h1 tv v H' σ' (callR_of (ms := [.s]) (ds := [.ref p.1]) S'.pop z3) (S'.all _ hm) hb (fun a e => ?_) hR
        rcases S'.own _ hm a e with q | ⟨q1, q2⟩
        · exact q
        · cases (show a ∈ ([] : List Addr) from q1)
      cases sv with
      | bor i =>
        have e1 : SV.mv ρ' (.bor i) = (ρ'[i]?).getD .no := rfl
        have gone : R .no → Q v H' := fun hR => h1 .no v H' σ' (callR_of (ms := [.s]) (ds := [.ref p.1]) S'.pop z3) trivial rfl (fun a e => nomatch (show (none : Option Addr) = some a from e)) hR
        cases q : ρ'[i]? with
        | none =>
          rw [e1, q] at z1
          exact gone z1
        | some tv =>
          rw [e1, q] at z1 z2
          by_cases hn : tv = .no
          · subst hn; exact gone z1
          · exact main tv (S'.nb _ (List.mem_of_getElem? q)) (List.mem_cons_of_mem _ (List.mem_of_getElem? (ents_at S'.pop.tlen i q (S'.borSlot S'.top q hn)))) z1
      | _ => exact main _ rfl List.mem_cons_self z1
end
end Q

namespace Q
open PySem PySem.Spec PyProof.Rows L2 L2H
/-- f(e), e the error in slot i -/
def rCallE (a : Addr) (y : Exn) (qe : QSpecE) (i : Nat) : RE := fun ρ k _ => match ρ[i]? with
  | some (.fr _ (.ref b)) => b = a ∧ qe y (fun r => k (r.dem true) ρ)
  | _ => False
theorem run_fnQE {X : Cx} {σ : L2.St} {pins : List (Addr × Obj)} {s : Shared} {H : Hp} {k : Nat} {f : Addr} {fd : FuncData} {ps : List Str} {sp : SpE} {us : List Value} {vs : List V} {Q : VK} {E : XK} {W : WX} {p : Addr × Obj} (F : FnE X.prog X.w X.K X.mg X.base (L2.CX X.prog X.w) k f fd ps sp) (hr : RoomH k X.A) (hh : Hot1 X.A p) (hp : p ∈ X.pn)
    (hb : Binds X.K fd ps []) (tk : Takes X W) (I : L2.Inv X pins σ H s) (r : Vals vs us) (h : sp p vs H Q E) (hE : ∀ c d H', Stab0 H H' → E c d H' → W c d σ H') :
    wpAny (model X.prog X.w) X.A (call (.ref f) us) (fun u s' => ∃ v H', L2.Inv X pins σ H' s' ∧ RelV v u ∧ Stab0 H H' ∧ Q v H') X.xe s := by
  have hl : us.length = ps.length := by rw [← r.length]; exact F.len _ _ _ _ _ h
  have b := hb s us I.kIn (by rw [List.append_nil]; exact hl)
  rw [List.append_nil] at b
  have P1 := I.pin p (List.mem_append_left _ hp)
  have hpin : PinOk X.stack H s p := ⟨P1.1, P1.2.1, fun hm => (List.mem_cons.mp (I.stkSub p.1 hm)).elim P1.2.2.1 P1.2.2.2.1, P1.2.2.2.2⟩
  refine wpAny_call (codeAny_mono (F.run X.A X.stack s H ⟨us, []⟩ us vs Q E p hr hh hpin I.env0 b r h) fun res s' hq => ?_)
  cases res with
  | error e =>
    obtain ⟨a, B, H', cls, d, e1, fl, hok, ub, na, os, ag, z⟩ := hq
    exact tk _ _ (XE.of_call (E := fun c d H' => Stab0 H H' ∧ E c d H') I (fun c d H' q => hE c d H' q.1 q.2) ⟨a, B, H', cls, d, e1, fl, hok, ub, na, os, ag, ⟨ub.frzs, ub.tups⟩, z⟩)
  | ok fl =>
    cases fl with
    | ret u =>
      obtain ⟨v, H', os, bare, un, hok, rv, q⟩ := hq
      obtain ⟨hh, gg, dd, t, os'⟩ := s'
      obtain rfl : os' = s.os := os
      exact ⟨v, H', I.call (h' := hh) (g' := gg) (d' := dd) (t' := t) (ch := []) un hok bare (fun b z => absurd z (by simp)), rv, ⟨un.frzs, un.tups⟩, q⟩
    | next => exact False.elim hq
    | brk => exact False.elim hq
    | cont => exact False.elim hq
section
variable {X : Cx} {g : Gh} {a dd : Addr} {oe : Obj} {y : Exn} {fv : List (Str × V)} {pn : List (Addr × Obj)}
theorem q_callE {k : Nat} {f : Addr} {fd : FuncData} {n1 x n : Str} {qe : QSpecE} {p pos p2 : Pos} (ho : y.cls.own = true) (hz : Zc (.ref (g.T.ea y.cls)) (some dd) oe) (hf : ∃ ws, oe.data = .fields ws) (hcx : ∀ ws : Array Value, oe.data = .fields ws → ws[2]? = some .none)
    (F : FnE X.prog X.w X.K X.mg X.base (L2.CX X.prog X.w) k f fd [n1] (spQE X.K g.T qe)) (hr : RoomH k X.A) (hp : (a, oe) ∈ X.pn) (hg : Gl X x) (hm : X.mg x = some (.ref f)) (hk : PySem.W.keepIn X.K (.ref f) = true) (hb : Binds X.K fd [n1] []) (i : Nat)
    (hN : X.N[i]? = some n := by rfl) (hv : Vis X.env.scope n := by first | exact Or.inl rfl | exact Or.inr (Or.inl rfl) | exact Or.inr (Or.inr rfl)) (hdn : (n == ("__debug__" : Str)) = false := by decide) (hcd : (n == ("__classdict__" : Str)) = false := by decide)
    (hdb : (x == ("__debug__" : Str)) = false := by decide) (he : starEach [.Name n p2] X.env = (false, eval (.Name n p2) X.env) :: starEach [] X.env := by rfl)
    (hpl : (backTo pos (starEach [] X.env)).any (·.1) = false := by rfl) (hA : X.A.handled = some (.ref a) := by rfl) : QE X (g.exc X.K dd fv y) (.Call (.Name x p) [.Name n p2] [] pos) (rCallE a y qe i) := by
  refine ⟨fun pins s σ H τ vs ρ Φ Ξ tk I S hw => ?_⟩
  obtain ⟨m, e, q⟩ := rSlot_ok hw
  apply wpAny_Call_Name_kw
  refine ld_glob I hg hm ?_ hdb
  have pv : PA X [.Name n p2] _ := pa_cons (pe_var (i := i) hN hv hdn hcd) pa_nil he
  refine PySem.W.callWith_K (h₀ := X.base) I.ok.mod.kin hk (thn (pv.run pos pins s σ H (fun ws H1 => ws = [.ref a] ∧ H1 = H) I ⟨_, slot_val S e, rfl, rfl⟩) fun us s1 hx => ?_) he hpl
  obtain ⟨ws, H1, I1, r, rfl, rfl⟩ := hx
  refine ⟨I1.kIn, ?_⟩
  have ex1 := S.exc1
  refine thn (run_fnQE (Q := fun v H3 => ∃ sv σ0, CallR' X.K g.T (fun b => H1 b = none) [] H1 H3 ∧ SVR X.K ⟨(g.exc X.K dd fv y).gm true, [], g.T, H1, [], fun b => H1 b = none⟩ H3 σ0 sv (some v) ∧ sv.isBor = false ∧ (∀ b, Own sv (some v) b → H1 b = none) ∧ Φ (sv.dem true) ρ)
    (E := fun _ _ _ => False) F hr ⟨hA, _, hf.choose_spec, hcx _ hf.choose_spec⟩ hp hb tk I1 r ?_ (fun _ _ _ _ z => z.elim)) fun u s' hx => ?_
  · refine ⟨y, dd, fv, ⟨ho, hz, hf, ex1.1, ex1.2⟩, rfl, (g.exc X.K dd fv y).gm true, fun b => H1 b = none, [.ref a], fun r => Φ (r.dem true) ρ, fun _ => False, fun b hb _ => S.gnew b (S.free hb), fun b hb => hb, fun _ b hb => hb, S.tabs, ⟨rfl, trivial⟩, List.nodup_nil, ⟨rfl, q⟩, ?_, fun _ _ _ _ _ _ z => z⟩
    intro sv v H3 σ0 c hs hb ho hR
    exact ⟨sv, σ0, c, hs, hb, ho, hR⟩
  · obtain ⟨v, H3, I3, rv, st, sv, σ0, c, hs, hb2, ho2, hR⟩ := hx
    have hsc : ∀ b, H1 b = none → (g.exc X.K dd fv y).S b := fun b z => S.snew b (S.free z)
    have S3 := S.called (M := []) (fun b hb => by cases hb) (c.up hsc) st
    refine ⟨v, H3, sv.dem true, ρ, I3, rv, S3.push (svr_dem hsc hb2 hs) fun b e => ?_, hR⟩
    rw [own_dem] at e
    have hn := ho2 b e
    refine ⟨.inl (S.free hn), fun q hq z => ?_⟩
    obtain ⟨_, w, hw, _⟩ := svr_own (S.all q hq) z
    rw [hn] at hw
    cases hw
end
end Q

namespace Q
open PySem PySem.Spec PyProof.Rows L2 L2H
section
variable {X : Cx} {g : Gh} {a dd : Addr} {oe : Obj} {y : Exn} {fv : List (Str × V)} {pn : List (Addr × Obj)} {n : Str} {i : Nat} {cx : EC} {cs : List EC} {v : V} {u : Value} {vs : List V} {us : List Value} {p1 p2 p3 p4 : Pos} {C : Expr} {es : List Expr}
theorem err_atP (hp : (a, oe) ∈ X.pn) {pins : List (Addr × Obj)} {s : Shared} {σ : L2.St} {H : Hp} (I : L2.Inv X pins σ H s) (hz : Zc (.ref (g.T.ea y.cls)) (some dd) oe) (hf : ∃ vs, oe.data = .fields vs) (hx : H dd = some (.xd fv)) :
    ∃ od, PySem.W.InstAt s.heap a oe (g.T.ea y.cls) (some od) ∧ s.heap.get? dd = some od := by
  have q := (I.pin (a, oe) (List.mem_append.mpr (.inl hp))).1
  obtain ⟨ws, hw⟩ := hf
  obtain ⟨mA, hns, _⟩ := (show ObjOk X.prog X.w H s.heap dd (.xd fv) from I.hok dd _ hx)
  obtain ⟨od, ho, _⟩ := lookIn_ns hns
  refine ⟨od, ⟨q, hz.1, ?_, ?_⟩, ho⟩
  · unfold PySem.W.notCls
    rw [hw] <;> rfl
  · rw [hz.2]
    exact ho
theorem call_isXP (hp : (a, oe) ∈ X.pn) (T : ErrK X.K (g.T.ea y.cls)) (hz : Zc (.ref (g.T.ea y.cls)) (some dd) oe) (hf : ∃ vs, oe.data = .fields vs) :
    CallR X (.builtin "isinstance") fun xs H Q => ∃ (c : V) (cv : Value) (b : Bool), xs = [.ref a, c] ∧ H dd = some (.xd fv) ∧ ClsV c cv ∧ PySem.W.kitOne X.K (.ref (g.T.ea y.cls)) cv = some b ∧ Q (.bl b) H := by
  intro pins s σ H xs us Q I r h
  obtain ⟨c, cv, b, rfl, hx, k, e, q⟩ := h
  obtain ⟨u1, u2, rfl, r1, r2⟩ := vals2 r
  have e2 := k.eq r2
  subst e2
  cases (show u1 = Value.ref a from r1)
  obtain ⟨od, J, _⟩ := err_atP hp I hz hf hx
  exact PySem.W.kia_one (PySem.W.kitx_exc T.hc T.ga T.gg T.hs T.ha T.hn T.ht T.hm) I.kIn J e (fun z => nomatch z) fun tk => ⟨.bl b, H, I.kept (t' := tk) fun _ _ z => z, rfl, q⟩
theorem q_isP (hp : (a, oe) ∈ X.pn) (T : ErrK X.K (g.T.ea y.cls)) (ho : y.cls.own = true) (hz : Zc (.ref (g.T.ea y.cls)) (some dd) oe) (hf : ∃ vs, oe.data = .fields vs) (cl : ClE X.K g.T cx v u) (hC : PE X C (tC v))
    (hgi : Gl X "isinstance") (hmi : X.mg "isinstance" = none) (i : Nat) (hN : X.N[i]? = some n := by rfl) (hv : Vis X.env.scope n := by first | exact Or.inl rfl | exact Or.inr (Or.inl rfl) | exact Or.inr (Or.inr rfl)) (hdb : (n == ("__debug__" : Str)) = false := by decide)
    (hcd : (n == ("__classdict__" : Str)) = false := by decide)
    (he : starEach [.Name n p2, C] X.env = (false, eval (.Name n p2) X.env) :: starEach [C] X.env := by rfl) (he2 : starEach [C] X.env = (false, eval C X.env) :: starEach [] X.env := by rfl)
    (hpl : (backTo p3 (starEach [C] X.env)).any (·.1) = false := by rfl) : QE X (g.exc X.K dd fv y) (.Call (.Name "isinstance" p1) [.Name n p2, C] [] p3) (rIsE a y cx i) := by
  refine QE.of (t := fun _ => _) (fun Ξ tk => pe_callB (call_isXP (fv := fv) hp T hz hf) hgi hmi (by rfl) (pa_cons (pe_var hN hv hdb hcd) (pa_cons hC pa_nil he2) he) (by decide) (by decide) he hpl) fun τ vs ρ Φ Ξ σ H S hw => ?_
  obtain ⟨m, e, q⟩ := rSlot_ok hw
  exact ⟨_, slot_val S e, _, _, _, rfl, S.exc1.1, cl.cv, cl.kit _ ho, .fr true (.bl (y.cls.sub cx)), ρ, S.pushF rfl, q⟩
end
end Q
namespace Q
open PySem PySem.Spec PyProof.Rows L2 L2H
theorem fnTE {P : Program} {w : World} {K : PySem.W.Frag} {mg : Str → Option Value} {base : Heap} {T T' : TBs} {k : Nat} {f : Addr} {fd : FuncData} {ps : List Str} {qe : QSpecE} (h : T' = T) (F : FnE P w K mg base (L2.CX P w) k f fd ps (spQE K T qe)) : FnE P w K mg base (L2.CX P w) k f fd ps (spQE K T' qe) := by
  rw [h]
  exact F
end Q
namespace L2
open PySem PySem.Spec L2H
theorem FnE.mono {P : Program} {w : World} {K : PySem.W.Frag} {mg : Str → Option Value} {base : Heap} {CX : CXT} {j k : Nat} {f : Addr} {fd : FuncData} {ps : List Str} {sp : SpE} (F : FnE P w K mg base CX j f fd ps sp) (h : j ≤ k) : FnE P w K mg base CX k f fd ps sp :=
  ⟨F.len, fun A outer s H args us vs Q E p hr => F.run A outer s H args us vs Q E p (hr.mono h)⟩
end L2

namespace Q
open PySem PySem.Spec PyProof.Rows L2
/-! ### max(list), min(list) of ints -/
def oMaxL : Op1 := fun _ d k => match d with
  | .lst xs => ∃ ns : List Int, xs = ns.map D.int ∧ 0 < ns.length ∧ ∀ m : Int, m ∈ ns → (∀ y ∈ ns, y ≤ m) → k (.fr true (.int m))
  | _ => False
def oMinL : Op1 := fun _ d k => match d with
  | .lst xs => ∃ ns : List Int, xs = ns.map D.int ∧ 0 < ns.length ∧ ∀ m : Int, m ∈ ns → (∀ y ∈ ns, m ≤ y) → k (.fr true (.int m))
  | _ => False
section
variable {X : Cx} {g : Gh} {e : Expr} {p : RE} {pf pos : Pos}
theorem rd_maxL : Op1Rd X g (rMax X.K) oMaxL := by
  intro σ τ vs ρ H x m d k Q S v h kk
  unfold oMaxL at h
  split at h
  · obtain ⟨ns, rfl, hn, q⟩ := h
    obtain ⟨a, ws, rfl, c, r⟩ := v
    exact ⟨a, ns, rfl, .inl (by rw [← reps_ints r]; exact c), hn, fun m h1 h2 => kk _ _ _ (S.pushF (m := true) (d := .int _) rfl) (q m h1 h2)⟩
  · exact h.elim
theorem rd_minL : Op1Rd X g (rMin X.K) oMinL := by
  intro σ τ vs ρ H x m d k Q S v h kk
  unfold oMinL at h
  split at h
  · obtain ⟨ns, rfl, hn, q⟩ := h
    obtain ⟨a, ws, rfl, c, r⟩ := v
    exact ⟨a, ns, rfl, .inl (by rw [← reps_ints r]; exact c), hn, fun m h1 h2 => kk _ _ _ (S.pushF (m := true) (d := .int _) rfl) (q m h1 h2)⟩
  · exact h.elim
theorem q_maxL (hc : X.calm = true) (hg : Gl X "max") (hm : X.mg "max" = none) (ha : QE X g e p) (he : starEach [e] X.env = (false, eval e X.env) :: starEach [] X.env := by rfl) (hpl : (backTo pos (starEach [] X.env)).any (·.1) = false := by rfl) : QE X g (.Call (.Name "max" pf) [e] [] pos) (rB1 oMaxL p) :=
  q_b1 (cr_max hc) rd_maxL hg hm (by rfl) ha (by decide) (by decide) he hpl
theorem q_minL (hc : X.calm = true) (hg : Gl X "min") (hm : X.mg "min" = none) (ha : QE X g e p) (he : starEach [e] X.env = (false, eval e X.env) :: starEach [] X.env := by rfl) (hpl : (backTo pos (starEach [] X.env)).any (·.1) = false := by rfl) : QE X g (.Call (.Name "min" pf) [e] [] pos) (rB1 oMinL p) :=
  q_b1 (cr_min hc) rd_minL hg hm (by rfl) ha (by decide) (by decide) he hpl
end
end Q

/-! ### sorted(xs), sorted(xs, reverse=b): data of one kind, any depth, any length -/
namespace L2
open PySem PySem.Spec PyProof.Rows
def rSortedD (K : PySem.W.Frag) (b : Bool) : List V → Hp → VK → Prop := fun vs H Q => ∃ (a : Addr) (β : Type) (bs : List β) (v : β → V) (enc : β → PyData), vs = [.ref a] ∧ SqL K H a (bs.map v) ∧ (∀ x ∈ bs, Dp K H (v x) (enc x) ∧ (enc x).depth ≤ 64) ∧
  PySem.W.AllAlike (bs.map enc) ∧ PySem.W.Sortable (bs.map enc) ∧ ∀ p, H p = none → Q (.ref p) (upd H p (.lst ((bs.mergeSort (PySem.W.dataLe b enc)).map v)))
section
variable {X : Cx}
theorem each_vals {β : Type} {v : β → V} : ∀ {bs : List β} {its : List Value}, Vals (bs.map v) its → PySem.W.EachIs (fun u x => RelV (v x) u) its bs
  | [], _, h => by cases h; exact .nil
  | _ :: _, _, h => by
    cases h with
    | cons r rr => exact .cons r (each_vals rr)
theorem vals_each {β : Type} {v : β → V} : ∀ {bs : List β} {its : List Value}, PySem.W.EachIs (fun u x => RelV (v x) u) its bs → Vals (bs.map v) its
  | _, _, .nil => .nil
  | _, _, .cons r rr => .cons r (vals_each rr)
theorem each_with {α β : Type} {R R' : α → β → Prop} : ∀ {as : List α} {bs : List β}, PySem.W.EachIs R as bs → (∀ a b, b ∈ bs → R a b → R' a b) → PySem.W.EachIs R' as bs
  | _, _, .nil, _ => .nil
  | _, _, .cons r rr, h => .cons (h _ _ List.mem_cons_self r) (each_with rr fun a b m => h a b (List.mem_cons_of_mem _ m))
theorem sortedD_run {b : Bool} {pins : List (Addr × Obj)} {s : Shared} {σ : L2.St} {H : Hp} {a : Addr} {β : Type} {bs : List β} {v : β → V} {enc : β → PyData} {Q : VK} (hu : X.A.units + 66 < cLine) (I : Inv X pins σ H s) (hs : SqL X.K H a (bs.map v)) (hd : ∀ x ∈ bs, Dp X.K H (v x) (enc x) ∧ (enc x).depth ≤ 64)
    (hal : PySem.W.AllAlike (bs.map enc)) (hk : PySem.W.Sortable (bs.map enc)) (q : ∀ p, H p = none → Q (.ref p) (upd H p (.lst ((bs.mergeSort (PySem.W.dataLe b enc)).map v)))) {kw : List (Str × Value)} (hkw : (kw = [] ∧ b = false) ∨ kw = [(Str.ofString "reverse", .bool b)]) :
    wpAny (model X.prog X.w) X.A (call (.builtin "sorted") [.ref a] kw) (EP X pins σ Q) X.xe s := by
  obtain ⟨its, rv, hl, hz⟩ := I.list hs
  have e := each_vals rv
  have er : PySem.W.EachIs (fun u x => ∃ as, Reads s.heap u (enc x) as) its bs := each_with e fun u x m r => Dp.reads I (enc x) (v x) u (hd x m).1 r
  have hL : bs.length ≤ sizeLine := by rw [← List.length_map (f := v)]; exact hz
  have fin : ∀ out : List Value, out.length = bs.length → PySem.W.EachIs (fun u x => RelV (v x) u) out (bs.mergeSort (PySem.W.dataLe b enc)) → EP X pins σ Q (.ref (s.heap.objs.size + 1)) { s with heap := sortedAll s.heap its (List.toArray out) } := fun out ho eo => by
    obtain ⟨n, hn⟩ := sortedAll_at s.heap its out.toArray
    have hle : ((bs.mergeSort (PySem.W.dataLe b enc)).map v).length ≤ sizeLine := by rw [List.length_map, List.length_mergeSort]; exact hL
    exact ⟨.ref _, upd H (s.heap.objs.size + 1) (.lst ((bs.mergeSort (PySem.W.dataLe b enc)).map v)), I.laid (t' := s.toks) (fun _ _ => sortedAll_old) (Nat.le_succ _) ⟨hle, out, n, vals_each eo, hn⟩, rfl, q _ (I.hok.fresh (Nat.le_succ _))⟩
  rcases hkw with ⟨rfl, rfl⟩ | rfl
  · exact PySem.W.sorted_data hl.isList e er hal hk hL (fun x m => by have := (hd x m).2; omega) fin
  · exact PySem.W.sorted_rev_data hl.isList e er hal hk hL (fun x m => by have := (hd x m).2; omega) fin
theorem cr_sortedD (hu : X.A.units + 66 < cLine) : CallR X (.builtin "sorted") (rSortedD X.K false) := by
  intro pins s σ H vs us Q I r h
  obtain ⟨a, β, bs, v, enc, rfl, hs, hd, hal, hk, q⟩ := h
  obtain rfl := Vals.ref1 r
  exact sortedD_run hu I hs hd hal hk q (.inl ⟨rfl, rfl⟩)
theorem cr_sortedDR {b : Bool} (hu : X.A.units + 66 < cLine) : CallRK X (.builtin "sorted") [Str.ofString "reverse"] (fun vs zs H Q => zs = [.bl b] ∧ rSortedD X.K b vs H Q) := by
  intro pins s σ H vs zs us ws Q I r rz h
  obtain ⟨rfl, a, β, bs, v, enc, rfl, hs, hd, hal, hk, q⟩ := h
  obtain rfl := Vals.ref1 r
  obtain ⟨w1, rfl, e1⟩ := vals1 rz
  obtain rfl : w1 = Value.bool b := e1
  exact sortedD_run hu I hs hd hal hk q (.inr rfl)
/-! ### x < y: data of one kind -/
def rLtD (K : PySem.W.Frag) : R2 := fun x y H Q => ∃ d e, Dp K H x d ∧ Dp K H y e ∧ PySem.W.alike d e = true ∧ d ≠ .none ∧ d.depth ≤ 64 ∧ Q (.bl (PySem.W.dataLt d e)) H
theorem op_ltD (hu : X.A.units + 64 < cLine) : OpR X (compareOp .Lt) (rLtD X.K) := by
  intro pins s σ H x y v u Q I rx ry h
  obtain ⟨d, e, hd, he, hal, hn, hp, q⟩ := h
  obtain ⟨as, r1⟩ := Dp.reads I d x v hd rx
  obtain ⟨bs, r2⟩ := Dp.reads I e y u he ry
  have z : wpAny (model X.prog X.w) X.A (compareOp .Lt v u) (EP X pins σ Q) X.xe s := PySem.W.rcLt_alike d e X.A s v u as bs r1 r2 hal hn (by omega) X.prog X.w X.xe _ ⟨.bl _, H, I, rfl, q⟩
  exact z
end
end L2
namespace Q
open PySem PySem.Spec PyProof.Rows L2
/-- x < y of data -/
def ltD (x y : D) : Bool := PySem.W.dataLt x.py y.py
def alikeD (x y : D) : Bool := PySem.W.alike x.py y.py
def leD (b : Bool) (x y : D) : Bool := PySem.W.dataLe b D.py x y
def SrtOk (xs : List D) : Prop := ((D.lst xs).flatd = true ∧ (D.lst xs).dep ≤ 64) ∧ PySem.W.AllAlike (xs.map D.py) ∧ PySem.W.Sortable (xs.map D.py)
def oSorted (b : Bool) : Op1 := fun m d k => match d with
  | .lst xs => SrtOk xs ∧ k (.ol (m || safes xs) (xs.mergeSort (leD b)))
  | _ => False
def oLtA : Op2 := fun _ d1 _ d2 k => match d1, d2 with
  | .int i, .int j => k (.fr true (.bl (decide (i < j))))
  | .str i, .str j => k (.fr true (.bl (ltS i j)))
  | d1, d2 => (d1.flatd = true ∧ d2.flatd = true ∧ d1.dep ≤ 64) ∧ (alikeD d1 d2 = true ∧ d1.isNon = false) ∧ k (.fr true (.bl (ltD d1 d2)))
section
variable {X : Cx} {g : Gh} {e : Expr} {p : RE} {pos pf kp kp2 : Pos} {kn : Nat} {b : Bool}
theorem flats_mem {xs : List D} (h : D.flatd.flats xs = true) : ∀ x ∈ xs, x.flatd = true := by
  induction xs with
  | nil => intro x hx; cases hx
  | cons y r ih =>
    simp only [D.flatd.flats, Bool.and_eq_true] at h
    intro x hx
    rcases List.mem_cons.mp hx with rfl | hx
    · exact h.1
    · exact ih h.2 x hx
theorem deps_mem : ∀ {xs : List D} {n : Nat}, D.dep.deps xs ≤ n → ∀ x ∈ xs, x.dep ≤ n
  | [], _, _, x, hx => by cases hx
  | y :: r, n, h, x, hx => by
    simp only [D.dep.deps] at h
    rcases List.mem_cons.mp hx with rfl | hx
    · omega
    · exact deps_mem (n := n) (by omega) x hx
theorem reps_zip {K : PySem.W.Frag} {G : Addr → Prop} {H : Hp} : ∀ {ds : List D} {ws : List V}, Reps K G H ds ws → ∀ q ∈ ds.zip ws, Rep K G H q.1 q.2
  | [], _, _, q, hq => by simp at hq
  | d :: ds, _, ⟨v, vs', e, a, b⟩, q, hq => by
    subst e
    rw [List.zip_cons_cons] at hq
    rcases List.mem_cons.mp hq with rfl | hq
    · exact a
    · exact reps_zip b q hq
theorem reps_of {K : PySem.W.Frag} {G : Addr → Prop} {H : Hp} : ∀ {T : List (D × V)}, (∀ q ∈ T, Rep K G H q.1 q.2) → Reps K G H (T.map (·.1)) (T.map (·.2))
  | [], _ => rfl
  | q :: T, h => ⟨q.2, T.map (·.2), rfl, h q List.mem_cons_self, reps_of fun z hz => h z (List.mem_cons_of_mem _ hz)⟩
theorem sort_zip {b : Bool} {ds : List D} {ws : List V} (hl : ds.length = ws.length) : ((ds.zip ws).mergeSort (PySem.W.dataLe b fun q : D × V => q.1.py)).map (·.1) = ds.mergeSort (leD b) := by
  rw [PySem.W.sort_maps (r := PySem.W.dataLe b fun q : D × V => q.1.py) (s := leD b) (fun q : D × V => q.1) (fun _ _ _ _ => rfl)]
  exact congrArg (fun l : List D => l.mergeSort (leD b)) (List.map_fst_zip (by omega))
theorem rd_sorted : Op1Rd X g (rSortedD X.K b) (oSorted b) := by
  intro σ τ vs ρ H x m d k Q S v h kk
  unfold oSorted at h
  split at h
  · rename_i xs
    obtain ⟨⟨⟨hf, hdp⟩, hal, hk⟩, h⟩ := h
    obtain ⟨a, ws, rfl, c, r⟩ := v
    have ln := reps_len r
    have hf' : D.flatd.flats xs = true := by simpa only [D.flatd] using hf
    have e1 : (xs.zip ws).map (fun q : D × V => q.1.py) = xs.map D.py := by
      rw [show (fun q : D × V => q.1.py) = D.py ∘ Prod.fst from rfl, ← List.map_map, List.map_fst_zip (by omega)]
    refine ⟨a, D × V, xs.zip ws, (·.2), fun q => q.1.py, rfl, ?_, fun q hq => ?_, by rw [e1]; exact hal, by rw [e1]; exact hk, fun p hp => ?_⟩
    · rw [List.map_snd_zip (by omega)]; exact .inl c
    · have hm : q.1 ∈ xs := (List.of_mem_zip hq).1
      have f := flats_mem hf' q.1 hm
      refine ⟨dp_of q.1 q.2 f (reps_zip r q hq), ?_⟩
      have hd1 : D.dep.deps xs + 1 ≤ 64 := by simpa only [D.dep] using hdp
      have hd2 := deps_mem (n := 63) (by omega) q.1 hm
      have := py_dep q.1
      show q.1.py.depth ≤ 64
      omega
    · have R := reps_of (T := (xs.zip ws).mergeSort (PySem.W.dataLe b fun q : D × V => q.1.py)) (K := X.K) (G := g.gm (m || safes xs)) (H := H) fun q hq => reps_zip (reps_or r) q ((List.mergeSort_perm _ _).mem_iff.mp hq)
      rw [sort_zip (b := b) ln] at R
      exact kk _ _ _ (S.newList hp R) h
  · exact h.elim
theorem q_sorted (hu : X.A.units + 66 < cLine) (hg : Gl X "sorted") (hm : X.mg "sorted" = none) (ha : QE X g e p) (he : starEach [e] X.env = (false, eval e X.env) :: starEach [] X.env := by rfl) (hpl : (backTo pos (starEach [] X.env)).any (·.1) = false := by rfl) : QE X g (.Call (.Name "sorted" pf) [e] [] pos) (rB1 (oSorted false) p) :=
  q_b1 (cr_sortedD hu) rd_sorted hg hm (by rfl) ha (by decide) (by decide) he hpl
theorem q_sortedR (b : Bool) (hu : X.A.units + 66 < cLine) (hg : Gl X "sorted") (hm : X.mg "sorted" = none) (ha : QE X g e p) (he2 : starEach [e] X.env = (false, eval e X.env) :: starEach [] X.env := by rfl) (he : backTo pos (starEach [e] X.env) = (false, eval e X.env) :: backTo pos (starEach [] X.env) := by rfl) (hpl : (backTo pos (starEach [e] X.env)).any (·.1) = false := by rfl)
    (hall : (backToKw pos (keywordEach [⟨some "reverse", .Constant (.bool b) kn kp, kp2⟩] X.env)).all (·.1.isSome) = true := by rfl) (hnone : (backToKw pos (keywordEach [⟨some "reverse", .Constant (.bool b) kn kp, kp2⟩] X.env)).any (·.1.isNone) = false := by rfl) (hks : (backToKw pos (keywordEach [⟨some "reverse", .Constant (.bool b) kn kp, kp2⟩] X.env)).filterMap (·.1) = [Str.ofString "reverse"] := by rfl) :
    QE X g (.Call (.Name "sorted" pf) [e] [⟨some "reverse", .Constant (.bool b) kn kp, kp2⟩] pos) (rB1 (oSorted b) p) := by
  refine QE.of (fun Ξ tk => pe_callBK (cr_sortedDR (b := b) hu) hg hm (by rfl) (pa_cons (ha.pe tk) pa_nil he2) (pk_cons (te := tC (.bl b)) pe_bl pk_nil) (by decide) (by decide) he hpl hall hnone hks) fun τ vs ρ Φ Ξ σ H S hw => ?_
  refine ⟨τ, vs, ρ, _, S, hw, fun s1 ρ1 x H1 S1 h1 => ?_⟩
  obtain ⟨m, d, e1, q⟩ := rB1_ok h1
  exact ⟨rfl, rd_sorted σ τ vs ρ1 H1 x m d _ _ S1.pop (view_ok S1 S1.top e1) q fun sv z H' S' k => ⟨sv, ρ1, S', k⟩⟩
abbrev rLtA (K : PySem.W.Frag) : R2 := fun x y H Q => rCmpG (fun i j => decide (i < j)) (fun x y => ltS x y) x y H Q ∨ rLtD K x y H Q
theorem rd_ltA : OpRd X g (rLtA X.K) oLtA := by
  intro σ τ vs ρ H x y m1 m2 d1 d2 k Q S v1 v2 h kk
  unfold oLtA at h
  split at h
  · cases view_int v1
    cases view_int v2
    exact .inl (.inl ⟨_, _, rfl, rfl, kk _ _ _ (S.pushF (m := true) (d := .bl _) rfl) h⟩)
  · cases view_str v1
    cases view_str v2
    exact .inl (.inr ⟨_, _, rfl, rfl, kk _ _ _ (S.pushF (m := true) (d := .bl _) rfl) h⟩)
  · obtain ⟨⟨f1, f2, e1⟩, ⟨ha, hn⟩, q⟩ := h
    refine .inr ⟨_, _, dp_view f1 v1, dp_view f2 v2, ha, fun z => ?_, Nat.le_trans (py_dep _) e1, kk _ _ _ (S.pushF (m := true) (d := .bl _) rfl) q⟩
    cases d1 <;> first | (cases hn; done) | (simp only [D.flatd] at f1; cases f1; done) | (simp only [D.py] at z; cases z; done)
theorem op_ltA (hu : X.A.units + 64 < cLine) : OpR X (compareOp .Lt) (rLtA X.K) := op_ltG.or (op_ltD hu)
end
end Q

namespace Q
open PySem
/-! ### tools for readings -/
theorem lc_inv {xs : List D} {ρ0 : PSt} (f : D → D) {S : Nat → D → List D → Bool → PSt → (Nat → List D → Bool → PSt → Prop) → Prop} {K : List D → Bool → PSt → Prop}
    (step : ∀ (i : Nat) (x : D), xs[i]? = some x → ∀ Iv : Nat → List D → Bool → PSt → Prop, Iv (i + 1) ((xs.take i).map f ++ [f x]) true ρ0 → S i x ((xs.take i).map f) true ρ0 Iv) (fin : K (xs.map f) true ρ0) :
    ∃ Iv : Nat → List D → Bool → PSt → Prop, Iv 0 [] true ρ0 ∧ (∀ (i : Nat) x acc ma ρ, xs[i]? = some x → Iv i acc ma ρ → S i x acc ma ρ Iv) ∧ ∀ acc ma ρ, Iv xs.length acc ma ρ → K acc ma ρ := by
  refine ⟨fun i acc ma ρ => acc = (xs.take i).map f ∧ ma = true ∧ ρ = ρ0, ⟨by simp, rfl, rfl⟩, ?_, ?_⟩
  · rintro i x acc ma ρ hx ⟨rfl, rfl, rfl⟩
    refine step i x hx _ ⟨?_, rfl, rfl⟩
    obtain ⟨hi, rfl⟩ := List.getElem?_eq_some_iff.mp hx
    rw [← List.map_singleton (f := f), ← List.map_append, List.take_append_getElem hi]
  · rintro acc ma ρ ⟨rfl, rfl, rfl⟩
    rw [List.take_length]
    exact fin
/-- the parts of a comprehension: each is as told -/
theorem lc_all {xs : List D} {ρ0 : PSt} (P : D → Prop) {S : Nat → D → List D → Bool → PSt → (Nat → List D → Bool → PSt → Prop) → Prop} {K : List D → Bool → PSt → Prop}
    (step : ∀ (i : Nat) (x : D) (acc : List D), xs[i]? = some x → acc.length = i → (∀ d ∈ acc, P d) → ∀ Iv : Nat → List D → Bool → PSt → Prop, (∀ d, P d → Iv (i + 1) (acc ++ [d]) true ρ0) → S i x acc true ρ0 Iv) (fin : ∀ acc : List D, acc.length = xs.length → (∀ d ∈ acc, P d) → K acc true ρ0) :
    ∃ Iv : Nat → List D → Bool → PSt → Prop, Iv 0 [] true ρ0 ∧ (∀ (i : Nat) x acc ma ρ, xs[i]? = some x → Iv i acc ma ρ → S i x acc ma ρ Iv) ∧ ∀ acc ma ρ, Iv xs.length acc ma ρ → K acc ma ρ := by
  refine ⟨fun i acc ma ρ => acc.length = i ∧ (∀ d ∈ acc, P d) ∧ ma = true ∧ ρ = ρ0, ⟨rfl, by simp, rfl, rfl⟩, ?_, ?_⟩
  · rintro i x acc ma ρ hx ⟨h1, h2, rfl, rfl⟩
    refine step i x acc hx h1 h2 _ fun d hd => ⟨by simp [h1], fun e he => ?_, rfl, rfl⟩
    rcases List.mem_append.mp he with z | z
    · exact h2 e z
    · rw [List.mem_singleton.mp z]; exact hd
  · rintro acc ma ρ ⟨h1, h2, rfl, rfl⟩
    exact fin acc h1 h2
/-- a for that changes no slot but its own i (wiped or not), or leaves -/
theorem for_inv {xs : List D} {ρ0 : PSt} (I : Nat → PSt → Prop) {S : Nat → D → PSt → (Nat → PSt → Prop) → Prop} {K : PSt → Prop} (h0 : I 0 ρ0)
    (step : ∀ (i : Nat) (x : D) (ρ : PSt), xs[i]? = some x → I i ρ → S i x ρ I) (fin : ∀ ρ, I xs.length ρ → K ρ) :
    ∃ Iv : Nat → PSt → Prop, Iv 0 ρ0 ∧ (∀ (i : Nat) x ρ, xs[i]? = some x → Iv i ρ → S i x ρ Iv) ∧ ∀ ρ, Iv xs.length ρ → K ρ := ⟨I, h0, step, fin⟩
theorem ints_get {lo : Int} {n i : Nat} {d : D} (h : (intsF lo n)[i]? = some d) : i < n ∧ d = .int (lo + (i : Nat)) := by
  unfold intsF at h
  rw [List.getElem?_map] at h
  cases e : (List.range n)[i]? with
  | none => rw [e] at h; cases h
  | some j =>
    rw [e] at h
    obtain ⟨hi, rfl⟩ := List.getElem?_eq_some_iff.mp e
    rw [List.length_range] at hi
    rw [List.getElem_range] at h
    exact ⟨hi, (Option.some.inj h).symm⟩
theorem ints_len {lo : Int} {n : Nat} : (intsF lo n).length = n := by
  unfold intsF
  rw [List.length_map, List.length_range]
theorem atI_int {xs : List D} {i : Int} (h0 : 0 ≤ i) (h1 : i < xs.length) : ∃ d, L2.atI xs i = some d ∧ d ∈ xs := by
  obtain ⟨j, rfl⟩ := Int.eq_ofNat_of_zero_le h0
  have hj : j < xs.length := by omega
  exact ⟨xs[j], L2.atI_nat (List.getElem?_eq_getElem hj), List.getElem_mem hj⟩
end Q

namespace Z
open PySem Q
def s_law_mix : QSpec := fun ds R _ => ∃ n t : Int, ds = [.int n, .int t] ∧ ∀ r : Int, 0 ≤ r → r < 999983 → R (.fr true (.int r))
def s_law_load : QSpec := fun ds R _ => ∃ a, ds = [.ref a] ∧ R (.fr true .non)
def s_law_take : QSpec := fun ds R _ => ∃ a n, ds = [.ref a, .int n] ∧ n < 10 ^ 200 ∧ ∀ r : Int, 0 ≤ r → (r < n ∨ r = 0) → R (.fr true (.int r))
def s_law_store : QSpec := fun ds R _ => ∃ ns : List Int, ds = [.scr ns] ∧ ns.length ≤ 63 ∧ (∀ n ∈ ns, n.natAbs < 2 ^ 1048577) ∧ ∀ a, R (.sto a)
def s_law_size : QSpec := fun ds R _ => ∃ a n, ds = [.ref a, .int n] ∧ n < 2 ^ 62 ∧ ∀ r : Int, 0 ≤ r → r ≤ max 0 n → R (.fr true (.int r))
def s_law_large : QSpec := fun ds R _ => ∃ a n, ds = [.ref a, .int n] ∧ n < 10 ^ 200 ∧ ∀ r : Int, 0 ≤ r → (r < n ∨ r = 0) → R (.fr true (.int r))
def s_law_between : QSpec := fun ds R _ => ∃ a l h, ds = [.ref a, .int l, .int h] ∧ h - l < 10 ^ 100 ∧ ∀ r : Int, l ≤ r → r ≤ max l h → R (.fr true (.int r))
def s_law_odds : QSpec := fun ds R _ => ∃ a n, ds = [.ref a, .int n] ∧ n < 10 ^ 200 ∧ ∀ b : Bool, R (.fr true (.bl b))
/-- a row to pick from -/
def pickOf (d : D) (R : SV → Prop) : Prop := match d with
  | .lst xs => xs.length ≤ 16777216 ∧ (xs = [] → R (.fr true .non)) ∧ ∀ x ∈ xs, R (.fr true x)
  | .str s => (0 < s.length ∧ s.length ≤ 16777216) ∧ ∀ c ∈ s.cps.toList, R (.fr true (.str ⟨#[c]⟩))
  | _ => False
def s_law_pick : QSpec := fun ds R _ => ∃ a d, ds = [.ref a, d] ∧ pickOf d R
def someOf (d : D) (n : Int) (R : SV → Prop) : Prop := match d with
  | .lst xs => (xs.length ≤ 16777215 ∧ -1000000 ≤ n) ∧ ∀ ys : List D, (∀ y ∈ ys, y ∈ xs) → (ys.length : Int) = max 0 (min n xs.length) → R (.ol true ys)
  | _ => False
def s_law_some : QSpec := fun ds R _ => ∃ a d n, ds = [.ref a, d, .int n] ∧ someOf d n R
def s_law_shuffled : QSpec := fun ds R _ => ∃ a xs, ds = [.ref a, .lst xs] ∧ xs.length ≤ 16777215 ∧ ∀ ys : List D, (∀ y ∈ ys, y ∈ xs) → ys.length = xs.length → R (.ol true ys)
/-! ### what the values are -/
def pl : Nat → D → Bool
  | 0, _ => false
  | n + 1, d => match d with
    | .non => true
    | .bl _ => true
    | .int _ => true
    | .str _ => true
    | .lst xs => decide (xs.length ≤ 2000) && xs.all (pl n)
    | .tup xs => decide (xs.length ≤ 2000) && xs.all (pl n)
    | .dk kvs => decide (kvs.length ≤ 2000) && (decide (kvs.map (·.1)).Nodup && kvs.all fun kv => pl n kv.2)
    | _ => false
def Pl (d : D) : Prop := ∃ n, pl n d = true
def cnt : D → Bool
  | .int i => decide (0 ≤ i)
  | _ => false
def goodStep (m : Int) : D → Bool
  | .tup [.int a, .int b, .int h] => decide (0 ≤ a) && (decide (0 ≤ b) && (decide (0 ≤ h) && (decide (a < b) && decide (b ≤ m))))
  | _ => false
def manyOk : D → Bool
  | .int i => decide (0 ≤ i) && decide (i ≤ 60)
  | _ => false
def stepsOk (m : D) : D → Bool
  | .lst xs => decide (xs.length ≤ 1000) && (match m with
    | .int i => xs.all (goodStep i)
    | _ => false)
  | _ => false
def chk (m s : D) : Option Str := if manyOk m = true then (if stepsOk m s = true then none else some "steps") else some "many"
def el (xs : List D) (i : Int) : D := (xs[i.toNat]?).getD .non
def kept (xs : List D) (a b h : Int) : Bool := match el xs a, el xs b with
  | .int x, .int y => decide (y ≤ x + h)
  | .int _, _ => false
  | _, _ => true
def keptS (xs : List D) : D → Bool
  | .tup [.int a, .int b, .int h] => kept xs a b h
  | _ => true
def entry (d : D) : Bool := d.isNon || cnt d
def shut (m : Int) (steps : List D) : D → Bool
  | .lst xs => decide ((xs.length : Int) = m + 1) && (xs.all entry && ((match el xs 0 with
    | .int i => decide (i = 0)
    | _ => false) && steps.all (keptS xs)))
  | _ => false
def last (m : Int) (h p : D) : Bool := match p with
  | .lst xs => (match el xs m, h with
    | .int x, .int hh => decide (hh ≤ x)
    | .int _, _ => false
    | _, _ => true)
  | _ => false
def bw (m : Int) (steps : List D) (h p : D) : Bool := shut m steps p && last m h p
def harmOk (h : D) : Bool := h.isNon || cnt h
/-! ### the promises -/
def s_plain_count : QSpec := fun ds R _ => ∃ d, ds = [d] ∧ Pl d ∧ R (.fr true (.bl (cnt d)))
def s_good_step : QSpec := fun ds R _ => ∃ m d, ds = [.int m, d] ∧ Pl d ∧ R (.fr true (.bl (goodStep m d)))
def s_check_graph : QSpec := fun ds R F => ∃ m s, ds = [m, s] ∧ Pl m ∧ Pl s ∧ match chk m s with
  | some nm => F ⟨.bv, [("argument", .str nm)]⟩
  | none => R (.fr true .non)
def s_step_kept : QSpec := fun ds R _ => ∃ xs a b h, ds = [.lst xs, .tup [.int a, .int b, .int h]] ∧ (0 ≤ a ∧ a < xs.length) ∧ (0 ≤ b ∧ b < xs.length) ∧ xs.all entry = true ∧ R (.fr true (.bl (kept xs a b h)))
def s_bars_way : QSpec := fun ds R F => ∃ m s h p, ds = [m, s, h, p] ∧ Pl m ∧ Pl s ∧ Pl h ∧ Pl p ∧ match chk m s with
  | some nm => F ⟨.bv, [("argument", .str nm)]⟩
  | none => if harmOk h = true then (match m, s with
    | .int mm, .lst ss => R (.fr true (.bl (bw mm ss h p)))
    | _, _ => False) else F ⟨.bv, [("argument", .str "harm")]⟩
def s_law_is_int : QSpec := fun ds R _ => ∃ d, ds = [d] ∧ Pl d ∧ R (.fr true (.bl (match d with
  | .int _ => true
  | _ => false)))
def sI_law_same (n : Nat) : QSpec := fun ds R _ => ∃ d, ds = [d, d] ∧ pl n d = true ∧ R (.fr true (.bl true))
def s_law_same : QSpec := sI_law_same 20
def goodS (m : Int) (xs : List D) : Prop := ∀ d ∈ xs, goodStep m d = true
def s_law_steps : QSpec := fun ds R _ => ∃ a m, ds = [.ref a, .int m] ∧ (0 ≤ m ∧ m ≤ 60) ∧ ∀ xs : List D, xs.length ≤ 62 → goodS m xs → R (.ol true xs)
def s_law_many_steps : QSpec := fun ds R _ => ∃ a m, ds = [.ref a, .int m] ∧ (0 ≤ m ∧ m ≤ 60) ∧ ∀ xs : List D, xs.length ≤ 840 → goodS m xs → R (.ol true xs)
def pap (m : Int) (xs : List D) : Prop := (xs.length : Int) = m + 1 ∧ ∀ d ∈ xs, entry d = true
def s_law_bad_name : AskP → AskP := fun ask R _ => ∃ nm : Str, (∀ (k : SV → Prop) (x : Exn → Prop), x ⟨.bv, [("argument", .str nm)]⟩ → ask k x) ∧ R (.fr true (.tup [.str "BadValue", .str nm]))

/-! ### steps, the least harms -/
structure Stp where
  a : Int
  b : Int
  h : Int
def Stp.enc (t : Stp) : D := .tup [.int t.a, .int t.b, .int t.h]
def Stp.ok (m : Int) (t : Stp) : Prop := 0 ≤ t.a ∧ t.a < t.b ∧ t.b ≤ m ∧ 0 ≤ t.h
def encS (ts : List Stp) : List D := ts.map Stp.enc
def okT (m : Int) (ts : List Stp) : Prop := ∀ t ∈ ts, t.ok m
def minO : List Int → Option Int
  | [] => none
  | x :: xs => some (xs.foldl min x)
def cand (ts : List Stp) (l : List (Option Int)) (p : Int) : List Int := ts.filterMap fun t => if t.b = p then ((l[t.a.toNat]?).join).map (· + t.h) else none
/-- the least harms from 0 to 0 .. n -/
def dl (ts : List Stp) : Nat → List (Option Int)
  | 0 => [some 0]
  | n + 1 => dl ts n ++ [minO (cand ts (dl ts n) (n + 1))]
def oD : Option Int → D
  | some i => .int i
  | none => .non
def papD (ts : List Stp) (m : Int) : List D := (dl ts m.toNat).map oD
def dist (ts : List Stp) (p : Int) : Option Int := if p < 0 then none else ((dl ts p.toNat)[p.toNat]?).join
/-- ends is a way from p along steps -/
def Way (ts : List Stp) : Int → List Int → Prop
  | _, [] => True
  | p, e :: r => (∃ t ∈ ts, t.a = p ∧ t.b = e) ∧ Way ts e r
def arr (p : Int) : List Int → Int
  | [] => p
  | e :: r => arr e r
/-- a table of least harms -/
def Tbl (ts : List Stp) (kvs : List (List Ky × D)) : Prop := ∀ a b : Int, (∀ t ∈ ts, t.a = a → t.b = b → (dgetT kvs [.inl a, .inl b]).isSome = true) ∧ ∀ d, dgetT kvs [.inl a, .inl b] = some d → ∃ t ∈ ts, t.a = a ∧ t.b = b ∧ d = .int t.h
def s_least_harms : QSpec := fun ds R _ => ∃ ts m, ds = [.lst (encS ts)] ∧ okT m ts ∧ ts.length ≤ 1000 ∧ ∀ kvs, Tbl ts kvs → R (.oe true kvs)
def s_least_way : QSpec := fun ds R _ => ∃ m ts, ds = [.int m, .lst (encS ts)] ∧ (0 ≤ m ∧ m ≤ 60) ∧ okT m ts ∧ ts.length ≤ 1000 ∧ match dist ts m with
  | none => R (.fr true .non)
  | some x => ∀ es : List D, R (.fr true (.tup [.lst es, .int x]))
def s_way_harm : QSpec := fun ds R _ => ∃ m ts es, ds = [.int m, .lst (encS ts), .lst (es.map .int)] ∧ (0 ≤ m ∧ m ≤ 60) ∧ okT m ts ∧ ts.length ≤ 1000 ∧ Way ts 0 es ∧ es.length ≤ 100 ∧
  if arr 0 es = m then ∀ x y, dist ts m = some x → x ≤ y → R (.fr true (.int y)) else R (.fr true .non)
def s_way_paper : QSpec := fun ds R F => ∃ m s, ds = [m, s] ∧ Pl m ∧ Pl s ∧ match chk m s with
  | some nm => F ⟨.bv, [("argument", .str nm)]⟩
  | none => ∃ mm ts, m = .int mm ∧ s = .lst (encS ts) ∧ (0 ≤ mm ∧ mm ≤ 60) ∧ okT mm ts ∧ ts.length ≤ 1000 ∧ ∀ L, R (.ot L (.lst (papD ts mm)))
/-! ### the law's own -/
def s_law_least_to : QSpec := fun ds R _ => ∃ m ts mm, ds = [.int m, .lst (encS ts)] ∧ (0 ≤ m ∧ m ≤ 60) ∧ okT mm ts ∧ m ≤ mm ∧ ts.length ≤ 1000 ∧ R (.ol true (papD ts m))
def s_law_some_ends : QSpec := fun ds R _ => ∃ a m ts, ds = [.ref a, .int m, .lst (encS ts)] ∧ (0 ≤ m ∧ m ≤ 60) ∧ okT m ts ∧ ts.length ≤ 1000 ∧ ∀ es : List Int, Way ts 0 es → es.length ≤ 100 → R (.ol true (es.map .int))
def s_law_bars : QSpec := fun ds R _ => ∃ m ts h p, ds = [.int m, .lst (encS ts), h, .lst p, .bl (bw m (encS ts) h (.lst p))] ∧ (0 ≤ m ∧ m ≤ 60) ∧ okT m ts ∧ ts.length ≤ 1000 ∧ harmOk h = true ∧ p.all entry = true ∧ p.length ≤ 100 ∧ R (.fr true (.bl true))
def s_law_bars_less : QSpec := fun ds R _ => ∃ a m ts, ds = [.ref a, .int m, .lst (encS ts), .lst (papD ts m)] ∧ (0 ≤ m ∧ m ≤ 60) ∧ okT m ts ∧ ts.length ≤ 1000 ∧ R (.fr true (.bl true))
def s_law_more_is_none : QSpec := fun ds R _ => ∃ a m ts, ds = [.ref a, .int m, .lst (encS ts), .lst (papD ts m)] ∧ (0 ≤ m ∧ m ≤ 60) ∧ okT m ts ∧ ts.length ≤ 1000 ∧ R (.fr true (.bl true))
def s_law_no_less : QSpec := fun ds R _ => ∃ a m ts, ds = [.ref a, .int m, .lst (encS ts), .lst (papD ts m)] ∧ (0 ≤ m ∧ m ≤ 60) ∧ okT m ts ∧ ts.length ≤ 1000 ∧ R (.fr true (.bl true))
def s_law_refused : QSpec := fun ds R _ => ∃ a m ss, ds = [.ref a, .int m, .lst ss] ∧ (0 ≤ m ∧ m ≤ 60) ∧ goodS m ss ∧ ss.length ≤ 960 ∧ R (.fr true (.bl true))
def s_law_asked : QSpec := fun ds R _ => ∃ a m ts, ds = [.ref a, .int m, .lst (encS ts), .lst (encS ts)] ∧ (0 ≤ m ∧ m ≤ 60) ∧ okT m ts ∧ ts.length ≤ 1000 ∧ R (.fr true (.bl true))
def s_law : QSpec := fun ds R _ => ∃ ns : List Int, ds = [.scr ns] ∧ ns.length ≤ 63 ∧ (∀ n ∈ ns, n.natAbs < 2 ^ 1048577) ∧ R (.fr true (.bl true))
end Z
namespace Z
open PySem Q
def rd_plain_count  : RS := (rRet (rAndV (rB1 (oIsa .int) (rName 0)) (rAndV (rNotV (rB1 (oIsa .bool) (rName 0))) (rOp2 oGeG (rName 0) (rC (.int 0))))))
def rt_good_step_1  : RS := (rRet (rChain oLtG oLeG (rOp2 oIx (rName 1) (rC (.int 0))) (rOp2 oIx (rName 1) (rC (.int 1))) (rName 0)))
def rt_good_step_2  : RS := (rSeq (rIf (rNot (rB (rB1 oAll (rLc [2] (riT (rName 1)) (gN 2) rYes (rCall [.s] s_plain_count [] (rCons (rName 2) rNil)))))) (rRet (rC (.bl false))) rNext) (rt_good_step_1 ))
def rd_good_step  : RS := (rSeq (rIf (rOr (rNot (rB (rB1 (oIsa .tuple) (rName 1)))) (rB (rOp2 (oEq true) (rB1 oLen (rName 1)) (rC (.int 3))))) (rRet (rC (.bl false))) rNext) (rt_good_step_2 ))
def rt_check_graph_1  : RS := (rIf (rNot (rB (rB1 oAll (rLc [2] (riL (rName 1)) (gN 2) rYes (rCall [.s, .s] s_good_step [] (rCons (rName 0) (rCons (rName 2) rNil))))))) (rRaise1 .bv "argument" D.fits (rC (.str "steps"))) rNext)
def rt_check_graph_2  : RS := (rSeq (rIf (rOr (rNot (rB (rB1 (oIsa .list) (rName 1)))) (rB (rOp2 oGtG (rB1 oLen (rName 1)) (rC (.int 1000))))) (rRaise1 .bv "argument" D.fits (rC (.str "steps"))) rNext) (rt_check_graph_1 ))
def rd_check_graph  : RS := (rSeq (rIf (rOr (rNot (rB (rCall [.s] s_plain_count [] (rCons (rName 0) rNil)))) (rB (rOp2 oGtG (rName 0) (rC (.int 60))))) (rRaise1 .bv "argument" D.fits (rC (.str "many"))) rNext) (rt_check_graph_2 ))
def rt_least_harms_1  : RS := (rRet (rName 1))
def rt_least_harms_2  : RS := (rSeq (rFor (riL (rName 0)) (gT [(gN 2), (gN 3), (gN 4)]) (rIf (rOr (rB (rOp2 (oIn true) (rTup (rCons (rName 2) (rCons (rName 3) rNil))) (rName 1))) (rB (rOp2 oLtG (rName 4) (rOp2 oIx (rName 1) (rTup (rCons (rName 2) (rCons (rName 3) rNil))))))) (rSetIxT 1 (rCons (rName 2) (rCons (rName 3) rNil)) (rName 4)) rNext)) (rt_least_harms_1 ))
def rd_least_harms  : RS := (rSeq (rSet 1 rDict0T) (rt_least_harms_2 ))
def rt_least_way_1  : RS := (rIf (rOr (rB (rOp2 (oIs false) (rOp2 oIx (rName 2) (rName 3)) (rC .non))) (rB (rOp2 oLtA (rName 10) (rOp2 oIx (rName 2) (rName 3))))) (rSetIx 2 (rName 3) (rName 10)) rNext)
def rt_least_way_2  : RS := (rSeq (rSet 10 (rTup (rCons (rOp2 oAdd (rName 5) (rName 11)) (rCons (rOp2 oAdd (rName 7) (rC (.int 1))) (rCons (rOp2 oAdd (rLst (rCons (rName 4) rNil)) (rName 8)) rNil))))) (rt_least_way_1 ))
def rt_least_way_3  : RS := (rRet (rTup (rCons (rB1 oList (rName 8)) (rCons (rName 6) rNil))))
def rt_least_way_4  : RS := (rSeq (rAsg (rOp2 oIx (rName 2) (rC (.int 0))) (gT [(gN 6), (gN 7), (gN 8)])) (rt_least_way_3 ))
def rt_least_way_5  : RS := (rSeq (rIf (rB (rOp2 (oIs false) (rOp2 oIx (rName 2) (rC (.int 0))) (rC .non))) (rRet (rC .non)) rNext) (rt_least_way_4 ))
def rt_least_way_6  : RS := (rSeq (rFor (riL (rB1 (oSorted true) (rName 1))) (gT [(gN 3), (gN 4), (gN 5)]) (rIf (rB (rOp2 (oIs true) (rOp2 oIx (rName 2) (rName 4)) (rC .non))) (rSeq (rAsg (rOp2 oIx (rName 2) (rName 4)) (gT [(gN 11), (gN 7), (gN 8)])) (rt_least_way_2 )) rNext)) (rt_least_way_5 ))
def rt_least_way_7  : RS := (rSeq (rDrop (rMS2 2 moAppend (rCons (rTup (rCons (rC (.int 0)) (rCons (rC (.int 0)) (rCons (rLst rNil) rNil)))) rNil))) (rt_least_way_6 ))
def rt_least_way_8  : RS := (rSeq (rSet 2 (rLc [9] (riR1 (rCons (rName 0) rNil)) (gN 9) rYes (rC .non))) (rt_least_way_7 ))
def rd_least_way  : RS := (rSeq (rDrop (rCall [.s, .s] s_check_graph [] (rCons (rName 0) (rCons (rName 1) rNil)))) (rt_least_way_8 ))
def rt_way_harm_1  : RS := (rSet 5 (rName 6))
def rt_way_harm_2  : RS := (rSeq (rAugI 4 (fun a b => a + b) (rOp2 oIx (rName 3) (rTup (rCons (rName 5) (rCons (rName 6) rNil))))) (rt_way_harm_1 ))
def rt_way_harm_3  : RS := (rRet (rName 4))
def rt_way_harm_4  : RS := (rSeq (rIf (rB (rOp2 (oEq true) (rName 5) (rName 0))) (rRet (rC .non)) rNext) (rt_way_harm_3 ))
def rt_way_harm_5  : RS := (rSeq (rFor (riL (rName 2)) (gN 6) (rSeq (rIf (rB (rOp2 (oIn true) (rTup (rCons (rName 5) (rCons (rName 6) rNil))) (rName 3))) (rRet (rC .non)) rNext) (rt_way_harm_2 ))) (rt_way_harm_4 ))
def rt_way_harm_6  : RS := (rSeq (rSet 5 (rC (.int 0))) (rt_way_harm_5 ))
def rt_way_harm_7  : RS := (rSeq (rSet 4 (rC (.int 0))) (rt_way_harm_6 ))
def rt_way_harm_8  : RS := (rSeq (rSet 3 (rCall [.s] s_least_harms [] (rCons (rName 1) rNil))) (rt_way_harm_7 ))
def rt_way_harm_9  : RS := (rSeq (rIf (rOr (rNot (rB (rB1 (oIsa .list) (rName 2)))) (rNot (rB (rB1 oAll (rLc [6] (riL (rName 2)) (gN 6) rYes (rCall [.s] s_plain_count [] (rCons (rName 6) rNil))))))) (rRet (rC .non)) rNext) (rt_way_harm_8 ))
def rd_way_harm  : RS := (rSeq (rDrop (rCall [.s, .s] s_check_graph [] (rCons (rName 0) (rCons (rName 1) rNil)))) (rt_way_harm_9 ))
def rt_way_paper_1  : RS := (rIf (rOr (rB (rOp2 (oIs false) (rOp2 oIx (rName 2) (rName 4)) (rC .non))) (rB (rOp2 oLtG (rName 6) (rOp2 oIx (rName 2) (rName 4))))) (rSetIx 2 (rName 4) (rName 6)) rNext)
def rt_way_paper_2  : RS := (rRet (rTree (rName 2)))
def rt_way_paper_3  : RS := (rSeq (rFor (riL (rB1 (oSorted false) (rName 1))) (gT [(gN 3), (gN 4), (gN 5)]) (rIf (rB (rOp2 (oIs true) (rOp2 oIx (rName 2) (rName 3)) (rC .non))) (rSeq (rSet 6 (rOp2 oAdd (rOp2 oIx (rName 2) (rName 3)) (rName 5))) (rt_way_paper_1 )) rNext)) (rt_way_paper_2 ))
def rt_way_paper_4  : RS := (rSeq (rSet 2 (rOp2 oAdd (rLst (rCons (rC (.int 0)) rNil)) (rLc [7] (riR1 (rCons (rName 0) rNil)) (gN 7) rYes (rC .non)))) (rt_way_paper_3 ))
def rd_way_paper  : RS := (rSeq (rDrop (rCall [.s, .s] s_check_graph [] (rCons (rName 0) (rCons (rName 1) rNil)))) (rt_way_paper_4 ))
def rt_step_kept_1  : RS := (rRet (rAndV (rOp2 (oIs true) (rOp2 oIx (rName 0) (rName 3)) (rC .non)) (rOp2 oLeG (rOp2 oIx (rName 0) (rName 3)) (rOp2 oAdd (rOp2 oIx (rName 0) (rName 2)) (rName 4)))))
def rt_step_kept_2  : RS := (rSeq (rIf (rB (rOp2 (oIs false) (rOp2 oIx (rName 0) (rName 2)) (rC .non))) (rRet (rC (.bl true))) rNext) (rt_step_kept_1 ))
def rd_step_kept  : RS := (rSeq (rAsg (rName 1) (gT [(gN 2), (gN 3), (gN 4)])) (rt_step_kept_2 ))
def rt_bars_way_1  : RS := (rRet (rAndV (rOp2 (oIs true) (rName 2) (rC .non)) (rOp2 oGeG (rOp2 oIx (rName 3) (rName 0)) (rName 2))))
def rt_bars_way_2  : RS := (rSeq (rIf (rB (rOp2 (oIs false) (rOp2 oIx (rName 3) (rName 0)) (rC .non))) (rRet (rC (.bl true))) rNext) (rt_bars_way_1 ))
def rt_bars_way_3  : RS := (rSeq (rIf (rNot (rB (rB1 oAll (rLc [5] (riL (rName 1)) (gN 5) rYes (rCall [.s, .s] s_step_kept [] (rCons (rName 3) (rCons (rName 5) rNil))))))) (rRet (rC (.bl false))) rNext) (rt_bars_way_2 ))
def rt_bars_way_4  : RS := (rSeq (rIf (rOr (rB (rOp2 (oIs false) (rOp2 oIx (rName 3) (rC (.int 0))) (rC .non))) (rB (rOp2 (oEq true) (rOp2 oIx (rName 3) (rC (.int 0))) (rC (.int 0))))) (rRet (rC (.bl false))) rNext) (rt_bars_way_3 ))
def rt_bars_way_5  : RS := (rSeq (rIf (rNot (rB (rB1 oAll (rLc [4] (riL (rName 3)) (gN 4) rYes (rOrV (rOp2 (oIs false) (rName 4) (rC .non)) (rCall [.s] s_plain_count [] (rCons (rName 4) rNil))))))) (rRet (rC (.bl false))) rNext) (rt_bars_way_4 ))
def rt_bars_way_6  : RS := (rSeq (rIf (rOr (rNot (rB (rB1 (oIsa .list) (rName 3)))) (rB (rOp2 (oEq true) (rB1 oLen (rName 3)) (rOp2 oAdd (rName 0) (rC (.int 1)))))) (rRet (rC (.bl false))) rNext) (rt_bars_way_5 ))
def rt_bars_way_7  : RS := (rSeq (rIf (rAnd (rB (rOp2 (oIs true) (rName 2) (rC .non))) (rNot (rB (rCall [.s] s_plain_count [] (rCons (rName 2) rNil))))) (rRaise1 .bv "argument" D.fits (rC (.str "harm"))) rNext) (rt_bars_way_6 ))
def rd_bars_way  : RS := (rSeq (rDrop (rCall [.s, .s] s_check_graph [] (rCons (rName 0) (rCons (rName 1) rNil)))) (rt_bars_way_7 ))
def rt_law_store_1  : RS := (rRetSto (rDict (rpCons (rC (.str "cells")) (rB1 oList (rName 0)) (rpCons (rC (.str "at")) (rC (.int 0)) (rpCons (rC (.str "now")) (rC (.int 0)) (rpCons (rC (.str "left")) (rC (.int 0)) (rpCons (rC (.str "great")) (rC (.bl false)) (rpCons (rC (.str "seed")) (rName 1) (rpCons (rC (.str "turn")) (rC (.int 0)) rpNil)))))))))
def rt_law_store_2  : RS := (rSeq (rFor (riL (rName 0)) (gN 2) (rSet 1 (rOp2 oMod (rB1 oInt1 (rOp2 oAdd (rOp2 oAdd (rOp2 oRepG (rName 1) (rC (.int 31))) (rOp2 oMod (rB1 oInt1 (rName 2)) (rC (.int 1000003)))) (rC (.int 7)))) (rC (.int 1000003))))) (rt_law_store_1 ))
def rd_law_store  : RS := (rSeq (rSet 1 (rC (.int 11))) (rt_law_store_2 ))
def rt_law_load_1  : RS := (rSetIx 0 (rC (.str "left")) (rC (.int 120)))
def rt_law_load_2  : RS := (rSeq (rSetIx 0 (rC (.str "now")) (rOp2 oMod (rName 2) (rOp2 oPow (rOp2 oPow (rC (.int 10)) (rC (.int 60))) (rC (.int 10))))) (rt_law_load_1 ))
def rt_law_load_3  : RS := (rIf (rB (rOp2 oGeG (rName 2) (rOp2 oPow (rC (.int 10)) (rC (.int 18))))) (rSeq (rSetIx 0 (rC (.str "great")) (rC (.bl true))) (rt_law_load_2 )) rNext)
def rt_law_load_4  : RS := (rSeq (rSetIx 0 (rC (.str "left")) (rC (.int 2))) (rt_law_load_3 ))
def rt_law_load_5  : RS := (rSeq (rSetIx 0 (rC (.str "now")) (rOp2 oMod (rB1 oInt1 (rOp2 oAdd (rName 2) (rOp2 oRepG (rOp2 oDiv (rName 2) (rC (.int 1000003))) (rC (.int 613))))) (rC (.int 1000003)))) (rt_law_load_4 ))
def rt_law_load_6  : RS := (rIf (rB (rOp2 oLtG (rName 1) (rB1 oLen (rOp2 oIx (rName 0) (rC (.str "cells")))))) (rSeq (rSet 2 (rB1 oInt1 (rOp2 oIx (rOp2 oIx (rName 0) (rC (.str "cells"))) (rName 1)))) (rt_law_load_5 )) rNext)
def rt_law_load_7  : RS := (rSeq (rSetIx 0 (rC (.str "left")) (rC (.int 1000))) (rt_law_load_6 ))
def rt_law_load_8  : RS := (rSeq (rSetIx 0 (rC (.str "now")) (rOp2 oIx (rName 0) (rC (.str "seed")))) (rt_law_load_7 ))
def rt_law_load_9  : RS := (rSeq (rSetIx 0 (rC (.str "great")) (rC (.bl false))) (rt_law_load_8 ))
def rt_law_load_10  : RS := (rSeq (rSetIx 0 (rC (.str "at")) (rOp2 oAdd (rName 1) (rC (.int 1)))) (rt_law_load_9 ))
def rd_law_load  : RS := (rOpen 0 (rSeq (rSet 1 (rB1 oInt1 (rOp2 oIx (rName 0) (rC (.str "at"))))) (rt_law_load_10 )))
def rt_law_mix_1  : RS := (rRet (rOp2 oMod (rB1 oInt1 (rOp2 oAdd (rOp2 oRepG (rOp2 oRepG (rOp2 oAdd (rOp2 oMod (rName 2) (rC (.int 1000))) (rC (.int 17))) (rOp2 oAdd (rOp2 oDiv (rName 2) (rC (.int 1000))) (rC (.int 613)))) (rC (.int 29))) (rName 2))) (rC (.int 999983))))
def rd_law_mix  : RS := (rSeq (rSet 2 (rOp2 oMod (rB1 oInt1 (rOp2 oAdd (rOp2 oAdd (rOp2 oRepG (rName 0) (rC (.int 7919))) (rOp2 oRepG (rName 1) (rC (.int 104729)))) (rC (.int 31)))) (rC (.int 1000003)))) (rt_law_mix_1 ))
def rt_law_take_1  : RS := (rRet (rOp2 oMod (rName 2) (rName 1)))
def rt_law_take_2  : RS := (rSeq (rIf (rB (rOp2 oLtG (rName 2) (rName 1))) (rSetIx 0 (rC (.str "left")) (rC (.int 0))) rNext) (rt_law_take_1 ))
def rt_law_take_3  : RS := (rSet 3 (rOp2 oAdd (rOp2 oRepG (rName 3) (rC (.int 1000000))) (rCall [.s, .s] s_law_mix [] (rCons (rName 2) (rCons (rOp2 oIx (rName 0) (rC (.str "turn"))) rNil)))))
def rt_law_take_4  : RS := (rRet (rOp2 oMod (rB1 oInt1 (rName 3)) (rName 1)))
def rt_law_take_5  : RS := (rSeq (rFor (riR1 (rCons (rOp2 oAdd (rC (.int 1)) (rOp2 oDiv (rB1 oLen (rB1 oStr1 (rName 1))) (rC (.int 6)))) rNil)) (gN 4) (rSeq (rSetIx 0 (rC (.str "turn")) (rOp2 oAdd (rB1 oInt1 (rOp2 oIx (rName 0) (rC (.str "turn")))) (rC (.int 1)))) (rt_law_take_3 ))) (rt_law_take_4 ))
def rt_law_take_6  : RS := (rSeq (rSet 3 (rC (.int 0))) (rt_law_take_5 ))
def rt_law_take_7  : RS := (rSeq (rIf (rB (rOp2 oIx (rName 0) (rC (.str "great")))) (rSeq (rSetIx 0 (rC (.str "now")) (rOp2 oDiv (rName 2) (rName 1))) (rt_law_take_2 )) rNext) (rt_law_take_6 ))
def rt_law_take_8  : RS := (rSeq (rSet 2 (rB1 oInt1 (rOp2 oIx (rName 0) (rC (.str "now"))))) (rt_law_take_7 ))
def rt_law_take_9  : RS := (rSeq (rSetIx 0 (rC (.str "left")) (rOp2 oSub (rB1 oInt1 (rOp2 oIx (rName 0) (rC (.str "left")))) (rC (.int 1)))) (rt_law_take_8 ))
def rt_law_take_10  : RS := (rSeq (rIf (rB (rOp2 oLtG (rB1 oInt1 (rOp2 oIx (rName 0) (rC (.str "left")))) (rC (.int 1)))) (rSeq (rClose 0 (rDrop (rCall [.t] s_law_load [] (rCons (rName 0) rNil)))) (rOpen 0 rNext)) rNext) (rt_law_take_9 ))
def rd_law_take  : RS := (rOpen 0 (rSeq (rIf (rB (rOp2 oLtG (rName 1) (rC (.int 2)))) (rRet (rC (.int 0))) rNext) (rt_law_take_10 )))
def rt_law_size_1  : RS := (rRet (rCall [.t, .s] s_law_take [] (rCons (rName 0) (rCons (rOp2 oAdd (rOp2 oMin (rName 1) (rC (.int 4))) (rC (.int 1))) rNil))))
def rt_law_size_2  : RS := (rSeq (rIf (rB (rOp2 (oEq false) (rName 2) (rC (.int 3)))) (rRet (rCall [.t, .s] s_law_take [] (rCons (rName 0) (rCons (rOp2 oAdd (rName 1) (rC (.int 1))) rNil)))) rNext) (rt_law_size_1 ))
def rt_law_size_3  : RS := (rSeq (rIf (rB (rOp2 (oEq false) (rName 2) (rC (.int 2)))) (rRet (rName 1)) rNext) (rt_law_size_2 ))
def rt_law_size_4  : RS := (rSeq (rIf (rB (rOp2 oLtG (rName 2) (rC (.int 2)))) (rRet (rOp2 oMin (rName 2) (rName 1))) rNext) (rt_law_size_3 ))
def rt_law_size_5  : RS := (rSeq (rSet 2 (rCall [.t, .s] s_law_take [] (rCons (rName 0) (rCons (rC (.int 12)) rNil)))) (rt_law_size_4 ))
def rd_law_size  : RS := (rSeq (rSet 1 (rOp2 oMax (rC (.int 0)) (rName 1))) (rt_law_size_5 ))
def rt_law_large_1  : RS := (rRet (rCall [.t, .s] s_law_take [] (rCons (rName 0) (rCons (rOp2 oMin (rName 1) (rC (.int 12))) rNil))))
def rt_law_large_2  : RS := (rSeq (rIf (rB (rOp2 (oEq false) (rName 2) (rC (.int 3)))) (rRet (rCall [.t, .s] s_law_take [] (rCons (rName 0) (rCons (rName 1) rNil)))) rNext) (rt_law_large_1 ))
def rt_law_large_3  : RS := (rSeq (rIf (rB (rOp2 (oEq false) (rName 2) (rC (.int 2)))) (rRet (rOp2 oMax (rC (.int 0)) (rOp2 oSub (rName 1) (rC (.int 1))))) rNext) (rt_law_large_2 ))
def rt_law_large_4  : RS := (rSeq (rIf (rB (rOp2 oLtG (rName 2) (rC (.int 2)))) (rRet (rOp2 oMax (rC (.int 0)) (rOp2 oMin (rName 2) (rOp2 oSub (rName 1) (rC (.int 1)))))) rNext) (rt_law_large_3 ))
def rd_law_large  : RS := (rSeq (rSet 2 (rCall [.t, .s] s_law_take [] (rCons (rName 0) (rCons (rC (.int 8)) rNil)))) (rt_law_large_4 ))
def rt_law_pick_1  : RS := (rRet (rOp2 oIx (rName 1) (rCall [.t, .s] s_law_take [] (rCons (rName 0) (rCons (rB1 oLen (rName 1)) rNil)))))
def rd_law_pick  : RS := (rSeq (rIf (rB (rOp2 oLtG (rB1 oLen (rName 1)) (rC (.int 1)))) (rRet (rC .non)) rNext) (rt_law_pick_1 ))
def rd_law_odds  : RS := (rRet (rOp2 (oEq false) (rCall [.t, .s] s_law_take [] (rCons (rName 0) (rCons (rName 1) rNil))) (rC (.int 0))))
def rt_law_some_1  : RS := (rRet (rName 4))
def rt_law_some_2  : RS := (rSeq (rFor (riR1 (rCons (rOp2 oMin (rName 2) (rB1 oLen (rName 3))) rNil)) (gN 5) (rDrop (rMS2 4 moAppend (rCons (rMS2 3 moPop (rCons (rCall [.t, .s] s_law_take [] (rCons (rName 0) (rCons (rB1 oLen (rName 3)) rNil))) rNil)) rNil)))) (rt_law_some_1 ))
def rt_law_some_3  : RS := (rSeq (rSet 4 (rLst rNil)) (rt_law_some_2 ))
def rd_law_some  : RS := (rSeq (rSet 3 (rB1 oList (rName 1))) (rt_law_some_3 ))
def rt_law_shuffled_1  : RS := (rRet (rCall [.t, .s, .s] s_law_some [] (rCons (rName 0) (rCons (rName 1) (rCons (rB1 oLen (rName 1)) rNil)))))
def rt_law_shuffled_2  : RS := (rSeq (rIf (rB (rOp2 (oEq false) (rName 2) (rC (.int 1)))) (rRet (rLc [3] (riR1 (rCons (rB1 oLen (rName 1)) rNil)) (gN 3) rYes (rOp2 oIx (rName 1) (rOp2 oSub (rOp2 oSub (rB1 oLen (rName 1)) (rC (.int 1))) (rName 3))))) rNext) (rt_law_shuffled_1 ))
def rt_law_shuffled_3  : RS := (rSeq (rIf (rB (rOp2 (oEq false) (rName 2) (rC (.int 0)))) (rRet (rB1 oList (rName 1))) rNext) (rt_law_shuffled_2 ))
def rd_law_shuffled  : RS := (rSeq (rSet 2 (rCall [.t, .s] s_law_take [] (rCons (rName 0) (rCons (rC (.int 4)) rNil)))) (rt_law_shuffled_3 ))
def rd_law_is_int  : RS := (rRet (rAndV (rB1 (oIsa .int) (rName 0)) (rNotV (rB1 (oIsa .bool) (rName 0)))))
def rt_law_same_1 (s_law_same : QSpec) : RS := (rRet (rC (.bl true)))
def rt_law_same_2 (s_law_same : QSpec) : RS := (rRet (rC (.bl true)))
def rt_law_same_3 (s_law_same : QSpec) : RS := (rSeq (rFor (riR1 (rCons (rB1 oLen (rName 1)) rNil)) (gN 2) (rIf (rNot (rB (rCall [.s, .s] s_law_same [] (rCons (rOp2 oIx (rName 0) (rName 2)) (rCons (rOp2 oIx (rName 1) (rName 2)) rNil))))) (rRet (rC (.bl false))) rNext)) (rt_law_same_2 s_law_same))
def rt_law_same_4 (s_law_same : QSpec) : RS := (rSeq (rIf (rB (rB1 (oIsa .dict) (rName 1))) (rSeq (rFor (riK (rName 1)) (gN 3) (rIf (rOr (rB (rOp2 (oIn true) (rName 3) (rName 0))) (rNot (rB (rCall [.s, .s] s_law_same [] (rCons (rOp2 oIx (rName 0) (rName 3)) (rCons (rOp2 oIx (rName 1) (rName 3)) rNil)))))) (rRet (rC (.bl false))) rNext)) (rt_law_same_1 s_law_same)) rNext) (rt_law_same_3 s_law_same))
def rt_law_same_5 (s_law_same : QSpec) : RS := (rSeq (rIf (rB (rOp2 (oEq true) (rB1 oLen (rName 0)) (rB1 oLen (rName 1)))) (rRet (rC (.bl false))) rNext) (rt_law_same_4 s_law_same))
def rt_law_same_6 (s_law_same : QSpec) : RS := (rSeq (rIf (rB (rB1 (oIsas [.bool, .int, .str]) (rName 1))) (rRet (rOp2 (oEq false) (rName 0) (rName 1))) rNext) (rt_law_same_5 s_law_same))
def rt_law_same_7 (s_law_same : QSpec) : RS := (rSeq (rIf (rOr (rB (rOp2 (oEq true) (rB1 (oIsa .list) (rName 0)) (rB1 (oIsa .list) (rName 1)))) (rB (rOp2 (oEq true) (rB1 (oIsa .tuple) (rName 0)) (rB1 (oIsa .tuple) (rName 1))))) (rRet (rC (.bl false))) rNext) (rt_law_same_6 s_law_same))
def rt_law_same_8 (s_law_same : QSpec) : RS := (rSeq (rIf (rOr (rB (rOp2 (oEq true) (rB1 (oIsa .str) (rName 0)) (rB1 (oIsa .str) (rName 1)))) (rB (rOp2 (oEq true) (rB1 (oIsa .dict) (rName 0)) (rB1 (oIsa .dict) (rName 1))))) (rRet (rC (.bl false))) rNext) (rt_law_same_7 s_law_same))
def rt_law_same_9 (s_law_same : QSpec) : RS := (rSeq (rIf (rOr (rB (rOp2 (oEq true) (rB1 (oIsa .bool) (rName 0)) (rB1 (oIsa .bool) (rName 1)))) (rB (rOp2 (oEq true) (rB1 (oIsa .int) (rName 0)) (rB1 (oIsa .int) (rName 1))))) (rRet (rC (.bl false))) rNext) (rt_law_same_8 s_law_same))
def rd_law_same (s_law_same : QSpec) : RS := (rSeq (rIf (rOr (rB (rOp2 (oIs false) (rName 1) (rC .non))) (rB (rOp2 (oIs false) (rName 0) (rC .non)))) (rRet (rAndV (rOp2 (oIs false) (rName 1) (rC .non)) (rOp2 (oIs false) (rName 0) (rC .non)))) rNext) (rt_law_same_9 s_law_same))
def rt_law_steps_1  : RS := (rSet 3 (rName 7))
def rt_law_steps_2  : RS := (rSeq (rDrop (rMS2 2 moAppend (rCons (rTup (rCons (rName 3) (rCons (rName 7) (rCons (rCall [.t, .s] s_law_large [] (rCons (rName 0) (rCons (rOp2 oPow (rC (.int 10)) (rC (.int 60))) rNil))) rNil)))) rNil))) (rt_law_steps_1 ))
def rt_law_steps_3  : RS := (rIf (rB (rOp2 oLtG (rName 5) (rName 1))) (rDrop (rMS2 2 moAppend (rCons (rTup (rCons (rName 5) (rCons (rOp2 oAdd (rOp2 oAdd (rName 5) (rC (.int 1))) (rCall [.t, .s] s_law_take [] (rCons (rName 0) (rCons (rOp2 oSub (rName 1) (rName 5)) rNil)))) (rCons (rCall [.t, .s] s_law_large [] (rCons (rName 0) (rCons (rOp2 oPow (rC (.int 10)) (rC (.int 60))) rNil))) rNil)))) rNil))) rNext)
def rt_law_steps_4  : RS := (rDrop (rMS2 2 moAppend (rCons (rTup (rCons (rOp2 oIx (rName 6) (rC (.int 0))) (rCons (rOp2 oIx (rName 6) (rC (.int 1))) (rCons (rCall [.t, .s] s_law_large [] (rCons (rName 0) (rCons (rC (.int 12)) rNil))) rNil)))) rNil)))
def rt_law_steps_5  : RS := (rSeq (rDrop (rMS2 2 moAppend (rCons (rName 6) rNil))) (rt_law_steps_4 ))
def rt_law_steps_6  : RS := (rRet (rCall [.t, .s] s_law_shuffled [] (rCons (rName 0) (rCons (rName 2) rNil))))
def rt_law_steps_7  : RS := (rSeq (rIf (rAnd (rB (rOp2 oGtG (rB1 oLen (rName 2)) (rC (.int 0)))) (rB (rCall [.t, .s] s_law_odds [] (rCons (rName 0) (rCons (rC (.int 3)) rNil))))) (rSeq (rSet 6 (rLend (rCall [.t, .s] s_law_pick [] (rCons (rName 0) (rCons (rName 2) rNil))))) (rt_law_steps_5 )) rNext) (rt_law_steps_6 ))
def rt_law_steps_8  : RS := (rSeq (rFor (riR1 (rCons (rOp2 oMin (rCall [.t, .s] s_law_size [] (rCons (rName 0) (rCons (rC (.int 60)) rNil))) (rOp2 oSub (rC (.int 60)) (rB1 oLen (rName 2)))) rNil)) (gN 4) (rSeq (rSet 5 (rCall [.t, .s] s_law_take [] (rCons (rName 0) (rCons (rName 1) rNil)))) (rt_law_steps_3 ))) (rt_law_steps_7 ))
def rt_law_steps_9  : RS := (rSeq (rIf (rB (rOp2 oGtG (rCall [.t, .s] s_law_take [] (rCons (rName 0) (rCons (rC (.int 5)) rNil))) (rC (.int 0)))) (rFor (riR1 (rCons (rName 1) rNil)) (gN 4) (rIf (rB (rOp2 oLtG (rName 3) (rName 1))) (rSeq (rSet 7 (rOp2 oAdd (rOp2 oAdd (rName 3) (rC (.int 1))) (rCall [.t, .s] s_law_take [] (rCons (rName 0) (rCons (rOp2 oMin (rOp2 oSub (rName 1) (rName 3)) (rC (.int 9))) rNil))))) (rt_law_steps_2 )) rNext)) rNext) (rt_law_steps_8 ))
def rt_law_steps_10  : RS := (rSeq (rSet 3 (rC (.int 0))) (rt_law_steps_9 ))
def rd_law_steps  : RS := (rSeq (rSet 2 (rLst rNil)) (rt_law_steps_10 ))
def rt_law_many_steps_1  : RS := (rRet (rName 4))
def rt_law_many_steps_2  : RS := (rSeq (rFor (riR1 (rCons (rName 1) rNil)) (gN 5) (rSet 4 (rOp2 oAdd (rName 4) (rLc [6] (riR2 (rCons (rOp2 oAdd (rName 5) (rC (.int 1))) (rCons (rOp2 oAdd (rOp2 oMin (rName 1) (rOp2 oAdd (rName 5) (rName 2))) (rC (.int 1))) rNil))) (gN 6) rYes (rTup (rCons (rName 5) (rCons (rName 6) (rCons (rOp2 oMod (rB1 oInt1 (rOp2 oAdd (rOp2 oRepG (rName 5) (rC (.int 7))) (rOp2 oRepG (rName 6) (rName 3)))) (rC (.int 13))) rNil)))))))) (rt_law_many_steps_1 ))
def rt_law_many_steps_3  : RS := (rSeq (rSet 4 (rLst rNil)) (rt_law_many_steps_2 ))
def rt_law_many_steps_4  : RS := (rSeq (rSet 3 (rCall [.t, .s] s_law_take [] (rCons (rName 0) (rCons (rC (.int 13)) rNil)))) (rt_law_many_steps_3 ))
def rd_law_many_steps  : RS := (rSeq (rSet 2 (rOp2 oAdd (rC (.int 4)) (rCall [.t, .s] s_law_take [] (rCons (rName 0) (rCons (rC (.int 13)) rNil))))) (rt_law_many_steps_4 ))
def rt_law_least_to_1  : RS := (rIf (rB (rOp2 (oEq false) (rName 4) (rLst rNil))) (rDrop (rMS2 2 moAppend (rCons (rC .non) rNil))) (rDrop (rMS2 2 moAppend (rCons (rB1 oMinL (rName 4)) rNil))))
def rt_law_least_to_2  : RS := (rSeq (rFor (riL (rName 1)) (gN 5) (rIf (rAnd (rB (rOp2 (oEq false) (rOp2 oIx (rName 5) (rC (.int 1))) (rName 3))) (rB (rOp2 (oIs true) (rOp2 oIx (rName 2) (rOp2 oIx (rName 5) (rC (.int 0)))) (rC .non)))) (rDrop (rMS2 4 moAppend (rCons (rOp2 oAdd (rOp2 oIx (rName 2) (rOp2 oIx (rName 5) (rC (.int 0)))) (rOp2 oIx (rName 5) (rC (.int 2)))) rNil))) rNext)) (rt_law_least_to_1 ))
def rt_law_least_to_3  : RS := (rRet (rName 2))
def rt_law_least_to_4  : RS := (rSeq (rFor (riR2 (rCons (rC (.int 1)) (rCons (rOp2 oAdd (rName 0) (rC (.int 1))) rNil))) (gN 3) (rSeq (rSet 4 (rLst rNil)) (rt_law_least_to_2 ))) (rt_law_least_to_3 ))
def rd_law_least_to  : RS := (rSeq (rSet 2 (rLst (rCons (rC (.int 0)) rNil))) (rt_law_least_to_4 ))
def rt_law_some_ends_1  : RS := (rDrop (rMS2 3 moAppend (rCons (rName 4) rNil)))
def rt_law_some_ends_2  : RS := (rIf (rB (rOp2 (oEq true) (rName 6) (rLst rNil))) (rSeq (rSet 4 (rCall [.t, .s] s_law_pick [] (rCons (rName 0) (rCons (rName 6) rNil)))) (rt_law_some_ends_1 )) rNext)
def rt_law_some_ends_3  : RS := (rRet (rName 3))
def rt_law_some_ends_4  : RS := (rSeq (rFor (riR1 (rCons (rName 1) rNil)) (gN 5) (rSeq (rSet 6 (rLc [7] (riL (rName 2)) (gN 7) (rB (rOp2 (oEq false) (rOp2 oIx (rName 7) (rC (.int 0))) (rName 4))) (rOp2 oIx (rName 7) (rC (.int 1))))) (rt_law_some_ends_2 ))) (rt_law_some_ends_3 ))
def rt_law_some_ends_5  : RS := (rSeq (rSet 4 (rC (.int 0))) (rt_law_some_ends_4 ))
def rd_law_some_ends  : RS := (rSeq (rSet 3 (rLst rNil)) (rt_law_some_ends_5 ))
def rd_law_bars  : RS := (rRet (rCall [.s, .s] s_law_same [] (rCons (rCall [.s, .s, .s, .s] s_bars_way [] (rCons (rName 0) (rCons (rB1 oList (rName 1)) (rCons (rName 2) (rCons (rB1 oList (rName 3)) rNil))))) (rCons (rName 4) rNil))))
def rt_law_bars_less_1  : RS := (rRet (rCall [.s, .s, .s, .s, .s] s_law_bars [] (rCons (rName 1) (rCons (rName 2) (rCons (rCall [.t, .s] s_law_large [] (rCons (rName 0) (rCons (rOp2 oPow (rC (.int 10)) (rC (.int 59))) rNil))) (rCons (rName 3) (rCons (rC (.bl true)) rNil)))))))
def rt_law_bars_less_2  : RS := (rRet (rCall [.s, .s, .s, .s, .s] s_law_bars [] (rCons (rName 1) (rCons (rName 2) (rCons (rC .non) (rCons (rName 3) (rCons (rC (.bl false)) rNil)))))))
def rt_law_bars_less_3  : RS := (rSeq (rIf (rOr (rNot (rB (rCall [.s, .s, .s, .s, .s] s_law_bars [] (rCons (rName 1) (rCons (rName 2) (rCons (rOp2 oMax (rC (.int 0)) (rOp2 oSub (rName 4) (rC (.int 1)))) (rCons (rName 3) (rCons (rC (.bl true)) rNil)))))))) (rNot (rB (rCall [.s, .s, .s, .s, .s] s_law_bars [] (rCons (rName 1) (rCons (rName 2) (rCons (rOp2 oAdd (rName 4) (rC (.int 1))) (rCons (rName 3) (rCons (rC (.bl false)) rNil))))))))) (rRet (rC (.bl false))) rNext) (rt_law_bars_less_2 ))
def rt_law_bars_less_4  : RS := (rSeq (rIf (rOr (rNot (rB (rCall [.s, .s, .s, .s, .s] s_law_bars [] (rCons (rName 1) (rCons (rName 2) (rCons (rName 4) (rCons (rName 3) (rCons (rC (.bl true)) rNil)))))))) (rNot (rB (rCall [.s, .s, .s, .s, .s] s_law_bars [] (rCons (rName 1) (rCons (rName 2) (rCons (rC (.int 0)) (rCons (rName 3) (rCons (rC (.bl true)) rNil))))))))) (rRet (rC (.bl false))) rNext) (rt_law_bars_less_3 ))
def rt_law_bars_less_5  : RS := (rSeq (rIf (rOr (rNot (rB (rB1 (oIsa .tuple) (rName 5)))) (rOr (rB (rOp2 (oEq true) (rB1 oLen (rName 5)) (rC (.int 2)))) (rNot (rB (rCall [.s, .s] s_law_same [] (rCons (rOp2 oIx (rName 5) (rC (.int 1))) (rCons (rName 4) rNil))))))) (rRet (rC (.bl false))) rNext) (rt_law_bars_less_4 ))
def rt_law_bars_less_6  : RS := (rSeq (rIf (rB (rOp2 (oIs false) (rName 4) (rC .non))) (rSeq (rIf (rOr (rB (rOp2 (oIs true) (rName 5) (rC .non))) (rNot (rB (rCall [.s, .s, .s, .s, .s] s_law_bars [] (rCons (rName 1) (rCons (rName 2) (rCons (rC .non) (rCons (rName 3) (rCons (rC (.bl true)) rNil))))))))) (rRet (rC (.bl false))) rNext) (rt_law_bars_less_1 )) rNext) (rt_law_bars_less_5 ))
def rt_law_bars_less_7  : RS := (rSeq (rSet 5 (rCall [.s, .s] s_least_way [] (rCons (rName 1) (rCons (rB1 oList (rName 2)) rNil)))) (rt_law_bars_less_6 ))
def rd_law_bars_less  : RS := (rSeq (rSet 4 (rOp2 oIx (rName 3) (rName 1))) (rt_law_bars_less_7 ))
def rt_law_more_is_none_1  : RS := (rRet (rCall [.s, .s, .s, .s, .s] s_law_bars [] (rCons (rName 1) (rCons (rName 2) (rCons (rC (.int 0)) (rCons (rName 6) (rCons (rC (.bl false)) rNil)))))))
def rt_law_more_is_none_2  : RS := (rSeq (rSet 6 (rOp2 oAdd (rOp2 oAdd (rSl (rName 3) roN (roE (rName 5))) (rLst (rCons (rOp2 oAdd (rOp2 oIx (rName 3) (rName 5)) (rC (.int 1))) rNil))) (rSl (rName 3) (roE (rOp2 oAdd (rName 5) (rC (.int 1)))) roN))) (rt_law_more_is_none_1 ))
def rt_law_more_is_none_3  : RS := (rSeq (rSet 5 (rCall [.t, .s] s_law_pick [] (rCons (rName 0) (rCons (rName 4) rNil)))) (rt_law_more_is_none_2 ))
def rd_law_more_is_none  : RS := (rSeq (rSet 4 (rLc [7] (riR1 (rCons (rOp2 oAdd (rName 1) (rC (.int 1))) rNil)) (gN 7) (rB (rOp2 (oIs true) (rOp2 oIx (rName 3) (rName 7)) (rC .non))) (rName 7))) (rt_law_more_is_none_3 ))
def rt_law_no_less_1  : RS := (rIf (rAnd (rB (rName 7)) (rOr (rNot (rB (rCall [.s] s_law_is_int [] (rCons (rName 6) rNil)))) (rOr (rB (rOp2 (oIs false) (rOp2 oIx (rName 3) (rName 1)) (rC .non))) (rB (rOp2 oLtG (rName 6) (rOp2 oIx (rName 3) (rName 1))))))) (rRet (rC (.bl false))) rNext)
def rt_law_no_less_2  : RS := (rSeq (rIf (rAnd (rNot (rB (rName 7))) (rB (rOp2 (oIs true) (rName 6) (rC .non)))) (rRet (rC (.bl false))) rNext) (rt_law_no_less_1 ))
def rt_law_no_less_3  : RS := (rSeq (rSet 7 (rOrV (rAndV (rOp2 (oEq false) (rName 5) (rLst rNil)) (rOp2 (oEq false) (rName 1) (rC (.int 0)))) (rAndV (rOp2 (oEq true) (rName 5) (rLst rNil)) (rOp2 (oEq false) (rOp2 oIx (rName 5) (rB1 oNeg (rC (.int 1)))) (rName 1))))) (rt_law_no_less_2 ))
def rt_law_no_less_4  : RS := (rSeq (rSet 6 (rCall [.s, .s, .s] s_way_harm [] (rCons (rName 1) (rCons (rB1 oList (rName 2)) (rCons (rB1 oList (rName 5)) rNil))))) (rt_law_no_less_3 ))
def rt_law_no_less_5  : RS := (rRet (rC (.bl true)))
def rd_law_no_less  : RS := (rSeq (rFor (riR1 (rCons (rC (.int 3)) rNil)) (gN 4) (rSeq (rSet 5 (rCall [.t, .s, .s] s_law_some_ends [] (rCons (rName 0) (rCons (rName 1) (rCons (rName 2) rNil))))) (rt_law_no_less_4 ))) (rt_law_no_less_5 ))
def rd_law_bad_name  (f : Addr) (ask : AskP) : RS := (rSeq (rTryAs .bv 1 (rDrop (rAct f ask 0)) (fun a y => (rSeq (rSet 2 (rLst (rCons (rIsE a y .bt 1) (rCons (rIsE a y .un 1) (rCons (rIsE a y .tk 1) (rCons (rIsE a y .cl 1) rNil)))))) (rSeq (rSet 2 (rOp2 oAdd (rName 2) (rLst (rCons (rIsE a y .lk 1) (rCons (rIsE a y .uf 1) rNil))))) (rIf (rAnd (rB (rOp2 (oIn true) (rC (.bl true)) (rName 2))) (rAnd (rB (rIsE a y .rm 1)) (rB (rIsE a y .ve 1)))) (rRet (rTup (rCons (rC (.str "BadValue")) (rCons (rXf a y "argument" 1) rNil)))) rNext))))) (rRet (rTup (rCons (rC (.str "other")) rNil))))
def rt_law_refused_1  : RS := (rRet (rCall [.s, .s] s_law_same [] (rCons (rLend (rAskCall s_law_bad_name (rFrz (rCall [.s, .s] s_way_paper [] (rCons (rName 7) (rCons (rName 6) rNil)))))) (rCons (rTup (rCons (rC (.str "BadValue")) (rCons (rC (.str "many")) rNil))) rNil))))
def rt_law_refused_2  : RS := (rSeq (rSet 7 (rCall [.t, .s] s_law_pick [] (rCons (rName 0) (rCons (rLst (rCons (rB1 oNeg (rC (.int 1))) (rCons (rC (.int 61)) (rCons (rC (.bl true)) (rCons (rC (.str "1")) (rCons (rC .non) (rCons (rLst (rCons (rC (.int 1)) rNil)) (rCons (rOp2 oPow (rC (.int 10)) (rC (.int 59))) rNil)))))))) rNil)))) (rt_law_refused_1 ))
def rt_law_refused_3  : RS := (rSeq (rIf (rB (rCall [.t, .s] s_law_odds [] (rCons (rName 0) (rCons (rC (.int 2)) rNil)))) (rRet (rCall [.s, .s] s_law_same [] (rCons (rLend (rAskCall s_law_bad_name (rFrz (rCall [.s, .s] s_way_paper [] (rCons (rName 1) (rCons (rName 6) rNil)))))) (rCons (rTup (rCons (rC (.str "BadValue")) (rCons (rC (.str "steps")) rNil))) rNil)))) rNext) (rt_law_refused_2 ))
def rt_law_refused_4  : RS := (rSeq (rSet 6 (rCall [.t, .s] s_law_pick [] (rCons (rName 0) (rCons (rLst (rCons (rName 5) (rCons (rName 5) (rCons (rName 5) (rCons (rB1 oTuple (rName 2)) (rCons (rC .non) (rCons rDict0 (rCons (rC (.int 1)) (rCons (rOp2 oRepG (rLst (rCons (rTup (rCons (rC (.int 0)) (rCons (rOp2 oMin (rName 1) (rC (.int 1))) (rCons (rC (.int 0)) rNil)))) rNil)) (rC (.int 1001))) rNil))))))))) rNil)))) (rt_law_refused_3 ))
def rt_law_refused_5  : RS := (rSeq (rSet 5 (rOp2 oAdd (rOp2 oAdd (rSl (rName 2) roN (roE (rName 4))) (rLst (rCons (rCall [.t, .s] s_law_pick [] (rCons (rName 0) (rCons (rName 3) rNil))) rNil))) (rSl (rName 2) (roE (rName 4)) roN))) (rt_law_refused_4 ))
def rt_law_refused_6  : RS := (rSeq (rSet 4 (rCall [.t, .s] s_law_take [] (rCons (rName 0) (rCons (rOp2 oAdd (rB1 oLen (rName 2)) (rC (.int 1))) rNil)))) (rt_law_refused_5 ))
def rt_law_refused_7  : RS := (rSeq (rSet 3 (rOp2 oAdd (rName 3) (rLst (rCons (rTup (rCons (rC (.int 0)) (rCons (rName 1) (rCons (rC (.bl true)) rNil)))) (rCons (rTup (rCons (rC (.bl false)) (rCons (rName 1) (rCons (rC (.int 0)) rNil)))) (rCons (rTup (rCons (rC (.int 0)) (rCons (rB1 oStr1 (rName 1)) (rCons (rC (.int 0)) rNil)))) (rCons (rTup (rCons (rC (.int 0)) (rCons (rName 1) (rCons (rC (.int 0)) (rCons (rC (.int 0)) rNil))))) (rCons (rTup (rCons (rC (.int 0)) (rCons (rName 1) (rCons (rC .non) rNil)))) (rCons (rC .non) (rCons (rC (.int 0)) rNil)))))))))) (rt_law_refused_6 ))
def rd_law_refused  : RS := (rSeq (rSet 3 (rLst (rCons (rTup (rCons (rC (.int 0)) (rCons (rOp2 oAdd (rName 1) (rC (.int 1))) (rCons (rC (.int 0)) rNil)))) (rCons (rTup (rCons (rName 1) (rCons (rName 1) (rCons (rC (.int 0)) rNil)))) (rCons (rTup (rCons (rName 1) (rCons (rOp2 oSub (rName 1) (rC (.int 1))) (rCons (rC (.int 0)) rNil)))) (rCons (rTup (rCons (rB1 oNeg (rC (.int 1))) (rCons (rC (.int 0)) (rCons (rC (.int 0)) rNil)))) (rCons (rTup (rCons (rC (.int 0)) (rCons (rName 1) (rCons (rB1 oNeg (rC (.int 1))) rNil)))) (rCons (rTup (rCons (rC (.int 0)) (rCons (rName 1) rNil))) (rCons (rLst (rCons (rC (.int 0)) (rCons (rName 1) (rCons (rC (.int 0)) rNil)))) rNil))))))))) (rt_law_refused_7 ))
def rt_law_asked_1  : RS := (rRet (rLend (rCall [.s, .s] s_law_same [] (rCons (rFrz (rCallK [.s, .s] s_way_paper 0 [1, 0] rNil (rCons (rName 3) (rCons (rName 1) rNil)))) (rCons (rName 4) rNil)))))
def rt_law_asked_2  : RS := (rSeq (rWr2 0 5 some 8) (rt_law_asked_1 ))
def rt_law_asked_3  : RS := (rSeq (rIf (rNot (rB (rCall [.t, .s, .s, .s] s_law_more_is_none [] (rCons (rName 0) (rCons (rName 1) (rCons (rName 2) (rCons (rName 4) rNil))))))) (rRet (rC (.bl false))) rNext) (rt_law_asked_2 ))
def rt_law_asked_4  : RS := (rSeq (rIf (rOr (rNot (rB (rCall [.t, .s, .s, .s] s_law_bars_less [] (rCons (rName 0) (rCons (rName 1) (rCons (rName 2) (rCons (rName 4) rNil))))))) (rNot (rB (rCall [.t, .s, .s, .s] s_law_no_less [] (rCons (rName 0) (rCons (rName 1) (rCons (rName 2) (rCons (rName 4) rNil)))))))) (rRet (rC (.bl false))) rNext) (rt_law_asked_3 ))
def rt_law_asked_5  : RS := (rSeq (rIf (rOr (rNot (rB (rLend (rCall [.s, .s] s_law_same [] (rCons (rName 5) (rCons (rName 4) rNil)))))) (rNot (rB (rLend (rCall [.s, .s] s_law_same [] (rCons (rName 3) (rCons (rName 2) rNil))))))) (rRet (rC (.bl false))) rNext) (rt_law_asked_4 ))
def rt_law_asked_6  : RS := (rSeq (rSet 5 (rTree (rCall [.s, .s] s_way_paper [] (rCons (rName 1) (rCons (rName 3) rNil))))) (rt_law_asked_5 ))
def rd_law_asked  : RS := (rSeq (rSet 4 (rCall [.s, .s] s_law_least_to [] (rCons (rName 1) (rCons (rName 2) rNil)))) (rt_law_asked_6 ))
def rt_law_1  : RS := (rIf (rNot (rB (rCall [.t, .s, .s, .s] s_law_bars_less [] (rCons (rName 1) (rCons (rName 8) (rCons (rName 9) (rCons (rCall [.s, .s] s_law_least_to [] (rCons (rName 8) (rCons (rName 9) rNil))) rNil))))))) (rRet (rC (.bl false))) rNext)
def rt_law_2  : RS := (rSeq (rIf (rNot (rB (rCall [.s, .s] s_law_same [] (rCons (rFrz (rCall [.s, .s] s_way_paper [] (rCons (rName 8) (rCons (rB1 oList (rName 9)) rNil)))) (rCons (rSl (rCall [.s, .s] s_law_least_to [] (rCons (rName 2) (rCons (rName 4) rNil))) roN (roE (rOp2 oAdd (rName 8) (rC (.int 1))))) rNil))))) (rRet (rC (.bl false))) rNext) (rt_law_1 ))
def rt_law_3  : RS := (rSeq (rSet 9 (rLc [7] (riL (rName 4)) (gN 7) (rB (rOp2 oLeG (rOp2 oIx (rName 7) (rC (.int 1))) (rName 8))) (rName 7))) (rt_law_2 ))
def rt_law_4  : RS := (rSeq (rSet 8 (rCall [.t, .s] s_law_take [] (rCons (rName 1) (rCons (rName 2) rNil)))) (rt_law_3 ))
def rt_law_5  : RS := (rSeq (rIf (rNot (rB (rLend (rCall [.t, .s, .s, .s] s_law_asked [] (rCons (rName 1) (rCons (rName 2) (rCons (rName 4) (rCons (rName 5) rNil)))))))) (rRet (rC (.bl false))) rNext) (rt_law_4 ))
def rt_law_6  : RS := (rSeq (rSet 4 (rOp2 oAdd (rName 4) (rLst (rCons (rName 7) rNil)))) (rt_law_5 ))
def rt_law_7  : RS := (rSeq (rDrop (rMS2 5 moAppend (rCons (rName 7) rNil))) (rt_law_6 ))
def rt_law_8  : RS := (rSeq (rSet 7 (rTup (rCons (rName 6) (rCons (rOp2 oAdd (rOp2 oAdd (rName 6) (rC (.int 1))) (rCall [.t, .s] s_law_take [] (rCons (rName 1) (rCons (rOp2 oSub (rName 2) (rName 6)) rNil)))) (rCons (rCall [.t, .s] s_law_large [] (rCons (rName 1) (rCons (rC (.int 12)) rNil))) rNil))))) (rt_law_7 ))
def rt_law_9  : RS := (rRet (rCall [.t, .s, .s] s_law_refused [] (rCons (rName 1) (rCons (rName 2) (rCons (rName 4) rNil)))))
def rt_law_10  : RS := (rSeq (rIf (rB (rOp2 oGtG (rName 2) (rC (.int 0)))) (rSeq (rSet 6 (rCall [.t, .s] s_law_take [] (rCons (rName 1) (rCons (rName 2) rNil)))) (rt_law_8 )) rNext) (rt_law_9 ))
def rt_law_11  : RS := (rSeq (rIf (rNot (rB (rLend (rCall [.t, .s, .s, .s] s_law_asked [] (rCons (rName 1) (rCons (rName 2) (rCons (rName 4) (rCons (rName 5) rNil)))))))) (rRet (rC (.bl false))) rNext) (rt_law_10 ))
def rt_law_12  : RS := (rSeq (rSet 5 (rB1 oList (rName 4))) (rt_law_11 ))
def rt_law_13  : RS := (rSeq (rIf (rB (rName 3)) (rSet 4 (rCall [.t, .s] s_law_shuffled [] (rCons (rName 1) (rCons (rOp2 oAdd (rName 4) (rCall [.t, .s] s_law_many_steps [] (rCons (rName 1) (rCons (rName 2) rNil)))) rNil)))) rNext) (rt_law_12 ))
def rt_law_14  : RS := (rSeq (rSet 4 (rLc [7] (riL (rCall [.t, .s] s_law_steps [] (rCons (rName 1) (rCons (rName 2) rNil)))) (gN 7) rYes (rTup (rCons (rOp2 oIx (rName 7) (rC (.int 0))) (rCons (rOp2 oIx (rName 7) (rC (.int 1))) (rCons (rOp2 oMod (rB1 oInt1 (rOp2 oIx (rName 7) (rC (.int 2)))) (rOp2 oPow (rC (.int 10)) (rC (.int 58)))) rNil)))))) (rt_law_13 ))
def rt_law_15  : RS := (rSeq (rIf (rB (rName 3)) (rSet 2 (rOp2 oAdd (rC (.int 20)) (rCall [.t, .s] s_law_take [] (rCons (rName 1) (rCons (rC (.int 41)) rNil))))) rNext) (rt_law_14 ))
def rt_law_16  : RS := (rSeq (rSet 3 (rCall [.t, .s] s_law_odds [] (rCons (rName 1) (rCons (rC (.int 16)) rNil)))) (rt_law_15 ))
def rt_law_17  : RS := (rSeq (rSet 2 (rCall [.t, .s] s_law_size [] (rCons (rName 1) (rCons (rC (.int 60)) rNil)))) (rt_law_16 ))
def rd_law  : RS := (rSeq (rSet 1 (rCall [.b] s_law_store [] (rCons (rName 0) rNil))) (rt_law_17 ))
end Z
namespace Z
open PySem Q
local macro_rules | `(tactic| walk_at "side") => `(tactic| first | omega | (dsimp only; omega) | exact ⟨rfl, rfl, Nat.le_of_ble_eq_true rfl, Nat.le_of_ble_eq_true rfl⟩ | exact Nat.le_of_ble_eq_true rfl | exact Nat.lt_of_lt_of_le (Nat.lt_of_ble_eq_true rfl) (Nat.le_refl _) | exact trivial | assumption | (dsimp only; split <;> omega) | (apply rfl) | decide +kernel)
local macro_rules | `(tactic| walk_at "hyp") => `(tactic| (intro hb; simp only [Bool.false_xor, Bool.true_xor, Bool.not_eq_true', Bool.not_eq_false', decide_eq_true_eq, decide_eq_false_iff_not, Int.not_lt, Int.not_le, D.eqv, beq_iff_eq, beq_eq_false_iff_ne, ne_eq, Bool.not_true, Bool.not_false, Bool.false_eq_true, Bool.true_eq_false, not_true_eq_false, not_false_eq_true] at hb))
local macro_rules | `(tactic| walk_at "go1") => `(tactic| ((conv => whnf); first
  | refine ifB.T rfl ?_ | refine ifB.F rfl ?_
  | (refine ifB.mk ?_ ?_ <;> walk_at "hyp")
  | refine ⟨_, rfl, ?_⟩ | refine ⟨_, _, rfl, ?_⟩ | refine ⟨_, _, _, rfl, ?_⟩ | refine ⟨_, _, _, _, rfl, ?_⟩ | refine ⟨_, _, _, _, _, rfl, ?_⟩
  | refine ⟨_, _, rfl, rfl, ?_⟩
  | refine And.intro (by walk_at "side") ?_
  | exact trivial | intro))
local macro_rules | `(tactic| walk_at "go") => `(tactic| repeat' walk_at "go1")
local macro_rules | `(tactic| walk_at "w") => `(tactic| conv => whnf)
local macro_rules | `(tactic| walk_at "s1") => `(tactic| (first
  | refine ifB.T rfl ?_ | refine ifB.F rfl ?_
  | refine And.intro (by first | exact rfl | exact trivial | exact ⟨rfl, rfl⟩ | exact Nat.le_of_ble_eq_true rfl | exact ⟨rfl, rfl, Nat.le_of_ble_eq_true rfl, Nat.le_of_ble_eq_true rfl⟩ | decide +kernel) ?_); (conv => whnf))
local macro_rules | `(tactic| walk_at "s") => `(tactic| ((conv => whnf); repeat walk_at "s1"))
local macro_rules | `(tactic| walk_at "b") => `(tactic| refine ifB.mk ?_ ?_ <;> walk_at "hyp")
local macro_rules | `(tactic| walk_at "e") => `(tactic| refine And.intro ?_ (by first | exact trivial | exact ⟨trivial, trivial⟩ | exact ⟨trivial, trivial, trivial⟩ | exact ⟨trivial, .inl rfl, trivial⟩ | exact ⟨trivial, .inl rfl, trivial, trivial⟩ | (repeat' first | exact trivial | exact .inl rfl | apply And.intro)))

theorem p_law_mix (ds : List D) (R : SV → Prop) (F : Exn → Prop) (h : s_law_mix ds R F) : rd_law_mix (endsF [.s, .s] ds R F) (slots0 [.s, .s] ds ++ List.replicate 1 .no) := by
  obtain ⟨n, t, rfl, k⟩ := h
  repeat ((conv => whnf); first | refine ⟨.inr (by decide), ?_⟩ | refine ⟨by dsimp only; decide, ?_⟩)
  refine ⟨.inl (by dsimp only; omega), ?_⟩
  repeat ((conv => whnf); first | refine ⟨.inr (by decide), ?_⟩ | refine ⟨by dsimp only; decide, ?_⟩)
  refine ⟨k _ ?_ ?_, trivial, trivial, trivial, trivial⟩
  · exact Int.emod_nonneg _ (by decide)
  · exact Int.emod_lt_of_pos _ (by decide)
theorem log_of {n : Int} (h0 : 0 ≤ n) (h : n < 10 ^ 200) : n.natAbs.log2 < 1900 := by
  by_cases h1 : n.natAbs = 0
  · rw [h1]; decide
  · rw [Nat.log2_lt h1]
    have z : ((10 : Int) ^ 200) ≤ ((2 ^ 1900 : Nat) : Int) := by decide +kernel
    generalize (2 ^ 1900 : Nat) = w at *
    generalize (10 : Int) ^ 200 = v at *
    omega
section
variable {a : Addr} {n : Int} {R : SV → Prop} {F : Exn → Prop} (h2 : 2 ≤ n) (hn : n.natAbs.log2 < 1900) (k : ∀ r : Int, 0 ≤ r → (r < n ∨ r = 0) → R (.fr true (.int r)))
include h2 hn k
theorem take_1 {kvs : List (Ky × D)} (is : isSto kvs) (x : Int) : rt_law_take_1 (endsF [.t, .s] [.ref a, .int n] R F) [.so a kvs, .fr true (.int n), .fr true (.int x), .no, .no] := by
  conv => whnf
  refine ⟨by dsimp only; omega, ?_⟩
  conv => whnf
  exact ⟨k _ (Int.emod_nonneg _ (by omega)) (.inl (Int.emod_lt_of_pos _ (by omega))), trivial, .inr ⟨a, kvs, rfl, rfl, is⟩, trivial, trivial⟩
theorem take_7 (hlen : (toString n : Str).length ≤ 16777216) {kvs : List (Ky × D)} (is : isSto kvs) (x : Int) (h0 : 0 ≤ x) (hx : x.natAbs < 2 ^ 2000) : rt_law_take_7 (endsF [.t, .s] [.ref a, .int n] R F) [.so a kvs, .fr true (.int n), .fr true (.int x), .no, .no] := by
  obtain ⟨ns, pos, now, left, seed, turn, great, rfl, b1, b2, b3, b4, b5, b7, b8⟩ := is
  conv => whnf
  refine ⟨_, _, rfl, rfl, ?_⟩
  conv => whnf
  refine ⟨fun hg => ?_, fun hg => ?_⟩
  · conv => whnf
    refine ⟨⟨(by omega : 0 < n), .inr (by show n.natAbs.log2 < 9000; omega)⟩, ?_⟩
    conv => whnf
    refine ⟨rfl, ?_⟩
    conv => whnf
    refine ⟨rfl, _, rfl, (by decide : 7 < 16777216), ?_⟩
    conv => whnf
    have q0 : 0 ≤ x / n := Int.ediv_nonneg h0 (by omega)
    have q1 : (x / n).natAbs < 2 ^ 2000 := by
      refine Nat.lt_of_le_of_lt ?_ hx
      have : x / n ≤ x := Int.ediv_le_self _ h0
      omega
    refine ⟨fun hc => ?_, fun hc => take_1 (F := F) h2 hn k ⟨ns, pos, x / n, left, seed, turn, great, rfl, b1, b2, b3, q0, q1, b7, b8⟩ x⟩
    conv => whnf
    refine ⟨rfl, ?_⟩
    conv => whnf
    refine ⟨rfl, _, rfl, (by decide : 7 < 16777216), ?_⟩
    exact take_1 (F := F) h2 hn k ⟨ns, pos, x / n, 0, seed, turn, great, rfl, b1, b2, b3, q0, q1, b7, b8⟩ x
  · conv => whnf
    refine ⟨by omega, ?_⟩
    conv => whnf
    refine ⟨hlen, ?_⟩
    conv => whnf
    refine ⟨⟨by decide, .inl (by decide)⟩, ?_⟩
    conv => whnf
    refine ⟨⟨by dsimp only; omega, by dsimp only; omega⟩, ?_⟩
    conv => whnf
    refine ⟨fun _ ρ => ∃ kvs v sv, isSto kvs ∧ ρ = [.so a kvs, .fr true (.int n), .fr true (.int x), .fr true (.int v), sv], ⟨_, 0, .no, ⟨ns, pos, now, left, seed, turn, great, rfl, b1, b2, b3, b4, b5, b7, b8⟩, rfl⟩, ?_, ?_⟩
    · rintro i d ρ hd ⟨kvs, v, sv, ⟨ns, pos, now, left, seed, turn, great, rfl, b1, b2, b3, b4, b5, b7, b8⟩, rfl⟩
      conv => whnf
      refine ⟨_, _, rfl, rfl, ?_⟩
      conv => whnf
      refine ⟨rfl, ?_⟩
      conv => whnf
      refine ⟨rfl, _, rfl, (by decide : 7 < 16777216), ?_⟩
      conv => whnf
      refine ⟨.inr (by decide), ?_⟩
      conv => whnf
      refine ⟨_, _, rfl, rfl, ?_⟩
      conv => whnf
      refine ⟨_, _, rfl, fun r r0 r1 => ?_⟩
      conv => whnf
      exact ⟨_, _, _, ⟨ns, pos, now, left, seed, turn + 1, great, rfl, b1, b2, b3, b4, b5, b7, b8⟩, rfl⟩
    · rintro ρ ⟨kvs, v, sv, is, rfl⟩
      conv => whnf
      refine ⟨by dsimp only; omega, ?_⟩
      conv => whnf
      exact ⟨k _ (Int.emod_nonneg _ (by omega)) (.inl (Int.emod_lt_of_pos _ (by omega))), trivial, .inr ⟨a, kvs, rfl, rfl, is⟩, trivial, trivial⟩
theorem take_9 (hlen : (toString n : Str).length ≤ 16777216) {kvs : List (Ky × D)} (is : isSto kvs) : rt_law_take_9 (endsF [.t, .s] [.ref a, .int n] R F) [.so a kvs, .fr true (.int n), .no, .no, .no] := by
  obtain ⟨ns, pos, now, left, seed, turn, great, rfl, b1, b2, b3, b4, b5, b7, b8⟩ := is
  conv => whnf
  refine ⟨_, _, rfl, rfl, ?_⟩
  conv => whnf
  refine ⟨trivial, ?_⟩
  conv => whnf
  refine ⟨rfl, ?_⟩
  conv => whnf
  refine ⟨rfl, _, rfl, (by decide : 7 < 16777216), ?_⟩
  conv => whnf
  refine ⟨_, _, rfl, rfl, ?_⟩
  exact take_7 h2 hn k hlen ⟨ns, pos, now, left - 1, seed, turn, great, rfl, b1, b2, b3, b4, b5, b7, b8⟩ now b4 b5
end
theorem p_law_take (ds : List D) (R : SV → Prop) (F : Exn → Prop) (h : s_law_take ds R F) : rd_law_take (endsF [.t, .s] ds R F) (slots0 [.t, .s] ds ++ List.replicate 3 .no) := by
  obtain ⟨a, n, rfl, hn200, k⟩ := h
  conv => whnf
  intro kvs is
  conv => whnf
  refine ⟨fun hb => ?_, fun hb => ?_⟩
  · conv => whnf
    refine ⟨k 0 (by decide) (.inr rfl), trivial, .inr ⟨a, kvs, rfl, rfl, is⟩, trivial, trivial⟩
  have h2 : 2 ≤ n := by
    have := of_decide_eq_false hb
    omega
  have hn : n.natAbs.log2 < 1900 := log_of (by omega) hn200
  have hlen : (toString n : Str).length ≤ 16777216 := by
    have z := PySem.int_text_fits (a := n) (Nat.lt_trans hn (by decide))
    rw [sizeLine_eq] at z
    exact z
  conv => whnf
  have is0 := is
  obtain ⟨ns, pos, now, left, seed, turn, great, rfl, b1, b2, b3, b4, b5, b7, b8⟩ := is
  refine ⟨_, _, rfl, rfl, ?_⟩
  conv => whnf
  refine ⟨fun hc => ?_, fun hc => take_9 h2 hn k hlen is0⟩
  conv => whnf
  refine ⟨is0, ?_⟩
  conv => whnf
  refine ⟨_, rfl, ?_⟩
  conv => whnf
  intro kvs is
  exact take_9 h2 hn k hlen is
section
variable {a : Addr} {R : SV → Prop} {F : Exn → Prop} {ns : List Int} {seed turn : Int} (k : R (.fr true .non)) (b1 : ns.length ≤ 63) (b2 : ∀ n ∈ ns, n.natAbs < 2 ^ 1048577) (b7 : 0 ≤ seed) (b8 : seed < 1000003)
include k b1 b2 b7 b8
theorem load_1 {pos now left : Int} {great : Bool} {s1 s2 : SV} (h1 : 0 ≤ pos) (h2 : 0 ≤ now) (h3 : now.natAbs < 2 ^ 2000) : rt_law_load_1 (endsF [.t] [.ref a] R F) [.so a (stoKvs ns pos now left seed turn great), s1, s2] := by
  conv => whnf
  refine ⟨rfl, ?_⟩
  conv => whnf
  refine ⟨rfl, _, rfl, (by decide : 7 < 16777216), ?_⟩
  exact ⟨k, .inr ⟨a, _, rfl, rfl, ⟨ns, pos, now, 120, seed, turn, great, rfl, b1, b2, h1, h2, h3, b7, b8⟩⟩, trivial⟩
theorem load_2 {pos now left cell : Int} {great : Bool} {s1 : SV} (h1 : 0 ≤ pos) : rt_law_load_2 (endsF [.t] [.ref a] R F) [.so a (stoKvs ns pos now left seed turn great), s1, .fr true (.int cell)] := by
  have f0 : (0 : Int) ≤ cell % ((10 ^ 60) ^ 10) := Int.emod_nonneg _ (by decide +kernel)
  have f1 : (cell % ((10 ^ 60) ^ 10)).natAbs < 2 ^ 2000 := by
    have z1 : cell % ((10 ^ 60) ^ 10) < (10 ^ 60) ^ 10 := Int.emod_lt_of_pos _ (by decide +kernel)
    have z2 : ((10 ^ 60) ^ 10 : Int) ≤ ((2 ^ 2000 : Nat) : Int) := by decide +kernel
    generalize cell % ((10 ^ 60) ^ 10) = y at *
    generalize ((10 ^ 60) ^ 10 : Int) = z at *
    generalize (2 ^ 2000 : Nat) = w at *
    omega
  conv => whnf
  refine ⟨⟨by decide, .inl ⟨by decide, by decide⟩⟩, ?_⟩
  conv => whnf
  refine ⟨⟨by decide, .inr ⟨by decide, by decide +kernel⟩⟩, ?_⟩
  conv => whnf
  refine ⟨by dsimp only; decide +kernel, ?_⟩
  conv => whnf
  refine ⟨rfl, ?_⟩
  conv => whnf
  refine ⟨rfl, _, rfl, (by decide : 7 < 16777216), ?_⟩
  exact load_1 (great := great) (left := left) (now := cell % ((10 ^ 60) ^ 10)) k b1 b2 b7 b8 h1 f0 f1
theorem load_3 {pos now left cell : Int} {great : Bool} {s1 : SV} (h1 : 0 ≤ pos) (h2 : 0 ≤ now) (h3 : now.natAbs < 2 ^ 2000) : rt_law_load_3 (endsF [.t] [.ref a] R F) [.so a (stoKvs ns pos now left seed turn great), s1, .fr true (.int cell)] := by
  conv => whnf
  refine ⟨⟨by decide, .inl ⟨by decide, by decide⟩⟩, ?_⟩
  conv => whnf
  refine ⟨fun hb => ?_, fun hb => ?_⟩
  · conv => whnf
    refine ⟨rfl, ?_⟩
    conv => whnf
    refine ⟨rfl, _, rfl, (by decide : 7 < 16777216), ?_⟩
    exact load_2 (great := true) (left := left) (now := now) k b1 b2 b7 b8 h1
  · exact ⟨k, .inr ⟨a, _, rfl, rfl, ⟨ns, pos, now, left, seed, turn, great, rfl, b1, b2, h1, h2, h3, b7, b8⟩⟩, trivial⟩
theorem load_5 {pos now left cell : Int} {great : Bool} {s1 : SV} (h1 : 0 ≤ pos) : rt_law_load_5 (endsF [.t] [.ref a] R F) [.so a (stoKvs ns pos now left seed turn great), s1, .fr true (.int cell)] := by
  have e0 : (0 : Int) ≤ (cell + cell / 1000003 * 613) % 1000003 := Int.emod_nonneg _ (by decide)
  have e1 : ((cell + cell / 1000003 * 613) % 1000003).natAbs < 2 ^ 2000 := by
    have z1 : (cell + cell / 1000003 * 613) % 1000003 < 1000003 := Int.emod_lt_of_pos _ (by decide)
    have z2 : (1000003 : Nat) ≤ 2 ^ 2000 := by decide +kernel
    generalize (cell + cell / 1000003 * 613) % 1000003 = y at *
    generalize (2 ^ 2000 : Nat) = w at *
    omega
  conv => whnf
  refine ⟨⟨by decide, .inl (by decide)⟩, ?_⟩
  conv => whnf
  refine ⟨.inr (by decide), ?_⟩
  conv => whnf
  refine ⟨by dsimp only; decide, ?_⟩
  conv => whnf
  refine ⟨rfl, ?_⟩
  conv => whnf
  refine ⟨rfl, _, rfl, (by decide : 7 < 16777216), ?_⟩
  conv => whnf
  refine ⟨rfl, ?_⟩
  conv => whnf
  refine ⟨rfl, _, rfl, (by decide : 7 < 16777216), ?_⟩
  exact load_3 (great := great) (left := 2) (now := (cell + cell / 1000003 * 613) % 1000003) k b1 b2 b7 b8 h1 e0 e1
theorem load_6 {pos now left p : Int} {great : Bool} {s2 : SV} (hp : 0 ≤ p) (h1 : 0 ≤ pos) (h2 : 0 ≤ now) (h3 : now.natAbs < 2 ^ 2000) : rt_law_load_6 (endsF [.t] [.ref a] R F) [.so a (stoKvs ns pos now left seed turn great), .fr true (.int p), s2] := by
  conv => whnf
  refine ⟨_, _, rfl, rfl, ?_⟩
  conv => whnf
  refine ⟨fun hc => ?_, fun hc => ?_⟩
  · have hl : p < (ns.length : Int) := by
      have := of_decide_eq_true hc
      rw [List.length_map] at this
      exact this
    obtain ⟨j, rfl⟩ := Int.eq_ofNat_of_zero_le hp
    have hj : j < ns.length := by omega
    conv => whnf
    refine ⟨_, _, rfl, rfl, ?_⟩
    conv => whnf
    refine ⟨.int ns[j], L2.atI_nat (by rw [List.getElem?_map, List.getElem?_eq_getElem hj]; rfl), ?_⟩
    exact load_5 (great := great) (left := left) (now := now) k b1 b2 b7 b8 h1
  · exact ⟨k, .inr ⟨a, _, rfl, rfl, ⟨ns, pos, now, left, seed, turn, great, rfl, b1, b2, h1, h2, h3, b7, b8⟩⟩, trivial⟩
theorem load_8 {pos now left p : Int} {great : Bool} {s2 : SV} (hp : 0 ≤ p) (h1 : 0 ≤ pos) : rt_law_load_8 (endsF [.t] [.ref a] R F) [.so a (stoKvs ns pos now left seed turn great), .fr true (.int p), s2] := by
  have e1 : seed.natAbs < 2 ^ 2000 := by
    have z2 : (1000003 : Nat) ≤ 2 ^ 2000 := by decide +kernel
    generalize (2 ^ 2000 : Nat) = w at *
    omega
  conv => whnf
  refine ⟨_, _, rfl, rfl, ?_⟩
  conv => whnf
  refine ⟨rfl, ?_⟩
  conv => whnf
  refine ⟨rfl, _, rfl, (by decide : 7 < 16777216), ?_⟩
  conv => whnf
  refine ⟨rfl, ?_⟩
  conv => whnf
  refine ⟨rfl, _, rfl, (by decide : 7 < 16777216), ?_⟩
  exact load_6 (great := great) (left := 1000) (now := seed) k b1 b2 b7 b8 hp h1 b7 e1
end
theorem p_law_load (ds : List D) (R : SV → Prop) (F : Exn → Prop) (h : s_law_load ds R F) : rd_law_load (endsF [.t] ds R F) (slots0 [.t] ds ++ List.replicate 2 .no) := by
  obtain ⟨a, rfl, k⟩ := h
  conv => whnf
  intro kvs is
  obtain ⟨ns, pos, now, left, seed, turn, great, rfl, b1, b2, b3, b4, b5, b7, b8⟩ := is
  conv => whnf
  refine ⟨_, _, rfl, rfl, ?_⟩
  conv => whnf
  refine ⟨rfl, ?_⟩
  conv => whnf
  refine ⟨rfl, _, rfl, (by decide : 7 < 16777216), ?_⟩
  conv => whnf
  refine ⟨rfl, ?_⟩
  conv => whnf
  refine ⟨rfl, _, rfl, (by decide : 7 < 16777216), ?_⟩
  exact load_8 (great := false) (pos := pos + 1) (left := left) (now := now) k b1 b2 b7 b8 b3 (by omega)
theorem safes_int : ∀ ns : List Int, safes (ns.map .int) = true
  | [] => rfl
  | _ :: r => by simp [safes, D.safe, safes_int r]
theorem p_law_store (ds : List D) (R : SV → Prop) (F : Exn → Prop) (h : s_law_store ds R F) : rd_law_store (endsF [.b] ds R F) (slots0 [.b] ds ++ List.replicate 2 .no) := by
  obtain ⟨ns, rfl, h1, h2, k⟩ := h
  conv => whnf
  refine ⟨fun _ ρ => ∃ v sv, 0 ≤ v ∧ v < 1000003 ∧ ρ = [.fr false (.scr ns), .fr true (.int v), sv], ⟨11, .no, by decide, by decide, rfl⟩, ?_, ?_⟩
  · rintro i d ρ hd ⟨v, sv, v0, v1, rfl⟩
    rw [List.getElem?_map] at hd
    cases e : ns[i]? with
    | none => rw [e] at hd; cases hd
    | some n =>
      rw [e] at hd
      cases hd
      conv => whnf
      refine ⟨.inr (by decide), ?_⟩
      conv => whnf
      refine ⟨by dsimp only; decide, ?_⟩
      conv => whnf
      refine ⟨by dsimp only; decide, ?_⟩
      conv => whnf
      exact ⟨_, _, Int.emod_nonneg _ (by decide), Int.emod_lt_of_pos _ (by decide), rfl⟩
  · rintro ρ ⟨v, sv, v0, v1, rfl⟩
    conv => whnf
    refine ⟨_, rfl, _, rfl, _, rfl, _, rfl, _, rfl, _, rfl, _, rfl, (by decide : 7 ≤ 15), ?_⟩
    refine ⟨by simp [safes_int], ⟨ns, 0, 0, 0, v, 0, false, rfl, h1, h2, by decide, by decide, by decide, v0, v1⟩, fun a => ⟨k a, ?_, ?_⟩⟩
    · exact rfl
    · exact ⟨trivial, trivial⟩

theorem p_law_size (ds : List D) (R : SV → Prop) (F : Exn → Prop) (h : s_law_size ds R F) : rd_law_size (endsF [.t, .s] ds R F) (slots0 [.t, .s] ds ++ List.replicate 1 .no) := by
  obtain ⟨a, n, rfl, hn, k⟩ := h
  walk_at "go"
  all_goals refine ⟨k _ ?_ ?_, trivial, .inl rfl, trivial, trivial⟩
  all_goals walk_at "side"

theorem p_law_large (ds : List D) (R : SV → Prop) (F : Exn → Prop) (h : s_law_large ds R F) : rd_law_large (endsF [.t, .s] ds R F) (slots0 [.t, .s] ds ++ List.replicate 1 .no) := by
  obtain ⟨a, n, rfl, hn, k⟩ := h
  walk_at "go"
  all_goals refine ⟨k _ ?_ ?_, trivial, .inl rfl, trivial, trivial⟩
  all_goals walk_at "side"

theorem p_law_odds (ds : List D) (R : SV → Prop) (F : Exn → Prop) (h : s_law_odds ds R F) : rd_law_odds (endsF [.t, .s] ds R F) (slots0 [.t, .s] ds ++ List.replicate 0 .no) := by
  obtain ⟨a, n, rfl, hn, k⟩ := h
  walk_at "go"
  all_goals refine ⟨k _, trivial, .inl rfl, trivial, trivial⟩

theorem p_law_pick (ds : List D) (R : SV → Prop) (F : Exn → Prop) (h : s_law_pick ds R F) : rd_law_pick (endsF [.t, .s] ds R F) (slots0 [.t, .s] ds ++ List.replicate 0 .no) := by
  obtain ⟨a, d, rfl, k⟩ := h
  cases d with
  | lst xs =>
    obtain ⟨hl, k0, k⟩ := k
    walk_at "go"
    · rename_i hb
      exact ⟨k0 (List.length_eq_zero_iff.mp (by omega)), trivial, .inl rfl, trivial, trivial⟩
    · rename_i hb r h0 h1
      conv => whnf
      obtain ⟨x, e, hx⟩ := atI_int (xs := xs) (i := r) h0 (by omega)
      exact ⟨x, e, k x hx, trivial, .inl rfl, trivial, trivial⟩
  | str s =>
    obtain ⟨⟨hl, hm⟩, k⟩ := k
    walk_at "go"
    · rename_i hb r h0 h1
      conv => whnf
      obtain ⟨j, rfl⟩ := Int.eq_ofNat_of_zero_le h0
      have hj : j < s.cps.toList.length := by
        show j < s.cps.size
        have : s.length = s.cps.size := rfl
        omega
      exact ⟨s.cps.toList[j], L2.atI_nat (List.getElem?_eq_getElem hj), k _ (List.getElem_mem hj), trivial, .inl rfl, trivial, trivial⟩
  | _ => exact k.elim

theorem seq_at {z : Int} {n : Nat} (h0 : 0 ≤ z) (h1 : z < n) : seqIndex? z n = some z.toNat := by
  unfold seqIndex?
  dsimp only
  rw [if_neg (show ¬ z < 0 by omega), if_pos (by simp [h0, h1])]
theorem p_law_some (ds : List D) (R : SV → Prop) (F : Exn → Prop) (h : s_law_some ds R F) : rd_law_some (endsF [.t, .s, .s] ds R F) (slots0 [.t, .s, .s] ds ++ List.replicate 3 .no) := by
  obtain ⟨a, d, n, rfl, k⟩ := h
  cases d with
  | lst xs =>
    obtain ⟨⟨hl, hn⟩, k⟩ := k
    conv => whnf
    refine ⟨by show (0 : Nat) ≤ line; decide, ?_⟩
    conv => whnf
    refine ⟨by constructor <;> (try dsimp only) <;> split <;> omega, ?_⟩
    conv => whnf
    refine ⟨fun i ρ => ∃ (pool out : List D) (sv : SV), ρ = [.sto a, .fr true (.lst xs), .fr true (.int n), .ol true pool, .ol true out, sv] ∧ pool.length + i = xs.length ∧ out.length = i ∧ (∀ y ∈ pool, y ∈ xs) ∧ ∀ y ∈ out, y ∈ xs, ⟨xs, [], .no, rfl, rfl, rfl, fun y h => h, fun y h => nomatch h⟩, ?_, ?_⟩
    · rintro i x ρ hx ⟨pool, out, sv, rfl, h1, h2, h3, h4⟩
      obtain ⟨hi, rfl⟩ := ints_get hx
      have hi : i < (if (xs.length : Int) < n then (xs.length : Int) else n).toNat := hi
      have hp : 0 < pool.length := by
        have : i < xs.length := by
          split at hi <;> omega
        omega
      conv => whnf
      refine ⟨_, _, rfl, ?_⟩
      refine ⟨by omega, fun r h0 h1' => ?_⟩
      have hr : r < pool.length := by omega
      conv => whnf
      refine ⟨by omega, r.toNat, pool[r.toNat]'(by omega), seq_at h0 hr, List.getElem?_eq_getElem _, ?_⟩
      conv => whnf
      refine ⟨show out.length < line by have : line = 16777216 := rfl; omega, ?_⟩
      conv => whnf
      refine ⟨pool.eraseIdx r.toNat, out ++ [pool[r.toNat]'(by omega)], _, rfl, ?_, by simp [h2], fun y hy => h3 y (List.mem_of_mem_eraseIdx hy), fun y hy => ?_⟩
      · rw [List.length_eraseIdx, if_pos (by omega)]
        omega
      · rcases List.mem_append.mp hy with z | z
        · exact h4 y z
        · rw [List.mem_singleton.mp z]; exact h3 _ (List.getElem_mem _)
    · rintro ρ ⟨pool, out, sv, rfl, h1, h2, h3, h4⟩
      conv => whnf
      refine ⟨k out h4 ?_, trivial, .inl rfl, trivial, trivial, trivial⟩
      rw [h2, ints_len]
      show (((if (xs.length : Int) < n then (xs.length : Int) else n).toNat : Nat) : Int) = _
      split <;> omega
  | _ => exact k.elim

theorem p_law_shuffled (ds : List D) (R : SV → Prop) (F : Exn → Prop) (h : s_law_shuffled ds R F) : rd_law_shuffled (endsF [.t, .s] ds R F) (slots0 [.t, .s] ds ++ List.replicate 2 .no) := by
  obtain ⟨a, xs, rfl, hl, k⟩ := h
  walk_at "go"
  · exact ⟨k xs (fun y h => h) rfl, trivial, .inl rfl, trivial, trivial⟩
  · rename_i hb2 hb1
    conv => whnf
    refine lc_all (P := fun d => d ∈ xs) (fun i x acc hx h1 h2 Iv hI => ?_) fun acc h1 h2 => ?_
    · obtain ⟨hi, rfl⟩ := ints_get hx
      have hi : i < xs.length := by simpa using hi
      conv => whnf
      obtain ⟨d, e, hd⟩ := atI_int (xs := xs) (i := (xs.length : Int) - 1 - (0 + (i : Nat))) (by omega) (by omega)
      refine ifB.T rfl ?_
      conv => whnf
      refine ⟨trivial, ?_⟩
      conv => whnf
      refine ⟨trivial, ?_⟩
      conv => whnf
      refine ⟨d, e, ?_⟩
      exact ⟨by have : line = 16777216 := rfl; omega, hI d hd⟩
    · conv => whnf
      refine ⟨k acc h2 ?_, trivial, .inl rfl, trivial, trivial⟩
      rw [h1, ints_len]
      simp
  · rename_i ys h1 h2
    exact ⟨k ys h1 (by omega), trivial, .inl rfl, trivial, trivial⟩

theorem pl_cases {d : D} (h : Pl d) : d.plain = true ∧ (∀ xs, d = .tup xs ∨ d = .lst xs → xs.length ≤ 2000 ∧ ∀ x ∈ xs, Pl x) := by
  obtain ⟨n, h⟩ := h
  cases n with
  | zero => cases h
  | succ n =>
    refine ⟨by cases d <;> (first | rfl | cases h), fun xs e => ?_⟩
    have h : (decide (xs.length ≤ 2000) && xs.all (pl n)) = true := by
      rcases e with rfl | rfl
      · exact h
      · exact h
    exact ⟨of_decide_eq_true (Bool.and_eq_true_iff.mp h).1, fun x hx => ⟨n, List.all_eq_true.mp (Bool.and_eq_true_iff.mp h).2 x hx⟩⟩
theorem p_plain_count (ds : List D) (R : SV → Prop) (F : Exn → Prop) (h : s_plain_count ds R F) : rd_plain_count (endsF [.s] ds R F) (slots0 [.s] ds ++ List.replicate 0 .no) := by
  obtain ⟨d, rfl, hd, k⟩ := h
  have hp := (pl_cases hd).1
  cases d <;> (first | (cases hp; done) | walk_at "go")
theorem good_list : ∀ xs : List D, xs.length = 3 → xs.all cnt = true → ∃ a b h : Int, xs = [.int a, .int b, .int h] ∧ 0 ≤ a ∧ 0 ≤ b ∧ 0 ≤ h
  | [x, y, z], _, h => by
    simp only [List.all_cons, List.all_nil, Bool.and_true, Bool.and_eq_true] at h
    obtain ⟨h1, h2, h3⟩ := h
    cases x <;> first | (cases h1; done) | skip
    cases y <;> first | (cases h2; done) | skip
    cases z <;> first | (cases h3; done) | skip
    exact ⟨_, _, _, rfl, of_decide_eq_true h1, of_decide_eq_true h2, of_decide_eq_true h3⟩
theorem good_cnt {m : Int} {xs : List D} (h : goodStep m (.tup xs) = true) : xs.length = 3 ∧ xs.all cnt = true := by
  unfold goodStep at h
  split at h
  · rename_i a b c e
    cases e
    simp only [Bool.and_eq_true, decide_eq_true_eq] at h
    simp [cnt, h]
  · cases h
theorem all_id (xs : List D) (f : D → Bool) : (xs.map f).all id = xs.all f := by
  rw [List.all_map]
  rfl
theorem p_good_step (ds : List D) (R : SV → Prop) (F : Exn → Prop) (h : s_good_step ds R F) : rd_good_step (endsF [.s, .s] ds R F) (slots0 [.s, .s] ds ++ List.replicate 1 .no) := by
  obtain ⟨m, d, rfl, hd, k⟩ := h
  have hc := pl_cases hd
  cases d with
  | tup xs =>
    obtain ⟨hl, hp⟩ := hc.2 xs (.inl rfl)
    walk_at "go"
    · rename_i hb
      refine ⟨?_, trivial, trivial, trivial, trivial⟩
      cases e : goodStep m (.tup xs) with
      | false => rw [e] at k; exact k
      | true =>
        have := (good_cnt e).1
        omega
    · rename_i hb
      refine lc_inv (fun d => .bl (cnt d)) (fun i x hx Iv hI => ?_) ?_
      · have hm := hp x (List.mem_of_getElem? hx)
        walk_at "go"
        refine ⟨by have : line = 16777216 := rfl; rw [List.length_map, List.length_take]; omega, hI⟩
      · conv => whnf
        refine ⟨xs.map cnt, by rw [List.map_map]; rfl, ?_⟩
        conv => whnf
        refine ⟨fun hb2 => ?_, fun hb2 => ?_⟩
        · refine ⟨?_, trivial, trivial, trivial, trivial⟩
          cases e : goodStep m (.tup xs) with
          | false => rw [e] at k; exact k
          | true =>
            have := (good_cnt e).2
            rw [all_id, this] at hb2
            cases hb2
        · have hb2 : xs.all cnt = true := by
            rw [all_id] at hb2
            simpa using hb2
          obtain ⟨a, b, h, rfl, h1, h2, h3⟩ := good_list xs (by omega) hb2
          have e : goodStep m (.tup [.int a, .int b, .int h]) = (decide (a < b) && decide (b ≤ m)) := by
            simp [goodStep, h1, h2, h3]
          rw [e] at k
          walk_at "go"
          · rename_i hb
            rw [decide_eq_true hb] at k
            conv => whnf
            exact ⟨k, trivial, trivial, trivial, trivial⟩
          · rename_i hb
            rw [decide_eq_false (by omega : ¬ a < b)] at k
            conv => whnf
            exact ⟨k, trivial, trivial, trivial, trivial⟩
  | _ => first | (cases hc.1; done) | walk_at "go"

theorem many_of {m : D} (h : manyOk m = true) : ∃ i : Int, m = .int i ∧ 0 ≤ i ∧ i ≤ 60 := by
  cases m with
  | int i =>
    obtain ⟨h1, h2⟩ := Bool.and_eq_true_iff.mp h
    exact ⟨i, rfl, of_decide_eq_true h1, of_decide_eq_true h2⟩
  | _ => cases h
theorem bang_t {b : Bool} (h : (!b) = true) : b = false := by simpa using h
theorem bang_f {b : Bool} (h : (!b) = false) : b = true := by simpa using h
theorem fits_lit : (Str.ofString "many").length ≤ 1000000 ∧ (Str.ofString "steps").length ≤ 1000000 ∧ (Str.ofString "harm").length ≤ 1000000 := by decide +kernel
theorem p_check_graph (ds : List D) (R : SV → Prop) (F : Exn → Prop) (h : s_check_graph ds R F) : rd_check_graph (endsF [.s, .s] ds R F) (slots0 [.s, .s] ds ++ List.replicate 1 .no) := by
  obtain ⟨m, s, rfl, hm, hs, k⟩ := h
  have bad1 : manyOk m = false → F ⟨.bv, [("argument", .str "many")]⟩ := fun e => by
    unfold chk at k
    rw [e] at k
    exact k
  have bad2 : ∀ i, m = .int i → 0 ≤ i → i ≤ 60 → stepsOk m s = false → F ⟨.bv, [("argument", .str "steps")]⟩ := fun i e h0 h1 e2 => by
    subst e
    unfold chk at k
    rw [show manyOk (.int i) = true by simp [manyOk, h0, h1], e2] at k
    exact k
  have good : ∀ i, m = .int i → 0 ≤ i → i ≤ 60 → stepsOk m s = true → R (.fr true .non) := fun i e h0 h1 e2 => by
    subst e
    unfold chk at k
    rw [show manyOk (.int i) = true by simp [manyOk, h0, h1], e2] at k
    exact k
  clear k
  have hsP := pl_cases hs
  conv => whnf
  refine ⟨_, rfl, hm, ?_⟩
  conv => whnf
  refine ⟨fun hb => ?_, fun hb => ?_⟩
  · conv => whnf
    refine ifB.T rfl ?_
    refine ⟨fits_lit.1, bad1 ?_, trivial, trivial, trivial⟩
    have hb := bang_t hb
    cases m with
    | int i =>
      have hb : decide (0 ≤ i) = false := hb
      simp [manyOk, hb]
    | _ => rfl
  · have hb := bang_f hb
    cases m with
    | int i =>
      have h0 : 0 ≤ i := of_decide_eq_true hb
      conv => whnf
      refine ⟨fun hb2 => ?_, fun hb2 => ?_⟩
      · refine ⟨fits_lit.1, bad1 ?_, trivial, trivial, trivial⟩
        have : ¬ i ≤ 60 := by
          have : 60 < i := of_decide_eq_true hb2
          omega
        simp [manyOk, this]
      · have h1 : i ≤ 60 := by
          have : ¬ 60 < i := of_decide_eq_false hb2
          omega
        cases s with
        | lst xs =>
          obtain ⟨hl, hp⟩ := hsP.2 xs (.inr rfl)
          walk_at "go"
          · rename_i hb3
            refine ⟨bad2 i rfl h0 h1 ?_, trivial, trivial, trivial⟩
            simp only [stepsOk]
            rw [decide_eq_false (by omega)]
            rfl
          · rename_i hb3
            refine lc_inv (fun d => .bl (goodStep i d)) (fun j x hx Iv hI => ?_) ?_
            · have hm := hp x (List.mem_of_getElem? hx)
              walk_at "go"
              refine ⟨by have : line = 16777216 := rfl; rw [List.length_map, List.length_take]; omega, hI⟩
            · conv => whnf
              refine ⟨xs.map (goodStep i), by rw [List.map_map]; rfl, ?_⟩
              conv => whnf
              have e : stepsOk (.int i) (.lst xs) = xs.all (goodStep i) := by
                simp only [stepsOk]
                rw [decide_eq_true (by omega)]
                rfl
              refine ⟨fun hb4 => ?_, fun hb4 => ?_⟩
              · have hb4 := bang_t hb4
                rw [all_id] at hb4
                exact ⟨fits_lit.2.1, bad2 i rfl h0 h1 (e.trans hb4), trivial, trivial, trivial⟩
              · have hb4 := bang_f hb4
                rw [all_id] at hb4
                exact ⟨good i rfl h0 h1 (e.trans hb4), trivial, trivial, trivial⟩
        | _ => first | (cases hsP.1; done) | (walk_at "go"; exact ⟨bad2 i rfl h0 h1 rfl, trivial, trivial, trivial⟩)
    | _ => cases hb
theorem el_at {xs : List D} {i : Int} (h0 : 0 ≤ i) (h1 : i < xs.length) : L2.atI xs i = some (el xs i) ∧ el xs i ∈ xs := by
  obtain ⟨j, rfl⟩ := Int.eq_ofNat_of_zero_le h0
  have hj : j < xs.length := by omega
  have e : el xs (j : Int) = xs[j] := by
    unfold el
    rw [Int.toNat_natCast, List.getElem?_eq_getElem hj]
    rfl
  rw [e]
  exact ⟨L2.atI_nat (List.getElem?_eq_getElem hj), List.getElem_mem hj⟩
theorem entry_cases {d : D} (h : entry d = true) : d = .non ∨ ∃ i : Int, d = .int i ∧ 0 ≤ i := by
  cases d with
  | non => exact .inl rfl
  | int i => exact .inr ⟨i, rfl, of_decide_eq_true h⟩
  | _ => cases h
theorem p_step_kept (ds : List D) (R : SV → Prop) (F : Exn → Prop) (h : s_step_kept ds R F) : rd_step_kept (endsF [.s, .s] ds R F) (slots0 [.s, .s] ds ++ List.replicate 3 .no) := by
  obtain ⟨xs, a, b, hh, rfl, ⟨a0, a1⟩, ⟨b0, b1⟩, he, k⟩ := h
  obtain ⟨ea, ma⟩ := el_at a0 a1
  obtain ⟨eb, mb⟩ := el_at b0 b1
  unfold kept at k
  conv => whnf
  refine ⟨rfl, ?_⟩
  conv => whnf
  rcases entry_cases (List.all_eq_true.mp he _ ma) with z | ⟨x, z, x0⟩ <;> rcases entry_cases (List.all_eq_true.mp he _ mb) with w | ⟨y, w, y0⟩ <;> rw [z] at ea <;> rw [w] at eb <;> rw [z, w] at k
  · refine ⟨_, ea, ?_⟩
    walk_at "go"
  · refine ⟨_, ea, ?_⟩
    walk_at "go"
  · refine ⟨_, ea, ?_⟩
    walk_at "go"
    refine ⟨_, eb, ?_⟩
    walk_at "go"
  · refine ⟨_, ea, ?_⟩
    walk_at "go"
    refine ⟨_, eb, ?_⟩
    walk_at "go"
    refine ⟨_, eb, ?_⟩
    conv => whnf
    refine ⟨_, ea, ?_⟩
    walk_at "go"

theorem shut_lst {m : Int} {ss xs : List D} : shut m ss (.lst xs) = (decide ((xs.length : Int) = m + 1) && (xs.all entry && ((match el xs 0 with
    | .int i => decide (i = 0)
    | _ => false) && ss.all (keptS xs)))) := rfl
theorem good_of {m : Int} {d : D} (h : goodStep m d = true) : ∃ a b hh : Int, d = .tup [.int a, .int b, .int hh] ∧ 0 ≤ a ∧ a < b ∧ b ≤ m ∧ 0 ≤ hh := by
  unfold goodStep at h
  split at h
  · rename_i a b c
    simp only [Bool.and_eq_true, decide_eq_true_eq] at h
    exact ⟨a, b, c, rfl, h.1, h.2.2.2.1, h.2.2.2.2, h.2.2.1⟩
  · cases h
theorem pl_cnt {d : D} (h : cnt d = true) : Pl d := by
  cases d with
  | int i => exact ⟨1, rfl⟩
  | _ => cases h
theorem steps_of {m s : D} (h : chk m s = none) : ∃ (i : Int) (ss : List D), m = .int i ∧ s = .lst ss ∧ (0 ≤ i ∧ i ≤ 60) ∧ ss.length ≤ 1000 ∧ goodS i ss := by
  unfold chk at h
  split at h
  · rename_i h1
    obtain ⟨i, rfl, h2, h3⟩ := many_of h1
    split at h
    · rename_i h4
      cases s with
      | lst ss =>
        obtain ⟨h5, h6⟩ := Bool.and_eq_true_iff.mp h4
        exact ⟨i, ss, rfl, rfl, ⟨h2, h3⟩, of_decide_eq_true h5, List.all_eq_true.mp h6⟩
      | _ => cases h4
    · cases h
  · cases h
theorem p_bars_way (ds : List D) (R : SV → Prop) (F : Exn → Prop) (h : s_bars_way ds R F) : rd_bars_way (endsF [.s, .s, .s, .s] ds R F) (slots0 [.s, .s, .s, .s] ds ++ List.replicate 2 .no) := by
  obtain ⟨m, s, h, p, rfl, hm, hs, hh, hp, k⟩ := h
  conv => whnf
  refine ⟨_, _, rfl, hm, hs, ?_⟩
  cases ec : chk m s with
  | some nm =>
    rw [ec] at k
    exact ⟨k, trivial, trivial, trivial, trivial, trivial⟩
  | none =>
    rw [ec] at k
    obtain ⟨i, ss, rfl, rfl, ⟨i0, i1⟩, hl, hg⟩ := steps_of ec
    dsimp only at k
    have hpc := pl_cases hp
    have main : ∀ h : D, (harmOk h = true) → Pl h → R (.fr true (.bl (bw i ss h p))) → rt_bars_way_6 (endsF [.s, .s, .s, .s] [.int i, .lst ss, h, p] R F) (slots0 [.s, .s, .s, .s] [.int i, .lst ss, h, p] ++ List.replicate 2 .no) := fun h hho hh k => by
      have no : shut i ss p = false → R (.fr true (.bl false)) := fun e => by
        unfold bw at k
        rw [e] at k
        exact k
      cases p with
      | lst xs =>
        obtain ⟨hxl, hxp⟩ := hpc.2 xs (.inr rfl)
        walk_at "go"
        · rename_i hb
          refine ⟨no ?_, trivial, trivial, trivial, trivial, trivial, trivial⟩
          rw [shut_lst, decide_eq_false (by omega)]
          rfl
        · rename_i hb
          refine lc_inv (fun d => .bl (entry d)) (fun j x hx Iv hI => ?_) ?_
          · have hmx := hxp x (List.mem_of_getElem? hx)
            have hpx := (pl_cases hmx).1
            have hlen : (List.map (fun d => D.bl (entry d)) (List.take j xs)).length < line := by
              have : line = 16777216 := rfl
              rw [List.length_map, List.length_take]
              omega
            cases x <;> first | (cases hpx; done) | (walk_at "go"; exact hI)
          · conv => whnf
            refine ⟨xs.map entry, by rw [List.map_map]; rfl, ?_⟩
            conv => whnf
            refine ⟨fun hb2 => ?_, fun hb2 => ?_⟩
            · have hb2 := bang_t hb2
              rw [all_id] at hb2
              refine ⟨no ?_, trivial, trivial, trivial, trivial, trivial, trivial⟩
              rw [shut_lst, hb2, Bool.false_and, Bool.and_false]
            · have hb2 := bang_f hb2
              rw [all_id] at hb2
              have hent := List.all_eq_true.mp hb2
              obtain ⟨e0, m0⟩ := el_at (xs := xs) (i := 0) (by omega) (by omega)
              obtain ⟨eM, mM⟩ := el_at (xs := xs) (i := i) (by omega) (by omega)
              have es : shut i ss (.lst xs) = ((match el xs 0 with
                | .int i => decide (i = 0)
                | _ => false) && ss.all (keptS xs)) := by
                rw [shut_lst, decide_eq_true hb, hb2, Bool.true_and, Bool.true_and]
              conv => whnf
              rcases entry_cases (hent _ m0) with z | ⟨x0, z, _⟩ <;> rw [z] at es e0
              · refine ⟨_, e0, ?_⟩
                walk_at "go"
                exact ⟨no es, trivial, trivial, trivial, trivial, trivial, trivial⟩
              · refine ⟨_, e0, ?_⟩
                walk_at "go"
                refine ⟨_, e0, ?_⟩
                walk_at "go"
                · rename_i hx0
                  refine ⟨no (es.trans ?_), trivial, trivial, trivial, trivial, trivial, trivial⟩
                  dsimp only
                  rw [decide_eq_false hx0]
                  rfl
                · rename_i hx0
                  have es : shut i ss (.lst xs) = ss.all (keptS xs) := by
                    rw [es]
                    dsimp only
                    rw [decide_eq_true hx0, Bool.true_and]
                  refine lc_inv (fun d => .bl (keptS xs d)) (fun j x hx Iv hI => ?_) ?_
                  · obtain ⟨a, b, hh, rfl, a0, ab, bm, h0⟩ := good_of (hg x (List.mem_of_getElem? hx))
                    have hlen : (List.map (fun d => D.bl (keptS xs d)) (List.take j ss)).length < line := by
                      have : line = 16777216 := rfl
                      rw [List.length_map, List.length_take]
                      omega
                    conv => whnf
                    refine ifB.T rfl ?_
                    conv => whnf
                    refine ⟨_, _, _, _, rfl, ⟨a0, by omega⟩, ⟨by omega, by omega⟩, hb2, ?_⟩
                    exact ⟨hlen, hI⟩
                  · conv => whnf
                    refine ⟨ss.map (keptS xs), by rw [List.map_map]; rfl, ?_⟩
                    conv => whnf
                    refine ⟨fun hb3 => ?_, fun hb3 => ?_⟩
                    · have hb3 := bang_t hb3
                      rw [all_id] at hb3
                      exact ⟨no (es.trans hb3), trivial, trivial, trivial, trivial, trivial, trivial⟩
                    · have hb3 := bang_f hb3
                      rw [all_id] at hb3
                      have k : R (.fr true (.bl (last i h (.lst xs)))) := by
                        unfold bw at k
                        rw [es, hb3, Bool.true_and] at k
                        exact k
                      unfold last at k
                      conv => whnf
                      rcases entry_cases (hent _ mM) with w | ⟨y, w, _⟩ <;> dsimp only at k <;> rw [w] at k eM
                      · refine ⟨_, eM, ?_⟩
                        walk_at "go"
                      · refine ⟨_, eM, ?_⟩
                        rcases entry_cases (d := h) hho with rfl | ⟨z, rfl, _⟩
                        · walk_at "go"
                        · walk_at "go"
                          refine ⟨_, eM, ?_⟩
                          walk_at "go"
      | _ => first | (cases hpc.1; done) | (have k := no rfl; walk_at "go")
    by_cases hx : harmOk h = true
    · rw [if_pos hx] at k
      rcases entry_cases (d := h) hx with rfl | ⟨z, rfl, hz⟩
      · walk_at "w"
        refine ⟨rfl, ?_⟩
        walk_at "w"
        refine ifB.F rfl ?_
        walk_at "w"
        refine ifB.F rfl ?_
        exact main _ rfl hh k
      · walk_at "w"
        refine ⟨rfl, ?_⟩
        walk_at "w"
        refine ifB.T rfl ?_
        walk_at "w"
        refine ⟨_, rfl, hh, ?_⟩
        walk_at "w"
        refine ifB.F (by rw [show cnt (.int z) = true from decide_eq_true hz]; rfl) ?_
        exact main _ hx hh k
    · rw [if_neg hx] at k
      have hc : cnt h = false := by
        cases e : cnt h with
        | false => rfl
        | true => exact absurd (show (h.isNon || cnt h) = true by rw [e, Bool.or_true]) hx
      have hn : h.isNon = false := by
        cases e : h.isNon with
        | false => rfl
        | true => exact absurd (show (h.isNon || cnt h) = true by rw [e, Bool.true_or]) hx
      walk_at "w"
      refine ⟨rfl, ?_⟩
      walk_at "w"
      refine ifB.T (by rw [hn]; rfl) ?_
      walk_at "w"
      refine ⟨_, rfl, hh, ?_⟩
      walk_at "w"
      refine ifB.T (by rw [hc]; rfl) ?_
      exact ⟨fits_lit.2.2, k, trivial, trivial, trivial, trivial, trivial⟩

theorem pl_succ {n : Nat} {d : D} (h : pl n d = true) : ∃ m, n = m + 1 := by
  cases n with
  | zero => cases h
  | succ m => exact ⟨m, rfl⟩
theorem pl_seq {n : Nat} {xs : List D} {d : D} (e : d = .tup xs ∨ d = .lst xs) (h : pl (n + 1) d = true) : xs.length ≤ 2000 ∧ ∀ x ∈ xs, pl n x = true := by
  have h : (decide (xs.length ≤ 2000) && xs.all (pl n)) = true := by
    rcases e with rfl | rfl
    · exact h
    · exact h
  exact ⟨of_decide_eq_true (Bool.and_eq_true_iff.mp h).1, List.all_eq_true.mp (Bool.and_eq_true_iff.mp h).2⟩
theorem pl_dk {n : Nat} {kvs : List (Ky × D)} (h : pl (n + 1) (.dk kvs) = true) : kvs.length ≤ 2000 ∧ (kvs.map (·.1)).Nodup ∧ ∀ kv ∈ kvs, pl n kv.2 = true := by
  have h : (decide (kvs.length ≤ 2000) && (decide (kvs.map (·.1)).Nodup && kvs.all fun kv => pl n kv.2)) = true := h
  obtain ⟨h1, h2⟩ := Bool.and_eq_true_iff.mp h
  obtain ⟨h2, h3⟩ := Bool.and_eq_true_iff.mp h2
  exact ⟨of_decide_eq_true h1, of_decide_eq_true h2, fun kv hk => List.all_eq_true.mp h3 kv hk⟩
theorem atI_nat' {xs : List D} {i : Nat} {x : D} (h : xs[i]? = some x) : L2.atI xs ((0 : Int) + (i : Nat)) = some x := by
  rw [Int.zero_add]
  exact L2.atI_nat h
theorem dget_mem {kvs : List (Ky × D)} {kv : Ky × D} (h : kv ∈ kvs) : ∃ d, dget kvs kv.1 = some d ∧ ∃ kv' ∈ kvs, kv'.2 = d := by
  unfold dget
  cases e : kvs.find? fun z => decide (z.1 = kv.1) with
  | none =>
    have := List.find?_eq_none.mp e kv h
    simp at this
  | some z => exact ⟨z.2, rfl, z, List.mem_of_find?_eq_some e, rfl⟩
theorem kyD_key (k : Ky) : (kyD k).key = some k := by
  cases k <;> rfl
/-- the loop of same over a row -/
theorem same_row {n : Nat} {xs : List D} {R : SV → Prop} {F : Exn → Prop} {d : D} (e : d = .tup xs ∨ d = .lst xs) (hp : ∀ x ∈ xs, pl n x = true) (hl : xs.length ≤ 2000) (k : R (.fr true (.bl true))) :
    rt_law_same_3 (sI_law_same n) (endsF [.s, .s] [d, d] R F) [.fr true d, .fr true d, .no, .no] := by
  have hlen : (-(2 ^ 62) ≤ (xs.length : Int) ∧ (xs.length : Int) < 2 ^ 62) := by omega
  rcases e with rfl | rfl
  · walk_at "w"
    refine ⟨hlen, ?_⟩
    walk_at "w"
    refine ⟨fun i ρ => ∃ sv, ρ = [.fr true (.tup xs), .fr true (.tup xs), sv, .no], ⟨.no, rfl⟩, ?_, ?_⟩
    · rintro i x ρ hx ⟨sv, rfl⟩
      obtain ⟨hi, rfl⟩ := ints_get hx
      have hi : i < xs.length := by simpa using hi
      have e := atI_nat' (List.getElem?_eq_getElem hi)
      walk_at "w"
      refine ⟨_, e, ?_⟩
      walk_at "w"
      refine ⟨_, e, ?_⟩
      walk_at "w"
      refine ⟨_, rfl, hp _ (List.getElem_mem hi), ?_⟩
      walk_at "w"
      refine ifB.F rfl ?_
      exact ⟨_, rfl⟩
    · rintro ρ ⟨sv, rfl⟩
      walk_at "go"
  · walk_at "w"
    refine ⟨hlen, ?_⟩
    walk_at "w"
    refine ⟨fun i ρ => ∃ sv, ρ = [.fr true (.lst xs), .fr true (.lst xs), sv, .no], ⟨.no, rfl⟩, ?_, ?_⟩
    · rintro i x ρ hx ⟨sv, rfl⟩
      obtain ⟨hi, rfl⟩ := ints_get hx
      have hi : i < xs.length := by simpa using hi
      have e := atI_nat' (List.getElem?_eq_getElem hi)
      walk_at "w"
      refine ⟨_, e, ?_⟩
      walk_at "w"
      refine ⟨_, e, ?_⟩
      walk_at "w"
      refine ⟨_, rfl, hp _ (List.getElem_mem hi), ?_⟩
      walk_at "w"
      refine ifB.F rfl ?_
      exact ⟨_, rfl⟩
    · rintro ρ ⟨sv, rfl⟩
      walk_at "go"
theorem p_law_same (n : Nat) (ds : List D) (R : SV → Prop) (F : Exn → Prop) (h : sI_law_same (n + 1) ds R F) : rd_law_same (sI_law_same n) (endsF [.s, .s] ds R F) (slots0 [.s, .s] ds ++ List.replicate 2 .no) := by
  obtain ⟨d, rfl, hd, k⟩ := h
  cases d with
  | non => walk_at "go"
  | bl b =>
    walk_at "go"
    walk_at "w"
    refine ⟨?_, trivial, trivial, trivial, trivial⟩
    have e : (false ^^ (D.bl b).eqv (D.bl b)) = true := by simp [D.eqv]
    show R (.fr true (.bl (false ^^ (D.bl b).eqv (D.bl b))))
    rw [e]
    exact k
  | int i =>
    walk_at "go"
    walk_at "w"
    refine ⟨?_, trivial, trivial, trivial, trivial⟩
    have e : (false ^^ (D.int i).eqv (D.int i)) = true := by simp [D.eqv]
    show R (.fr true (.bl (false ^^ (D.int i).eqv (D.int i))))
    rw [e]
    exact k
  | str s =>
    walk_at "go"
    walk_at "w"
    refine ⟨?_, trivial, trivial, trivial, trivial⟩
    have e : (false ^^ (s == s)) = true := by simp
    show R (.fr true (.bl (false ^^ (s == s))))
    rw [e]
    exact k
  | lst xs =>
    obtain ⟨hl, hp⟩ := pl_seq (.inr rfl) hd
    walk_at "go"
    exact (show _ ∧ _ from same_row (F := F) (.inr rfl) hp hl k).2
  | tup xs =>
    obtain ⟨hl, hp⟩ := pl_seq (.inl rfl) hd
    walk_at "go"
    exact (show _ ∧ _ from same_row (F := F) (.inl rfl) hp hl k).2
  | dk kvs =>
    obtain ⟨hl, hn, hp⟩ := pl_dk hd
    walk_at "go"
    refine ⟨fun i ρ => ∃ sv, ρ = [.fr true (.dk kvs), .fr true (.dk kvs), .no, sv], ⟨.no, rfl⟩, ?_, ?_⟩
    · rintro i x ρ hx ⟨sv, rfl⟩
      rw [List.getElem?_map] at hx
      cases e : kvs[i]? with
      | none => rw [e] at hx; cases hx
      | some kv =>
        rw [e] at hx
        cases hx
        obtain ⟨d, e1, kv', hm, e2⟩ := dget_mem (List.mem_of_getElem? e)
        have key : (kyD kv.1).key = some kv.1 := kyD_key _
        obtain ⟨ky, v⟩ := kv
        cases ky with
        | inl z =>
          dsimp only at e1 key
          walk_at "w"
          refine ⟨Sum.inl z, key, ?_⟩
          walk_at "w"
          refine ifB.F (by rw [e1]; rfl) ?_
          walk_at "w"
          refine ⟨Sum.inl z, d, key, e1, ?_⟩
          walk_at "w"
          refine ⟨Sum.inl z, d, key, e1, ?_⟩
          walk_at "w"
          refine ⟨_, rfl, by rw [← e2]; exact hp _ hm, ?_⟩
          walk_at "w"
          refine ifB.F rfl ?_
          exact ⟨_, rfl⟩
        | inr z =>
          dsimp only at e1 key
          walk_at "w"
          refine ⟨Sum.inr z, key, ?_⟩
          walk_at "w"
          refine ifB.F (by rw [e1]; rfl) ?_
          walk_at "w"
          refine ⟨Sum.inr z, d, key, e1, ?_⟩
          walk_at "w"
          refine ⟨Sum.inr z, d, key, e1, ?_⟩
          walk_at "w"
          refine ⟨_, rfl, by rw [← e2]; exact hp _ hm, ?_⟩
          walk_at "w"
          refine ifB.F rfl ?_
          exact ⟨_, rfl⟩
    · rintro ρ ⟨sv, rfl⟩
      walk_at "go"
  | _ => cases hd

theorem p_law_is_int (ds : List D) (R : SV → Prop) (F : Exn → Prop) (h : s_law_is_int ds R F) : rd_law_is_int (endsF [.s] ds R F) (slots0 [.s] ds ++ List.replicate 0 .no) := by
  obtain ⟨d, rfl, hd, k⟩ := h
  have hp := (pl_cases hd).1
  cases d <;> (first | (cases hp; done) | walk_at "go")
theorem pl_up : ∀ {n m : Nat} {d : D}, n ≤ m → pl n d = true → pl m d = true
  | 0, _, _, _, h => by cases h
  | n + 1, 0, _, hl, _ => by omega
  | n + 1, m + 1, d, hl, h => by
    have up : ∀ x, pl n x = true → pl m x = true := fun x => pl_up (by omega)
    cases d with
    | lst xs =>
      obtain ⟨h1, h2⟩ := pl_seq (.inr rfl) h
      show (decide (xs.length ≤ 2000) && xs.all (pl m)) = true
      rw [decide_eq_true h1, List.all_eq_true.mpr fun x hx => up x (h2 x hx)]
      rfl
    | tup xs =>
      obtain ⟨h1, h2⟩ := pl_seq (.inl rfl) h
      show (decide (xs.length ≤ 2000) && xs.all (pl m)) = true
      rw [decide_eq_true h1, List.all_eq_true.mpr fun x hx => up x (h2 x hx)]
      rfl
    | dk kvs =>
      obtain ⟨h1, h2, h3⟩ := pl_dk h
      show (decide (kvs.length ≤ 2000) && (decide (kvs.map (·.1)).Nodup && kvs.all fun kv => pl m kv.2)) = true
      rw [decide_eq_true h1, decide_eq_true h2, List.all_eq_true.mpr fun x hx => up x.2 (h3 x hx)]
      rfl
    | obj _ _ => cases h
    | dt _ => cases h
    | ref _ => cases h
    | ty _ => cases h
    | scr _ => cases h
    | _ => rfl
theorem cut_mem {xs : List D} {lo hi : Option Int} {d : D} (h : d ∈ cutD xs lo hi) : d ∈ xs := List.mem_of_mem_drop (List.mem_of_mem_take h)
theorem cut_len {xs : List D} {lo hi : Option Int} : (cutD xs lo hi).length ≤ xs.length := by
  unfold cutD
  rw [List.length_take, List.length_drop]
  omega
theorem pl_entry {n : Nat} {d : D} (h : entry d = true) : pl (n + 1) d = true := by
  rcases entry_cases h with rfl | ⟨i, rfl, _⟩ <;> rfl
theorem pl_row {n : Nat} {xs : List D} (hl : xs.length ≤ 2000) (h : ∀ d ∈ xs, pl n d = true) : pl (n + 1) (.lst xs) = true ∧ pl (n + 1) (.tup xs) = true := by
  have e : (decide (xs.length ≤ 2000) && xs.all (pl n)) = true := by
    rw [decide_eq_true hl, List.all_eq_true.mpr h]
    rfl
  exact ⟨e, e⟩
theorem pl_good {m : Int} {d : D} {n : Nat} (h : goodStep m d = true) : pl (n + 2) d = true := by
  obtain ⟨a, b, hh, rfl, _⟩ := good_of h
  rfl
theorem pl_goodS {m : Int} {ss : List D} {n : Nat} (h : goodS m ss) (hl : ss.length ≤ 2000) : pl (n + 3) (.lst ss) = true := (pl_row hl fun d hd => pl_good (h d hd)).1
theorem chk_none {m : Int} {ss : List D} (hm : 0 ≤ m ∧ m ≤ 60) (h : goodS m ss) (hl : ss.length ≤ 1000) : chk (.int m) (.lst ss) = none := by
  have e1 : manyOk (.int m) = true := by
    show (decide (0 ≤ m) && decide (m ≤ 60)) = true
    rw [decide_eq_true hm.1, decide_eq_true hm.2]
    rfl
  have e2 : stepsOk (.int m) (.lst ss) = true := by
    show (decide (ss.length ≤ 1000) && ss.all (goodStep m)) = true
    rw [decide_eq_true hl, List.all_eq_true.mpr h]
    rfl
  unfold chk
  rw [if_pos e1, if_pos e2]
theorem pl_harm {h : D} (hh : harmOk h = true) : Pl h := by
  cases h with
  | non => exact ⟨1, rfl⟩
  | int _ => exact ⟨1, rfl⟩
  | _ => cases hh

theorem good_mk {m a b h : Int} (h0 : 0 ≤ a) (h1 : a < b) (h2 : b ≤ m) (h3 : 0 ≤ h) : goodStep m (.tup [.int a, .int b, .int h]) = true := by
  simp only [goodStep, Bool.and_eq_true, decide_eq_true_eq]
  omega
theorem goodS_app {m : Int} {xs : List D} {d : D} (h : goodS m xs) (hd : goodStep m d = true) : goodS m (xs ++ [d]) := fun e he => by
  rcases List.mem_append.mp he with z | z
  · exact h e z
  · rw [List.mem_singleton.mp z]; exact hd
theorem lt_line {n : Nat} (h : n ≤ 2000) : n < line := Nat.lt_of_le_of_lt h (by decide)
theorem steps_end {a : Addr} {m : Int} {R : SV → Prop} {F : Exn → Prop} (hm : 0 ≤ m ∧ m ≤ 60) (k : ∀ xs : List D, xs.length ≤ 62 → goodS m xs → R (.ol true xs)) {xs : List D} (hl : xs.length ≤ 62) (hg : goodS m xs) {s3 s4 s5 s6 s7 : SV} :
    rt_law_steps_6 (endsF [.t, .s] [.ref a, .int m] R F) [.sto a, .fr true (.int m), .ol true xs, s3, s4, s5, s6, s7] := by
  walk_at "w"
  refine ⟨_, _, rfl, by omega, fun ys h1 h2 => ?_⟩
  exact ⟨k ys (by omega) (fun d hd => hg d (h1 d hd)), trivial, .inl rfl, trivial, trivial⟩
theorem steps_mid {a : Addr} {m : Int} {R : SV → Prop} {F : Exn → Prop} (hm : 0 ≤ m ∧ m ≤ 60) (k : ∀ xs : List D, xs.length ≤ 62 → goodS m xs → R (.ol true xs)) {xs : List D} (hl : xs.length ≤ 60) (hg : goodS m xs) {s3 s4 s5 s6 s7 : SV} :
    rt_law_steps_7 (endsF [.t, .s] [.ref a, .int m] R F) [.sto a, .fr true (.int m), .ol true xs, s3, s4, s5, s6, s7] := by
  walk_at "w"
  refine ifB.mk (fun hb => ?_) (fun hb => ?_)
  · walk_at "w"
    refine ⟨_, _, rfl, by decide +kernel, fun b => ?_⟩
    walk_at "w"
    refine ifB.mk (fun hb => ?_) (fun hb => ?_)
    · walk_at "w"
      refine ⟨_, _, rfl, by omega, fun e => ?_, fun x hx => ?_⟩
      · subst e
        cases (show decide ((0 : Int) < ((([] : List D).length : Nat) : Int)) = true by assumption)
      · have gx := hg x hx
        obtain ⟨p, q, r, rfl, p0, pq, qm, r0⟩ := good_of gx
        refine ⟨⟨rfl, rfl⟩, ?_⟩
        walk_at "w"
        refine ⟨lt_line (by omega), ?_⟩
        walk_at "w"
        refine ⟨.int p, rfl, ?_⟩
        walk_at "w"
        refine ⟨.int q, rfl, ?_⟩
        walk_at "w"
        refine ⟨_, _, rfl, by decide +kernel, fun h h0 h1 => ?_⟩
        walk_at "w"
        refine ⟨by show 3 ≤ line; decide, ?_⟩
        walk_at "w"
        refine ⟨lt_line (by rw [List.length_append]; show xs.length + 1 ≤ 2000; omega), ?_⟩
        refine steps_end hm k (xs := (xs ++ [.tup [.int p, .int q, .int r]]) ++ [.tup [.int p, .int q, .int h]]) (by simp; omega) (goodS_app (goodS_app hg gx) (good_mk p0 pq qm h0))
    · exact steps_end hm k (by omega) hg
  · walk_at "w"
    refine ifB.F rfl ?_
    exact steps_end hm k (by omega) hg
theorem steps_2 {a : Addr} {m : Int} {R : SV → Prop} {F : Exn → Prop} (hm : 0 ≤ m ∧ m ≤ 60) (k : ∀ xs : List D, xs.length ≤ 62 → goodS m xs → R (.ol true xs)) {xs : List D} (hl : xs.length ≤ 60) (hg : goodS m xs) {s3 s4 s5 s6 s7 : SV} :
    rt_law_steps_8 (endsF [.t, .s] [.ref a, .int m] R F) [.sto a, .fr true (.int m), .ol true xs, s3, s4, s5, s6, s7] := by
  walk_at "w"
  refine ⟨_, _, rfl, by decide +kernel, fun r h0 h1 => ?_⟩
  walk_at "w"
  refine ⟨trivial, ?_⟩
  walk_at "w"
  refine ⟨by constructor <;> (try dsimp only) <;> split <;> omega, ?_⟩
  walk_at "w"
  refine ⟨fun i ρ => ∃ xs' s3 s4 s5 s6 s7, ρ = [.sto a, .fr true (.int m), .ol true xs', s3, s4, s5, s6, s7] ∧ goodS m xs' ∧ xs'.length ≤ xs.length + i, ⟨_, _, _, _, _, _, rfl, hg, Nat.le_refl _⟩, ?_, ?_⟩
  · rintro i x ρ hx ⟨xs', s3, s4, s5, s6, s7, rfl, hg', hl'⟩
    obtain ⟨hi, rfl⟩ := ints_get hx
    have hi : i < 60 - xs.length := by
      have : i < (if 60 - (xs.length : Int) < r then 60 - (xs.length : Int) else r).toNat := hi
      split at this <;> omega
    walk_at "w"
    refine ⟨_, _, rfl, by omega, fun p p0 p1 => ?_⟩
    walk_at "w"
    refine ifB.mk (fun hb => ?_) (fun hb => ?_)
    · have hb : p < m := of_decide_eq_true hb
      walk_at "w"
      refine ⟨trivial, ?_⟩
      walk_at "w"
      refine ⟨_, _, rfl, by dsimp only; omega, fun q q0 q1 => ?_⟩
      have q1 : q < m - p ∨ q = 0 := q1
      walk_at "w"
      refine ⟨⟨by decide, .inl ⟨by decide, by decide⟩⟩, ?_⟩
      walk_at "w"
      refine ⟨_, _, rfl, by decide +kernel, fun h h0 h1 => ?_⟩
      walk_at "w"
      refine ⟨by show 3 ≤ line; decide, ?_⟩
      walk_at "w"
      refine ⟨lt_line (by omega), ?_⟩
      exact ⟨_, _, _, _, _, _, rfl, goodS_app hg' (good_mk p0 (by omega) (by omega) h0), by simp; omega⟩
    · exact ⟨_, _, _, _, _, _, rfl, hg', by omega⟩
  · rintro ρ ⟨xs', s3, s4, s5, s6, s7, rfl, hg', hl'⟩
    refine steps_mid hm k ?_ hg'
    rw [ints_len] at hl'
    have : (if 60 - (xs.length : Int) < r then 60 - (xs.length : Int) else r).toNat ≤ 60 - xs.length := by
      split <;> omega
    have hl' : xs'.length ≤ xs.length + (if 60 - (xs.length : Int) < r then 60 - (xs.length : Int) else r).toNat := hl'
    omega
theorem p_law_steps (ds : List D) (R : SV → Prop) (F : Exn → Prop) (h : s_law_steps ds R F) : rd_law_steps (endsF [.t, .s] ds R F) (slots0 [.t, .s] ds ++ List.replicate 6 .no) := by
  obtain ⟨a, m, rfl, hm, k⟩ := h
  walk_at "w"
  refine ⟨by show 0 ≤ line; decide, ?_⟩
  walk_at "w"
  refine ⟨_, _, rfl, by decide +kernel, fun r h0 h1 => ?_⟩
  walk_at "w"
  refine ifB.mk (fun hb => ?_) (fun hb => ?_)
  · walk_at "w"
    refine ⟨by omega, ?_⟩
    walk_at "w"
    refine ⟨fun i ρ => ∃ xs at_ s4 s5 s6 s7, ρ = [.sto a, .fr true (.int m), .ol true xs, .fr true (.int at_), s4, s5, s6, s7] ∧ goodS m xs ∧ xs.length ≤ i ∧ 0 ≤ at_ ∧ at_ ≤ m, ⟨[], 0, _, _, _, _, rfl, fun d hd => (nomatch hd), Nat.le_refl _, by omega, by omega⟩, ?_, ?_⟩
    · rintro i x ρ hx ⟨xs, at_, s4, s5, s6, s7, rfl, hg, hl, a0, a1⟩
      obtain ⟨hi, rfl⟩ := ints_get hx
      walk_at "w"
      refine ifB.mk (fun hb => ?_) (fun hb => ?_)
      · have hb : at_ < m := of_decide_eq_true hb
        walk_at "w"
        refine ⟨trivial, ?_⟩
        walk_at "w"
        refine ⟨_, _, rfl, by (try dsimp only) <;> split <;> omega, fun q q0 q1 => ?_⟩
        have q2 : q < m - at_ := by
          have q1 : q < (if 9 < m - at_ then 9 else m - at_) ∨ q = 0 := q1
          split at q1 <;> omega
        walk_at "w"
        refine ⟨⟨by decide, .inl ⟨by decide, by decide⟩⟩, ?_⟩
        walk_at "w"
        refine ⟨_, _, rfl, by decide +kernel, fun h h0 h1 => ?_⟩
        walk_at "w"
        refine ⟨by show 3 ≤ line; decide, ?_⟩
        walk_at "w"
        refine ⟨lt_line (by omega), ?_⟩
        exact ⟨_, _, _, _, _, _, rfl, goodS_app hg (good_mk a0 (by omega) (by omega) h0), by simp; omega, by omega, by omega⟩
      · exact ⟨_, _, _, _, _, _, rfl, hg, by omega, a0, a1⟩
    · rintro ρ ⟨xs, at_, s4, s5, s6, s7, rfl, hg, hl, a0, a1⟩
      refine steps_2 hm k ?_ hg
      rw [ints_len] at hl
      omega
  · exact steps_2 hm k (xs := []) (by simp) fun d hd => (nomatch hd)

def tb : Nat → Nat
  | 0 => 0
  | i + 1 => tb i + min (60 - i) 16
theorem tb_le : ∀ i, i ≤ 60 → tb i ≤ 840 := by decide +kernel
theorem goodS_cat {m : Int} {xs ys : List D} (h : goodS m xs) (h2 : goodS m ys) : goodS m (xs ++ ys) := fun e he => (List.mem_append.mp he).elim (h e) (h2 e)
theorem p_law_many_steps (ds : List D) (R : SV → Prop) (F : Exn → Prop) (h : s_law_many_steps ds R F) : rd_law_many_steps (endsF [.t, .s] ds R F) (slots0 [.t, .s] ds ++ List.replicate 5 .no) := by
  obtain ⟨a, m, rfl, hm, k⟩ := h
  walk_at "w"
  refine ⟨_, _, rfl, by decide +kernel, fun s s0 s1 => ?_⟩
  walk_at "w"
  refine ⟨_, _, rfl, by decide +kernel, fun t t0 t1 => ?_⟩
  walk_at "w"
  refine ⟨by show 0 ≤ line; decide, ?_⟩
  walk_at "w"
  refine ⟨by omega, ?_⟩
  walk_at "w"
  refine ⟨fun i ρ => ∃ xs s5 s6, ρ = [.sto a, .fr true (.int m), .fr true (.int (4 + s)), .fr true (.int t), .ol true xs, s5, s6] ∧ goodS m xs ∧ xs.length ≤ tb i, ⟨_, _, _, rfl, fun d hd => (nomatch hd), Nat.le_refl _⟩, ?_, ?_⟩
  · rintro i x ρ hx ⟨xs, s5, s6, rfl, hg, hl⟩
    obtain ⟨hi, rfl⟩ := ints_get hx
    walk_at "w"
    refine ⟨by refine ⟨?_, ?_, ?_, ?_⟩ <;> (try dsimp only) <;> (try split) <;> omega, ?_⟩
    walk_at "w"
    refine lc_all (P := fun d => goodStep m d = true) (fun j y acc hy h1 h2 Iv hI => ?_) fun acc h1 h2 => ?_
    · obtain ⟨hj, rfl⟩ := ints_get hy
      walk_at "w"
      refine ifB.T rfl ?_
      walk_at "w"
      refine ⟨by constructor <;> (try dsimp only) <;> omega, ?_⟩
      walk_at "w"
      refine ⟨.inr (by omega), ?_⟩
      walk_at "w"
      refine ⟨(by decide : (0 : Int) < 13), ?_⟩
      walk_at "w"
      refine ⟨by show 3 ≤ line; decide, ?_⟩
      walk_at "w"
      have hb : 0 + (i : Int) + 1 + (j : Nat) ≤ m := by
        have hj : j < ((if 0 + (i : Int) + (4 + s) < m then 0 + (i : Int) + (4 + s) else m) + 1 - (0 + (i : Int) + 1)).toNat := hj
        split at hj <;> omega
      have hn : j ≤ 840 := by omega
      exact ⟨lt_line (by rw [h1]; omega), hI _ (good_mk (by omega) (by omega) hb (Int.emod_nonneg _ (by decide)))⟩
    · rw [ints_len] at h1
      walk_at "w"
      have hlen : acc.length ≤ min (60 - i) 16 := by
        have h1 : acc.length = ((if 0 + (i : Int) + (4 + s) < m then 0 + (i : Int) + (4 + s) else m) + 1 - (0 + (i : Int) + 1)).toNat := h1
        rw [h1]
        split <;> omega
      have hl3 := tb_le i (by omega)
      refine ⟨Nat.le_of_lt (lt_line (by omega)), ?_⟩
      refine ⟨_, _, _, rfl, goodS_cat hg h2, ?_⟩
      rw [List.length_append]
      show _ ≤ tb i + min (60 - i) 16
      omega
  · rintro ρ ⟨xs, s5, s6, rfl, hg, hl⟩
    rw [ints_len] at hl
    have hl2 := tb_le m.toNat (by omega)
    walk_at "w"
    exact ⟨k xs (by omega) hg, trivial, .inl rfl, trivial, trivial⟩

theorem p_law_bad_name (f : Addr) (ask : AskP) (R : SV → Prop) (F : Exn → Prop) (h : s_law_bad_name ask R F) : rd_law_bad_name f ask (endsF [.s] [.ref f] R F) (.fr true (.ref f) :: List.replicate 2 .no) := by
  obtain ⟨nm, ha, k⟩ := h
  walk_at "w"
  refine ⟨rfl, ha _ _ ?_⟩
  refine ifB.T rfl ?_
  walk_at "go"
  walk_at "w"
  refine ⟨⟨rfl, Nat.le_of_ble_eq_true rfl, rfl, Nat.le_of_ble_eq_true rfl⟩, ?_⟩
  walk_at "go"

/-! ### the least harms, plainly -/
theorem fold_min : ∀ (l : List Int) (a : Int), (l.foldl min a = a ∨ l.foldl min a ∈ l) ∧ l.foldl min a ≤ a ∧ ∀ x ∈ l, l.foldl min a ≤ x
  | [], a => ⟨.inl rfl, Int.le_refl _, fun x h => by cases h⟩
  | y :: l, a => by
    obtain ⟨h1, h2, h3⟩ := fold_min l (min a y)
    rw [List.foldl_cons]
    refine ⟨?_, by omega, fun x hx => ?_⟩
    · rcases h1 with h1 | h1
      · rw [h1]
        by_cases h : a ≤ y
        · exact .inl (by omega)
        · exact .inr (by rw [show min a y = y by omega]; exact List.mem_cons_self)
      · exact .inr (List.mem_cons_of_mem _ h1)
    · rcases List.mem_cons.mp hx with rfl | hx
      · omega
      · exact h3 x hx
theorem minO_some {l : List Int} {y : Int} (h : minO l = some y) : y ∈ l ∧ ∀ x ∈ l, y ≤ x := by
  cases l with
  | nil => cases h
  | cons a l =>
    have e : l.foldl min a = y := Option.some.inj h
    obtain ⟨h1, h2, h3⟩ := fold_min l a
    rw [e] at h1 h2 h3
    refine ⟨h1.elim (fun z => by rw [z]; exact List.mem_cons_self) (List.mem_cons_of_mem _), fun x hx => ?_⟩
    rcases List.mem_cons.mp hx with rfl | hx
    · exact h2
    · exact h3 x hx
theorem minO_is {l : List Int} {x : Int} (h : x ∈ l) : ∃ y, minO l = some y ∧ y ≤ x := by
  cases e : minO l with
  | none =>
    cases l with
    | nil => cases h
    | cons a l => cases e
  | some y => exact ⟨y, rfl, (minO_some e).2 x h⟩
theorem dl_len (ts : List Stp) : ∀ n, (dl ts n).length = n + 1
  | 0 => rfl
  | n + 1 => by
    show (dl ts n ++ [_]).length = _
    rw [List.length_append, dl_len ts n]; rfl
theorem dl_get (ts : List Stp) : ∀ (n i : Nat), i ≤ n → (dl ts n)[i]? = (dl ts i)[i]?
  | 0, i, h => by have : i = 0 := by omega
                  subst this; rfl
  | n + 1, i, h => by
    by_cases hi : i ≤ n
    · have e : (dl ts (n + 1))[i]? = (dl ts n)[i]? := by
        show (dl ts n ++ [_])[i]? = _
        rw [List.getElem?_append_left (by rw [dl_len]; omega)]
      rw [e, dl_get ts n i hi]
    · have : i = n + 1 := by omega
      subst this; rfl
theorem dl_self (ts : List Stp) (i : Nat) : (dl ts i)[i]? = some (dist ts i) := by
  have h := dl_len ts i
  have hh : i < (dl ts i).length := by omega
  unfold dist
  rw [if_neg (by omega), Int.toNat_natCast, List.getElem?_eq_getElem hh]
  rfl
theorem dl_dist {ts : List Stp} {n : Nat} {p : Int} (h0 : 0 ≤ p) (h : p ≤ n) : (dl ts n)[p.toNat]? = some (dist ts p) := by
  rw [dl_get ts n p.toNat (by omega), dl_self]
  congr 2
  omega
theorem dist_zero (ts : List Stp) : dist ts 0 = some 0 := rfl
theorem dist_succ (ts : List Stp) (n : Nat) : dist ts ((n : Int) + 1) = minO (cand ts (dl ts n) ((n : Int) + 1)) := by
  have h := dl_self ts (n + 1)
  have e : (dl ts (n + 1))[n + 1]? = some (minO (cand ts (dl ts n) ((n : Int) + 1))) := by
    show (dl ts n ++ [_])[n + 1]? = _
    rw [List.getElem?_append_right (by rw [dl_len]; omega), dl_len]
    simp
  rw [e] at h
  exact (Option.some.inj h).symm
theorem cand_mem {ts : List Stp} {n : Nat} (h : ∀ t ∈ ts, 0 ≤ t.a ∧ t.a < t.b) {x : Int} : x ∈ cand ts (dl ts n) ((n : Int) + 1) ↔ ∃ t ∈ ts, t.b = (n : Int) + 1 ∧ ∃ z, dist ts t.a = some z ∧ x = z + t.h := by
  unfold cand
  rw [List.mem_filterMap]
  constructor
  · rintro ⟨t, ht, e⟩
    by_cases hb : t.b = (n : Int) + 1
    · rw [if_pos hb] at e
      have ha := h t ht
      rw [dl_dist ha.1 (by omega)] at e
      cases q : dist ts t.a with
      | none => rw [q] at e; cases e
      | some z => rw [q] at e; exact ⟨t, ht, hb, z, q, (Option.some.inj e).symm⟩
    · rw [if_neg hb] at e; cases e
  · rintro ⟨t, ht, hb, z, q, rfl⟩
    refine ⟨t, ht, ?_⟩
    have ha := h t ht
    rw [if_pos hb, dl_dist ha.1 (by omega), q]
    rfl
structure DstM (ts : List Stp) (M : Int) (f : Int → Option Int) : Prop where
  z : f 0 = some 0
  le : ∀ t ∈ ts, t.b ≤ M → ∀ x, f t.a = some x → ∃ y, f t.b = some y ∧ y ≤ x + t.h
  ge : ∀ p y, 0 < p → p ≤ M → f p = some y → ∃ t ∈ ts, t.b = p ∧ ∃ x, f t.a = some x ∧ y = x + t.h
theorem ok_ab {m : Int} {ts : List Stp} (h : okT m ts) : ∀ t ∈ ts, 0 ≤ t.a ∧ t.a < t.b := fun t ht => ⟨(h t ht).1, (h t ht).2.1⟩
theorem dist_dst {m M : Int} {ts : List Stp} (h : okT m ts) : DstM ts M (dist ts) := by
  refine ⟨rfl, fun t ht _ x hx => ?_, fun p y h0 _ hy => ?_⟩
  · have ha := ok_ab h t ht
    obtain ⟨n, hn⟩ : ∃ n : Nat, t.b = (n : Int) + 1 := ⟨(t.b - 1).toNat, by omega⟩
    rw [hn, dist_succ]
    exact minO_is ((cand_mem (ok_ab h)).mpr ⟨t, ht, hn, x, hx, rfl⟩)
  · obtain ⟨n, hn⟩ : ∃ n : Nat, p = (n : Int) + 1 := ⟨(p - 1).toNat, by omega⟩
    subst hn
    rw [dist_succ] at hy
    obtain ⟨t, ht, hb, z, q, e⟩ := (cand_mem (ok_ab h)).mp (minO_some hy).1
    exact ⟨t, ht, hb, z, q, e⟩
theorem dst_uniq {M : Int} {ts : List Stp} {f g : Int → Option Int} (h : ∀ t ∈ ts, 0 ≤ t.a ∧ t.a < t.b) (hf : DstM ts M f) (hg : DstM ts M g) : ∀ (n : Nat) (p : Int), 0 ≤ p → p ≤ M → p.toNat ≤ n → f p = g p := by
  have one : ∀ {f g : Int → Option Int}, DstM ts M f → DstM ts M g → ∀ p, 0 < p → p ≤ M → (∀ q, 0 ≤ q → q < p → f q = g q) → ∀ y, f p = some y → ∃ y', g p = some y' ∧ y' ≤ y := by
    intro f g hf hg p h0 h1 ih y hy
    obtain ⟨t, ht, hb, x, hx, e⟩ := hf.ge p y h0 h1 hy
    have ha := h t ht
    rw [ih t.a ha.1 (by omega)] at hx
    obtain ⟨y', hy', le⟩ := hg.le t ht (by omega) x hx
    exact ⟨y', by rw [← hb]; exact hy', by omega⟩
  intro n
  induction n with
  | zero =>
    intro p h0 h1 hn
    have : p = 0 := by omega
    subst this
    rw [hf.z, hg.z]
  | succ n ih =>
    intro p h0 h1 hn
    by_cases hp : p = 0
    · subst hp; rw [hf.z, hg.z]
    · have ih' : ∀ q, 0 ≤ q → q < p → f q = g q := fun q h2 h3 => ih q h2 (by omega) (by omega)
      cases e : f p with
      | none =>
        cases e2 : g p with
        | none => rfl
        | some y =>
          obtain ⟨y', hy', _⟩ := one hg hf p (by omega) h1 (fun q h2 h3 => (ih' q h2 h3).symm) y e2
          rw [e] at hy'; cases hy'
      | some y =>
        obtain ⟨y', hy', l1⟩ := one hf hg p (by omega) h1 ih' y e
        obtain ⟨y2, hy2, l2⟩ := one hg hf p (by omega) h1 (fun q h2 h3 => (ih' q h2 h3).symm) y' hy'
        rw [e] at hy2
        have : y = y2 := Option.some.inj hy2
        rw [hy', show y = y' by omega]
theorem dist_is {m M : Int} {ts : List Stp} (h : okT m ts) {f : Int → Option Int} (hf : DstM ts M f) {p : Int} (h0 : 0 ≤ p) (h1 : p ≤ M) : f p = dist ts p := dst_uniq (ok_ab h) hf (dist_dst h) _ p h0 h1 (Nat.le_refl _)
theorem dist_ge {m : Int} {ts : List Stp} (h : okT m ts) : ∀ (n : Nat) (p x : Int), 0 ≤ p → p.toNat ≤ n → dist ts p = some x → 0 ≤ x := by
  intro n
  induction n with
  | zero =>
    intro p x h0 hn e
    have : p = 0 := by omega
    subst this
    have : (some 0 : Option Int) = some x := e
    cases this
    omega
  | succ n ih =>
    intro p x h0 hn e
    by_cases hp : p = 0
    · subst hp
      have : (some 0 : Option Int) = some x := e
      cases this
      omega
    · obtain ⟨t, ht, hb, z, hz, e2⟩ := (dist_dst (M := p) h).ge p x (by omega) (by omega) e
      have ha := h t ht
      have := ih t.a z ha.1 (by have := ha.2.1; omega) hz
      have := ha.2.2.2
      omega
theorem dist_nn {m p x : Int} {ts : List Stp} (h : okT m ts) (h0 : 0 ≤ p) (e : dist ts p = some x) : 0 ≤ x := dist_ge h _ p x h0 (Nat.le_refl _) e
/-- steps that end behind p do not matter -/
theorem dist_part {m p : Int} {ts : List Stp} (h : okT m ts) {q : Int} (h0 : 0 ≤ q) (h1 : q ≤ p) : dist (ts.filter fun t => decide (t.b ≤ p)) q = dist ts q := by
  have hs : okT m (ts.filter fun t => decide (t.b ≤ p)) := fun t ht => h t (List.mem_filter.mp ht).1
  refine dst_uniq (M := p) (g := dist ts) (ts := ts.filter fun t => decide (t.b ≤ p)) (ok_ab hs) (dist_dst hs) ⟨rfl, fun t ht hb x hx => ?_, fun r y r0 r1 hy => ?_⟩ _ q h0 h1 (Nat.le_refl _)
  · exact (dist_dst (M := p) h).le t (List.mem_filter.mp ht).1 hb x hx
  · obtain ⟨t, ht, hb, z⟩ := (dist_dst (M := p) h).ge r y r0 r1 hy
    exact ⟨t, List.mem_filter.mpr ⟨ht, by rw [decide_eq_true_eq]; omega⟩, hb, z⟩
/-- from the other end -/
structure Bck (ts : List Stp) (m : Int) (g : Int → Option Int) : Prop where
  z : g m = some 0
  le : ∀ t ∈ ts, ∀ y, g t.b = some y → ∃ x, g t.a = some x ∧ x ≤ y + t.h
  ge : ∀ p x, 0 ≤ p → p < m → g p = some x → ∃ t ∈ ts, t.a = p ∧ ∃ y, g t.b = some y ∧ x = y + t.h
theorem bck_ge {m : Int} {ts : List Stp} {g : Int → Option Int} (h : okT m ts) (hg : Bck ts m g) : ∀ (n : Nat) (p x y : Int), 0 ≤ p → p ≤ m → (m - p).toNat ≤ n → dist ts p = some x → g p = some y → ∃ z, dist ts m = some z ∧ z ≤ x + y := by
  intro n
  induction n with
  | zero =>
    intro p x y h0 h1 hn hx hy
    have : p = m := by omega
    subst this
    rw [hg.z] at hy
    cases hy
    exact ⟨x, hx, by omega⟩
  | succ n ih =>
    intro p x y h0 h1 hn hx hy
    by_cases hp : p = m
    · subst hp
      rw [hg.z] at hy
      cases hy
      exact ⟨x, hx, by omega⟩
    · obtain ⟨t, ht, ha, z, hz, e⟩ := hg.ge p y h0 (by omega) hy
      have o := h t ht
      obtain ⟨w, hw, l⟩ := (dist_dst (M := m) h).le t ht o.2.2.1 x (by rw [ha]; exact hx)
      obtain ⟨v, hv, l2⟩ := ih t.b w z (by have := o.2.1; omega) o.2.2.1 (by have := o.2.1; omega) hw hz
      exact ⟨v, hv, by omega⟩
theorem bck_le {m : Int} {ts : List Stp} {g : Int → Option Int} (h : okT m ts) (hg : Bck ts m g) : ∀ (n : Nat) (p x y : Int), 0 ≤ p → p ≤ m → p.toNat ≤ n → dist ts p = some x → g p = some y → ∃ z, g 0 = some z ∧ z ≤ x + y := by
  intro n
  induction n with
  | zero =>
    intro p x y h0 h1 hn hx hy
    have : p = 0 := by omega
    subst this
    have := dist_nn h h0 hx
    exact ⟨y, hy, by omega⟩
  | succ n ih =>
    intro p x y h0 h1 hn hx hy
    by_cases hp : p = 0
    · subst hp
      have := dist_nn h h0 hx
      exact ⟨y, hy, by omega⟩
    · obtain ⟨t, ht, hb, z, hz, e⟩ := (dist_dst (M := m) h).ge p x (by omega) h1 hx
      have o := h t ht
      obtain ⟨w, hw, l⟩ := hg.le t ht y (by rw [hb]; exact hy)
      obtain ⟨v, hv, l2⟩ := ih t.a z w o.1 (by have := o.2.1; omega) (by have := o.2.1; omega) hz hw
      exact ⟨v, hv, by omega⟩
theorem bck_is {m : Int} {ts : List Stp} {g : Int → Option Int} (hm : 0 ≤ m) (h : okT m ts) (hg : Bck ts m g) : g 0 = dist ts m := by
  cases e : g 0 with
  | some y =>
    obtain ⟨z, hz, l⟩ := bck_ge h hg _ 0 0 y (Int.le_refl _) hm (Nat.le_refl _) rfl e
    obtain ⟨w, hw, l2⟩ := bck_le h hg _ m z 0 hm (Int.le_refl _) (Nat.le_refl _) hz hg.z
    rw [e] at hw
    have : y = w := Option.some.inj hw
    rw [hz, show y = z by omega]
  | none =>
    cases e2 : dist ts m with
    | none => rfl
    | some z =>
      obtain ⟨w, hw, _⟩ := bck_le h hg _ m z 0 hm (Int.le_refl _) (Nat.le_refl _) e2 hg.z
      rw [e] at hw; cases hw
/-- along a way -/
theorem way_ge {m : Int} {ts : List Stp} (h : okT m ts) : ∀ (es : List Int) (p x : Int), 0 ≤ p → Way ts p es → dist ts p = some x → (∃ y, dist ts (arr p es) = some y) ∧ 0 ≤ arr p es
  | [], p, x, h0, _, hx => ⟨⟨x, hx⟩, h0⟩
  | e :: r, p, x, h0, w, hx => by
    obtain ⟨⟨t, ht, ha, hb⟩, w'⟩ := w
    have o := h t ht
    obtain ⟨y, hy, _⟩ := (dist_dst (M := m) h).le t ht o.2.2.1 x (by rw [ha]; exact hx)
    rw [hb] at hy
    exact way_ge h r e y (by have := o.2.1; omega) w' hy

/-! ### dicts with tuple keys -/
theorem dgetT_pos {p : List Ky × D} {r : List (List Ky × D)} {k : List Ky} (e : p.1 = k) : dgetT (p :: r) k = some p.2 := by simp [dgetT, List.find?_cons, e]
theorem dgetT_neg {p : List Ky × D} {r : List (List Ky × D)} {k : List Ky} (e : ¬ p.1 = k) : dgetT (p :: r) k = dgetT r k := by simp [dgetT, List.find?_cons, e]
theorem dgetT_any (k : List Ky) : ∀ kvs : List (List Ky × D), (kvs.any fun kv => decide (kv.1 = k)) = (dgetT kvs k).isSome
  | [] => rfl
  | p :: r => by
    rw [List.any_cons]
    by_cases e : p.1 = k
    · simp only [dgetT_pos e, decide_eq_true e, Bool.true_or, Option.isSome_some]
    · rw [dgetT_neg e, decide_eq_false e, Bool.false_or]; exact dgetT_any k r
theorem dgetT_map (k j : List Ky) (y : D) : ∀ kvs : List (List Ky × D), dgetT (kvs.map fun kv => if kv.1 = k then (kv.1, y) else kv) j = (dgetT kvs j).map fun x => if j = k then y else x
  | [] => rfl
  | p :: r => by
    have ih := dgetT_map k j y r
    rw [List.map_cons]
    by_cases h : p.1 = k
    · rw [if_pos h]
      by_cases e : p.1 = j
      · rw [dgetT_pos (p := (p.1, y)) e, dgetT_pos e, Option.map_some, if_pos (e.symm.trans h)]
      · rw [dgetT_neg (p := (p.1, y)) e, dgetT_neg e, ih]
    · rw [if_neg h]
      by_cases e : p.1 = j
      · rw [dgetT_pos (p := p) e, dgetT_pos e, Option.map_some, if_neg (fun z => h (e.trans z))]
      · rw [dgetT_neg (p := p) e, dgetT_neg e, ih]
theorem dgetT_snoc (k j : List Ky) (y : D) : ∀ kvs : List (List Ky × D), dgetT kvs k = none → dgetT (kvs ++ [(k, y)]) j = if j = k then some y else dgetT kvs j
  | [], _ => by
    by_cases e : k = j
    · rw [if_pos e.symm]; exact dgetT_pos (p := (k, y)) e
    · rw [if_neg (fun z => e z.symm)]; exact dgetT_neg (p := (k, y)) e
  | p :: r, hn => by
    have hk : ¬ p.1 = k := fun z => by rw [dgetT_pos z] at hn; cases hn
    rw [dgetT_neg hk] at hn
    have ih := dgetT_snoc k j y r hn
    rw [List.cons_append]
    by_cases e : p.1 = j
    · rw [dgetT_pos e, dgetT_pos e, if_neg (fun z => hk (e.trans z))]
    · rw [dgetT_neg e, dgetT_neg e, ih]
theorem dgetT_put (kvs : List (List Ky × D)) (k j : List Ky) (y : D) : dgetT (dputT kvs k y) j = if j = k then some y else dgetT kvs j := by
  unfold dputT
  rw [dgetT_any]
  cases e : dgetT kvs k with
  | none => rw [if_neg (by simp)]; exact dgetT_snoc k j y kvs e
  | some x =>
    rw [if_pos (show (some x).isSome = true from rfl), dgetT_map]
    by_cases h : j = k
    · subst h; rw [e, if_pos rfl]; simp
    · rw [if_neg h]; simp [h]
theorem dputT_len (kvs : List (List Ky × D)) (k : List Ky) (y : D) : (dputT kvs k y).length ≤ kvs.length + 1 := by
  unfold dputT
  split
  · rw [List.length_map]; omega
  · rw [List.length_append]; simp
/-! ### steps as data -/
theorem enc_at {ts : List Stp} {i : Nat} {x : D} (h : (encS ts)[i]? = some x) : ∃ t, ts[i]? = some t ∧ x = t.enc := by
  unfold encS at h
  rw [List.getElem?_map] at h
  cases e : ts[i]? with
  | none => rw [e] at h; cases h
  | some t => rw [e] at h; exact ⟨t, rfl, (Option.some.inj h).symm⟩
theorem take_snoc {α : Type} {l : List α} {i : Nat} {x : α} (h : l[i]? = some x) : l.take (i + 1) = l.take i ++ [x] := by
  obtain ⟨hi, rfl⟩ := List.getElem?_eq_some_iff.mp h
  rw [List.take_append_getElem hi]
theorem enc_len (ts : List Stp) : (encS ts).length = ts.length := by unfold encS; rw [List.length_map]
theorem ky2 {a b c d : Int} : ([.inl a, .inl b] : List Ky) = [.inl c, .inl d] ↔ a = c ∧ b = d := by
  constructor
  · intro h
    cases h
    exact ⟨rfl, rfl⟩
  · rintro ⟨rfl, rfl⟩; rfl
theorem tbl_put {ts : List Stp} {kvs : List (List Ky × D)} {t : Stp} (h : Tbl ts kvs) : Tbl (ts ++ [t]) (dputT kvs [.inl t.a, .inl t.b] (.int t.h)) := by
  intro a b
  obtain ⟨h1, h2⟩ := h a b
  refine ⟨fun u hu ha hb => ?_, fun d hd => ?_⟩
  · rw [dgetT_put]
    split
    · rfl
    · rename_i hn
      rcases List.mem_append.mp hu with hu | hu
      · exact h1 u hu ha hb
      · rw [List.mem_singleton.mp hu] at ha hb
        exact absurd (ky2.mpr ⟨ha.symm, hb.symm⟩) hn
  · rw [dgetT_put] at hd
    split at hd
    · rename_i he
      obtain ⟨e1, e2⟩ := ky2.mp he
      cases hd
      exact ⟨t, List.mem_append_right _ List.mem_cons_self, e1.symm, e2.symm, rfl⟩
    · obtain ⟨u, hu, z⟩ := h2 d hd
      exact ⟨u, List.mem_append_left _ hu, z⟩
theorem tbl_keep {ts : List Stp} {kvs : List (List Ky × D)} {t : Stp} (h : Tbl ts kvs) (hs : (dgetT kvs [.inl t.a, .inl t.b]).isSome = true) : Tbl (ts ++ [t]) kvs := by
  intro a b
  obtain ⟨h1, h2⟩ := h a b
  refine ⟨fun u hu ha hb => ?_, fun d hd => ?_⟩
  · rcases List.mem_append.mp hu with hu | hu
    · exact h1 u hu ha hb
    · rw [List.mem_singleton.mp hu] at ha hb
      rw [← ha, ← hb]
      exact hs
  · obtain ⟨u, hu, z⟩ := h2 d hd
    exact ⟨u, List.mem_append_left _ hu, z⟩
theorem tbl_nil : Tbl [] [] := fun a b => ⟨(fun t ht => by cases ht), (fun d hd => by cases hd)⟩
theorem p_least_harms (ds : List D) (R : SV → Prop) (F : Exn → Prop) (h : s_least_harms ds R F) : rd_least_harms (endsF [.s] ds R F) (slots0 [.s] ds ++ List.replicate 4 .no) := by
  obtain ⟨ts, m, rfl, ok, hl, k⟩ := h
  walk_at "w"
  refine ⟨fun i ρ => ∃ kvs s2 s3 s4, ρ = [.fr true (.lst (encS ts)), .oe true kvs, s2, s3, s4] ∧ kvs.length ≤ i ∧ Tbl (ts.take i) kvs, ⟨_, _, _, _, rfl, Nat.le_refl _, tbl_nil⟩, ?_, ?_⟩
  · rintro i x ρ hx ⟨kvs, s2, s3, s4, rfl, hk, tb⟩
    obtain ⟨t, ht, rfl⟩ := enc_at hx
    have hi : i < ts.length := (List.getElem?_eq_some_iff.mp ht).1
    have tk := take_snoc ht
    have tl : kvs.length < line := lt_line (by omega)
    unfold Stp.enc
    walk_at "w"
    refine ⟨rfl, ?_⟩
    walk_at "w"
    refine ⟨by show 2 ≤ line; decide, ?_⟩
    walk_at "w"
    refine ⟨_, rfl, ?_⟩
    have put : ∀ s2 s3 s4 : SV, ∃ kvs' s2' s3' s4', ([.fr true (.lst (encS ts)), .oe true (dputT kvs [.inl t.a, .inl t.b] (.int t.h)), s2, s3, s4] : List SV) = [.fr true (.lst (encS ts)), .oe true kvs', s2', s3', s4'] ∧ kvs'.length ≤ i + 1 ∧ Tbl (ts.take (i + 1)) kvs' := fun s2 s3 s4 => ⟨_, _, _, _, rfl, Nat.le_trans (dputT_len _ _ _) (by omega), by rw [tk]; exact tbl_put tb⟩
    cases e : dgetT kvs [.inl t.a, .inl t.b] with
    | none =>
      walk_at "w"
      refine ifB.T rfl ?_
      walk_at "w"
      refine ifB.T rfl ?_
      walk_at "w"
      refine ⟨rfl, ?_⟩
      walk_at "w"
      refine ⟨by show 2 ≤ line; decide, _, rfl, tl, ?_⟩
      exact put _ _ _
    | some d =>
      obtain ⟨u, hu, ha, hb, rfl⟩ := (tb t.a t.b).2 d e
      walk_at "w"
      refine ifB.F rfl ?_
      walk_at "w"
      refine ⟨by show 2 ≤ line; decide, ?_⟩
      walk_at "w"
      refine ⟨_, _, rfl, e, ?_⟩
      walk_at "w"
      refine ifB.mk (fun hb => ?_) (fun hb => ?_)
      · walk_at "w"
        refine ⟨rfl, ?_⟩
        walk_at "w"
        refine ⟨by show 2 ≤ line; decide, _, rfl, tl, ?_⟩
        exact put _ _ _
      · exact ⟨_, _, _, _, rfl, by omega, by rw [tk]; exact tbl_keep tb (by rw [e]; rfl)⟩
  · rintro ρ ⟨kvs, s2, s3, s4, rfl, hk, tb⟩
    rw [enc_len, List.take_length] at tb
    walk_at "w"
    walk_at "e"
    exact k kvs tb

/-! ### sorted steps -/
theorem enc_py (t : Stp) : t.enc.py = .tuple [.int t.a, .int t.b, .int t.h] := by
  unfold Stp.enc
  simp only [D.py]
  rfl
theorem enc_flats : ∀ ts : List Stp, D.flatd.flats (encS ts) = true
  | [] => rfl
  | t :: ts => by
    show (t.enc.flatd && D.flatd.flats (encS ts)) = true
    rw [enc_flats ts]
    rfl
theorem enc_deps : ∀ ts : List Stp, D.dep.deps (encS ts) ≤ 2
  | [] => by show 0 ≤ 2; omega
  | t :: ts => by
    show max t.enc.dep (D.dep.deps (encS ts)) ≤ 2
    have h := enc_deps ts
    have h2 : t.enc.dep = 2 := rfl
    omega
theorem enc_map (ts : List Stp) : (encS ts).map D.py = ts.map fun t => .tuple [.int t.a, .int t.b, .int t.h] := by
  unfold encS
  rw [List.map_map]
  exact List.map_congr_left fun t _ => enc_py t
theorem enc_srt (ts : List Stp) : SrtOk (encS ts) := by
  refine ⟨⟨?_, ?_⟩, ?_, ?_⟩
  · simp only [D.flatd]
    exact enc_flats ts
  · simp only [D.dep]
    have := enc_deps ts
    omega
  · rw [enc_map]
    exact PySem.W.AllAlike.of fun _ _ => by simp [PySem.W.alike, PySem.W.alikeAll]
  · rw [enc_map]
    exact PySem.W.Sortable.tuples fun _ => ⟨_, _, rfl⟩
theorem lt_enc {t u : Stp} (h : u.a < t.a) : PySem.W.dataLt u.enc.py t.enc.py = true := by
  rw [enc_py, enc_py, PySem.W.dataLt_tuple, PySem.W.dataLt_cons (by simp [PySem.W.alike])]
  have e : PyData.eqv (.int u.a) (.int t.a) = false := by simp [PyData.eqv]; omega
  rw [if_neg (by rw [e]; decide), PySem.W.dataLt_int]
  exact decide_eq_true h
theorem le_up {t u : Stp} (h : leD false t.enc u.enc = true) : t.a ≤ u.a := by
  refine Int.not_lt.mp fun z => ?_
  unfold leD at h
  rw [PySem.W.dataLe_eq] at h
  have h : (!PySem.W.dataLt u.enc.py t.enc.py) = true := h
  rw [lt_enc z] at h
  cases h
theorem le_down {t u : Stp} (h : leD true t.enc u.enc = true) : u.a ≤ t.a := by
  refine Int.not_lt.mp fun z => ?_
  unfold leD at h
  rw [PySem.W.dataLe_eq] at h
  have h : (!PySem.W.dataLt t.enc.py u.enc.py) = true := h
  rw [lt_enc z] at h
  cases h
theorem leD_total (b : Bool) : PySem.W.TotalLe (leD b) := PySem.W.sortLe_total _ _ _
theorem enc_sort (b : Bool) (ts : List Stp) : ∃ us : List Stp, (encS ts).mergeSort (leD b) = encS us ∧ us.Perm ts ∧ us.Pairwise fun t u => leD b t.enc u.enc = true := by
  refine ⟨ts.mergeSort fun t u => leD b t.enc u.enc, ?_, List.mergeSort_perm _ _, ?_⟩
  · unfold encS
    exact (PySem.W.sort_maps (s := leD b) Stp.enc (fun _ _ _ _ => rfl)).symm
  · exact List.pairwise_mergeSort (le := fun t u : Stp => leD b t.enc u.enc) (fun a b c h1 h2 => (leD_total _).trans _ _ _ h1 h2) (fun a b => Bool.or_eq_true_iff.mpr ((leD_total _).total _ _)) ts
theorem pair_take {α : Type} {R : α → α → Prop} {l : List α} (h : l.Pairwise R) {i : Nat} {x : α} (hx : l[i]? = some x) : ∀ y ∈ l.take i, R y x := by
  intro y hy
  obtain ⟨hi, rfl⟩ := List.getElem?_eq_some_iff.mp hx
  have e : l = l.take i ++ l[i] :: l.drop (i + 1) := by
    rw [List.getElem_cons_drop, List.take_append_drop]
  rw [e] at h
  exact (List.pairwise_append.mp h).2.2 y hy _ List.mem_cons_self
/-! ### the paper -/
def Pap (m : Int) (xs : List D) (f : Int → Option Int) : Prop := (xs.length : Int) = m + 1 ∧ ∀ p, 0 ≤ p → p ≤ m → L2.atI xs p = some (oD (f p))
theorem pap_at {m p : Int} {xs : List D} {f : Int → Option Int} (h : Pap m xs f) (h0 : 0 ≤ p) (h1 : p ≤ m) : L2.atI xs p = some (oD (f p)) ∧ L2.ixN xs.length p = some p.toNat := by
  refine ⟨h.2 p h0 h1, ?_⟩
  unfold L2.ixN
  rw [if_pos h0, if_pos (by have := h.1; omega)]
theorem atI_nn {xs : List D} {p : Int} (h0 : 0 ≤ p) (h1 : p < xs.length) : L2.atI xs p = xs[p.toNat]? := by
  obtain ⟨e, _⟩ := el_at h0 h1
  rw [e]
  unfold el
  rw [List.getElem?_eq_getElem (by omega)]
  rfl
theorem pap_put {m b v : Int} {xs : List D} {f : Int → Option Int} (h : Pap m xs f) (h0 : 0 ≤ b) (h1 : b ≤ m) : Pap m (xs.set b.toNat (.int v)) fun p => if p = b then some v else f p := by
  refine ⟨by rw [List.length_set]; exact h.1, fun p p0 p1 => ?_⟩
  have hl := h.1
  have e := h.2 p p0 p1
  rw [atI_nn p0 (by omega)] at e
  rw [atI_nn p0 (by rw [List.length_set]; omega), List.getElem?_set]
  show _ = some (oD (if p = b then some v else f p))
  by_cases hp : p = b
  · subst hp
    rw [if_pos rfl, if_pos (by omega), if_pos rfl]
    rfl
  · rw [if_neg (by omega), if_neg hp]
    exact e
theorem pap_is {m : Int} {xs : List D} {f : Int → Option Int} {ts : List Stp} (hm : 0 ≤ m) (h : Pap m xs f) (e : ∀ p, 0 ≤ p → p ≤ m → f p = dist ts p) : xs = papD ts m := by
  apply List.ext_getElem?
  intro i
  have hl := h.1
  have hd := dl_len ts m.toNat
  unfold papD
  rw [List.getElem?_map]
  by_cases hi : i < xs.length
  · have z := h.2 (i : Int) (by omega) (by omega)
    rw [atI_nn (by omega) (by omega), Int.toNat_natCast, e i (by omega) (by omega)] at z
    have z2 := dl_dist (ts := ts) (n := m.toNat) (p := (i : Int)) (by omega) (by omega)
    rw [Int.toNat_natCast] at z2
    rw [z, z2]
    rfl
  · rw [List.getElem?_eq_none (by omega), List.getElem?_eq_none (by omega)]
    rfl
theorem papD_pap {m : Int} {ts : List Stp} (hm : 0 ≤ m) : Pap m (papD ts m) (dist ts) := by
  have hd := dl_len ts m.toNat
  refine ⟨by unfold papD; rw [List.length_map]; omega, fun p h0 h1 => ?_⟩
  rw [atI_nn h0 (by unfold papD; rw [List.length_map]; omega)]
  unfold papD
  rw [List.getElem?_map, dl_dist h0 (by omega)]
  rfl
/-- one more step, of the order of starts -/
theorem dst_keep {pre : List Stp} {t : Stp} {m : Int} {f : Int → Option Int} (h : DstM pre m f) (hk : ∀ x, f t.a = some x → ∃ y, f t.b = some y ∧ y ≤ x + t.h) : DstM (pre ++ [t]) m f := by
  refine ⟨h.z, fun u hu hb x hx => ?_, fun p y h0 h1 hy => ?_⟩
  · rcases List.mem_append.mp hu with hu | hu
    · exact h.le u hu hb x hx
    · rw [List.mem_singleton.mp hu] at hx ⊢
      exact hk x hx
  · obtain ⟨u, hu, z⟩ := h.ge p y h0 h1 hy
    exact ⟨u, List.mem_append_left _ hu, z⟩
theorem dst_put {pre : List Stp} {t : Stp} {m x : Int} {f : Int → Option Int} (h : DstM pre m f) (ho : ∀ u ∈ pre, u.a < u.b ∧ u.a ≤ t.a) (h0 : 0 ≤ t.a) (ht : t.a < t.b) (hx : f t.a = some x) (hy : ∀ y, f t.b = some y → x + t.h ≤ y) :
    DstM (pre ++ [t]) m fun p => if p = t.b then some (x + t.h) else f p := by
  refine ⟨by rw [if_neg (by omega)]; exact h.z, fun u hu hb z hz => ?_, fun p y p0 p1 hy' => ?_⟩
  · rcases List.mem_append.mp hu with hu | hu
    · have o := ho u hu
      rw [if_neg (by omega)] at hz
      obtain ⟨y, e, l⟩ := h.le u hu hb z hz
      by_cases hb2 : u.b = t.b
      · rw [if_pos hb2]
        rw [hb2] at e
        exact ⟨_, rfl, by have := hy y e; omega⟩
      · rw [if_neg hb2]; exact ⟨y, e, l⟩
    · rw [List.mem_singleton.mp hu] at hz ⊢
      rw [if_neg (by omega), hx] at hz
      cases hz
      rw [if_pos rfl]
      exact ⟨_, rfl, Int.le_refl _⟩
  · by_cases hp : p = t.b
    · rw [if_pos hp] at hy'
      refine ⟨t, List.mem_append_right _ List.mem_cons_self, hp.symm, x, ?_, (Option.some.inj hy').symm⟩
      rw [if_neg (by omega)]; exact hx
    · rw [if_neg hp] at hy'
      obtain ⟨u, hu, hb, z, hz, e⟩ := h.ge p y p0 p1 hy'
      refine ⟨u, List.mem_append_left _ hu, hb, z, ?_, e⟩
      have o := ho u hu
      rw [if_neg (by omega)]; exact hz
theorem dst_perm {us ts : List Stp} {m : Int} {f : Int → Option Int} (p : us.Perm ts) (h : DstM us m f) : DstM ts m f :=
  ⟨h.z, fun t ht => h.le t (p.mem_iff.mpr ht), fun q y h0 h1 hy => by obtain ⟨t, ht, z⟩ := h.ge q y h0 h1 hy; exact ⟨t, p.mem_iff.mp ht, z⟩⟩
theorem good_ts {m : Int} : ∀ {ss : List D}, goodS m ss → ∃ ts, ss = encS ts ∧ okT m ts
  | [], _ => ⟨[], rfl, (fun t ht => by cases ht)⟩
  | d :: ss, h => by
    obtain ⟨ts, rfl, ok⟩ := good_ts (m := m) (ss := ss) fun e he => h e (List.mem_cons_of_mem _ he)
    obtain ⟨a, b, hh, rfl, h0, h1, h2, h3⟩ := good_of (h d List.mem_cons_self)
    refine ⟨⟨a, b, hh⟩ :: ts, rfl, fun t ht => ?_⟩
    rcases List.mem_cons.mp ht with rfl | ht
    · exact ⟨h0, h1, h2, h3⟩
    · exact ok t ht
theorem ts_good {m : Int} {ts : List Stp} (h : okT m ts) : goodS m (encS ts) := by
  intro d hd
  obtain ⟨t, ht, rfl⟩ := List.mem_map.mp hd
  have o := h t ht
  exact good_mk o.1 o.2.1 o.2.2.1 o.2.2.2

theorem oD_safes : ∀ l : List (Option Int), safes (l.map oD) = true
  | [] => rfl
  | x :: l => by
    show (D.safe (oD x) && safes (l.map oD)) = true
    rw [oD_safes l]
    cases x <;> rfl
theorem map_const (n : Nat) (lo : Int) : (intsF lo n).map (fun _ => D.non) = List.replicate n .non := by
  rw [List.map_const', ints_len]
theorem pap_start {m : Int} (hm : 0 ≤ m) : Pap m ([.int 0] ++ List.replicate m.toNat .non) fun p => if p = 0 then some 0 else none := by
  refine ⟨by rw [List.length_append, List.length_replicate, List.length_singleton]; omega, fun p h0 h1 => ?_⟩
  rw [atI_nn h0 (by rw [List.length_append, List.length_replicate, List.length_singleton]; omega)]
  show _ = some (oD (if p = 0 then some 0 else none))
  by_cases hp : p = 0
  · subst hp; rfl
  · rw [if_neg hp, List.getElem?_append_right (by rw [List.length_singleton]; omega), List.length_singleton, List.getElem?_replicate, if_pos (by omega)]
    rfl
theorem dst_start (m : Int) : DstM [] m fun p => if p = 0 then some 0 else none := by
  refine ⟨rfl, (fun t ht => by cases ht), fun p y h0 _ hy => ?_⟩
  rw [if_neg (by omega)] at hy
  cases hy
theorem paper_2 {m : Int} {s : List D} {xs : List D} {R : SV → Prop} {F : Exn → Prop} {s3 s4 s5 s6 s7 : SV} (hs : safes xs = true) (k : ∀ L, R (.ot L (.lst xs))) :
    rt_way_paper_2 (endsF [.s, .s] [.int m, .lst s] R F) [.fr true (.int m), .fr true (.lst s), .ol true xs, s3, s4, s5, s6, s7] := by
  walk_at "w"
  refine ⟨hs, fun a => ?_⟩
  walk_at "w"
  walk_at "e"
  exact k _
theorem paper_3 {m : Int} {ts : List Stp} {xs0 : List D} {R : SV → Prop} {F : Exn → Prop} {s3 s4 s5 s6 s7 : SV} (hm : 0 ≤ m ∧ m ≤ 60) (ok : okT m ts) (hl : ts.length ≤ 1000) (p0 : Pap m xs0 fun p => if p = 0 then some 0 else none) (k : ∀ L, R (.ot L (.lst (papD ts m)))) :
    rt_way_paper_3 (endsF [.s, .s] [.int m, .lst (encS ts)] R F) [.fr true (.int m), .fr true (.lst (encS ts)), .ol true xs0, s3, s4, s5, s6, s7] := by
  walk_at "w"
  refine ⟨enc_srt ts, ?_⟩
  walk_at "w"
  obtain ⟨us, e, pe, pw⟩ := enc_sort false ts
  rw [e]
  have oku : okT m us := fun t ht => ok t (pe.mem_iff.mp ht)
  refine ⟨fun i ρ => ∃ xs f s3 s4 s5 s6, ρ = [.fr true (.int m), .fr true (.lst (encS ts)), .ol true xs, s3, s4, s5, s6, s7] ∧ Pap m xs f ∧ DstM (us.take i) m f, ⟨_, _, _, _, _, _, rfl, p0, dst_start m⟩, ?_, ?_⟩
  · rintro i x ρ hx ⟨xs, f, s3, s4, s5, s6, rfl, hp, hd⟩
    obtain ⟨t, ht, rfl⟩ := enc_at hx
    have o := oku t (List.mem_of_getElem? ht)
    have tk := take_snoc ht
    have pre : ∀ u ∈ us.take i, u.a < u.b ∧ u.a ≤ t.a := fun u hu => ⟨(oku u (List.mem_of_mem_take hu)).2.1, le_up (pair_take pw ht u hu)⟩
    obtain ⟨ea, _⟩ := pap_at hp o.1 (by have := o.2.1; have := o.2.2.1; omega)
    obtain ⟨eb, ib⟩ := pap_at hp (p := t.b) (by have := o.2.1; have := o.1; omega) o.2.2.1
    unfold Stp.enc
    walk_at "w"
    refine ⟨rfl, ?_⟩
    walk_at "w"
    refine ⟨_, ea, ?_⟩
    cases qa : f t.a with
    | none =>
      walk_at "w"
      refine ⟨rfl, ?_⟩
      walk_at "w"
      refine ifB.F rfl ?_
      exact ⟨_, _, _, _, _, _, rfl, hp, by rw [tk]; exact dst_keep hd fun x hx => by rw [qa] at hx; cases hx⟩
    | some x =>
      have ea' := ea
      rw [qa] at ea'
      walk_at "w"
      refine ⟨rfl, ?_⟩
      walk_at "w"
      refine ifB.T rfl ?_
      walk_at "w"
      refine ⟨_, ea', ?_⟩
      walk_at "w"
      refine ⟨_, eb, ?_⟩
      have put : (∀ y, f t.b = some y → x + t.h ≤ y) → ∀ s3 s4 s5 s6 : SV, ∃ xs' f' s3' s4' s5' s6', ([.fr true (.int m), .fr true (.lst (encS ts)), .ol true (xs.set t.b.toNat (.int (x + t.h))), s3, s4, s5, s6, s7] : List SV) = [.fr true (.int m), .fr true (.lst (encS ts)), .ol true xs', s3', s4', s5', s6', s7] ∧ Pap m xs' f' ∧ DstM (us.take (i + 1)) m f' := fun hy s3 s4 s5 s6 =>
        ⟨_, _, _, _, _, _, rfl, pap_put hp (by have := o.1; have := o.2.1; omega) o.2.2.1, by rw [tk]; exact dst_put hd pre o.1 o.2.1 qa hy⟩
      cases qb : f t.b with
      | none =>
        walk_at "w"
        refine ⟨rfl, ?_⟩
        walk_at "w"
        refine ifB.T rfl ?_
        walk_at "w"
        refine ifB.T rfl ?_
        walk_at "w"
        refine ⟨rfl, ?_⟩
        walk_at "w"
        refine ⟨_, ib, ?_⟩
        exact put (fun y hy => by rw [qb] at hy; cases hy) _ _ _ _
      | some y =>
        have eb' := eb
        rw [qb] at eb'
        walk_at "w"
        refine ⟨rfl, ?_⟩
        walk_at "w"
        refine ifB.F rfl ?_
        walk_at "w"
        refine ⟨_, eb', ?_⟩
        walk_at "w"
        refine ifB.mk (fun hb => ?_) (fun hb => ?_)
        · walk_at "w"
          refine ⟨rfl, ?_⟩
          walk_at "w"
          refine ⟨_, ib, ?_⟩
          have := of_decide_eq_true hb
          exact put (fun z hz => by rw [qb] at hz; cases hz; omega) _ _ _ _
        · have := of_decide_eq_false hb
          exact ⟨_, _, _, _, _, _, rfl, hp, by rw [tk]; exact dst_keep hd fun z hz => by rw [qa] at hz; cases hz; exact ⟨y, qb, by omega⟩⟩
  · rintro ρ ⟨xs, f, s3, s4, s5, s6, rfl, hp, hd⟩
    rw [enc_len, List.take_length] at hd
    have e2 := pap_is hm.1 hp fun p h0 h1 => dist_is ok (dst_perm pe hd) h0 h1
    subst e2
    exact paper_2 (oD_safes _) k
theorem p_way_paper (ds : List D) (R : SV → Prop) (F : Exn → Prop) (h : s_way_paper ds R F) : rd_way_paper (endsF [.s, .s] ds R F) (slots0 [.s, .s] ds ++ List.replicate 6 .no) := by
  obtain ⟨m, s, rfl, hm, hs, k⟩ := h
  walk_at "w"
  refine ⟨_, _, rfl, hm, hs, ?_⟩
  cases ec : chk m s with
  | some nm =>
    rw [ec] at k
    walk_at "e"
    exact k
  | none =>
    rw [ec] at k
    obtain ⟨mm, ts, rfl, rfl, ⟨m0, m1⟩, ok, hl, k⟩ := k
    walk_at "w"
    refine ⟨by show 1 ≤ line; decide, ?_⟩
    walk_at "w"
    refine ⟨by omega, ?_⟩
    walk_at "w"
    refine lc_inv (fun _ => .non) (fun i x hx Iv hI => ?_) ?_
    · walk_at "w"
      refine ifB.T rfl ?_
      walk_at "w"
      obtain ⟨hi, _⟩ := ints_get hx
      exact ⟨lt_line (by rw [List.length_map]; have := List.length_take_le i (intsF 0 mm.toNat); omega), hI⟩
    · rw [map_const]
      have p0 := pap_start m0
      walk_at "w"
      refine ⟨Nat.le_of_lt (lt_line (by have := p0.1; rw [List.length_append] at this; omega)), ?_⟩
      walk_at "w"
      exact paper_3 ⟨m0, m1⟩ ok hl p0 k

/-! ### the best ways to the end -/
def eB : Option (Int × Int × List Int) → D
  | none => .non
  | some (x, l, es) => .tup [.int x, .int l, .lst (es.map .int)]
def Best (m : Int) (xs : List D) (g : Int → Option (Int × Int × List Int)) : Prop := (xs.length : Int) = m + 1 ∧ ∀ p, 0 ≤ p → p ≤ m → L2.atI xs p = some (eB (g p)) ∧ ∀ x l es, g p = some (x, l, es) → (es.length : Int) ≤ m - p
def gx (g : Int → Option (Int × Int × List Int)) (p : Int) : Option Int := (g p).map (·.1)
theorem best_put {m b : Int} {v : Int × Int × List Int} {xs : List D} {g : Int → Option (Int × Int × List Int)} (h : Best m xs g) (h0 : 0 ≤ b) (h1 : b ≤ m) (hv : (v.2.2.length : Int) ≤ m - b) : Best m (xs.set b.toNat (eB (some v))) fun p => if p = b then some v else g p := by
  refine ⟨by rw [List.length_set]; exact h.1, fun p p0 p1 => ?_⟩
  have hl := h.1
  obtain ⟨e, n⟩ := h.2 p p0 p1
  rw [atI_nn p0 (by omega)] at e
  rw [atI_nn p0 (by rw [List.length_set]; omega), List.getElem?_set]
  show _ = some (eB (if p = b then some v else g p)) ∧ ∀ x l es, (if p = b then some v else g p) = some (x, l, es) → _
  by_cases hp : p = b
  · subst hp
    rw [if_pos rfl, if_pos (by omega), if_pos rfl]
    exact ⟨rfl, fun x l es z => by cases z; exact hv⟩
  · rw [if_neg (by omega), if_neg hp]
    exact ⟨e, n⟩
theorem bck_keep {pre : List Stp} {t : Stp} {m : Int} {g : Int → Option Int} (h : Bck pre m g) (hk : ∀ y, g t.b = some y → ∃ x, g t.a = some x ∧ x ≤ y + t.h) : Bck (pre ++ [t]) m g := by
  refine ⟨h.z, fun u hu y hy => ?_, fun p x h0 h1 hx => ?_⟩
  · rcases List.mem_append.mp hu with hu | hu
    · exact h.le u hu y hy
    · rw [List.mem_singleton.mp hu] at hy ⊢
      exact hk y hy
  · obtain ⟨u, hu, z⟩ := h.ge p x h0 h1 hx
    exact ⟨u, List.mem_append_left _ hu, z⟩
theorem bck_put {pre : List Stp} {t : Stp} {m y : Int} {g : Int → Option Int} (h : Bck pre m g) (ho : ∀ u ∈ pre, u.a < u.b ∧ t.a ≤ u.a) (ht : t.a < t.b) (tm : t.b ≤ m) (hy : g t.b = some y) (hx : ∀ x, g t.a = some x → t.h + y ≤ x) :
    Bck (pre ++ [t]) m fun p => if p = t.a then some (t.h + y) else g p := by
  refine ⟨by rw [if_neg (by omega)]; exact h.z, fun u hu z hz => ?_, fun p x p0 p1 hx' => ?_⟩
  · rcases List.mem_append.mp hu with hu | hu
    · have o := ho u hu
      rw [if_neg (by omega)] at hz
      obtain ⟨x, e, l⟩ := h.le u hu z hz
      by_cases ha : u.a = t.a
      · rw [if_pos ha]
        rw [ha] at e
        exact ⟨_, rfl, by have := hx x e; omega⟩
      · rw [if_neg ha]; exact ⟨x, e, l⟩
    · rw [List.mem_singleton.mp hu] at hz ⊢
      rw [if_neg (by omega), hy] at hz
      cases hz
      rw [if_pos rfl]
      exact ⟨_, rfl, by omega⟩
  · by_cases hp : p = t.a
    · rw [if_pos hp] at hx'
      refine ⟨t, List.mem_append_right _ List.mem_cons_self, hp.symm, y, ?_, by cases hx'; omega⟩
      rw [if_neg (by omega)]; exact hy
    · rw [if_neg hp] at hx'
      obtain ⟨u, hu, ha, z, hz, e⟩ := h.ge p x p0 p1 hx'
      refine ⟨u, List.mem_append_left _ hu, ha, z, ?_, e⟩
      have o := ho u hu
      rw [if_neg (by omega)]; exact hz
theorem bck_perm {us ts : List Stp} {m : Int} {f : Int → Option Int} (p : us.Perm ts) (h : Bck us m f) : Bck ts m f :=
  ⟨h.z, fun t ht => h.le t (p.mem_iff.mpr ht), fun q y h0 h1 hy => by obtain ⟨t, ht, z⟩ := h.ge q y h0 h1 hy; exact ⟨t, p.mem_iff.mp ht, z⟩⟩
/-! the order of what is found -/
theorem pys_ints : ∀ es : List Int, pys (es.map D.int) = es.map PyData.int
  | [] => by simp only [List.map_nil, pys]
  | e :: es => by
    simp only [List.map_cons, pys, D.py]
    rw [pys_ints es]
theorem eB_py (x l : Int) (es : List Int) : (eB (some (x, l, es))).py = .tuple [.int x, .int l, .list (es.map PyData.int)] := by
  show (D.tup [.int x, .int l, .lst (es.map D.int)]).py = _
  simp only [D.py, pys]
  rw [pys_ints es]
theorem flats_ints : ∀ es : List Int, D.flatd.flats (es.map .int) = true
  | [] => rfl
  | e :: es => by
    show ((D.int e).flatd && D.flatd.flats (es.map .int)) = true
    rw [flats_ints es]
    rfl
theorem deps_ints : ∀ es : List Int, D.dep.deps (es.map .int) ≤ 1
  | [] => by show 0 ≤ 1; omega
  | e :: es => by
    show max (D.int e).dep (D.dep.deps (es.map .int)) ≤ 1
    have h := deps_ints es
    have h2 : (D.int e).dep = 1 := rfl
    omega
theorem eB_flat (x l : Int) (es : List Int) : (eB (some (x, l, es))).flatd = true := by
  show D.flatd.flats [.int x, .int l, .lst (es.map .int)] = true
  show ((D.int x).flatd && ((D.int l).flatd && ((D.lst (es.map .int)).flatd && true))) = true
  have : (D.lst (es.map .int)).flatd = true := flats_ints es
  rw [this]
  rfl
theorem eB_dep (x l : Int) (es : List Int) : (eB (some (x, l, es))).dep ≤ 64 := by
  show D.dep.deps [.int x, .int l, .lst (es.map .int)] + 1 ≤ 64
  show max (D.int x).dep (max (D.int l).dep (max (D.dep.deps (es.map .int) + 1) 0)) + 1 ≤ 64
  have h := deps_ints es
  have h1 : (D.int x).dep = 1 := rfl
  have h2 : (D.int l).dep = 1 := rfl
  omega
theorem eB_alike (x l x' l' : Int) (es es' : List Int) : alikeD (eB (some (x, l, es))) (eB (some (x', l', es'))) = true := by
  unfold alikeD
  rw [eB_py, eB_py]
  simp [PySem.W.alike, PySem.W.alikeAll, PySem.W.alike_ints]
theorem eB_lt {x l x' l' : Int} {es es' : List Int} (h : x ≠ x') : ltD (eB (some (x, l, es))) (eB (some (x', l', es'))) = decide (x < x') := by
  unfold ltD
  rw [eB_py, eB_py, PySem.W.dataLt_tuple, PySem.W.dataLt_cons (by simp [PySem.W.alike])]
  have e : PyData.eqv (.int x) (.int x') = false := by simp [PyData.eqv]; omega
  rw [if_neg (by rw [e]; decide), PySem.W.dataLt_int]
theorem eB_lt_t {x l x' l' : Int} {es es' : List Int} (h : ltD (eB (some (x, l, es))) (eB (some (x', l', es'))) = true) : x ≤ x' := by
  by_cases e : x = x'
  · omega
  · rw [eB_lt e] at h
    have := of_decide_eq_true h
    omega
theorem eB_lt_f {x l x' l' : Int} {es es' : List Int} (h : ltD (eB (some (x, l, es))) (eB (some (x', l', es'))) = false) : x' ≤ x := by
  by_cases e : x = x'
  · omega
  · rw [eB_lt e] at h
    have := of_decide_eq_false h
    omega

theorem best_at {m p : Int} {xs : List D} {g : Int → Option (Int × Int × List Int)} (h : Best m xs g) (h0 : 0 ≤ p) (h1 : p ≤ m) : L2.atI xs p = some (eB (g p)) ∧ L2.ixN xs.length p = some p.toNat := by
  refine ⟨(h.2 p h0 h1).1, ?_⟩
  unfold L2.ixN
  rw [if_pos h0, if_pos (by have := h.1; omega)]
theorem gx_put {g : Int → Option (Int × Int × List Int)} {a x l : Int} {es : List Int} : gx (fun p => if p = a then some (x, l, es) else g p) = fun p => if p = a then some x else gx g p := by
  funext p
  show (if p = a then some (x, l, es) else g p).map (·.1) = if p = a then some x else (g p).map (·.1)
  by_cases hp : p = a
  · rw [if_pos hp, if_pos hp]; rfl
  · rw [if_neg hp, if_neg hp]
def g0 (m : Int) : Int → Option (Int × Int × List Int) := fun p => if p = m then some (0, 0, []) else none
theorem best_start {m : Int} (hm : 0 ≤ m) : Best m (List.replicate m.toNat .non ++ [.tup [.int 0, .int 0, .lst []]]) (g0 m) := by
  refine ⟨by rw [List.length_append, List.length_replicate, List.length_singleton]; omega, fun p h0 h1 => ?_⟩
  rw [atI_nn h0 (by rw [List.length_append, List.length_replicate, List.length_singleton]; omega)]
  unfold g0
  by_cases hp : p = m
  · subst hp
    rw [if_pos rfl, List.getElem?_append_right (by rw [List.length_replicate]; omega), List.length_replicate]
    refine ⟨by rw [show p.toNat - p.toNat = 0 by omega]; rfl, fun x l es z => ?_⟩
    cases z
    show ((0 : Nat) : Int) ≤ p - p
    omega
  · rw [if_neg hp, List.getElem?_append_left (by rw [List.length_replicate]; omega), List.getElem?_replicate, if_pos (by omega)]
    exact ⟨rfl, fun x l es z => by cases z⟩
theorem bck_start (m : Int) : Bck [] m (gx (g0 m)) := by
  refine ⟨by unfold gx g0; rw [if_pos rfl]; rfl, (fun t ht => by cases ht), fun p x h0 h1 hx => ?_⟩
  unfold gx g0 at hx
  rw [if_neg (by omega)] at hx
  cases hx
theorem way_5 {m : Int} {ts : List Stp} {xs : List D} {g : Int → Option (Int × Int × List Int)} {R : SV → Prop} {F : Exn → Prop} {s3 s4 s5 s6 s7 s8 s9 s10 s11 : SV} (hm : 0 ≤ m ∧ m ≤ 60) (hp : Best m xs g) (e : gx g 0 = dist ts m) (k : match dist ts m with
  | none => R (.fr true .non)
  | some x => ∀ es : List D, R (.fr true (.tup [.lst es, .int x]))) :
    rt_least_way_5 (endsF [.s, .s] [.int m, .lst (encS ts)] R F) [.fr true (.int m), .fr true (.lst (encS ts)), .ol true xs, s3, s4, s5, s6, s7, s8, s9, s10, s11] := by
  obtain ⟨ea, _⟩ := best_at hp (p := 0) (Int.le_refl _) hm.1
  rw [← e] at k
  unfold gx at k
  walk_at "w"
  refine ⟨_, ea, ?_⟩
  cases q : g 0 with
  | none =>
    rw [q] at k
    walk_at "w"
    refine ⟨rfl, ?_⟩
    walk_at "w"
    refine ifB.T rfl ?_
    walk_at "w"
    walk_at "e"
    exact k
  | some v =>
    obtain ⟨x, l, es⟩ := v
    rw [q] at k ea
    have k : ∀ es : List D, R (.fr true (.tup [.lst es, .int x])) := k
    walk_at "w"
    refine ⟨rfl, ?_⟩
    walk_at "w"
    refine ifB.F rfl ?_
    walk_at "w"
    refine ⟨_, ea, ?_⟩
    walk_at "w"
    refine ⟨rfl, ?_⟩
    walk_at "w"
    refine ⟨by show 2 ≤ line; decide, ?_⟩
    walk_at "w"
    walk_at "e"
    exact k _
theorem way_6 {m : Int} {ts : List Stp} {xs0 : List D} {R : SV → Prop} {F : Exn → Prop} {s3 s4 s5 s6 s7 s8 s9 s10 s11 : SV} (hm : 0 ≤ m ∧ m ≤ 60) (ok : okT m ts) (hl : ts.length ≤ 1000) (p0 : Best m xs0 (g0 m)) (k : match dist ts m with
  | none => R (.fr true .non)
  | some x => ∀ es : List D, R (.fr true (.tup [.lst es, .int x]))) :
    rt_least_way_6 (endsF [.s, .s] [.int m, .lst (encS ts)] R F) [.fr true (.int m), .fr true (.lst (encS ts)), .ol true xs0, s3, s4, s5, s6, s7, s8, s9, s10, s11] := by
  walk_at "w"
  refine ⟨enc_srt ts, ?_⟩
  walk_at "w"
  obtain ⟨us, e, pe, pw⟩ := enc_sort true ts
  rw [e]
  have oku : okT m us := fun t ht => ok t (pe.mem_iff.mp ht)
  refine ⟨fun i ρ => ∃ xs g s3 s4 s5 s7 s8 s10 s11, ρ = [.fr true (.int m), .fr true (.lst (encS ts)), .ol true xs, s3, s4, s5, s6, s7, s8, s9, s10, s11] ∧ Best m xs g ∧ Bck (us.take i) m (gx g), ⟨_, _, _, _, _, _, _, _, _, rfl, p0, bck_start m⟩, ?_, ?_⟩
  · rintro i x ρ hx ⟨xs, g, s3, s4, s5, s7, s8, s10, s11, rfl, hp, hd⟩
    obtain ⟨t, ht, rfl⟩ := enc_at hx
    have o := oku t (List.mem_of_getElem? ht)
    have tk := take_snoc ht
    have pre : ∀ u ∈ us.take i, u.a < u.b ∧ t.a ≤ u.a := fun u hu => ⟨(oku u (List.mem_of_mem_take hu)).2.1, le_down (pair_take pw ht u hu)⟩
    obtain ⟨ea, ia⟩ := best_at hp o.1 (by have := o.2.1; have := o.2.2.1; omega)
    obtain ⟨eb, _⟩ := best_at hp (p := t.b) (by have := o.2.1; have := o.1; omega) o.2.2.1
    unfold Stp.enc
    walk_at "w"
    refine ⟨rfl, ?_⟩
    walk_at "w"
    refine ⟨_, eb, ?_⟩
    cases qb : g t.b with
    | none =>
      walk_at "w"
      refine ⟨rfl, ?_⟩
      walk_at "w"
      refine ifB.F rfl ?_
      exact ⟨_, _, _, _, _, _, _, _, _, rfl, hp, by rw [tk]; exact bck_keep hd fun x hx => by unfold gx at hx; rw [qb] at hx; cases hx⟩
    | some v =>
      obtain ⟨y, l, es⟩ := v
      have gb : gx g t.b = some y := by unfold gx; rw [qb]; rfl
      have lb := (hp.2 t.b (by have := o.2.1; have := o.1; omega) o.2.2.1).2 y l es qb
      have eb' := eb
      rw [qb] at eb'
      walk_at "w"
      refine ⟨rfl, ?_⟩
      walk_at "w"
      refine ifB.T rfl ?_
      walk_at "w"
      refine ⟨_, eb', ?_⟩
      walk_at "w"
      refine ⟨rfl, ?_⟩
      walk_at "w"
      refine ⟨by show 1 ≤ line; decide, ?_⟩
      walk_at "w"
      refine ⟨Nat.le_of_lt (lt_line (by show 1 + (es.map D.int).length ≤ 2000; rw [List.length_map]; have := o.1; have := o.2.1; omega)), ?_⟩
      walk_at "w"
      refine ⟨by show 3 ≤ line; decide, ?_⟩
      walk_at "w"
      refine ⟨_, ea, ?_⟩
      have put : (∀ x, gx g t.a = some x → t.h + y ≤ x) → ∀ s3 s4 s5 s7 s8 s10 s11 : SV, ∃ xs' g' s3' s4' s5' s7' s8' s10' s11', ([.fr true (.int m), .fr true (.lst (encS ts)), .ol true (xs.set t.a.toNat (eB (some (t.h + y, l + 1, t.b :: es)))), s3, s4, s5, s6, s7, s8, s9, s10, s11] : List SV) = [.fr true (.int m), .fr true (.lst (encS ts)), .ol true xs', s3', s4', s5', s6, s7', s8', s9, s10', s11'] ∧ Best m xs' g' ∧ Bck (us.take (i + 1)) m (gx g') := fun hx s3 s4 s5 s7 s8 s10 s11 =>
        ⟨_, _, _, _, _, _, _, _, _, rfl, best_put (v := (t.h + y, l + 1, t.b :: es)) hp o.1 (by have := o.2.1; have := o.2.2.1; omega) (by show (((t.b :: es).length : Nat) : Int) ≤ _; rw [List.length_cons]; have := o.2.1; omega), by rw [tk, gx_put]; exact bck_put hd pre o.2.1 o.2.2.1 gb hx⟩
      cases qa : g t.a with
      | none =>
        walk_at "w"
        refine ⟨rfl, ?_⟩
        walk_at "w"
        refine ifB.T rfl ?_
        walk_at "w"
        refine ifB.T rfl ?_
        walk_at "w"
        refine ⟨rfl, ?_⟩
        walk_at "w"
        refine ⟨_, ia, ?_⟩
        exact put (fun x hx => by unfold gx at hx; rw [qa] at hx; cases hx) _ _ _ _ _ _ _
      | some v =>
        obtain ⟨x, l', es'⟩ := v
        have ga : gx g t.a = some x := by unfold gx; rw [qa]; rfl
        have ea' := ea
        rw [qa] at ea'
        walk_at "w"
        refine ⟨rfl, ?_⟩
        walk_at "w"
        refine ifB.F rfl ?_
        walk_at "w"
        refine ⟨_, ea', ?_⟩
        walk_at "w"
        refine ⟨⟨eB_flat (t.h + y) (l + 1) (t.b :: es), eB_flat x l' es', eB_dep (t.h + y) (l + 1) (t.b :: es)⟩, ⟨eB_alike (t.h + y) (l + 1) x l' (t.b :: es) es', rfl⟩, ?_⟩
        walk_at "w"
        refine ifB.mk (fun hb => ?_) (fun hb => ?_)
        · have hb : ltD (eB (some (t.h + y, l + 1, t.b :: es))) (eB (some (x, l', es'))) = true := hb
          have le := eB_lt_t hb
          walk_at "w"
          refine ⟨rfl, ?_⟩
          walk_at "w"
          refine ⟨_, ia, ?_⟩
          exact put (fun z hz => by rw [ga] at hz; cases hz; exact le) _ _ _ _ _ _ _
        · have hb : ltD (eB (some (t.h + y, l + 1, t.b :: es))) (eB (some (x, l', es'))) = false := hb
          have le := eB_lt_f hb
          exact ⟨_, _, _, _, _, _, _, _, _, rfl, hp, by rw [tk]; exact bck_keep hd fun z hz => by rw [gb] at hz; cases hz; exact ⟨x, ga, by omega⟩⟩
  · rintro ρ ⟨xs, g, s3, s4, s5, s7, s8, s10, s11, rfl, hp, hd⟩
    rw [enc_len, List.take_length] at hd
    exact way_5 hm hp (bck_is hm.1 ok (bck_perm pe hd)) k
theorem p_least_way (ds : List D) (R : SV → Prop) (F : Exn → Prop) (h : s_least_way ds R F) : rd_least_way (endsF [.s, .s] ds R F) (slots0 [.s, .s] ds ++ List.replicate 10 .no) := by
  obtain ⟨m, ts, rfl, hm, ok, hl, k⟩ := h
  walk_at "w"
  have hg := ts_good ok
  refine ⟨_, _, rfl, ⟨1, rfl⟩, ⟨3, pl_goodS hg (by rw [enc_len]; omega)⟩, ?_⟩
  rw [chk_none hm hg (by rw [enc_len]; exact hl)]
  walk_at "w"
  refine ⟨by omega, ?_⟩
  walk_at "w"
  refine lc_inv (fun _ => .non) (fun i x hx Iv hI => ?_) ?_
  · walk_at "w"
    refine ifB.T rfl ?_
    walk_at "w"
    obtain ⟨hi, _⟩ := ints_get hx
    exact ⟨lt_line (by rw [List.length_map]; have := List.length_take_le i (intsF 0 m.toNat); omega), hI⟩
  · rw [map_const]
    walk_at "w"
    refine ⟨by show 0 ≤ line; decide, ?_⟩
    walk_at "w"
    refine ⟨by show 3 ≤ line; decide, ?_⟩
    walk_at "w"
    refine ⟨lt_line (by rw [List.length_replicate]; omega), ?_⟩
    walk_at "w"
    exact way_6 hm ok hl (best_start hm.1) k

theorem arr_snoc (e : Int) : ∀ (l : List Int) (p : Int), arr p (l ++ [e]) = e
  | [], _ => rfl
  | x :: l, p => arr_snoc e l x
theorem ints_at {es : List Int} {i : Nat} {x : D} (h : (es.map D.int)[i]? = some x) : ∃ e, es[i]? = some e ∧ x = .int e := by
  rw [List.getElem?_map] at h
  cases q : es[i]? with
  | none => rw [q] at h; cases h
  | some e => rw [q] at h; exact ⟨e, rfl, (Option.some.inj h).symm⟩
theorem way_drop {ts : List Stp} {p : Int} {es : List Int} {i : Nat} {e : Int} (h : es[i]? = some e) (w : Way ts p (es.drop i)) : (∃ t ∈ ts, t.a = p ∧ t.b = e) ∧ Way ts e (es.drop (i + 1)) := by
  obtain ⟨hi, rfl⟩ := List.getElem?_eq_some_iff.mp h
  rw [← List.getElem_cons_drop hi] at w
  exact w
theorem harm_5 {m : Int} {ts : List Stp} {es : List Int} {kvs : List (List Ky × D)} {R : SV → Prop} {F : Exn → Prop} {s6 : SV} (hm : 0 ≤ m ∧ m ≤ 60) (ok : okT m ts) (w : Way ts 0 es) (tb : Tbl ts kvs)
    (k : if arr 0 es = m then ∀ x y, dist ts m = some x → x ≤ y → R (.fr true (.int y)) else R (.fr true .non)) :
    rt_way_harm_5 (endsF [.s, .s, .s] [.int m, .lst (encS ts), .lst (es.map .int)] R F) [.fr true (.int m), .fr true (.lst (encS ts)), .fr true (.lst (es.map .int)), .oe true kvs, .fr true (.int 0), .fr true (.int 0), s6] := by
  walk_at "w"
  refine ⟨fun i ρ => ∃ tot s6, ρ = [.fr true (.int m), .fr true (.lst (encS ts)), .fr true (.lst (es.map .int)), .oe true kvs, .fr true (.int tot), .fr true (.int (arr 0 (es.take i))), s6] ∧ (∃ x, dist ts (arr 0 (es.take i)) = some x ∧ x ≤ tot) ∧ Way ts (arr 0 (es.take i)) (es.drop i), ⟨0, _, rfl, ⟨0, rfl, Int.le_refl _⟩, w⟩, ?_, ?_⟩
  · rintro i x ρ hx ⟨tot, s6, rfl, ⟨x, hd, hle⟩, hw⟩
    obtain ⟨e, he, rfl⟩ := ints_at hx
    obtain ⟨⟨t, ht, ha, hb⟩, hw'⟩ := way_drop he hw
    have tk : arr 0 (es.take (i + 1)) = e := by rw [take_snoc he]; exact arr_snoc _ _ _
    generalize arr 0 (es.take i) = p at *
    have sm := (tb p e).1 t ht ha hb
    obtain ⟨d, hdv⟩ := Option.isSome_iff_exists.mp sm
    obtain ⟨u, hu, ua, ub, rfl⟩ := (tb p e).2 d hdv
    obtain ⟨y, hy, hl⟩ := (dist_dst (M := m) ok).le u hu (ok u hu).2.2.1 x (by rw [ua]; exact hd)
    rw [ub] at hy
    walk_at "w"
    refine ⟨by show 2 ≤ line; decide, ?_⟩
    walk_at "w"
    refine ⟨_, rfl, ?_⟩
    rw [hdv]
    walk_at "w"
    refine ifB.F rfl ?_
    walk_at "w"
    refine ⟨by show 2 ≤ line; decide, ?_⟩
    walk_at "w"
    refine ⟨_, _, rfl, hdv, ?_⟩
    walk_at "w"
    refine ⟨tot + u.h, .fr true (.int e), ?_, ⟨y, by rw [tk]; exact hy, by omega⟩, by rw [tk]; exact hw'⟩
    rw [tk]
    rfl
  · rintro ρ ⟨tot, s6, rfl, ⟨x, hd, hle⟩, hw⟩
    rw [List.length_map, List.take_length] at hd ⊢
    walk_at "w"
    refine ⟨⟨rfl, rfl, Nat.le_of_ble_eq_true rfl, Nat.le_of_ble_eq_true rfl⟩, ?_⟩
    walk_at "w"
    by_cases e : arr 0 es = m
    · rw [if_pos e] at k
      refine ifB.F (by simp [D.eqv, e]) ?_
      walk_at "w"
      walk_at "e"
      exact k x tot (by rw [← e]; exact hd) hle
    · rw [if_neg e] at k
      refine ifB.T (by simp [D.eqv, e]) ?_
      walk_at "w"
      walk_at "e"
      exact k
theorem way_pos {m : Int} {ts : List Stp} (ok : okT m ts) : ∀ {es : List Int} {p : Int}, Way ts p es → ∀ e ∈ es, 0 ≤ e
  | [], _, _, e, he => by cases he
  | x :: es, p, ⟨⟨t, ht, ha, hb⟩, w⟩, e, he => by
    rcases List.mem_cons.mp he with rfl | he
    · have o := ok t ht; have := o.1; have := o.2.1; omega
    · exact way_pos ok w e he
theorem p_way_harm (ds : List D) (R : SV → Prop) (F : Exn → Prop) (h : s_way_harm ds R F) : rd_way_harm (endsF [.s, .s, .s] ds R F) (slots0 [.s, .s, .s] ds ++ List.replicate 4 .no) := by
  obtain ⟨m, ts, es, rfl, hm, ok, hl, w, hes, k⟩ := h
  walk_at "w"
  have hg := ts_good ok
  refine ⟨_, _, rfl, ⟨1, rfl⟩, ⟨3, pl_goodS hg (by rw [enc_len]; omega)⟩, ?_⟩
  rw [chk_none hm hg (by rw [enc_len]; exact hl)]
  walk_at "w"
  refine ⟨rfl, ?_⟩
  walk_at "w"
  refine ifB.F rfl ?_
  walk_at "w"
  refine lc_inv (fun d => .bl (cnt d)) (fun i x hx Iv hI => ?_) ?_
  · obtain ⟨e, he, rfl⟩ := ints_at hx
    walk_at "w"
    refine ifB.T rfl ?_
    walk_at "w"
    refine ⟨_, rfl, ⟨1, rfl⟩, ?_⟩
    walk_at "w"
    exact ⟨lt_line (by rw [List.length_map, List.length_take]; have := (List.getElem?_eq_some_iff.mp he).1; omega), hI⟩
  · have e : (es.map D.int).map (fun d => D.bl (cnt d)) = (es.map fun _ => true).map D.bl := by
      rw [List.map_map, List.map_map]
      refine List.map_congr_left fun x hx => ?_
      have := way_pos ok w x hx
      show D.bl (decide (0 ≤ x)) = .bl true
      rw [decide_eq_true this]
    rw [e]
    have al : ((es.map fun _ => true).all id) = true := by
      rw [List.all_map]
      exact List.all_eq_true.mpr fun _ _ => rfl
    walk_at "w"
    refine ⟨es.map fun _ => true, rfl, ?_⟩
    walk_at "w"
    refine ifB.F (by rw [al]; rfl) ?_
    walk_at "w"
    refine ⟨ts, m, rfl, ok, hl, fun kvs tb => ?_⟩
    walk_at "w"
    exact harm_5 hm ok w tb k

theorem nil_ok (xs : List Int) : (D.lst (xs.map D.int)).flatd = true ∧ (D.lst []).flatd = true ∧ (D.lst (xs.map D.int)).dep ≤ 64 ∧ (D.lst []).dep ≤ 64 := by
  have hd := deps_ints xs
  refine ⟨flats_ints xs, rfl, ?_, Nat.le_of_ble_eq_true rfl⟩
  show D.dep.deps (xs.map D.int) + 1 ≤ 64
  omega
theorem cand_snoc (ts : List Stp) (t : Stp) (l : List (Option Int)) (p : Int) : cand (ts ++ [t]) l p = cand ts l p ++ (if t.b = p then ((l[t.a.toNat]?).join).map (· + t.h) else none).toList := by
  unfold cand
  rw [List.filterMap_append]
  congr 1
theorem dl_at {ts : List Stp} {n : Nat} {p : Int} (h0 : 0 ≤ p) (h : p ≤ n) : L2.atI ((dl ts n).map oD) p = some (oD (dist ts p)) := by
  rw [atI_nn h0 (by rw [List.length_map, dl_len]; omega), List.getElem?_map, dl_dist h0 h]
  rfl
theorem to_2 {m : Int} {n : Nat} {ts : List Stp} {K : PEnds} {mm : Int} {s5 : SV} (ok : okT mm ts) (hn : (n : Int) + 1 ≤ 60) (hl : ts.length ≤ 1000)
    (hK : ∀ s4 s5, K.nx [.fr true (.int m), .fr true (.lst (encS ts)), .ol true ((dl ts (n + 1)).map oD), .fr true (.int ((n : Int) + 1)), s4, s5]) :
    rt_law_least_to_2 K [.fr true (.int m), .fr true (.lst (encS ts)), .ol true ((dl ts n).map oD), .fr true (.int ((n : Int) + 1)), .ol true [], s5] := by
  walk_at "w"
  refine ⟨fun i ρ => ∃ s5, ρ = [.fr true (.int m), .fr true (.lst (encS ts)), .ol true ((dl ts n).map oD), .fr true (.int ((n : Int) + 1)), .ol true ((cand (ts.take i) (dl ts n) ((n : Int) + 1)).map .int), s5] ∧ (cand (ts.take i) (dl ts n) ((n : Int) + 1)).length ≤ i, ⟨_, rfl, Nat.le_refl _⟩, ?_, ?_⟩
  · rintro i x ρ hx ⟨s5, rfl, hc⟩
    obtain ⟨t, ht, rfl⟩ := enc_at hx
    have o := ok t (List.mem_of_getElem? ht)
    have hi := (List.getElem?_eq_some_iff.mp ht).1
    have tk : cand (ts.take (i + 1)) (dl ts n) ((n : Int) + 1) = _ := (congrArg (fun l => cand l (dl ts n) ((n : Int) + 1)) (take_snoc ht)).trans (cand_snoc _ _ _ _)
    generalize cand (ts.take i) (dl ts n) ((n : Int) + 1) = c at *
    unfold Stp.enc
    walk_at "w"
    refine ⟨_, rfl, ?_⟩
    walk_at "w"
    refine ⟨⟨rfl, rfl, Nat.le_of_ble_eq_true rfl, Nat.le_of_ble_eq_true rfl⟩, ?_⟩
    walk_at "w"
    by_cases hb : t.b = (n : Int) + 1
    · refine ifB.T (by simp [D.eqv, hb]) ?_
      rw [if_pos hb, dl_dist o.1 (by have := o.2.1; omega)] at tk
      have ea := dl_at (ts := ts) (n := n) o.1 (by have := o.2.1; omega)
      walk_at "w"
      refine ⟨_, rfl, ?_⟩
      walk_at "w"
      refine ⟨_, ea, ?_⟩
      cases q : dist ts t.a with
      | none =>
        rw [q] at tk
        have tk : _ = c ++ [] := tk
        walk_at "w"
        refine ⟨rfl, ?_⟩
        walk_at "w"
        refine ifB.F rfl ?_
        exact ⟨_, by rw [tk, List.append_nil]; rfl, by rw [tk, List.append_nil]; omega⟩
      | some x =>
        rw [q] at tk ea
        have tk : _ = c ++ [x + t.h] := tk
        walk_at "w"
        refine ⟨rfl, ?_⟩
        walk_at "w"
        refine ifB.T rfl ?_
        walk_at "w"
        refine ⟨_, rfl, ?_⟩
        walk_at "w"
        refine ⟨_, ea, ?_⟩
        walk_at "w"
        refine ⟨_, rfl, ?_⟩
        walk_at "w"
        refine ⟨lt_line (by rw [List.length_map]; omega), ?_⟩
        walk_at "w"
        exact ⟨_, by rw [tk, List.map_append]; rfl, by rw [tk, List.length_append]; show c.length + 1 ≤ i + 1; omega⟩
    · refine ifB.F (by simp [D.eqv, hb]) ?_
      rw [if_neg hb] at tk
      have tk : _ = c ++ [] := tk
      refine ifB.F rfl ?_
      exact ⟨_, by rw [tk, List.append_nil]; rfl, by rw [tk, List.append_nil]; omega⟩
  · rintro ρ ⟨s5, rfl, hc⟩
    rw [enc_len, List.take_length] at hc ⊢
    have e : (dl ts (n + 1)).map oD = (dl ts n).map oD ++ [oD (minO (cand ts (dl ts n) ((n : Int) + 1)))] := by
      show (dl ts n ++ [_]).map oD = _
      rw [List.map_append]; rfl
    have hl2 : ((dl ts n).map oD).length < line := lt_line (by rw [List.length_map, dl_len]; omega)
    rw [e] at hK
    generalize cand ts (dl ts n) ((n : Int) + 1) = c at *
    walk_at "w"
    refine ⟨Nat.zero_le _, ?_⟩
    walk_at "w"
    refine ⟨nil_ok c, ?_⟩
    cases c with
    | nil =>
      refine ifB.T rfl ?_
      walk_at "w"
      refine ⟨hl2, ?_⟩
      exact hK _ _
    | cons x c =>
      refine ifB.F rfl ?_
      walk_at "w"
      refine ⟨x :: c, rfl, Nat.succ_pos _, fun y hy hmin => ?_⟩
      walk_at "w"
      refine ⟨hl2, ?_⟩
      have q : minO (x :: c) = some y := by
        obtain ⟨z, hz, hz2⟩ := minO_is hy
        obtain ⟨z1, z2⟩ := minO_some hz
        rw [hz, show z = y by have := hmin z z1; omega]
      rw [q] at hK
      exact hK _ _
theorem p_law_least_to (ds : List D) (R : SV → Prop) (F : Exn → Prop) (h : s_law_least_to ds R F) : rd_law_least_to (endsF [.s, .s] ds R F) (slots0 [.s, .s] ds ++ List.replicate 4 .no) := by
  obtain ⟨m, ts, mm, rfl, hm, ok, hmm, hl, k⟩ := h
  walk_at "w"
  refine ⟨by show 1 ≤ line; decide, ?_⟩
  walk_at "w"
  refine ⟨by omega, ?_⟩
  walk_at "w"
  refine ⟨fun i ρ => ∃ s3 s4 s5, ρ = [.fr true (.int m), .fr true (.lst (encS ts)), .ol true ((dl ts i).map oD), s3, s4, s5], ⟨_, _, _, rfl⟩, ?_, ?_⟩
  · rintro i x ρ hx ⟨s3, s4, s5, rfl⟩
    obtain ⟨hi, rfl⟩ := ints_get hx
    walk_at "w"
    refine ⟨by show 0 ≤ line; decide, ?_⟩
    have e : (1 : Int) + (i : Nat) = (i : Int) + 1 := by omega
    rw [e]
    refine to_2 ok (by omega) hl fun s4 s5 => ?_
    exact ⟨_, _, _, rfl⟩
  · rintro ρ ⟨s3, s4, s5, rfl⟩
    have hlen : (intsF 1 (m + 1 - 1).toNat).length = m.toNat := by rw [ints_len]; omega
    walk_at "w"
    walk_at "e"
    rw [hlen]
    exact k

theorem way_snoc {ts : List Stp} {e : Int} : ∀ {es : List Int} {p : Int}, Way ts p es → (∃ t ∈ ts, t.a = arr p es ∧ t.b = e) → Way ts p (es ++ [e])
  | [], _, _, h => ⟨h, trivial⟩
  | _ :: _, _, ⟨h1, h2⟩, h => ⟨h1, way_snoc h2 h⟩
theorem ends_4 {a : Addr} {m : Int} {ts : List Stp} {R : SV → Prop} {F : Exn → Prop} {s5 s6 s7 : SV} (hm : 0 ≤ m ∧ m ≤ 60) (ok : okT m ts) (hl : ts.length ≤ 1000) (k : ∀ es : List Int, Way ts 0 es → es.length ≤ 100 → R (.ol true (es.map .int))) :
    rt_law_some_ends_4 (endsF [.t, .s, .s] [.ref a, .int m, .lst (encS ts)] R F) [.sto a, .fr true (.int m), .fr true (.lst (encS ts)), .ol true [], .fr true (.int 0), s5, s6, s7] := by
  walk_at "w"
  refine ⟨by omega, ?_⟩
  walk_at "w"
  refine ⟨fun i ρ => ∃ es s5 s6 s7, ρ = [.sto a, .fr true (.int m), .fr true (.lst (encS ts)), .ol true (es.map .int), .fr true (.int (arr 0 es)), s5, s6, s7] ∧ Way ts 0 es ∧ es.length ≤ i, ⟨[], _, _, _, rfl, trivial, Nat.le_refl _⟩, ?_, ?_⟩
  · rintro i x ρ hx ⟨es, s5, s6, s7, rfl, hw, hi⟩
    obtain ⟨hi2, rfl⟩ := ints_get hx
    walk_at "w"
    refine ⟨fun j acc ma ρ => ∃ rs, acc = rs.map .int ∧ (∀ e ∈ rs, ∃ t ∈ ts, t.a = arr 0 es ∧ t.b = e) ∧ rs.length ≤ j ∧ ma = true ∧ ρ = [.sto a, .fr true (.int m), .fr true (.lst (encS ts)), .ol true (es.map .int), .fr true (.int (arr 0 es)), .fr true (.int (0 + (i : Nat))), s6, .no], ⟨[], rfl, (fun e he => by cases he), Nat.le_refl _, rfl, rfl⟩, ?_, ?_⟩
    · rintro j x acc ma ρ hx ⟨rs, rfl, hr, hj, rfl, rfl⟩
      obtain ⟨t, ht, rfl⟩ := enc_at hx
      have hjl := (List.getElem?_eq_some_iff.mp ht).1
      unfold Stp.enc
      walk_at "w"
      refine ⟨_, rfl, ?_⟩
      walk_at "w"
      refine ⟨⟨rfl, rfl, Nat.le_of_ble_eq_true rfl, Nat.le_of_ble_eq_true rfl⟩, ?_⟩
      walk_at "w"
      by_cases hb : t.a = arr 0 es
      · refine ifB.T (by simp [D.eqv, hb]) ?_
        walk_at "w"
        refine ⟨_, rfl, ?_⟩
        walk_at "w"
        refine ⟨lt_line (by rw [List.length_map]; omega), ?_⟩
        refine ⟨rs ++ [t.b], by rw [List.map_append]; rfl, fun e he => ?_, by rw [List.length_append]; show rs.length + 1 ≤ j + 1; omega, rfl, rfl⟩
        rcases List.mem_append.mp he with he | he
        · exact hr e he
        · rw [List.mem_singleton.mp he]
          exact ⟨t, List.mem_of_getElem? ht, hb, rfl⟩
      · refine ifB.F (by simp [D.eqv, hb]) ?_
        exact ⟨rs, rfl, hr, by omega, rfl, rfl⟩
    · rintro acc ma ρ ⟨rs, rfl, hr, hj, rfl, rfl⟩
      have hj2 : rs.length ≤ 1000 := by rw [enc_len] at hj; omega
      walk_at "w"
      refine ⟨Nat.zero_le _, ?_⟩
      walk_at "w"
      refine ⟨nil_ok rs, ?_⟩
      cases rs with
      | nil =>
        refine ifB.F rfl ?_
        exact ⟨es, _, _, _, rfl, hw, by omega⟩
      | cons r rs =>
        refine ifB.T rfl ?_
        walk_at "w"
        refine ⟨_, _, rfl, ?_⟩
        refine ⟨Nat.le_of_lt (lt_line (by rw [List.length_map]; omega)), (fun z => by cases z), fun x hx => ?_⟩
        obtain ⟨e, he, rfl⟩ := List.mem_map.mp hx
        walk_at "w"
        refine ⟨lt_line (by rw [List.length_map]; omega), ?_⟩
        exact ⟨es ++ [e], _, _, _, by rw [List.map_append, arr_snoc]; rfl, way_snoc hw (hr e he), by rw [List.length_append]; show es.length + 1 ≤ i + 1; omega⟩
  · rintro ρ ⟨es, s5, s6, s7, rfl, hw, hi⟩
    rw [ints_len] at hi
    walk_at "w"
    walk_at "e"
    exact k es hw (by omega)
theorem p_law_some_ends (ds : List D) (R : SV → Prop) (F : Exn → Prop) (h : s_law_some_ends ds R F) : rd_law_some_ends (endsF [.t, .s, .s] ds R F) (slots0 [.t, .s, .s] ds ++ List.replicate 5 .no) := by
  obtain ⟨a, m, ts, rfl, hm, ok, hl, k⟩ := h
  walk_at "w"
  refine ⟨Nat.zero_le _, ?_⟩
  walk_at "w"
  exact ends_4 hm ok hl k
theorem entry_nn {xs : List D} (h : xs.all entry = true) : ∀ d ∈ xs, entry d = true := List.all_eq_true.mp h
theorem p_law_bars (ds : List D) (R : SV → Prop) (F : Exn → Prop) (h : s_law_bars ds R F) : rd_law_bars (endsF [.s, .s, .s, .s, .s] ds R F) (slots0 [.s, .s, .s, .s, .s] ds ++ List.replicate 0 .no) := by
  obtain ⟨m, ts, h, p, rfl, hm, ok, hl, hh, hp, hpl, k⟩ := h
  have hg := ts_good ok
  walk_at "w"
  refine ⟨_, _, _, _, rfl, ⟨1, rfl⟩, ⟨3, pl_goodS hg (by rw [enc_len]; omega)⟩, pl_harm hh, ⟨2, (pl_row (n := 1) (by omega) fun d hd => pl_entry (entry_nn hp d hd)).1⟩, ?_⟩
  rw [chk_none hm hg (by rw [enc_len]; exact hl)]
  dsimp only
  rw [if_pos hh]
  walk_at "w"
  refine ⟨_, rfl, rfl, ?_⟩
  walk_at "w"
  walk_at "e"
  exact k
/-! ### the paper of least harms is closed -/
theorem el_papD {m p : Int} {xs : List D} {f : Int → Option Int} (h : Pap m xs f) (h0 : 0 ≤ p) (h1 : p ≤ m) : el xs p = oD (f p) := by
  obtain ⟨e, _⟩ := el_at (xs := xs) (i := p) h0 (by have := h.1; omega)
  rw [(pap_at h h0 h1).1] at e
  exact (Option.some.inj e).symm
theorem papD_entry {m : Int} {ts : List Stp} (hm : 0 ≤ m) (ok : okT m ts) : (papD ts m).all entry = true := by
  refine List.all_eq_true.mpr fun d hd => ?_
  obtain ⟨i, hi, rfl⟩ := List.getElem_of_mem hd
  have P := papD_pap (ts := ts) hm
  have hl := P.1
  have e := P.2 (i : Int) (by omega) (by omega)
  rw [atI_nn (by omega) (by omega), Int.toNat_natCast, List.getElem?_eq_getElem hi] at e
  rw [Option.some.inj e]
  cases q : dist ts (i : Int) with
  | none => rfl
  | some x =>
    have := dist_nn ok (by omega) q
    exact decide_eq_true this
theorem papD_len {m : Int} {ts : List Stp} (hm : 0 ≤ m) : ((papD ts m).length : Int) = m + 1 := (papD_pap hm).1
theorem shut_papD {m : Int} {ts : List Stp} (hm : 0 ≤ m) (ok : okT m ts) : shut m (encS ts) (.lst (papD ts m)) = true := by
  have P := papD_pap (ts := ts) hm
  rw [shut_lst, decide_eq_true P.1, papD_entry hm ok, el_papD P (Int.le_refl _) hm]
  show (encS ts).all (keptS (papD ts m)) = true
  refine List.all_eq_true.mpr fun d hd => ?_
  obtain ⟨t, ht, rfl⟩ := List.mem_map.mp hd
  have o := ok t ht
  show kept (papD ts m) t.a t.b t.h = true
  unfold kept
  rw [el_papD P o.1 (by have := o.2.1; have := o.2.2.1; omega), el_papD P (by have := o.1; have := o.2.1; omega) o.2.2.1]
  cases q : dist ts t.a with
  | none => rfl
  | some x =>
    obtain ⟨y, hy, l⟩ := (dist_dst (M := m) ok).le t ht o.2.2.1 x q
    rw [hy]
    exact decide_eq_true l
theorem bw_papD {m : Int} {ts : List Stp} {h : D} (hm : 0 ≤ m) (ok : okT m ts) : bw m (encS ts) h (.lst (papD ts m)) = match oD (dist ts m), h with
  | .int x, .int hh => decide (hh ≤ x)
  | .int _, _ => false
  | _, _ => true := by
  unfold bw
  rw [shut_papD hm ok, Bool.true_and]
  show (match el (papD ts m) m, h with
    | .int x, .int hh => decide (hh ≤ x)
    | .int _, _ => false
    | _, _ => true) = _
  rw [el_papD (papD_pap hm) hm (Int.le_refl _)]
/-- one more at a place -/
theorem bw_more {m p x : Int} {ts : List Stp} {xs : List D} (hm : 0 ≤ m) (ok : okT m ts) (h0 : 0 ≤ p) (h1 : p ≤ m) (hx : dist ts p = some x) (P : Pap m xs fun q => if q = p then some (x + 1) else dist ts q) (h : D) : bw m (encS ts) h (.lst xs) = false := by
  have s : shut m (encS ts) (.lst xs) = false := by
    rw [shut_lst]
    by_cases hp : p = 0
    · subst hp
      have e0 : x = 0 := by
        have : (some 0 : Option Int) = some x := hx
        cases this; rfl
      subst e0
      rw [el_papD P (Int.le_refl _) hm, if_pos rfl]
      cases decide ((xs.length : Int) = m + 1) <;> cases xs.all entry <;> rfl
    · obtain ⟨t, ht, hb, z, hz, e⟩ := (dist_dst (M := m) ok).ge p x (by omega) h1 hx
      have o := ok t ht
      have : (encS ts).all (keptS xs) = false := by
        rw [List.all_eq_false]
        refine ⟨t.enc, List.mem_map.mpr ⟨t, ht, rfl⟩, ?_⟩
        have z1 : keptS xs t.enc = kept xs t.a t.b t.h := rfl
        rw [z1]
        unfold kept
        rw [el_papD P o.1 (by have := o.2.1; have := o.2.2.1; omega), el_papD P (by have := o.1; have := o.2.1; omega) o.2.2.1, if_neg (by have := o.2.1; omega), if_pos hb, hz]
        show ¬ decide (x + 1 ≤ z + t.h) = true
        rw [decide_eq_true_eq]
        omega
      rw [this]
      simp
  unfold bw
  rw [s]
  rfl

theorem pow59 : (10 : Int) ^ 59 < 10 ^ 200 := by decide +kernel
theorem harm_int {x : Int} (h : 0 ≤ x) : harmOk (.int x) = true := by
  show (false || decide (0 ≤ x)) = true
  rw [decide_eq_true h]; rfl
theorem p_law_bars_less (ds : List D) (R : SV → Prop) (F : Exn → Prop) (h : s_law_bars_less ds R F) : rd_law_bars_less (endsF [.t, .s, .s, .s] ds R F) (slots0 [.t, .s, .s, .s] ds ++ List.replicate 2 .no) := by
  obtain ⟨a, m, ts, rfl, hm, ok, hl, k⟩ := h
  have P := papD_pap (ts := ts) hm.1
  have ea := (pap_at P hm.1 (Int.le_refl _)).1
  have hen := papD_entry (ts := ts) hm.1 ok
  have hpl : (papD ts m).length ≤ 100 := by have := papD_len (ts := ts) hm.1; omega
  have hbw : ∀ h : D, bw m (encS ts) h (.lst (papD ts m)) = _ := fun h => bw_papD hm.1 ok
  walk_at "w"
  refine ⟨_, ea, ?_⟩
  walk_at "w"
  refine ⟨m, ts, rfl, hm, ok, hl, ?_⟩
  cases q : dist ts m with
  | none =>
    rw [q] at hbw
    walk_at "w"
    refine ⟨rfl, ?_⟩
    walk_at "w"
    refine ifB.T rfl ?_
    walk_at "w"
    refine ⟨rfl, ?_⟩
    walk_at "w"
    refine ifB.F rfl ?_
    walk_at "w"
    refine ⟨m, ts, .non, papD ts m, (by rw [hbw]; rfl), hm, ok, hl, rfl, hen, hpl, ?_⟩
    walk_at "w"
    refine ifB.F rfl ?_
    walk_at "w"
    refine ⟨by decide, ?_⟩
    walk_at "w"
    refine ⟨_, _, rfl, pow59, fun r h0 h1 => ?_⟩
    walk_at "w"
    refine ⟨m, ts, .int r, papD ts m, (by rw [hbw]; rfl), hm, ok, hl, harm_int h0, hen, hpl, ?_⟩
    walk_at "w"
    walk_at "e"
    exact k
  | some x =>
    rw [q] at hbw
    have x0 := dist_nn ok hm.1 q
    intro es
    have b1 : ∀ y : Int, bw m (encS ts) (.int y) (.lst (papD ts m)) = decide (y ≤ x) := fun y => hbw _
    walk_at "w"
    refine ⟨rfl, ?_⟩
    walk_at "w"
    refine ifB.F rfl ?_
    walk_at "w"
    refine ⟨rfl, ?_⟩
    walk_at "w"
    refine ifB.F rfl ?_
    walk_at "w"
    refine ⟨⟨rfl, rfl, Nat.le_of_ble_eq_true rfl, Nat.le_of_ble_eq_true rfl⟩, ?_⟩
    walk_at "w"
    refine ifB.F rfl ?_
    walk_at "w"
    refine ⟨_, rfl, ?_⟩
    walk_at "w"
    refine ⟨_, rfl, rfl, ?_⟩
    walk_at "w"
    refine ifB.F rfl ?_
    walk_at "w"
    refine ⟨m, ts, .int x, papD ts m, (by rw [b1, decide_eq_true (Int.le_refl x)]; rfl), hm, ok, hl, harm_int x0, hen, hpl, ?_⟩
    walk_at "w"
    refine ifB.F rfl ?_
    walk_at "w"
    refine ⟨m, ts, .int 0, papD ts m, (by rw [b1, decide_eq_true x0]; rfl), hm, ok, hl, rfl, hen, hpl, ?_⟩
    walk_at "w"
    refine ifB.F rfl ?_
    walk_at "w"
    refine ⟨trivial, ?_⟩
    walk_at "w"
    have h0 : 0 ≤ (if x - 1 > 0 then x - 1 else 0) := by split <;> omega
    have h1 : (if x - 1 > 0 then x - 1 else 0) ≤ x := by split <;> omega
    refine ⟨m, ts, .int (if x - 1 > 0 then x - 1 else 0), papD ts m, (by rw [b1, decide_eq_true h1]; rfl), hm, ok, hl, harm_int h0, hen, hpl, ?_⟩
    walk_at "w"
    refine ifB.F rfl ?_
    walk_at "w"
    refine ⟨m, ts, .int (x + 1), papD ts m, (by rw [b1, decide_eq_false (by omega)]; rfl), hm, ok, hl, harm_int (by omega), hen, hpl, ?_⟩
    walk_at "w"
    refine ifB.F rfl ?_
    walk_at "w"
    refine ⟨m, ts, .non, papD ts m, (by rw [hbw]; rfl), hm, ok, hl, rfl, hen, hpl, ?_⟩
    walk_at "w"
    walk_at "e"
    exact k
theorem set_cut {xs : List D} {p : Int} (d : D) (h0 : 0 ≤ p) (h1 : p < xs.length) : xs.take p.toNat ++ [d] ++ xs.drop (p + 1).toNat = xs.set p.toNat d := by
  rw [List.set_eq_take_append_cons_drop, if_pos (by omega), show (p + 1).toNat = p.toNat + 1 by omega, List.append_assoc]
  rfl
theorem sIx_at {n : Nat} {d : Nat} {z : Int} (h0 : 0 ≤ z) (h1 : z ≤ n) : HT.sIx n d (some z) = z.toNat := by
  unfold HT.sIx
  first | (rw [if_neg (by omega), if_pos h1]; done) | (simp only []; rw [if_neg (by omega)]; omega) | (dsimp only; split <;> omega) | (simp; omega)
theorem cut_lo {xs : List D} {z : Int} (h0 : 0 ≤ z) (h1 : z ≤ xs.length) : cutD xs (some z) none = xs.drop z.toNat := by
  unfold cutD
  rw [sIx_at h0 h1]
  exact List.take_of_length_le (by rw [List.length_drop]; exact Nat.le_refl _)
theorem cut_hi {xs : List D} {z : Int} (h0 : 0 ≤ z) (h1 : z ≤ xs.length) : cutD xs none (some z) = xs.take z.toNat := by
  unfold cutD
  rw [sIx_at h0 h1]
  rfl
theorem more_2 {a : Addr} {m p x : Int} {ts : List Stp} {R : SV → Prop} {F : Exn → Prop} {s4 s6 s7 : SV} (hm : 0 ≤ m ∧ m ≤ 60) (ok : okT m ts) (hl : ts.length ≤ 1000) (h0 : 0 ≤ p) (h1 : p ≤ m) (hx : dist ts p = some x) (k : R (.fr true (.bl true))) :
    rt_law_more_is_none_2 (endsF [.t, .s, .s, .s] [.ref a, .int m, .lst (encS ts), .lst (papD ts m)] R F) [.sto a, .fr true (.int m), .fr true (.lst (encS ts)), .fr true (.lst (papD ts m)), s4, .fr true (.int p), s6, s7] := by
  have P := papD_pap (ts := ts) hm.1
  have ea := (pap_at P h0 h1).1
  rw [hx] at ea
  have hlen := papD_len (ts := ts) hm.1
  have x0 := dist_nn ok h0 hx
  have P2 := pap_put (v := x + 1) P h0 h1
  have e := set_cut (xs := papD ts m) (.int (x + 1)) h0 (by omega)
  rw [← cut_hi h0 (by omega), ← cut_lo (z := p + 1) (by omega) (by omega)] at e
  have hl1 := cut_len (xs := papD ts m) (lo := none) (hi := some p)
  have hl2 := cut_len (xs := papD ts m) (lo := some (p + 1)) (hi := none)
  have hen : ((papD ts m).set p.toNat (.int (x + 1))).all entry = true := List.all_eq_true.mpr fun d hd => by
    rcases List.mem_or_eq_of_mem_set hd with z | z
    · exact entry_nn (papD_entry hm.1 ok) d z
    · rw [z]; exact decide_eq_true (by omega)
  have hw := bw_more hm.1 ok h0 h1 hx P2 (.int 0)
  walk_at "w"
  refine ⟨_, ea, ?_⟩
  walk_at "w"
  refine ⟨Nat.le_of_ble_eq_true rfl, ?_⟩
  walk_at "w"
  refine ⟨Nat.le_of_lt (lt_line (by show _ + 1 ≤ 2000; omega)), ?_⟩
  walk_at "w"
  refine ⟨Nat.le_of_lt (lt_line (by rw [List.length_append]; show _ + 1 + _ ≤ 2000; omega)), ?_⟩
  walk_at "w"
  rw [e]
  refine ⟨m, ts, .int 0, _, (by rw [hw]; rfl), hm, ok, hl, rfl, hen, by rw [List.length_set]; omega, ?_⟩
  walk_at "w"
  walk_at "e"
  exact k
theorem p_law_more_is_none (ds : List D) (R : SV → Prop) (F : Exn → Prop) (h : s_law_more_is_none ds R F) : rd_law_more_is_none (endsF [.t, .s, .s, .s] ds R F) (slots0 [.t, .s, .s, .s] ds ++ List.replicate 4 .no) := by
  obtain ⟨a, m, ts, rfl, hm, ok, hl, k⟩ := h
  have P := papD_pap (ts := ts) hm.1
  walk_at "w"
  refine ⟨by omega, ?_⟩
  walk_at "w"
  refine ⟨fun j acc ma ρ => (∀ d ∈ acc, ∃ p x, d = .int p ∧ 0 ≤ p ∧ p ≤ m ∧ dist ts p = some x) ∧ (0 < j → acc ≠ []) ∧ acc.length ≤ j ∧ ma = true ∧ ρ = [.sto a, .fr true (.int m), .fr true (.lst (encS ts)), .fr true (.lst (papD ts m)), .no, .no, .no, .no], ⟨(fun d hd => by cases hd), (fun z => by cases z), Nat.le_refl _, rfl, rfl⟩, ?_, ?_⟩
  · rintro j x acc ma ρ hx ⟨h1, h2, h3, rfl, rfl⟩
    obtain ⟨hj, rfl⟩ := ints_get hx
    obtain ⟨ea, _⟩ := pap_at P (p := 0 + (j : Nat)) (by omega) (by omega)
    walk_at "w"
    refine ⟨_, ea, ?_⟩
    cases q : dist ts (0 + (j : Nat)) with
    | none =>
      walk_at "w"
      refine ⟨rfl, ?_⟩
      walk_at "w"
      refine ifB.F rfl ⟨h1, fun _ => ?_, by omega, rfl, rfl⟩
      by_cases hj0 : j = 0
      · subst hj0
        have : (some 0 : Option Int) = none := q
        cases this
      · exact h2 (by omega)
    | some x =>
      walk_at "w"
      refine ⟨rfl, ?_⟩
      walk_at "w"
      refine ifB.T rfl ?_
      walk_at "w"
      refine ⟨lt_line (by omega), ?_⟩
      refine ⟨fun d hd => ?_, fun _ => by simp, by rw [List.length_append]; show acc.length + 1 ≤ j + 1; omega, rfl, rfl⟩
      rcases List.mem_append.mp hd with hd | hd
      · exact h1 d hd
      · rw [List.mem_singleton.mp hd]
        exact ⟨_, x, rfl, by omega, by omega, q⟩
  · rintro acc ma ρ ⟨h1, h2, h3, rfl, rfl⟩
    rw [ints_len] at h2 h3
    walk_at "w"
    refine ⟨_, _, rfl, ?_⟩
    refine ⟨Nat.le_of_lt (lt_line (by omega)), fun z => absurd z (h2 (by omega)), fun d hd => ?_⟩
    obtain ⟨p, x, rfl, p0, p1, hx⟩ := h1 d hd
    walk_at "w"
    exact more_2 hm ok hl p0 p1 hx k

theorem last_at {es : List Int} (h : es ≠ []) : L2.atI (es.map D.int) (-1) = some (.int (arr 0 es)) := by
  obtain ⟨l, e, rfl⟩ : ∃ l e, es = l ++ [e] := ⟨es.dropLast, es.getLast h, (List.dropLast_concat_getLast h).symm⟩
  rw [arr_snoc, List.map_append]
  have e2 : (l.map D.int ++ [e].map D.int).length = l.length + 1 := by rw [List.length_append, List.length_map]; rfl
  have ix : L2.ixN (l.length + 1) (-1) = some l.length := by
    unfold L2.ixN
    rw [if_neg (by omega)]
    first | (rw [if_pos (by omega)]; congr 1; omega) | (simp; omega)
  unfold L2.atI
  rw [e2, ix]
  show (l.map D.int ++ [e].map D.int)[l.length]? = _
  rw [List.getElem?_append_right (by rw [List.length_map]; exact Nat.le_refl _), List.length_map, Nat.sub_self]
  rfl
theorem less_3 {a : Addr} {m : Int} {ts : List Stp} {es : List Int} {H : D} {K : PEnds} {s4 s7 : SV} (hm : 0 ≤ m ∧ m ≤ 60)
    (hn : arr 0 es ≠ m → H = .non) (hy : arr 0 es = m → ∃ x y, H = .int y ∧ dist ts m = some x ∧ x ≤ y)
    (hK : ∀ s7, K.nx [.sto a, .fr true (.int m), .fr true (.lst (encS ts)), .fr true (.lst (papD ts m)), s4, .ol true (es.map .int), .fr true H, s7]) :
    rt_law_no_less_3 K [.sto a, .fr true (.int m), .fr true (.lst (encS ts)), .fr true (.lst (papD ts m)), s4, .ol true (es.map .int), .fr true H, s7] := by
  have P := papD_pap (ts := ts) hm.1
  have ea := (pap_at P hm.1 (Int.le_refl _)).1
  have fin : rt_law_no_less_2 K [.sto a, .fr true (.int m), .fr true (.lst (encS ts)), .fr true (.lst (papD ts m)), s4, .ol true (es.map .int), .fr true H, .fr true (.bl (decide (arr 0 es = m)))] := by
    by_cases e : arr 0 es = m
    · obtain ⟨x, y, rfl, hx, hl⟩ := hy e
      rw [hx] at ea
      rw [decide_eq_true e]
      walk_at "w"
      refine ifB.F rfl ?_
      walk_at "w"
      refine ifB.F rfl ?_
      walk_at "w"
      refine ifB.T rfl ?_
      walk_at "w"
      refine ⟨_, rfl, ⟨1, rfl⟩, ?_⟩
      walk_at "w"
      refine ifB.F rfl ?_
      walk_at "w"
      refine ⟨_, ea, ?_⟩
      walk_at "w"
      refine ⟨rfl, ?_⟩
      walk_at "w"
      refine ifB.F rfl ?_
      walk_at "w"
      refine ⟨_, ea, ?_⟩
      walk_at "w"
      refine ifB.F (decide_eq_false (by omega)) ?_
      exact hK _
    · rw [hn e, decide_eq_false e]
      walk_at "w"
      refine ifB.T rfl ?_
      walk_at "w"
      refine ⟨rfl, ?_⟩
      walk_at "w"
      refine ifB.F rfl ?_
      walk_at "w"
      refine ifB.F rfl ?_
      have := hn e
      subst this
      walk_at "w"
      refine ifB.F rfl ?_
      exact hK _
  walk_at "w"
  refine ⟨Nat.zero_le _, ?_⟩
  walk_at "w"
  refine ⟨nil_ok es, ?_⟩
  cases es with
  | nil =>
    refine ifB.T rfl ?_
    walk_at "w"
    refine ⟨⟨rfl, rfl, Nat.le_of_ble_eq_true rfl, Nat.le_of_ble_eq_true rfl⟩, ?_⟩
    have e0 : arr 0 [] = 0 := rfl
    rw [e0] at fin
    by_cases e : m = 0
    · refine ifB.T (by simp [D.eqv, e]) ?_
      rw [decide_eq_true e.symm] at fin
      walk_at "w"
      exact fin
    · refine ifB.F (by simp [D.eqv, e]) ?_
      rw [decide_eq_false (fun z => e z.symm)] at fin
      walk_at "w"
      refine ⟨Nat.zero_le _, ?_⟩
      walk_at "w"
      refine ⟨nil_ok [], ?_⟩
      refine ifB.F rfl ?_
      walk_at "w"
      exact fin
  | cons x es =>
    refine ifB.F rfl ?_
    walk_at "w"
    refine ifB.F rfl ?_
    walk_at "w"
    refine ⟨Nat.zero_le _, ?_⟩
    walk_at "w"
    refine ⟨nil_ok (x :: es), ?_⟩
    refine ifB.T rfl ?_
    walk_at "w"
    refine ⟨_, last_at (List.cons_ne_nil _ _), ?_⟩
    walk_at "w"
    refine ⟨⟨rfl, rfl, Nat.le_of_ble_eq_true rfl, Nat.le_of_ble_eq_true rfl⟩, ?_⟩
    have ee : (false ^^ D.eqv (.int (arr 0 (x :: es))) (.int m)) = decide (arr 0 (x :: es) = m) := by
      simp [D.eqv]
      by_cases e : arr 0 (x :: es) = m <;> simp [e]
    rw [ee]
    walk_at "w"
    exact fin
theorem p_law_no_less (ds : List D) (R : SV → Prop) (F : Exn → Prop) (h : s_law_no_less ds R F) : rd_law_no_less (endsF [.t, .s, .s, .s] ds R F) (slots0 [.t, .s, .s, .s] ds ++ List.replicate 4 .no) := by
  obtain ⟨a, m, ts, rfl, hm, ok, hl, k⟩ := h
  walk_at "w"
  refine ⟨⟨by decide, by decide⟩, ?_⟩
  walk_at "w"
  refine ⟨fun i ρ => ∃ s4 s5 s6 s7, ρ = [.sto a, .fr true (.int m), .fr true (.lst (encS ts)), .fr true (.lst (papD ts m)), s4, s5, s6, s7], ⟨_, _, _, _, rfl⟩, ?_, ?_⟩
  · rintro i x ρ hx ⟨s4, s5, s6, s7, rfl⟩
    walk_at "w"
    refine ⟨a, m, ts, rfl, hm, ok, hl, fun es w he => ?_⟩
    walk_at "w"
    refine ⟨m, ts, es, rfl, hm, ok, hl, w, he, ?_⟩
    have wg := (way_ge ok es 0 0 (Int.le_refl _) w rfl).1
    by_cases e : arr 0 es = m
    · rw [if_pos e]
      intro x y hx hl2
      walk_at "w"
      exact less_3 hm (fun z => absurd e z) (fun _ => ⟨x, y, rfl, hx, hl2⟩) fun s7 => ⟨_, _, _, _, rfl⟩
    · rw [if_neg e]
      walk_at "w"
      exact less_3 hm (fun _ => rfl) (fun z => absurd z e) fun s7 => ⟨_, _, _, _, rfl⟩
  · rintro ρ ⟨s4, s5, s6, s7, rfl⟩
    walk_at "w"
    walk_at "e"
    exact k

theorem log_small : ∀ n : Nat, n ≤ 60 → n.log2 < 1920 := by decide +kernel
theorem chk_many {a0 a1 : D} (h : manyOk a0 = false) : chk a0 a1 = some "many" := by
  unfold chk
  rw [if_neg (by rw [h]; decide)]
  rfl
theorem chk_steps {m : Int} {a1 : D} (hm : 0 ≤ m ∧ m ≤ 60) (h : stepsOk (.int m) a1 = false) : chk (.int m) a1 = some "steps" := by
  have h1 : manyOk (.int m) = true := by
    show (decide (0 ≤ m) && decide (m ≤ 60)) = true
    rw [decide_eq_true hm.1, decide_eq_true hm.2]; rfl
  unfold chk
  rw [if_pos h1, if_neg (by rw [h]; decide)]
  rfl
theorem refused_3 {a : Addr} {m : Int} {ss : List D} {w : D} {R : SV → Prop} {F : Exn → Prop} {s3 s4 s5 s7 : SV} (hm : 0 ≤ m ∧ m ≤ 60) (hw : stepsOk (.int m) w = false) (hp : Pl w) (k : R (.fr true (.bl true))) :
    rt_law_refused_3 (endsF [.t, .s, .s] [.ref a, .int m, .lst ss] R F) [.sto a, .fr true (.int m), .fr true (.lst ss), s3, s4, s5, .fr true w, s7] := by
  walk_at "w"
  refine ⟨_, _, rfl, by decide +kernel, fun b => ?_⟩
  walk_at "w"
  refine ifB.mk (fun hb => ?_) (fun hb => ?_)
  · walk_at "w"
    refine ⟨"steps", fun k x hx => ?_, ?_⟩
    · walk_at "w"
      refine ⟨_, _, rfl, ⟨1, rfl⟩, hp, ?_⟩
      rw [chk_steps hm hw]
      exact hx
    · walk_at "w"
      refine ⟨⟨rfl, rfl⟩, ?_⟩
      walk_at "w"
      refine ⟨by show 2 ≤ line; decide, ?_⟩
      walk_at "w"
      refine ⟨_, rfl, rfl, ?_⟩
      walk_at "w"
      walk_at "e"
      exact k
  · walk_at "w"
    refine ⟨Nat.le_of_ble_eq_true rfl, ?_⟩
    walk_at "w"
    refine ⟨⟨by decide, .inl ⟨by decide, by decide⟩⟩, ?_⟩
    walk_at "w"
    refine ⟨Nat.le_of_ble_eq_true rfl, ?_⟩
    walk_at "w"
    refine ⟨_, _, rfl, Nat.le_of_ble_eq_true rfl, (fun z => nomatch z), fun x hx => ?_⟩
    have hx2 : manyOk x = false ∧ Pl x := by
      simp only [List.mem_cons, List.not_mem_nil, or_false] at hx
      rcases hx with rfl | rfl | rfl | rfl | rfl | rfl | rfl <;> exact ⟨rfl, 3, rfl⟩
    clear hx
    walk_at "w"
    refine ⟨"many", fun k x hx => ?_, ?_⟩
    · walk_at "w"
      refine ⟨_, _, rfl, hx2.2, hp, ?_⟩
      rw [chk_many hx2.1]
      exact hx
    · walk_at "w"
      refine ⟨⟨rfl, rfl⟩, ?_⟩
      walk_at "w"
      refine ⟨by show 2 ≤ line; decide, ?_⟩
      walk_at "w"
      refine ⟨_, rfl, rfl, ?_⟩
      walk_at "w"
      walk_at "e"
      exact k
theorem refused_4 {a : Addr} {m : Int} {ss bad : List D} {R : SV → Prop} {F : Exn → Prop} (hm : 0 ≤ m ∧ m ≤ 60) (hg : goodS m ss) (hl : ss.length ≤ 1001) (k : R (.fr true (.bl true)))
    (hbl : bad.length ≤ 2000) (hbp : ∀ d ∈ bad, pl 5 d = true) (hbs : stepsOk (.int m) (.lst bad) = false) {s3 s4 s6 s7 : SV} :
    rt_law_refused_4 (endsF [.t, .s, .s] [.ref a, .int m, .lst ss] R F) [.sto a, .fr true (.int m), .fr true (.lst ss), s3, s4, .ol true bad, s6, s7] := by
  walk_at "w"
  refine ⟨Nat.le_of_ble_eq_true rfl, ?_⟩
  walk_at "w"
  refine ⟨Nat.le_of_ble_eq_true rfl, ?_⟩
  walk_at "w"
  refine ⟨⟨by decide, by decide, by show 1 * 1001 ≤ line; decide⟩, ?_⟩
  rw [List.flatten_replicate_singleton]
  generalize hbig : List.replicate (Int.toNat 1001) _ = big
  have bl : big.length = 1001 := by rw [← hbig, List.length_replicate]; rfl
  have bs : stepsOk (.int m) (.lst big) = false := by
    show (decide (big.length ≤ 1000) && _) = false
    rw [bl]
    rfl
  have bp : pl 12 (.lst big) = true := (pl_row (n := 11) (by omega) fun d hd => by
    rw [← hbig] at hd
    rw [List.eq_of_mem_replicate hd]
    rfl).1
  have bp2 : pl 12 (.lst bad) = true := (pl_row (n := 11) hbl fun d hd => pl_up (by omega) (hbp d hd)).1
  have sp : pl 12 (.tup ss) = true := (pl_row (n := 11) (by omega) fun d hd => pl_good (n := 9) (hg d hd)).2
  clear hbig
  walk_at "w"
  refine ⟨Nat.le_of_ble_eq_true rfl, ?_⟩
  walk_at "w"
  refine ⟨_, _, rfl, Nat.le_of_ble_eq_true rfl, (fun z => nomatch z), fun x hx => ?_⟩
  have hx2 : stepsOk (.int m) x = false ∧ Pl x := by
    simp only [List.mem_cons, List.not_mem_nil, or_false] at hx
    rcases hx with rfl | rfl | rfl | rfl | rfl | rfl | rfl | rfl
    · exact ⟨hbs, _, bp2⟩
    · exact ⟨hbs, _, bp2⟩
    · exact ⟨hbs, _, bp2⟩
    · exact ⟨rfl, _, sp⟩
    · exact ⟨rfl, 3, rfl⟩
    · exact ⟨rfl, 3, rfl⟩
    · exact ⟨rfl, 3, rfl⟩
    · exact ⟨bs, _, bp⟩
  clear hx
  walk_at "w"
  exact refused_3 hm hx2.1 hx2.2 k
set_option maxHeartbeats 4000000 in
theorem p_law_refused (ds : List D) (R : SV → Prop) (F : Exn → Prop) (h : s_law_refused ds R F) : rd_law_refused (endsF [.t, .s, .s] ds R F) (slots0 [.t, .s, .s] ds ++ List.replicate 5 .no) := by
  obtain ⟨a, m, ss, rfl, hm, hg, hl, k⟩ := h
  walk_at "go"
  walk_at "w"
  refine ⟨log_small _ (by omega), ?_⟩
  walk_at "go"
  rename_i t t0 t1
  refine ⟨fun e => (nomatch e), fun x hx => ?_⟩
  have hx2 : goodStep m x = false ∧ pl 5 x = true := by
    simp only [List.cons_append, List.nil_append, List.mem_cons, List.not_mem_nil, or_false] at hx
    rcases hx with rfl | rfl | rfl | rfl | rfl | rfl | rfl | rfl | rfl | rfl | rfl | rfl | rfl | rfl <;> refine ⟨?_, rfl⟩ <;> first | rfl | (simp [goodStep]; done) | (simp [goodStep]; omega)
  clear hx
  have c1 := @cut_len ss none (some t)
  have c2 := @cut_len ss (some t) none
  walk_at "w"
  refine ⟨by show 1 ≤ line; decide, ?_⟩
  walk_at "w"
  refine ⟨Nat.le_of_lt (lt_line (by show _ + 1 ≤ 2000; omega)), ?_⟩
  walk_at "w"
  refine ⟨Nat.le_of_lt (lt_line (by rw [List.length_append]; show _ + 1 + _ ≤ 2000; omega)), ?_⟩
  generalize hbe : cutD ss none (some t) ++ [x] ++ cutD ss (some t) none = bad
  have hbl : bad.length ≤ 2000 := by rw [← hbe, List.length_append, List.length_append]; show _ + 1 + _ ≤ 2000; omega
  have hbp : ∀ d ∈ bad, pl 5 d = true := fun d hd => by
    rw [← hbe] at hd
    rcases List.mem_append.mp hd with z | z
    · rcases List.mem_append.mp z with z | z
      · exact pl_good (n := 3) (hg _ (cut_mem z))
      · rw [List.mem_singleton.mp z]; exact hx2.2
    · exact pl_good (n := 3) (hg _ (cut_mem z))
  have hbs : stepsOk (.int m) (.lst bad) = false := by
    show (decide (bad.length ≤ 1000) && bad.all (goodStep m)) = false
    have : bad.all (goodStep m) = false := by
      rw [List.all_eq_false]
      exact ⟨x, by rw [← hbe]; exact List.mem_append_left _ (List.mem_append_right _ List.mem_cons_self), by rw [hx2.1]; decide⟩
    rw [this, Bool.and_false]
  walk_at "w"
  exact refused_4 hm hg (by omega) k hbl hbp hbs

theorem asked_5 {a : Addr} {m : Int} {ts : List Stp} {L : List Addr} {R : SV → Prop} {F : Exn → Prop} (hm : 0 ≤ m ∧ m ≤ 60) (ok : okT m ts) (hl : ts.length ≤ 1000) (k : R (.fr true (.bl true))) :
    rt_law_asked_5 (endsF [.t, .s, .s, .s] [.ref a, .int m, .lst (encS ts), .lst (encS ts)] R F) [.sto a, .fr true (.int m), .fr true (.lst (encS ts)), .fr true (.lst (encS ts)), .ol true (papD ts m), .ot L (.lst (papD ts m))] := by
  have hlen := papD_len (ts := ts) hm.1
  have pp : pl 20 (.lst (papD ts m)) = true := (pl_row (n := 19) (by omega) fun d hd => pl_entry (entry_nn (papD_entry hm.1 ok) d hd)).1
  have ps : pl 20 (.lst (encS ts)) = true := pl_goodS (n := 17) (ts_good ok) (by rw [enc_len]; omega)
  walk_at "w"
  refine ⟨_, rfl, pp, ?_⟩
  walk_at "w"
  refine ⟨⟨rfl, rfl⟩, ?_⟩
  walk_at "w"
  refine ifB.F rfl ?_
  walk_at "w"
  refine ⟨_, rfl, ps, ?_⟩
  walk_at "w"
  refine ⟨⟨rfl, rfl⟩, ?_⟩
  walk_at "w"
  refine ifB.F rfl ?_
  walk_at "w"
  refine ⟨a, m, ts, rfl, hm, ok, hl, ?_⟩
  walk_at "w"
  refine ifB.F rfl ?_
  walk_at "w"
  refine ⟨a, m, ts, rfl, hm, ok, hl, ?_⟩
  walk_at "w"
  refine ifB.F rfl ?_
  walk_at "w"
  refine ⟨a, m, ts, rfl, hm, ok, hl, ?_⟩
  walk_at "w"
  refine ifB.F rfl ?_
  walk_at "w"
  have wk : wkD 8 (.lst (papD ts m)) = true := by
    show (decide ((papD ts m).length < line) && (papD ts m).all (wkD 7)) = true
    rw [decide_eq_true (lt_line (by omega)), Bool.true_and]
    refine List.all_eq_true.mpr fun d hd => ?_
    obtain ⟨o, _, rfl⟩ := List.mem_map.mp hd
    cases o <;> rfl
  refine ⟨_, rfl, wk, ?_⟩
  walk_at "w"
  refine ⟨⟨rfl, rfl⟩, ?_⟩
  walk_at "w"
  have hg := ts_good ok
  refine ⟨_, _, rfl, ⟨1, rfl⟩, ⟨3, pl_goodS hg (by rw [enc_len]; omega)⟩, ?_⟩
  rw [chk_none hm hg (by rw [enc_len]; exact hl)]
  refine ⟨m, ts, rfl, rfl, hm, ok, hl, fun L => ?_⟩
  walk_at "w"
  refine ⟨_, rfl, pp, ?_⟩
  walk_at "w"
  refine ⟨⟨rfl, rfl⟩, ?_⟩
  walk_at "w"
  walk_at "e"
  exact k
theorem p_law_asked (ds : List D) (R : SV → Prop) (F : Exn → Prop) (h : s_law_asked ds R F) : rd_law_asked (endsF [.t, .s, .s, .s] ds R F) (slots0 [.t, .s, .s, .s] ds ++ List.replicate 2 .no) := by
  obtain ⟨a, m, ts, rfl, hm, ok, hl, k⟩ := h
  walk_at "w"
  refine ⟨m, ts, m, rfl, hm, ok, Int.le_refl _, hl, ?_⟩
  walk_at "w"
  have hg := ts_good ok
  refine ⟨_, _, rfl, ⟨1, rfl⟩, ⟨3, pl_goodS hg (by rw [enc_len]; omega)⟩, ?_⟩
  rw [chk_none hm hg (by rw [enc_len]; exact hl)]
  refine ⟨m, ts, rfl, rfl, hm, ok, hl, fun L => ?_⟩
  walk_at "w"
  exact asked_5 hm ok hl k

/-! ### the law -/
def IsL (S : SV) (ss : List D) : Prop := S = .fr true (.lst ss) ∨ S = .ol true ss
theorem papD_take {m p : Int} {ts : List Stp} (ok : okT m ts) (h0 : 0 ≤ p) (h1 : p ≤ m) : cutD (papD ts m) none (some (p + 1)) = papD (ts.filter fun t => decide (t.b ≤ p)) p := by
  have P := papD_pap (ts := ts) (m := m) (by omega)
  have hl := P.1
  rw [cut_hi (by omega) (by omega)]
  refine pap_is h0 (f := dist ts) ⟨by rw [List.length_take]; omega, fun q q0 q1 => ?_⟩ fun q q0 q1 => (dist_part ok q0 q1).symm
  have e := P.2 q q0 (by omega)
  rw [atI_nn q0 (by omega)] at e
  rw [atI_nn q0 (by rw [List.length_take]; omega), List.getElem?_take, if_pos (by omega)]
  exact e
theorem okT_part {m p : Int} {ts : List Stp} (ok : okT m ts) : okT p (ts.filter fun t => decide (t.b ≤ p)) := fun t ht => by
  obtain ⟨h1, h2⟩ := List.mem_filter.mp ht
  have o := ok t h1
  exact ⟨o.1, o.2.1, of_decide_eq_true h2, o.2.2.2⟩
theorem filter_snoc {α : Type} {f : α → Bool} {l : List α} {i : Nat} {x : α} (h : l[i]? = some x) : (l.take (i + 1)).filter f = (l.take i).filter f ++ (if f x = true then [x] else []) := by
  rw [take_snoc h, List.filter_append]
  congr 1
  by_cases e : f x = true
  · rw [if_pos e, List.filter_cons_of_pos e, List.filter_nil]
  · rw [if_neg e, List.filter_cons_of_neg e, List.filter_nil]
section
variable {ns : List Int} {a : Addr} {m : Int} {R : SV → Prop} {F : Exn → Prop} (hm : 0 ≤ m ∧ m ≤ 60) (k : R (.fr true (.bl true)))
include hm k
theorem law_9 {ss : List D} {S s0 s3 s5 s6 s7 s8 s9 : SV} (iS : IsL S ss) (hg : goodS m ss) (hl : ss.length ≤ 960) :
    rt_law_9 (endsF [.s] [.scr ns] R F) [s0, .sto a, .fr true (.int m), s3, S, s5, s6, s7, s8, s9] := by
  rcases iS with rfl | rfl
  all_goals
    walk_at "w"
    refine ⟨_, _, _, rfl, hm, hg, hl, ?_⟩
    walk_at "w"
    walk_at "e"
    exact k
theorem law_2 {ts : List Stp} {p : Int} {s0 s3 s5 s6 s7 : SV} (ok : okT m ts) (hl : ts.length ≤ 960) (p0 : 0 ≤ p) (p1 : p ≤ m) :
    rt_law_2 { nx := rt_law_9 (endsF [.s] [.scr ns] R F), rt := (endsF [.s] [.scr ns] R F).rt, bk := (endsF [.s] [.scr ns] R F).bk, ct := (endsF [.s] [.scr ns] R F).ct, ex := (endsF [.s] [.scr ns] R F).ex } [s0, .sto a, .fr true (.int m), s3, .fr true (.lst (encS ts)), s5, s6, s7, .fr true (.int p), .ol true (encS (ts.filter fun t => decide (t.b ≤ p)))] := by
  have okp := okT_part (p := p) ok
  have lp : (ts.filter fun t => decide (t.b ≤ p)).length ≤ 1000 := Nat.le_trans (List.length_filter_le _ _) (by omega)
  have hg := ts_good okp
  have pe := papD_take ok p0 p1
  generalize (ts.filter fun t => decide (t.b ≤ p)) = us at *
  have pp : pl 20 (.lst (papD us p)) = true := (pl_row (n := 19) (by have := papD_len (ts := us) p0; omega) fun d hd => pl_entry (entry_nn (papD_entry p0 okp) d hd)).1
  have pm : 0 ≤ p ∧ p ≤ 60 := ⟨p0, by omega⟩
  walk_at "w"
  refine ⟨_, _, rfl, ⟨1, rfl⟩, ⟨3, pl_goodS hg (by rw [enc_len]; omega)⟩, ?_⟩
  rw [chk_none pm hg (by rw [enc_len]; exact lp)]
  refine ⟨p, us, rfl, rfl, pm, okp, lp, fun L => ?_⟩
  walk_at "w"
  refine ⟨m, ts, m, rfl, hm, ok, Int.le_refl _, by omega, ?_⟩
  walk_at "w"
  refine ⟨_, by rw [pe]; rfl, pp, ?_⟩
  walk_at "w"
  refine ifB.F rfl ?_
  walk_at "w"
  refine ⟨p, us, p, rfl, pm, okp, Int.le_refl _, lp, ?_⟩
  walk_at "w"
  refine ⟨a, p, us, rfl, pm, okp, lp, ?_⟩
  walk_at "w"
  refine ifB.F rfl ?_
  exact law_9 hm k (.inl rfl) (ts_good ok) (by rw [enc_len]; exact hl)
theorem law_4 {ts : List Stp} {S s0 s3 s5 s6 s7 s8 s9 : SV} (iS : IsL S (encS ts)) (ok : okT m ts) (hl : ts.length ≤ 960) (h1 : 1 ≤ m) :
    rt_law_4 { nx := rt_law_9 (endsF [.s] [.scr ns] R F), rt := (endsF [.s] [.scr ns] R F).rt, bk := (endsF [.s] [.scr ns] R F).bk, ct := (endsF [.s] [.scr ns] R F).ct, ex := (endsF [.s] [.scr ns] R F).ex } [s0, .sto a, .fr true (.int m), s3, S, s5, s6, s7, s8, s9] := by
  rcases iS with rfl | rfl
  all_goals
    walk_at "w"
    refine ⟨_, _, rfl, Int.lt_of_le_of_lt hm.2 (by decide +kernel), fun p p0 p1 => ?_⟩
    walk_at "w"
    refine ⟨fun j acc ma ρ => acc = encS ((ts.take j).filter fun t => decide (t.b ≤ p)) ∧ ma = true ∧ ρ = [s0, .sto a, .fr true (.int m), s3, .fr true (.lst (encS ts)), s5, s6, .no, .fr true (.int p), s9], ⟨rfl, rfl, rfl⟩, ?_, ?_⟩
    · rintro j x acc ma ρ hx ⟨rfl, rfl, rfl⟩
      obtain ⟨t, ht, rfl⟩ := enc_at hx
      have tk := filter_snoc (f := fun t : Stp => decide (t.b ≤ p)) ht
      have hlen : (encS ((ts.take j).filter fun t => decide (t.b ≤ p))).length < line := lt_line (by rw [enc_len]; exact Nat.le_trans (List.length_filter_le _ _) (Nat.le_trans (List.length_take_le' _ _) (by omega)))
      unfold Stp.enc
      walk_at "w"
      refine ⟨_, rfl, ?_⟩
      walk_at "w"
      refine ifB.mk (fun hb => ?_) (fun hb => ?_)
      · walk_at "w"
        refine ⟨hlen, ?_⟩
        refine ⟨?_, rfl, rfl⟩
        rw [tk, if_pos hb]
        unfold encS
        rw [List.map_append]
        rfl
      · have hb : decide (t.b ≤ p) = false := hb
        refine ⟨?_, rfl, rfl⟩
        rw [tk, if_neg (by rw [hb]; decide), List.append_nil]
    · rintro acc ma ρ ⟨rfl, rfl, rfl⟩
      rw [enc_len, List.take_length]
      exact law_2 hm k ok hl p0 (by omega)
theorem law_8 {ts : List Stp} {q : Int} {S s0 s3 s7 s8 s9 : SV} (iS : IsL S (encS ts)) (ok : okT m ts) (hl : ts.length ≤ 950) (q0 : 0 ≤ q) (q1 : q < m) :
    rt_law_8 { nx := rt_law_9 (endsF [.s] [.scr ns] R F), rt := (endsF [.s] [.scr ns] R F).rt, bk := (endsF [.s] [.scr ns] R F).bk, ct := (endsF [.s] [.scr ns] R F).ct, ex := (endsF [.s] [.scr ns] R F).ex } [s0, .sto a, .fr true (.int m), s3, S, .ol true (encS ts), .fr true (.int q), s7, s8, s9] := by
  rcases iS with rfl | rfl
  all_goals
    walk_at "w"
    refine ⟨trivial, ?_⟩
    walk_at "w"
    refine ⟨_, _, rfl, Int.lt_of_le_of_lt (by omega : m - q ≤ 60) (by decide +kernel), fun r r0 r1 => ?_⟩
    have r1 : r < m - q ∨ r = 0 := r1
    walk_at "w"
    refine ⟨_, _, rfl, by decide +kernel, fun h h0 h1 => ?_⟩
    walk_at "w"
    refine ⟨Nat.le_of_ble_eq_true rfl, ?_⟩
    walk_at "w"
    refine ⟨lt_line (by rw [enc_len]; omega), ?_⟩
    walk_at "w"
    refine ⟨Nat.le_of_ble_eq_true rfl, ?_⟩
    walk_at "w"
    refine ⟨Nat.le_of_lt (lt_line (by rw [enc_len]; show _ + 1 ≤ 2000; omega)), ?_⟩
    have ok2 : okT m (ts ++ [⟨q, q + 1 + r, h⟩]) := fun t ht => by
      rcases List.mem_append.mp ht with ht | ht
      · exact ok t ht
      · rw [List.mem_singleton.mp ht]
        exact ⟨q0, by show q < q + 1 + r; omega, by show q + 1 + r ≤ m; omega, h0⟩
    have e : encS ts ++ [.tup [.int q, .int (q + 1 + r), .int h]] = encS (ts ++ [⟨q, q + 1 + r, h⟩]) := by
      unfold encS
      rw [List.map_append]
      rfl
    have hl2 : (ts ++ [(⟨q, q + 1 + r, h⟩ : Stp)]).length ≤ 960 := by rw [List.length_append]; show _ + 1 ≤ 960; omega
    rw [e]
    generalize (ts ++ [(⟨q, q + 1 + r, h⟩ : Stp)]) = us at *
    walk_at "w"
    refine ⟨a, m, us, rfl, hm, ok2, by omega, ?_⟩
    walk_at "w"
    refine ⟨⟨rfl, rfl⟩, ?_⟩
    walk_at "w"
    refine ifB.F rfl ?_
    exact law_4 hm k (.inr rfl) ok2 hl2 (by omega)
theorem law_12 {ss : List D} {S s0 s3 s5 s6 s7 s8 s9 : SV} (iS : IsL S ss) (hg : goodS m ss) (hl : ss.length ≤ 950) :
    rt_law_12 (endsF [.s] [.scr ns] R F) [s0, .sto a, .fr true (.int m), s3, S, s5, s6, s7, s8, s9] := by
  obtain ⟨ts, rfl, ok⟩ := good_ts hg
  rw [enc_len] at hl
  rcases iS with rfl | rfl
  all_goals
    walk_at "w"
    refine ⟨a, m, ts, rfl, hm, ok, by omega, ?_⟩
    walk_at "w"
    refine ⟨⟨rfl, rfl⟩, ?_⟩
    walk_at "w"
    refine ifB.F rfl ?_
    walk_at "w"
    refine ifB.mk (fun hb => ?_) (fun hb => ?_)
    · have h1 := of_decide_eq_true hb
      walk_at "w"
      refine ⟨_, _, rfl, Int.lt_of_le_of_lt hm.2 (by decide +kernel), fun q q0 q1 => ?_⟩
      walk_at "w"
      first | exact law_8 hm k (.inl rfl) ok hl q0 (by omega) | exact law_8 hm k (.inr rfl) ok hl q0 (by omega)
    · first | exact law_9 hm k (.inl rfl) hg (by rw [enc_len]; omega) | exact law_9 hm k (.inr rfl) hg (by rw [enc_len]; omega)
end

section
variable {ns : List Int} {a : Addr} {m : Int} {R : SV → Prop} {F : Exn → Prop} (hm : 0 ≤ m ∧ m ≤ 60) (k : R (.fr true (.bl true)))
include hm k
theorem law_13 {ss : List D} {w : Bool} {s0 s5 s6 s7 s8 s9 : SV} (hg : goodS m ss) (hl : ss.length ≤ 62) :
    rt_law_13 (endsF [.s] [.scr ns] R F) [s0, .sto a, .fr true (.int m), .fr true (.bl w), .ol true ss, s5, s6, s7, s8, s9] := by
  cases w with
  | true =>
    walk_at "w"
    refine ifB.T rfl ?_
    walk_at "w"
    refine ⟨_, _, rfl, hm, fun xs hx hgx => ?_⟩
    have hal : (ss ++ xs).length ≤ 950 := by rw [List.length_append]; omega
    walk_at "w"
    refine ⟨Nat.le_of_lt (lt_line (by rw [List.length_append] at hal; omega)), ?_⟩
    walk_at "w"
    refine ⟨_, _, rfl, by omega, fun ys h1 h2 => ?_⟩
    have hg2 : goodS m ys := fun d hd => goodS_cat hg hgx d (h1 d hd)
    exact law_12 hm k (.inr rfl) hg2 (by omega)
  | false =>
    walk_at "w"
    refine ifB.F rfl ?_
    exact law_12 hm k (.inr rfl) hg (by omega)
theorem law_14 {w : Bool} {s0 s4 s5 s6 s7 s8 s9 : SV} :
    rt_law_14 (endsF [.s] [.scr ns] R F) [s0, .sto a, .fr true (.int m), .fr true (.bl w), s4, s5, s6, s7, s8, s9] := by
  walk_at "w"
  refine ⟨_, _, rfl, hm, fun xs hx hgx => ?_⟩
  walk_at "w"
  refine lc_all (P := fun d => goodStep m d = true) (fun j y acc hy h1 h2 Iv hI => ?_) fun acc h1 h2 => ?_
  · have hjl := (List.getElem?_eq_some_iff.mp hy).1
    obtain ⟨b, c, h, rfl, b0, bc, cm, hh0⟩ := good_of (hgx _ (List.mem_of_getElem? hy))
    walk_at "w"
    refine ifB.T rfl ?_
    walk_at "w"
    refine ⟨_, rfl, ?_⟩
    walk_at "w"
    refine ⟨_, rfl, ?_⟩
    walk_at "w"
    refine ⟨_, rfl, ?_⟩
    walk_at "w"
    refine ⟨⟨by decide, .inl ⟨by decide, by decide⟩⟩, ?_⟩
    walk_at "w"
    refine ⟨(by decide : (0 : Int) < 10 ^ 58), ?_⟩
    walk_at "w"
    refine ⟨Nat.le_of_ble_eq_true rfl, ?_⟩
    exact ⟨lt_line (by omega), hI _ (good_mk b0 bc cm (Int.emod_nonneg _ (by decide)))⟩
  · exact law_13 hm k h2 (by omega)
end
theorem p_law (ds : List D) (R : SV → Prop) (F : Exn → Prop) (h : s_law ds R F) : rd_law (endsF [.s] ds R F) (slots0 [.s] ds ++ List.replicate 9 .no) := by
  obtain ⟨ns, rfl, h1, h2, k⟩ := h
  walk_at "w"
  refine ⟨_, rfl, h1, h2, fun a => ?_⟩
  walk_at "w"
  refine ⟨_, _, rfl, by decide, fun m m0 m1 => ?_⟩
  walk_at "w"
  refine ⟨_, _, rfl, by decide +kernel, fun w => ?_⟩
  cases w with
  | true =>
    walk_at "w"
    refine ifB.T rfl ?_
    walk_at "w"
    refine ⟨_, _, rfl, by decide +kernel, fun r r0 r1 => ?_⟩
    exact law_14 (m := 20 + r) (by omega) k
  | false =>
    walk_at "w"
    refine ifB.F rfl ?_
    exact law_14 (m := m) (by omega) k

end Z
namespace Z
open PySem PySem.Spec PyProof.Rows L2 Q
def top (i : Nat) : Stmt := PySem.Challenge.pw_typeformes_k28_way_paper_bars_less.main.body.getD i (.Pass ⟨0, 0, 0, 0⟩)
structure Cd (P : Program) (w : World) (K : PySem.W.Frag) (mg : Str → Option Value) (base : Heap) (T : TBs) (x : Str) (ps : List Str) (k : Nat) (ms : List Mode) (qz : QSpec) (st : Stmt) (f : Addr) (fd : FuncData) : Prop where
  ok : FnOk P w K mg base (L2.CX P w) k f fd ps (spQ K T ms qz)
  mg : mg x = some (.ref f)
  kp : PySem.W.keepIn K (.ref f) = true
  bd : Binds K fd ps []
  fn : Fun K x x st f fd
structure CdS (P : Program) (w : World) (K : PySem.W.Frag) (mg : Str → Option Value) (base : Heap) (x : Str) (ps : List Str) (k : Nat) (sp : Sp) (st : Stmt) (f : Addr) (fd : FuncData) : Prop where
  ok : FnOk P w K mg base (L2.CX P w) k f fd ps sp
  mg : mg x = some (.ref f)
  kp : PySem.W.keepIn K (.ref f) = true
  bd : Binds K fd ps []
  fn : Fun K x x st f fd
structure CdE (P : Program) (w : World) (K : PySem.W.Frag) (mg : Str → Option Value) (base : Heap) (T : TBs) (x : Str) (ps : List Str) (k : Nat) (qz : QSpecE) (st : Stmt) (f : Addr) (fd : FuncData) : Prop where
  ok : L2.FnE P w K mg base (L2.CX P w) k f fd ps (spQE K T qz)
  mg : mg x = some (.ref f)
  kp : PySem.W.keepIn K (.ref f) = true
  bd : Binds K fd ps []
  fn : Fun K x x st f fd
theorem uE {k : Nat} {A : Around} (hr : Room k A) : A.units + 64 < cLine := hr.units
theorem uS {k : Nat} {A : Around} (hr : Room k A) : A.units + 66 < cLine := by have := hr.un; omega
theorem uI {k : Nat} {A : Around} (hr : Room k A) : A.units + 65 < cLine := by have := hr.un; omega

section
variable {P : Program} {w : World} {K : PySem.W.Frag} {mg : Str → Option Value} {base : Heap} {T : TBs}

def N_plain_count : List Str := ["value"]
theorem sc_plain_count : FnScope N_plain_count ["value"] (defScope (top 10)) := by refine ⟨?_, ?_, ?_, ?_, ?_, ?_, ?_⟩ <;> first | rfl | decide
theorem fn_plain_count {f : Addr} {fd : FuncData} {qz : QSpec}
    (b_isinstance : mg "isinstance" = none)
    (b_int : mg "int" = none)
    (b_bool : mg "bool" = none)
    (F : Fun K "plain_count" "plain_count" (top 10) f fd) (pure : ∀ (ds : List D) (R : SV → Prop) (F : Exn → Prop), qz ds R F → ((rRet (rAndV (rB1 (oIsa .int) (rName 0)) (rAndV (rNotV (rB1 (oIsa .bool) (rName 0))) (rOp2 oGeG (rName 0) (rC (.int 0)))))) : RS) (endsF [.s] ds R F) (slots0 [.s] ds ++ List.replicate 0 .no)) :
    FnOk P w K mg base (L2.CX P w) 1 f fd ["value"] (spQ K T [.s] qz) := by
  refine q_fn (N := N_plain_count) F sc_plain_count rfl (fun cdv A outer s H E g hr hT => ?_) pure
  have hN : N_plain_count.Nodup := sc_plain_count.nd
  have hp := passes_of (X := cxOf (L2.CX P w) P w K mg base N_plain_count "plain_count" (defScope (top 10)) f cdv A outer s H E) rfl
  exact (qs_one (q_ret (q_and (q_isa .int rfl b_isinstance rfl b_int (qv 0)) (q_and (q_not (q_isa .bool rfl b_isinstance rfl b_bool (qv 0))) (q_one (q_cmp op_geG rd_cmpG (qv 0) qi (nomark _)))))))
def N_good_step : List Str := ["many", "step", "item"]
theorem sc_good_step : FnScope N_good_step ["many", "step"] (defScope (top 11)) := by refine ⟨?_, ?_, ?_, ?_, ?_, ?_, ?_⟩ <;> first | rfl | decide
theorem fn_good_step {f : Addr} {fd : FuncData} {qz : QSpec}
    {k_plain_count : Nat} {f_plain_count : Addr} {fd_plain_count : FuncData} {s_plain_count : QSpec} (l_plain_count : k_plain_count ≤ 1) (c_plain_count : Cd P w K mg base T "plain_count" ["value"] k_plain_count [.s] s_plain_count (top 10) f_plain_count fd_plain_count)
    (b_isinstance : mg "isinstance" = none)
    (b_tuple : mg "tuple" = none)
    (b_len : mg "len" = none)
    (b_all : mg "all" = none)
    (F : Fun K "good_step" "good_step" (top 11) f fd) (pure : ∀ (ds : List D) (R : SV → Prop) (F : Exn → Prop), qz ds R F → ((rSeq (rIf (rOr (rNot (rB (rB1 (oIsa .tuple) (rName 1)))) (rB (rOp2 (oEq true) (rB1 oLen (rName 1)) (rC (.int 3))))) (rRet (rC (.bl false))) rNext) (rSeq (rIf (rNot (rB (rB1 oAll (rLc [2] (riT (rName 1)) (gN 2) rYes (rCall [.s] s_plain_count [] (rCons (rName 2) rNil)))))) (rRet (rC (.bl false))) rNext) (rRet (rChain oLtG oLeG (rOp2 oIx (rName 1) (rC (.int 0))) (rOp2 oIx (rName 1) (rC (.int 1))) (rName 0))))) : RS) (endsF [.s, .s] ds R F) (slots0 [.s, .s] ds ++ List.replicate 1 .no)) :
    FnOk P w K mg base (L2.CX P w) 2 f fd ["many", "step"] (spQ K T [.s, .s] qz) := by
  refine q_fn (N := N_good_step) F sc_good_step rfl (fun cdv A outer s H E g hr hT => ?_) pure
  have hN : N_good_step.Nodup := sc_good_step.nd
  have hp := passes_of (X := cxOf (L2.CX P w) P w K mg base N_good_step "good_step" (defScope (top 11)) f cdv A outer s H E) rfl
  exact (qs_cons (q_if (QW.qt (qw_or (qt_not (q_val (q_isa .tuple rfl b_isinstance rfl b_tuple (qv 1)))) (qw_or1 (q_cmpT (op_neQ (have z := uE hr; z)) rd_ne (q_len rfl b_len (qv 1)) qi (nomark _))))) (qs_one (q_ret qb)) qs_nil) (qs_cons (q_if (qt_not (q_val (q_all rfl rfl b_all (q_lc rfl hN (own := [("item", 2)]) (qi_tup (qv 1)) (blkOk_by (by rfl)) (by decide) (fun _ _ _ _ _ => (qg_name (i := 2) hN rfl (by first | exact Or.inl rfl | exact Or.inr rfl) (.inr rfl))) (fun _ _ _ _ _ => qts_nil) (fun _ _ _ _ _ => (q_call (ms := [.s]) (dd := []) (fnT hT (c_plain_count.ok.mono (Nat.le_trans l_plain_count (by decide)))) hr rfl c_plain_count.mg c_plain_count.kp c_plain_count.bd .nil (fun _ _ _ => rfl) (qa_cons (qv 2) qa_nil))))))) (qs_one (q_ret qb)) qs_nil) (qs_one (q_ret (q_chain op_ltG op_leG rd_cmpG rd_cmpG (q_ix (have z := hu_of hr; z) (qv 1) qi) (q_ix (have z := hu_of hr; z) (qv 1) qi) (qv 0))))))
def N_check_graph : List Str := ["many", "steps", "step"]
theorem sc_check_graph : FnScope N_check_graph ["many", "steps"] (defScope (top 12)) := by refine ⟨?_, ?_, ?_, ?_, ?_, ?_, ?_⟩ <;> first | rfl | decide
theorem fn_check_graph {f : Addr} {fd : FuncData} {qz : QSpec}
    {k_plain_count : Nat} {f_plain_count : Addr} {fd_plain_count : FuncData} {s_plain_count : QSpec} (l_plain_count : k_plain_count ≤ 2) (c_plain_count : Cd P w K mg base T "plain_count" ["value"] k_plain_count [.s] s_plain_count (top 10) f_plain_count fd_plain_count)
    {k_good_step : Nat} {f_good_step : Addr} {fd_good_step : FuncData} {s_good_step : QSpec} (l_good_step : k_good_step ≤ 2) (c_good_step : Cd P w K mg base T "good_step" ["many", "step"] k_good_step [.s, .s] s_good_step (top 11) f_good_step fd_good_step)
    {C_BadValue : Addr} (e_BadValue : Exc1 P w K mg base "BadValue" C_BadValue "argument" 1 okV) (a_BadValue : T.ea .bv = C_BadValue)
    (b_isinstance : mg "isinstance" = none)
    (b_list : mg "list" = none)
    (b_len : mg "len" = none)
    (b_all : mg "all" = none)
    (F : Fun K "check_graph" "check_graph" (top 12) f fd) (pure : ∀ (ds : List D) (R : SV → Prop) (F : Exn → Prop), qz ds R F → ((rSeq (rIf (rOr (rNot (rB (rCall [.s] s_plain_count [] (rCons (rName 0) rNil)))) (rB (rOp2 oGtG (rName 0) (rC (.int 60))))) (rRaise1 .bv "argument" D.fits (rC (.str "many"))) rNext) (rSeq (rIf (rOr (rNot (rB (rB1 (oIsa .list) (rName 1)))) (rB (rOp2 oGtG (rB1 oLen (rName 1)) (rC (.int 1000))))) (rRaise1 .bv "argument" D.fits (rC (.str "steps"))) rNext) (rIf (rNot (rB (rB1 oAll (rLc [2] (riL (rName 1)) (gN 2) rYes (rCall [.s, .s] s_good_step [] (rCons (rName 0) (rCons (rName 2) rNil))))))) (rRaise1 .bv "argument" D.fits (rC (.str "steps"))) rNext))) : RS) (endsF [.s, .s] ds R F) (slots0 [.s, .s] ds ++ List.replicate 1 .no)) :
    FnOk P w K mg base (L2.CX P w) 3 f fd ["many", "steps"] (spQ K T [.s, .s] qz) := by
  refine q_fn (N := N_check_graph) F sc_check_graph rfl (fun cdv A outer s H E g hr hT => ?_) pure
  have hN : N_check_graph.Nodup := sc_check_graph.nd
  have hp := passes_of (X := cxOf (L2.CX P w) P w K mg base N_check_graph "check_graph" (defScope (top 12)) f cdv A outer s H E) rfl
  exact (qs_cons (q_if (QW.qt (qw_or (qt_not (q_val (q_call (ms := [.s]) (dd := []) (fnT hT (c_plain_count.ok.mono (Nat.le_trans l_plain_count (by decide)))) hr rfl c_plain_count.mg c_plain_count.kp c_plain_count.bd .nil (fun _ _ _ => rfl) (qa_cons (qv 0) qa_nil)))) (qw_or1 (q_cmpT op_gtG rd_cmpG (qv 0) qi (nomark _))))) (qs_one (q_raise1 (okD := D.fits) e_BadValue (ec := .bv) rfl (eaT hT a_BadValue) (fun r h => okV_of r h) (hr.mono (by decide)) rfl rfl qs)) qs_nil) (qs_cons (q_if (QW.qt (qw_or (qt_not (q_val (q_isa .list rfl b_isinstance rfl b_list (qv 1)))) (qw_or1 (q_cmpT op_gtG rd_cmpG (q_len rfl b_len (qv 1)) qi (nomark _))))) (qs_one (q_raise1 (okD := D.fits) e_BadValue (ec := .bv) rfl (eaT hT a_BadValue) (fun r h => okV_of r h) (hr.mono (by decide)) rfl rfl qs)) qs_nil) (qs_one (q_if (qt_not (q_val (q_all rfl rfl b_all (q_lc rfl hN (own := [("step", 2)]) (qi_list (qv 1)) (blkOk_by (by rfl)) (by decide) (fun _ _ _ _ _ => (qg_name (i := 2) hN rfl (by first | exact Or.inl rfl | exact Or.inr rfl) (.inr rfl))) (fun _ _ _ _ _ => qts_nil) (fun _ _ _ _ _ => (q_call (ms := [.s, .s]) (dd := []) (fnT hT (c_good_step.ok.mono (Nat.le_trans l_good_step (by decide)))) hr rfl c_good_step.mg c_good_step.kp c_good_step.bd .nil (fun _ _ _ => rfl) (qa_cons (qv 0) (qa_cons (qv 2) qa_nil)))))))) (qs_one (q_raise1 (okD := D.fits) e_BadValue (ec := .bv) rfl (eaT hT a_BadValue) (fun r h => okV_of r h) (hr.mono (by decide)) rfl rfl qs)) qs_nil))))
def N_least_harms : List Str := ["steps", "table", "start", "end", "harm"]
theorem sc_least_harms : FnScope N_least_harms ["steps"] (defScope (top 13)) := by refine ⟨?_, ?_, ?_, ?_, ?_, ?_, ?_⟩ <;> first | rfl | decide
theorem fn_least_harms {f : Addr} {fd : FuncData} {qz : QSpec}
    (F : Fun K "least_harms" "least_harms" (top 13) f fd) (pure : ∀ (ds : List D) (R : SV → Prop) (F : Exn → Prop), qz ds R F → ((rSeq (rSet 1 rDict0T) (rSeq (rFor (riL (rName 0)) (gT [(gN 2), (gN 3), (gN 4)]) (rIf (rOr (rB (rOp2 (oIn true) (rTup (rCons (rName 2) (rCons (rName 3) rNil))) (rName 1))) (rB (rOp2 oLtG (rName 4) (rOp2 oIx (rName 1) (rTup (rCons (rName 2) (rCons (rName 3) rNil))))))) (rSetIxT 1 (rCons (rName 2) (rCons (rName 3) rNil)) (rName 4)) rNext)) (rRet (rName 1)))) : RS) (endsF [.s] ds R F) (slots0 [.s] ds ++ List.replicate 4 .no)) :
    FnOk P w K mg base (L2.CX P w) 1 f fd ["steps"] (spQ K T [.s] qz) := by
  refine q_fn (N := N_least_harms) F sc_least_harms rfl (fun cdv A outer s H E g hr hT => ?_) pure
  have hN : N_least_harms.Nodup := sc_least_harms.nd
  have hp := passes_of (X := cxOf (L2.CX P w) P w K mg base N_least_harms "least_harms" (defScope (top 13)) f cdv A outer s H E) rfl
  exact (qs_cons (q_set (i := 1) hN rfl (by first | exact Or.inl rfl | exact Or.inr rfl) q_dict0T) (qs_cons (q_for hp rfl (qi_list (qv 0)) (qg_tup rfl (qgs_cons (qg_name (i := 2) hN rfl (by first | exact Or.inl rfl | exact Or.inr rfl)) (qgs_cons (qg_name (i := 3) hN rfl (by first | exact Or.inl rfl | exact Or.inr rfl)) (qgs_cons (qg_name (i := 4) hN rfl (by first | exact Or.inl rfl | exact Or.inr rfl)) qgs_nil)))) (qs_one (q_if (QW.qt (qw_or (q_cmpT (op_notInQ (have z := uI hr; z)) rd_notIn (q_tup (qa_cons (qv 2) (qa_cons (qv 3) qa_nil))) (qv 1) (by rfl)) (qw_or1 (q_cmpT op_ltG rd_cmpG (qv 4) (q_ix (have z := hu_of hr; z) (qv 1) (q_tup (qa_cons (qv 2) (qa_cons (qv 3) qa_nil)))) (nomark _))))) (qs_one (q_setIxT 1 (have z := hu_of hr; z) rfl (qa_cons (qv 2) (qa_cons (qv 3) qa_nil)) (qv 4))) qs_nil))) (qs_one (q_ret (qv 1)))))
def N_least_way : List Str := ["many", "steps", "best", "start", "end", "harm", "total", "length", "ends", "spare", "found", "after"]
theorem sc_least_way : FnScope N_least_way ["many", "steps"] (defScope (top 14)) := by refine ⟨?_, ?_, ?_, ?_, ?_, ?_, ?_⟩ <;> first | rfl | decide
theorem fn_least_way {f : Addr} {fd : FuncData} {qz : QSpec}
    {k_check_graph : Nat} {f_check_graph : Addr} {fd_check_graph : FuncData} {s_check_graph : QSpec} (l_check_graph : k_check_graph ≤ 3) (c_check_graph : Cd P w K mg base T "check_graph" ["many", "steps"] k_check_graph [.s, .s] s_check_graph (top 12) f_check_graph fd_check_graph)
    (b_range : mg "range" = none)
    (b_sorted : mg "sorted" = none)
    (b_list : mg "list" = none)
    (F : Fun K "least_way" "least_way" (top 14) f fd) (pure : ∀ (ds : List D) (R : SV → Prop) (F : Exn → Prop), qz ds R F → ((rSeq (rDrop (rCall [.s, .s] s_check_graph [] (rCons (rName 0) (rCons (rName 1) rNil)))) (rSeq (rSet 2 (rLc [9] (riR1 (rCons (rName 0) rNil)) (gN 9) rYes (rC .non))) (rSeq (rDrop (rMS2 2 moAppend (rCons (rTup (rCons (rC (.int 0)) (rCons (rC (.int 0)) (rCons (rLst rNil) rNil)))) rNil))) (rSeq (rFor (riL (rB1 (oSorted true) (rName 1))) (gT [(gN 3), (gN 4), (gN 5)]) (rIf (rB (rOp2 (oIs true) (rOp2 oIx (rName 2) (rName 4)) (rC .non))) (rSeq (rAsg (rOp2 oIx (rName 2) (rName 4)) (gT [(gN 11), (gN 7), (gN 8)])) (rSeq (rSet 10 (rTup (rCons (rOp2 oAdd (rName 5) (rName 11)) (rCons (rOp2 oAdd (rName 7) (rC (.int 1))) (rCons (rOp2 oAdd (rLst (rCons (rName 4) rNil)) (rName 8)) rNil))))) (rIf (rOr (rB (rOp2 (oIs false) (rOp2 oIx (rName 2) (rName 3)) (rC .non))) (rB (rOp2 oLtA (rName 10) (rOp2 oIx (rName 2) (rName 3))))) (rSetIx 2 (rName 3) (rName 10)) rNext))) rNext)) (rSeq (rIf (rB (rOp2 (oIs false) (rOp2 oIx (rName 2) (rC (.int 0))) (rC .non))) (rRet (rC .non)) rNext) (rSeq (rAsg (rOp2 oIx (rName 2) (rC (.int 0))) (gT [(gN 6), (gN 7), (gN 8)])) (rRet (rTup (rCons (rB1 oList (rName 8)) (rCons (rName 6) rNil)))))))))) : RS) (endsF [.s, .s] ds R F) (slots0 [.s, .s] ds ++ List.replicate 10 .no)) :
    FnOk P w K mg base (L2.CX P w) 4 f fd ["many", "steps"] (spQ K T [.s, .s] qz) := by
  refine q_fn (N := N_least_way) F sc_least_way rfl (fun cdv A outer s H E g hr hT => ?_) pure
  have hN : N_least_way.Nodup := sc_least_way.nd
  have hp := passes_of (X := cxOf (L2.CX P w) P w K mg base N_least_way "least_way" (defScope (top 14)) f cdv A outer s H E) rfl
  exact (qs_cons (q_expr (q_call (ms := [.s, .s]) (dd := []) (fnT hT (c_check_graph.ok.mono (Nat.le_trans l_check_graph (by decide)))) hr rfl c_check_graph.mg c_check_graph.kp c_check_graph.bd .nil (fun _ _ _ => rfl) (qa_cons (qv 0) (qa_cons (qv 1) qa_nil)))) (qs_cons (q_setLc (i := 2) rfl hN rfl rfl (own := [("spare", 9)]) (qi_range1 rfl b_range (qa_cons (qv 0) qa_nil)) (blkOk_by (by rfl)) (by decide) (fun _ _ _ _ _ => (qg_name (i := 9) hN rfl (by first | exact Or.inl rfl | exact Or.inr rfl) (.inr rfl))) (fun _ _ _ _ _ => qts_nil) (fun _ _ _ _ _ => qn)) (qs_cons (q_expr (q_append 2 rfl (q_tup (qa_cons qi (qa_cons qi (qa_cons (q_lst qa_nil) qa_nil)))))) (qs_cons (q_for hp rfl (qi_list (q_sortedR true (uS hr) rfl b_sorted (qv 1))) (qg_tup rfl (qgs_cons (qg_name (i := 3) hN rfl (by first | exact Or.inl rfl | exact Or.inr rfl)) (qgs_cons (qg_name (i := 4) hN rfl (by first | exact Or.inl rfl | exact Or.inr rfl)) (qgs_cons (qg_name (i := 5) hN rfl (by first | exact Or.inl rfl | exact Or.inr rfl)) qgs_nil)))) (qs_one (q_if (q_cmpT op_isT rd_isN (q_ix (have z := hu_of hr; z) (qv 2) (qv 4)) qn (nomark _)) (qs_cons (q_asg (q_ix (have z := hu_of hr; z) (qv 2) (qv 4)) (qg_tup rfl (qgs_cons (qg_name (i := 11) hN rfl (by first | exact Or.inl rfl | exact Or.inr rfl)) (qgs_cons (qg_name (i := 7) hN rfl (by first | exact Or.inl rfl | exact Or.inr rfl)) (qgs_cons (qg_name (i := 8) hN rfl (by first | exact Or.inl rfl | exact Or.inr rfl)) qgs_nil))))) (qs_cons (q_set (i := 10) hN rfl (by first | exact Or.inl rfl | exact Or.inr rfl) (q_tup (qa_cons (q_add (qv 5) (qv 11)) (qa_cons (q_add (qv 7) qi) (qa_cons (q_add (q_lst (qa_cons (qv 4) qa_nil)) (qv 8)) qa_nil))))) (qs_one (q_if (QW.qt (qw_or (q_cmpT op_isF rd_isN (q_ix (have z := hu_of hr; z) (qv 2) (qv 3)) qn (nomark _)) (qw_or1 (q_cmpT (op_ltA (uE hr)) rd_ltA (qv 10) (q_ix (have z := hu_of hr; z) (qv 2) (qv 3)) (nomark _))))) (qs_one (q_setIx 2 (have z := hu_of hr; z) rfl (qv 3) (qv 10))) qs_nil)))) qs_nil))) (qs_cons (q_if (q_cmpT op_isF rd_isN (q_ix (have z := hu_of hr; z) (qv 2) qi) qn (nomark _)) (qs_one (q_ret qn)) qs_nil) (qs_cons (q_asg (q_ix (have z := hu_of hr; z) (qv 2) qi) (qg_tup rfl (qgs_cons (qg_name (i := 6) hN rfl (by first | exact Or.inl rfl | exact Or.inr rfl)) (qgs_cons (qg_name (i := 7) hN rfl (by first | exact Or.inl rfl | exact Or.inr rfl)) (qgs_cons (qg_name (i := 8) hN rfl (by first | exact Or.inl rfl | exact Or.inr rfl)) qgs_nil))))) (qs_one (q_ret (q_tup (qa_cons (q_list rfl b_list (qv 8)) (qa_cons (qv 6) qa_nil)))))))))))
def N_way_harm : List Str := ["many", "steps", "ends", "table", "total", "place", "end"]
theorem sc_way_harm : FnScope N_way_harm ["many", "steps", "ends"] (defScope (top 15)) := by refine ⟨?_, ?_, ?_, ?_, ?_, ?_, ?_⟩ <;> first | rfl | decide
theorem fn_way_harm {f : Addr} {fd : FuncData} {qz : QSpec}
    {k_check_graph : Nat} {f_check_graph : Addr} {fd_check_graph : FuncData} {s_check_graph : QSpec} (l_check_graph : k_check_graph ≤ 3) (c_check_graph : Cd P w K mg base T "check_graph" ["many", "steps"] k_check_graph [.s, .s] s_check_graph (top 12) f_check_graph fd_check_graph)
    {k_plain_count : Nat} {f_plain_count : Addr} {fd_plain_count : FuncData} {s_plain_count : QSpec} (l_plain_count : k_plain_count ≤ 3) (c_plain_count : Cd P w K mg base T "plain_count" ["value"] k_plain_count [.s] s_plain_count (top 10) f_plain_count fd_plain_count)
    {k_least_harms : Nat} {f_least_harms : Addr} {fd_least_harms : FuncData} {s_least_harms : QSpec} (l_least_harms : k_least_harms ≤ 3) (c_least_harms : Cd P w K mg base T "least_harms" ["steps"] k_least_harms [.s] s_least_harms (top 13) f_least_harms fd_least_harms)
    (b_isinstance : mg "isinstance" = none)
    (b_list : mg "list" = none)
    (b_all : mg "all" = none)
    (F : Fun K "way_harm" "way_harm" (top 15) f fd) (pure : ∀ (ds : List D) (R : SV → Prop) (F : Exn → Prop), qz ds R F → ((rSeq (rDrop (rCall [.s, .s] s_check_graph [] (rCons (rName 0) (rCons (rName 1) rNil)))) (rSeq (rIf (rOr (rNot (rB (rB1 (oIsa .list) (rName 2)))) (rNot (rB (rB1 oAll (rLc [6] (riL (rName 2)) (gN 6) rYes (rCall [.s] s_plain_count [] (rCons (rName 6) rNil))))))) (rRet (rC .non)) rNext) (rSeq (rSet 3 (rCall [.s] s_least_harms [] (rCons (rName 1) rNil))) (rSeq (rSet 4 (rC (.int 0))) (rSeq (rSet 5 (rC (.int 0))) (rSeq (rFor (riL (rName 2)) (gN 6) (rSeq (rIf (rB (rOp2 (oIn true) (rTup (rCons (rName 5) (rCons (rName 6) rNil))) (rName 3))) (rRet (rC .non)) rNext) (rSeq (rAugI 4 (fun a b => a + b) (rOp2 oIx (rName 3) (rTup (rCons (rName 5) (rCons (rName 6) rNil))))) (rSet 5 (rName 6))))) (rSeq (rIf (rB (rOp2 (oEq true) (rName 5) (rName 0))) (rRet (rC .non)) rNext) (rRet (rName 4))))))))) : RS) (endsF [.s, .s, .s] ds R F) (slots0 [.s, .s, .s] ds ++ List.replicate 4 .no)) :
    FnOk P w K mg base (L2.CX P w) 4 f fd ["many", "steps", "ends"] (spQ K T [.s, .s, .s] qz) := by
  refine q_fn (N := N_way_harm) F sc_way_harm rfl (fun cdv A outer s H E g hr hT => ?_) pure
  have hN : N_way_harm.Nodup := sc_way_harm.nd
  have hp := passes_of (X := cxOf (L2.CX P w) P w K mg base N_way_harm "way_harm" (defScope (top 15)) f cdv A outer s H E) rfl
  exact (qs_cons (q_expr (q_call (ms := [.s, .s]) (dd := []) (fnT hT (c_check_graph.ok.mono (Nat.le_trans l_check_graph (by decide)))) hr rfl c_check_graph.mg c_check_graph.kp c_check_graph.bd .nil (fun _ _ _ => rfl) (qa_cons (qv 0) (qa_cons (qv 1) qa_nil)))) (qs_cons (q_if (QW.qt (qw_or (qt_not (q_val (q_isa .list rfl b_isinstance rfl b_list (qv 2)))) (qw_or1 (qt_not (q_val (q_all rfl rfl b_all (q_lc rfl hN (own := [("end", 6)]) (qi_list (qv 2)) (blkOk_by (by rfl)) (by decide) (fun _ _ _ _ _ => (qg_name (i := 6) hN rfl (by first | exact Or.inl rfl | exact Or.inr rfl) (.inr rfl))) (fun _ _ _ _ _ => qts_nil) (fun _ _ _ _ _ => (q_call (ms := [.s]) (dd := []) (fnT hT (c_plain_count.ok.mono (Nat.le_trans l_plain_count (by decide)))) hr rfl c_plain_count.mg c_plain_count.kp c_plain_count.bd .nil (fun _ _ _ => rfl) (qa_cons (qv 6) qa_nil)))))))))) (qs_one (q_ret qn)) qs_nil) (qs_cons (q_set (i := 3) hN rfl (by first | exact Or.inl rfl | exact Or.inr rfl) (q_call (ms := [.s]) (dd := []) (fnT hT (c_least_harms.ok.mono (Nat.le_trans l_least_harms (by decide)))) hr rfl c_least_harms.mg c_least_harms.kp c_least_harms.bd .nil (fun _ _ _ => rfl) (qa_cons (qv 1) qa_nil))) (qs_cons (q_set (i := 4) hN rfl (by first | exact Or.inl rfl | exact Or.inr rfl) qi) (qs_cons (q_set (i := 5) hN rfl (by first | exact Or.inl rfl | exact Or.inr rfl) qi) (qs_cons (q_for hp rfl (qi_list (qv 2)) (qg_name (i := 6) hN rfl (by first | exact Or.inl rfl | exact Or.inr rfl)) (qs_cons (q_if (q_cmpT (op_notInQ (have z := uI hr; z)) rd_notIn (q_tup (qa_cons (qv 5) (qa_cons (qv 6) qa_nil))) (qv 3) (by rfl)) (qs_one (q_ret qn)) qs_nil) (qs_cons (q_augI (i := 4) ip_add hN rfl (by first | exact Or.inl rfl | exact Or.inr rfl) (q_ix (have z := hu_of hr; z) (qv 3) (q_tup (qa_cons (qv 5) (qa_cons (qv 6) qa_nil))))) (qs_one (q_set (i := 5) hN rfl (by first | exact Or.inl rfl | exact Or.inr rfl) (qv 6)))))) (qs_cons (q_if (q_cmpT (op_neQ (have z := uE hr; z)) rd_ne (qv 5) (qv 0) (nomark _)) (qs_one (q_ret qn)) qs_nil) (qs_one (q_ret (qv 4))))))))))
def N_way_paper : List Str := ["many", "steps", "paper", "start", "end", "harm", "found", "spare"]
theorem sc_way_paper : FnScope N_way_paper ["many", "steps"] (defScope (top 16)) := by refine ⟨?_, ?_, ?_, ?_, ?_, ?_, ?_⟩ <;> first | rfl | decide
theorem fn_way_paper {f : Addr} {fd : FuncData} {qz : QSpec}
    {k_check_graph : Nat} {f_check_graph : Addr} {fd_check_graph : FuncData} {s_check_graph : QSpec} (l_check_graph : k_check_graph ≤ 3) (c_check_graph : Cd P w K mg base T "check_graph" ["many", "steps"] k_check_graph [.s, .s] s_check_graph (top 12) f_check_graph fd_check_graph)
    (b_range : mg "range" = none)
    (b_sorted : mg "sorted" = none)
    (F : Fun K "way_paper" "way_paper" (top 16) f fd) (pure : ∀ (ds : List D) (R : SV → Prop) (F : Exn → Prop), qz ds R F → ((rSeq (rDrop (rCall [.s, .s] s_check_graph [] (rCons (rName 0) (rCons (rName 1) rNil)))) (rSeq (rSet 2 (rOp2 oAdd (rLst (rCons (rC (.int 0)) rNil)) (rLc [7] (riR1 (rCons (rName 0) rNil)) (gN 7) rYes (rC .non)))) (rSeq (rFor (riL (rB1 (oSorted false) (rName 1))) (gT [(gN 3), (gN 4), (gN 5)]) (rIf (rB (rOp2 (oIs true) (rOp2 oIx (rName 2) (rName 3)) (rC .non))) (rSeq (rSet 6 (rOp2 oAdd (rOp2 oIx (rName 2) (rName 3)) (rName 5))) (rIf (rOr (rB (rOp2 (oIs false) (rOp2 oIx (rName 2) (rName 4)) (rC .non))) (rB (rOp2 oLtG (rName 6) (rOp2 oIx (rName 2) (rName 4))))) (rSetIx 2 (rName 4) (rName 6)) rNext)) rNext)) (rRet (rTree (rName 2)))))) : RS) (endsF [.s, .s] ds R F) (slots0 [.s, .s] ds ++ List.replicate 6 .no)) :
    FnOk P w K mg base (L2.CX P w) 4 f fd ["many", "steps"] (spQ K T [.s, .s] qz) := by
  refine q_fn (N := N_way_paper) F sc_way_paper rfl (fun cdv A outer s H E g hr hT => ?_) pure
  have hN : N_way_paper.Nodup := sc_way_paper.nd
  have hp := passes_of (X := cxOf (L2.CX P w) P w K mg base N_way_paper "way_paper" (defScope (top 16)) f cdv A outer s H E) rfl
  exact (qs_cons (q_expr (q_call (ms := [.s, .s]) (dd := []) (fnT hT (c_check_graph.ok.mono (Nat.le_trans l_check_graph (by decide)))) hr rfl c_check_graph.mg c_check_graph.kp c_check_graph.bd .nil (fun _ _ _ => rfl) (qa_cons (qv 0) (qa_cons (qv 1) qa_nil)))) (qs_cons (q_set (i := 2) hN rfl (by first | exact Or.inl rfl | exact Or.inr rfl) (q_add (q_lst (qa_cons qi qa_nil)) (q_lc rfl hN (own := [("spare", 7)]) (qi_range1 rfl b_range (qa_cons (qv 0) qa_nil)) (blkOk_by (by rfl)) (by decide) (fun _ _ _ _ _ => (qg_name (i := 7) hN rfl (by first | exact Or.inl rfl | exact Or.inr rfl) (.inr rfl))) (fun _ _ _ _ _ => qts_nil) (fun _ _ _ _ _ => qn)))) (qs_cons (q_for hp rfl (qi_list (q_sorted (uS hr) rfl b_sorted (qv 1))) (qg_tup rfl (qgs_cons (qg_name (i := 3) hN rfl (by first | exact Or.inl rfl | exact Or.inr rfl)) (qgs_cons (qg_name (i := 4) hN rfl (by first | exact Or.inl rfl | exact Or.inr rfl)) (qgs_cons (qg_name (i := 5) hN rfl (by first | exact Or.inl rfl | exact Or.inr rfl)) qgs_nil)))) (qs_one (q_if (q_cmpT op_isT rd_isN (q_ix (have z := hu_of hr; z) (qv 2) (qv 3)) qn (nomark _)) (qs_cons (q_set (i := 6) hN rfl (by first | exact Or.inl rfl | exact Or.inr rfl) (q_add (q_ix (have z := hu_of hr; z) (qv 2) (qv 3)) (qv 5))) (qs_one (q_if (QW.qt (qw_or (q_cmpT op_isF rd_isN (q_ix (have z := hu_of hr; z) (qv 2) (qv 4)) qn (nomark _)) (qw_or1 (q_cmpT op_ltG rd_cmpG (qv 6) (q_ix (have z := hu_of hr; z) (qv 2) (qv 4)) (nomark _))))) (qs_one (q_setIx 2 (have z := hu_of hr; z) rfl (qv 4) (qv 6))) qs_nil))) qs_nil))) (qs_one (q_ret (q_tree (qv 2)))))))
def N_step_kept : List Str := ["paper", "step", "start", "end", "harm"]
theorem sc_step_kept : FnScope N_step_kept ["paper", "step"] (defScope (top 17)) := by refine ⟨?_, ?_, ?_, ?_, ?_, ?_, ?_⟩ <;> first | rfl | decide
theorem fn_step_kept {f : Addr} {fd : FuncData} {qz : QSpec}
    (F : Fun K "step_kept" "step_kept" (top 17) f fd) (pure : ∀ (ds : List D) (R : SV → Prop) (F : Exn → Prop), qz ds R F → ((rSeq (rAsg (rName 1) (gT [(gN 2), (gN 3), (gN 4)])) (rSeq (rIf (rB (rOp2 (oIs false) (rOp2 oIx (rName 0) (rName 2)) (rC .non))) (rRet (rC (.bl true))) rNext) (rRet (rAndV (rOp2 (oIs true) (rOp2 oIx (rName 0) (rName 3)) (rC .non)) (rOp2 oLeG (rOp2 oIx (rName 0) (rName 3)) (rOp2 oAdd (rOp2 oIx (rName 0) (rName 2)) (rName 4))))))) : RS) (endsF [.s, .s] ds R F) (slots0 [.s, .s] ds ++ List.replicate 3 .no)) :
    FnOk P w K mg base (L2.CX P w) 1 f fd ["paper", "step"] (spQ K T [.s, .s] qz) := by
  refine q_fn (N := N_step_kept) F sc_step_kept rfl (fun cdv A outer s H E g hr hT => ?_) pure
  have hN : N_step_kept.Nodup := sc_step_kept.nd
  have hp := passes_of (X := cxOf (L2.CX P w) P w K mg base N_step_kept "step_kept" (defScope (top 17)) f cdv A outer s H E) rfl
  exact (qs_cons (q_asg (qv 1) (qg_tup rfl (qgs_cons (qg_name (i := 2) hN rfl (by first | exact Or.inl rfl | exact Or.inr rfl)) (qgs_cons (qg_name (i := 3) hN rfl (by first | exact Or.inl rfl | exact Or.inr rfl)) (qgs_cons (qg_name (i := 4) hN rfl (by first | exact Or.inl rfl | exact Or.inr rfl)) qgs_nil))))) (qs_cons (q_if (q_cmpT op_isF rd_isN (q_ix (have z := hu_of hr; z) (qv 0) (qv 2)) qn (nomark _)) (qs_one (q_ret qb)) qs_nil) (qs_one (q_ret (q_and (q_cmp op_isT rd_isN (q_ix (have z := hu_of hr; z) (qv 0) (qv 3)) qn (nomark _)) (q_one (q_cmp op_leG rd_cmpG (q_ix (have z := hu_of hr; z) (qv 0) (qv 3)) (q_add (q_ix (have z := hu_of hr; z) (qv 0) (qv 2)) (qv 4)) (nomark _))))))))
def N_bars_way : List Str := ["many", "steps", "harm", "paper", "entry", "step"]
theorem sc_bars_way : FnScope N_bars_way ["many", "steps", "harm", "paper"] (defScope (top 18)) := by refine ⟨?_, ?_, ?_, ?_, ?_, ?_, ?_⟩ <;> first | rfl | decide
theorem fn_bars_way {f : Addr} {fd : FuncData} {qz : QSpec}
    {k_check_graph : Nat} {f_check_graph : Addr} {fd_check_graph : FuncData} {s_check_graph : QSpec} (l_check_graph : k_check_graph ≤ 3) (c_check_graph : Cd P w K mg base T "check_graph" ["many", "steps"] k_check_graph [.s, .s] s_check_graph (top 12) f_check_graph fd_check_graph)
    {k_plain_count : Nat} {f_plain_count : Addr} {fd_plain_count : FuncData} {s_plain_count : QSpec} (l_plain_count : k_plain_count ≤ 3) (c_plain_count : Cd P w K mg base T "plain_count" ["value"] k_plain_count [.s] s_plain_count (top 10) f_plain_count fd_plain_count)
    {k_step_kept : Nat} {f_step_kept : Addr} {fd_step_kept : FuncData} {s_step_kept : QSpec} (l_step_kept : k_step_kept ≤ 3) (c_step_kept : Cd P w K mg base T "step_kept" ["paper", "step"] k_step_kept [.s, .s] s_step_kept (top 17) f_step_kept fd_step_kept)
    {C_BadValue : Addr} (e_BadValue : Exc1 P w K mg base "BadValue" C_BadValue "argument" 1 okV) (a_BadValue : T.ea .bv = C_BadValue)
    (b_isinstance : mg "isinstance" = none)
    (b_list : mg "list" = none)
    (b_len : mg "len" = none)
    (b_all : mg "all" = none)
    (F : Fun K "bars_way" "bars_way" (top 18) f fd) (pure : ∀ (ds : List D) (R : SV → Prop) (F : Exn → Prop), qz ds R F → ((rSeq (rDrop (rCall [.s, .s] s_check_graph [] (rCons (rName 0) (rCons (rName 1) rNil)))) (rSeq (rIf (rAnd (rB (rOp2 (oIs true) (rName 2) (rC .non))) (rNot (rB (rCall [.s] s_plain_count [] (rCons (rName 2) rNil))))) (rRaise1 .bv "argument" D.fits (rC (.str "harm"))) rNext) (rSeq (rIf (rOr (rNot (rB (rB1 (oIsa .list) (rName 3)))) (rB (rOp2 (oEq true) (rB1 oLen (rName 3)) (rOp2 oAdd (rName 0) (rC (.int 1)))))) (rRet (rC (.bl false))) rNext) (rSeq (rIf (rNot (rB (rB1 oAll (rLc [4] (riL (rName 3)) (gN 4) rYes (rOrV (rOp2 (oIs false) (rName 4) (rC .non)) (rCall [.s] s_plain_count [] (rCons (rName 4) rNil))))))) (rRet (rC (.bl false))) rNext) (rSeq (rIf (rOr (rB (rOp2 (oIs false) (rOp2 oIx (rName 3) (rC (.int 0))) (rC .non))) (rB (rOp2 (oEq true) (rOp2 oIx (rName 3) (rC (.int 0))) (rC (.int 0))))) (rRet (rC (.bl false))) rNext) (rSeq (rIf (rNot (rB (rB1 oAll (rLc [5] (riL (rName 1)) (gN 5) rYes (rCall [.s, .s] s_step_kept [] (rCons (rName 3) (rCons (rName 5) rNil))))))) (rRet (rC (.bl false))) rNext) (rSeq (rIf (rB (rOp2 (oIs false) (rOp2 oIx (rName 3) (rName 0)) (rC .non))) (rRet (rC (.bl true))) rNext) (rRet (rAndV (rOp2 (oIs true) (rName 2) (rC .non)) (rOp2 oGeG (rOp2 oIx (rName 3) (rName 0)) (rName 2))))))))))) : RS) (endsF [.s, .s, .s, .s] ds R F) (slots0 [.s, .s, .s, .s] ds ++ List.replicate 2 .no)) :
    FnOk P w K mg base (L2.CX P w) 4 f fd ["many", "steps", "harm", "paper"] (spQ K T [.s, .s, .s, .s] qz) := by
  refine q_fn (N := N_bars_way) F sc_bars_way rfl (fun cdv A outer s H E g hr hT => ?_) pure
  have hN : N_bars_way.Nodup := sc_bars_way.nd
  have hp := passes_of (X := cxOf (L2.CX P w) P w K mg base N_bars_way "bars_way" (defScope (top 18)) f cdv A outer s H E) rfl
  exact (qs_cons (q_expr (q_call (ms := [.s, .s]) (dd := []) (fnT hT (c_check_graph.ok.mono (Nat.le_trans l_check_graph (by decide)))) hr rfl c_check_graph.mg c_check_graph.kp c_check_graph.bd .nil (fun _ _ _ => rfl) (qa_cons (qv 0) (qa_cons (qv 1) qa_nil)))) (qs_cons (q_if (QW.qt (qw_and (q_cmpT op_isT rd_isN (qv 2) qn (nomark _)) (qw_and1 (qt_not (q_val (q_call (ms := [.s]) (dd := []) (fnT hT (c_plain_count.ok.mono (Nat.le_trans l_plain_count (by decide)))) hr rfl c_plain_count.mg c_plain_count.kp c_plain_count.bd .nil (fun _ _ _ => rfl) (qa_cons (qv 2) qa_nil))))))) (qs_one (q_raise1 (okD := D.fits) e_BadValue (ec := .bv) rfl (eaT hT a_BadValue) (fun r h => okV_of r h) (hr.mono (by decide)) rfl rfl qs)) qs_nil) (qs_cons (q_if (QW.qt (qw_or (qt_not (q_val (q_isa .list rfl b_isinstance rfl b_list (qv 3)))) (qw_or1 (q_cmpT (op_neQ (have z := uE hr; z)) rd_ne (q_len rfl b_len (qv 3)) (q_add (qv 0) qi) (nomark _))))) (qs_one (q_ret qb)) qs_nil) (qs_cons (q_if (qt_not (q_val (q_all rfl rfl b_all (q_lc rfl hN (own := [("entry", 4)]) (qi_list (qv 3)) (blkOk_by (by rfl)) (by decide) (fun _ _ _ _ _ => (qg_name (i := 4) hN rfl (by first | exact Or.inl rfl | exact Or.inr rfl) (.inr rfl))) (fun _ _ _ _ _ => qts_nil) (fun _ _ _ _ _ => (q_or (q_cmp op_isF rd_isN (qv 4) qn (nomark _)) (q_one (q_call (ms := [.s]) (dd := []) (fnT hT (c_plain_count.ok.mono (Nat.le_trans l_plain_count (by decide)))) hr rfl c_plain_count.mg c_plain_count.kp c_plain_count.bd .nil (fun _ _ _ => rfl) (qa_cons (qv 4) qa_nil))))))))) (qs_one (q_ret qb)) qs_nil) (qs_cons (q_if (QW.qt (qw_or (q_cmpT op_isF rd_isN (q_ix (have z := hu_of hr; z) (qv 3) qi) qn (nomark _)) (qw_or1 (q_cmpT (op_neQ (have z := uE hr; z)) rd_ne (q_ix (have z := hu_of hr; z) (qv 3) qi) qi (nomark _))))) (qs_one (q_ret qb)) qs_nil) (qs_cons (q_if (qt_not (q_val (q_all rfl rfl b_all (q_lc rfl hN (own := [("step", 5)]) (qi_list (qv 1)) (blkOk_by (by rfl)) (by decide) (fun _ _ _ _ _ => (qg_name (i := 5) hN rfl (by first | exact Or.inl rfl | exact Or.inr rfl) (.inr rfl))) (fun _ _ _ _ _ => qts_nil) (fun _ _ _ _ _ => (q_call (ms := [.s, .s]) (dd := []) (fnT hT (c_step_kept.ok.mono (Nat.le_trans l_step_kept (by decide)))) hr rfl c_step_kept.mg c_step_kept.kp c_step_kept.bd .nil (fun _ _ _ => rfl) (qa_cons (qv 3) (qa_cons (qv 5) qa_nil)))))))) (qs_one (q_ret qb)) qs_nil) (qs_cons (q_if (q_cmpT op_isF rd_isN (q_ix (have z := hu_of hr; z) (qv 3) (qv 0)) qn (nomark _)) (qs_one (q_ret qb)) qs_nil) (qs_one (q_ret (q_and (q_cmp op_isT rd_isN (qv 2) qn (nomark _)) (q_one (q_cmp op_geG rd_cmpG (q_ix (have z := hu_of hr; z) (qv 3) (qv 0)) (qv 2) (nomark _)))))))))))))
def N_law_store : List Str := ["_law_script", "_law_seed", "_law_cell"]
theorem sc_law_store : FnScope N_law_store ["_law_script"] (defScope (top 20)) := by refine ⟨?_, ?_, ?_, ?_, ?_, ?_, ?_⟩ <;> first | rfl | decide
theorem fn_law_store {f : Addr} {fd : FuncData} {qz : QSpec}
    (b_int : mg "int" = none)
    (b_list : mg "list" = none)
    (F : Fun K "_law_store" "_law_store" (top 20) f fd) (pure : ∀ (ds : List D) (R : SV → Prop) (F : Exn → Prop), qz ds R F → ((rSeq (rSet 1 (rC (.int 11))) (rSeq (rFor (riL (rName 0)) (gN 2) (rSet 1 (rOp2 oMod (rB1 oInt1 (rOp2 oAdd (rOp2 oAdd (rOp2 oRepG (rName 1) (rC (.int 31))) (rOp2 oMod (rB1 oInt1 (rName 2)) (rC (.int 1000003)))) (rC (.int 7)))) (rC (.int 1000003))))) (rRetSto (rDict (rpCons (rC (.str "cells")) (rB1 oList (rName 0)) (rpCons (rC (.str "at")) (rC (.int 0)) (rpCons (rC (.str "now")) (rC (.int 0)) (rpCons (rC (.str "left")) (rC (.int 0)) (rpCons (rC (.str "great")) (rC (.bl false)) (rpCons (rC (.str "seed")) (rName 1) (rpCons (rC (.str "turn")) (rC (.int 0)) rpNil))))))))))) : RS) (endsF [.b] ds R F) (slots0 [.b] ds ++ List.replicate 2 .no)) :
    FnOk P w K mg base (L2.CX P w) 1 f fd ["_law_script"] (spQ K T [.b] qz) := by
  refine q_fnF (nb := 1) (N := N_law_store) F sc_law_store rfl (fun cdv A outer s H E g hr hT hGS => ?_) pure
  have hN : N_law_store.Nodup := sc_law_store.nd
  have hp := passes_of (X := cxOf (L2.CX P w) P w K mg base N_law_store "_law_store" (defScope (top 20)) f cdv A outer s H E) rfl
  exact (qs_cons (q_set (i := 1) hN rfl (by first | exact Or.inl rfl | exact Or.inr rfl) qi) (qs_cons (q_for hp rfl (qi_list (qv 0)) (qg_name (i := 2) hN rfl (by first | exact Or.inl rfl | exact Or.inr rfl)) (qs_one (q_set (i := 1) hN rfl (by first | exact Or.inl rfl | exact Or.inr rfl) (q_mod (q_int1 rfl b_int (q_add (q_add (q_repG (qv 1) qi) (q_mod (q_int1 rfl b_int (qv 2)) qi)) qi)) qi)))) (qs_one (q_retSto hGS (q_dict (qpm_cons qs (q_list rfl b_list (qv 0)) (qpm_cons qs qi (qpm_cons qs qi (qpm_cons qs qi (qpm_cons qs qb (qpm_cons qs (qv 1) (qpm_cons qs qi qpm_nil))))))))))))
def N_law_load : List Str := ["_law_store_here", "_law_at", "_law_cell"]
theorem sc_law_load : FnScope N_law_load ["_law_store_here"] (defScope (top 21)) := by refine ⟨?_, ?_, ?_, ?_, ?_, ?_, ?_⟩ <;> first | rfl | decide
theorem fn_law_load {f : Addr} {fd : FuncData} {qz : QSpec}
    (b_int : mg "int" = none)
    (b_len : mg "len" = none)
    (F : Fun K "_law_load" "_law_load" (top 21) f fd) (pure : ∀ (ds : List D) (R : SV → Prop) (F : Exn → Prop), qz ds R F → ((rOpen 0 (rSeq (rSet 1 (rB1 oInt1 (rOp2 oIx (rName 0) (rC (.str "at"))))) (rSeq (rSetIx 0 (rC (.str "at")) (rOp2 oAdd (rName 1) (rC (.int 1)))) (rSeq (rSetIx 0 (rC (.str "great")) (rC (.bl false))) (rSeq (rSetIx 0 (rC (.str "now")) (rOp2 oIx (rName 0) (rC (.str "seed")))) (rSeq (rSetIx 0 (rC (.str "left")) (rC (.int 1000))) (rIf (rB (rOp2 oLtG (rName 1) (rB1 oLen (rOp2 oIx (rName 0) (rC (.str "cells")))))) (rSeq (rSet 2 (rB1 oInt1 (rOp2 oIx (rOp2 oIx (rName 0) (rC (.str "cells"))) (rName 1)))) (rSeq (rSetIx 0 (rC (.str "now")) (rOp2 oMod (rB1 oInt1 (rOp2 oAdd (rName 2) (rOp2 oRepG (rOp2 oDiv (rName 2) (rC (.int 1000003))) (rC (.int 613))))) (rC (.int 1000003)))) (rSeq (rSetIx 0 (rC (.str "left")) (rC (.int 2))) (rIf (rB (rOp2 oGeG (rName 2) (rOp2 oPow (rC (.int 10)) (rC (.int 18))))) (rSeq (rSetIx 0 (rC (.str "great")) (rC (.bl true))) (rSeq (rSetIx 0 (rC (.str "now")) (rOp2 oMod (rName 2) (rOp2 oPow (rOp2 oPow (rC (.int 10)) (rC (.int 60))) (rC (.int 10))))) (rSetIx 0 (rC (.str "left")) (rC (.int 120))))) rNext)))) rNext))))))) : RS) (endsF [.t] ds R F) (slots0 [.t] ds ++ List.replicate 2 .no)) :
    FnOk P w K mg base (L2.CX P w) 1 f fd ["_law_store_here"] (spQ K T [.t] qz) := by
  refine q_fn (N := N_law_load) F sc_law_load rfl (fun cdv A outer s H E g hr hT => ?_) pure
  have hN : N_law_load.Nodup := sc_law_load.nd
  have hp := passes_of (X := cxOf (L2.CX P w) P w K mg base N_law_load "_law_load" (defScope (top 21)) f cdv A outer s H E) rfl
  exact (q_open 0 (qs_cons (q_set (i := 1) hN rfl (by first | exact Or.inl rfl | exact Or.inr rfl) (q_int1 rfl b_int (q_ix (have z := hu_of hr; z) (qv 0) qs))) (qs_cons (q_setIx 0 (have z := hu_of hr; z) rfl qs (q_add (qv 1) qi)) (qs_cons (q_setIx 0 (have z := hu_of hr; z) rfl qs qb) (qs_cons (q_setIx 0 (have z := hu_of hr; z) rfl qs (q_ix (have z := hu_of hr; z) (qv 0) qs)) (qs_cons (q_setIx 0 (have z := hu_of hr; z) rfl qs qi) (qs_one (q_if (q_cmpT op_ltG rd_cmpG (qv 1) (q_len rfl b_len (q_ix (have z := hu_of hr; z) (qv 0) qs)) (nomark _)) (qs_cons (q_set (i := 2) hN rfl (by first | exact Or.inl rfl | exact Or.inr rfl) (q_int1 rfl b_int (q_ix (have z := hu_of hr; z) (q_ix (have z := hu_of hr; z) (qv 0) qs) (qv 1)))) (qs_cons (q_setIx 0 (have z := hu_of hr; z) rfl qs (q_mod (q_int1 rfl b_int (q_add (qv 2) (q_repG (q_div (qv 2) qi) qi))) qi)) (qs_cons (q_setIx 0 (have z := hu_of hr; z) rfl qs qi) (qs_one (q_if (q_cmpT op_geG rd_cmpG (qv 2) (q_pow qi qi) (nomark _)) (qs_cons (q_setIx 0 (have z := hu_of hr; z) rfl qs qb) (qs_cons (q_setIx 0 (have z := hu_of hr; z) rfl qs (q_mod (qv 2) (q_pow (q_pow qi qi) qi))) (qs_one (q_setIx 0 (have z := hu_of hr; z) rfl qs qi)))) qs_nil))))) qs_nil))))))))
def N_law_mix : List Str := ["_law_number", "_law_turn", "_law_once"]
theorem sc_law_mix : FnScope N_law_mix ["_law_number", "_law_turn"] (defScope (top 22)) := by refine ⟨?_, ?_, ?_, ?_, ?_, ?_, ?_⟩ <;> first | rfl | decide
theorem fn_law_mix {f : Addr} {fd : FuncData} {qz : QSpec}
    (b_int : mg "int" = none)
    (F : Fun K "_law_mix" "_law_mix" (top 22) f fd) (pure : ∀ (ds : List D) (R : SV → Prop) (F : Exn → Prop), qz ds R F → ((rSeq (rSet 2 (rOp2 oMod (rB1 oInt1 (rOp2 oAdd (rOp2 oAdd (rOp2 oRepG (rName 0) (rC (.int 7919))) (rOp2 oRepG (rName 1) (rC (.int 104729)))) (rC (.int 31)))) (rC (.int 1000003)))) (rRet (rOp2 oMod (rB1 oInt1 (rOp2 oAdd (rOp2 oRepG (rOp2 oRepG (rOp2 oAdd (rOp2 oMod (rName 2) (rC (.int 1000))) (rC (.int 17))) (rOp2 oAdd (rOp2 oDiv (rName 2) (rC (.int 1000))) (rC (.int 613)))) (rC (.int 29))) (rName 2))) (rC (.int 999983))))) : RS) (endsF [.s, .s] ds R F) (slots0 [.s, .s] ds ++ List.replicate 1 .no)) :
    FnOk P w K mg base (L2.CX P w) 1 f fd ["_law_number", "_law_turn"] (spQ K T [.s, .s] qz) := by
  refine q_fn (N := N_law_mix) F sc_law_mix rfl (fun cdv A outer s H E g hr hT => ?_) pure
  have hN : N_law_mix.Nodup := sc_law_mix.nd
  have hp := passes_of (X := cxOf (L2.CX P w) P w K mg base N_law_mix "_law_mix" (defScope (top 22)) f cdv A outer s H E) rfl
  exact (qs_cons (q_set (i := 2) hN rfl (by first | exact Or.inl rfl | exact Or.inr rfl) (q_mod (q_int1 rfl b_int (q_add (q_add (q_repG (qv 0) qi) (q_repG (qv 1) qi)) qi)) qi)) (qs_one (q_ret (q_mod (q_int1 rfl b_int (q_add (q_repG (q_repG (q_add (q_mod (qv 2) qi) qi) (q_add (q_div (qv 2) qi) qi)) qi) (qv 2))) qi))))
def N_law_take : List Str := ["_law_store_here", "_law_many", "_law_now", "_law_value", "_law_k"]
theorem sc_law_take : FnScope N_law_take ["_law_store_here", "_law_many"] (defScope (top 23)) := by refine ⟨?_, ?_, ?_, ?_, ?_, ?_, ?_⟩ <;> first | rfl | decide
theorem fn_law_take {f : Addr} {fd : FuncData} {qz : QSpec}
    {k__law_load : Nat} {f__law_load : Addr} {fd__law_load : FuncData} {s_law_load : QSpec} (l__law_load : k__law_load ≤ 1) (c__law_load : Cd P w K mg base T "_law_load" ["_law_store_here"] k__law_load [.t] s_law_load (top 21) f__law_load fd__law_load)
    {k__law_mix : Nat} {f__law_mix : Addr} {fd__law_mix : FuncData} {s_law_mix : QSpec} (l__law_mix : k__law_mix ≤ 1) (c__law_mix : Cd P w K mg base T "_law_mix" ["_law_number", "_law_turn"] k__law_mix [.s, .s] s_law_mix (top 22) f__law_mix fd__law_mix)
    (b_int : mg "int" = none)
    (b_str : mg "str" = none)
    (b_len : mg "len" = none)
    (b_range : mg "range" = none)
    (F : Fun K "_law_take" "_law_take" (top 23) f fd) (pure : ∀ (ds : List D) (R : SV → Prop) (F : Exn → Prop), qz ds R F → ((rOpen 0 (rSeq (rIf (rB (rOp2 oLtG (rName 1) (rC (.int 2)))) (rRet (rC (.int 0))) rNext) (rSeq (rIf (rB (rOp2 oLtG (rB1 oInt1 (rOp2 oIx (rName 0) (rC (.str "left")))) (rC (.int 1)))) (rSeq (rClose 0 (rDrop (rCall [.t] s_law_load [] (rCons (rName 0) rNil)))) (rOpen 0 rNext)) rNext) (rSeq (rSetIx 0 (rC (.str "left")) (rOp2 oSub (rB1 oInt1 (rOp2 oIx (rName 0) (rC (.str "left")))) (rC (.int 1)))) (rSeq (rSet 2 (rB1 oInt1 (rOp2 oIx (rName 0) (rC (.str "now"))))) (rSeq (rIf (rB (rOp2 oIx (rName 0) (rC (.str "great")))) (rSeq (rSetIx 0 (rC (.str "now")) (rOp2 oDiv (rName 2) (rName 1))) (rSeq (rIf (rB (rOp2 oLtG (rName 2) (rName 1))) (rSetIx 0 (rC (.str "left")) (rC (.int 0))) rNext) (rRet (rOp2 oMod (rName 2) (rName 1))))) rNext) (rSeq (rSet 3 (rC (.int 0))) (rSeq (rFor (riR1 (rCons (rOp2 oAdd (rC (.int 1)) (rOp2 oDiv (rB1 oLen (rB1 oStr1 (rName 1))) (rC (.int 6)))) rNil)) (gN 4) (rSeq (rSetIx 0 (rC (.str "turn")) (rOp2 oAdd (rB1 oInt1 (rOp2 oIx (rName 0) (rC (.str "turn")))) (rC (.int 1)))) (rSet 3 (rOp2 oAdd (rOp2 oRepG (rName 3) (rC (.int 1000000))) (rCall [.s, .s] s_law_mix [] (rCons (rName 2) (rCons (rOp2 oIx (rName 0) (rC (.str "turn"))) rNil))))))) (rRet (rOp2 oMod (rB1 oInt1 (rName 3)) (rName 1))))))))))) : RS) (endsF [.t, .s] ds R F) (slots0 [.t, .s] ds ++ List.replicate 3 .no)) :
    FnOk P w K mg base (L2.CX P w) 2 f fd ["_law_store_here", "_law_many"] (spQ K T [.t, .s] qz) := by
  refine q_fn (N := N_law_take) F sc_law_take rfl (fun cdv A outer s H E g hr hT => ?_) pure
  have hN : N_law_take.Nodup := sc_law_take.nd
  have hp := passes_of (X := cxOf (L2.CX P w) P w K mg base N_law_take "_law_take" (defScope (top 23)) f cdv A outer s H E) rfl
  exact (q_open 0 (qs_cons (q_if (q_cmpT op_ltG rd_cmpG (qv 1) qi (nomark _)) (qs_one (q_ret qi)) qs_nil) (qs_cons (q_if (q_cmpT op_ltG rd_cmpG (q_int1 rfl b_int (q_ix (have z := hu_of hr; z) (qv 0) qs)) qi (nomark _)) (qs_cons (q_close 0 (q_expr (q_call (ms := [.t]) (dd := []) (fnT hT (c__law_load.ok.mono (Nat.le_trans l__law_load (by decide)))) hr rfl c__law_load.mg c__law_load.kp c__law_load.bd .nil (fun _ _ _ => rfl) (qa_cons (qv 0) qa_nil)))) (q_open 0 qs_nil)) qs_nil) (qs_cons (q_setIx 0 (have z := hu_of hr; z) rfl qs (q_sub (q_int1 rfl b_int (q_ix (have z := hu_of hr; z) (qv 0) qs)) qi)) (qs_cons (q_set (i := 2) hN rfl (by first | exact Or.inl rfl | exact Or.inr rfl) (q_int1 rfl b_int (q_ix (have z := hu_of hr; z) (qv 0) qs))) (qs_cons (q_if (q_val (q_ix (have z := hu_of hr; z) (qv 0) qs)) (qs_cons (q_setIx 0 (have z := hu_of hr; z) rfl qs (q_div (qv 2) (qv 1))) (qs_cons (q_if (q_cmpT op_ltG rd_cmpG (qv 2) (qv 1) (nomark _)) (qs_one (q_setIx 0 (have z := hu_of hr; z) rfl qs qi)) qs_nil) (qs_one (q_ret (q_mod (qv 2) (qv 1)))))) qs_nil) (qs_cons (q_set (i := 3) hN rfl (by first | exact Or.inl rfl | exact Or.inr rfl) qi) (qs_cons (q_for hp rfl (qi_range1 rfl b_range (qa_cons (q_add qi (q_div (q_len rfl b_len (q_str1 rfl b_str (qv 1))) qi)) qa_nil)) (qg_name (i := 4) hN rfl (by first | exact Or.inl rfl | exact Or.inr rfl)) (qs_cons (q_setIx 0 (have z := hu_of hr; z) rfl qs (q_add (q_int1 rfl b_int (q_ix (have z := hu_of hr; z) (qv 0) qs)) qi)) (qs_one (q_set (i := 3) hN rfl (by first | exact Or.inl rfl | exact Or.inr rfl) (q_add (q_repG (qv 3) qi) (q_call (ms := [.s, .s]) (dd := []) (fnT hT (c__law_mix.ok.mono (Nat.le_trans l__law_mix (by decide)))) hr rfl c__law_mix.mg c__law_mix.kp c__law_mix.bd .nil (fun _ _ _ => rfl) (qa_cons (qv 2) (qa_cons (q_ix (have z := hu_of hr; z) (qv 0) qs) qa_nil)))))))) (qs_one (q_ret (q_mod (q_int1 rfl b_int (qv 3)) (qv 1))))))))))))
def N_law_size : List Str := ["_law_store_here", "_law_most", "_law_choice"]
theorem sc_law_size : FnScope N_law_size ["_law_store_here", "_law_most"] (defScope (top 24)) := by refine ⟨?_, ?_, ?_, ?_, ?_, ?_, ?_⟩ <;> first | rfl | decide
theorem fn_law_size {f : Addr} {fd : FuncData} {qz : QSpec}
    {k__law_take : Nat} {f__law_take : Addr} {fd__law_take : FuncData} {s_law_take : QSpec} (l__law_take : k__law_take ≤ 2) (c__law_take : Cd P w K mg base T "_law_take" ["_law_store_here", "_law_many"] k__law_take [.t, .s] s_law_take (top 23) f__law_take fd__law_take)
    (b_max : mg "max" = none)
    (b_min : mg "min" = none)
    (F : Fun K "_law_size" "_law_size" (top 24) f fd) (pure : ∀ (ds : List D) (R : SV → Prop) (F : Exn → Prop), qz ds R F → ((rSeq (rSet 1 (rOp2 oMax (rC (.int 0)) (rName 1))) (rSeq (rSet 2 (rCall [.t, .s] s_law_take [] (rCons (rName 0) (rCons (rC (.int 12)) rNil)))) (rSeq (rIf (rB (rOp2 oLtG (rName 2) (rC (.int 2)))) (rRet (rOp2 oMin (rName 2) (rName 1))) rNext) (rSeq (rIf (rB (rOp2 (oEq false) (rName 2) (rC (.int 2)))) (rRet (rName 1)) rNext) (rSeq (rIf (rB (rOp2 (oEq false) (rName 2) (rC (.int 3)))) (rRet (rCall [.t, .s] s_law_take [] (rCons (rName 0) (rCons (rOp2 oAdd (rName 1) (rC (.int 1))) rNil)))) rNext) (rRet (rCall [.t, .s] s_law_take [] (rCons (rName 0) (rCons (rOp2 oAdd (rOp2 oMin (rName 1) (rC (.int 4))) (rC (.int 1))) rNil))))))))) : RS) (endsF [.t, .s] ds R F) (slots0 [.t, .s] ds ++ List.replicate 1 .no)) :
    FnOk P w K mg base (L2.CX P w) 3 f fd ["_law_store_here", "_law_most"] (spQ K T [.t, .s] qz) := by
  refine q_fn (N := N_law_size) F sc_law_size rfl (fun cdv A outer s H E g hr hT => ?_) pure
  have hN : N_law_size.Nodup := sc_law_size.nd
  have hp := passes_of (X := cxOf (L2.CX P w) P w K mg base N_law_size "_law_size" (defScope (top 24)) f cdv A outer s H E) rfl
  exact (qs_cons (q_set (i := 1) hN rfl (by first | exact Or.inl rfl | exact Or.inr rfl) (q_max rfl rfl b_max qi (qv 1))) (qs_cons (q_set (i := 2) hN rfl (by first | exact Or.inl rfl | exact Or.inr rfl) (q_call (ms := [.t, .s]) (dd := []) (fnT hT (c__law_take.ok.mono (Nat.le_trans l__law_take (by decide)))) hr rfl c__law_take.mg c__law_take.kp c__law_take.bd .nil (fun _ _ _ => rfl) (qa_cons (qv 0) (qa_cons qi qa_nil)))) (qs_cons (q_if (q_cmpT op_ltG rd_cmpG (qv 2) qi (nomark _)) (qs_one (q_ret (q_min rfl rfl b_min (qv 2) (qv 1)))) qs_nil) (qs_cons (q_if (q_cmpT (op_eqQ (have z := uE hr; z)) rd_eq (qv 2) qi (nomark _)) (qs_one (q_ret (qv 1))) qs_nil) (qs_cons (q_if (q_cmpT (op_eqQ (have z := uE hr; z)) rd_eq (qv 2) qi (nomark _)) (qs_one (q_ret (q_call (ms := [.t, .s]) (dd := []) (fnT hT (c__law_take.ok.mono (Nat.le_trans l__law_take (by decide)))) hr rfl c__law_take.mg c__law_take.kp c__law_take.bd .nil (fun _ _ _ => rfl) (qa_cons (qv 0) (qa_cons (q_add (qv 1) qi) qa_nil))))) qs_nil) (qs_one (q_ret (q_call (ms := [.t, .s]) (dd := []) (fnT hT (c__law_take.ok.mono (Nat.le_trans l__law_take (by decide)))) hr rfl c__law_take.mg c__law_take.kp c__law_take.bd .nil (fun _ _ _ => rfl) (qa_cons (qv 0) (qa_cons (q_add (q_min rfl rfl b_min (qv 1) qi) qi) qa_nil))))))))))
def N_law_large : List Str := ["_law_store_here", "_law_bound", "_law_choice"]
theorem sc_law_large : FnScope N_law_large ["_law_store_here", "_law_bound"] (defScope (top 25)) := by refine ⟨?_, ?_, ?_, ?_, ?_, ?_, ?_⟩ <;> first | rfl | decide
theorem fn_law_large {f : Addr} {fd : FuncData} {qz : QSpec}
    {k__law_take : Nat} {f__law_take : Addr} {fd__law_take : FuncData} {s_law_take : QSpec} (l__law_take : k__law_take ≤ 2) (c__law_take : Cd P w K mg base T "_law_take" ["_law_store_here", "_law_many"] k__law_take [.t, .s] s_law_take (top 23) f__law_take fd__law_take)
    (b_min : mg "min" = none)
    (b_max : mg "max" = none)
    (F : Fun K "_law_large" "_law_large" (top 25) f fd) (pure : ∀ (ds : List D) (R : SV → Prop) (F : Exn → Prop), qz ds R F → ((rSeq (rSet 2 (rCall [.t, .s] s_law_take [] (rCons (rName 0) (rCons (rC (.int 8)) rNil)))) (rSeq (rIf (rB (rOp2 oLtG (rName 2) (rC (.int 2)))) (rRet (rOp2 oMax (rC (.int 0)) (rOp2 oMin (rName 2) (rOp2 oSub (rName 1) (rC (.int 1)))))) rNext) (rSeq (rIf (rB (rOp2 (oEq false) (rName 2) (rC (.int 2)))) (rRet (rOp2 oMax (rC (.int 0)) (rOp2 oSub (rName 1) (rC (.int 1))))) rNext) (rSeq (rIf (rB (rOp2 (oEq false) (rName 2) (rC (.int 3)))) (rRet (rCall [.t, .s] s_law_take [] (rCons (rName 0) (rCons (rName 1) rNil)))) rNext) (rRet (rCall [.t, .s] s_law_take [] (rCons (rName 0) (rCons (rOp2 oMin (rName 1) (rC (.int 12))) rNil)))))))) : RS) (endsF [.t, .s] ds R F) (slots0 [.t, .s] ds ++ List.replicate 1 .no)) :
    FnOk P w K mg base (L2.CX P w) 3 f fd ["_law_store_here", "_law_bound"] (spQ K T [.t, .s] qz) := by
  refine q_fn (N := N_law_large) F sc_law_large rfl (fun cdv A outer s H E g hr hT => ?_) pure
  have hN : N_law_large.Nodup := sc_law_large.nd
  have hp := passes_of (X := cxOf (L2.CX P w) P w K mg base N_law_large "_law_large" (defScope (top 25)) f cdv A outer s H E) rfl
  exact (qs_cons (q_set (i := 2) hN rfl (by first | exact Or.inl rfl | exact Or.inr rfl) (q_call (ms := [.t, .s]) (dd := []) (fnT hT (c__law_take.ok.mono (Nat.le_trans l__law_take (by decide)))) hr rfl c__law_take.mg c__law_take.kp c__law_take.bd .nil (fun _ _ _ => rfl) (qa_cons (qv 0) (qa_cons qi qa_nil)))) (qs_cons (q_if (q_cmpT op_ltG rd_cmpG (qv 2) qi (nomark _)) (qs_one (q_ret (q_max rfl rfl b_max qi (q_min rfl rfl b_min (qv 2) (q_sub (qv 1) qi))))) qs_nil) (qs_cons (q_if (q_cmpT (op_eqQ (have z := uE hr; z)) rd_eq (qv 2) qi (nomark _)) (qs_one (q_ret (q_max rfl rfl b_max qi (q_sub (qv 1) qi)))) qs_nil) (qs_cons (q_if (q_cmpT (op_eqQ (have z := uE hr; z)) rd_eq (qv 2) qi (nomark _)) (qs_one (q_ret (q_call (ms := [.t, .s]) (dd := []) (fnT hT (c__law_take.ok.mono (Nat.le_trans l__law_take (by decide)))) hr rfl c__law_take.mg c__law_take.kp c__law_take.bd .nil (fun _ _ _ => rfl) (qa_cons (qv 0) (qa_cons (qv 1) qa_nil))))) qs_nil) (qs_one (q_ret (q_call (ms := [.t, .s]) (dd := []) (fnT hT (c__law_take.ok.mono (Nat.le_trans l__law_take (by decide)))) hr rfl c__law_take.mg c__law_take.kp c__law_take.bd .nil (fun _ _ _ => rfl) (qa_cons (qv 0) (qa_cons (q_min rfl rfl b_min (qv 1) qi) qa_nil)))))))))
def N_law_pick : List Str := ["_law_store_here", "_law_row"]
theorem sc_law_pick : FnScope N_law_pick ["_law_store_here", "_law_row"] (defScope (top 26)) := by refine ⟨?_, ?_, ?_, ?_, ?_, ?_, ?_⟩ <;> first | rfl | decide
theorem fn_law_pick {f : Addr} {fd : FuncData} {qz : QSpec}
    {k__law_take : Nat} {f__law_take : Addr} {fd__law_take : FuncData} {s_law_take : QSpec} (l__law_take : k__law_take ≤ 2) (c__law_take : Cd P w K mg base T "_law_take" ["_law_store_here", "_law_many"] k__law_take [.t, .s] s_law_take (top 23) f__law_take fd__law_take)
    (b_len : mg "len" = none)
    (F : Fun K "_law_pick" "_law_pick" (top 26) f fd) (pure : ∀ (ds : List D) (R : SV → Prop) (F : Exn → Prop), qz ds R F → ((rSeq (rIf (rB (rOp2 oLtG (rB1 oLen (rName 1)) (rC (.int 1)))) (rRet (rC .non)) rNext) (rRet (rOp2 oIx (rName 1) (rCall [.t, .s] s_law_take [] (rCons (rName 0) (rCons (rB1 oLen (rName 1)) rNil)))))) : RS) (endsF [.t, .s] ds R F) (slots0 [.t, .s] ds ++ List.replicate 0 .no)) :
    FnOk P w K mg base (L2.CX P w) 3 f fd ["_law_store_here", "_law_row"] (spQ K T [.t, .s] qz) := by
  refine q_fn (N := N_law_pick) F sc_law_pick rfl (fun cdv A outer s H E g hr hT => ?_) pure
  have hN : N_law_pick.Nodup := sc_law_pick.nd
  have hp := passes_of (X := cxOf (L2.CX P w) P w K mg base N_law_pick "_law_pick" (defScope (top 26)) f cdv A outer s H E) rfl
  exact (qs_cons (q_if (q_cmpT op_ltG rd_cmpG (q_len rfl b_len (qv 1)) qi (nomark _)) (qs_one (q_ret qn)) qs_nil) (qs_one (q_ret (q_ix (have z := hu_of hr; z) (qv 1) (q_call (ms := [.t, .s]) (dd := []) (fnT hT (c__law_take.ok.mono (Nat.le_trans l__law_take (by decide)))) hr rfl c__law_take.mg c__law_take.kp c__law_take.bd .nil (fun _ _ _ => rfl) (qa_cons (qv 0) (qa_cons (q_len rfl b_len (qv 1)) qa_nil)))))))
def N_law_odds : List Str := ["_law_store_here", "_law_parts"]
theorem sc_law_odds : FnScope N_law_odds ["_law_store_here", "_law_parts"] (defScope (top 27)) := by refine ⟨?_, ?_, ?_, ?_, ?_, ?_, ?_⟩ <;> first | rfl | decide
theorem fn_law_odds {f : Addr} {fd : FuncData} {qz : QSpec}
    {k__law_take : Nat} {f__law_take : Addr} {fd__law_take : FuncData} {s_law_take : QSpec} (l__law_take : k__law_take ≤ 2) (c__law_take : Cd P w K mg base T "_law_take" ["_law_store_here", "_law_many"] k__law_take [.t, .s] s_law_take (top 23) f__law_take fd__law_take)
    (F : Fun K "_law_odds" "_law_odds" (top 27) f fd) (pure : ∀ (ds : List D) (R : SV → Prop) (F : Exn → Prop), qz ds R F → ((rRet (rOp2 (oEq false) (rCall [.t, .s] s_law_take [] (rCons (rName 0) (rCons (rName 1) rNil))) (rC (.int 0)))) : RS) (endsF [.t, .s] ds R F) (slots0 [.t, .s] ds ++ List.replicate 0 .no)) :
    FnOk P w K mg base (L2.CX P w) 3 f fd ["_law_store_here", "_law_parts"] (spQ K T [.t, .s] qz) := by
  refine q_fn (N := N_law_odds) F sc_law_odds rfl (fun cdv A outer s H E g hr hT => ?_) pure
  have hN : N_law_odds.Nodup := sc_law_odds.nd
  have hp := passes_of (X := cxOf (L2.CX P w) P w K mg base N_law_odds "_law_odds" (defScope (top 27)) f cdv A outer s H E) rfl
  exact (qs_one (q_ret (q_cmp (op_eqQ (have z := uE hr; z)) rd_eq (q_call (ms := [.t, .s]) (dd := []) (fnT hT (c__law_take.ok.mono (Nat.le_trans l__law_take (by decide)))) hr rfl c__law_take.mg c__law_take.kp c__law_take.bd .nil (fun _ _ _ => rfl) (qa_cons (qv 0) (qa_cons (qv 1) qa_nil))) qi (nomark _))))
def N_law_some : List Str := ["_law_store_here", "_law_row", "_law_many", "_law_pool", "_law_out", "_law_k"]
theorem sc_law_some : FnScope N_law_some ["_law_store_here", "_law_row", "_law_many"] (defScope (top 28)) := by refine ⟨?_, ?_, ?_, ?_, ?_, ?_, ?_⟩ <;> first | rfl | decide
theorem fn_law_some {f : Addr} {fd : FuncData} {qz : QSpec}
    {k__law_take : Nat} {f__law_take : Addr} {fd__law_take : FuncData} {s_law_take : QSpec} (l__law_take : k__law_take ≤ 2) (c__law_take : Cd P w K mg base T "_law_take" ["_law_store_here", "_law_many"] k__law_take [.t, .s] s_law_take (top 23) f__law_take fd__law_take)
    (b_list : mg "list" = none)
    (b_len : mg "len" = none)
    (b_min : mg "min" = none)
    (b_range : mg "range" = none)
    (F : Fun K "_law_some" "_law_some" (top 28) f fd) (pure : ∀ (ds : List D) (R : SV → Prop) (F : Exn → Prop), qz ds R F → ((rSeq (rSet 3 (rB1 oList (rName 1))) (rSeq (rSet 4 (rLst rNil)) (rSeq (rFor (riR1 (rCons (rOp2 oMin (rName 2) (rB1 oLen (rName 3))) rNil)) (gN 5) (rDrop (rMS2 4 moAppend (rCons (rMS2 3 moPop (rCons (rCall [.t, .s] s_law_take [] (rCons (rName 0) (rCons (rB1 oLen (rName 3)) rNil))) rNil)) rNil)))) (rRet (rName 4))))) : RS) (endsF [.t, .s, .s] ds R F) (slots0 [.t, .s, .s] ds ++ List.replicate 3 .no)) :
    FnOk P w K mg base (L2.CX P w) 3 f fd ["_law_store_here", "_law_row", "_law_many"] (spQ K T [.t, .s, .s] qz) := by
  refine q_fn (N := N_law_some) F sc_law_some rfl (fun cdv A outer s H E g hr hT => ?_) pure
  have hN : N_law_some.Nodup := sc_law_some.nd
  have hp := passes_of (X := cxOf (L2.CX P w) P w K mg base N_law_some "_law_some" (defScope (top 28)) f cdv A outer s H E) rfl
  exact (qs_cons (q_set (i := 3) hN rfl (by first | exact Or.inl rfl | exact Or.inr rfl) (q_list rfl b_list (qv 1))) (qs_cons (q_set (i := 4) hN rfl (by first | exact Or.inl rfl | exact Or.inr rfl) (q_lst qa_nil)) (qs_cons (q_for hp rfl (qi_range1 rfl b_range (qa_cons (q_min rfl rfl b_min (qv 2) (q_len rfl b_len (qv 3))) qa_nil)) (qg_name (i := 5) hN rfl (by first | exact Or.inl rfl | exact Or.inr rfl)) (qs_one (q_expr (q_append 4 rfl (q_popAt 3 rfl (q_call (ms := [.t, .s]) (dd := []) (fnT hT (c__law_take.ok.mono (Nat.le_trans l__law_take (by decide)))) hr rfl c__law_take.mg c__law_take.kp c__law_take.bd .nil (fun _ _ _ => rfl) (qa_cons (qv 0) (qa_cons (q_len rfl b_len (qv 3)) qa_nil)))))))) (qs_one (q_ret (qv 4))))))
def N_law_shuffled : List Str := ["_law_store_here", "_law_row", "_law_choice", "_law_k"]
theorem sc_law_shuffled : FnScope N_law_shuffled ["_law_store_here", "_law_row"] (defScope (top 29)) := by refine ⟨?_, ?_, ?_, ?_, ?_, ?_, ?_⟩ <;> first | rfl | decide
theorem fn_law_shuffled {f : Addr} {fd : FuncData} {qz : QSpec}
    {k__law_take : Nat} {f__law_take : Addr} {fd__law_take : FuncData} {s_law_take : QSpec} (l__law_take : k__law_take ≤ 3) (c__law_take : Cd P w K mg base T "_law_take" ["_law_store_here", "_law_many"] k__law_take [.t, .s] s_law_take (top 23) f__law_take fd__law_take)
    {k__law_some : Nat} {f__law_some : Addr} {fd__law_some : FuncData} {s_law_some : QSpec} (l__law_some : k__law_some ≤ 3) (c__law_some : Cd P w K mg base T "_law_some" ["_law_store_here", "_law_row", "_law_many"] k__law_some [.t, .s, .s] s_law_some (top 28) f__law_some fd__law_some)
    (b_list : mg "list" = none)
    (b_len : mg "len" = none)
    (b_range : mg "range" = none)
    (F : Fun K "_law_shuffled" "_law_shuffled" (top 29) f fd) (pure : ∀ (ds : List D) (R : SV → Prop) (F : Exn → Prop), qz ds R F → ((rSeq (rSet 2 (rCall [.t, .s] s_law_take [] (rCons (rName 0) (rCons (rC (.int 4)) rNil)))) (rSeq (rIf (rB (rOp2 (oEq false) (rName 2) (rC (.int 0)))) (rRet (rB1 oList (rName 1))) rNext) (rSeq (rIf (rB (rOp2 (oEq false) (rName 2) (rC (.int 1)))) (rRet (rLc [3] (riR1 (rCons (rB1 oLen (rName 1)) rNil)) (gN 3) rYes (rOp2 oIx (rName 1) (rOp2 oSub (rOp2 oSub (rB1 oLen (rName 1)) (rC (.int 1))) (rName 3))))) rNext) (rRet (rCall [.t, .s, .s] s_law_some [] (rCons (rName 0) (rCons (rName 1) (rCons (rB1 oLen (rName 1)) rNil)))))))) : RS) (endsF [.t, .s] ds R F) (slots0 [.t, .s] ds ++ List.replicate 2 .no)) :
    FnOk P w K mg base (L2.CX P w) 4 f fd ["_law_store_here", "_law_row"] (spQ K T [.t, .s] qz) := by
  refine q_fn (N := N_law_shuffled) F sc_law_shuffled rfl (fun cdv A outer s H E g hr hT => ?_) pure
  have hN : N_law_shuffled.Nodup := sc_law_shuffled.nd
  have hp := passes_of (X := cxOf (L2.CX P w) P w K mg base N_law_shuffled "_law_shuffled" (defScope (top 29)) f cdv A outer s H E) rfl
  exact (qs_cons (q_set (i := 2) hN rfl (by first | exact Or.inl rfl | exact Or.inr rfl) (q_call (ms := [.t, .s]) (dd := []) (fnT hT (c__law_take.ok.mono (Nat.le_trans l__law_take (by decide)))) hr rfl c__law_take.mg c__law_take.kp c__law_take.bd .nil (fun _ _ _ => rfl) (qa_cons (qv 0) (qa_cons qi qa_nil)))) (qs_cons (q_if (q_cmpT (op_eqQ (have z := uE hr; z)) rd_eq (qv 2) qi (nomark _)) (qs_one (q_ret (q_list rfl b_list (qv 1)))) qs_nil) (qs_cons (q_if (q_cmpT (op_eqQ (have z := uE hr; z)) rd_eq (qv 2) qi (nomark _)) (qs_one (q_ret (q_lc rfl hN (own := [("_law_k", 3)]) (qi_range1 rfl b_range (qa_cons (q_len rfl b_len (qv 1)) qa_nil)) (blkOk_by (by rfl)) (by decide) (fun _ _ _ _ _ => (qg_name (i := 3) hN rfl (by first | exact Or.inl rfl | exact Or.inr rfl) (.inr rfl))) (fun _ _ _ _ _ => qts_nil) (fun _ _ _ _ _ => (q_ix (have z := hu_of hr; z) (qv 1) (q_sub (q_sub (q_len rfl b_len (qv 1)) qi) (qv 3))))))) qs_nil) (qs_one (q_ret (q_call (ms := [.t, .s, .s]) (dd := []) (fnT hT (c__law_some.ok.mono (Nat.le_trans l__law_some (by decide)))) hr rfl c__law_some.mg c__law_some.kp c__law_some.bd .nil (fun _ _ _ => rfl) (qa_cons (qv 0) (qa_cons (qv 1) (qa_cons (q_len rfl b_len (qv 1)) qa_nil)))))))))
def N_law_is_int : List Str := ["_law_value"]
theorem sc_law_is_int : FnScope N_law_is_int ["_law_value"] (defScope (top 30)) := by refine ⟨?_, ?_, ?_, ?_, ?_, ?_, ?_⟩ <;> first | rfl | decide
theorem fn_law_is_int {f : Addr} {fd : FuncData} {qz : QSpec}
    (b_isinstance : mg "isinstance" = none)
    (b_int : mg "int" = none)
    (b_bool : mg "bool" = none)
    (F : Fun K "_law_is_int" "_law_is_int" (top 30) f fd) (pure : ∀ (ds : List D) (R : SV → Prop) (F : Exn → Prop), qz ds R F → ((rRet (rAndV (rB1 (oIsa .int) (rName 0)) (rNotV (rB1 (oIsa .bool) (rName 0))))) : RS) (endsF [.s] ds R F) (slots0 [.s] ds ++ List.replicate 0 .no)) :
    FnOk P w K mg base (L2.CX P w) 1 f fd ["_law_value"] (spQ K T [.s] qz) := by
  refine q_fn (N := N_law_is_int) F sc_law_is_int rfl (fun cdv A outer s H E g hr hT => ?_) pure
  have hN : N_law_is_int.Nodup := sc_law_is_int.nd
  have hp := passes_of (X := cxOf (L2.CX P w) P w K mg base N_law_is_int "_law_is_int" (defScope (top 30)) f cdv A outer s H E) rfl
  exact (qs_one (q_ret (q_and (q_isa .int rfl b_isinstance rfl b_int (qv 0)) (q_one (q_not (q_isa .bool rfl b_isinstance rfl b_bool (qv 0)))))))
def N_law_same : List Str := ["_law_actual", "_law_due", "_law_k", "_law_key"]
theorem sc_law_same : FnScope N_law_same ["_law_actual", "_law_due"] (defScope (top 31)) := by refine ⟨?_, ?_, ?_, ?_, ?_, ?_, ?_⟩ <;> first | rfl | decide
theorem fn_law_same {f : Addr} {fd : FuncData} {qz : QSpec}
    {n k__law_same : Nat} {s_law_same : QSpec} (l__law_same : k__law_same ≤ n) (hn : 0 ≤ n) (c__law_same : Cd P w K mg base T "_law_same" ["_law_actual", "_law_due"] k__law_same [.s, .s] s_law_same (top 31) f fd)
    (b_isinstance : mg "isinstance" = none)
    (b_bool : mg "bool" = none)
    (b_int : mg "int" = none)
    (b_str : mg "str" = none)
    (b_dict : mg "dict" = none)
    (b_list : mg "list" = none)
    (b_tuple : mg "tuple" = none)
    (b_len : mg "len" = none)
    (b_range : mg "range" = none)
    (F : Fun K "_law_same" "_law_same" (top 31) f fd) (pure : ∀ (ds : List D) (R : SV → Prop) (F : Exn → Prop), qz ds R F → ((rSeq (rIf (rOr (rB (rOp2 (oIs false) (rName 1) (rC .non))) (rB (rOp2 (oIs false) (rName 0) (rC .non)))) (rRet (rAndV (rOp2 (oIs false) (rName 1) (rC .non)) (rOp2 (oIs false) (rName 0) (rC .non)))) rNext) (rSeq (rIf (rOr (rB (rOp2 (oEq true) (rB1 (oIsa .bool) (rName 0)) (rB1 (oIsa .bool) (rName 1)))) (rB (rOp2 (oEq true) (rB1 (oIsa .int) (rName 0)) (rB1 (oIsa .int) (rName 1))))) (rRet (rC (.bl false))) rNext) (rSeq (rIf (rOr (rB (rOp2 (oEq true) (rB1 (oIsa .str) (rName 0)) (rB1 (oIsa .str) (rName 1)))) (rB (rOp2 (oEq true) (rB1 (oIsa .dict) (rName 0)) (rB1 (oIsa .dict) (rName 1))))) (rRet (rC (.bl false))) rNext) (rSeq (rIf (rOr (rB (rOp2 (oEq true) (rB1 (oIsa .list) (rName 0)) (rB1 (oIsa .list) (rName 1)))) (rB (rOp2 (oEq true) (rB1 (oIsa .tuple) (rName 0)) (rB1 (oIsa .tuple) (rName 1))))) (rRet (rC (.bl false))) rNext) (rSeq (rIf (rB (rB1 (oIsas [.bool, .int, .str]) (rName 1))) (rRet (rOp2 (oEq false) (rName 0) (rName 1))) rNext) (rSeq (rIf (rB (rOp2 (oEq true) (rB1 oLen (rName 0)) (rB1 oLen (rName 1)))) (rRet (rC (.bl false))) rNext) (rSeq (rIf (rB (rB1 (oIsa .dict) (rName 1))) (rSeq (rFor (riK (rName 1)) (gN 3) (rIf (rOr (rB (rOp2 (oIn true) (rName 3) (rName 0))) (rNot (rB (rCall [.s, .s] s_law_same [] (rCons (rOp2 oIx (rName 0) (rName 3)) (rCons (rOp2 oIx (rName 1) (rName 3)) rNil)))))) (rRet (rC (.bl false))) rNext)) (rRet (rC (.bl true)))) rNext) (rSeq (rFor (riR1 (rCons (rB1 oLen (rName 1)) rNil)) (gN 2) (rIf (rNot (rB (rCall [.s, .s] s_law_same [] (rCons (rOp2 oIx (rName 0) (rName 2)) (rCons (rOp2 oIx (rName 1) (rName 2)) rNil))))) (rRet (rC (.bl false))) rNext)) (rRet (rC (.bl true))))))))))) : RS) (endsF [.s, .s] ds R F) (slots0 [.s, .s] ds ++ List.replicate 2 .no)) :
    FnOk P w K mg base (L2.CX P w) (n + 1) f fd ["_law_actual", "_law_due"] (spQ K T [.s, .s] qz) := by
  refine q_fn (N := N_law_same) F sc_law_same rfl (fun cdv A outer s H E g hr hT => ?_) pure
  have hN : N_law_same.Nodup := sc_law_same.nd
  have hp := passes_of (X := cxOf (L2.CX P w) P w K mg base N_law_same "_law_same" (defScope (top 31)) f cdv A outer s H E) rfl
  exact (qs_cons (q_if (QW.qt (qw_or (q_cmpT op_isF rd_isN (qv 1) qn (nomark _)) (qw_or1 (q_cmpT op_isF rd_isN (qv 0) qn (nomark _))))) (qs_one (q_ret (q_and (q_cmp op_isF rd_isN (qv 1) qn (nomark _)) (q_one (q_cmp op_isF rd_isN (qv 0) qn (nomark _)))))) qs_nil) (qs_cons (q_if (QW.qt (qw_or (q_cmpT (op_neQ (have z := uE hr; z)) rd_ne (q_isa .bool rfl b_isinstance rfl b_bool (qv 0)) (q_isa .bool rfl b_isinstance rfl b_bool (qv 1)) (nomark _)) (qw_or1 (q_cmpT (op_neQ (have z := uE hr; z)) rd_ne (q_isa .int rfl b_isinstance rfl b_int (qv 0)) (q_isa .int rfl b_isinstance rfl b_int (qv 1)) (nomark _))))) (qs_one (q_ret qb)) qs_nil) (qs_cons (q_if (QW.qt (qw_or (q_cmpT (op_neQ (have z := uE hr; z)) rd_ne (q_isa .str rfl b_isinstance rfl b_str (qv 0)) (q_isa .str rfl b_isinstance rfl b_str (qv 1)) (nomark _)) (qw_or1 (q_cmpT (op_neQ (have z := uE hr; z)) rd_ne (q_isa .dict rfl b_isinstance rfl b_dict (qv 0)) (q_isa .dict rfl b_isinstance rfl b_dict (qv 1)) (nomark _))))) (qs_one (q_ret qb)) qs_nil) (qs_cons (q_if (QW.qt (qw_or (q_cmpT (op_neQ (have z := uE hr; z)) rd_ne (q_isa .list rfl b_isinstance rfl b_list (qv 0)) (q_isa .list rfl b_isinstance rfl b_list (qv 1)) (nomark _)) (qw_or1 (q_cmpT (op_neQ (have z := uE hr; z)) rd_ne (q_isa .tuple rfl b_isinstance rfl b_tuple (qv 0)) (q_isa .tuple rfl b_isinstance rfl b_tuple (qv 1)) (nomark _))))) (qs_one (q_ret qb)) qs_nil) (qs_cons (q_if (q_val (q_isas [.bool, .int, .str] rfl b_isinstance (pac_cons (tyname (T := .bool) (by rfl) b_bool) (pac_cons (tyname (T := .int) (by rfl) b_int) (pac_cons (tyname (T := .str) (by rfl) b_str) pac_nil))) (by decide) (qv 1))) (qs_one (q_ret (q_cmp (op_eqQ (have z := uE hr; z)) rd_eq (qv 0) (qv 1) (nomark _)))) qs_nil) (qs_cons (q_if (q_cmpT (op_neQ (have z := uE hr; z)) rd_ne (q_len rfl b_len (qv 0)) (q_len rfl b_len (qv 1)) (nomark _)) (qs_one (q_ret qb)) qs_nil) (qs_cons (q_if (q_val (q_isa .dict rfl b_isinstance rfl b_dict (qv 1))) (qs_cons (q_forK hp rfl (qv 1) (fun _ => (qg_name (i := 3) hN rfl (by first | exact Or.inl rfl | exact Or.inr rfl))) (fun _ => (qs_one (q_if (QW.qt (qw_or (q_cmpT (op_notInQ (have z := uI hr; z)) rd_notIn (qv 3) (qv 0) (by rfl)) (qw_or1 (qt_not (q_val (q_call (ms := [.s, .s]) (dd := []) (fnT hT (c__law_same.ok.mono l__law_same)) hr rfl c__law_same.mg c__law_same.kp c__law_same.bd .nil (fun _ _ _ => rfl) (qa_cons (q_ix (have z := hu_of hr; z) (qv 0) (qv 3)) (qa_cons (q_ix (have z := hu_of hr; z) (qv 1) (qv 3)) qa_nil)))))))) (qs_one (q_ret qb)) qs_nil)))) (qs_one (q_ret qb))) qs_nil) (qs_cons (q_for hp rfl (qi_range1 rfl b_range (qa_cons (q_len rfl b_len (qv 1)) qa_nil)) (qg_name (i := 2) hN rfl (by first | exact Or.inl rfl | exact Or.inr rfl)) (qs_one (q_if (qt_not (q_val (q_call (ms := [.s, .s]) (dd := []) (fnT hT (c__law_same.ok.mono l__law_same)) hr rfl c__law_same.mg c__law_same.kp c__law_same.bd .nil (fun _ _ _ => rfl) (qa_cons (q_ix (have z := hu_of hr; z) (qv 0) (qv 2)) (qa_cons (q_ix (have z := hu_of hr; z) (qv 1) (qv 2)) qa_nil))))) (qs_one (q_ret qb)) qs_nil))) (qs_one (q_ret qb))))))))))
def N_law_spoil : List Str := ["_law_store_here", "_law_value", "_law_x", "_law_choice"]
theorem sc_law_spoil : FnScope N_law_spoil ["_law_store_here", "_law_value"] (defScope (top 32)) := by refine ⟨?_, ?_, ?_, ?_, ?_, ?_, ?_⟩ <;> first | rfl | decide
theorem fn_law_spoil {f : Addr} {fd : FuncData}
    {n k__law_spoil : Nat} (l__law_spoil : k__law_spoil ≤ n + 2) (c__law_spoil : CdS P w K mg base "_law_spoil" ["_law_store_here", "_law_value"] k__law_spoil (spW2 K T n) (top 32) f fd)
    {k__law_take : Nat} {f__law_take : Addr} {fd__law_take : FuncData} {s_law_take : QSpec} (l__law_take : k__law_take ≤ 2) (c__law_take : Cd P w K mg base T "_law_take" ["_law_store_here", "_law_many"] k__law_take [.t, .s] s_law_take (top 23) f__law_take fd__law_take)
    (b_isinstance : mg "isinstance" = none)
    (b_list : mg "list" = none)
    (b_tuple : mg "tuple" = none)
    (b_len : mg "len" = none)
    (F : Fun K "_law_spoil" "_law_spoil" (top 32) f fd) (hqt : ∀ a (R : SV → Prop) (F : Exn → Prop), (∀ r : Int, R (.fr true (.int r))) → s_law_take [.ref a, .int 3] R F) :
    FnOk P w K mg base (L2.CX P w) (n + 2 + 1) f fd ["_law_store_here", "_law_value"] (spW2 K T (n + 1)) := by
  refine fnW2 hqt F sc_law_spoil (fun cdv A outer s H E hr => ?_)
  have hN : N_law_spoil.Nodup := sc_law_spoil.nd
  have hp := passes_of (X := cxOf (L2.CX P w) P w K mg base N_law_spoil "_law_spoil" (defScope (top 32)) f cdv A outer s H E) rfl
  exact (pss_cons (ps_if (pt_val (pe_callB call_isiT rfl b_isinstance (by rfl) (pa_cons (L2.pv 1) (pa_cons (pe_tup (pac_cons (tyname (T := .list) (by rfl) b_list) (pac_cons (tyname (T := .tuple) (by rfl) b_tuple) pac_nil))) pa_nil (by rfl)) (by rfl)) (by decide) (by decide) (by rfl) (by rfl))) (pss_one (ps_for hp rfl (pi_any (L2.pv 1)) (pg_name (i := 2) hN rfl (by first | exact Or.inl rfl | exact Or.inr rfl)) (pss_one (ps_expr (pe_call (c__law_spoil.ok.mono l__law_spoil) hr rfl c__law_spoil.mg c__law_spoil.kp c__law_spoil.bd .nil passL (pa_cons (L2.pv 0) (pa_cons (L2.pv 2) pa_nil))))))) pss_nil) (pss_one (ps_if (pt_val (pe_callB call_isi rfl b_isinstance (by rfl) (pa_cons (L2.pv 1) (pa_cons (tyname (T := .list) (by rfl) b_list) pa_nil (by rfl)) (by rfl)) (by decide) (by decide) (by rfl) (by rfl))) (pss_cons (ps_set (i := 3) hN rfl (by first | exact Or.inl rfl | exact Or.inr rfl) (pe_call (c__law_take.ok.mono (Nat.le_trans l__law_take (by omega))) hr rfl c__law_take.mg c__law_take.kp c__law_take.bd .nil passL (pa_cons (L2.pv 0) (pa_cons pe_int pa_nil)))) (pss_one (ps_if (PW.pt (pw_or (pt_cmpR op_eq (L2.pv 3) pe_int (nomark _)) (pw_or1 (pt_cmpR op_lt (pe_callB call_len rfl b_len (by rfl) (pa_cons (L2.pv 1) pa_nil) (by decide) (by decide) (by rfl) (by rfl)) pe_int (nomark _))))) (pss_one (ps_expr (pe_bm PySem.F.plainAttrs_list PySem.F.slot_list_append PySem.F.type_list_append mt_append (L2.pv 1) (pa_cons pe_str pa_nil)))) (pss_one (ps_if (pt_cmpR op_eq (L2.pv 3) pe_int (nomark _)) (pss_one (ps_asg pe_str (pg_sub (L2.pv 1) pe_int set_list))) (pss_one (ps_expr (pe_bm0 PySem.F.plainAttrs_list PySem.F.slot_list_clear PySem.F.type_list_clear mt_clear (L2.pv 1))))))))) pss_nil)))
def N_law_steps : List Str := ["_law_store_here", "_law_many", "_law_steps_here", "_law_at", "_law_k", "_law_start", "_law_step", "_law_stop"]
theorem sc_law_steps : FnScope N_law_steps ["_law_store_here", "_law_many"] (defScope (top 33)) := by refine ⟨?_, ?_, ?_, ?_, ?_, ?_, ?_⟩ <;> first | rfl | decide
theorem fn_law_steps {f : Addr} {fd : FuncData} {qz : QSpec}
    {k__law_take : Nat} {f__law_take : Addr} {fd__law_take : FuncData} {s_law_take : QSpec} (l__law_take : k__law_take ≤ 4) (c__law_take : Cd P w K mg base T "_law_take" ["_law_store_here", "_law_many"] k__law_take [.t, .s] s_law_take (top 23) f__law_take fd__law_take)
    {k__law_large : Nat} {f__law_large : Addr} {fd__law_large : FuncData} {s_law_large : QSpec} (l__law_large : k__law_large ≤ 4) (c__law_large : Cd P w K mg base T "_law_large" ["_law_store_here", "_law_bound"] k__law_large [.t, .s] s_law_large (top 25) f__law_large fd__law_large)
    {k__law_size : Nat} {f__law_size : Addr} {fd__law_size : FuncData} {s_law_size : QSpec} (l__law_size : k__law_size ≤ 4) (c__law_size : Cd P w K mg base T "_law_size" ["_law_store_here", "_law_most"] k__law_size [.t, .s] s_law_size (top 24) f__law_size fd__law_size)
    {k__law_odds : Nat} {f__law_odds : Addr} {fd__law_odds : FuncData} {s_law_odds : QSpec} (l__law_odds : k__law_odds ≤ 4) (c__law_odds : Cd P w K mg base T "_law_odds" ["_law_store_here", "_law_parts"] k__law_odds [.t, .s] s_law_odds (top 27) f__law_odds fd__law_odds)
    {k__law_pick : Nat} {f__law_pick : Addr} {fd__law_pick : FuncData} {s_law_pick : QSpec} (l__law_pick : k__law_pick ≤ 4) (c__law_pick : Cd P w K mg base T "_law_pick" ["_law_store_here", "_law_row"] k__law_pick [.t, .s] s_law_pick (top 26) f__law_pick fd__law_pick)
    {k__law_shuffled : Nat} {f__law_shuffled : Addr} {fd__law_shuffled : FuncData} {s_law_shuffled : QSpec} (l__law_shuffled : k__law_shuffled ≤ 4) (c__law_shuffled : Cd P w K mg base T "_law_shuffled" ["_law_store_here", "_law_row"] k__law_shuffled [.t, .s] s_law_shuffled (top 29) f__law_shuffled fd__law_shuffled)
    (b_range : mg "range" = none)
    (b_min : mg "min" = none)
    (b_len : mg "len" = none)
    (F : Fun K "_law_steps" "_law_steps" (top 33) f fd) (pure : ∀ (ds : List D) (R : SV → Prop) (F : Exn → Prop), qz ds R F → ((rSeq (rSet 2 (rLst rNil)) (rSeq (rSet 3 (rC (.int 0))) (rSeq (rIf (rB (rOp2 oGtG (rCall [.t, .s] s_law_take [] (rCons (rName 0) (rCons (rC (.int 5)) rNil))) (rC (.int 0)))) (rFor (riR1 (rCons (rName 1) rNil)) (gN 4) (rIf (rB (rOp2 oLtG (rName 3) (rName 1))) (rSeq (rSet 7 (rOp2 oAdd (rOp2 oAdd (rName 3) (rC (.int 1))) (rCall [.t, .s] s_law_take [] (rCons (rName 0) (rCons (rOp2 oMin (rOp2 oSub (rName 1) (rName 3)) (rC (.int 9))) rNil))))) (rSeq (rDrop (rMS2 2 moAppend (rCons (rTup (rCons (rName 3) (rCons (rName 7) (rCons (rCall [.t, .s] s_law_large [] (rCons (rName 0) (rCons (rOp2 oPow (rC (.int 10)) (rC (.int 60))) rNil))) rNil)))) rNil))) (rSet 3 (rName 7)))) rNext)) rNext) (rSeq (rFor (riR1 (rCons (rOp2 oMin (rCall [.t, .s] s_law_size [] (rCons (rName 0) (rCons (rC (.int 60)) rNil))) (rOp2 oSub (rC (.int 60)) (rB1 oLen (rName 2)))) rNil)) (gN 4) (rSeq (rSet 5 (rCall [.t, .s] s_law_take [] (rCons (rName 0) (rCons (rName 1) rNil)))) (rIf (rB (rOp2 oLtG (rName 5) (rName 1))) (rDrop (rMS2 2 moAppend (rCons (rTup (rCons (rName 5) (rCons (rOp2 oAdd (rOp2 oAdd (rName 5) (rC (.int 1))) (rCall [.t, .s] s_law_take [] (rCons (rName 0) (rCons (rOp2 oSub (rName 1) (rName 5)) rNil)))) (rCons (rCall [.t, .s] s_law_large [] (rCons (rName 0) (rCons (rOp2 oPow (rC (.int 10)) (rC (.int 60))) rNil))) rNil)))) rNil))) rNext))) (rSeq (rIf (rAnd (rB (rOp2 oGtG (rB1 oLen (rName 2)) (rC (.int 0)))) (rB (rCall [.t, .s] s_law_odds [] (rCons (rName 0) (rCons (rC (.int 3)) rNil))))) (rSeq (rSet 6 (rLend (rCall [.t, .s] s_law_pick [] (rCons (rName 0) (rCons (rName 2) rNil))))) (rSeq (rDrop (rMS2 2 moAppend (rCons (rName 6) rNil))) (rDrop (rMS2 2 moAppend (rCons (rTup (rCons (rOp2 oIx (rName 6) (rC (.int 0))) (rCons (rOp2 oIx (rName 6) (rC (.int 1))) (rCons (rCall [.t, .s] s_law_large [] (rCons (rName 0) (rCons (rC (.int 12)) rNil))) rNil)))) rNil))))) rNext) (rRet (rCall [.t, .s] s_law_shuffled [] (rCons (rName 0) (rCons (rName 2) rNil))))))))) : RS) (endsF [.t, .s] ds R F) (slots0 [.t, .s] ds ++ List.replicate 6 .no)) :
    FnOk P w K mg base (L2.CX P w) 5 f fd ["_law_store_here", "_law_many"] (spQ K T [.t, .s] qz) := by
  refine q_fn (N := N_law_steps) F sc_law_steps rfl (fun cdv A outer s H E g hr hT => ?_) pure
  have hN : N_law_steps.Nodup := sc_law_steps.nd
  have hp := passes_of (X := cxOf (L2.CX P w) P w K mg base N_law_steps "_law_steps" (defScope (top 33)) f cdv A outer s H E) rfl
  exact (qs_cons (q_set (i := 2) hN rfl (by first | exact Or.inl rfl | exact Or.inr rfl) (q_lst qa_nil)) (qs_cons (q_set (i := 3) hN rfl (by first | exact Or.inl rfl | exact Or.inr rfl) qi) (qs_cons (q_if (q_cmpT op_gtG rd_cmpG (q_call (ms := [.t, .s]) (dd := []) (fnT hT (c__law_take.ok.mono (Nat.le_trans l__law_take (by decide)))) hr rfl c__law_take.mg c__law_take.kp c__law_take.bd .nil (fun _ _ _ => rfl) (qa_cons (qv 0) (qa_cons qi qa_nil))) qi (nomark _)) (qs_one (q_for hp rfl (qi_range1 rfl b_range (qa_cons (qv 1) qa_nil)) (qg_name (i := 4) hN rfl (by first | exact Or.inl rfl | exact Or.inr rfl)) (qs_one (q_if (q_cmpT op_ltG rd_cmpG (qv 3) (qv 1) (nomark _)) (qs_cons (q_set (i := 7) hN rfl (by first | exact Or.inl rfl | exact Or.inr rfl) (q_add (q_add (qv 3) qi) (q_call (ms := [.t, .s]) (dd := []) (fnT hT (c__law_take.ok.mono (Nat.le_trans l__law_take (by decide)))) hr rfl c__law_take.mg c__law_take.kp c__law_take.bd .nil (fun _ _ _ => rfl) (qa_cons (qv 0) (qa_cons (q_min rfl rfl b_min (q_sub (qv 1) (qv 3)) qi) qa_nil))))) (qs_cons (q_expr (q_append 2 rfl (q_tup (qa_cons (qv 3) (qa_cons (qv 7) (qa_cons (q_call (ms := [.t, .s]) (dd := []) (fnT hT (c__law_large.ok.mono (Nat.le_trans l__law_large (by decide)))) hr rfl c__law_large.mg c__law_large.kp c__law_large.bd .nil (fun _ _ _ => rfl) (qa_cons (qv 0) (qa_cons (q_pow qi qi) qa_nil))) qa_nil)))))) (qs_one (q_set (i := 3) hN rfl (by first | exact Or.inl rfl | exact Or.inr rfl) (qv 7))))) qs_nil)))) qs_nil) (qs_cons (q_for hp rfl (qi_range1 rfl b_range (qa_cons (q_min rfl rfl b_min (q_call (ms := [.t, .s]) (dd := []) (fnT hT (c__law_size.ok.mono (Nat.le_trans l__law_size (by decide)))) hr rfl c__law_size.mg c__law_size.kp c__law_size.bd .nil (fun _ _ _ => rfl) (qa_cons (qv 0) (qa_cons qi qa_nil))) (q_sub qi (q_len rfl b_len (qv 2)))) qa_nil)) (qg_name (i := 4) hN rfl (by first | exact Or.inl rfl | exact Or.inr rfl)) (qs_cons (q_set (i := 5) hN rfl (by first | exact Or.inl rfl | exact Or.inr rfl) (q_call (ms := [.t, .s]) (dd := []) (fnT hT (c__law_take.ok.mono (Nat.le_trans l__law_take (by decide)))) hr rfl c__law_take.mg c__law_take.kp c__law_take.bd .nil (fun _ _ _ => rfl) (qa_cons (qv 0) (qa_cons (qv 1) qa_nil)))) (qs_one (q_if (q_cmpT op_ltG rd_cmpG (qv 5) (qv 1) (nomark _)) (qs_one (q_expr (q_append 2 rfl (q_tup (qa_cons (qv 5) (qa_cons (q_add (q_add (qv 5) qi) (q_call (ms := [.t, .s]) (dd := []) (fnT hT (c__law_take.ok.mono (Nat.le_trans l__law_take (by decide)))) hr rfl c__law_take.mg c__law_take.kp c__law_take.bd .nil (fun _ _ _ => rfl) (qa_cons (qv 0) (qa_cons (q_sub (qv 1) (qv 5)) qa_nil)))) (qa_cons (q_call (ms := [.t, .s]) (dd := []) (fnT hT (c__law_large.ok.mono (Nat.le_trans l__law_large (by decide)))) hr rfl c__law_large.mg c__law_large.kp c__law_large.bd .nil (fun _ _ _ => rfl) (qa_cons (qv 0) (qa_cons (q_pow qi qi) qa_nil))) qa_nil))))))) qs_nil)))) (qs_cons (q_if (QW.qt (qw_and (q_cmpT op_gtG rd_cmpG (q_len rfl b_len (qv 2)) qi (nomark _)) (qw_and1 (q_val (q_call (ms := [.t, .s]) (dd := []) (fnT hT (c__law_odds.ok.mono (Nat.le_trans l__law_odds (by decide)))) hr rfl c__law_odds.mg c__law_odds.kp c__law_odds.bd .nil (fun _ _ _ => rfl) (qa_cons (qv 0) (qa_cons qi qa_nil))))))) (qs_cons (q_set (i := 6) hN rfl (by first | exact Or.inl rfl | exact Or.inr rfl) (q_lend fun g2 hg2 => have hT := hg2.trans hT; (q_call (ms := [.t, .s]) (dd := []) (fnT hT (c__law_pick.ok.mono (Nat.le_trans l__law_pick (by decide)))) hr rfl c__law_pick.mg c__law_pick.kp c__law_pick.bd .nil (fun _ _ _ => rfl) (qa_cons (qv 0) (qa_cons (qv 2) qa_nil))))) (qs_cons (q_expr (q_append 2 rfl (qv 6))) (qs_one (q_expr (q_append 2 rfl (q_tup (qa_cons (q_ix (have z := hu_of hr; z) (qv 6) qi) (qa_cons (q_ix (have z := hu_of hr; z) (qv 6) qi) (qa_cons (q_call (ms := [.t, .s]) (dd := []) (fnT hT (c__law_large.ok.mono (Nat.le_trans l__law_large (by decide)))) hr rfl c__law_large.mg c__law_large.kp c__law_large.bd .nil (fun _ _ _ => rfl) (qa_cons (qv 0) (qa_cons qi qa_nil))) qa_nil))))))))) qs_nil) (qs_one (q_ret (q_call (ms := [.t, .s]) (dd := []) (fnT hT (c__law_shuffled.ok.mono (Nat.le_trans l__law_shuffled (by decide)))) hr rfl c__law_shuffled.mg c__law_shuffled.kp c__law_shuffled.bd .nil (fun _ _ _ => rfl) (qa_cons (qv 0) (qa_cons (qv 2) qa_nil))))))))))
def N_law_many_steps : List Str := ["_law_store_here", "_law_many", "_law_size_here", "_law_turn", "_law_out", "_law_p", "_law_q"]
theorem sc_law_many_steps : FnScope N_law_many_steps ["_law_store_here", "_law_many"] (defScope (top 34)) := by refine ⟨?_, ?_, ?_, ?_, ?_, ?_, ?_⟩ <;> first | rfl | decide
theorem fn_law_many_steps {f : Addr} {fd : FuncData} {qz : QSpec}
    {k__law_take : Nat} {f__law_take : Addr} {fd__law_take : FuncData} {s_law_take : QSpec} (l__law_take : k__law_take ≤ 2) (c__law_take : Cd P w K mg base T "_law_take" ["_law_store_here", "_law_many"] k__law_take [.t, .s] s_law_take (top 23) f__law_take fd__law_take)
    (b_range : mg "range" = none)
    (b_min : mg "min" = none)
    (b_int : mg "int" = none)
    (F : Fun K "_law_many_steps" "_law_many_steps" (top 34) f fd) (pure : ∀ (ds : List D) (R : SV → Prop) (F : Exn → Prop), qz ds R F → ((rSeq (rSet 2 (rOp2 oAdd (rC (.int 4)) (rCall [.t, .s] s_law_take [] (rCons (rName 0) (rCons (rC (.int 13)) rNil))))) (rSeq (rSet 3 (rCall [.t, .s] s_law_take [] (rCons (rName 0) (rCons (rC (.int 13)) rNil)))) (rSeq (rSet 4 (rLst rNil)) (rSeq (rFor (riR1 (rCons (rName 1) rNil)) (gN 5) (rSet 4 (rOp2 oAdd (rName 4) (rLc [6] (riR2 (rCons (rOp2 oAdd (rName 5) (rC (.int 1))) (rCons (rOp2 oAdd (rOp2 oMin (rName 1) (rOp2 oAdd (rName 5) (rName 2))) (rC (.int 1))) rNil))) (gN 6) rYes (rTup (rCons (rName 5) (rCons (rName 6) (rCons (rOp2 oMod (rB1 oInt1 (rOp2 oAdd (rOp2 oRepG (rName 5) (rC (.int 7))) (rOp2 oRepG (rName 6) (rName 3)))) (rC (.int 13))) rNil)))))))) (rRet (rName 4)))))) : RS) (endsF [.t, .s] ds R F) (slots0 [.t, .s] ds ++ List.replicate 5 .no)) :
    FnOk P w K mg base (L2.CX P w) 3 f fd ["_law_store_here", "_law_many"] (spQ K T [.t, .s] qz) := by
  refine q_fn (N := N_law_many_steps) F sc_law_many_steps rfl (fun cdv A outer s H E g hr hT => ?_) pure
  have hN : N_law_many_steps.Nodup := sc_law_many_steps.nd
  have hp := passes_of (X := cxOf (L2.CX P w) P w K mg base N_law_many_steps "_law_many_steps" (defScope (top 34)) f cdv A outer s H E) rfl
  exact (qs_cons (q_set (i := 2) hN rfl (by first | exact Or.inl rfl | exact Or.inr rfl) (q_add qi (q_call (ms := [.t, .s]) (dd := []) (fnT hT (c__law_take.ok.mono (Nat.le_trans l__law_take (by decide)))) hr rfl c__law_take.mg c__law_take.kp c__law_take.bd .nil (fun _ _ _ => rfl) (qa_cons (qv 0) (qa_cons qi qa_nil))))) (qs_cons (q_set (i := 3) hN rfl (by first | exact Or.inl rfl | exact Or.inr rfl) (q_call (ms := [.t, .s]) (dd := []) (fnT hT (c__law_take.ok.mono (Nat.le_trans l__law_take (by decide)))) hr rfl c__law_take.mg c__law_take.kp c__law_take.bd .nil (fun _ _ _ => rfl) (qa_cons (qv 0) (qa_cons qi qa_nil)))) (qs_cons (q_set (i := 4) hN rfl (by first | exact Or.inl rfl | exact Or.inr rfl) (q_lst qa_nil)) (qs_cons (q_for hp rfl (qi_range1 rfl b_range (qa_cons (qv 1) qa_nil)) (qg_name (i := 5) hN rfl (by first | exact Or.inl rfl | exact Or.inr rfl)) (qs_one (q_set (i := 4) hN rfl (by first | exact Or.inl rfl | exact Or.inr rfl) (q_add (qv 4) (q_lc rfl hN (own := [("_law_q", 6)]) (qi_range2 rfl b_range (qa_cons (q_add (qv 5) qi) (qa_cons (q_add (q_min rfl rfl b_min (qv 1) (q_add (qv 5) (qv 2))) qi) qa_nil))) (blkOk_by (by rfl)) (by decide) (fun _ _ _ _ _ => (qg_name (i := 6) hN rfl (by first | exact Or.inl rfl | exact Or.inr rfl) (.inr rfl))) (fun _ _ _ _ _ => qts_nil) (fun _ _ _ _ _ => (q_tup (qa_cons (qv 5) (qa_cons (qv 6) (qa_cons (q_mod (q_int1 rfl b_int (q_add (q_repG (qv 5) qi) (q_repG (qv 6) (qv 3)))) qi) qa_nil)))))))))) (qs_one (q_ret (qv 4)))))))
def N_law_least_to : List Str := ["_law_many", "_law_steps_here", "_law_out", "_law_place", "_law_row", "_law_step"]
theorem sc_law_least_to : FnScope N_law_least_to ["_law_many", "_law_steps_here"] (defScope (top 35)) := by refine ⟨?_, ?_, ?_, ?_, ?_, ?_, ?_⟩ <;> first | rfl | decide
theorem fn_law_least_to {f : Addr} {fd : FuncData} {qz : QSpec}
    (b_range : mg "range" = none)
    (b_min : mg "min" = none)
    (F : Fun K "_law_least_to" "_law_least_to" (top 35) f fd) (pure : ∀ (ds : List D) (R : SV → Prop) (F : Exn → Prop), qz ds R F → ((rSeq (rSet 2 (rLst (rCons (rC (.int 0)) rNil))) (rSeq (rFor (riR2 (rCons (rC (.int 1)) (rCons (rOp2 oAdd (rName 0) (rC (.int 1))) rNil))) (gN 3) (rSeq (rSet 4 (rLst rNil)) (rSeq (rFor (riL (rName 1)) (gN 5) (rIf (rAnd (rB (rOp2 (oEq false) (rOp2 oIx (rName 5) (rC (.int 1))) (rName 3))) (rB (rOp2 (oIs true) (rOp2 oIx (rName 2) (rOp2 oIx (rName 5) (rC (.int 0)))) (rC .non)))) (rDrop (rMS2 4 moAppend (rCons (rOp2 oAdd (rOp2 oIx (rName 2) (rOp2 oIx (rName 5) (rC (.int 0)))) (rOp2 oIx (rName 5) (rC (.int 2)))) rNil))) rNext)) (rIf (rB (rOp2 (oEq false) (rName 4) (rLst rNil))) (rDrop (rMS2 2 moAppend (rCons (rC .non) rNil))) (rDrop (rMS2 2 moAppend (rCons (rB1 oMinL (rName 4)) rNil))))))) (rRet (rName 2)))) : RS) (endsF [.s, .s] ds R F) (slots0 [.s, .s] ds ++ List.replicate 4 .no)) :
    FnOk P w K mg base (L2.CX P w) 1 f fd ["_law_many", "_law_steps_here"] (spQ K T [.s, .s] qz) := by
  refine q_fn (N := N_law_least_to) F sc_law_least_to rfl (fun cdv A outer s H E g hr hT => ?_) pure
  have hN : N_law_least_to.Nodup := sc_law_least_to.nd
  have hp := passes_of (X := cxOf (L2.CX P w) P w K mg base N_law_least_to "_law_least_to" (defScope (top 35)) f cdv A outer s H E) rfl
  exact (qs_cons (q_set (i := 2) hN rfl (by first | exact Or.inl rfl | exact Or.inr rfl) (q_lst (qa_cons qi qa_nil))) (qs_cons (q_for hp rfl (qi_range2 rfl b_range (qa_cons qi (qa_cons (q_add (qv 0) qi) qa_nil))) (qg_name (i := 3) hN rfl (by first | exact Or.inl rfl | exact Or.inr rfl)) (qs_cons (q_set (i := 4) hN rfl (by first | exact Or.inl rfl | exact Or.inr rfl) (q_lst qa_nil)) (qs_cons (q_for hp rfl (qi_list (qv 1)) (qg_name (i := 5) hN rfl (by first | exact Or.inl rfl | exact Or.inr rfl)) (qs_one (q_if (QW.qt (qw_and (q_cmpT (op_eqQ (have z := uE hr; z)) rd_eq (q_ix (have z := hu_of hr; z) (qv 5) qi) (qv 3) (nomark _)) (qw_and1 (q_cmpT op_isT rd_isN (q_ix (have z := hu_of hr; z) (qv 2) (q_ix (have z := hu_of hr; z) (qv 5) qi)) qn (nomark _))))) (qs_one (q_expr (q_append 4 rfl (q_add (q_ix (have z := hu_of hr; z) (qv 2) (q_ix (have z := hu_of hr; z) (qv 5) qi)) (q_ix (have z := hu_of hr; z) (qv 5) qi))))) qs_nil))) (qs_one (q_if (q_cmpT (op_eqQ (have z := uE hr; z)) rd_eq (qv 4) (q_lst qa_nil) (nomark _)) (qs_one (q_expr (q_append 2 rfl qn))) (qs_one (q_expr (q_append 2 rfl (q_minL rfl rfl b_min (qv 4)))))))))) (qs_one (q_ret (qv 2)))))
def N_law_some_ends : List Str := ["_law_store_here", "_law_many", "_law_steps_here", "_law_ends", "_law_at", "_law_k", "_law_row", "_law_step"]
theorem sc_law_some_ends : FnScope N_law_some_ends ["_law_store_here", "_law_many", "_law_steps_here"] (defScope (top 36)) := by refine ⟨?_, ?_, ?_, ?_, ?_, ?_, ?_⟩ <;> first | rfl | decide
theorem fn_law_some_ends {f : Addr} {fd : FuncData} {qz : QSpec}
    {k__law_pick : Nat} {f__law_pick : Addr} {fd__law_pick : FuncData} {s_law_pick : QSpec} (l__law_pick : k__law_pick ≤ 3) (c__law_pick : Cd P w K mg base T "_law_pick" ["_law_store_here", "_law_row"] k__law_pick [.t, .s] s_law_pick (top 26) f__law_pick fd__law_pick)
    (b_range : mg "range" = none)
    (F : Fun K "_law_some_ends" "_law_some_ends" (top 36) f fd) (pure : ∀ (ds : List D) (R : SV → Prop) (F : Exn → Prop), qz ds R F → ((rSeq (rSet 3 (rLst rNil)) (rSeq (rSet 4 (rC (.int 0))) (rSeq (rFor (riR1 (rCons (rName 1) rNil)) (gN 5) (rSeq (rSet 6 (rLc [7] (riL (rName 2)) (gN 7) (rB (rOp2 (oEq false) (rOp2 oIx (rName 7) (rC (.int 0))) (rName 4))) (rOp2 oIx (rName 7) (rC (.int 1))))) (rIf (rB (rOp2 (oEq true) (rName 6) (rLst rNil))) (rSeq (rSet 4 (rCall [.t, .s] s_law_pick [] (rCons (rName 0) (rCons (rName 6) rNil)))) (rDrop (rMS2 3 moAppend (rCons (rName 4) rNil)))) rNext))) (rRet (rName 3))))) : RS) (endsF [.t, .s, .s] ds R F) (slots0 [.t, .s, .s] ds ++ List.replicate 5 .no)) :
    FnOk P w K mg base (L2.CX P w) 4 f fd ["_law_store_here", "_law_many", "_law_steps_here"] (spQ K T [.t, .s, .s] qz) := by
  refine q_fn (N := N_law_some_ends) F sc_law_some_ends rfl (fun cdv A outer s H E g hr hT => ?_) pure
  have hN : N_law_some_ends.Nodup := sc_law_some_ends.nd
  have hp := passes_of (X := cxOf (L2.CX P w) P w K mg base N_law_some_ends "_law_some_ends" (defScope (top 36)) f cdv A outer s H E) rfl
  exact (qs_cons (q_set (i := 3) hN rfl (by first | exact Or.inl rfl | exact Or.inr rfl) (q_lst qa_nil)) (qs_cons (q_set (i := 4) hN rfl (by first | exact Or.inl rfl | exact Or.inr rfl) qi) (qs_cons (q_for hp rfl (qi_range1 rfl b_range (qa_cons (qv 1) qa_nil)) (qg_name (i := 5) hN rfl (by first | exact Or.inl rfl | exact Or.inr rfl)) (qs_cons (q_setLc (i := 6) rfl hN rfl rfl (own := [("_law_step", 7)]) (qi_list (qv 2)) (blkOk_by (by rfl)) (by decide) (fun _ _ _ _ _ => (qg_name (i := 7) hN rfl (by first | exact Or.inl rfl | exact Or.inr rfl) (.inr rfl))) (fun _ _ _ _ _ => (qts_one (q_cmpT (op_eqQ (have z := uE hr; z)) rd_eq (q_ix (have z := hu_of hr; z) (qv 7) qi) (qv 4) (nomark _)))) (fun _ _ _ _ _ => (q_ix (have z := hu_of hr; z) (qv 7) qi))) (qs_one (q_if (q_cmpT (op_neQ (have z := uE hr; z)) rd_ne (qv 6) (q_lst qa_nil) (nomark _)) (qs_cons (q_set (i := 4) hN rfl (by first | exact Or.inl rfl | exact Or.inr rfl) (q_call (ms := [.t, .s]) (dd := []) (fnT hT (c__law_pick.ok.mono (Nat.le_trans l__law_pick (by decide)))) hr rfl c__law_pick.mg c__law_pick.kp c__law_pick.bd .nil (fun _ _ _ => rfl) (qa_cons (qv 0) (qa_cons (qv 6) qa_nil)))) (qs_one (q_expr (q_append 3 rfl (qv 4))))) qs_nil)))) (qs_one (q_ret (qv 3))))))
def N_law_bars : List Str := ["_law_many", "_law_steps_here", "_law_harm", "_law_paper", "_law_due"]
theorem sc_law_bars : FnScope N_law_bars ["_law_many", "_law_steps_here", "_law_harm", "_law_paper", "_law_due"] (defScope (top 37)) := by refine ⟨?_, ?_, ?_, ?_, ?_, ?_, ?_⟩ <;> first | rfl | decide
theorem fn_law_bars {f : Addr} {fd : FuncData} {qz : QSpec}
    {k__law_same : Nat} {f__law_same : Addr} {fd__law_same : FuncData} {s_law_same : QSpec} (l__law_same : k__law_same ≤ 20) (c__law_same : Cd P w K mg base T "_law_same" ["_law_actual", "_law_due"] k__law_same [.s, .s] s_law_same (top 31) f__law_same fd__law_same)
    {k_bars_way : Nat} {f_bars_way : Addr} {fd_bars_way : FuncData} {s_bars_way : QSpec} (l_bars_way : k_bars_way ≤ 20) (c_bars_way : Cd P w K mg base T "bars_way" ["many", "steps", "harm", "paper"] k_bars_way [.s, .s, .s, .s] s_bars_way (top 18) f_bars_way fd_bars_way)
    (b_list : mg "list" = none)
    (F : Fun K "_law_bars" "_law_bars" (top 37) f fd) (pure : ∀ (ds : List D) (R : SV → Prop) (F : Exn → Prop), qz ds R F → ((rRet (rCall [.s, .s] s_law_same [] (rCons (rCall [.s, .s, .s, .s] s_bars_way [] (rCons (rName 0) (rCons (rB1 oList (rName 1)) (rCons (rName 2) (rCons (rB1 oList (rName 3)) rNil))))) (rCons (rName 4) rNil)))) : RS) (endsF [.s, .s, .s, .s, .s] ds R F) (slots0 [.s, .s, .s, .s, .s] ds ++ List.replicate 0 .no)) :
    FnOk P w K mg base (L2.CX P w) 21 f fd ["_law_many", "_law_steps_here", "_law_harm", "_law_paper", "_law_due"] (spQ K T [.s, .s, .s, .s, .s] qz) := by
  refine q_fn (N := N_law_bars) F sc_law_bars rfl (fun cdv A outer s H E g hr hT => ?_) pure
  have hN : N_law_bars.Nodup := sc_law_bars.nd
  have hp := passes_of (X := cxOf (L2.CX P w) P w K mg base N_law_bars "_law_bars" (defScope (top 37)) f cdv A outer s H E) rfl
  exact (qs_one (q_ret (q_call (ms := [.s, .s]) (dd := []) (fnT hT (c__law_same.ok.mono (Nat.le_trans l__law_same (by decide)))) hr rfl c__law_same.mg c__law_same.kp c__law_same.bd .nil (fun _ _ _ => rfl) (qa_cons (q_call (ms := [.s, .s, .s, .s]) (dd := []) (fnT hT (c_bars_way.ok.mono (Nat.le_trans l_bars_way (by decide)))) hr rfl c_bars_way.mg c_bars_way.kp c_bars_way.bd .nil (fun _ _ _ => rfl) (qa_cons (qv 0) (qa_cons (q_list rfl b_list (qv 1)) (qa_cons (qv 2) (qa_cons (q_list rfl b_list (qv 3)) qa_nil))))) (qa_cons (qv 4) qa_nil)))))
def N_law_bars_less : List Str := ["_law_store_here", "_law_many", "_law_steps_here", "_law_paper", "_law_last", "_law_way"]
theorem sc_law_bars_less : FnScope N_law_bars_less ["_law_store_here", "_law_many", "_law_steps_here", "_law_paper"] (defScope (top 38)) := by refine ⟨?_, ?_, ?_, ?_, ?_, ?_, ?_⟩ <;> first | rfl | decide
theorem fn_law_bars_less {f : Addr} {fd : FuncData} {qz : QSpec}
    {k_least_way : Nat} {f_least_way : Addr} {fd_least_way : FuncData} {s_least_way : QSpec} (l_least_way : k_least_way ≤ 21) (c_least_way : Cd P w K mg base T "least_way" ["many", "steps"] k_least_way [.s, .s] s_least_way (top 14) f_least_way fd_least_way)
    {k__law_bars : Nat} {f__law_bars : Addr} {fd__law_bars : FuncData} {s_law_bars : QSpec} (l__law_bars : k__law_bars ≤ 21) (c__law_bars : Cd P w K mg base T "_law_bars" ["_law_many", "_law_steps_here", "_law_harm", "_law_paper", "_law_due"] k__law_bars [.s, .s, .s, .s, .s] s_law_bars (top 37) f__law_bars fd__law_bars)
    {k__law_large : Nat} {f__law_large : Addr} {fd__law_large : FuncData} {s_law_large : QSpec} (l__law_large : k__law_large ≤ 21) (c__law_large : Cd P w K mg base T "_law_large" ["_law_store_here", "_law_bound"] k__law_large [.t, .s] s_law_large (top 25) f__law_large fd__law_large)
    {k__law_same : Nat} {f__law_same : Addr} {fd__law_same : FuncData} {s_law_same : QSpec} (l__law_same : k__law_same ≤ 21) (c__law_same : Cd P w K mg base T "_law_same" ["_law_actual", "_law_due"] k__law_same [.s, .s] s_law_same (top 31) f__law_same fd__law_same)
    (b_list : mg "list" = none)
    (b_isinstance : mg "isinstance" = none)
    (b_tuple : mg "tuple" = none)
    (b_len : mg "len" = none)
    (b_max : mg "max" = none)
    (F : Fun K "_law_bars_less" "_law_bars_less" (top 38) f fd) (pure : ∀ (ds : List D) (R : SV → Prop) (F : Exn → Prop), qz ds R F → ((rSeq (rSet 4 (rOp2 oIx (rName 3) (rName 1))) (rSeq (rSet 5 (rCall [.s, .s] s_least_way [] (rCons (rName 1) (rCons (rB1 oList (rName 2)) rNil)))) (rSeq (rIf (rB (rOp2 (oIs false) (rName 4) (rC .non))) (rSeq (rIf (rOr (rB (rOp2 (oIs true) (rName 5) (rC .non))) (rNot (rB (rCall [.s, .s, .s, .s, .s] s_law_bars [] (rCons (rName 1) (rCons (rName 2) (rCons (rC .non) (rCons (rName 3) (rCons (rC (.bl true)) rNil))))))))) (rRet (rC (.bl false))) rNext) (rRet (rCall [.s, .s, .s, .s, .s] s_law_bars [] (rCons (rName 1) (rCons (rName 2) (rCons (rCall [.t, .s] s_law_large [] (rCons (rName 0) (rCons (rOp2 oPow (rC (.int 10)) (rC (.int 59))) rNil))) (rCons (rName 3) (rCons (rC (.bl true)) rNil)))))))) rNext) (rSeq (rIf (rOr (rNot (rB (rB1 (oIsa .tuple) (rName 5)))) (rOr (rB (rOp2 (oEq true) (rB1 oLen (rName 5)) (rC (.int 2)))) (rNot (rB (rCall [.s, .s] s_law_same [] (rCons (rOp2 oIx (rName 5) (rC (.int 1))) (rCons (rName 4) rNil))))))) (rRet (rC (.bl false))) rNext) (rSeq (rIf (rOr (rNot (rB (rCall [.s, .s, .s, .s, .s] s_law_bars [] (rCons (rName 1) (rCons (rName 2) (rCons (rName 4) (rCons (rName 3) (rCons (rC (.bl true)) rNil)))))))) (rNot (rB (rCall [.s, .s, .s, .s, .s] s_law_bars [] (rCons (rName 1) (rCons (rName 2) (rCons (rC (.int 0)) (rCons (rName 3) (rCons (rC (.bl true)) rNil))))))))) (rRet (rC (.bl false))) rNext) (rSeq (rIf (rOr (rNot (rB (rCall [.s, .s, .s, .s, .s] s_law_bars [] (rCons (rName 1) (rCons (rName 2) (rCons (rOp2 oMax (rC (.int 0)) (rOp2 oSub (rName 4) (rC (.int 1)))) (rCons (rName 3) (rCons (rC (.bl true)) rNil)))))))) (rNot (rB (rCall [.s, .s, .s, .s, .s] s_law_bars [] (rCons (rName 1) (rCons (rName 2) (rCons (rOp2 oAdd (rName 4) (rC (.int 1))) (rCons (rName 3) (rCons (rC (.bl false)) rNil))))))))) (rRet (rC (.bl false))) rNext) (rRet (rCall [.s, .s, .s, .s, .s] s_law_bars [] (rCons (rName 1) (rCons (rName 2) (rCons (rC .non) (rCons (rName 3) (rCons (rC (.bl false)) rNil))))))))))))) : RS) (endsF [.t, .s, .s, .s] ds R F) (slots0 [.t, .s, .s, .s] ds ++ List.replicate 2 .no)) :
    FnOk P w K mg base (L2.CX P w) 22 f fd ["_law_store_here", "_law_many", "_law_steps_here", "_law_paper"] (spQ K T [.t, .s, .s, .s] qz) := by
  refine q_fn (N := N_law_bars_less) F sc_law_bars_less rfl (fun cdv A outer s H E g hr hT => ?_) pure
  have hN : N_law_bars_less.Nodup := sc_law_bars_less.nd
  have hp := passes_of (X := cxOf (L2.CX P w) P w K mg base N_law_bars_less "_law_bars_less" (defScope (top 38)) f cdv A outer s H E) rfl
  exact (qs_cons (q_set (i := 4) hN rfl (by first | exact Or.inl rfl | exact Or.inr rfl) (q_ix (have z := hu_of hr; z) (qv 3) (qv 1))) (qs_cons (q_set (i := 5) hN rfl (by first | exact Or.inl rfl | exact Or.inr rfl) (q_call (ms := [.s, .s]) (dd := []) (fnT hT (c_least_way.ok.mono (Nat.le_trans l_least_way (by decide)))) hr rfl c_least_way.mg c_least_way.kp c_least_way.bd .nil (fun _ _ _ => rfl) (qa_cons (qv 1) (qa_cons (q_list rfl b_list (qv 2)) qa_nil)))) (qs_cons (q_if (q_cmpT op_isF rd_isN (qv 4) qn (nomark _)) (qs_cons (q_if (QW.qt (qw_or (q_cmpT op_isT rd_isN (qv 5) qn (nomark _)) (qw_or1 (qt_not (q_val (q_call (ms := [.s, .s, .s, .s, .s]) (dd := []) (fnT hT (c__law_bars.ok.mono (Nat.le_trans l__law_bars (by decide)))) hr rfl c__law_bars.mg c__law_bars.kp c__law_bars.bd .nil (fun _ _ _ => rfl) (qa_cons (qv 1) (qa_cons (qv 2) (qa_cons qn (qa_cons (qv 3) (qa_cons qb qa_nil))))))))))) (qs_one (q_ret qb)) qs_nil) (qs_one (q_ret (q_call (ms := [.s, .s, .s, .s, .s]) (dd := []) (fnT hT (c__law_bars.ok.mono (Nat.le_trans l__law_bars (by decide)))) hr rfl c__law_bars.mg c__law_bars.kp c__law_bars.bd .nil (fun _ _ _ => rfl) (qa_cons (qv 1) (qa_cons (qv 2) (qa_cons (q_call (ms := [.t, .s]) (dd := []) (fnT hT (c__law_large.ok.mono (Nat.le_trans l__law_large (by decide)))) hr rfl c__law_large.mg c__law_large.kp c__law_large.bd .nil (fun _ _ _ => rfl) (qa_cons (qv 0) (qa_cons (q_pow qi qi) qa_nil))) (qa_cons (qv 3) (qa_cons qb qa_nil))))))))) qs_nil) (qs_cons (q_if (QW.qt (qw_or (qt_not (q_val (q_isa .tuple rfl b_isinstance rfl b_tuple (qv 5)))) (qw_or (q_cmpT (op_neQ (have z := uE hr; z)) rd_ne (q_len rfl b_len (qv 5)) qi (nomark _)) (qw_or1 (qt_not (q_val (q_call (ms := [.s, .s]) (dd := []) (fnT hT (c__law_same.ok.mono (Nat.le_trans l__law_same (by decide)))) hr rfl c__law_same.mg c__law_same.kp c__law_same.bd .nil (fun _ _ _ => rfl) (qa_cons (q_ix (have z := hu_of hr; z) (qv 5) qi) (qa_cons (qv 4) qa_nil))))))))) (qs_one (q_ret qb)) qs_nil) (qs_cons (q_if (QW.qt (qw_or (qt_not (q_val (q_call (ms := [.s, .s, .s, .s, .s]) (dd := []) (fnT hT (c__law_bars.ok.mono (Nat.le_trans l__law_bars (by decide)))) hr rfl c__law_bars.mg c__law_bars.kp c__law_bars.bd .nil (fun _ _ _ => rfl) (qa_cons (qv 1) (qa_cons (qv 2) (qa_cons (qv 4) (qa_cons (qv 3) (qa_cons qb qa_nil)))))))) (qw_or1 (qt_not (q_val (q_call (ms := [.s, .s, .s, .s, .s]) (dd := []) (fnT hT (c__law_bars.ok.mono (Nat.le_trans l__law_bars (by decide)))) hr rfl c__law_bars.mg c__law_bars.kp c__law_bars.bd .nil (fun _ _ _ => rfl) (qa_cons (qv 1) (qa_cons (qv 2) (qa_cons qi (qa_cons (qv 3) (qa_cons qb qa_nil))))))))))) (qs_one (q_ret qb)) qs_nil) (qs_cons (q_if (QW.qt (qw_or (qt_not (q_val (q_call (ms := [.s, .s, .s, .s, .s]) (dd := []) (fnT hT (c__law_bars.ok.mono (Nat.le_trans l__law_bars (by decide)))) hr rfl c__law_bars.mg c__law_bars.kp c__law_bars.bd .nil (fun _ _ _ => rfl) (qa_cons (qv 1) (qa_cons (qv 2) (qa_cons (q_max rfl rfl b_max qi (q_sub (qv 4) qi)) (qa_cons (qv 3) (qa_cons qb qa_nil)))))))) (qw_or1 (qt_not (q_val (q_call (ms := [.s, .s, .s, .s, .s]) (dd := []) (fnT hT (c__law_bars.ok.mono (Nat.le_trans l__law_bars (by decide)))) hr rfl c__law_bars.mg c__law_bars.kp c__law_bars.bd .nil (fun _ _ _ => rfl) (qa_cons (qv 1) (qa_cons (qv 2) (qa_cons (q_add (qv 4) qi) (qa_cons (qv 3) (qa_cons qb qa_nil))))))))))) (qs_one (q_ret qb)) qs_nil) (qs_one (q_ret (q_call (ms := [.s, .s, .s, .s, .s]) (dd := []) (fnT hT (c__law_bars.ok.mono (Nat.le_trans l__law_bars (by decide)))) hr rfl c__law_bars.mg c__law_bars.kp c__law_bars.bd .nil (fun _ _ _ => rfl) (qa_cons (qv 1) (qa_cons (qv 2) (qa_cons qn (qa_cons (qv 3) (qa_cons qb qa_nil))))))))))))))
def N_law_more_is_none : List Str := ["_law_store_here", "_law_many", "_law_steps_here", "_law_paper", "_law_places", "_law_at", "_law_more", "_law_k"]
theorem sc_law_more_is_none : FnScope N_law_more_is_none ["_law_store_here", "_law_many", "_law_steps_here", "_law_paper"] (defScope (top 39)) := by refine ⟨?_, ?_, ?_, ?_, ?_, ?_, ?_⟩ <;> first | rfl | decide
theorem fn_law_more_is_none {f : Addr} {fd : FuncData} {qz : QSpec}
    {k__law_pick : Nat} {f__law_pick : Addr} {fd__law_pick : FuncData} {s_law_pick : QSpec} (l__law_pick : k__law_pick ≤ 21) (c__law_pick : Cd P w K mg base T "_law_pick" ["_law_store_here", "_law_row"] k__law_pick [.t, .s] s_law_pick (top 26) f__law_pick fd__law_pick)
    {k__law_bars : Nat} {f__law_bars : Addr} {fd__law_bars : FuncData} {s_law_bars : QSpec} (l__law_bars : k__law_bars ≤ 21) (c__law_bars : Cd P w K mg base T "_law_bars" ["_law_many", "_law_steps_here", "_law_harm", "_law_paper", "_law_due"] k__law_bars [.s, .s, .s, .s, .s] s_law_bars (top 37) f__law_bars fd__law_bars)
    (b_range : mg "range" = none)
    (F : Fun K "_law_more_is_none" "_law_more_is_none" (top 39) f fd) (pure : ∀ (ds : List D) (R : SV → Prop) (F : Exn → Prop), qz ds R F → ((rSeq (rSet 4 (rLc [7] (riR1 (rCons (rOp2 oAdd (rName 1) (rC (.int 1))) rNil)) (gN 7) (rB (rOp2 (oIs true) (rOp2 oIx (rName 3) (rName 7)) (rC .non))) (rName 7))) (rSeq (rSet 5 (rCall [.t, .s] s_law_pick [] (rCons (rName 0) (rCons (rName 4) rNil)))) (rSeq (rSet 6 (rOp2 oAdd (rOp2 oAdd (rSl (rName 3) roN (roE (rName 5))) (rLst (rCons (rOp2 oAdd (rOp2 oIx (rName 3) (rName 5)) (rC (.int 1))) rNil))) (rSl (rName 3) (roE (rOp2 oAdd (rName 5) (rC (.int 1)))) roN))) (rRet (rCall [.s, .s, .s, .s, .s] s_law_bars [] (rCons (rName 1) (rCons (rName 2) (rCons (rC (.int 0)) (rCons (rName 6) (rCons (rC (.bl false)) rNil)))))))))) : RS) (endsF [.t, .s, .s, .s] ds R F) (slots0 [.t, .s, .s, .s] ds ++ List.replicate 4 .no)) :
    FnOk P w K mg base (L2.CX P w) 22 f fd ["_law_store_here", "_law_many", "_law_steps_here", "_law_paper"] (spQ K T [.t, .s, .s, .s] qz) := by
  refine q_fn (N := N_law_more_is_none) F sc_law_more_is_none rfl (fun cdv A outer s H E g hr hT => ?_) pure
  have hN : N_law_more_is_none.Nodup := sc_law_more_is_none.nd
  have hp := passes_of (X := cxOf (L2.CX P w) P w K mg base N_law_more_is_none "_law_more_is_none" (defScope (top 39)) f cdv A outer s H E) rfl
  exact (qs_cons (q_setLc (i := 4) rfl hN rfl rfl (own := [("_law_k", 7)]) (qi_range1 rfl b_range (qa_cons (q_add (qv 1) qi) qa_nil)) (blkOk_by (by rfl)) (by decide) (fun _ _ _ _ _ => (qg_name (i := 7) hN rfl (by first | exact Or.inl rfl | exact Or.inr rfl) (.inr rfl))) (fun _ _ _ _ _ => (qts_one (q_cmpT op_isT rd_isN (q_ix (have z := hu_of hr; z) (qv 3) (qv 7)) qn (nomark _)))) (fun _ _ _ _ _ => (qv 7))) (qs_cons (q_set (i := 5) hN rfl (by first | exact Or.inl rfl | exact Or.inr rfl) (q_call (ms := [.t, .s]) (dd := []) (fnT hT (c__law_pick.ok.mono (Nat.le_trans l__law_pick (by decide)))) hr rfl c__law_pick.mg c__law_pick.kp c__law_pick.bd .nil (fun _ _ _ => rfl) (qa_cons (qv 0) (qa_cons (qv 4) qa_nil)))) (qs_cons (q_set (i := 6) hN rfl (by first | exact Or.inl rfl | exact Or.inr rfl) (q_add (q_add (q_sl (qv 3) qo_n (qo_e (qv 5))) (q_lst (qa_cons (q_add (q_ix (have z := hu_of hr; z) (qv 3) (qv 5)) qi) qa_nil))) (q_sl (qv 3) (qo_e (q_add (qv 5) qi)) qo_n))) (qs_one (q_ret (q_call (ms := [.s, .s, .s, .s, .s]) (dd := []) (fnT hT (c__law_bars.ok.mono (Nat.le_trans l__law_bars (by decide)))) hr rfl c__law_bars.mg c__law_bars.kp c__law_bars.bd .nil (fun _ _ _ => rfl) (qa_cons (qv 1) (qa_cons (qv 2) (qa_cons qi (qa_cons (qv 6) (qa_cons qb qa_nil)))))))))))
def N_law_no_less : List Str := ["_law_store_here", "_law_many", "_law_steps_here", "_law_paper", "_law_k", "_law_ends", "_law_harm", "_law_arrived"]
theorem sc_law_no_less : FnScope N_law_no_less ["_law_store_here", "_law_many", "_law_steps_here", "_law_paper"] (defScope (top 40)) := by refine ⟨?_, ?_, ?_, ?_, ?_, ?_, ?_⟩ <;> first | rfl | decide
theorem fn_law_no_less {f : Addr} {fd : FuncData} {qz : QSpec}
    {k__law_some_ends : Nat} {f__law_some_ends : Addr} {fd__law_some_ends : FuncData} {s_law_some_ends : QSpec} (l__law_some_ends : k__law_some_ends ≤ 4) (c__law_some_ends : Cd P w K mg base T "_law_some_ends" ["_law_store_here", "_law_many", "_law_steps_here"] k__law_some_ends [.t, .s, .s] s_law_some_ends (top 36) f__law_some_ends fd__law_some_ends)
    {k_way_harm : Nat} {f_way_harm : Addr} {fd_way_harm : FuncData} {s_way_harm : QSpec} (l_way_harm : k_way_harm ≤ 4) (c_way_harm : Cd P w K mg base T "way_harm" ["many", "steps", "ends"] k_way_harm [.s, .s, .s] s_way_harm (top 15) f_way_harm fd_way_harm)
    {k__law_is_int : Nat} {f__law_is_int : Addr} {fd__law_is_int : FuncData} {s_law_is_int : QSpec} (l__law_is_int : k__law_is_int ≤ 4) (c__law_is_int : Cd P w K mg base T "_law_is_int" ["_law_value"] k__law_is_int [.s] s_law_is_int (top 30) f__law_is_int fd__law_is_int)
    (b_range : mg "range" = none)
    (b_list : mg "list" = none)
    (F : Fun K "_law_no_less" "_law_no_less" (top 40) f fd) (pure : ∀ (ds : List D) (R : SV → Prop) (F : Exn → Prop), qz ds R F → ((rSeq (rFor (riR1 (rCons (rC (.int 3)) rNil)) (gN 4) (rSeq (rSet 5 (rCall [.t, .s, .s] s_law_some_ends [] (rCons (rName 0) (rCons (rName 1) (rCons (rName 2) rNil))))) (rSeq (rSet 6 (rCall [.s, .s, .s] s_way_harm [] (rCons (rName 1) (rCons (rB1 oList (rName 2)) (rCons (rB1 oList (rName 5)) rNil))))) (rSeq (rSet 7 (rOrV (rAndV (rOp2 (oEq false) (rName 5) (rLst rNil)) (rOp2 (oEq false) (rName 1) (rC (.int 0)))) (rAndV (rOp2 (oEq true) (rName 5) (rLst rNil)) (rOp2 (oEq false) (rOp2 oIx (rName 5) (rB1 oNeg (rC (.int 1)))) (rName 1))))) (rSeq (rIf (rAnd (rNot (rB (rName 7))) (rB (rOp2 (oIs true) (rName 6) (rC .non)))) (rRet (rC (.bl false))) rNext) (rIf (rAnd (rB (rName 7)) (rOr (rNot (rB (rCall [.s] s_law_is_int [] (rCons (rName 6) rNil)))) (rOr (rB (rOp2 (oIs false) (rOp2 oIx (rName 3) (rName 1)) (rC .non))) (rB (rOp2 oLtG (rName 6) (rOp2 oIx (rName 3) (rName 1))))))) (rRet (rC (.bl false))) rNext)))))) (rRet (rC (.bl true)))) : RS) (endsF [.t, .s, .s, .s] ds R F) (slots0 [.t, .s, .s, .s] ds ++ List.replicate 4 .no)) :
    FnOk P w K mg base (L2.CX P w) 5 f fd ["_law_store_here", "_law_many", "_law_steps_here", "_law_paper"] (spQ K T [.t, .s, .s, .s] qz) := by
  refine q_fn (N := N_law_no_less) F sc_law_no_less rfl (fun cdv A outer s H E g hr hT => ?_) pure
  have hN : N_law_no_less.Nodup := sc_law_no_less.nd
  have hp := passes_of (X := cxOf (L2.CX P w) P w K mg base N_law_no_less "_law_no_less" (defScope (top 40)) f cdv A outer s H E) rfl
  exact (qs_cons (q_for hp rfl (qi_range1 rfl b_range (qa_cons qi qa_nil)) (qg_name (i := 4) hN rfl (by first | exact Or.inl rfl | exact Or.inr rfl)) (qs_cons (q_set (i := 5) hN rfl (by first | exact Or.inl rfl | exact Or.inr rfl) (q_call (ms := [.t, .s, .s]) (dd := []) (fnT hT (c__law_some_ends.ok.mono (Nat.le_trans l__law_some_ends (by decide)))) hr rfl c__law_some_ends.mg c__law_some_ends.kp c__law_some_ends.bd .nil (fun _ _ _ => rfl) (qa_cons (qv 0) (qa_cons (qv 1) (qa_cons (qv 2) qa_nil))))) (qs_cons (q_set (i := 6) hN rfl (by first | exact Or.inl rfl | exact Or.inr rfl) (q_call (ms := [.s, .s, .s]) (dd := []) (fnT hT (c_way_harm.ok.mono (Nat.le_trans l_way_harm (by decide)))) hr rfl c_way_harm.mg c_way_harm.kp c_way_harm.bd .nil (fun _ _ _ => rfl) (qa_cons (qv 1) (qa_cons (q_list rfl b_list (qv 2)) (qa_cons (q_list rfl b_list (qv 5)) qa_nil))))) (qs_cons (q_set (i := 7) hN rfl (by first | exact Or.inl rfl | exact Or.inr rfl) (q_or (q_and (q_cmp (op_eqQ (have z := uE hr; z)) rd_eq (qv 5) (q_lst qa_nil) (nomark _)) (q_one (q_cmp (op_eqQ (have z := uE hr; z)) rd_eq (qv 1) qi (nomark _)))) (q_one (q_and (q_cmp (op_neQ (have z := uE hr; z)) rd_ne (qv 5) (q_lst qa_nil) (nomark _)) (q_one (q_cmp (op_eqQ (have z := uE hr; z)) rd_eq (q_ix (have z := hu_of hr; z) (qv 5) (q_neg qi)) (qv 1) (nomark _))))))) (qs_cons (q_if (QW.qt (qw_and (qt_not (q_val (qv 7))) (qw_and1 (q_cmpT op_isT rd_isN (qv 6) qn (nomark _))))) (qs_one (q_ret qb)) qs_nil) (qs_one (q_if (QW.qt (qw_and (q_val (qv 7)) (qw_and1 (QW.qt (qw_or (qt_not (q_val (q_call (ms := [.s]) (dd := []) (fnT hT (c__law_is_int.ok.mono (Nat.le_trans l__law_is_int (by decide)))) hr rfl c__law_is_int.mg c__law_is_int.kp c__law_is_int.bd .nil (fun _ _ _ => rfl) (qa_cons (qv 6) qa_nil)))) (qw_or (q_cmpT op_isF rd_isN (q_ix (have z := hu_of hr; z) (qv 3) (qv 1)) qn (nomark _)) (qw_or1 (q_cmpT op_ltG rd_cmpG (qv 6) (q_ix (have z := hu_of hr; z) (qv 3) (qv 1)) (nomark _))))))))) (qs_one (q_ret qb)) qs_nil))))))) (qs_one (q_ret qb)))
def N_law_bad_name : List Str := ["_law_ask", "e", "_law_others"]
theorem sc_law_bad_name : FnScope N_law_bad_name ["_law_ask"] (defScope (top 41)) := by refine ⟨?_, ?_, ?_, ?_, ?_, ?_, ?_⟩ <;> first | rfl | decide
theorem ask_law_bad_name {f : Addr} {fd : FuncData} {qz : AskP → AskP}
    {v_BadValue : V} {u_BadValue : Value} (E_BadValue : EG K mg T "BadValue" .bv v_BadValue u_BadValue)
    {v_Clash : V} {u_Clash : Value} (E_Clash : EG K mg T "Clash" .cl v_Clash u_Clash)
    {v_Taken : V} {u_Taken : Value} (E_Taken : EG K mg T "Taken" .tk v_Taken u_Taken)
    {v_Unknown : V} {u_Unknown : Value} (E_Unknown : EG K mg T "Unknown" .un v_Unknown u_Unknown)
    {v_BadText : V} {u_BadText : Value} (E_BadText : EG K mg T "BadText" .bt v_BadText u_BadText)
    {v_Unfit : V} {u_Unfit : Value} (E_Unfit : EG K mg T "Unfit" .uf v_Unfit u_Unfit)
    {v_Lacking : V} {u_Lacking : Value} (E_Lacking : EG K mg T "Lacking" .lk v_Lacking u_Lacking)
    {v_RoomError : V} {u_RoomError : Value} (E_RoomError : EG K mg T "RoomError" .rm v_RoomError u_RoomError)
    {v_ValueError : V} {u_ValueError : Value} (E_ValueError : EG K mg T "ValueError" .ve v_ValueError u_ValueError)
    (EK : ∀ d : EC, d.own = true → ErrK K (T.ea d))
    (EF_argument : ∀ d : EC, d.own = true → PySem.W.findIn K (.ref (T.ea d)) "argument" = some none)
    (b_isinstance : mg "isinstance" = none)
    (F : Fun K "_law_bad_name" "_law_bad_name" (top 41) f fd) (gl : mg "_law_bad_name" = some (.ref f)) (bd : Binds K fd ["_law_ask"] []) (pure : ∀ (f : Addr) (ask : AskP) (R : SV → Prop) (F : Exn → Prop), qz ask R F → ((rSeq (rTryAs .bv 1 (rDrop (rAct f ask 0)) (fun a y => (rSeq (rSet 2 (rLst (rCons (rIsE a y .bt 1) (rCons (rIsE a y .un 1) (rCons (rIsE a y .tk 1) (rCons (rIsE a y .cl 1) rNil)))))) (rSeq (rSet 2 (rOp2 oAdd (rName 2) (rLst (rCons (rIsE a y .lk 1) (rCons (rIsE a y .uf 1) rNil))))) (rIf (rAnd (rB (rOp2 (oIn true) (rC (.bl true)) (rName 2))) (rAnd (rB (rIsE a y .rm 1)) (rB (rIsE a y .ve 1)))) (rRet (rTup (rCons (rC (.str "BadValue")) (rCons (rXf a y "argument" 1) rNil)))) rNext))))) (rRet (rTup (rCons (rC (.str "other")) rNil)))) : RS) (endsF [.s] [.ref f] R F) (.fr true (.ref f) :: List.replicate 2 .no)) :
    AskD P w K mg base T 0 "_law_bad_name" (top 41) f fd "_law_ask" qz := by
  have hN : N_law_bad_name.Nodup := sc_law_bad_name.nd
  refine ⟨F, gl, bd, N_law_bad_name, fun f ask => (rSeq (rTryAs .bv 1 (rDrop (rAct f ask 0)) (fun a y => (rSeq (rSet 2 (rLst (rCons (rIsE a y .bt 1) (rCons (rIsE a y .un 1) (rCons (rIsE a y .tk 1) (rCons (rIsE a y .cl 1) rNil)))))) (rSeq (rSet 2 (rOp2 oAdd (rName 2) (rLst (rCons (rIsE a y .lk 1) (rCons (rIsE a y .uf 1) rNil))))) (rIf (rAnd (rB (rOp2 (oIn true) (rC (.bl true)) (rName 2))) (rAnd (rB (rIsE a y .rm 1)) (rB (rIsE a y .ve 1)))) (rRet (rTup (rCons (rC (.str "BadValue")) (rCons (rXf a y "argument" 1) rNil)))) rNext))))) (rRet (rTup (rCons (rC (.str "other")) rNil)))), sc_law_bad_name, rfl, (by first | exact Or.inl rfl | exact Or.inr (Or.inl rfl)), by decide, by decide, fun A outer s H E g f ask hr hT act => ?_, pure⟩
  exact (qs0_cons (q_try_as (cx := .bv) (i := 1) rfl rfl hN rfl rfl (E_BadValue.names (by rfl)) (E_BadValue.exT hT) (fun pn xe hp => (qs_one (q_expr (act pn xe _ _)))) (fun a oe y dd fv pn ho hz hf => (qs_cons (q_set (i := 2) hN rfl (by first | exact Or.inl rfl | exact Or.inr rfl) (q_lst (qa_cons (q_isE (ekT hT EK ho) ho hz hf (clT hT E_BadText.cl) (E_BadText.pe (by rfl)) (by rfl) b_isinstance 1) (qa_cons (q_isE (ekT hT EK ho) ho hz hf (clT hT E_Unknown.cl) (E_Unknown.pe (by rfl)) (by rfl) b_isinstance 1) (qa_cons (q_isE (ekT hT EK ho) ho hz hf (clT hT E_Taken.cl) (E_Taken.pe (by rfl)) (by rfl) b_isinstance 1) (qa_cons (q_isE (ekT hT EK ho) ho hz hf (clT hT E_Clash.cl) (E_Clash.pe (by rfl)) (by rfl) b_isinstance 1) qa_nil)))))) (qs_cons (q_set (i := 2) hN rfl (by first | exact Or.inl rfl | exact Or.inr rfl) (q_add (qv 2) (q_lst (qa_cons (q_isE (ekT hT EK ho) ho hz hf (clT hT E_Lacking.cl) (E_Lacking.pe (by rfl)) (by rfl) b_isinstance 1) (qa_cons (q_isE (ekT hT EK ho) ho hz hf (clT hT E_Unfit.cl) (E_Unfit.pe (by rfl)) (by rfl) b_isinstance 1) qa_nil))))) (qs_one (q_if (QW.qt (qw_and (q_cmpT (op_notInQ (have z := uI hr; z)) rd_notIn qb (qv 2) (by rfl)) (qw_and (q_val (q_isE (ekT hT EK ho) ho hz hf (clT hT E_RoomError.cl) (E_RoomError.pe (by rfl)) (by rfl) b_isinstance 1)) (qw_and1 (q_val (q_isE (ekT hT EK ho) ho hz hf (clT hT E_ValueError.cl) (E_ValueError.pe (by rfl)) (by rfl) b_isinstance 1)))))) (qs_one (q_ret (q_tup (qa_cons qs (qa_cons (q_xf (ekT hT EK ho) (noT hT EF_argument ho) hz hf 1) qa_nil))))) qs_nil)))))) (QSs.q0 (qs_one (q_ret (q_tup (qa_cons qs qa_nil))))))
def N_law_refused : List Str := ["_law_store_here", "_law_many", "_law_steps_here", "_law_row", "_law_at", "_law_bad", "_law_wrong", "_law_size_here"]
theorem sc_law_refused : FnScope N_law_refused ["_law_store_here", "_law_many", "_law_steps_here"] (defScope (top 42)) := by refine ⟨?_, ?_, ?_, ?_, ?_, ?_, ?_⟩ <;> first | rfl | decide
theorem fn_law_refused {f : Addr} {fd : FuncData} {qz : QSpec}
    {k__law_take : Nat} {f__law_take : Addr} {fd__law_take : FuncData} {s_law_take : QSpec} (l__law_take : k__law_take ≤ 20) (c__law_take : Cd P w K mg base T "_law_take" ["_law_store_here", "_law_many"] k__law_take [.t, .s] s_law_take (top 23) f__law_take fd__law_take)
    {k__law_pick : Nat} {f__law_pick : Addr} {fd__law_pick : FuncData} {s_law_pick : QSpec} (l__law_pick : k__law_pick ≤ 20) (c__law_pick : Cd P w K mg base T "_law_pick" ["_law_store_here", "_law_row"] k__law_pick [.t, .s] s_law_pick (top 26) f__law_pick fd__law_pick)
    {k__law_odds : Nat} {f__law_odds : Addr} {fd__law_odds : FuncData} {s_law_odds : QSpec} (l__law_odds : k__law_odds ≤ 20) (c__law_odds : Cd P w K mg base T "_law_odds" ["_law_store_here", "_law_parts"] k__law_odds [.t, .s] s_law_odds (top 27) f__law_odds fd__law_odds)
    {k__law_same : Nat} {f__law_same : Addr} {fd__law_same : FuncData} {s_law_same : QSpec} (l__law_same : k__law_same ≤ 20) (c__law_same : Cd P w K mg base T "_law_same" ["_law_actual", "_law_due"] k__law_same [.s, .s] s_law_same (top 31) f__law_same fd__law_same)
    {k_way_paper : Nat} {f_way_paper : Addr} {fd_way_paper : FuncData} {s_way_paper : QSpec} (l_way_paper : k_way_paper ≤ 4) (c_way_paper : Cd P w K mg base T "way_paper" ["many", "steps"] k_way_paper [.s, .s] s_way_paper (top 16) f_way_paper fd_way_paper)
    (b_str : mg "str" = none)
    (b_len : mg "len" = none)
    (b_min : mg "min" = none)
    (b_tuple : mg "tuple" = none)
    {gA__law_bad_name : Addr} {fdA__law_bad_name : FuncData} {s_law_bad_name : AskP → AskP} (A__law_bad_name : AskD P w K mg base T 5 "_law_bad_name" (top 41) gA__law_bad_name fdA__law_bad_name "_law_ask" s_law_bad_name)
    {c_l P_l : Addr} (tb : LamX.TabB base mg c_l P_l) (hfc : fd.code = .ref c_l) (tm : (P_l, ("_law_refused" ++ ".<locals>." ++ "<lambda>" : Str)) ∈ T.tb) (tu : ∀ p ∈ T.tb, p.1 = P_l → p.2 = ("_law_refused" ++ ".<locals>." ++ "<lambda>" : Str))
    (F : Fun K "_law_refused" "_law_refused" (top 42) f fd) (pure : ∀ (ds : List D) (R : SV → Prop) (F : Exn → Prop), qz ds R F → ((rSeq (rSet 3 (rLst (rCons (rTup (rCons (rC (.int 0)) (rCons (rOp2 oAdd (rName 1) (rC (.int 1))) (rCons (rC (.int 0)) rNil)))) (rCons (rTup (rCons (rName 1) (rCons (rName 1) (rCons (rC (.int 0)) rNil)))) (rCons (rTup (rCons (rName 1) (rCons (rOp2 oSub (rName 1) (rC (.int 1))) (rCons (rC (.int 0)) rNil)))) (rCons (rTup (rCons (rB1 oNeg (rC (.int 1))) (rCons (rC (.int 0)) (rCons (rC (.int 0)) rNil)))) (rCons (rTup (rCons (rC (.int 0)) (rCons (rName 1) (rCons (rB1 oNeg (rC (.int 1))) rNil)))) (rCons (rTup (rCons (rC (.int 0)) (rCons (rName 1) rNil))) (rCons (rLst (rCons (rC (.int 0)) (rCons (rName 1) (rCons (rC (.int 0)) rNil)))) rNil))))))))) (rSeq (rSet 3 (rOp2 oAdd (rName 3) (rLst (rCons (rTup (rCons (rC (.int 0)) (rCons (rName 1) (rCons (rC (.bl true)) rNil)))) (rCons (rTup (rCons (rC (.bl false)) (rCons (rName 1) (rCons (rC (.int 0)) rNil)))) (rCons (rTup (rCons (rC (.int 0)) (rCons (rB1 oStr1 (rName 1)) (rCons (rC (.int 0)) rNil)))) (rCons (rTup (rCons (rC (.int 0)) (rCons (rName 1) (rCons (rC (.int 0)) (rCons (rC (.int 0)) rNil))))) (rCons (rTup (rCons (rC (.int 0)) (rCons (rName 1) (rCons (rC .non) rNil)))) (rCons (rC .non) (rCons (rC (.int 0)) rNil)))))))))) (rSeq (rSet 4 (rCall [.t, .s] s_law_take [] (rCons (rName 0) (rCons (rOp2 oAdd (rB1 oLen (rName 2)) (rC (.int 1))) rNil)))) (rSeq (rSet 5 (rOp2 oAdd (rOp2 oAdd (rSl (rName 2) roN (roE (rName 4))) (rLst (rCons (rCall [.t, .s] s_law_pick [] (rCons (rName 0) (rCons (rName 3) rNil))) rNil))) (rSl (rName 2) (roE (rName 4)) roN))) (rSeq (rSet 6 (rCall [.t, .s] s_law_pick [] (rCons (rName 0) (rCons (rLst (rCons (rName 5) (rCons (rName 5) (rCons (rName 5) (rCons (rB1 oTuple (rName 2)) (rCons (rC .non) (rCons rDict0 (rCons (rC (.int 1)) (rCons (rOp2 oRepG (rLst (rCons (rTup (rCons (rC (.int 0)) (rCons (rOp2 oMin (rName 1) (rC (.int 1))) (rCons (rC (.int 0)) rNil)))) rNil)) (rC (.int 1001))) rNil))))))))) rNil)))) (rSeq (rIf (rB (rCall [.t, .s] s_law_odds [] (rCons (rName 0) (rCons (rC (.int 2)) rNil)))) (rRet (rCall [.s, .s] s_law_same [] (rCons (rLend (rAskCall s_law_bad_name (rFrz (rCall [.s, .s] s_way_paper [] (rCons (rName 1) (rCons (rName 6) rNil)))))) (rCons (rTup (rCons (rC (.str "BadValue")) (rCons (rC (.str "steps")) rNil))) rNil)))) rNext) (rSeq (rSet 7 (rCall [.t, .s] s_law_pick [] (rCons (rName 0) (rCons (rLst (rCons (rB1 oNeg (rC (.int 1))) (rCons (rC (.int 61)) (rCons (rC (.bl true)) (rCons (rC (.str "1")) (rCons (rC .non) (rCons (rLst (rCons (rC (.int 1)) rNil)) (rCons (rOp2 oPow (rC (.int 10)) (rC (.int 59))) rNil)))))))) rNil)))) (rRet (rCall [.s, .s] s_law_same [] (rCons (rLend (rAskCall s_law_bad_name (rFrz (rCall [.s, .s] s_way_paper [] (rCons (rName 7) (rCons (rName 6) rNil)))))) (rCons (rTup (rCons (rC (.str "BadValue")) (rCons (rC (.str "many")) rNil))) rNil))))))))))) : RS) (endsF [.t, .s, .s] ds R F) (slots0 [.t, .s, .s] ds ++ List.replicate 5 .no)) :
    FnOk P w K mg base (L2.CX P w) 21 f fd ["_law_store_here", "_law_many", "_law_steps_here"] (spQ K T [.t, .s, .s] qz) := by
  refine q_fnC (N := N_law_refused) F sc_law_refused rfl (fun A outer s H E g hr hT => ?_) pure
  have hN : N_law_refused.Nodup := sc_law_refused.nd
  have hp := passes_of (X := cxOf (L2.CX P w) P w K mg base N_law_refused "_law_refused" (defScope (top 42)) f fd.code A outer s H E) rfl
  exact (QSs.q0 (qs_cons (q_set (i := 3) hN rfl (by first | exact Or.inl rfl | exact Or.inr rfl) (q_lst (qa_cons (q_tup (qa_cons qi (qa_cons (q_add (qv 1) qi) (qa_cons qi qa_nil)))) (qa_cons (q_tup (qa_cons (qv 1) (qa_cons (qv 1) (qa_cons qi qa_nil)))) (qa_cons (q_tup (qa_cons (qv 1) (qa_cons (q_sub (qv 1) qi) (qa_cons qi qa_nil)))) (qa_cons (q_tup (qa_cons (q_neg qi) (qa_cons qi (qa_cons qi qa_nil)))) (qa_cons (q_tup (qa_cons qi (qa_cons (qv 1) (qa_cons (q_neg qi) qa_nil)))) (qa_cons (q_tup (qa_cons qi (qa_cons (qv 1) qa_nil))) (qa_cons (q_lst (qa_cons qi (qa_cons (qv 1) (qa_cons qi qa_nil)))) qa_nil))))))))) (qs_cons (q_set (i := 3) hN rfl (by first | exact Or.inl rfl | exact Or.inr rfl) (q_add (qv 3) (q_lst (qa_cons (q_tup (qa_cons qi (qa_cons (qv 1) (qa_cons qb qa_nil)))) (qa_cons (q_tup (qa_cons qb (qa_cons (qv 1) (qa_cons qi qa_nil)))) (qa_cons (q_tup (qa_cons qi (qa_cons (q_str1 rfl b_str (qv 1)) (qa_cons qi qa_nil)))) (qa_cons (q_tup (qa_cons qi (qa_cons (qv 1) (qa_cons qi (qa_cons qi qa_nil))))) (qa_cons (q_tup (qa_cons qi (qa_cons (qv 1) (qa_cons qn qa_nil)))) (qa_cons qn (qa_cons qi qa_nil)))))))))) (qs_cons (q_set (i := 4) hN rfl (by first | exact Or.inl rfl | exact Or.inr rfl) (q_call (ms := [.t, .s]) (dd := []) (fnT hT (c__law_take.ok.mono (Nat.le_trans l__law_take (by decide)))) hr rfl c__law_take.mg c__law_take.kp c__law_take.bd .nil (fun _ _ _ => rfl) (qa_cons (qv 0) (qa_cons (q_add (q_len rfl b_len (qv 2)) qi) qa_nil)))) (qs_cons (q_set (i := 5) hN rfl (by first | exact Or.inl rfl | exact Or.inr rfl) (q_add (q_add (q_sl (qv 2) qo_n (qo_e (qv 4))) (q_lst (qa_cons (q_call (ms := [.t, .s]) (dd := []) (fnT hT (c__law_pick.ok.mono (Nat.le_trans l__law_pick (by decide)))) hr rfl c__law_pick.mg c__law_pick.kp c__law_pick.bd .nil (fun _ _ _ => rfl) (qa_cons (qv 0) (qa_cons (qv 3) qa_nil))) qa_nil))) (q_sl (qv 2) (qo_e (qv 4)) qo_n))) (qs_cons (q_set (i := 6) hN rfl (by first | exact Or.inl rfl | exact Or.inr rfl) (q_call (ms := [.t, .s]) (dd := []) (fnT hT (c__law_pick.ok.mono (Nat.le_trans l__law_pick (by decide)))) hr rfl c__law_pick.mg c__law_pick.kp c__law_pick.bd .nil (fun _ _ _ => rfl) (qa_cons (qv 0) (qa_cons (q_lst (qa_cons (qv 5) (qa_cons (qv 5) (qa_cons (qv 5) (qa_cons (q_tuple rfl b_tuple (qv 2)) (qa_cons qn (qa_cons q_dict0 (qa_cons qi (qa_cons (q_repG (q_lst (qa_cons (q_tup (qa_cons qi (qa_cons (q_min rfl rfl b_min (qv 1) qi) (qa_cons qi qa_nil)))) qa_nil)) qi) qa_nil))))))))) qa_nil)))) (qs_cons (q_if (q_val (q_call (ms := [.t, .s]) (dd := []) (fnT hT (c__law_odds.ok.mono (Nat.le_trans l__law_odds (by decide)))) hr rfl c__law_odds.mg c__law_odds.kp c__law_odds.bd .nil (fun _ _ _ => rfl) (qa_cons (qv 0) (qa_cons qi qa_nil)))) (qs_one (q_ret (q_call (ms := [.s, .s]) (dd := []) (fnT hT (c__law_same.ok.mono (Nat.le_trans l__law_same (by decide)))) hr rfl c__law_same.mg c__law_same.kp c__law_same.bd .nil (fun _ _ _ => rfl) (qa_cons (q_lend fun g2 hg2 => have hT := hg2.trans hT; (q_ask (k := 4) (askT hT A__law_bad_name) rfl tb hfc (tbT hT tm) (tuT hT tu) rfl (hr.mono (by decide)) (LamX.lamS_by (by rfl)) (fun _ _ _ _ _ _ _ gl hgl hr => have hT := hgl.trans hT; (q_frz (q_call (ms := [.s, .s]) (dd := []) (fnT hT (c_way_paper.ok.mono (Nat.le_trans l_way_paper (by decide)))) hr rfl c_way_paper.mg c_way_paper.kp c_way_paper.bd .nil (fun _ _ _ => rfl) (qa_cons (qv 1) (qa_cons (qv 6) qa_nil))))))) (qa_cons (q_tup (qa_cons qs (qa_cons qs qa_nil))) qa_nil))))) qs_nil) (qs_cons (q_set (i := 7) hN rfl (by first | exact Or.inl rfl | exact Or.inr rfl) (q_call (ms := [.t, .s]) (dd := []) (fnT hT (c__law_pick.ok.mono (Nat.le_trans l__law_pick (by decide)))) hr rfl c__law_pick.mg c__law_pick.kp c__law_pick.bd .nil (fun _ _ _ => rfl) (qa_cons (qv 0) (qa_cons (q_lst (qa_cons (q_neg qi) (qa_cons qi (qa_cons qb (qa_cons qs (qa_cons qn (qa_cons (q_lst (qa_cons qi qa_nil)) (qa_cons (q_pow qi qi) qa_nil)))))))) qa_nil)))) (qs_one (q_ret (q_call (ms := [.s, .s]) (dd := []) (fnT hT (c__law_same.ok.mono (Nat.le_trans l__law_same (by decide)))) hr rfl c__law_same.mg c__law_same.kp c__law_same.bd .nil (fun _ _ _ => rfl) (qa_cons (q_lend fun g2 hg2 => have hT := hg2.trans hT; (q_ask (k := 4) (askT hT A__law_bad_name) rfl tb hfc (tbT hT tm) (tuT hT tu) rfl (hr.mono (by decide)) (LamX.lamS_by (by rfl)) (fun _ _ _ _ _ _ _ gl hgl hr => have hT := hgl.trans hT; (q_frz (q_call (ms := [.s, .s]) (dd := []) (fnT hT (c_way_paper.ok.mono (Nat.le_trans l_way_paper (by decide)))) hr rfl c_way_paper.mg c_way_paper.kp c_way_paper.bd .nil (fun _ _ _ => rfl) (qa_cons (qv 7) (qa_cons (qv 6) qa_nil))))))) (qa_cons (q_tup (qa_cons qs (qa_cons qs qa_nil))) qa_nil)))))))))))))
def N_law_asked : List Str := ["_law_store_here", "_law_many", "_law_steps_here", "_law_handed", "_law_due", "_law_told"]
theorem sc_law_asked : FnScope N_law_asked ["_law_store_here", "_law_many", "_law_steps_here", "_law_handed"] (defScope (top 43)) := by refine ⟨?_, ?_, ?_, ?_, ?_, ?_, ?_⟩ <;> first | rfl | decide
theorem fn_law_asked {f : Addr} {fd : FuncData} {qz : QSpec}
    {k__law_least_to : Nat} {f__law_least_to : Addr} {fd__law_least_to : FuncData} {s_law_least_to : QSpec} (l__law_least_to : k__law_least_to ≤ 22) (c__law_least_to : Cd P w K mg base T "_law_least_to" ["_law_many", "_law_steps_here"] k__law_least_to [.s, .s] s_law_least_to (top 35) f__law_least_to fd__law_least_to)
    {k_way_paper : Nat} {f_way_paper : Addr} {fd_way_paper : FuncData} {s_way_paper : QSpec} (l_way_paper : k_way_paper ≤ 22) (c_way_paper : Cd P w K mg base T "way_paper" ["many", "steps"] k_way_paper [.s, .s] s_way_paper (top 16) f_way_paper fd_way_paper)
    {k__law_same : Nat} {f__law_same : Addr} {fd__law_same : FuncData} {s_law_same : QSpec} (l__law_same : k__law_same ≤ 22) (c__law_same : Cd P w K mg base T "_law_same" ["_law_actual", "_law_due"] k__law_same [.s, .s] s_law_same (top 31) f__law_same fd__law_same)
    {k__law_bars_less : Nat} {f__law_bars_less : Addr} {fd__law_bars_less : FuncData} {s_law_bars_less : QSpec} (l__law_bars_less : k__law_bars_less ≤ 22) (c__law_bars_less : Cd P w K mg base T "_law_bars_less" ["_law_store_here", "_law_many", "_law_steps_here", "_law_paper"] k__law_bars_less [.t, .s, .s, .s] s_law_bars_less (top 38) f__law_bars_less fd__law_bars_less)
    {k__law_no_less : Nat} {f__law_no_less : Addr} {fd__law_no_less : FuncData} {s_law_no_less : QSpec} (l__law_no_less : k__law_no_less ≤ 22) (c__law_no_less : Cd P w K mg base T "_law_no_less" ["_law_store_here", "_law_many", "_law_steps_here", "_law_paper"] k__law_no_less [.t, .s, .s, .s] s_law_no_less (top 40) f__law_no_less fd__law_no_less)
    {k__law_more_is_none : Nat} {f__law_more_is_none : Addr} {fd__law_more_is_none : FuncData} {s_law_more_is_none : QSpec} (l__law_more_is_none : k__law_more_is_none ≤ 22) (c__law_more_is_none : Cd P w K mg base T "_law_more_is_none" ["_law_store_here", "_law_many", "_law_steps_here", "_law_paper"] k__law_more_is_none [.t, .s, .s, .s] s_law_more_is_none (top 39) f__law_more_is_none fd__law_more_is_none)
    {k__law_spoil : Nat} {f__law_spoil : Addr} {fd__law_spoil : FuncData} (l__law_spoil : k__law_spoil ≤ 22) (c__law_spoil : CdS P w K mg base "_law_spoil" ["_law_store_here", "_law_value"] k__law_spoil (spW2 K T 9) (top 32) f__law_spoil fd__law_spoil)
    (F : Fun K "_law_asked" "_law_asked" (top 43) f fd) (pure : ∀ (ds : List D) (R : SV → Prop) (F : Exn → Prop), qz ds R F → ((rSeq (rSet 4 (rCall [.s, .s] s_law_least_to [] (rCons (rName 1) (rCons (rName 2) rNil)))) (rSeq (rSet 5 (rTree (rCall [.s, .s] s_way_paper [] (rCons (rName 1) (rCons (rName 3) rNil))))) (rSeq (rIf (rOr (rNot (rB (rLend (rCall [.s, .s] s_law_same [] (rCons (rName 5) (rCons (rName 4) rNil)))))) (rNot (rB (rLend (rCall [.s, .s] s_law_same [] (rCons (rName 3) (rCons (rName 2) rNil))))))) (rRet (rC (.bl false))) rNext) (rSeq (rIf (rOr (rNot (rB (rCall [.t, .s, .s, .s] s_law_bars_less [] (rCons (rName 0) (rCons (rName 1) (rCons (rName 2) (rCons (rName 4) rNil))))))) (rNot (rB (rCall [.t, .s, .s, .s] s_law_no_less [] (rCons (rName 0) (rCons (rName 1) (rCons (rName 2) (rCons (rName 4) rNil)))))))) (rRet (rC (.bl false))) rNext) (rSeq (rIf (rNot (rB (rCall [.t, .s, .s, .s] s_law_more_is_none [] (rCons (rName 0) (rCons (rName 1) (rCons (rName 2) (rCons (rName 4) rNil))))))) (rRet (rC (.bl false))) rNext) (rSeq (rWr2 0 5 some 8) (rRet (rLend (rCall [.s, .s] s_law_same [] (rCons (rFrz (rCallK [.s, .s] s_way_paper 0 [1, 0] rNil (rCons (rName 3) (rCons (rName 1) rNil)))) (rCons (rName 4) rNil))))))))))) : RS) (endsF [.t, .s, .s, .s] ds R F) (slots0 [.t, .s, .s, .s] ds ++ List.replicate 2 .no)) :
    FnOk P w K mg base (L2.CX P w) 23 f fd ["_law_store_here", "_law_many", "_law_steps_here", "_law_handed"] (spQ K T [.t, .s, .s, .s] qz) := by
  refine q_fn (N := N_law_asked) F sc_law_asked rfl (fun cdv A outer s H E g hr hT => ?_) pure
  have hN : N_law_asked.Nodup := sc_law_asked.nd
  have hp := passes_of (X := cxOf (L2.CX P w) P w K mg base N_law_asked "_law_asked" (defScope (top 43)) f cdv A outer s H E) rfl
  exact (qs_cons (q_set (i := 4) hN rfl (by first | exact Or.inl rfl | exact Or.inr rfl) (q_call (ms := [.s, .s]) (dd := []) (fnT hT (c__law_least_to.ok.mono (Nat.le_trans l__law_least_to (by decide)))) hr rfl c__law_least_to.mg c__law_least_to.kp c__law_least_to.bd .nil (fun _ _ _ => rfl) (qa_cons (qv 1) (qa_cons (qv 2) qa_nil)))) (qs_cons (q_set (i := 5) hN rfl (by first | exact Or.inl rfl | exact Or.inr rfl) (q_tree (q_call (ms := [.s, .s]) (dd := []) (fnT hT (c_way_paper.ok.mono (Nat.le_trans l_way_paper (by decide)))) hr rfl c_way_paper.mg c_way_paper.kp c_way_paper.bd .nil (fun _ _ _ => rfl) (qa_cons (qv 1) (qa_cons (qv 3) qa_nil))))) (qs_cons (q_if (QW.qt (qw_or (qt_not (q_val (q_lend fun g2 hg2 => have hT := hg2.trans hT; (q_call (ms := [.s, .s]) (dd := []) (fnT hT (c__law_same.ok.mono (Nat.le_trans l__law_same (by decide)))) hr rfl c__law_same.mg c__law_same.kp c__law_same.bd .nil (fun _ _ _ => rfl) (qa_cons (qv 5) (qa_cons (qv 4) qa_nil)))))) (qw_or1 (qt_not (q_val (q_lend fun g2 hg2 => have hT := hg2.trans hT; (q_call (ms := [.s, .s]) (dd := []) (fnT hT (c__law_same.ok.mono (Nat.le_trans l__law_same (by decide)))) hr rfl c__law_same.mg c__law_same.kp c__law_same.bd .nil (fun _ _ _ => rfl) (qa_cons (qv 3) (qa_cons (qv 2) qa_nil))))))))) (qs_one (q_ret qb)) qs_nil) (qs_cons (q_if (QW.qt (qw_or (qt_not (q_val (q_call (ms := [.t, .s, .s, .s]) (dd := []) (fnT hT (c__law_bars_less.ok.mono (Nat.le_trans l__law_bars_less (by decide)))) hr rfl c__law_bars_less.mg c__law_bars_less.kp c__law_bars_less.bd .nil (fun _ _ _ => rfl) (qa_cons (qv 0) (qa_cons (qv 1) (qa_cons (qv 2) (qa_cons (qv 4) qa_nil))))))) (qw_or1 (qt_not (q_val (q_call (ms := [.t, .s, .s, .s]) (dd := []) (fnT hT (c__law_no_less.ok.mono (Nat.le_trans l__law_no_less (by decide)))) hr rfl c__law_no_less.mg c__law_no_less.kp c__law_no_less.bd .nil (fun _ _ _ => rfl) (qa_cons (qv 0) (qa_cons (qv 1) (qa_cons (qv 2) (qa_cons (qv 4) qa_nil)))))))))) (qs_one (q_ret qb)) qs_nil) (qs_cons (q_if (qt_not (q_val (q_call (ms := [.t, .s, .s, .s]) (dd := []) (fnT hT (c__law_more_is_none.ok.mono (Nat.le_trans l__law_more_is_none (by decide)))) hr rfl c__law_more_is_none.mg c__law_more_is_none.kp c__law_more_is_none.bd .nil (fun _ _ _ => rfl) (qa_cons (qv 0) (qa_cons (qv 1) (qa_cons (qv 2) (qa_cons (qv 4) qa_nil))))))) (qs_one (q_ret qb)) qs_nil) (qs_cons (q_wr2 (j := 0) (fnTW2 hT (c__law_spoil.ok.mono (Nat.le_trans l__law_spoil (by decide)))) hr rfl c__law_spoil.mg c__law_spoil.kp c__law_spoil.bd rfl (L2.pv 5) sub_var) (qs_one (q_ret (q_lend fun g2 hg2 => have hT := hg2.trans hT; (q_call (ms := [.s, .s]) (dd := []) (fnT hT (c__law_same.ok.mono (Nat.le_trans l__law_same (by decide)))) hr rfl c__law_same.mg c__law_same.kp c__law_same.bd .nil (fun _ _ _ => rfl) (qa_cons (q_frz (q_callK0 (fnT hT (c_way_paper.ok.mono (Nat.le_trans l_way_paper (by decide)))) hr rfl c_way_paper.mg c_way_paper.kp (kwB (ks := ["steps", "many"]) (pm := [1, 0]) 0 (by rfl) c_way_paper.fn fun _ _ _ _ _ _ us ws h1 h2 => match us, ws, h1, h2 with | [], [_, _], _, _ => rfl) (qk_cons (qv 3) (qk_cons (qv 1) qk_nil)))) (qa_cons (qv 4) qa_nil))))))))))))
def N_law : List Str := ["_law_script", "_law_store_here", "_law_many", "_law_wide", "_law_steps_here", "_law_handed", "_law_start", "_law_step", "_law_place", "_law_part"]
theorem sc_law : FnScope N_law ["_law_script"] (defScope (top 44)) := by refine ⟨?_, ?_, ?_, ?_, ?_, ?_, ?_⟩ <;> first | rfl | decide
theorem fn_law {f : Addr} {fd : FuncData} {qz : QSpec}
    {k__law_store : Nat} {f__law_store : Addr} {fd__law_store : FuncData} {s_law_store : QSpec} (l__law_store : k__law_store ≤ 23) (c__law_store : Cd P w K mg base T "_law_store" ["_law_script"] k__law_store [.b] s_law_store (top 20) f__law_store fd__law_store)
    {k__law_size : Nat} {f__law_size : Addr} {fd__law_size : FuncData} {s_law_size : QSpec} (l__law_size : k__law_size ≤ 23) (c__law_size : Cd P w K mg base T "_law_size" ["_law_store_here", "_law_most"] k__law_size [.t, .s] s_law_size (top 24) f__law_size fd__law_size)
    {k__law_odds : Nat} {f__law_odds : Addr} {fd__law_odds : FuncData} {s_law_odds : QSpec} (l__law_odds : k__law_odds ≤ 23) (c__law_odds : Cd P w K mg base T "_law_odds" ["_law_store_here", "_law_parts"] k__law_odds [.t, .s] s_law_odds (top 27) f__law_odds fd__law_odds)
    {k__law_take : Nat} {f__law_take : Addr} {fd__law_take : FuncData} {s_law_take : QSpec} (l__law_take : k__law_take ≤ 23) (c__law_take : Cd P w K mg base T "_law_take" ["_law_store_here", "_law_many"] k__law_take [.t, .s] s_law_take (top 23) f__law_take fd__law_take)
    {k__law_steps : Nat} {f__law_steps : Addr} {fd__law_steps : FuncData} {s_law_steps : QSpec} (l__law_steps : k__law_steps ≤ 23) (c__law_steps : Cd P w K mg base T "_law_steps" ["_law_store_here", "_law_many"] k__law_steps [.t, .s] s_law_steps (top 33) f__law_steps fd__law_steps)
    {k__law_shuffled : Nat} {f__law_shuffled : Addr} {fd__law_shuffled : FuncData} {s_law_shuffled : QSpec} (l__law_shuffled : k__law_shuffled ≤ 23) (c__law_shuffled : Cd P w K mg base T "_law_shuffled" ["_law_store_here", "_law_row"] k__law_shuffled [.t, .s] s_law_shuffled (top 29) f__law_shuffled fd__law_shuffled)
    {k__law_many_steps : Nat} {f__law_many_steps : Addr} {fd__law_many_steps : FuncData} {s_law_many_steps : QSpec} (l__law_many_steps : k__law_many_steps ≤ 23) (c__law_many_steps : Cd P w K mg base T "_law_many_steps" ["_law_store_here", "_law_many"] k__law_many_steps [.t, .s] s_law_many_steps (top 34) f__law_many_steps fd__law_many_steps)
    {k__law_asked : Nat} {f__law_asked : Addr} {fd__law_asked : FuncData} {s_law_asked : QSpec} (l__law_asked : k__law_asked ≤ 23) (c__law_asked : Cd P w K mg base T "_law_asked" ["_law_store_here", "_law_many", "_law_steps_here", "_law_handed"] k__law_asked [.t, .s, .s, .s] s_law_asked (top 43) f__law_asked fd__law_asked)
    {k__law_large : Nat} {f__law_large : Addr} {fd__law_large : FuncData} {s_law_large : QSpec} (l__law_large : k__law_large ≤ 23) (c__law_large : Cd P w K mg base T "_law_large" ["_law_store_here", "_law_bound"] k__law_large [.t, .s] s_law_large (top 25) f__law_large fd__law_large)
    {k__law_same : Nat} {f__law_same : Addr} {fd__law_same : FuncData} {s_law_same : QSpec} (l__law_same : k__law_same ≤ 23) (c__law_same : Cd P w K mg base T "_law_same" ["_law_actual", "_law_due"] k__law_same [.s, .s] s_law_same (top 31) f__law_same fd__law_same)
    {k__law_least_to : Nat} {f__law_least_to : Addr} {fd__law_least_to : FuncData} {s_law_least_to : QSpec} (l__law_least_to : k__law_least_to ≤ 23) (c__law_least_to : Cd P w K mg base T "_law_least_to" ["_law_many", "_law_steps_here"] k__law_least_to [.s, .s] s_law_least_to (top 35) f__law_least_to fd__law_least_to)
    {k_way_paper : Nat} {f_way_paper : Addr} {fd_way_paper : FuncData} {s_way_paper : QSpec} (l_way_paper : k_way_paper ≤ 23) (c_way_paper : Cd P w K mg base T "way_paper" ["many", "steps"] k_way_paper [.s, .s] s_way_paper (top 16) f_way_paper fd_way_paper)
    {k__law_bars_less : Nat} {f__law_bars_less : Addr} {fd__law_bars_less : FuncData} {s_law_bars_less : QSpec} (l__law_bars_less : k__law_bars_less ≤ 23) (c__law_bars_less : Cd P w K mg base T "_law_bars_less" ["_law_store_here", "_law_many", "_law_steps_here", "_law_paper"] k__law_bars_less [.t, .s, .s, .s] s_law_bars_less (top 38) f__law_bars_less fd__law_bars_less)
    {k__law_refused : Nat} {f__law_refused : Addr} {fd__law_refused : FuncData} {s_law_refused : QSpec} (l__law_refused : k__law_refused ≤ 23) (c__law_refused : Cd P w K mg base T "_law_refused" ["_law_store_here", "_law_many", "_law_steps_here"] k__law_refused [.t, .s, .s] s_law_refused (top 42) f__law_refused fd__law_refused)
    (b_int : mg "int" = none)
    (b_list : mg "list" = none)
    (F : Fun K "law" "law" (top 44) f fd) (pure : ∀ (ds : List D) (R : SV → Prop) (F : Exn → Prop), qz ds R F → ((rSeq (rSet 1 (rCall [.b] s_law_store [] (rCons (rName 0) rNil))) (rSeq (rSet 2 (rCall [.t, .s] s_law_size [] (rCons (rName 1) (rCons (rC (.int 60)) rNil)))) (rSeq (rSet 3 (rCall [.t, .s] s_law_odds [] (rCons (rName 1) (rCons (rC (.int 16)) rNil)))) (rSeq (rIf (rB (rName 3)) (rSet 2 (rOp2 oAdd (rC (.int 20)) (rCall [.t, .s] s_law_take [] (rCons (rName 1) (rCons (rC (.int 41)) rNil))))) rNext) (rSeq (rSet 4 (rLc [7] (riL (rCall [.t, .s] s_law_steps [] (rCons (rName 1) (rCons (rName 2) rNil)))) (gN 7) rYes (rTup (rCons (rOp2 oIx (rName 7) (rC (.int 0))) (rCons (rOp2 oIx (rName 7) (rC (.int 1))) (rCons (rOp2 oMod (rB1 oInt1 (rOp2 oIx (rName 7) (rC (.int 2)))) (rOp2 oPow (rC (.int 10)) (rC (.int 58)))) rNil)))))) (rSeq (rIf (rB (rName 3)) (rSet 4 (rCall [.t, .s] s_law_shuffled [] (rCons (rName 1) (rCons (rOp2 oAdd (rName 4) (rCall [.t, .s] s_law_many_steps [] (rCons (rName 1) (rCons (rName 2) rNil)))) rNil)))) rNext) (rSeq (rSet 5 (rB1 oList (rName 4))) (rSeq (rIf (rNot (rB (rLend (rCall [.t, .s, .s, .s] s_law_asked [] (rCons (rName 1) (rCons (rName 2) (rCons (rName 4) (rCons (rName 5) rNil)))))))) (rRet (rC (.bl false))) rNext) (rSeq (rIf (rB (rOp2 oGtG (rName 2) (rC (.int 0)))) (rSeq (rSet 6 (rCall [.t, .s] s_law_take [] (rCons (rName 1) (rCons (rName 2) rNil)))) (rSeq (rSet 7 (rTup (rCons (rName 6) (rCons (rOp2 oAdd (rOp2 oAdd (rName 6) (rC (.int 1))) (rCall [.t, .s] s_law_take [] (rCons (rName 1) (rCons (rOp2 oSub (rName 2) (rName 6)) rNil)))) (rCons (rCall [.t, .s] s_law_large [] (rCons (rName 1) (rCons (rC (.int 12)) rNil))) rNil))))) (rSeq (rDrop (rMS2 5 moAppend (rCons (rName 7) rNil))) (rSeq (rSet 4 (rOp2 oAdd (rName 4) (rLst (rCons (rName 7) rNil)))) (rSeq (rIf (rNot (rB (rLend (rCall [.t, .s, .s, .s] s_law_asked [] (rCons (rName 1) (rCons (rName 2) (rCons (rName 4) (rCons (rName 5) rNil)))))))) (rRet (rC (.bl false))) rNext) (rSeq (rSet 8 (rCall [.t, .s] s_law_take [] (rCons (rName 1) (rCons (rName 2) rNil)))) (rSeq (rSet 9 (rLc [7] (riL (rName 4)) (gN 7) (rB (rOp2 oLeG (rOp2 oIx (rName 7) (rC (.int 1))) (rName 8))) (rName 7))) (rSeq (rIf (rNot (rB (rCall [.s, .s] s_law_same [] (rCons (rFrz (rCall [.s, .s] s_way_paper [] (rCons (rName 8) (rCons (rB1 oList (rName 9)) rNil)))) (rCons (rSl (rCall [.s, .s] s_law_least_to [] (rCons (rName 2) (rCons (rName 4) rNil))) roN (roE (rOp2 oAdd (rName 8) (rC (.int 1))))) rNil))))) (rRet (rC (.bl false))) rNext) (rIf (rNot (rB (rCall [.t, .s, .s, .s] s_law_bars_less [] (rCons (rName 1) (rCons (rName 8) (rCons (rName 9) (rCons (rCall [.s, .s] s_law_least_to [] (rCons (rName 8) (rCons (rName 9) rNil))) rNil))))))) (rRet (rC (.bl false))) rNext))))))))) rNext) (rRet (rCall [.t, .s, .s] s_law_refused [] (rCons (rName 1) (rCons (rName 2) (rCons (rName 4) rNil)))))))))))))) : RS) (endsF [.s] ds R F) (slots0 [.s] ds ++ List.replicate 9 .no)) :
    FnOk P w K mg base (L2.CX P w) 24 f fd ["_law_script"] (spL K T qz) := by
  refine q_fnL (N := N_law) F sc_law (fun A outer s H E g hr hT => ?_) pure
  have hN : N_law.Nodup := sc_law.nd
  have hp := passes_of (X := cxOf (L2.CX P w) P w K mg base N_law "law" (defScope (top 44)) f fd.code A outer s H E) rfl
  exact (QSs.q0 (qs_cons (q_set (i := 1) hN rfl (by first | exact Or.inl rfl | exact Or.inr rfl) (q_call (ms := [.b]) (dd := []) (fnT hT (c__law_store.ok.mono (Nat.le_trans l__law_store (by decide)))) hr rfl c__law_store.mg c__law_store.kp c__law_store.bd .nil (fun _ _ _ => rfl) (qa_cons (qv 0) qa_nil))) (qs_cons (q_set (i := 2) hN rfl (by first | exact Or.inl rfl | exact Or.inr rfl) (q_call (ms := [.t, .s]) (dd := []) (fnT hT (c__law_size.ok.mono (Nat.le_trans l__law_size (by decide)))) hr rfl c__law_size.mg c__law_size.kp c__law_size.bd .nil (fun _ _ _ => rfl) (qa_cons (qv 1) (qa_cons qi qa_nil)))) (qs_cons (q_set (i := 3) hN rfl (by first | exact Or.inl rfl | exact Or.inr rfl) (q_call (ms := [.t, .s]) (dd := []) (fnT hT (c__law_odds.ok.mono (Nat.le_trans l__law_odds (by decide)))) hr rfl c__law_odds.mg c__law_odds.kp c__law_odds.bd .nil (fun _ _ _ => rfl) (qa_cons (qv 1) (qa_cons qi qa_nil)))) (qs_cons (q_if (q_val (qv 3)) (qs_one (q_set (i := 2) hN rfl (by first | exact Or.inl rfl | exact Or.inr rfl) (q_add qi (q_call (ms := [.t, .s]) (dd := []) (fnT hT (c__law_take.ok.mono (Nat.le_trans l__law_take (by decide)))) hr rfl c__law_take.mg c__law_take.kp c__law_take.bd .nil (fun _ _ _ => rfl) (qa_cons (qv 1) (qa_cons qi qa_nil)))))) qs_nil) (qs_cons (q_setLc (i := 4) rfl hN rfl rfl (own := [("_law_step", 7)]) (qi_list (q_call (ms := [.t, .s]) (dd := []) (fnT hT (c__law_steps.ok.mono (Nat.le_trans l__law_steps (by decide)))) hr rfl c__law_steps.mg c__law_steps.kp c__law_steps.bd .nil (fun _ _ _ => rfl) (qa_cons (qv 1) (qa_cons (qv 2) qa_nil)))) (blkOk_by (by rfl)) (by decide) (fun _ _ _ _ _ => (qg_name (i := 7) hN rfl (by first | exact Or.inl rfl | exact Or.inr rfl) (.inr rfl))) (fun _ _ _ _ _ => qts_nil) (fun _ _ _ _ _ => (q_tup (qa_cons (q_ix (have z := hu_of hr; z) (qv 7) qi) (qa_cons (q_ix (have z := hu_of hr; z) (qv 7) qi) (qa_cons (q_mod (q_int1 rfl b_int (q_ix (have z := hu_of hr; z) (qv 7) qi)) (q_pow qi qi)) qa_nil)))))) (qs_cons (q_if (q_val (qv 3)) (qs_one (q_set (i := 4) hN rfl (by first | exact Or.inl rfl | exact Or.inr rfl) (q_call (ms := [.t, .s]) (dd := []) (fnT hT (c__law_shuffled.ok.mono (Nat.le_trans l__law_shuffled (by decide)))) hr rfl c__law_shuffled.mg c__law_shuffled.kp c__law_shuffled.bd .nil (fun _ _ _ => rfl) (qa_cons (qv 1) (qa_cons (q_add (qv 4) (q_call (ms := [.t, .s]) (dd := []) (fnT hT (c__law_many_steps.ok.mono (Nat.le_trans l__law_many_steps (by decide)))) hr rfl c__law_many_steps.mg c__law_many_steps.kp c__law_many_steps.bd .nil (fun _ _ _ => rfl) (qa_cons (qv 1) (qa_cons (qv 2) qa_nil)))) qa_nil))))) qs_nil) (qs_cons (q_set (i := 5) hN rfl (by first | exact Or.inl rfl | exact Or.inr rfl) (q_list rfl b_list (qv 4))) (qs_cons (q_if (qt_not (q_val (q_lend fun g2 hg2 => have hT := hg2.trans hT; (q_call (ms := [.t, .s, .s, .s]) (dd := []) (fnT hT (c__law_asked.ok.mono (Nat.le_trans l__law_asked (by decide)))) hr rfl c__law_asked.mg c__law_asked.kp c__law_asked.bd .nil (fun _ _ _ => rfl) (qa_cons (qv 1) (qa_cons (qv 2) (qa_cons (qv 4) (qa_cons (qv 5) qa_nil)))))))) (qs_one (q_ret qb)) qs_nil) (qs_cons (q_if (q_cmpT op_gtG rd_cmpG (qv 2) qi (nomark _)) (qs_cons (q_set (i := 6) hN rfl (by first | exact Or.inl rfl | exact Or.inr rfl) (q_call (ms := [.t, .s]) (dd := []) (fnT hT (c__law_take.ok.mono (Nat.le_trans l__law_take (by decide)))) hr rfl c__law_take.mg c__law_take.kp c__law_take.bd .nil (fun _ _ _ => rfl) (qa_cons (qv 1) (qa_cons (qv 2) qa_nil)))) (qs_cons (q_set (i := 7) hN rfl (by first | exact Or.inl rfl | exact Or.inr rfl) (q_tup (qa_cons (qv 6) (qa_cons (q_add (q_add (qv 6) qi) (q_call (ms := [.t, .s]) (dd := []) (fnT hT (c__law_take.ok.mono (Nat.le_trans l__law_take (by decide)))) hr rfl c__law_take.mg c__law_take.kp c__law_take.bd .nil (fun _ _ _ => rfl) (qa_cons (qv 1) (qa_cons (q_sub (qv 2) (qv 6)) qa_nil)))) (qa_cons (q_call (ms := [.t, .s]) (dd := []) (fnT hT (c__law_large.ok.mono (Nat.le_trans l__law_large (by decide)))) hr rfl c__law_large.mg c__law_large.kp c__law_large.bd .nil (fun _ _ _ => rfl) (qa_cons (qv 1) (qa_cons qi qa_nil))) qa_nil))))) (qs_cons (q_expr (q_append 5 rfl (qv 7))) (qs_cons (q_set (i := 4) hN rfl (by first | exact Or.inl rfl | exact Or.inr rfl) (q_add (qv 4) (q_lst (qa_cons (qv 7) qa_nil)))) (qs_cons (q_if (qt_not (q_val (q_lend fun g2 hg2 => have hT := hg2.trans hT; (q_call (ms := [.t, .s, .s, .s]) (dd := []) (fnT hT (c__law_asked.ok.mono (Nat.le_trans l__law_asked (by decide)))) hr rfl c__law_asked.mg c__law_asked.kp c__law_asked.bd .nil (fun _ _ _ => rfl) (qa_cons (qv 1) (qa_cons (qv 2) (qa_cons (qv 4) (qa_cons (qv 5) qa_nil)))))))) (qs_one (q_ret qb)) qs_nil) (qs_cons (q_set (i := 8) hN rfl (by first | exact Or.inl rfl | exact Or.inr rfl) (q_call (ms := [.t, .s]) (dd := []) (fnT hT (c__law_take.ok.mono (Nat.le_trans l__law_take (by decide)))) hr rfl c__law_take.mg c__law_take.kp c__law_take.bd .nil (fun _ _ _ => rfl) (qa_cons (qv 1) (qa_cons (qv 2) qa_nil)))) (qs_cons (q_setLc (i := 9) rfl hN rfl rfl (own := [("_law_step", 7)]) (qi_list (qv 4)) (blkOk_by (by rfl)) (by decide) (fun _ _ _ _ _ => (qg_name (i := 7) hN rfl (by first | exact Or.inl rfl | exact Or.inr rfl) (.inr rfl))) (fun _ _ _ _ _ => (qts_one (q_cmpT op_leG rd_cmpG (q_ix (have z := hu_of hr; z) (qv 7) qi) (qv 8) (nomark _)))) (fun _ _ _ _ _ => (qv 7))) (qs_cons (q_if (qt_not (q_val (q_call (ms := [.s, .s]) (dd := []) (fnT hT (c__law_same.ok.mono (Nat.le_trans l__law_same (by decide)))) hr rfl c__law_same.mg c__law_same.kp c__law_same.bd .nil (fun _ _ _ => rfl) (qa_cons (q_frz (q_call (ms := [.s, .s]) (dd := []) (fnT hT (c_way_paper.ok.mono (Nat.le_trans l_way_paper (by decide)))) hr rfl c_way_paper.mg c_way_paper.kp c_way_paper.bd .nil (fun _ _ _ => rfl) (qa_cons (qv 8) (qa_cons (q_list rfl b_list (qv 9)) qa_nil)))) (qa_cons (q_sl (q_call (ms := [.s, .s]) (dd := []) (fnT hT (c__law_least_to.ok.mono (Nat.le_trans l__law_least_to (by decide)))) hr rfl c__law_least_to.mg c__law_least_to.kp c__law_least_to.bd .nil (fun _ _ _ => rfl) (qa_cons (qv 2) (qa_cons (qv 4) qa_nil))) qo_n (qo_e (q_add (qv 8) qi))) qa_nil))))) (qs_one (q_ret qb)) qs_nil) (qs_one (q_if (qt_not (q_val (q_call (ms := [.t, .s, .s, .s]) (dd := []) (fnT hT (c__law_bars_less.ok.mono (Nat.le_trans l__law_bars_less (by decide)))) hr rfl c__law_bars_less.mg c__law_bars_less.kp c__law_bars_less.bd .nil (fun _ _ _ => rfl) (qa_cons (qv 1) (qa_cons (qv 8) (qa_cons (qv 9) (qa_cons (q_call (ms := [.s, .s]) (dd := []) (fnT hT (c__law_least_to.ok.mono (Nat.le_trans l__law_least_to (by decide)))) hr rfl c__law_least_to.mg c__law_least_to.kp c__law_least_to.bd .nil (fun _ _ _ => rfl) (qa_cons (qv 8) (qa_cons (qv 9) qa_nil))) qa_nil))))))) (qs_one (q_ret qb)) qs_nil)))))))))) qs_nil) (qs_one (q_ret (q_call (ms := [.t, .s, .s]) (dd := []) (fnT hT (c__law_refused.ok.mono (Nat.le_trans l__law_refused (by decide)))) hr rfl c__law_refused.mg c__law_refused.kp c__law_refused.bd .nil (fun _ _ _ => rfl) (qa_cons (qv 1) (qa_cons (qv 2) (qa_cons (qv 4) qa_nil))))))))))))))))
end
end Z
namespace Z
open PySem PySem.Spec PyProof.Rows L2 Q
set_option maxHeartbeats 0
def hd0 : He.DefD := ⟨("plain_count", none), "plain_count", "plain_count", defArgs (top 10), defBody (top 10), defScope (top 10), [], []⟩
def hd1 : He.DefD := ⟨("good_step", none), "good_step", "good_step", defArgs (top 11), defBody (top 11), defScope (top 11), [], []⟩
def hd2 : He.DefD := ⟨("check_graph", none), "check_graph", "check_graph", defArgs (top 12), defBody (top 12), defScope (top 12), [], []⟩
def hd3 : He.DefD := ⟨("least_harms", none), "least_harms", "least_harms", defArgs (top 13), defBody (top 13), defScope (top 13), [], []⟩
def hd4 : He.DefD := ⟨("least_way", none), "least_way", "least_way", defArgs (top 14), defBody (top 14), defScope (top 14), [], []⟩
def hd5 : He.DefD := ⟨("way_harm", none), "way_harm", "way_harm", defArgs (top 15), defBody (top 15), defScope (top 15), [], []⟩
def hd6 : He.DefD := ⟨("way_paper", none), "way_paper", "way_paper", defArgs (top 16), defBody (top 16), defScope (top 16), [], []⟩
def hd7 : He.DefD := ⟨("step_kept", none), "step_kept", "step_kept", defArgs (top 17), defBody (top 17), defScope (top 17), [], []⟩
def hd8 : He.DefD := ⟨("bars_way", none), "bars_way", "bars_way", defArgs (top 18), defBody (top 18), defScope (top 18), [], []⟩
def hd9 : He.DefD := ⟨("_law_store", none), "_law_store", "_law_store", defArgs (top 20), defBody (top 20), defScope (top 20), [], []⟩
def hd10 : He.DefD := ⟨("_law_load", none), "_law_load", "_law_load", defArgs (top 21), defBody (top 21), defScope (top 21), [], []⟩
def hd11 : He.DefD := ⟨("_law_mix", none), "_law_mix", "_law_mix", defArgs (top 22), defBody (top 22), defScope (top 22), [], []⟩
def hd12 : He.DefD := ⟨("_law_take", none), "_law_take", "_law_take", defArgs (top 23), defBody (top 23), defScope (top 23), [], []⟩
def hd13 : He.DefD := ⟨("_law_size", none), "_law_size", "_law_size", defArgs (top 24), defBody (top 24), defScope (top 24), [], []⟩
def hd14 : He.DefD := ⟨("_law_large", none), "_law_large", "_law_large", defArgs (top 25), defBody (top 25), defScope (top 25), [], []⟩
def hd15 : He.DefD := ⟨("_law_pick", none), "_law_pick", "_law_pick", defArgs (top 26), defBody (top 26), defScope (top 26), [], []⟩
def hd16 : He.DefD := ⟨("_law_odds", none), "_law_odds", "_law_odds", defArgs (top 27), defBody (top 27), defScope (top 27), [], []⟩
def hd17 : He.DefD := ⟨("_law_some", none), "_law_some", "_law_some", defArgs (top 28), defBody (top 28), defScope (top 28), [], []⟩
def hd18 : He.DefD := ⟨("_law_shuffled", none), "_law_shuffled", "_law_shuffled", defArgs (top 29), defBody (top 29), defScope (top 29), [], []⟩
def hd19 : He.DefD := ⟨("_law_is_int", none), "_law_is_int", "_law_is_int", defArgs (top 30), defBody (top 30), defScope (top 30), [], []⟩
def hd20 : He.DefD := ⟨("_law_same", none), "_law_same", "_law_same", defArgs (top 31), defBody (top 31), defScope (top 31), [], []⟩
def hd21 : He.DefD := ⟨("_law_spoil", none), "_law_spoil", "_law_spoil", defArgs (top 32), defBody (top 32), defScope (top 32), [], []⟩
def hd22 : He.DefD := ⟨("_law_steps", none), "_law_steps", "_law_steps", defArgs (top 33), defBody (top 33), defScope (top 33), [], []⟩
def hd23 : He.DefD := ⟨("_law_many_steps", none), "_law_many_steps", "_law_many_steps", defArgs (top 34), defBody (top 34), defScope (top 34), [], []⟩
def hd24 : He.DefD := ⟨("_law_least_to", none), "_law_least_to", "_law_least_to", defArgs (top 35), defBody (top 35), defScope (top 35), [], []⟩
def hd25 : He.DefD := ⟨("_law_some_ends", none), "_law_some_ends", "_law_some_ends", defArgs (top 36), defBody (top 36), defScope (top 36), [], []⟩
def hd26 : He.DefD := ⟨("_law_bars", none), "_law_bars", "_law_bars", defArgs (top 37), defBody (top 37), defScope (top 37), [], []⟩
def hd27 : He.DefD := ⟨("_law_bars_less", none), "_law_bars_less", "_law_bars_less", defArgs (top 38), defBody (top 38), defScope (top 38), [], []⟩
def hd28 : He.DefD := ⟨("_law_more_is_none", none), "_law_more_is_none", "_law_more_is_none", defArgs (top 39), defBody (top 39), defScope (top 39), [], []⟩
def hd29 : He.DefD := ⟨("_law_no_less", none), "_law_no_less", "_law_no_less", defArgs (top 40), defBody (top 40), defScope (top 40), [], []⟩
def hd30 : He.DefD := ⟨("_law_bad_name", none), "_law_bad_name", "_law_bad_name", defArgs (top 41), defBody (top 41), defScope (top 41), [], []⟩
def hd31 : He.DefD := ⟨("_law_refused", none), "_law_refused", "_law_refused", defArgs (top 42), defBody (top 42), defScope (top 42), [], []⟩
def hd32 : He.DefD := ⟨("_law_asked", none), "_law_asked", "_law_asked", defArgs (top 43), defBody (top 43), defScope (top 43), [], []⟩
def hd33 : He.DefD := ⟨("law", none), "law", "law", defArgs (top 44), defBody (top 44), defScope (top 44), [], []⟩
def hfn : List He.DefD := [hd0, hd1, hd2, hd3, hd4, hd5, hd6, hd7, hd8, hd9, hd10, hd11, hd12, hd13, hd14, hd15, hd16, hd17, hd18, hd19, hd20, hd21, hd22, hd23, hd24, hd25, hd26, hd27, hd28, hd29, hd30, hd31, hd32, hd33]
def ini0 : IniD := ⟨"BadValue", inClass (top 2) 0⟩
def hini : List IniD := [ini0]
def hfa0 : List He.Fa := [.glo "RoomError", .glo "BadValue", .glo "BadText", .glo "Unknown", .glo "Taken", .glo "Clash", .glo "Lacking", .glo "Unfit", .glo "plain_count", .glo "good_step", .glo "check_graph", .glo "least_harms", .glo "least_way", .glo "way_harm", .glo "way_paper", .glo "step_kept", .glo "bars_way", .glo "_law_store", .glo "_law_load", .glo "_law_mix", .glo "_law_take", .glo "_law_size", .glo "_law_large", .glo "_law_pick", .glo "_law_odds", .glo "_law_some", .glo "_law_shuffled", .glo "_law_is_int", .glo "_law_same", .glo "_law_spoil"]
def hfa1 : List He.Fa := [.glo "_law_steps", .glo "_law_many_steps", .glo "_law_least_to", .glo "_law_some_ends", .glo "_law_bars", .glo "_law_bars_less", .glo "_law_more_is_none", .glo "_law_no_less", .glo "_law_bad_name", .glo "_law_refused", .glo "_law_asked", .glo "law", .free "len", .free "isinstance", .free "range", .free "list", .free "int", .free "sorted", .free "all", .free "min", .free "max", .free "tuple", .free "str", .free "dict", .free "bool", .free "super", .free "ValueError"]
def hfa : List He.Fa := hfa0 ++ hfa1
def hflds : List Str := ["argument"]
def hcs : List EC := [.bv, .un, .tk, .cl, .lk, .uf, .bt, .rm, .ve]
def htf : List He.Defn := [("_law_refused", none)]
def hex (K : PySem.W.Frag) : Bool := errsB hflds hcs K && decide ((htf.map fun p => (He.cT K p).2).Nodup)
def nm0 : List PySem.Str := ["RoomError", "BadValue", "BadText", "Unknown", "Taken", "Clash", "Lacking", "Unfit", "plain_count", "good_step", "check_graph", "least_harms", "least_way", "way_harm", "way_paper", "step_kept", "bars_way", "_law_store", "_law_load", "_law_mix", "_law_take", "_law_size", "_law_large", "_law_pick", "_law_odds", "_law_some", "_law_shuffled", "_law_is_int", "_law_same", "_law_spoil"]
def nm1 : List PySem.Str := ["_law_steps", "_law_many_steps", "_law_least_to", "_law_some_ends", "_law_bars", "_law_bars_less", "_law_more_is_none", "_law_no_less", "_law_bad_name", "_law_refused", "_law_asked"]
def hnames : List PySem.Str := nm0 ++ nm1
abbrev RRow : PySem.W.OpenRow := PySem.W.OpenLaw.row PySem.Challenge.rw_typeformes_k28_way_paper_bars_less
def hfile : Str := PySem.Challenge.pw_typeformes_k28_way_paper_bars_less.main.file
abbrev hk : PySem.W.Hook := hookY 5 hfa hfn hini hfile htf hex
def hob (s : PySem.W.SharedT) : AlY := obsY 5 hfa hfn hini hfile htf hex (HandSHeadRun.getT s)
theorem hob_eq (s : PySem.W.SharedT) : hob s = hk.obs s.abs := obsY_eq (HandSHeadRun.getT_eq s)
theorem hrun (w : World) : HandSHeadRun.RunEq RRow (PySem.W.view RRow.prog [44]) hk hob 8000 hnames w := by
  intro os
  kernel_rfl
end Z
namespace Z
open PySem PySem.Spec PyProof.Rows L2 Q He
set_option maxHeartbeats 0
abbrev PP : Program := PySem.Challenge.pw_typeformes_k28_way_paper_bars_less
def TT (K : PySem.W.Frag) : TBs := ⟨[((He.cT K ("_law_refused", none)).2, ("_law_refused" ++ ".<locals>." ++ "<lambda>" : Str))], eaOf K⟩
section
variable {w : World} {K : PySem.W.Frag} {mg : Str → Option Value} {h base : Heap}
theorem fa_of {x : He.Fa} (Y : SaysY hfa hfn hini hfile htf hex h K) (i : Nat) (e : hfa[i]? = some x := by rfl) : x.ok K = true := Y.d.fact i e
theorem exc_BadValue (Y : SaysY hfa hfn hini hfile htf hex h K) (KX : K.In base) (G : base.Ns mainGlobals mg) (X1 : ErrsF hflds hcs K) : Exc1 PP w K mg base "BadValue" (He.ga K "BadValue") "argument" 1 okV := by
  have mi : ini0 ∈ hini := List.mem_of_getElem? (i := 0) rfl
  obtain ⟨f1, f2, f3, oc, od, osl, kV, doc, pm, an, cda, ct, cc, lk, hcd, SC⟩ := IniD.facts (P := PP) (d := ini0) (sn := "self") (Y.ini_ mi) (Y.io _ mi) (by decide +kernel) ⟨_, rfl, rfl⟩
  refine ⟨f3, ⟨_, _, ["self", "argument"], f1, f2, fn_init1 (f1 := "argument") (p1 := "argument") lk hcd ?_ SC (X1.noat .bv rfl "argument" (List.mem_of_getElem? (i := 0) rfl)) (free_ok KX G (fa_of Y 55)) (by decide +kernel) (by decide +kernel) (by decide +kernel) (by decide) (by decide) (fun A outer s H E => pe_joined (.cons L2.pe_str (.cons (pe_fmt (L2.pe_var (i := 1) rfl ?_)) (.cons L2.pe_str .nil)))) ?_ ?_ ?_ (pl := ?_) ?_, ?_⟩, (glo_ok KX G (fa_of Y 1))⟩
  · exact NdefX.nscope_by (by decide +kernel)
  · exact .inl rfl
  · exact fun a y H Q hy k => rm_fmt (by decide +kernel) (by decide +kernel) rfl hy k
  · intro L; rfl
  · intro L; rfl
  · exact pure false
  · intro L; rfl
  · exact .all fun us hl => match us, hl with | [_, _], _ => rfl
theorem law_fn {fd : FuncData} (Y : SaysY hfa hfn hini hfile htf hex h K) (KX : K.In base) (G : base.Ns mainGlobals mg) (TBp : ∀ p ∈ htf, LamX.TabB base mg (He.cT K p).1 (He.cT K p).2) (F_law : Fun K "law" "law" (top 44) (He.ga K "law") fd) : FnOk PP w K mg base (L2.CX PP w) 24 (He.ga K "law") fd ["_law_script"] (spL K (TT K) s_law) := by
  have X1 : ErrsF hflds hcs K := errsB_ok (Bool.and_eq_true_iff.mp Y.more).1
  have TN : ((TT K).tb.map (·.1)).Nodup := of_decide_eq_true (Bool.and_eq_true_iff.mp Y.more).2
  have E_BadValue := eg_own (mg := mg) (T := TT K) (c := .bv) X1 rfl (List.mem_of_getElem? (i := 0) rfl) (fun z => nomatch z) (glo_ok KX G (fa_of Y 1))
  have E_Clash := eg_own (mg := mg) (T := TT K) (c := .cl) X1 rfl (List.mem_of_getElem? (i := 3) rfl) (fun z => nomatch z) (glo_ok KX G (fa_of Y 5))
  have E_Taken := eg_own (mg := mg) (T := TT K) (c := .tk) X1 rfl (List.mem_of_getElem? (i := 2) rfl) (fun z => nomatch z) (glo_ok KX G (fa_of Y 4))
  have E_Unknown := eg_own (mg := mg) (T := TT K) (c := .un) X1 rfl (List.mem_of_getElem? (i := 1) rfl) (fun z => nomatch z) (glo_ok KX G (fa_of Y 3))
  have E_BadText := eg_own (mg := mg) (T := TT K) (c := .bt) X1 rfl (List.mem_of_getElem? (i := 6) rfl) (fun z => nomatch z) (glo_ok KX G (fa_of Y 2))
  have E_Unfit := eg_own (mg := mg) (T := TT K) (c := .uf) X1 rfl (List.mem_of_getElem? (i := 5) rfl) (fun z => nomatch z) (glo_ok KX G (fa_of Y 7))
  have E_Lacking := eg_own (mg := mg) (T := TT K) (c := .lk) X1 rfl (List.mem_of_getElem? (i := 4) rfl) (fun z => nomatch z) (glo_ok KX G (fa_of Y 6))
  have E_RoomError := eg_own (mg := mg) (T := TT K) (c := .rm) X1 rfl (List.mem_of_getElem? (i := 7) rfl) (fun z => nomatch z) (glo_ok KX G (fa_of Y 0))
  have E_ValueError := eg_ve (mg := mg) (T := TT K) X1 rfl (List.mem_of_getElem? (i := 8) rfl) (free_ok KX G (fa_of Y 56))
  have e_BadValue := exc_BadValue (w := w) Y KX G X1
  obtain ⟨fd_plain_count, FD_plain_count⟩ := Y.d.def_ 0
  have F_plain_count : Fun K "plain_count" "plain_count" (top 10) (He.ga K "plain_count") fd_plain_count := fun_of FD_plain_count
  have B_plain_count : L2.Binds K fd_plain_count ["value"] [] := F_plain_count.binds fun _ _ _ _ _ _ us hl => match us, hl with | [_], _ => rfl
  have c_plain_count : Cd PP w K mg base (TT K) "plain_count" ["value"] 1 [.s] s_plain_count (top 10) (He.ga K "plain_count") fd_plain_count := ⟨fn_plain_count (b_isinstance := (free_ok KX G (fa_of Y 43))) (b_int := (free_ok KX G (fa_of Y 46))) (b_bool := (free_ok KX G (fa_of Y 54))) F_plain_count p_plain_count, (glo_ok KX G (fa_of Y 8)), F_plain_count.kp, B_plain_count, F_plain_count⟩
  obtain ⟨fd_good_step, FD_good_step⟩ := Y.d.def_ 1
  have F_good_step : Fun K "good_step" "good_step" (top 11) (He.ga K "good_step") fd_good_step := fun_of FD_good_step
  have B_good_step : L2.Binds K fd_good_step ["many", "step"] [] := F_good_step.binds fun _ _ _ _ _ _ us hl => match us, hl with | [_, _], _ => rfl
  have c_good_step : Cd PP w K mg base (TT K) "good_step" ["many", "step"] 2 [.s, .s] s_good_step (top 11) (He.ga K "good_step") fd_good_step := ⟨fn_good_step (l_plain_count := by decide) (c_plain_count := c_plain_count) (b_isinstance := (free_ok KX G (fa_of Y 43))) (b_tuple := (free_ok KX G (fa_of Y 51))) (b_len := (free_ok KX G (fa_of Y 42))) (b_all := (free_ok KX G (fa_of Y 48))) F_good_step p_good_step, (glo_ok KX G (fa_of Y 9)), F_good_step.kp, B_good_step, F_good_step⟩
  obtain ⟨fd_check_graph, FD_check_graph⟩ := Y.d.def_ 2
  have F_check_graph : Fun K "check_graph" "check_graph" (top 12) (He.ga K "check_graph") fd_check_graph := fun_of FD_check_graph
  have B_check_graph : L2.Binds K fd_check_graph ["many", "steps"] [] := F_check_graph.binds fun _ _ _ _ _ _ us hl => match us, hl with | [_, _], _ => rfl
  have c_check_graph : Cd PP w K mg base (TT K) "check_graph" ["many", "steps"] 3 [.s, .s] s_check_graph (top 12) (He.ga K "check_graph") fd_check_graph := ⟨fn_check_graph (l_plain_count := by decide) (c_plain_count := c_plain_count) (l_good_step := by decide) (c_good_step := c_good_step) (e_BadValue := e_BadValue) (a_BadValue := rfl) (b_isinstance := (free_ok KX G (fa_of Y 43))) (b_list := (free_ok KX G (fa_of Y 45))) (b_len := (free_ok KX G (fa_of Y 42))) (b_all := (free_ok KX G (fa_of Y 48))) F_check_graph p_check_graph, (glo_ok KX G (fa_of Y 10)), F_check_graph.kp, B_check_graph, F_check_graph⟩
  obtain ⟨fd_least_harms, FD_least_harms⟩ := Y.d.def_ 3
  have F_least_harms : Fun K "least_harms" "least_harms" (top 13) (He.ga K "least_harms") fd_least_harms := fun_of FD_least_harms
  have B_least_harms : L2.Binds K fd_least_harms ["steps"] [] := F_least_harms.binds fun _ _ _ _ _ _ us hl => match us, hl with | [_], _ => rfl
  have c_least_harms : Cd PP w K mg base (TT K) "least_harms" ["steps"] 1 [.s] s_least_harms (top 13) (He.ga K "least_harms") fd_least_harms := ⟨fn_least_harms  F_least_harms p_least_harms, (glo_ok KX G (fa_of Y 11)), F_least_harms.kp, B_least_harms, F_least_harms⟩
  obtain ⟨fd_least_way, FD_least_way⟩ := Y.d.def_ 4
  have F_least_way : Fun K "least_way" "least_way" (top 14) (He.ga K "least_way") fd_least_way := fun_of FD_least_way
  have B_least_way : L2.Binds K fd_least_way ["many", "steps"] [] := F_least_way.binds fun _ _ _ _ _ _ us hl => match us, hl with | [_, _], _ => rfl
  have c_least_way : Cd PP w K mg base (TT K) "least_way" ["many", "steps"] 4 [.s, .s] s_least_way (top 14) (He.ga K "least_way") fd_least_way := ⟨fn_least_way (l_check_graph := by decide) (c_check_graph := c_check_graph) (b_range := (free_ok KX G (fa_of Y 44))) (b_sorted := (free_ok KX G (fa_of Y 47))) (b_list := (free_ok KX G (fa_of Y 45))) F_least_way p_least_way, (glo_ok KX G (fa_of Y 12)), F_least_way.kp, B_least_way, F_least_way⟩
  obtain ⟨fd_way_harm, FD_way_harm⟩ := Y.d.def_ 5
  have F_way_harm : Fun K "way_harm" "way_harm" (top 15) (He.ga K "way_harm") fd_way_harm := fun_of FD_way_harm
  have B_way_harm : L2.Binds K fd_way_harm ["many", "steps", "ends"] [] := F_way_harm.binds fun _ _ _ _ _ _ us hl => match us, hl with | [_, _, _], _ => rfl
  have c_way_harm : Cd PP w K mg base (TT K) "way_harm" ["many", "steps", "ends"] 4 [.s, .s, .s] s_way_harm (top 15) (He.ga K "way_harm") fd_way_harm := ⟨fn_way_harm (l_check_graph := by decide) (c_check_graph := c_check_graph) (l_plain_count := by decide) (c_plain_count := c_plain_count) (l_least_harms := by decide) (c_least_harms := c_least_harms) (b_isinstance := (free_ok KX G (fa_of Y 43))) (b_list := (free_ok KX G (fa_of Y 45))) (b_all := (free_ok KX G (fa_of Y 48))) F_way_harm p_way_harm, (glo_ok KX G (fa_of Y 13)), F_way_harm.kp, B_way_harm, F_way_harm⟩
  obtain ⟨fd_way_paper, FD_way_paper⟩ := Y.d.def_ 6
  have F_way_paper : Fun K "way_paper" "way_paper" (top 16) (He.ga K "way_paper") fd_way_paper := fun_of FD_way_paper
  have B_way_paper : L2.Binds K fd_way_paper ["many", "steps"] [] := F_way_paper.binds fun _ _ _ _ _ _ us hl => match us, hl with | [_, _], _ => rfl
  have c_way_paper : Cd PP w K mg base (TT K) "way_paper" ["many", "steps"] 4 [.s, .s] s_way_paper (top 16) (He.ga K "way_paper") fd_way_paper := ⟨fn_way_paper (l_check_graph := by decide) (c_check_graph := c_check_graph) (b_range := (free_ok KX G (fa_of Y 44))) (b_sorted := (free_ok KX G (fa_of Y 47))) F_way_paper p_way_paper, (glo_ok KX G (fa_of Y 14)), F_way_paper.kp, B_way_paper, F_way_paper⟩
  obtain ⟨fd_step_kept, FD_step_kept⟩ := Y.d.def_ 7
  have F_step_kept : Fun K "step_kept" "step_kept" (top 17) (He.ga K "step_kept") fd_step_kept := fun_of FD_step_kept
  have B_step_kept : L2.Binds K fd_step_kept ["paper", "step"] [] := F_step_kept.binds fun _ _ _ _ _ _ us hl => match us, hl with | [_, _], _ => rfl
  have c_step_kept : Cd PP w K mg base (TT K) "step_kept" ["paper", "step"] 1 [.s, .s] s_step_kept (top 17) (He.ga K "step_kept") fd_step_kept := ⟨fn_step_kept  F_step_kept p_step_kept, (glo_ok KX G (fa_of Y 15)), F_step_kept.kp, B_step_kept, F_step_kept⟩
  obtain ⟨fd_bars_way, FD_bars_way⟩ := Y.d.def_ 8
  have F_bars_way : Fun K "bars_way" "bars_way" (top 18) (He.ga K "bars_way") fd_bars_way := fun_of FD_bars_way
  have B_bars_way : L2.Binds K fd_bars_way ["many", "steps", "harm", "paper"] [] := F_bars_way.binds fun _ _ _ _ _ _ us hl => match us, hl with | [_, _, _, _], _ => rfl
  have c_bars_way : Cd PP w K mg base (TT K) "bars_way" ["many", "steps", "harm", "paper"] 4 [.s, .s, .s, .s] s_bars_way (top 18) (He.ga K "bars_way") fd_bars_way := ⟨fn_bars_way (l_check_graph := by decide) (c_check_graph := c_check_graph) (l_plain_count := by decide) (c_plain_count := c_plain_count) (l_step_kept := by decide) (c_step_kept := c_step_kept) (e_BadValue := e_BadValue) (a_BadValue := rfl) (b_isinstance := (free_ok KX G (fa_of Y 43))) (b_list := (free_ok KX G (fa_of Y 45))) (b_len := (free_ok KX G (fa_of Y 42))) (b_all := (free_ok KX G (fa_of Y 48))) F_bars_way p_bars_way, (glo_ok KX G (fa_of Y 16)), F_bars_way.kp, B_bars_way, F_bars_way⟩
  obtain ⟨fd__law_store, FD__law_store⟩ := Y.d.def_ 9
  have F__law_store : Fun K "_law_store" "_law_store" (top 20) (He.ga K "_law_store") fd__law_store := fun_of FD__law_store
  have B__law_store : L2.Binds K fd__law_store ["_law_script"] [] := F__law_store.binds fun _ _ _ _ _ _ us hl => match us, hl with | [_], _ => rfl
  have c__law_store : Cd PP w K mg base (TT K) "_law_store" ["_law_script"] 1 [.b] s_law_store (top 20) (He.ga K "_law_store") fd__law_store := ⟨fn_law_store (b_int := (free_ok KX G (fa_of Y 46))) (b_list := (free_ok KX G (fa_of Y 45))) F__law_store p_law_store, (glo_ok KX G (fa_of Y 17)), F__law_store.kp, B__law_store, F__law_store⟩
  obtain ⟨fd__law_load, FD__law_load⟩ := Y.d.def_ 10
  have F__law_load : Fun K "_law_load" "_law_load" (top 21) (He.ga K "_law_load") fd__law_load := fun_of FD__law_load
  have B__law_load : L2.Binds K fd__law_load ["_law_store_here"] [] := F__law_load.binds fun _ _ _ _ _ _ us hl => match us, hl with | [_], _ => rfl
  have c__law_load : Cd PP w K mg base (TT K) "_law_load" ["_law_store_here"] 1 [.t] s_law_load (top 21) (He.ga K "_law_load") fd__law_load := ⟨fn_law_load (b_int := (free_ok KX G (fa_of Y 46))) (b_len := (free_ok KX G (fa_of Y 42))) F__law_load p_law_load, (glo_ok KX G (fa_of Y 18)), F__law_load.kp, B__law_load, F__law_load⟩
  obtain ⟨fd__law_mix, FD__law_mix⟩ := Y.d.def_ 11
  have F__law_mix : Fun K "_law_mix" "_law_mix" (top 22) (He.ga K "_law_mix") fd__law_mix := fun_of FD__law_mix
  have B__law_mix : L2.Binds K fd__law_mix ["_law_number", "_law_turn"] [] := F__law_mix.binds fun _ _ _ _ _ _ us hl => match us, hl with | [_, _], _ => rfl
  have c__law_mix : Cd PP w K mg base (TT K) "_law_mix" ["_law_number", "_law_turn"] 1 [.s, .s] s_law_mix (top 22) (He.ga K "_law_mix") fd__law_mix := ⟨fn_law_mix (b_int := (free_ok KX G (fa_of Y 46))) F__law_mix p_law_mix, (glo_ok KX G (fa_of Y 19)), F__law_mix.kp, B__law_mix, F__law_mix⟩
  obtain ⟨fd__law_take, FD__law_take⟩ := Y.d.def_ 12
  have F__law_take : Fun K "_law_take" "_law_take" (top 23) (He.ga K "_law_take") fd__law_take := fun_of FD__law_take
  have B__law_take : L2.Binds K fd__law_take ["_law_store_here", "_law_many"] [] := F__law_take.binds fun _ _ _ _ _ _ us hl => match us, hl with | [_, _], _ => rfl
  have c__law_take : Cd PP w K mg base (TT K) "_law_take" ["_law_store_here", "_law_many"] 2 [.t, .s] s_law_take (top 23) (He.ga K "_law_take") fd__law_take := ⟨fn_law_take (l__law_load := by decide) (c__law_load := c__law_load) (l__law_mix := by decide) (c__law_mix := c__law_mix) (b_int := (free_ok KX G (fa_of Y 46))) (b_str := (free_ok KX G (fa_of Y 52))) (b_len := (free_ok KX G (fa_of Y 42))) (b_range := (free_ok KX G (fa_of Y 44))) F__law_take p_law_take, (glo_ok KX G (fa_of Y 20)), F__law_take.kp, B__law_take, F__law_take⟩
  obtain ⟨fd__law_size, FD__law_size⟩ := Y.d.def_ 13
  have F__law_size : Fun K "_law_size" "_law_size" (top 24) (He.ga K "_law_size") fd__law_size := fun_of FD__law_size
  have B__law_size : L2.Binds K fd__law_size ["_law_store_here", "_law_most"] [] := F__law_size.binds fun _ _ _ _ _ _ us hl => match us, hl with | [_, _], _ => rfl
  have c__law_size : Cd PP w K mg base (TT K) "_law_size" ["_law_store_here", "_law_most"] 3 [.t, .s] s_law_size (top 24) (He.ga K "_law_size") fd__law_size := ⟨fn_law_size (l__law_take := by decide) (c__law_take := c__law_take) (b_max := (free_ok KX G (fa_of Y 50))) (b_min := (free_ok KX G (fa_of Y 49))) F__law_size p_law_size, (glo_ok KX G (fa_of Y 21)), F__law_size.kp, B__law_size, F__law_size⟩
  obtain ⟨fd__law_large, FD__law_large⟩ := Y.d.def_ 14
  have F__law_large : Fun K "_law_large" "_law_large" (top 25) (He.ga K "_law_large") fd__law_large := fun_of FD__law_large
  have B__law_large : L2.Binds K fd__law_large ["_law_store_here", "_law_bound"] [] := F__law_large.binds fun _ _ _ _ _ _ us hl => match us, hl with | [_, _], _ => rfl
  have c__law_large : Cd PP w K mg base (TT K) "_law_large" ["_law_store_here", "_law_bound"] 3 [.t, .s] s_law_large (top 25) (He.ga K "_law_large") fd__law_large := ⟨fn_law_large (l__law_take := by decide) (c__law_take := c__law_take) (b_min := (free_ok KX G (fa_of Y 49))) (b_max := (free_ok KX G (fa_of Y 50))) F__law_large p_law_large, (glo_ok KX G (fa_of Y 22)), F__law_large.kp, B__law_large, F__law_large⟩
  obtain ⟨fd__law_pick, FD__law_pick⟩ := Y.d.def_ 15
  have F__law_pick : Fun K "_law_pick" "_law_pick" (top 26) (He.ga K "_law_pick") fd__law_pick := fun_of FD__law_pick
  have B__law_pick : L2.Binds K fd__law_pick ["_law_store_here", "_law_row"] [] := F__law_pick.binds fun _ _ _ _ _ _ us hl => match us, hl with | [_, _], _ => rfl
  have c__law_pick : Cd PP w K mg base (TT K) "_law_pick" ["_law_store_here", "_law_row"] 3 [.t, .s] s_law_pick (top 26) (He.ga K "_law_pick") fd__law_pick := ⟨fn_law_pick (l__law_take := by decide) (c__law_take := c__law_take) (b_len := (free_ok KX G (fa_of Y 42))) F__law_pick p_law_pick, (glo_ok KX G (fa_of Y 23)), F__law_pick.kp, B__law_pick, F__law_pick⟩
  obtain ⟨fd__law_odds, FD__law_odds⟩ := Y.d.def_ 16
  have F__law_odds : Fun K "_law_odds" "_law_odds" (top 27) (He.ga K "_law_odds") fd__law_odds := fun_of FD__law_odds
  have B__law_odds : L2.Binds K fd__law_odds ["_law_store_here", "_law_parts"] [] := F__law_odds.binds fun _ _ _ _ _ _ us hl => match us, hl with | [_, _], _ => rfl
  have c__law_odds : Cd PP w K mg base (TT K) "_law_odds" ["_law_store_here", "_law_parts"] 3 [.t, .s] s_law_odds (top 27) (He.ga K "_law_odds") fd__law_odds := ⟨fn_law_odds (l__law_take := by decide) (c__law_take := c__law_take) F__law_odds p_law_odds, (glo_ok KX G (fa_of Y 24)), F__law_odds.kp, B__law_odds, F__law_odds⟩
  obtain ⟨fd__law_some, FD__law_some⟩ := Y.d.def_ 17
  have F__law_some : Fun K "_law_some" "_law_some" (top 28) (He.ga K "_law_some") fd__law_some := fun_of FD__law_some
  have B__law_some : L2.Binds K fd__law_some ["_law_store_here", "_law_row", "_law_many"] [] := F__law_some.binds fun _ _ _ _ _ _ us hl => match us, hl with | [_, _, _], _ => rfl
  have c__law_some : Cd PP w K mg base (TT K) "_law_some" ["_law_store_here", "_law_row", "_law_many"] 3 [.t, .s, .s] s_law_some (top 28) (He.ga K "_law_some") fd__law_some := ⟨fn_law_some (l__law_take := by decide) (c__law_take := c__law_take) (b_list := (free_ok KX G (fa_of Y 45))) (b_len := (free_ok KX G (fa_of Y 42))) (b_min := (free_ok KX G (fa_of Y 49))) (b_range := (free_ok KX G (fa_of Y 44))) F__law_some p_law_some, (glo_ok KX G (fa_of Y 25)), F__law_some.kp, B__law_some, F__law_some⟩
  obtain ⟨fd__law_shuffled, FD__law_shuffled⟩ := Y.d.def_ 18
  have F__law_shuffled : Fun K "_law_shuffled" "_law_shuffled" (top 29) (He.ga K "_law_shuffled") fd__law_shuffled := fun_of FD__law_shuffled
  have B__law_shuffled : L2.Binds K fd__law_shuffled ["_law_store_here", "_law_row"] [] := F__law_shuffled.binds fun _ _ _ _ _ _ us hl => match us, hl with | [_, _], _ => rfl
  have c__law_shuffled : Cd PP w K mg base (TT K) "_law_shuffled" ["_law_store_here", "_law_row"] 4 [.t, .s] s_law_shuffled (top 29) (He.ga K "_law_shuffled") fd__law_shuffled := ⟨fn_law_shuffled (l__law_take := by decide) (c__law_take := c__law_take) (l__law_some := by decide) (c__law_some := c__law_some) (b_list := (free_ok KX G (fa_of Y 45))) (b_len := (free_ok KX G (fa_of Y 42))) (b_range := (free_ok KX G (fa_of Y 44))) F__law_shuffled p_law_shuffled, (glo_ok KX G (fa_of Y 26)), F__law_shuffled.kp, B__law_shuffled, F__law_shuffled⟩
  obtain ⟨fd__law_is_int, FD__law_is_int⟩ := Y.d.def_ 19
  have F__law_is_int : Fun K "_law_is_int" "_law_is_int" (top 30) (He.ga K "_law_is_int") fd__law_is_int := fun_of FD__law_is_int
  have B__law_is_int : L2.Binds K fd__law_is_int ["_law_value"] [] := F__law_is_int.binds fun _ _ _ _ _ _ us hl => match us, hl with | [_], _ => rfl
  have c__law_is_int : Cd PP w K mg base (TT K) "_law_is_int" ["_law_value"] 1 [.s] s_law_is_int (top 30) (He.ga K "_law_is_int") fd__law_is_int := ⟨fn_law_is_int (b_isinstance := (free_ok KX G (fa_of Y 43))) (b_int := (free_ok KX G (fa_of Y 46))) (b_bool := (free_ok KX G (fa_of Y 54))) F__law_is_int p_law_is_int, (glo_ok KX G (fa_of Y 27)), F__law_is_int.kp, B__law_is_int, F__law_is_int⟩
  obtain ⟨fd__law_same, FD__law_same⟩ := Y.d.def_ 20
  have F__law_same : Fun K "_law_same" "_law_same" (top 31) (He.ga K "_law_same") fd__law_same := fun_of FD__law_same
  have B__law_same : L2.Binds K fd__law_same ["_law_actual", "_law_due"] [] := F__law_same.binds fun _ _ _ _ _ _ us hl => match us, hl with | [_, _], _ => rfl
  have r__law_same : ∀ n, FnOk PP w K mg base (L2.CX PP w) n (He.ga K "_law_same") fd__law_same ["_law_actual", "_law_due"] (spQ K (TT K) [.s, .s] (sI_law_same n)) := fun n => by
    induction n with
    | zero => exact fn_zero fun vs H Q E ⟨_, _, ds, R, F, _, _, _, _, _, _, hq, _⟩ => by obtain ⟨d, _, hz, _⟩ := hq; cases hz
    | succ n ih => exact fn_law_same (T := TT K) (n := n) (l__law_same := Nat.le_refl n) (hn := Nat.zero_le _) (c__law_same := ⟨ih, (glo_ok KX G (fa_of Y 28)), F__law_same.kp, B__law_same, F__law_same⟩) (b_isinstance := (free_ok KX G (fa_of Y 43))) (b_bool := (free_ok KX G (fa_of Y 54))) (b_int := (free_ok KX G (fa_of Y 46))) (b_str := (free_ok KX G (fa_of Y 52))) (b_dict := (free_ok KX G (fa_of Y 53))) (b_list := (free_ok KX G (fa_of Y 45))) (b_tuple := (free_ok KX G (fa_of Y 51))) (b_len := (free_ok KX G (fa_of Y 42))) (b_range := (free_ok KX G (fa_of Y 44))) F__law_same (p_law_same n)
  have c__law_same : Cd PP w K mg base (TT K) "_law_same" ["_law_actual", "_law_due"] 20 [.s, .s] s_law_same (top 31) (He.ga K "_law_same") fd__law_same := ⟨r__law_same 20, (glo_ok KX G (fa_of Y 28)), F__law_same.kp, B__law_same, F__law_same⟩
  obtain ⟨fd__law_spoil, FD__law_spoil⟩ := Y.d.def_ 21
  have F__law_spoil : Fun K "_law_spoil" "_law_spoil" (top 32) (He.ga K "_law_spoil") fd__law_spoil := fun_of FD__law_spoil
  have B__law_spoil : L2.Binds K fd__law_spoil ["_law_store_here", "_law_value"] [] := F__law_spoil.binds fun _ _ _ _ _ _ us hl => match us, hl with | [_, _], _ => rfl
  have r__law_spoil : ∀ n, FnOk PP w K mg base (L2.CX PP w) (n + 2) (He.ga K "_law_spoil") fd__law_spoil ["_law_store_here", "_law_value"] (spW2 K (TT K) n) := fun n => by
    induction n with
    | zero => exact (fn_zero (sp := spW2 K (TT K) 0) fun vs H Q E h => h.elim).mono (Nat.zero_le _)
    | succ n ih => exact (fn_law_spoil (T := TT K) (n := n) (l__law_spoil := Nat.le_refl _) (c__law_spoil := ⟨ih, (glo_ok KX G (fa_of Y 29)), F__law_spoil.kp, B__law_spoil, F__law_spoil⟩) (l__law_take := by decide) (c__law_take := c__law_take) (b_isinstance := (free_ok KX G (fa_of Y 43))) (b_list := (free_ok KX G (fa_of Y 45))) (b_tuple := (free_ok KX G (fa_of Y 51))) (b_len := (free_ok KX G (fa_of Y 42))) F__law_spoil (fun a R F k => ⟨a, 3, rfl, by decide, fun r _ _ => k r⟩)).mono (by omega)
  have c__law_spoil : CdS PP w K mg base "_law_spoil" ["_law_store_here", "_law_value"] 11 (spW2 K (TT K) 9) (top 32) (He.ga K "_law_spoil") fd__law_spoil := ⟨r__law_spoil 9, (glo_ok KX G (fa_of Y 29)), F__law_spoil.kp, B__law_spoil, F__law_spoil⟩
  obtain ⟨fd__law_steps, FD__law_steps⟩ := Y.d.def_ 22
  have F__law_steps : Fun K "_law_steps" "_law_steps" (top 33) (He.ga K "_law_steps") fd__law_steps := fun_of FD__law_steps
  have B__law_steps : L2.Binds K fd__law_steps ["_law_store_here", "_law_many"] [] := F__law_steps.binds fun _ _ _ _ _ _ us hl => match us, hl with | [_, _], _ => rfl
  have c__law_steps : Cd PP w K mg base (TT K) "_law_steps" ["_law_store_here", "_law_many"] 5 [.t, .s] s_law_steps (top 33) (He.ga K "_law_steps") fd__law_steps := ⟨fn_law_steps (l__law_take := by decide) (c__law_take := c__law_take) (l__law_large := by decide) (c__law_large := c__law_large) (l__law_size := by decide) (c__law_size := c__law_size) (l__law_odds := by decide) (c__law_odds := c__law_odds) (l__law_pick := by decide) (c__law_pick := c__law_pick) (l__law_shuffled := by decide) (c__law_shuffled := c__law_shuffled) (b_range := (free_ok KX G (fa_of Y 44))) (b_min := (free_ok KX G (fa_of Y 49))) (b_len := (free_ok KX G (fa_of Y 42))) F__law_steps p_law_steps, (glo_ok KX G (fa_of Y 30)), F__law_steps.kp, B__law_steps, F__law_steps⟩
  obtain ⟨fd__law_many_steps, FD__law_many_steps⟩ := Y.d.def_ 23
  have F__law_many_steps : Fun K "_law_many_steps" "_law_many_steps" (top 34) (He.ga K "_law_many_steps") fd__law_many_steps := fun_of FD__law_many_steps
  have B__law_many_steps : L2.Binds K fd__law_many_steps ["_law_store_here", "_law_many"] [] := F__law_many_steps.binds fun _ _ _ _ _ _ us hl => match us, hl with | [_, _], _ => rfl
  have c__law_many_steps : Cd PP w K mg base (TT K) "_law_many_steps" ["_law_store_here", "_law_many"] 3 [.t, .s] s_law_many_steps (top 34) (He.ga K "_law_many_steps") fd__law_many_steps := ⟨fn_law_many_steps (l__law_take := by decide) (c__law_take := c__law_take) (b_range := (free_ok KX G (fa_of Y 44))) (b_min := (free_ok KX G (fa_of Y 49))) (b_int := (free_ok KX G (fa_of Y 46))) F__law_many_steps p_law_many_steps, (glo_ok KX G (fa_of Y 31)), F__law_many_steps.kp, B__law_many_steps, F__law_many_steps⟩
  obtain ⟨fd__law_least_to, FD__law_least_to⟩ := Y.d.def_ 24
  have F__law_least_to : Fun K "_law_least_to" "_law_least_to" (top 35) (He.ga K "_law_least_to") fd__law_least_to := fun_of FD__law_least_to
  have B__law_least_to : L2.Binds K fd__law_least_to ["_law_many", "_law_steps_here"] [] := F__law_least_to.binds fun _ _ _ _ _ _ us hl => match us, hl with | [_, _], _ => rfl
  have c__law_least_to : Cd PP w K mg base (TT K) "_law_least_to" ["_law_many", "_law_steps_here"] 1 [.s, .s] s_law_least_to (top 35) (He.ga K "_law_least_to") fd__law_least_to := ⟨fn_law_least_to (b_range := (free_ok KX G (fa_of Y 44))) (b_min := (free_ok KX G (fa_of Y 49))) F__law_least_to p_law_least_to, (glo_ok KX G (fa_of Y 32)), F__law_least_to.kp, B__law_least_to, F__law_least_to⟩
  obtain ⟨fd__law_some_ends, FD__law_some_ends⟩ := Y.d.def_ 25
  have F__law_some_ends : Fun K "_law_some_ends" "_law_some_ends" (top 36) (He.ga K "_law_some_ends") fd__law_some_ends := fun_of FD__law_some_ends
  have B__law_some_ends : L2.Binds K fd__law_some_ends ["_law_store_here", "_law_many", "_law_steps_here"] [] := F__law_some_ends.binds fun _ _ _ _ _ _ us hl => match us, hl with | [_, _, _], _ => rfl
  have c__law_some_ends : Cd PP w K mg base (TT K) "_law_some_ends" ["_law_store_here", "_law_many", "_law_steps_here"] 4 [.t, .s, .s] s_law_some_ends (top 36) (He.ga K "_law_some_ends") fd__law_some_ends := ⟨fn_law_some_ends (l__law_pick := by decide) (c__law_pick := c__law_pick) (b_range := (free_ok KX G (fa_of Y 44))) F__law_some_ends p_law_some_ends, (glo_ok KX G (fa_of Y 33)), F__law_some_ends.kp, B__law_some_ends, F__law_some_ends⟩
  obtain ⟨fd__law_bars, FD__law_bars⟩ := Y.d.def_ 26
  have F__law_bars : Fun K "_law_bars" "_law_bars" (top 37) (He.ga K "_law_bars") fd__law_bars := fun_of FD__law_bars
  have B__law_bars : L2.Binds K fd__law_bars ["_law_many", "_law_steps_here", "_law_harm", "_law_paper", "_law_due"] [] := F__law_bars.binds fun _ _ _ _ _ _ us hl => match us, hl with | [_, _, _, _, _], _ => rfl
  have c__law_bars : Cd PP w K mg base (TT K) "_law_bars" ["_law_many", "_law_steps_here", "_law_harm", "_law_paper", "_law_due"] 21 [.s, .s, .s, .s, .s] s_law_bars (top 37) (He.ga K "_law_bars") fd__law_bars := ⟨fn_law_bars (l__law_same := by decide) (c__law_same := c__law_same) (l_bars_way := by decide) (c_bars_way := c_bars_way) (b_list := (free_ok KX G (fa_of Y 45))) F__law_bars p_law_bars, (glo_ok KX G (fa_of Y 34)), F__law_bars.kp, B__law_bars, F__law_bars⟩
  obtain ⟨fd__law_bars_less, FD__law_bars_less⟩ := Y.d.def_ 27
  have F__law_bars_less : Fun K "_law_bars_less" "_law_bars_less" (top 38) (He.ga K "_law_bars_less") fd__law_bars_less := fun_of FD__law_bars_less
  have B__law_bars_less : L2.Binds K fd__law_bars_less ["_law_store_here", "_law_many", "_law_steps_here", "_law_paper"] [] := F__law_bars_less.binds fun _ _ _ _ _ _ us hl => match us, hl with | [_, _, _, _], _ => rfl
  have c__law_bars_less : Cd PP w K mg base (TT K) "_law_bars_less" ["_law_store_here", "_law_many", "_law_steps_here", "_law_paper"] 22 [.t, .s, .s, .s] s_law_bars_less (top 38) (He.ga K "_law_bars_less") fd__law_bars_less := ⟨fn_law_bars_less (l_least_way := by decide) (c_least_way := c_least_way) (l__law_bars := by decide) (c__law_bars := c__law_bars) (l__law_large := by decide) (c__law_large := c__law_large) (l__law_same := by decide) (c__law_same := c__law_same) (b_list := (free_ok KX G (fa_of Y 45))) (b_isinstance := (free_ok KX G (fa_of Y 43))) (b_tuple := (free_ok KX G (fa_of Y 51))) (b_len := (free_ok KX G (fa_of Y 42))) (b_max := (free_ok KX G (fa_of Y 50))) F__law_bars_less p_law_bars_less, (glo_ok KX G (fa_of Y 35)), F__law_bars_less.kp, B__law_bars_less, F__law_bars_less⟩
  obtain ⟨fd__law_more_is_none, FD__law_more_is_none⟩ := Y.d.def_ 28
  have F__law_more_is_none : Fun K "_law_more_is_none" "_law_more_is_none" (top 39) (He.ga K "_law_more_is_none") fd__law_more_is_none := fun_of FD__law_more_is_none
  have B__law_more_is_none : L2.Binds K fd__law_more_is_none ["_law_store_here", "_law_many", "_law_steps_here", "_law_paper"] [] := F__law_more_is_none.binds fun _ _ _ _ _ _ us hl => match us, hl with | [_, _, _, _], _ => rfl
  have c__law_more_is_none : Cd PP w K mg base (TT K) "_law_more_is_none" ["_law_store_here", "_law_many", "_law_steps_here", "_law_paper"] 22 [.t, .s, .s, .s] s_law_more_is_none (top 39) (He.ga K "_law_more_is_none") fd__law_more_is_none := ⟨fn_law_more_is_none (l__law_pick := by decide) (c__law_pick := c__law_pick) (l__law_bars := by decide) (c__law_bars := c__law_bars) (b_range := (free_ok KX G (fa_of Y 44))) F__law_more_is_none p_law_more_is_none, (glo_ok KX G (fa_of Y 36)), F__law_more_is_none.kp, B__law_more_is_none, F__law_more_is_none⟩
  obtain ⟨fd__law_no_less, FD__law_no_less⟩ := Y.d.def_ 29
  have F__law_no_less : Fun K "_law_no_less" "_law_no_less" (top 40) (He.ga K "_law_no_less") fd__law_no_less := fun_of FD__law_no_less
  have B__law_no_less : L2.Binds K fd__law_no_less ["_law_store_here", "_law_many", "_law_steps_here", "_law_paper"] [] := F__law_no_less.binds fun _ _ _ _ _ _ us hl => match us, hl with | [_, _, _, _], _ => rfl
  have c__law_no_less : Cd PP w K mg base (TT K) "_law_no_less" ["_law_store_here", "_law_many", "_law_steps_here", "_law_paper"] 5 [.t, .s, .s, .s] s_law_no_less (top 40) (He.ga K "_law_no_less") fd__law_no_less := ⟨fn_law_no_less (l__law_some_ends := by decide) (c__law_some_ends := c__law_some_ends) (l_way_harm := by decide) (c_way_harm := c_way_harm) (l__law_is_int := by decide) (c__law_is_int := c__law_is_int) (b_range := (free_ok KX G (fa_of Y 44))) (b_list := (free_ok KX G (fa_of Y 45))) F__law_no_less p_law_no_less, (glo_ok KX G (fa_of Y 37)), F__law_no_less.kp, B__law_no_less, F__law_no_less⟩
  obtain ⟨fd__law_bad_name, FD__law_bad_name⟩ := Y.d.def_ 30
  have F__law_bad_name : Fun K "_law_bad_name" "_law_bad_name" (top 41) (He.ga K "_law_bad_name") fd__law_bad_name := fun_of FD__law_bad_name
  have B__law_bad_name : L2.Binds K fd__law_bad_name ["_law_ask"] [] := F__law_bad_name.binds fun _ _ _ _ _ _ us hl => match us, hl with | [_], _ => rfl
  have A__law_bad_name := ask_law_bad_name (P := PP) (T := TT K) (w := w) (base := base) (E_BadValue := E_BadValue) (E_Clash := E_Clash) (E_Taken := E_Taken) (E_Unknown := E_Unknown) (E_BadText := E_BadText) (E_Unfit := E_Unfit) (E_Lacking := E_Lacking) (E_RoomError := E_RoomError) (E_ValueError := E_ValueError) (EK := X1.errK) (EF_argument := fun e he => X1.noat e he "argument" (List.mem_of_getElem? (i := 0) rfl)) (b_isinstance := (free_ok KX G (fa_of Y 43))) F__law_bad_name (glo_ok KX G (fa_of Y 38)) B__law_bad_name p_law_bad_name
  obtain ⟨fd__law_refused, FD__law_refused⟩ := Y.d.def_ 31
  have F__law_refused : Fun K "_law_refused" "_law_refused" (top 42) (He.ga K "_law_refused") fd__law_refused := fun_of FD__law_refused
  have B__law_refused : L2.Binds K fd__law_refused ["_law_store_here", "_law_many", "_law_steps_here"] [] := F__law_refused.binds fun _ _ _ _ _ _ us hl => match us, hl with | [_, _, _], _ => rfl
  have c__law_refused : Cd PP w K mg base (TT K) "_law_refused" ["_law_store_here", "_law_many", "_law_steps_here"] 21 [.t, .s, .s] s_law_refused (top 42) (He.ga K "_law_refused") fd__law_refused := ⟨fn_law_refused (l__law_take := by decide) (c__law_take := c__law_take) (l__law_pick := by decide) (c__law_pick := c__law_pick) (l__law_odds := by decide) (c__law_odds := c__law_odds) (l__law_same := by decide) (c__law_same := c__law_same) (l_way_paper := by decide) (c_way_paper := c_way_paper) (b_str := (free_ok KX G (fa_of Y 52))) (b_len := (free_ok KX G (fa_of Y 42))) (b_min := (free_ok KX G (fa_of Y 49))) (b_tuple := (free_ok KX G (fa_of Y 51))) (A__law_bad_name := A__law_bad_name.mono (by decide)) (tb := TBp ("_law_refused", none) (List.mem_of_getElem? (i := 0) rfl)) (hfc := code_of (p := ("_law_refused", none)) F__law_refused) (tm := List.mem_of_getElem? (i := 0) rfl) (tu := tb_one TN (List.mem_of_getElem? (i := 0) rfl)) F__law_refused p_law_refused, (glo_ok KX G (fa_of Y 39)), F__law_refused.kp, B__law_refused, F__law_refused⟩
  obtain ⟨fd__law_asked, FD__law_asked⟩ := Y.d.def_ 32
  have F__law_asked : Fun K "_law_asked" "_law_asked" (top 43) (He.ga K "_law_asked") fd__law_asked := fun_of FD__law_asked
  have B__law_asked : L2.Binds K fd__law_asked ["_law_store_here", "_law_many", "_law_steps_here", "_law_handed"] [] := F__law_asked.binds fun _ _ _ _ _ _ us hl => match us, hl with | [_, _, _, _], _ => rfl
  have c__law_asked : Cd PP w K mg base (TT K) "_law_asked" ["_law_store_here", "_law_many", "_law_steps_here", "_law_handed"] 23 [.t, .s, .s, .s] s_law_asked (top 43) (He.ga K "_law_asked") fd__law_asked := ⟨fn_law_asked (l__law_least_to := by decide) (c__law_least_to := c__law_least_to) (l_way_paper := by decide) (c_way_paper := c_way_paper) (l__law_same := by decide) (c__law_same := c__law_same) (l__law_bars_less := by decide) (c__law_bars_less := c__law_bars_less) (l__law_no_less := by decide) (c__law_no_less := c__law_no_less) (l__law_more_is_none := by decide) (c__law_more_is_none := c__law_more_is_none) (l__law_spoil := by decide) (c__law_spoil := c__law_spoil) F__law_asked p_law_asked, (glo_ok KX G (fa_of Y 40)), F__law_asked.kp, B__law_asked, F__law_asked⟩
  exact fn_law (l__law_store := by decide) (c__law_store := c__law_store) (l__law_size := by decide) (c__law_size := c__law_size) (l__law_odds := by decide) (c__law_odds := c__law_odds) (l__law_take := by decide) (c__law_take := c__law_take) (l__law_steps := by decide) (c__law_steps := c__law_steps) (l__law_shuffled := by decide) (c__law_shuffled := c__law_shuffled) (l__law_many_steps := by decide) (c__law_many_steps := c__law_many_steps) (l__law_asked := by decide) (c__law_asked := c__law_asked) (l__law_large := by decide) (c__law_large := c__law_large) (l__law_same := by decide) (c__law_same := c__law_same) (l__law_least_to := by decide) (c__law_least_to := c__law_least_to) (l_way_paper := by decide) (c_way_paper := c_way_paper) (l__law_bars_less := by decide) (c__law_bars_less := c__law_bars_less) (l__law_refused := by decide) (c__law_refused := c__law_refused) (b_int := (free_ok KX G (fa_of Y 46))) (b_list := (free_ok KX G (fa_of Y 45))) F_law p_law
end
theorem law_at (w : World) (mg : Str → Option Value) (fa : Addr) (h : Heap) (Y : hk.says w h) (G : h.Ns mainGlobals mg) (hm : mg "law" = some (.ref fa)) : ∃ K : PySem.W.Frag, K.In h ∧ LamX.LawAtS PySem.Challenge.rw_typeformes_k28_way_paper_bars_less w K (L2.CX PP w) 24 63 "_law_script" mg fa h := by
  obtain ⟨K, KX, Y⟩ := Y
  refine ⟨K, KX, ?_⟩
  obtain ⟨fd, FD⟩ := Y.d.def_ 33
  have F : Fun K "law" "law" (top 44) (He.ga K "law") fd := fun_of FD
  have ef : fa = He.ga K "law" := by
    have z := (glo_ok KX G (fa_of Y 41)).symm.trans hm
    cases z
    rfl
  subst ef
  refine ⟨fd, htf.map (He.cT K), spL K (TT K) s_law, fun p hp => ?_, fun p hp => ?_, fun p hp => ?_, fun s u => ?_, fun H a ns hl hn ht hs => ?_, fun base KB GB TB => law_fn Y KB GB (fun p hp => TB _ (List.mem_map_of_mem hp)) F⟩
  · obtain ⟨q, hq, rfl⟩ := List.mem_map.mp hp
    exact Y.empty q hq
  · obtain ⟨q, hq, rfl⟩ := List.mem_map.mp hp
    exact Y.out q hq
  · obtain ⟨q, hq, rfl⟩ := List.mem_map.mp hp
    exact PySem.W.codeHd_of_K KX (Y.hd q hq)
  · exact FD.bindsA (ps := ["_law_script"]) (fun _ _ _ _ _ _ us hl => match us, hl with | [_], _ => rfl) s [u] rfl
  · refine ⟨a, ns, rfl, hs, fun p hp => ?_, ⟨ns, rfl, hl, fun n hn' => ?_, rfl⟩, fun _ => rfl⟩
    · have e : (TT K).tb.map (·.1) = (htf.map (He.cT K)).map (·.2) := rfl
      have hp1 : p.1 ∈ (htf.map (He.cT K)).map (·.2) := e ▸ List.mem_map_of_mem hp
      obtain ⟨q, hq, eq⟩ := List.mem_map.mp hp1
      rw [← eq]
      exact ht q hq
    · exact bits_lt (hn n hn')
end Z
set_option maxHeartbeats 0
open PySem PySem.W PySem.Calls PyProof.Rows
theorem PySem.Challenge.cw_typeformes_k28_way_paper_bars_less_holds : PySem.Challenge.rw_typeformes_k28_way_paper_bars_less.Holds := by
  w_on; o_law
  refine HandSHeadRun.head_any (r := OpenLaw.row PySem.Challenge.rw_typeformes_k28_way_paper_bars_less) (q := view (OpenLaw.row PySem.Challenge.rw_typeformes_k28_way_paper_bars_less).prog [44]) (H := Z.hk) (ob := Z.hob) (M := 8000) (loose := Z.hnames) (d := HandSHeadRun.topDef (OpenLaw.row PySem.Challenge.rw_typeformes_k28_way_paper_bars_less).prog 44) (kwd := []) Z.hob_eq
    (by kernel_rfl) (fun s => by kernel_rfl) Z.hrun (by kernel_rfl) (by kernel_rfl) (by kernel_rfl) (by rfl) (by first | assumption | decide +kernel) (by decide +kernel) ⟨rfl, rfl, rfl, rfl, rfl, by decide +kernel⟩ ?hw ?hc
  case hw => w_witness2
  case hc => exact LamX.walk_ofTsE (k := 24) (n := 63) (x := "_law_script") (CX := fun w => L2.CX Z.PP w) rfl (by decide +kernel) rfl ⟨rfl, by decide +kernel, by decide +kernel⟩ Z.law_at (fun w H s e s' ⟨_, _, _, _, _, _, _, _, _, _, _, _, z⟩ => z.elim)

