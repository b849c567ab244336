import PyProof.Rows.All
import Wide.All
import OpenK.AllK
import Wide.FinOn
import PySem.Value
import HandS.ForMost
import HandS.ForExc
import HandS.Wide
import HandS.Nested
import HandS.CallSlots
import HandS.Walk
import HandS.Text
import HandS.Dict
import HandS.IsInst
import HandS.WordsDict
import HandS.Deep
import HandS.Small
import HandS.Iter
import KE.KExcSuper
import HandS.ExcInit
import HandS.NestedK
import HandS.FStr
import KE.KExcIs
import HandS.ExcIs
import HandS.ExcField
import HandS.EndTab
import HandS.HeadWalk
import HandS.HeadHook4
import HandS.Head0
import HandS.Head1
import HandS.Head2
import PyProof.Rows.RegStrFacts
import PyProof.FitsInt
import KE.IntBitsLaws
import PyProof.Rows.Walk
import PySem.Challenge.RW_typeformes_k27_bars_way_conditions
set_option Elab.async false
set_option linter.all false
set_option maxRecDepth 100000
set_option maxHeartbeats 2000000
/-! pure part: plain data, slots, readings -/
namespace Q
open PySem
abbrev Ky := Sum Int Str
/-- plain data -/
inductive D where
  | non | bl (b : Bool) | int (i : Int) | str (x : Str)
  | lst (xs : List D) | tup (xs : List D)
  | dk (kvs : List (Ky × D)) | dt (kvs : List (List Ky × D))
  | obj (C : Addr) (fs : List (Str × D))
  | ref (a : Addr) | ty (n : String)
  | scr (ns : List Int)
  deriving Inhabited
/-- what a slot (or a temporary) holds: m tells that nothing borrowed is within -/
inductive SV where
  | no
  | fr (m : Bool) (d : D)
  | ol (m : Bool) (xs : List D)
  | od (m : Bool) (kvs : List (Ky × D))
  | oo (m : Bool) (C : Addr) (fs : List (Str × D))
  | sto (a : Addr)
  | so (a : Addr) (kvs : List (Ky × D))
  | bor (i : Nat)
  deriving Inhabited
/-- an error of the program's own: its class, its fields -/
inductive EC where
  | bv | un | tk | cl | lk | uf | bt | rm | ve
  deriving DecidableEq, Inhabited
/-- d is c or under it -/
def EC.sub (d c : EC) : Bool := match c with
  | .rm => true
  | .ve => true
  | .bv => (match d with | .bv => true | _ => false)
  | .un => (match d with | .un => true | _ => false)
  | .tk => (match d with | .tk => true | _ => false)
  | .cl => (match d with | .cl => true | _ => false)
  | .lk => (match d with | .lk => true | _ => false)
  | .uf => (match d with | .uf => true | _ => false)
  | .bt => (match d with | .bt => true | _ => false)
/-- one of the seven that are raised -/
def EC.own : EC → Bool
  | .rm | .ve => false
  | _ => true
structure Exn where
  cls : EC
  fs : List (Str × D)
abbrev PSt := List SV
/-- both ways of a test -/
structure ifB (b : Bool) (p q : Prop) : Prop where
  t : b = true → p
  f : b = false → q
theorem ifB.T {b : Bool} {p q : Prop} (hb : b = true) (h : p) : ifB b p q := ⟨fun _ => h, fun e => Bool.noConfusion (hb.symm.trans e)⟩
theorem ifB.F {b : Bool} {p q : Prop} (hb : b = false) (h : q) : ifB b p q := ⟨fun e => Bool.noConfusion (hb.symm.trans e), fun _ => h⟩
abbrev RK := SV → PSt → Prop
abbrev RX := Exn → PSt → Prop
abbrev RE := PSt → RK → RX → Prop
abbrev RT := PSt → (Bool → PSt → Prop) → RX → Prop
abbrev RA := PSt → (List SV → PSt → Prop) → RX → Prop
structure PEnds where
  nx : PSt → Prop
  rt : RK
  bk : PSt → Prop := fun _ => False
  ct : PSt → Prop := fun _ => False
  ex : RX
abbrev RS := PEnds → PSt → Prop
def SV.stoOf : SV → Option Addr
  | .sto a => some a
  | .so a _ => some a
  | _ => none
/-- the draws' store, opened -/
def stoKvs (ns : List Int) (pos now left seed turn : Int) (great : Bool) : List (Ky × D) :=
  [(.inr ("cells" : Str), .lst (ns.map .int)), (.inr ("at" : Str), .int pos), (.inr ("now" : Str), .int now), (.inr ("left" : Str), .int left), (.inr ("great" : Str), .bl great), (.inr ("seed" : Str), .int seed), (.inr ("turn" : Str), .int turn)]
def isSto (kvs : List (Ky × D)) : Prop := ∃ (ns : List Int) (pos now left seed turn : Int) (great : Bool), kvs = stoKvs ns pos now left seed turn great ∧
  ns.length ≤ 63 ∧ (∀ n ∈ ns, n.natAbs < 2 ^ 1048577) ∧ 0 ≤ pos ∧ 0 ≤ now ∧ now.natAbs < 2 ^ 2000 ∧ 0 ≤ seed ∧ seed < 1000003
def SV.isBor : SV → Bool
  | .bor _ => true
  | _ => false
/-- what may be read -/
def SV.view0 : SV → Option (Bool × D)
  | .fr m d => some (m, d)
  | .ol m xs => some (m, .lst xs)
  | .od m kvs => some (m, .dk kvs)
  | .oo m C fs => some (m, .obj C fs)
  | .sto a => some (true, .ref a)
  | .so _ kvs => some (false, .dk kvs)
  | _ => none
def SV.view (ρ : PSt) : SV → Option (Bool × D)
  | .bor i => match ρ[i]? with
    | some sv => sv.view0
    | none => none
  | sv => sv.view0
/-- what it is when it is handed out for good: frozen; the slots behind it -/
def SV.take0 : SV → Option (Bool × D)
  | .fr m d => some (m, d)
  | .ol m xs => some (m, .lst xs)
  | .od m kvs => some (m, .dk kvs)
  | .oo m C fs => some (m, .obj C fs)
  | _ => none
def SV.take (ρ : PSt) : SV → Option (Bool × D × PSt)
  | .bor i => match ρ[i]? with
    | some sv => (match sv.take0 with
      | some (m, d) => some (m, d, ρ.set i (.fr m d))
      | none => none)
    | none => none
  | sv => (match sv.take0 with
    | some (m, d) => some (m, d, ρ)
    | none => none)
def takeAll : List SV → PSt → Option (Bool × List D × PSt)
  | [], ρ => some (true, [], ρ)
  | sv :: r, ρ => match sv.take ρ with
    | none => none
    | some (m, d, ρ1) => (match takeAll r ρ1 with
      | none => none
      | some (m', ds, ρ2) => some (m && m', d :: ds, ρ2))
/-- what leaves the def -/
def SV.mv (ρ : PSt) : SV → SV
  | .bor i => (ρ[i]?).getD .no
  | sv => sv
mutual
/-- nothing in it can be changed -/
def D.safe : D → Bool
  | .non | .bl _ | .int _ | .str _ | .ref _ | .ty _ => true
  | .tup xs => safes xs
  | _ => false
def safes : List D → Bool
  | [] => true
  | x :: r => D.safe x && safes r
end
def SV.dem (b : Bool) : SV → SV
  | .fr m d => .fr (m && (b || d.safe)) d
  | .ol m xs => .ol (m && b) xs
  | .od m kvs => .od (m && b) kvs
  | .oo m C fs => .oo (m && b) C fs
  | sv => sv
/-- how a parameter is handed over: s: frozen; b: lent to be read; t: the draws' store -/
inductive Mode where
  | s | b | t
def passB (sv : SV) (ρ : PSt) : Option (Bool × D × PSt) := match sv.take ρ with
  | some (_, d, ρ1) => some (true, d, ρ1)
  | none => none
def passT (sv : SV) (ρ : PSt) : Option (Bool × D × PSt) := match sv with
  | .bor i => (match ρ[i]? with
    | some (.sto a) => some (true, .ref a, ρ)
    | _ => none)
  | _ => none
def passA (mo : Mode) (sv : SV) (ρ : PSt) : Option (Bool × D × PSt) := match mo with
  | .s => sv.take ρ
  | .b => passB sv ρ
  | .t => passT sv ρ
theorem passB_ok {sv : SV} {ρ ρ1 : PSt} {m : Bool} {d : D} (h : passB sv ρ = some (m, d, ρ1)) : ∃ m', sv.take ρ = some (m', d, ρ1) ∧ m = true := by
  unfold passB at h
  split at h
  · rename_i m' d' ρ' e
    injection h with h
    injection h with a h
    injection h with b c
    subst a b c
    exact ⟨m', e, rfl⟩
  · cases h
theorem passT_ok {sv : SV} {ρ ρ1 : PSt} {m : Bool} {d : D} (h : passT sv ρ = some (m, d, ρ1)) : ∃ i a, sv = .bor i ∧ ρ[i]? = some (.sto a) ∧ m = true ∧ d = .ref a ∧ ρ1 = ρ := by
  unfold passT at h
  split at h
  · rename_i i
    split at h
    · rename_i a e
      injection h with h
      injection h with h1 h
      injection h with h2 h3
      exact ⟨i, a, rfl, e, h1.symm, h2.symm, h3.symm⟩
    · cases h
  · cases h
def passAll : List Mode → List SV → PSt → Option (Bool × List D × PSt)
  | [], [], ρ => some (true, [], ρ)
  | mo :: ms, sv :: svs, ρ => match passA mo sv ρ with
    | none => none
    | some (m, d, ρ1) => (match passAll ms svs ρ1 with
      | none => none
      | some (m', ds, ρ2) => some (m && m', d :: ds, ρ2))
  | _, _, _ => none
/-- the slots at a def's entry -/
def slot0 : Mode → D → SV
  | .s, d => .fr true d
  | .b, d => .fr false d
  | .t, .ref a => .sto a
  | .t, _ => .no
def slots0 : List Mode → List D → List SV
  | mo :: ms, d :: ds => slot0 mo d :: slots0 ms ds
  | _, _ => []
/-! ### continuations that freeze, that read -/
def kT (Φ : Bool → D → PSt → Prop) : RK := fun sv ρ => match sv.take ρ with
  | some (m, d, ρ2) => Φ m d ρ2
  | none => False
def kTs (Φ : Bool → List D → PSt → Prop) : List SV → PSt → Prop := fun svs ρ => match takeAll svs ρ with
  | some (m, ds, ρ2) => Φ m ds ρ2
  | none => False
def kV (Φ : Bool → D → PSt → Prop) : RK := fun sv ρ => match sv.view ρ with
  | some (m, d) => Φ m d ρ
  | none => False
theorem kT_ok {Φ : Bool → D → PSt → Prop} {sv : SV} {ρ : PSt} (h : kT Φ sv ρ) : ∃ m d ρ2, sv.take ρ = some (m, d, ρ2) ∧ Φ m d ρ2 := by
  unfold kT at h
  split at h
  · rename_i m d ρ2 e; exact ⟨m, d, ρ2, e, h⟩
  · exact h.elim
theorem kTs_ok {Φ : Bool → List D → PSt → Prop} {svs : List SV} {ρ : PSt} (h : kTs Φ svs ρ) : ∃ m ds ρ2, takeAll svs ρ = some (m, ds, ρ2) ∧ Φ m ds ρ2 := by
  unfold kTs at h
  split at h
  · rename_i m d ρ2 e; exact ⟨m, d, ρ2, e, h⟩
  · exact h.elim
theorem kV_ok {Φ : Bool → D → PSt → Prop} {sv : SV} {ρ : PSt} (h : kV Φ sv ρ) : ∃ m d, sv.view ρ = some (m, d) ∧ Φ m d ρ := by
  unfold kV at h
  split at h
  · rename_i m d e; exact ⟨m, d, e, h⟩
  · exact h.elim
def kA (Φ : RK) : RK := fun sv ρ => match sv with
  | .bor i => kT (fun m d ρ2 => Φ (.fr m d) ρ2) (.bor i) ρ
  | sv => Φ sv ρ
def kV2 (F : Bool → D → Bool → D → Prop) (s1 s2 : SV) (ρ : PSt) : Prop := match s1.view ρ, s2.view ρ with
  | some (m1, d1), some (m2, d2) => F m1 d1 m2 d2
  | _, _ => False
theorem kV2_ok {F : Bool → D → Bool → D → Prop} {s1 s2 : SV} {ρ : PSt} (h : kV2 F s1 s2 ρ) : ∃ m1 d1 m2 d2, s1.view ρ = some (m1, d1) ∧ s2.view ρ = some (m2, d2) ∧ F m1 d1 m2 d2 := by
  unfold kV2 at h
  split at h
  · rename_i m1 d1 m2 d2 e1 e2; exact ⟨m1, d1, m2, d2, e1, e2, h⟩
  · exact h.elim
def kB (Φ : Bool → PSt → Prop) : RK := fun sv ρ => match sv with
  | .fr _ (.bl b) => Φ b ρ
  | _ => False
theorem kB_ok {Φ : Bool → PSt → Prop} {sv : SV} {ρ : PSt} (h : kB Φ sv ρ) : ∃ m b, sv = .fr m (.bl b) ∧ Φ b ρ := by
  unfold kB at h
  split at h
  · rename_i m b; exact ⟨m, b, rfl, h⟩
  · exact h.elim
/-! ### names, constants, arguments -/
def rName (i : Nat) : RE := fun ρ k _ => match ρ[i]? with
  | some (.fr m d) => k (.fr m d) ρ
  | some .no => False
  | some _ => k (.bor i) ρ
  | none => False
def rC (d : D) : RE := fun ρ k _ => k (.fr true d) ρ
def rNil : RA := fun ρ k _ => k [] ρ
def rCons (p : RE) (q : RA) : RA := fun ρ k x => p ρ (fun sv ρ1 => q ρ1 (fun svs ρ2 => k (sv :: svs) ρ2) x) x
/-! ### operators by values -/
abbrev Op2 := Bool → D → Bool → D → (SV → Prop) → Prop
def rOp2 (o : Op2) (pa pb : RE) : RE := fun ρ k x => pa ρ (fun s1 ρ1 => pb ρ1 (fun s2 ρ2 => kV2 (fun m1 d1 m2 d2 => o m1 d1 m2 d2 fun r => k r ρ2) s1 s2 ρ2) x) x
def rB (p : RE) : RT := fun ρ k x => p ρ (kB k) x
abbrev line : Nat := 16777216
def oAdd : Op2 := fun m1 d1 m2 d2 k => match d1, d2 with
  | .int i, .int j => k (.fr true (.int (i + j)))
  | .str x, .str y => x.length + y.length ≤ line ∧ k (.fr true (.str (x ++ y)))
  | .lst xs, .lst ys => xs.length + ys.length ≤ line ∧ k (.ol (m1 && m2) (xs ++ ys))
  | _, _ => False
def oInt (f : Int → Int → Int) (C : Int → Int → Prop) : Op2 := fun _ d1 _ d2 k => match d1, d2 with
  | .int i, .int j => C i j ∧ k (.fr true (.int (f i j)))
  | _, _ => False
def oCmpI (f : Int → Int → Bool) : Op2 := fun _ d1 _ d2 k => match d1, d2 with
  | .int i, .int j => k (.fr true (.bl (f i j)))
  | _, _ => False
abbrev oSub : Op2 := oInt (fun i j => i - j) fun _ _ => True
abbrev oMul : Op2 := oInt (fun i j => i * j) fun i j => (-(2 ^ 64) < i ∧ i < 2 ^ 64) ∨ (-(2 ^ 64) < j ∧ j < 2 ^ 64)
abbrev oMod : Op2 := oInt (fun i j => i % j) fun _ j => 0 < j
abbrev oDiv : Op2 := oInt (fun i j => i / j) fun _ j => 0 < j ∧ (j < 1073741824 ∨ j.natAbs.log2 < 9000)
abbrev oLt : Op2 := oCmpI fun i j => decide (i < j)
abbrev oLe : Op2 := oCmpI fun i j => decide (i ≤ j)
abbrev oGt : Op2 := oCmpI fun i j => decide (j < i)
abbrev oGe : Op2 := oCmpI fun i j => decide (j ≤ i)
/-- == of plain data (no dicts, no objects) -/
def D.eqv : D → D → Bool
  | .non, .non => true
  | .bl a, .bl b => a == b
  | .bl a, .int j => (if a then 1 else 0) == j
  | .int i, .bl b => i == (if b then 1 else 0)
  | .int i, .int j => i == j
  | .str x, .str y => x == y
  | .lst xs, .lst ys => eqvs xs ys
  | .tup xs, .tup ys => eqvs xs ys
  | _, _ => false
where eqvs : List D → List D → Bool
  | [], [] => true
  | x :: xs, y :: ys => D.eqv x y && eqvs xs ys
  | _, _ => false
def D.dep : D → Nat
  | .lst xs => deps xs + 1
  | .tup xs => deps xs + 1
  | _ => 1
where deps : List D → Nat
  | [] => 0
  | x :: r => max (D.dep x) (deps r)
def D.flatd : D → Bool
  | .non | .bl _ | .int _ => true
  | .str x => x.cps.all (· < 0x110000)
  | .lst xs => flats xs
  | .tup xs => flats xs
  | _ => false
where flats : List D → Bool
  | [] => true
  | x :: r => D.flatd x && flats r
def oEq (neg : Bool) : Op2 := fun _ d1 _ d2 k => match d1, d2 with
  | .str x, .str y => k (.fr true (.bl (xor neg (x == y))))
  | d1, d2 => (d1.flatd = true ∧ d2.flatd = true ∧ d1.dep ≤ 64 ∧ d2.dep ≤ 64) ∧ k (.fr true (.bl (xor neg (D.eqv d1 d2))))
def D.isNon : D → Bool
  | .non => true
  | _ => false
def oIs (neg : Bool) : Op2 := fun _ d1 _ d2 k => d2 = .non ∧ k (.fr true (.bl (xor neg d1.isNon)))
/-! ### statements -/
def rNext : RS := fun D ρ => D.nx ρ
def rSeq (p q : RS) : RS := fun D ρ => p { D with nx := q D } ρ
def rSet (i : Nat) (p : RE) : RS := fun D ρ => p ρ (kA fun sv ρ' => D.nx (ρ'.set i sv)) D.ex
def rDrop (p : RE) : RS := fun D ρ => p ρ (fun _ ρ' => D.nx ρ') D.ex
def rRet (p : RE) : RS := fun D ρ => p ρ D.rt D.ex
def rRetN : RS := fun D ρ => D.rt (.fr true .non) ρ
def rIf (c : RT) (p q : RS) : RS := fun D ρ => c ρ (fun b ρ' => ifB b (p D ρ') (q D ρ')) D.ex
def rBreak : RS := fun D ρ => D.bk ρ
def rCont : RS := fun D ρ => D.ct ρ
/-! ### and, or, not, if -/
def rAnd (p q : RT) : RT := fun ρ k x => p ρ (fun b ρ' => ifB b (q ρ' k x) (k false ρ')) x
def rOr (p q : RT) : RT := fun ρ k x => p ρ (fun b ρ' => ifB b (k true ρ') (q ρ' k x)) x
def rNot (p : RT) : RT := fun ρ k x => p ρ (fun b ρ' => k (!b) ρ') x
def rAndV (p q : RE) : RE := fun ρ k x => p ρ (kB fun b ρ' => ifB b (q ρ' k x) (k (.fr true (.bl false)) ρ')) x
def rOrV (p q : RE) : RE := fun ρ k x => p ρ (kB fun b ρ' => ifB b (k (.fr true (.bl true)) ρ') (q ρ' k x)) x
def rNotV (p : RE) : RE := fun ρ k x => p ρ (kB fun b ρ' => k (.fr true (.bl (!b))) ρ') x
def rIfE (c : RT) (p q : RE) : RE := fun ρ k x => c ρ (fun b ρ' => ifB b (p ρ' k x) (q ρ' k x)) x
/-! ### displays -/
def rTup (p : RA) : RE := fun ρ k x => p ρ (kTs fun m ds ρ' => ds.length ≤ line ∧ k (.fr m (.tup ds)) ρ') x
def rLst (p : RA) : RE := fun ρ k x => p ρ (kTs fun m ds ρ' => ds.length ≤ line ∧ k (.ol m ds) ρ') x
/-! ### calls -/
abbrev QSpec := List D → (SV → Prop) → (Exn → Prop) → Prop
def rCall (ms : List Mode) (qs : QSpec) (dd : List D) (pa : RA) : RE := fun ρ k x => pa ρ (fun svs ρ1 => match passAll ms svs ρ1 with
  | some (m, ds, ρ2) => qs (ds ++ dd) (fun r => k (r.dem m) ρ2) (fun e => x e ρ2)
  | none => False) x
def m1 : Mode → D → List Addr
  | .t, .ref a => [a]
  | _, _ => []
def mOf : List Mode → List D → List Addr
  | m :: ms, d :: ds => m1 m d ++ mOf ms ds
  | _, _ => []
def keep1 : Mode → D → SV → Prop
  | .t, d, sv => sv = slot0 .t d ∨ ∃ a kvs, d = .ref a ∧ sv = .so a kvs ∧ isSto kvs
  | _, _, _ => True
def keeps : List Mode → List D → PSt → Prop
  | m :: ms, d :: ds, sv :: ρ => keep1 m d sv ∧ keeps ms ds ρ
  | [], _, _ => True
  | _, _, _ => False
def okRes (ms : List Mode) (ds : List D) : SV → Prop
  | .sto _ => mOf ms ds = []
  | .so _ _ => mOf ms ds = []
  | _ => True
def endsF (ms : List Mode) (ds : List D) (R : SV → Prop) (F : Exn → Prop) : PEnds where
  nx := fun ρ => R (.fr true .non) ∧ keeps ms ds ρ
  rt := fun sv ρ => R (sv.mv ρ) ∧ okRes ms ds (sv.mv ρ) ∧ keeps ms ds ρ
  ex := fun x ρ => F x ∧ keeps ms ds ρ
/-! ### walks -/
abbrev RI := PSt → (Bool → List D → PSt → Prop) → RX → Prop
abbrev RG := SV → PSt → (PSt → Prop) → Prop
def riL (p : RE) : RI := fun ρ k x => p ρ (kT fun m d ρ' => match d with
  | .lst xs => k m xs ρ'
  | .scr ns => k true (ns.map .int) ρ'
  | _ => False) x
def riT (p : RE) : RI := fun ρ k x => p ρ (kT fun m d ρ' => match d with
  | .tup xs => k m xs ρ'
  | _ => False) x
def intsF (lo : Int) (n : Nat) : List D := (List.range n).map fun i => .int (lo + (i : Nat))
def riR1 (p : RA) : RI := fun ρ k x => p ρ (fun svs ρ1 => match svs with
  | [s1] => kV (fun _ d ρ' => match d with
    | .int n => (-(2 ^ 62) ≤ n ∧ n < 2 ^ 62) ∧ k true (intsF 0 n.toNat) ρ'
    | _ => False) s1 ρ1
  | _ => False) x
def riR2 (p : RA) : RI := fun ρ k x => p ρ (fun svs ρ2 => match svs with
  | [s1, s2] => kV2 (fun _ d1 _ d2 => match d1, d2 with
    | .int a, .int b => (-(2 ^ 62) ≤ a ∧ a < 2 ^ 62 ∧ -(2 ^ 62) ≤ b ∧ b < 2 ^ 62) ∧ k true (intsF a (b - a).toNat) ρ2
    | _, _ => False) s1 s2 ρ2
  | _ => False) x
def gN (i : Nat) : RG := fun sv ρ k => k (ρ.set i sv)
def gTs : List RG → Bool → List D → PSt → (PSt → Prop) → Prop
  | [], _, [], ρ, k => k ρ
  | g :: gs, m, x :: xs, ρ, k => g (.fr m x) ρ fun ρ' => gTs gs m xs ρ' k
  | _, _, _, _, _ => False
def gT (gs : List RG) : RG := fun sv ρ k => match sv with
  | .fr m (.tup xs) => xs.length = gs.length ∧ gTs gs m xs ρ k
  | _ => False
theorem gT_ok {gs : List RG} {sv : SV} {ρ : PSt} {k : PSt → Prop} (h : gT gs sv ρ k) : ∃ m xs, sv = .fr m (.tup xs) ∧ xs.length = gs.length ∧ gTs gs m xs ρ k := by
  unfold gT at h
  split at h
  · rename_i m xs; exact ⟨m, xs, rfl, h.1, h.2⟩
  · exact h.elim
def rFor (ri : RI) (g : RG) (body : RS) : RS := fun D ρ => ri ρ (fun m xs ρ1 => ∃ Iv : Nat → PSt → Prop, Iv 0 ρ1 ∧ (∀ (i : Nat) x ρ, xs[i]? = some x → Iv i ρ → g (.fr m x) ρ fun ρ2 => body { D with nx := Iv (i + 1), ct := Iv (i + 1), bk := D.nx } ρ2) ∧ ∀ ρ, Iv xs.length ρ → D.nx ρ) D.ex
/-- target = value -/
def rAsg (p : RE) (g : RG) : RS := fun D ρ => p ρ (kT fun m d ρ' => g (.fr m d) ρ' D.nx) D.ex
def wipeP (ρ : PSt) : List Nat → PSt
  | [] => ρ
  | v :: vs => (wipeP ρ vs).set v .no
def noX : RX := fun _ _ => False
def rYes : RT := fun ρ k _ => k true ρ
def rLc (own : List Nat) (ri : RI) (g : RG) (tt : RT) (te : RE) : RE := fun ρ k x => ri ρ (fun m xs ρ1 => ∃ Iv : Nat → List D → Bool → PSt → Prop, Iv 0 [] true (wipeP ρ1 own) ∧
  (∀ (i : Nat) x acc ma ρ, xs[i]? = some x → Iv i acc ma ρ → g (.fr m x) ρ fun ρ2 => tt ρ2 (fun b ρ3 => ifB b (te ρ3 (kT fun md d ρ4 => acc.length < line ∧ Iv (i + 1) (acc ++ [d]) (ma && md) (wipeP ρ4 own)) noX) (Iv (i + 1) acc ma (wipeP ρ3 own))) noX) ∧
  ∀ acc ma ρ, Iv xs.length acc ma ρ → k (.ol ma acc) ρ) x
end Q

namespace Q
open PySem PySem.Spec PyProof.Rows L2
/-! ### plain data in the abstract heap -/
section
variable (K : PySem.W.Frag) (G : Addr → Prop) (H : Hp)
/-- a frozen cell -/
def Fz (a : Addr) (u : HO) : Prop := G a ∧ ∃ o, H a = some (.frz o u)
def KL (K : PySem.W.Frag) (a : Addr) (xs : List V) : Prop := ∃ (o : Obj) (its : Array Value) (n : Nat), K.lookup a = some o ∧ o.cls = .type "list" ∧ o.dict = none ∧ o.data = .seq its n ∧ its.size ≤ sizeLine ∧ Vals xs its.toList
mutual
def Rep : D → V → Prop
  | .non, v => v = .non
  | .bl b, v => v = .bl b
  | .int i, v => v = .int i
  | .str x, v => v = .str x
  | .lst xs, v => ∃ a vs, v = .ref a ∧ Fz G H a (.lst vs) ∧ Reps xs vs
  | .tup xs, v => ∃ a vs, v = .ref a ∧ SqT K H a vs ∧ Reps xs vs
  | .dk kvs, v => ∃ a kv, v = .ref a ∧ Fz G H a (.dK kv) ∧ Repk kvs kv
  | .dt kvs, v => ∃ a kv, v = .ref a ∧ Fz G H a (.dT kv) ∧ Rept kvs kv
  | .obj C fs, v => ∃ a dx fv, v = .ref a ∧ Fz G H a (.ins C dx fv) ∧ Repf fs fv
  | .ref a, v => v = .ref a
  | .ty n, v => v = .ty n
  | .scr ns, v => ∃ a, v = .ref a ∧ (Fz G H a (.lst (ns.map .int)) ∨ KL K a (ns.map .int))
termination_by structural d => d
def Reps : List D → List V → Prop
  | [], vs => vs = []
  | x :: r, vs => ∃ v vs', vs = v :: vs' ∧ Rep x v ∧ Reps r vs'
termination_by structural d => d
def Repk : List (Ky × D) → List (Ky × V) → Prop
  | [], vs => vs = []
  | x :: r, vs => ∃ v vs', vs = v :: vs' ∧ Repk1 x v ∧ Repk r vs'
termination_by structural d => d
def Repk1 : Ky × D → Ky × V → Prop
  | (k, x), v => v.1 = k ∧ Rep x v.2
termination_by structural d => d
def Rept : List (List Ky × D) → List (List Ky × V) → Prop
  | [], vs => vs = []
  | x :: r, vs => ∃ v vs', vs = v :: vs' ∧ Rept1 x v ∧ Rept r vs'
termination_by structural d => d
def Rept1 : List Ky × D → List Ky × V → Prop
  | (k, x), v => v.1 = k ∧ Rep x v.2
termination_by structural d => d
def Repf : List (Str × D) → List (Str × V) → Prop
  | [], vs => vs = []
  | x :: r, vs => ∃ v vs', vs = v :: vs' ∧ Repf1 x v ∧ Repf r vs'
termination_by structural d => d
def Repf1 : Str × D → Str × V → Prop
  | (k, x), v => v.1 = k ∧ Rep x v.2
termination_by structural d => d
end
end
/-- what frozen data leans on -/
structure Stab0 (H H' : Hp) : Prop where
  frz : ∀ a o u, H a = some (.frz o u) → H' a = some (.frz o u)
  tup : ∀ a xs, H a = some (.tup xs) → H' a = some (.tup xs)
structure Stab (H H' : Hp) : Prop extends Stab0 H H' where
  xd : ∀ a fs, H a = some (.xd fs) → H' a = some (.xd fs)
theorem Stab.refl {H : Hp} : Stab H H := ⟨⟨fun _ _ _ h => h, fun _ _ h => h⟩, fun _ _ h => h⟩
/-- what is pinned: said of the heap, and it stays -/
def PinH (H : Hp) (z : Hp → Prop) : Prop := (∀ H1 H2, Stab H1 H2 → z H1 → z H2) ∧ z H
theorem Stab.pin {H H' : Hp} {z : Hp → Prop} (st : Stab H H') (h : PinH H z) : PinH H' z := ⟨h.1, h.1 _ _ st h.2⟩
theorem Stab.trans {H H1 H2 : Hp} (a : Stab H H1) (b : Stab H1 H2) : Stab H H2 := ⟨⟨fun c o u h => b.frz c o u (a.frz c o u h), fun c xs h => b.tup c xs (a.tup c xs h)⟩, fun c fs h => b.xd c fs (a.xd c fs h)⟩
section
variable {K : PySem.W.Frag} {G G' : Addr → Prop} {H H' : Hp}
theorem Fz.mono {a : Addr} {u : HO} (hg : ∀ a, G a → G' a) (st : Stab H H') (h : Fz G H a u) : Fz G' H' a u := ⟨hg a h.1, let ⟨o, e⟩ := h.2; ⟨o, st.frz a o u e⟩⟩
theorem Fz.rd {a : Addr} {u : HO} (h : Fz G H a u) : Rd H a u := .inr h.2
theorem sqT_mono {a : Addr} {xs : List V} (st : Stab H H') (h : SqT K H a xs) : SqT K H' a xs := by
  rcases h with (h | ⟨o, h⟩) | h
  · exact .inl (.inl (st.tup _ _ h))
  · exact .inl (.inr ⟨o, st.frz _ _ _ h⟩)
  · exact .inr h
mutual
theorem Rep.mono (hg : ∀ a, G a → G' a) (st : Stab H H') : ∀ (d : D) (v : V), Rep K G H d v → Rep K G' H' d v
  | .non, _, h => h
  | .bl _, _, h => h
  | .int _, _, h => h
  | .str _, _, h => h
  | .lst xs, _, ⟨a, vs, e, f, r⟩ => ⟨a, vs, e, f.mono hg st, Reps.mono hg st xs vs r⟩
  | .tup xs, _, ⟨a, vs, e, f, r⟩ => ⟨a, vs, e, sqT_mono st f, Reps.mono hg st xs vs r⟩
  | .dk xs, _, ⟨a, vs, e, f, r⟩ => ⟨a, vs, e, f.mono hg st, Repk.mono hg st xs vs r⟩
  | .dt xs, _, ⟨a, vs, e, f, r⟩ => ⟨a, vs, e, f.mono hg st, Rept.mono hg st xs vs r⟩
  | .obj C fs, _, ⟨a, dx, fv, e, f, r⟩ => ⟨a, dx, fv, e, f.mono hg st, Repf.mono hg st fs fv r⟩
  | .ref _, _, h => h
  | .ty _, _, h => h
  | .scr _, _, ⟨a, e, f⟩ => ⟨a, e, f.imp (fun f => f.mono hg st) id⟩
theorem Reps.mono (hg : ∀ a, G a → G' a) (st : Stab H H') : ∀ (d : List D) (v : List V), Reps K G H d v → Reps K G' H' d v
  | [], _, h => h
  | x :: r, _, ⟨v, vs', e, a, b⟩ => ⟨v, vs', e, Rep.mono hg st x v a, Reps.mono hg st r vs' b⟩
theorem Repk.mono (hg : ∀ a, G a → G' a) (st : Stab H H') : ∀ (d : List (Ky × D)) (v : List (Ky × V)), Repk K G H d v → Repk K G' H' d v
  | [], _, h => h
  | (k, x) :: r, _, ⟨v, vs', e, a, b⟩ => ⟨v, vs', e, ⟨a.1, Rep.mono hg st x v.2 a.2⟩, Repk.mono hg st r vs' b⟩
theorem Rept.mono (hg : ∀ a, G a → G' a) (st : Stab H H') : ∀ (d : List (List Ky × D)) (v : List (List Ky × V)), Rept K G H d v → Rept K G' H' d v
  | [], _, h => h
  | (k, x) :: r, _, ⟨v, vs', e, a, b⟩ => ⟨v, vs', e, ⟨a.1, Rep.mono hg st x v.2 a.2⟩, Rept.mono hg st r vs' b⟩
theorem Repf.mono (hg : ∀ a, G a → G' a) (st : Stab H H') : ∀ (d : List (Str × D)) (v : List (Str × V)), Repf K G H d v → Repf K G' H' d v
  | [], _, h => h
  | (k, x) :: r, _, ⟨v, vs', e, a, b⟩ => ⟨v, vs', e, ⟨a.1, Rep.mono hg st x v.2 a.2⟩, Repf.mono hg st r vs' b⟩
end
theorem reps_len : ∀ {ds : List D} {vs : List V}, Reps K G H ds vs → ds.length = vs.length
  | [], _, h => by cases h; rfl
  | _ :: r, _, ⟨v, vs', e, _, b⟩ => by rw [e, List.length_cons, List.length_cons, reps_len b]
theorem reps_get : ∀ {ds : List D} {vs : List V} {i : Nat} {d : D}, Reps K G H ds vs → ds[i]? = some d → ∃ v, vs[i]? = some v ∧ Rep K G H d v
  | [], _, _, _, _, e => by simp at e
  | x :: r, _, 0, d, ⟨v, vs', e, a, _⟩, q => by subst e; simp at q; subst q; exact ⟨v, rfl, a⟩
  | x :: r, _, i + 1, d, ⟨v, vs', e, _, b⟩, q => by subst e; simp at q; obtain ⟨u, h1, h2⟩ := reps_get b q; exact ⟨u, by simpa using h1, h2⟩
theorem reps_app : ∀ {ds es : List D} {vs us : List V}, Reps K G H ds vs → Reps K G H es us → Reps K G H (ds ++ es) (vs ++ us)
  | [], _, _, _, h, b => by cases h; exact b
  | _ :: r, _, _, _, ⟨v, vs', e, a, b⟩, q => by subst e; exact ⟨v, _, rfl, a, reps_app b q⟩
theorem reps_one {d : D} {v : V} (h : Rep K G H d v) : Reps K G H [d] [v] := ⟨v, [], rfl, h, rfl⟩
end
/-! ### states -/
-- the error's fields
/-- the tables of code objects, with the name that each tells; the classes of errors -/
structure TBs where
  tb : List (Addr × Str)
  ea : EC → Addr
structure Gh where
  G : Addr → Prop
  M : List Addr
  T : TBs
  B : Hp
  Z : List (Hp → Prop)
  S : Addr → Prop
def Gh.gm (g : Gh) (m : Bool) : Addr → Prop := fun a => m = true → g.G a
theorem Gh.gm_mono {g : Gh} {m m' : Bool} (h : m' = true → m = true) : ∀ a, g.gm m a → g.gm m' a := fun _ q z => q (h z)
def ownOf : SV → Option V → Option Addr
  | .ol _ _, some (.ref a) => some a
  | .od _ _, some (.ref a) => some a
  | .oo _ _ _, some (.ref a) => some a
  | .sto _, some (.ref a) => some a
  | .so _ _, some (.ref a) => some a
  | _, _ => none
/-- the draws' store at a -/
def StoreOk (K : PySem.W.Frag) (S : Addr → Prop) (H : Hp) (a : Addr) : Prop :=
  ∃ (c : V) (ns : List Int) (pos now left seed turn : Int) (great : Bool),
    H a = some (.dK [(.inr ("cells" : Str), c), (.inr ("at" : Str), .int pos), (.inr ("now" : Str), .int now), (.inr ("left" : Str), .int left), (.inr ("great" : Str), .bl great), (.inr ("seed" : Str), .int seed), (.inr ("turn" : Str), .int turn)]) ∧
    Rep K S H (.lst (ns.map .int)) c ∧ ns.length ≤ 63 ∧ (∀ n ∈ ns, n.natAbs < 2 ^ 1048577) ∧ 0 ≤ pos ∧ 0 ≤ now ∧ now.natAbs < 2 ^ 2000 ∧ 0 ≤ seed ∧ seed < 1000003
def SVR (K : PySem.W.Frag) (g : Gh) (H : Hp) (σ : L2.St) : SV → Option V → Prop
  | .no, _ => True
  | .fr m d, v => ∃ u, v = some u ∧ Rep K (g.gm m) H d u
  | .ol m xs, v => ∃ a vs, v = some (.ref a) ∧ H a = some (.lst vs) ∧ Reps K (g.gm m) H xs vs
  | .od m kvs, v => ∃ a kv, v = some (.ref a) ∧ H a = some (.dK kv) ∧ Repk K (g.gm m) H kvs kv
  | .oo m C fs, v => ∃ a dx fv, v = some (.ref a) ∧ H a = some (.ins C dx fv) ∧ Repf K (g.gm m) H fs fv
  | .sto a, v => v = some (.ref a) ∧ StoreOk K g.S H a
  | .so a kvs, v => v = some (.ref a) ∧ ∃ kw, H a = some (.dK kw) ∧ Repk K g.S H kvs kw
  | .bor i, v => v.isSome = true ∧ ∀ w, σ[i]? = some (some w) → v = some w
structure KeepB (M : List Addr) (H H' : Hp) : Prop where
  keep : ∀ a o, H a = some o → a ∉ M → (∀ ps, o ≠ .tbl ps) → H' a = some o
  live : ∀ a, H' a = none → H a = none
theorem KeepB.refl {M : List Addr} {H : Hp} : KeepB M H H := ⟨fun _ _ h _ _ => h, fun _ h => h⟩
theorem KeepB.trans {M : List Addr} {H H1 H2 : Hp} (a : KeepB M H H1) (b : KeepB M H1 H2) : KeepB M H H2 := ⟨fun c o h m t => b.keep c o (a.keep c o h m t) m t, fun c h => a.live c (b.live c h)⟩
def ents (ρ : PSt) (σ : L2.St) (τ : List SV) (vs : List V) : List (SV × Option V) := τ.zip (vs.map some) ++ ρ.zip σ
structure SR (K : PySem.W.Frag) (g : Gh) (ρ : PSt) (σ : L2.St) (τ : List SV) (vs : List V) (H : Hp) : Prop where
  len : ρ.length = σ.length
  tlen : τ.length = vs.length
  all : ∀ p ∈ ents ρ σ τ vs, SVR K g H σ p.1 p.2
  inj : ∀ (i j : Nat) p q a, (ents ρ σ τ vs)[i]? = some p → (ents ρ σ τ vs)[j]? = some q → ownOf p.1 p.2 = some a → ownOf q.1 q.2 = some a → i = j
  own : ∀ p ∈ ents ρ σ τ vs, ∀ a, ownOf p.1 p.2 = some a → g.B a = none ∨ (a ∈ g.M ∧ p.1.stoOf = some a)
  keep : KeepB g.M g.B H
  tabs : LamX.Tabs g.T.tb H
  gnew : ∀ a, g.B a = none → g.G a
  pin : ∀ z ∈ g.Z, PinH H z
  nb : ∀ sv ∈ ρ, sv.isBor = false
  snew : ∀ a, g.B a = none → g.S a
def NoBor (τ : List SV) : Prop := ∀ sv ∈ τ, sv.isBor = false
/-! ### lists of entries -/
theorem zip_set : ∀ {α β : Type} (l : List α) (m : List β) (i : Nat) (a : α) (b : β), (l.set i a).zip (m.set i b) = (l.zip m).set i (a, b)
  | _, _, [], _, _, _, _ => by simp
  | _, _, _ :: _, [], i, _, _ => by cases i <;> simp
  | _, _, _ :: _, _ :: _, 0, _, _ => by simp
  | _, _, _ :: l, _ :: m, i + 1, a, b => by simp [zip_set l m i a b]
theorem ents_set {ρ : PSt} {σ : L2.St} {τ : List SV} {vs : List V} (h : τ.length = vs.length) (i : Nat) (sv : SV) (v : Option V) : ents (ρ.set i sv) (σ.set i v) τ vs = (ents ρ σ τ vs).set (τ.length + i) (sv, v) := by
  unfold ents
  rw [zip_set, List.set_append_right]
  · congr 1
    rw [List.length_zip, List.length_map, ← h, Nat.min_self, Nat.add_sub_cancel_left]
  · rw [List.length_zip, List.length_map, ← h, Nat.min_self]
    omega
theorem ents_cons {ρ : PSt} {σ : L2.St} {τ : List SV} {vs : List V} {sv : SV} {v : V} : ents ρ σ (sv :: τ) (v :: vs) = (sv, some v) :: ents ρ σ τ vs := rfl
theorem ents_at {ρ : PSt} {σ : L2.St} {τ : List SV} {vs : List V} (h : τ.length = vs.length) (i : Nat) {sv : SV} {v : Option V} (h1 : ρ[i]? = some sv) (h2 : σ[i]? = some v) : (ents ρ σ τ vs)[τ.length + i]? = some (sv, v) := by
  unfold ents
  have e : (τ.zip (vs.map some)).length = τ.length := by rw [List.length_zip, List.length_map, ← h, Nat.min_self]
  rw [List.getElem?_append_right (by omega), e, Nat.add_sub_cancel_left]
  rw [List.getElem?_zip_eq_some]
  exact ⟨h1, h2⟩
def Injs (l : List (SV × Option V)) : Prop := ∀ (i j : Nat) p q a, l[i]? = some p → l[j]? = some q → ownOf p.1 p.2 = some a → ownOf q.1 q.2 = some a → i = j
theorem Injs.tail {p : SV × Option V} {l : List (SV × Option V)} (h : Injs (p :: l)) : Injs l := fun i j p q a e1 e2 h1 h2 => by
  have z := h (i + 1) (j + 1) p q a (by simpa using e1) (by simpa using e2) h1 h2
  omega
theorem Injs.fresh {p : SV × Option V} {l : List (SV × Option V)} (h : Injs (p :: l)) {a : Addr} (ha : ownOf p.1 p.2 = some a) : ∀ q ∈ l, ownOf q.1 q.2 ≠ some a := fun q hq e => by
  obtain ⟨j, hj⟩ := List.mem_iff_getElem?.mp hq
  have z := h 0 (j + 1) p q a rfl (by simpa using hj) ha e
  omega
theorem Injs.cons {p : SV × Option V} {l : List (SV × Option V)} (h : Injs l) (f : ∀ a, ownOf p.1 p.2 = some a → ∀ q ∈ l, ownOf q.1 q.2 ≠ some a) : Injs (p :: l) := fun i j r q a e1 e2 h1 h2 => by
  cases i with
  | zero =>
    cases j with
    | zero => rfl
    | succ j =>
      simp at e1 e2
      subst e1
      exact absurd h2 (f a h1 q (List.mem_of_getElem? e2))
  | succ i =>
    cases j with
    | zero =>
      simp at e1 e2
      subst e2
      exact absurd h1 (f a h2 r (List.mem_of_getElem? e1))
    | succ j =>
      have z := h i j r q a (by simpa using e1) (by simpa using e2) h1 h2
      omega
theorem Injs.set {l : List (SV × Option V)} (h : Injs l) (k : Nat) (p : SV × Option V) (f : ∀ a, ownOf p.1 p.2 = some a → (∃ o, l[k]? = some o ∧ ownOf o.1 o.2 = some a) ∨ ∀ q ∈ l, ownOf q.1 q.2 ≠ some a) : Injs (l.set k p) := fun i j r q a e1 e2 h1 h2 => by
  by_cases hi : k = i
  · by_cases hj : k = j
    · omega
    · exfalso
      rw [List.getElem?_set_ne hj] at e2
      have er : r = p := by
        subst hi
        rw [List.getElem?_set] at e1
        simp at e1
        exact e1.2.symm
      subst er
      rcases f a h1 with ⟨o, ho, z⟩ | z
      · have := h k j o q a ho e2 z h2
        omega
      · exact z q (List.mem_of_getElem? e2) h2
  · rw [List.getElem?_set_ne hi] at e1
    by_cases hj : k = j
    · exfalso
      have eq : q = p := by
        subst hj
        rw [List.getElem?_set] at e2
        simp at e2
        exact e2.2.symm
      subst eq
      rcases f a h2 with ⟨o, ho, z⟩ | z
      · have := h i k r o a e1 ho h1 z
        omega
      · exact z r (List.mem_of_getElem? e1) h1
    · rw [List.getElem?_set_ne hj] at e2
      exact h i j r q a e1 e2 h1 h2
/-! ### entries in the heap -/
section
variable {K : PySem.W.Frag} {g : Gh} {H H' : Hp} {σ σ' : L2.St} {sv : SV} {v : Option V} {a : Addr}
theorem StoreOk.mono {S : Addr → Prop} (st : Stab H H') (e : H' a = H a) (h : StoreOk K S H a) : StoreOk K S H' a := by
  obtain ⟨c, ns, pos, now, left, seed, turn, great, h1, h2, h3⟩ := h
  exact ⟨c, ns, pos, now, left, seed, turn, great, e.trans h1, Rep.mono (fun _ z => z) st _ _ h2, h3⟩
theorem StoreOk.up {S S' : Addr → Prop} (hs : ∀ a, S a → S' a) (h : StoreOk K S H a) : StoreOk K S' H a := by
  obtain ⟨c, ns, pos, now, left, seed, turn, great, h1, h2, h3⟩ := h
  exact ⟨c, ns, pos, now, left, seed, turn, great, h1, Rep.mono hs .refl _ _ h2, h3⟩
theorem svr_mono (st : Stab H H') (ow : ∀ a, ownOf sv v = some a → H' a = H a) (h : SVR K g H σ sv v) : SVR K g H' σ sv v := by
  cases sv with
  | no => trivial
  | fr m d => obtain ⟨u, e, r⟩ := h; exact ⟨u, e, Rep.mono (fun _ z => z) st _ _ r⟩
  | ol m xs => obtain ⟨a, vs, e, c, r⟩ := h; exact ⟨a, vs, e, (ow a (by rw [e]; rfl)).trans c, Reps.mono (fun _ z => z) st _ _ r⟩
  | od m xs => obtain ⟨a, vs, e, c, r⟩ := h; exact ⟨a, vs, e, (ow a (by rw [e]; rfl)).trans c, Repk.mono (fun _ z => z) st _ _ r⟩
  | oo m C xs => obtain ⟨a, dx, vs, e, c, r⟩ := h; exact ⟨a, dx, vs, e, (ow a (by rw [e]; rfl)).trans c, Repf.mono (fun _ z => z) st _ _ r⟩
  | sto b => obtain ⟨e, c⟩ := h; exact ⟨e, c.mono st (ow b (by rw [e]; rfl))⟩
  | so b kvs => obtain ⟨e, kw, c, r⟩ := h; exact ⟨e, kw, (ow b (by rw [e]; rfl)).trans c, Repk.mono (fun _ z => z) st _ _ r⟩
  | bor i => exact h
theorem svr_sigma (hb : sv.isBor = false) (h : SVR K g H σ sv v) : SVR K g H σ' sv v := by
  cases sv with
  | bor i => cases hb
  | _ => exact h
theorem svr_own (h : SVR K g H σ sv v) (e : ownOf sv v = some a) : v = some (.ref a) ∧ ∃ u, H a = some u ∧ Mut (some u) ∧ ∀ φ, u ≠ .ext φ := by
  cases sv with
  | no => cases v <;> cases e
  | fr m d => cases v <;> cases e
  | bor i => cases v <;> cases e
  | ol m xs => obtain ⟨b, vs, e1, c, r⟩ := h; subst e1; cases e; exact ⟨rfl, _, c, trivial, fun _ z => nomatch z⟩
  | od m xs => obtain ⟨b, vs, e1, c, r⟩ := h; subst e1; cases e; exact ⟨rfl, _, c, trivial, fun _ z => nomatch z⟩
  | oo m C xs => obtain ⟨b, dx, vs, e1, c, r⟩ := h; subst e1; cases e; exact ⟨rfl, _, c, trivial, fun _ z => nomatch z⟩
  | so b kvs =>
    obtain ⟨e1, kw, c, r⟩ := h
    subst e1
    cases e
    exact ⟨rfl, _, c, trivial, fun _ z => nomatch z⟩
  | sto b =>
    obtain ⟨e1, c⟩ := h
    subst e1
    cases e
    obtain ⟨_, _, _, _, _, _, _, _, q, _⟩ := c
    exact ⟨rfl, _, q, trivial, fun _ z => nomatch z⟩
end
theorem svr_some {K : PySem.W.Frag} {g : Gh} {H : Hp} {σ : L2.St} {sv : SV} {u : Option V} (h : SVR K g H σ sv u) (hn : sv ≠ .no) : ∃ v, u = some v := by
  cases sv with
  | no => exact absurd rfl hn
  | fr m d => obtain ⟨v, e, _⟩ := h; exact ⟨v, e⟩
  | ol m xs => obtain ⟨a, _, e, _⟩ := h; exact ⟨_, e⟩
  | od m xs => obtain ⟨a, _, e, _⟩ := h; exact ⟨_, e⟩
  | oo m C xs => obtain ⟨a, _, _, e, _⟩ := h; exact ⟨_, e⟩
  | sto a => exact ⟨_, h.1⟩
  | so a kvs => exact ⟨_, h.1⟩
  | bor i => exact Option.isSome_iff_exists.mp h.1
theorem stab_new {H : Hp} {p : Addr} {o : HO} (h : H p = none) : Stab H (upd H p o) := ⟨⟨fun a u x e => by rw [upd_ne (ne_of_none e h)]; exact e, fun a x e => by rw [upd_ne (ne_of_none e h)]; exact e⟩, fun a x e => by rw [upd_ne (ne_of_none e h)]; exact e⟩
theorem stab_mut {H : Hp} {p : Addr} {o : HO} (h : Mut (H p)) : Stab H (upd H p o) :=
  ⟨⟨fun a u x e => by rw [upd_ne (fun z => by rw [← z, e] at h; exact h)]; exact e, fun a x e => by rw [upd_ne (fun z => by rw [← z, e] at h; exact h)]; exact e⟩, fun a x e => by rw [upd_ne (fun z => by rw [← z, e] at h; exact h)]; exact e⟩
theorem KeepB.upd {M : List Addr} {H0 H : Hp} {a : Addr} {o : HO} (k : KeepB M H0 H) (h : H0 a = none ∨ a ∈ M) : KeepB M H0 (upd H a o) := by
  refine ⟨fun c u e m t => ?_, fun c e => ?_⟩
  · by_cases hc : c = a
    · subst hc
      rcases h with h | h
      · rw [h] at e; cases e
      · exact absurd h m
    · rw [upd_ne hc]; exact k.keep c u e m t
  · by_cases hc : c = a
    · subst hc; rw [upd_same] at e; cases e
    · rw [upd_ne hc] at e; exact k.live c e
section
variable {X : Cx} {K : PySem.W.Frag} {g : Gh} {ρ : PSt} {σ : L2.St} {τ : List SV} {vs : List V} {H H' : Hp} {sv : SV} {v : V} {a p : Addr} {o : HO} {i : Nat}
theorem SR.heap (S : SR K g ρ σ τ vs H) (st : Stab H H') (ow : ∀ q ∈ ents ρ σ τ vs, ∀ a, ownOf q.1 q.2 = some a → H' a = H a) (hk : KeepB g.M g.B H') (tb : LamX.Tabs g.T.tb H') : SR K g ρ σ τ vs H' :=
  ⟨S.len, S.tlen, fun q hq => svr_mono st (ow q hq) (S.all q hq), S.inj, S.own, hk, tb, S.gnew, fun z hz => st.pin (S.pin z hz), S.nb, S.snew⟩
theorem SR.new (S : SR K g ρ σ τ vs H) (h : H p = none) : SR K g ρ σ τ vs (upd H p o) := by
  refine S.heap (stab_new h) (fun q hq b e => ?_) (S.keep.upd (.inl (S.keep.live p h))) (S.tabs.ext fun b u e => by rw [upd_ne (ne_of_none e h)]; exact e)
  obtain ⟨_, u, e1, _⟩ := svr_own (S.all q hq) e
  rw [upd_ne (ne_of_none e1 h)]
theorem SR.pop (S : SR K g ρ σ (sv :: τ) (v :: vs) H) : SR K g ρ σ τ vs H :=
  ⟨S.len, by have := S.tlen; simpa using this, fun q hq => S.all q (List.mem_cons_of_mem _ hq), Injs.tail S.inj, fun q hq => S.own q (List.mem_cons_of_mem _ hq), S.keep, S.tabs, S.gnew, S.pin, S.nb, S.snew⟩
theorem SR.top (S : SR K g ρ σ (sv :: τ) (v :: vs) H) : SVR K g H σ sv (some v) := S.all (sv, some v) List.mem_cons_self
theorem SR.push (S : SR K g ρ σ τ vs H) (h : SVR K g H σ sv (some v)) (f : ∀ a, ownOf sv (some v) = some a → (g.B a = none ∨ (a ∈ g.M ∧ sv.stoOf = some a)) ∧ ∀ q ∈ ents ρ σ τ vs, ownOf q.1 q.2 ≠ some a) : SR K g ρ σ (sv :: τ) (v :: vs) H := by
  refine ⟨S.len, by simp [S.tlen], fun q hq => ?_, Injs.cons S.inj fun a e => (f a e).2, fun q hq a e => ?_, S.keep, S.tabs, S.gnew, S.pin, S.nb, S.snew⟩
  · rcases List.mem_cons.mp hq with rfl | hq
    · exact h
    · exact S.all q hq
  · rcases List.mem_cons.mp hq with rfl | hq
    · exact (f a e).1
    · exact S.own q hq a e
/-- a frozen value is laid on top -/
theorem SR.pushF {m : Bool} {d : D} (S : SR K g ρ σ τ vs H) (h : Rep K (g.gm m) H d v) : SR K g ρ σ (.fr m d :: τ) (v :: vs) H :=
  S.push ⟨v, rfl, h⟩ fun a e => by cases e
/-- a slot -/
theorem SR.slot (S : SR K g ρ σ τ vs H) (h : ρ[i]? = some sv) : ∃ u, σ[i]? = some u ∧ SVR K g H σ sv u ∧ (sv, u) ∈ ents ρ σ τ vs := by
  have hi : i < σ.length := by rw [← S.len]; exact (List.getElem?_eq_some_iff.mp h).1
  have e := ents_at S.tlen i h (List.getElem?_eq_getElem hi)
  exact ⟨_, List.getElem?_eq_getElem hi, S.all _ (List.mem_of_getElem? e), List.mem_of_getElem? e⟩
theorem SR.borSlot (S : SR K g ρ σ τ vs H) (h : SVR K g H σ (.bor i) (some v)) (e : ρ[i]? = some sv) (hn : sv ≠ .no) : σ[i]? = some (some v) := by
  obtain ⟨u, hu, z, _⟩ := S.slot e
  obtain ⟨w, rfl⟩ := svr_some z hn
  rw [hu, h.2 w hu]
theorem SR.assign (S : SR K g ρ σ (sv :: τ) (v :: vs) H) (hb : sv.isBor = false) (hn : NoBor τ) : SR K g (ρ.set i sv) (σ.set i (some v)) τ vs H := by
  have S' := S.pop
  have key : ∀ q ∈ ents (ρ.set i sv) (σ.set i (some v)) τ vs, q ∈ ents ρ σ τ vs ∨ q = (sv, some v) := fun q hq => by
    rw [ents_set S'.tlen] at hq
    exact List.mem_or_eq_of_mem_set hq
  have nbq : ∀ q ∈ ents ρ σ τ vs, q.1.isBor = false := fun q hq => by
    rcases List.mem_append.mp hq with z | z
    · exact hn _ (List.of_mem_zip z).1
    · exact S.nb _ (List.of_mem_zip z).1
  refine ⟨by simp [S.len], S'.tlen, fun q hq => ?_, ?_, fun q hq a e => ?_, S.keep, S.tabs, S.gnew, S.pin, fun x hx => ?_, S.snew⟩
  · rcases key q hq with z | rfl
    · exact svr_sigma (nbq q z) (S'.all q z)
    · exact svr_sigma hb S.top
  · have inj : Injs ((ents ρ σ τ vs).set (τ.length + i) (sv, some v)) := Injs.set S'.inj _ _ fun a e => .inr (Injs.fresh S.inj e)
    rw [← ents_set S'.tlen] at inj
    exact inj
  · rcases key q hq with z | rfl
    · exact S'.own q z a e
    · exact S.own (sv, some v) List.mem_cons_self a e
  · rcases List.mem_or_eq_of_mem_set hx with z | rfl
    · exact S.nb x z
    · exact hb
/-- an own cell of a slot is written -/
theorem SR.write {sv' : SV} (S : SR K g ρ σ τ vs H) (h : ρ[i]? = some sv) (hv : σ[i]? = some (some v)) (ho : ownOf sv (some v) = some a) (ho' : ownOf sv' (some v) = some a ∨ ownOf sv' (some v) = none) (hb : sv'.isBor = false) (new : SVR K g (upd H a o) σ sv' (some v)) (ns : sv.stoOf = some a → sv'.stoOf = some a) :
    SR K g (ρ.set i sv') σ τ vs (upd H a o) := by
  have e0 := ents_at S.tlen i h hv
  have m0 := List.mem_of_getElem? e0
  obtain ⟨_, u, hu, mu, nx⟩ := svr_own (S.all _ m0) ho
  have st : Stab H (upd H a o) := stab_mut (by rw [hu]; exact mu)
  have es : ents (ρ.set i sv') σ τ vs = (ents ρ σ τ vs).set (τ.length + i) (sv', some v) := by
    have := ents_set (ρ := ρ) (σ := σ) S.tlen i sv' (some v)
    rw [show σ.set i (some v) = σ from by
      apply List.ext_getElem?
      intro j
      rw [List.getElem?_set]
      split
      · rename_i hj; subst hj; split
        · exact hv.symm
        · rename_i hl; rw [List.getElem?_eq_none (by omega)] at hv; cases hv
      · rfl] at this
    exact this
  refine ⟨by simp [S.len], S.tlen, fun q hq => ?_, ?_, fun q hq b e => ?_, S.keep.upd ((S.own _ m0 a ho).imp id And.left), ?_, S.gnew, fun z hz => st.pin (S.pin z hz), fun x hx => ?_, S.snew⟩
  · rw [es] at hq
    obtain ⟨j, hj⟩ := List.mem_iff_getElem?.mp hq
    by_cases hji : τ.length + i = j
    · subst hji
      rw [List.getElem?_set] at hj
      simp at hj
      rw [← hj.2]
      exact new
    · rw [List.getElem?_set_ne hji] at hj
      refine svr_mono st (fun b eb => ?_) (S.all q (List.mem_of_getElem? hj))
      rw [upd_ne]
      rintro rfl
      exact hji (S.inj _ _ _ _ _ e0 hj ho eb)
  · show Injs _
    rw [es]
    refine Injs.set S.inj _ _ fun b e => .inl ⟨_, e0, ?_⟩
    rcases ho' with z | z
    · rw [z] at e; cases e; exact ho
    · rw [z] at e; cases e
  · rw [es] at hq
    rcases List.mem_or_eq_of_mem_set hq with z | rfl
    · exact S.own q z b e
    · rcases ho' with z | z
      · rw [z] at e; cases e
        rcases S.own _ m0 _ ho with w | ⟨w1, w2⟩
        · exact .inl w
        · exact .inr ⟨w1, ns w2⟩
      · rw [z] at e; cases e
  · intro pt hpt
    obtain ⟨ps, h1, h2, h3⟩ := S.tabs pt hpt
    have ne1 : pt.1 ≠ a := fun z => by rw [z, hu] at h1; cases h1; exact mu
    refine ⟨ps, by rw [upd_ne ne1]; exact h1, h2, fun pos cv hc => ?_⟩
    obtain ⟨c, e1, e2⟩ := h3 pos cv hc
    refine ⟨c, e1, ?_⟩
    rw [upd_ne]
    · exact e2
    rintro rfl
    rw [hu] at e2
    exact nx _ (Option.some.inj e2)
  · rcases List.mem_or_eq_of_mem_set hx with z | rfl
    · exact S.nb x z
    · exact hb
/-! ### the temporaries in another order -/
def Apart (p q : SV × Option V) : Prop := ∀ a, ownOf p.1 p.2 = some a → ownOf q.1 q.2 ≠ some a
theorem Apart.symm {p q : SV × Option V} (h : Apart p q) : Apart q p := fun a e1 e2 => h a e2 e1
theorem injs_iff : ∀ {l : List (SV × Option V)}, Injs l ↔ l.Pairwise Apart
  | [] => ⟨fun _ => .nil, fun _ i j p q a e => by simp at e⟩
  | x :: l => by
    rw [List.pairwise_cons, ← injs_iff (l := l)]
    exact ⟨fun h => ⟨fun q hq a e1 e2 => Injs.fresh h e1 q hq e2, Injs.tail h⟩, fun h => Injs.cons h.2 fun a e q hq z => h.1 q hq a e z⟩
theorem injs_perm {l m : List (SV × Option V)} (p : l.Perm m) (h : Injs l) : Injs m :=
  injs_iff.mpr ((p.pairwise_iff (fun h => Apart.symm h)).mp (injs_iff.mp h))
theorem SR.perm {τ' : List SV} {vs' : List V} (S : SR K g ρ σ τ vs H) (hl : τ'.length = vs'.length) (p : (τ.zip (vs.map some)).Perm (τ'.zip (vs'.map some))) : SR K g ρ σ τ' vs' H := by
  have p2 : (ents ρ σ τ vs).Perm (ents ρ σ τ' vs') := p.append_right _
  exact ⟨S.len, hl, fun q hq => S.all q (p2.mem_iff.mpr hq), injs_perm p2 S.inj, fun q hq => S.own q (p2.mem_iff.mpr hq), S.keep, S.tabs, S.gnew, S.pin, S.nb, S.snew⟩
/-- the top goes below the list of temporaries svs -/
theorem SR.sink {svs : List SV} {us : List V} (S : SR K g ρ σ (sv :: (svs ++ τ)) (v :: (us ++ vs)) H) (hl : svs.length = us.length) : SR K g ρ σ (svs ++ (sv :: τ)) (us ++ (v :: vs)) H := by
  have t := S.tlen
  simp at t
  refine S.perm (by simp; omega) ?_
  rw [List.map_append, List.zip_append (by simpa using hl), List.map_cons, List.zip_cons_cons, List.map_cons, List.zip_cons_cons, List.map_append, List.zip_append (by simpa using hl)]
  exact (List.perm_middle).symm
theorem SR.lift {svs : List SV} {us : List V} (S : SR K g ρ σ (svs ++ (sv :: τ)) (us ++ (v :: vs)) H) (hl : svs.length = us.length) : SR K g ρ σ (sv :: (svs ++ τ)) (v :: (us ++ vs)) H := by
  have t := S.tlen
  simp at t
  refine S.perm (by simp; omega) ?_
  rw [List.map_append, List.zip_append (by simpa using hl), List.map_cons, List.zip_cons_cons, List.map_cons, List.zip_cons_cons, List.map_append, List.zip_append (by simpa using hl)]
  exact List.perm_middle
theorem SR.drop : ∀ {svs : List SV} {us : List V}, svs.length = us.length → SR K g ρ σ (svs ++ τ) (us ++ vs) H → SR K g ρ σ τ vs H
  | [], [], _, S => S
  | _ :: svs, _ :: us, hl, S => SR.drop (svs := svs) (us := us) (by simpa using hl) S.pop
/-! ### freezing -/
theorem set_self {l : List α} {i : Nat} {x : α} (h : l[i]? = some x) : l.set i x = l := by
  apply List.ext_getElem?
  intro j
  rw [List.getElem?_set]
  split
  · rename_i hj; subst hj; split
    · exact h.symm
    · rename_i hl; rw [List.getElem?_eq_none (by omega)] at h; cases h
  · rfl
variable {pins : List (Addr × Obj)} {s : Shared} {m : Bool} {d : D}
theorem SR.gm (S : SR K g ρ σ τ vs H) {q : SV × Option V} (hq : q ∈ ents ρ σ τ vs) (e : ownOf q.1 q.2 = some a) (ns : q.1.stoOf = none) : g.gm m a := fun _ => S.gnew a ((S.own q hq a e).elim id fun z => absurd z.2 (by rw [ns]; exact fun e => nomatch e))
/-- what a locked cell is worth -/
theorem rep_lock {od : Obj} (S : SR K g ρ σ τ vs H) (hm : (sv, some v) ∈ ents ρ σ τ vs) (t : sv.take0 = some (m, d)) (ho : ownOf sv (some v) = some a) (hu : H a = some o) (st : Stab H (upd H a (.frz od o))) : Rep K (g.gm m) (upd H a (.frz od o)) d v := by
  have z := S.all _ hm
  cases sv with
  | ol m' xs =>
    cases t
    obtain ⟨b, ws, e, c, r⟩ := z
    cases e; cases ho
    rw [hu] at c; cases c
    exact ⟨_, ws, rfl, ⟨S.gm hm rfl rfl, od, upd_same⟩, Reps.mono (fun _ z => z) st _ _ r⟩
  | od m' xs =>
    cases t
    obtain ⟨b, ws, e, c, r⟩ := z
    cases e; cases ho
    rw [hu] at c; cases c
    exact ⟨_, ws, rfl, ⟨S.gm hm rfl rfl, od, upd_same⟩, Repk.mono (fun _ z => z) st _ _ r⟩
  | oo m' C xs =>
    cases t
    obtain ⟨b, dx, ws, e, c, r⟩ := z
    cases e; cases ho
    rw [hu] at c; cases c
    exact ⟨_, dx, ws, rfl, ⟨S.gm hm rfl rfl, od, upd_same⟩, Repf.mono (fun _ z => z) st _ _ r⟩
  | fr m' x => cases ho
  | no => cases ho
  | sto b => cases t
  | so b kvs => cases t
  | bor j => cases ho
theorem take0_sto {sv : SV} {md : Bool × D} (t : sv.take0 = some md) : sv.stoOf = none := by
  cases sv <;> first | rfl | cases t
theorem take0_own (t : sv.take0 = some (m, d)) (z : SVR K g H σ sv (some v)) : sv = .fr m d ∨ ∃ a, ownOf sv (some v) = some a := by
  cases sv with
  | fr m' x => cases t; exact .inl rfl
  | ol m' xs => obtain ⟨b, ws, e, _⟩ := z; cases e; exact .inr ⟨_, rfl⟩
  | od m' xs => obtain ⟨b, ws, e, _⟩ := z; cases e; exact .inr ⟨_, rfl⟩
  | oo m' C xs => obtain ⟨b, dx, ws, e, _⟩ := z; cases e; exact .inr ⟨_, rfl⟩
  | no => cases t
  | sto b => cases t
  | so b kvs => cases t
  | bor j => cases t
theorem freezeSlot (I : Inv X pins σ H s) (S : SR X.K g ρ σ τ vs H) (h : ρ[i]? = some sv) (hv : σ[i]? = some (some v)) (t : sv.take0 = some (m, d)) :
    ∃ H', Inv X pins σ H' s ∧ SR X.K g (ρ.set i (.fr m d)) σ τ vs H' ∧ Rep X.K (g.gm m) H' d v := by
  have hm := List.mem_of_getElem? (ents_at S.tlen i h hv)
  rcases take0_own t (S.all _ hm) with e | ⟨a, ho⟩
  · subst e
    obtain ⟨u, e1, r⟩ := S.all _ hm
    cases e1
    exact ⟨H, I, by rw [set_self h]; exact S, r⟩
  · obtain ⟨_, u, hu, mu, _⟩ := svr_own (S.all _ hm) ho
    obtain ⟨od, I1⟩ := I.lock hu mu
    have st : Stab H (upd H a (.frz od u)) := stab_mut (by rw [hu]; exact mu)
    have r := rep_lock S hm t ho hu st
    exact ⟨_, I1, S.write h hv ho (.inr rfl) rfl ⟨v, rfl, r⟩ (fun z => by rw [take0_sto t] at z; cases z), r⟩
theorem freezeTop (I : Inv X pins σ H s) (S : SR X.K g ρ σ (sv :: τ) (v :: vs) H) (t : sv.take0 = some (m, d)) : ∃ H', Inv X pins σ H' s ∧ SR X.K g ρ σ (.fr m d :: τ) (v :: vs) H' := by
  have hm : (sv, some v) ∈ ents ρ σ (sv :: τ) (v :: vs) := List.mem_cons_self
  rcases take0_own t S.top with e | ⟨a, ho⟩
  · subst e
    exact ⟨H, I, S⟩
  · obtain ⟨_, u, hu, mu, nx⟩ := svr_own S.top ho
    obtain ⟨od, I1⟩ := I.lock hu mu
    have st : Stab H (upd H a (.frz od u)) := stab_mut (by rw [hu]; exact mu)
    have r := rep_lock S hm t ho hu st
    have S1 := S.pop
    have S2 : SR X.K g ρ σ τ vs (upd H a (.frz od u)) := by
      refine S1.heap st (fun q hq b e => ?_) (S.keep.upd ((S.own _ hm a ho).imp id And.left)) ?_
      · rw [upd_ne]
        rintro rfl
        exact Injs.fresh S.inj ho q hq e
      · intro pt hpt
        obtain ⟨ps, h1, h2, h3⟩ := S.tabs pt hpt
        have ne1 : pt.1 ≠ a := fun z => by rw [z, hu] at h1; cases h1; exact mu
        refine ⟨ps, by rw [upd_ne ne1]; exact h1, h2, fun pos cv hc => ?_⟩
        obtain ⟨c, e1, e2⟩ := h3 pos cv hc
        refine ⟨c, e1, ?_⟩
        rw [upd_ne]
        · exact e2
        rintro rfl
        rw [hu] at e2
        exact nx _ (Option.some.inj e2)
    exact ⟨_, I1, S2.pushF r⟩
/-- the top is handed out for good -/
theorem take_ok {ρ1 : PSt} (I : Inv X pins σ H s) (S : SR X.K g ρ σ (sv :: τ) (v :: vs) H) (t : sv.take ρ = some (m, d, ρ1)) : ∃ H', Inv X pins σ H' s ∧ SR X.K g ρ1 σ (.fr m d :: τ) (v :: vs) H' := by
  have other : sv.isBor = false → ∃ H', Inv X pins σ H' s ∧ SR X.K g ρ1 σ (.fr m d :: τ) (v :: vs) H' := fun hb => by
    have t' : (match sv.take0 with
      | some (m, d) => some (m, d, ρ)
      | none => none) = some (m, d, ρ1) := by
      cases sv with
      | bor j => cases hb
      | _ => exact t
    cases e : sv.take0 with
    | none => rw [e] at t'; cases t'
    | some md =>
      rw [e] at t'
      cases t'
      exact freezeTop I S e
  cases sv with
  | bor j =>
    have t' : (match ρ[j]? with
      | some sv => (match sv.take0 with
        | some (m, d) => some (m, d, ρ.set j (.fr m d))
        | none => none)
      | none => none) = some (m, d, ρ1) := t
    cases e : ρ[j]? with
    | none => rw [e] at t'; cases t'
    | some sv =>
      rw [e] at t'
      cases e2 : sv.take0 with
      | none => simp only [e2] at t'; cases t'
      | some md =>
        simp only [e2] at t'
        cases t'
        have hv := S.borSlot S.top e (fun z => by subst z; cases e2)
        obtain ⟨H', I', S', r⟩ := freezeSlot I S e hv e2
        exact ⟨H', I', S'.pop.pushF r⟩
  | _ => exact other rfl
theorem takeAll_nil {ρ1 : PSt} {ds : List D} (t : takeAll [] ρ = some (m, ds, ρ1)) : m = true ∧ ds = [] ∧ ρ1 = ρ := by
  unfold takeAll at t
  injection t with t
  injection t with a b
  injection b with b c
  exact ⟨a.symm, b.symm, c.symm⟩
theorem takeAll_cons {svs : List SV} {ρ1 : PSt} {ds : List D} (t : takeAll (sv :: svs) ρ = some (m, ds, ρ1)) : ∃ m1 d1 ρ2 m2 ds2, sv.take ρ = some (m1, d1, ρ2) ∧ takeAll svs ρ2 = some (m2, ds2, ρ1) ∧ m = (m1 && m2) ∧ ds = d1 :: ds2 := by
  unfold takeAll at t
  cases e : sv.take ρ with
  | none => rw [e] at t; cases t
  | some r =>
    obtain ⟨m1, d1, ρ2⟩ := r
    simp only [e] at t
    cases e2 : takeAll svs ρ2 with
    | none => rw [e2] at t; cases t
    | some r2 =>
      obtain ⟨m2, ds2, ρ3⟩ := r2
      rw [e2] at t
      injection t with t
      injection t with a b
      injection b with b c
      subst a b c
      exact ⟨m1, d1, ρ2, m2, ds2, rfl, e2, rfl, rfl⟩
theorem takeAll_ok (svs : List SV) : ∀ (us : List V) (ρ ρ1 : PSt) (H : Hp) (m : Bool) (ds : List D) (τ : List SV) (vs : List V), Inv X pins σ H s → svs.length = us.length → SR X.K g ρ σ (svs ++ τ) (us ++ vs) H → takeAll svs ρ = some (m, ds, ρ1) →
    ∃ H', Inv X pins σ H' s ∧ SR X.K g ρ1 σ τ vs H' ∧ Reps X.K (g.gm m) H' ds us := by
  induction svs with
  | nil =>
    intro us ρ ρ1 H m ds τ vs I hl S t
    obtain ⟨rfl, rfl, rfl⟩ := takeAll_nil t
    have : us = [] := by
      cases us with
      | nil => rfl
      | cons _ _ => simp at hl
    subst this
    exact ⟨H, I, S, rfl⟩
  | cons sv svs ih =>
    intro us ρ ρ1 H m ds τ vs I hl S t
    cases us with
    | nil => simp at hl
    | cons u us =>
      have hl' : svs.length = us.length := by simpa using hl
      obtain ⟨m1, d1, ρ2, m2, ds2, e1, e2, rfl, rfl⟩ := takeAll_cons t
      obtain ⟨H1, I1, S1⟩ := take_ok I S e1
      obtain ⟨H2, I2, S2, r2⟩ := ih us ρ2 ρ1 H1 m2 ds2 _ _ I1 hl' (S1.sink hl') e2
      obtain ⟨w, hw, rw1⟩ := S2.top
      cases hw
      exact ⟨H2, I2, S2.pop, u, us, rfl, Rep.mono (Gh.gm_mono fun h => (Bool.and_eq_true_iff.mp h).1) .refl _ _ rw1, Reps.mono (Gh.gm_mono fun h => (Bool.and_eq_true_iff.mp h).2) .refl _ _ r2⟩
end
end Q

namespace Q
open PySem PySem.Spec PyProof.Rows L2
/-! ### judgements -/
def ExnOk (K : PySem.W.Frag) (g : Gh) (H : Hp) (x : Exn) (c : Value) (d : Option Addr) : Prop := (x.cls.own = true ∧ c = .ref (g.T.ea x.cls)) ∧ ∃ dd fv, d = some dd ∧ H dd = some (.xd fv) ∧ Repf K (fun _ => True) H x.fs fv
def WQ (X : Cx) (g : Gh) (Ξ : RX) : WX := fun c d σ H => ∃ x ρ τ vs, SR X.K g ρ σ τ vs H ∧ ExnOk X.K g H x c d ∧ Ξ x ρ
def QEnd (X : Cx) (g : Gh) (pins : List (Addr × Obj)) (σ : L2.St) (τ : List SV) (vs : List V) (Φ : RK) (u : Value) (s' : Shared) : Prop :=
  ∃ v H' sv ρ', L2.Inv X pins σ H' s' ∧ RelV v u ∧ SR X.K g ρ' σ (sv :: τ) (v :: vs) H' ∧ Φ sv ρ'
structure QE (X : Cx) (g : Gh) (e : Expr) (p : RE) : Prop where
  run : ∀ (pins : List (Addr × Obj)) (s : Shared) (σ : L2.St) (H : Hp) (τ : List SV) (vs : List V) (ρ : PSt) (Φ : RK) (Ξ : RX), Takes X (WQ X g Ξ) → L2.Inv X pins σ H s → SR X.K g ρ σ τ vs H → p ρ Φ Ξ →
    wpAny (model X.prog X.w) X.A (eval e X.env) (QEnd X g pins σ τ vs Φ) X.xe s
structure QT (X : Cx) (g : Gh) (e : Expr) (p : RT) : Prop where
  run : ∀ (pins : List (Addr × Obj)) (s : Shared) (σ : L2.St) (H : Hp) (τ : List SV) (vs : List V) (ρ : PSt) (Φ : Bool → PSt → Prop) (Ξ : RX), Takes X (WQ X g Ξ) → L2.Inv X pins σ H s → SR X.K g ρ σ τ vs H → p ρ Φ Ξ →
    wpAny (model X.prog X.w) X.A (isTrue e X.env (eval e X.env)) (fun b s' => ∃ H' ρ', L2.Inv X pins σ H' s' ∧ SR X.K g ρ' σ τ vs H' ∧ Φ b ρ') X.xe s
structure QW (X : Cx) (g : Gh) (e : Expr) (p : RT) : Prop where
  run : ∀ (whole : Sem Value) (pins : List (Addr × Obj)) (s : Shared) (σ : L2.St) (H : Hp) (τ : List SV) (vs : List V) (ρ : PSt) (Φ : Bool → PSt → Prop) (Ξ : RX), Takes X (WQ X g Ξ) → L2.Inv X pins σ H s → SR X.K g ρ σ τ vs H → p ρ Φ Ξ →
    wpAny (model X.prog X.w) X.A (isTrue e X.env whole) (fun b s' => ∃ H' ρ', L2.Inv X pins σ H' s' ∧ SR X.K g ρ' σ τ vs H' ∧ Φ b ρ') X.xe s
theorem QW.qt {X : Cx} {g : Gh} {e : Expr} {p : RT} (h : QW X g e p) : QT X g e p := ⟨h.run _⟩
structure QA (X : Cx) (g : Gh) (es : List Expr) (p : RA) : Prop where
  run : ∀ (pos : Pos) (pins : List (Addr × Obj)) (s : Shared) (σ : L2.St) (H : Hp) (τ : List SV) (vs : List V) (ρ : PSt) (Φ : List SV → PSt → Prop) (Ξ : RX), Takes X (WQ X g Ξ) → L2.Inv X pins σ H s → SR X.K g ρ σ τ vs H → p ρ Φ Ξ →
    wpAny (model X.prog X.w) X.A (spliced (backTo pos (starEach es X.env))) (fun us s' => ∃ ws H' svs ρ', L2.Inv X pins σ H' s' ∧ Vals ws us ∧ svs.length = ws.length ∧ SR X.K g ρ' σ (svs ++ τ) (ws ++ vs) H' ∧ Φ svs ρ') X.xe s
def SQ (X : Cx) (g : Gh) (pins : List (Addr × Obj)) (τ : List SV) (vs : List V) (D : PEnds) (f : Flow) (s' : Shared) : Prop :=
  match f with
  | .next => ∃ σ' H' ρ', L2.Inv X pins σ' H' s' ∧ SR X.K g ρ' σ' τ vs H' ∧ D.nx ρ'
  | .brk => ∃ σ' H' ρ', L2.Inv X pins σ' H' s' ∧ SR X.K g ρ' σ' τ vs H' ∧ D.bk ρ'
  | .cont => ∃ σ' H' ρ', L2.Inv X pins σ' H' s' ∧ SR X.K g ρ' σ' τ vs H' ∧ D.ct ρ'
  | .ret u => ∃ v σ' H' sv ρ' σ'', L2.Inv X pins σ' H' s' ∧ RelV v u ∧ SR X.K g ρ' σ'' (sv :: τ) (v :: vs) H' ∧ D.rt sv ρ'
structure QS (X : Cx) (g : Gh) (st : Stmt) (p : RS) : Prop where
  run : ∀ (pins : List (Addr × Obj)) (s : Shared) (σ : L2.St) (H : Hp) (τ : List SV) (vs : List V) (ρ : PSt) (D : PEnds), NoBor τ → Takes X (WQ X g D.ex) → L2.Inv X pins σ H s → SR X.K g ρ σ τ vs H → p D ρ →
    wpAny (model X.prog X.w) X.A (exec st X.env) (SQ X g pins τ vs D) X.xe s
structure QSs (X : Cx) (g : Gh) (st : List Stmt) (p : RS) : Prop where
  run : ∀ (pins : List (Addr × Obj)) (s : Shared) (σ : L2.St) (H : Hp) (τ : List SV) (vs : List V) (ρ : PSt) (D : PEnds), NoBor τ → Takes X (WQ X g D.ex) → L2.Inv X pins σ H s → SR X.K g ρ σ τ vs H → p D ρ →
    wpAny (model X.prog X.w) X.A (execs st X.env) (SQ X g pins τ vs D) X.xe s
/-! ### from and to the kit's readings -/
section
variable {X : Cx} {g : Gh} {e : Expr} {es : List Expr} {p : RE} {rt : RT} {ra : RA} {Ξ : RX}
def tqe (X : Cx) (g : Gh) (p : RE) (Ξ : RX) : TE := fun σ H Q => ∃ τ vs ρ Φ, SR X.K g ρ σ τ vs H ∧ p ρ Φ Ξ ∧ ∀ sv ρ' v H', SR X.K g ρ' σ (sv :: τ) (v :: vs) H' → Φ sv ρ' → Q v H'
def tqeT (X : Cx) (g : Gh) (p : RE) (Ξ : RX) : TE := fun σ H Q => ∃ τ vs ρ, ∃ Φ : Bool → D → PSt → Prop, SR X.K g ρ σ τ vs H ∧ p ρ (kT Φ) Ξ ∧ ∀ m d ρ' v H', SR X.K g ρ' σ τ vs H' → Rep X.K (g.gm m) H' d v → Φ m d ρ' → Q v H'
def tqt (X : Cx) (g : Gh) (p : RT) (Ξ : RX) : TT := fun σ H Q => ∃ τ vs ρ Φ, SR X.K g ρ σ τ vs H ∧ p ρ Φ Ξ ∧ ∀ b ρ' H', SR X.K g ρ' σ τ vs H' → Φ b ρ' → Q b H'
def tqa (X : Cx) (g : Gh) (p : RA) (Ξ : RX) : TA := fun σ H Q => ∃ τ vs ρ Φ, SR X.K g ρ σ τ vs H ∧ p ρ Φ Ξ ∧ ∀ svs ρ' us H', svs.length = us.length → SR X.K g ρ' σ (svs ++ τ) (us ++ vs) H' → Φ svs ρ' → Q us H'
def tqaT (X : Cx) (g : Gh) (p : RA) (Ξ : RX) : TA := fun σ H Q => ∃ τ vs ρ, ∃ Φ : Bool → List D → PSt → Prop, SR X.K g ρ σ τ vs H ∧ p ρ (kTs Φ) Ξ ∧ ∀ m ds ρ' us H', SR X.K g ρ' σ τ vs H' → Reps X.K (g.gm m) H' ds us → Φ m ds ρ' → Q us H'
theorem QE.pe (h : QE X g e p) (tk : Takes X (WQ X g Ξ)) : PE X e (tqe X g p Ξ) := ⟨fun pins s σ H Q I ⟨τ, vs, ρ, Φ, S, hp, k⟩ =>
  thn (h.run pins s σ H τ vs ρ Φ Ξ tk I S hp) fun u s' ⟨v, H', sv, ρ', I', r, S', q⟩ => ⟨v, H', I', r, k sv ρ' v H' S' q⟩⟩
theorem QE.peT (h : QE X g e p) (tk : Takes X (WQ X g Ξ)) : PE X e (tqeT X g p Ξ) := ⟨fun pins s σ H Q I ⟨τ, vs, ρ, Φ, S, hp, k⟩ =>
  thn (h.run pins s σ H τ vs ρ _ Ξ tk I S hp) fun u s' ⟨v, H', sv, ρ', I', r, S', q⟩ => by
    obtain ⟨m, d, ρ2, e, q⟩ := kT_ok q
    obtain ⟨H2, I2, S2⟩ := take_ok I' S' e
    obtain ⟨w, hw, rw1⟩ := S2.top
    cases hw
    exact ⟨v, H2, I2, r, k m d ρ2 v H2 S2.pop rw1 q⟩⟩
theorem QT.pt (h : QT X g e rt) (tk : Takes X (WQ X g Ξ)) : PT X e (tqt X g rt Ξ) := ⟨fun pins s σ H Q I ⟨τ, vs, ρ, Φ, S, hp, k⟩ =>
  thn (h.run pins s σ H τ vs ρ Φ Ξ tk I S hp) fun b s' ⟨H', ρ', I', S', q⟩ => ⟨H', I', k b ρ' H' S' q⟩⟩
theorem QW.pw (h : QW X g e rt) (tk : Takes X (WQ X g Ξ)) : PW X e (tqt X g rt Ξ) := ⟨fun wh pins s σ H Q I ⟨τ, vs, ρ, Φ, S, hp, k⟩ =>
  thn (h.run wh pins s σ H τ vs ρ Φ Ξ tk I S hp) fun b s' ⟨H', ρ', I', S', q⟩ => ⟨H', I', k b ρ' H' S' q⟩⟩
theorem QA.pa (h : QA X g es ra) (tk : Takes X (WQ X g Ξ)) : PA X es (tqa X g ra Ξ) := ⟨fun pos pins s σ H Q I ⟨τ, vs, ρ, Φ, S, hp, k⟩ =>
  thn (h.run pos pins s σ H τ vs ρ Φ Ξ tk I S hp) fun us s' ⟨ws, H', svs, ρ', I', r, l, S', q⟩ => ⟨ws, H', I', r, k svs ρ' ws H' l S' q⟩⟩
theorem QA.paT (h : QA X g es ra) (tk : Takes X (WQ X g Ξ)) : PA X es (tqaT X g ra Ξ) := ⟨fun pos pins s σ H Q I ⟨τ, vs, ρ, Φ, S, hp, k⟩ =>
  thn (h.run pos pins s σ H τ vs ρ _ Ξ tk I S hp) fun us s' ⟨ws, H', svs, ρ', I', r, l, S', q⟩ => by
    obtain ⟨m, ds, ρ2, e, q⟩ := kTs_ok q
    obtain ⟨H2, I2, S2, r2⟩ := takeAll_ok svs ws ρ' ρ2 H' m ds τ vs I' l S' e
    exact ⟨ws, H2, I2, r, k m ds ρ2 ws H2 S2 r2 q⟩⟩
theorem QE.of {t : RX → TE} (h : ∀ Ξ, Takes X (WQ X g Ξ) → PE X e (t Ξ)) (hp : ∀ τ vs ρ Φ Ξ σ H, SR X.K g ρ σ τ vs H → p ρ Φ Ξ → t Ξ σ H fun v H' => ∃ sv ρ', SR X.K g ρ' σ (sv :: τ) (v :: vs) H' ∧ Φ sv ρ') : QE X g e p :=
  ⟨fun pins s σ H τ vs ρ Φ Ξ tk I S hw => thn ((h Ξ tk).run pins s σ H _ I (hp τ vs ρ Φ Ξ σ H S hw)) fun u s' ⟨v, H', I', r, sv, ρ', S', q⟩ => ⟨v, H', sv, ρ', I', r, S', q⟩⟩
theorem QT.of {t : RX → TT} (h : ∀ Ξ, Takes X (WQ X g Ξ) → PT X e (t Ξ)) (hp : ∀ τ vs ρ Φ Ξ σ H, SR X.K g ρ σ τ vs H → rt ρ Φ Ξ → t Ξ σ H fun b H' => ∃ ρ', SR X.K g ρ' σ τ vs H' ∧ Φ b ρ') : QT X g e rt :=
  ⟨fun pins s σ H τ vs ρ Φ Ξ tk I S hw => thn ((h Ξ tk).run pins s σ H _ I (hp τ vs ρ Φ Ξ σ H S hw)) fun b s' ⟨H', I', ρ', S', q⟩ => ⟨H', ρ', I', S', q⟩⟩
theorem QW.of {t : RX → TT} (h : ∀ Ξ, Takes X (WQ X g Ξ) → PW X e (t Ξ)) (hp : ∀ τ vs ρ Φ Ξ σ H, SR X.K g ρ σ τ vs H → rt ρ Φ Ξ → t Ξ σ H fun b H' => ∃ ρ', SR X.K g ρ' σ τ vs H' ∧ Φ b ρ') : QW X g e rt :=
  ⟨fun wh pins s σ H τ vs ρ Φ Ξ tk I S hw => thn ((h Ξ tk).run wh pins s σ H _ I (hp τ vs ρ Φ Ξ σ H S hw)) fun b s' ⟨H', I', ρ', S', q⟩ => ⟨H', ρ', I', S', q⟩⟩
theorem QA.of {t : RX → TA} (h : ∀ Ξ, Takes X (WQ X g Ξ) → PA X es (t Ξ)) (hp : ∀ τ vs ρ Φ Ξ σ H, SR X.K g ρ σ τ vs H → ra ρ Φ Ξ → t Ξ σ H fun us H' => ∃ svs ρ', svs.length = us.length ∧ SR X.K g ρ' σ (svs ++ τ) (us ++ vs) H' ∧ Φ svs ρ') : QA X g es ra :=
  ⟨fun pos pins s σ H τ vs ρ Φ Ξ tk I S hw => thn ((h Ξ tk).run pos pins s σ H _ I (hp τ vs ρ Φ Ξ σ H S hw)) fun us s' ⟨ws, H', I', r, svs, ρ', l, S', q⟩ => ⟨ws, H', svs, ρ', I', r, l, S', q⟩⟩
end
/-! ### names and constants -/
section
variable {X : Cx} {g : Gh} {a b e : Expr} {es : List Expr} {p pa pb : RE} {pt pu : RT} {ps : RA} {i : Nat} {x : Str} {pos : Pos}
theorem qv (i : Nat) {x : Str} {pos : Pos} (hN : X.N[i]? = some x := by rfl) (hv : Vis X.env.scope x := by first | exact Or.inl rfl | exact Or.inr (Or.inl rfl) | exact Or.inr (Or.inr rfl)) (hd : (x == ("__debug__" : Str)) = false := by decide)
    (hcd : (x == ("__classdict__" : Str)) = false := by decide) : QE X g (.Name x pos) (rName i) := by
  refine QE.of (t := fun _ => tVar i) (fun _ _ => pe_var hN hv hd hcd) fun τ vs ρ Φ Ξ σ H S hw => ?_
  have hw' : (match ρ[i]? with
    | some (.fr m d) => Φ (.fr m d) ρ
    | some .no => False
    | some _ => Φ (.bor i) ρ
    | none => False) := hw
  cases e : ρ[i]? with
  | none => rw [e] at hw'; exact hw'.elim
  | some sv =>
    rw [e] at hw'
    obtain ⟨u, hu, z, hm⟩ := S.slot e
    have bor : sv ≠ .no → Φ (.bor i) ρ → ∃ v, σ[i]? = some (some v) ∧ ∃ sv ρ', SR X.K g ρ' σ (sv :: τ) (v :: vs) H ∧ Φ sv ρ' := fun hn q => by
      obtain ⟨v, rfl⟩ := svr_some z hn
      exact ⟨v, hu, .bor i, ρ, S.push (show SVR X.K g H σ (.bor i) (some v) from ⟨rfl, fun w e => by rw [hu] at e; cases e; rfl⟩) (fun a h => nomatch (show (none : Option Addr) = some a from h)), q⟩
    cases sv with
    | no => exact hw'.elim
    | fr m d =>
      obtain ⟨v, rfl, r⟩ := z
      exact ⟨v, hu, .fr m d, ρ, S.pushF r, hw'⟩
    | ol m xs => exact bor (by simp) hw'
    | od m xs => exact bor (by simp) hw'
    | oo m C xs => exact bor (by simp) hw'
    | sto c => exact bor (by simp) hw'
    | so c kvs => exact bor (by simp) hw'
    | bor j => exact bor (by simp) hw'
theorem qc {v : V} {d : D} (h : PE X e (tC v)) (r : ∀ G H, Rep X.K G H d v) : QE X g e (rC d) :=
  QE.of (t := fun _ => tC v) (fun _ _ => h) fun τ vs ρ Φ Ξ σ H S hw => ⟨.fr true d, ρ, S.pushF (r _ _), hw⟩
theorem qi {i : Int} {j pos} : QE X g (.Constant (.int i) j pos) (rC (.int i)) := qc pe_int fun _ _ => rfl
theorem qb {b j pos} : QE X g (.Constant (.bool b) j pos) (rC (.bl b)) := qc pe_bl fun _ _ => rfl
theorem qn {j pos} : QE X g (.Constant .none j pos) (rC .non) := qc pe_non fun _ _ => rfl
theorem qs {x j pos} : QE X g (.Constant (.str x) j pos) (rC (.str x)) := qc pe_str fun _ _ => rfl
/-! ### arguments -/
theorem qa_nil : QA X g [] rNil := QA.of (t := fun _ => tNil) (fun _ _ => pa_nil) fun τ vs ρ Φ Ξ σ H S hw => ⟨[], ρ, rfl, S, hw⟩
theorem qa_cons (ha : QE X g e p) (hr : QA X g es ps) (hs : starEach (e :: es) X.env = (false, eval e X.env) :: starEach es X.env := by rfl) : QA X g (e :: es) (rCons p ps) := by
  refine QA.of (fun Ξ tk => pa_cons (ha.pe tk) (hr.pa tk) hs) fun τ vs ρ Φ Ξ σ H S hw => ?_
  refine ⟨τ, vs, ρ, _, S, hw, fun sv ρ1 v H1 S1 h1 => ?_⟩
  refine ⟨sv :: τ, v :: vs, ρ1, _, S1, h1, fun svs ρ2 us H2 hl S2 h2 => ?_⟩
  exact ⟨sv :: svs, ρ2, by simp [hl], S2.lift hl, h2⟩
end
end Q

namespace Q
open PySem PySem.Spec PyProof.Rows L2
/-! ### what is seen of a value -/
def ViewR (K : PySem.W.Frag) (g : Gh) (H : Hp) (m : Bool) : D → V → Prop
  | .lst xs, v => ∃ a vs, v = .ref a ∧ Rd H a (.lst vs) ∧ Reps K (g.gm m) H xs vs
  | .dk kvs, v => ∃ a kv, v = .ref a ∧ Rd H a (.dK kv) ∧ Repk K (g.gm m) H kvs kv
  | .obj C fs, v => ∃ a dx fv, v = .ref a ∧ Rd H a (.ins C dx fv) ∧ Repf K (g.gm m) H fs fv
  | d, v => Rep K (g.gm m) H d v
theorem line_eq : sizeLine = line := sizeLine_eq
section
variable {K : PySem.W.Frag} {g : Gh} {ρ : PSt} {σ : L2.St} {τ : List SV} {vs : List V} {H : Hp} {sv : SV} {v : V} {m : Bool} {d : D}
theorem ViewR.of (h : Rep K (g.gm m) H d v) : ViewR K g H m d v := by
  cases d with
  | lst xs => obtain ⟨a, vs, e, f, r⟩ := h; exact ⟨a, vs, e, f.rd, r⟩
  | dk xs => obtain ⟨a, vs, e, f, r⟩ := h; exact ⟨a, vs, e, f.rd, r⟩
  | obj C xs => obtain ⟨a, dx, vs, e, f, r⟩ := h; exact ⟨a, dx, vs, e, f.rd, r⟩
  | _ => exact h
theorem view0_ok (h : SVR K g H σ sv (some v)) (e : sv.view0 = some (m, d)) : ViewR K g H m d v := by
  cases sv with
  | fr m' x => cases e; obtain ⟨u, e1, r⟩ := h; cases e1; exact .of r
  | ol m' xs => cases e; obtain ⟨a, ws, e1, c, r⟩ := h; cases e1; exact ⟨a, ws, rfl, .inl c, r⟩
  | od m' xs => cases e; obtain ⟨a, ws, e1, c, r⟩ := h; cases e1; exact ⟨a, ws, rfl, .inl c, r⟩
  | oo m' C xs => cases e; obtain ⟨a, dx, ws, e1, c, r⟩ := h; cases e1; exact ⟨a, dx, ws, rfl, .inl c, r⟩
  | sto a => cases e; exact Option.some.inj h.1
  | so a kvs => cases e; obtain ⟨e1, kw, c, r⟩ := h; cases e1; exact ⟨a, kw, rfl, .inl c, Repk.mono (fun _ _ z => Bool.noConfusion z) .refl _ _ r⟩
  | no => cases e
  | bor i => cases e
theorem view_ok (S : SR K g ρ σ τ vs H) (h : SVR K g H σ sv (some v)) (e : sv.view ρ = some (m, d)) : ViewR K g H m d v := by
  cases sv with
  | bor i =>
    have e' : (match ρ[i]? with
      | some sv => sv.view0
      | none => none) = some (m, d) := e
    cases q : ρ[i]? with
    | none => rw [q] at e'; cases e'
    | some sv =>
      rw [q] at e'
      have hv := S.borSlot h q (fun z => by subst z; cases e')
      obtain ⟨u, hu, z, _⟩ := S.slot q
      rw [hv] at hu
      cases hu
      exact view0_ok z e'
  | _ => exact view0_ok h e
/-! ### new objects -/
theorem SR.free (S : SR K g ρ σ τ vs H) {p : Addr} (hp : H p = none) : g.B p = none := S.keep.live p hp
theorem SR.newOwn {p : Addr} {o : HO} (S : SR K g ρ σ τ vs H) (hp : H p = none) (h : SVR K g (upd H p o) σ sv (some (.ref p))) : SR K g ρ σ (sv :: τ) (.ref p :: vs) (upd H p o) := by
  refine (S.new hp).push h fun a e => ?_
  have ea : p = a := by
    cases sv <;> first | (cases e; rfl) | cases e
  subst ea
  refine ⟨.inl (S.free hp), fun q hq z => ?_⟩
  obtain ⟨_, u, e1, _⟩ := svr_own (S.all q hq) z
  rw [hp] at e1
  cases e1
theorem SR.newList {p : Addr} {xs : List D} {ws : List V} (S : SR K g ρ σ τ vs H) (hp : H p = none) (r : Reps K (g.gm m) H xs ws) : SR K g ρ σ (.ol m xs :: τ) (.ref p :: vs) (upd H p (.lst ws)) :=
  S.newOwn hp ⟨p, ws, rfl, upd_same, Reps.mono (fun _ z => z) (stab_new hp) _ _ r⟩
theorem SR.newTup {p : Addr} {xs : List D} {ws : List V} (S : SR K g ρ σ τ vs H) (hp : H p = none) (r : Reps K (g.gm m) H xs ws) : SR K g ρ σ (.fr m (.tup xs) :: τ) (.ref p :: vs) (upd H p (.tup ws)) :=
  (S.new hp).pushF ⟨p, ws, rfl, SqT.of upd_same, Reps.mono (fun _ z => z) (stab_new hp) _ _ r⟩
end
/-! ### two operands -/
def OpRd (X : Cx) (g : Gh) (r : R2) (o : Op2) : Prop := ∀ (σ : L2.St) (τ : List SV) (vs : List V) (ρ : PSt) (H : Hp) (x y : V) (m1 m2 : Bool) (d1 d2 : D) (k : SV → Prop) (Q : VK), SR X.K g ρ σ τ vs H → ViewR X.K g H m1 d1 x → ViewR X.K g H m2 d2 y → o m1 d1 m2 d2 k →
  (∀ sv z H', SR X.K g ρ σ (sv :: τ) (z :: vs) H' → k sv → Q z H') → r x y H Q
section
variable {X : Cx} {g : Gh} {a b e : Expr} {es : List Expr} {pa pb p : RE} {ps : RA} {r : R2} {o : Op2} {pos : Pos}
theorem op2_rd (hr : OpRd X g r o) {Ξ : RX} {τ : List SV} {vs : List V} {ρ : PSt} {Φ : RK} {σ : L2.St} {H : Hp} (S : SR X.K g ρ σ τ vs H) (hw : rOp2 o pa pb ρ Φ Ξ) :
    tOp r (tqe X g pa Ξ) (tqe X g pb Ξ) σ H fun v H' => ∃ sv ρ', SR X.K g ρ' σ (sv :: τ) (v :: vs) H' ∧ Φ sv ρ' := by
  refine ⟨τ, vs, ρ, _, S, hw, fun s1 ρ1 x H1 S1 h1 => ?_⟩
  refine ⟨s1 :: τ, x :: vs, ρ1, _, S1, h1, fun s2 ρ2 y H2 S2 h2 => ?_⟩
  obtain ⟨m1, d1, m2, d2, e1, e2, q⟩ := kV2_ok h2
  have v2 := view_ok S2 S2.top e2
  have v1 := view_ok S2 S2.pop.top e1
  exact hr σ τ vs ρ2 H2 x y m1 m2 d1 d2 _ _ S2.pop.pop v1 v2 q fun sv z H' S' k => ⟨sv, ρ2, S', k⟩
theorem q_op {op : Operator} (ho : OpR X (binaryOp op) r) (hr : OpRd X g r o) (ha : QE X g a pa) (hb : QE X g b pb) : QE X g (.BinOp a op b pos) (rOp2 o pa pb) :=
  QE.of (fun Ξ tk => pe_op ho (ha.pe tk) (hb.pe tk)) fun τ vs ρ Φ Ξ σ H S hw => op2_rd hr S hw
theorem q_cmp {op : CmpOp} (ho : OpR X (compareOp op) r) (hr : OpRd X g r o) (ha : QE X g a pa) (hb : QE X g b pb) (hm : behindInMarks op b = false) : QE X g (.Compare a [op] [b] pos) (rOp2 o pa pb) :=
  QE.of (fun Ξ tk => pe_cmpR ho (ha.pe tk) (hb.pe tk) hm) fun τ vs ρ Φ Ξ σ H S hw => op2_rd hr S hw
theorem SR.bl {K : PySem.W.Frag} {ρ : PSt} {σ : L2.St} {τ : List SV} {vs : List V} {H : Hp} {m c : Bool} {v : V} (S : SR K g ρ σ (.fr m (.bl c) :: τ) (v :: vs) H) : v = .bl c := by
  obtain ⟨u, e, r⟩ := S.top
  cases e
  exact r
/-- an expression that gives True or False, as a test -/
theorem q_cmpT {op : CmpOp} (ho : OpR X (compareOp op) r) (hr : OpRd X g r o) (ha : QE X g a pa) (hb : QE X g b pb) (hm : behindInMarks op b = false) : QT X g (.Compare a [op] [b] pos) (rB (rOp2 o pa pb)) := by
  refine QT.of (fun Ξ tk => pt_cmpR ho (ha.pe tk) (hb.pe tk) hm) fun τ vs ρ Φ Ξ σ H S hw => ?_
  refine ⟨τ, vs, ρ, _, S, hw, fun s1 ρ1 x H1 S1 h1 => ?_⟩
  refine ⟨s1 :: τ, x :: vs, ρ1, _, S1, h1, fun s2 ρ2 y H2 S2 h2 => ?_⟩
  obtain ⟨m1, d1, m2, d2, e1, e2, q⟩ := kV2_ok h2
  have v2 := view_ok S2 S2.top e2
  have v1 := view_ok S2 S2.pop.top e1
  refine hr σ τ vs ρ2 H2 x y m1 m2 d1 d2 _ _ S2.pop.pop v1 v2 q fun sv z H' S' k => ?_
  obtain ⟨m, c, rfl, q⟩ := kB_ok k
  exact ⟨c, S'.bl, ρ2, S'.pop, q⟩
theorem q_val (h : QE X g e p) (he : ∀ whole, isTrue e X.env whole = (do let v ← whole; standAt e.pos; holding [v] (truthy v)) := by intro _; rfl) : QT X g e (rB p) := by
  refine QT.of (fun Ξ tk => pt_val (h.pe tk) he) fun τ vs ρ Φ Ξ σ H S hw => ?_
  refine ⟨τ, vs, ρ, _, S, hw, fun sv ρ1 x H1 S1 h1 => ?_⟩
  obtain ⟨m, c, rfl, q⟩ := kB_ok h1
  exact ⟨c, S1.bl, ρ1, S1.pop, q⟩
/-! ### the operators of ints, texts -/
theorem view_int {K : PySem.W.Frag} {H : Hp} {m : Bool} {i : Int} {v : V} (h : ViewR K g H m (.int i) v) : v = .int i := h
theorem view_str {K : PySem.W.Frag} {H : Hp} {m : Bool} {x : Str} {v : V} (h : ViewR K g H m (.str x) v) : v = .str x := h
theorem rd_int {C : Int → Int → Prop} {f : Int → Int → Int} {C' : Int → Int → Prop} (hc : ∀ i j, C' i j → C i j) : OpRd X g (rI C fun i j => .int (f i j)) (oInt f C') := by
  intro σ τ vs ρ H x y m1 m2 d1 d2 k Q S v1 v2 h kk
  unfold oInt at h
  split at h
  · obtain ⟨c, q⟩ := h
    cases view_int v1
    cases view_int v2
    exact ⟨_, _, rfl, rfl, hc _ _ c, kk _ _ _ (S.pushF (m := true) (d := .int (f _ _)) rfl) q⟩
  · exact h.elim
theorem rd_cmpI {f : Int → Int → Bool} : OpRd X g (rI0 fun i j => .bl (f i j)) (oCmpI f) := by
  intro σ τ vs ρ H x y m1 m2 d1 d2 k Q S v1 v2 h kk
  unfold oCmpI at h
  split at h
  · cases view_int v1
    cases view_int v2
    exact ⟨_, _, rfl, rfl, kk _ _ _ (S.pushF (m := true) (d := .bl (f _ _)) rfl) h⟩
  · exact h.elim
theorem op_subC : OpR X (binaryOp .Sub) (rI (fun _ _ => True) fun i j => .int (i - j)) := fun pins s σ H x y v u Q I rx ry ⟨i, j, e1, e2, _, q⟩ => op_sub pins s σ H x y v u Q I rx ry ⟨i, j, e1, e2, q⟩
theorem q_sub (ha : QE X g a pa) (hb : QE X g b pb) : QE X g (.BinOp a .Sub b pos) (rOp2 oSub pa pb) := q_op op_subC (rd_int fun _ _ h => h) ha hb
theorem q_mul (ha : QE X g a pa) (hb : QE X g b pb) : QE X g (.BinOp a .Mult b pos) (rOp2 oMul pa pb) := q_op op_mul (rd_int fun _ _ h => h) ha hb
theorem q_mod (ha : QE X g a pa) (hb : QE X g b pb) : QE X g (.BinOp a .Mod b pos) (rOp2 oMod pa pb) := q_op op_mod (rd_int fun _ _ h => h) ha hb
theorem op_fdivC : OpR X (binaryOp .FloorDiv) (rI (fun _ j => 0 < j ∧ (j < 1073741824 ∨ j.natAbs.log2 < 9000)) fun i j => .int (i / j)) := fun pins s σ H x y v u Q I rx ry ⟨i, j, e1, e2, c, q⟩ => by
  rcases c.2 with h | h
  · exact op_fdiv pins s σ H x y v u Q I rx ry ⟨i, j, e1, e2, ⟨c.1, h⟩, q⟩
  · exact op_fdivW pins s σ H x y v u Q I rx ry ⟨i, j, e1, e2, ⟨c.1, h⟩, q⟩
theorem q_div (ha : QE X g a pa) (hb : QE X g b pb) : QE X g (.BinOp a .FloorDiv b pos) (rOp2 oDiv pa pb) := q_op op_fdivC (rd_int fun _ _ h => h) ha hb
theorem rd_isN {neg : Bool} : OpRd X g (fun x y H Q => y = .non ∧ Q (.bl (xor neg (decide (x = .non)))) H) (oIs neg) := by
  intro σ τ vs ρ H x y m1 m2 d1 d2 k Q S v1 v2 h kk
  obtain ⟨rfl, q⟩ := h
  refine ⟨v2, kk _ _ _ (S.pushF (m := true) (d := .bl (xor neg d1.isNon)) ?_) q⟩
  have e : d1.isNon = decide (x = .non) := by
    cases d1 with
    | non => cases (show x = V.non from v1); rfl
    | bl b => cases (show x = V.bl b from v1); rfl
    | int b => cases (show x = V.int b from v1); rfl
    | str b => cases (show x = V.str b from v1); rfl
    | ref b => cases (show x = V.ref b from v1); rfl
    | ty b => cases (show x = V.ty b from v1); rfl
    | lst b => obtain ⟨_, _, rfl, _⟩ := v1; rfl
    | tup b => obtain ⟨_, _, rfl, _⟩ := v1; rfl
    | dk b => obtain ⟨_, _, rfl, _⟩ := v1; rfl
    | dt b => obtain ⟨_, _, rfl, _⟩ := v1; rfl
    | obj C b => obtain ⟨_, _, _, rfl, _⟩ := v1; rfl
    | scr b => obtain ⟨_, rfl, _⟩ := v1; rfl
  show V.bl _ = V.bl _
  rw [e]
theorem op_isF : OpR X (compareOp .Is) (fun x y H Q => y = .non ∧ Q (.bl (xor false (decide (x = .non)))) H) := fun pins s σ H x y v u Q I rx ry h => op_isN pins s σ H x y v u Q I rx ry (by simpa using h)
theorem op_isT : OpR X (compareOp .IsNot) (fun x y H Q => y = .non ∧ Q (.bl (xor true (decide (x = .non)))) H) := fun pins s σ H x y v u Q I rx ry h => op_notN pins s σ H x y v u Q I rx ry (by simpa using h)
/-! ### + -/
abbrev rAddQ : R2 := fun x y H Q => ((∃ i j, x = V.int i ∧ y = V.int j ∧ Q (.int (i + j)) H) ∨ (∃ i j, x = V.str i ∧ y = V.str j ∧ i.length + j.length ≤ sizeLine ∧ Q (.str (i ++ j)) H)) ∨
  ∃ l b xs zs, x = V.ref l ∧ y = V.ref b ∧ Rd H l (.lst xs) ∧ Rd H b (.lst zs) ∧ xs.length + zs.length ≤ sizeLine ∧ ∀ p, H p = none → Q (.ref p) (upd H p (.lst (xs ++ zs)))
theorem op_catR : OpR X (binaryOp .Add) (fun x y H Q => ∃ l b xs zs, x = V.ref l ∧ y = V.ref b ∧ Rd H l (.lst xs) ∧ Rd H b (.lst zs) ∧ xs.length + zs.length ≤ sizeLine ∧ ∀ p, H p = none → Q (.ref p) (upd H p (.lst (xs ++ zs)))) := by
  intro pins s σ H x y v u Q I rx ry h
  obtain ⟨l, b, xs, zs, rfl, rfl, h1, h2, hz, q⟩ := h
  cases rx
  cases ry
  obtain ⟨_, i1, n1, r1, e1⟩ := h1.ok I.hok
  obtain ⟨_, i2, n2, r2, e2⟩ := h2.ok I.hok
  have l1 := r1.length
  have l2 := r2.length
  refine PySem.P.add_list e1 e2 ?_ (by rw [List.size_toArray, List.size_toArray]; omega)
  have ea : i1.toArray ++ i2.toArray = (i1 ++ i2).toArray := by simp
  rw [ea]
  refine ⟨.ref _, _, I.lnew (t' := s.toks) (r1.append r2) (by rw [List.length_append]; omega), rfl, ?_⟩
  exact q _ I.fresh
theorem op_addQ : OpR X (binaryOp .Add) rAddQ := (op_add.or op_add_str).or op_catR
theorem rd_add : OpRd X g rAddQ oAdd := by
  intro σ τ vs ρ H x y m1 m2 d1 d2 k Q S v1 v2 h kk
  unfold oAdd at h
  split at h
  · cases view_int v1
    cases view_int v2
    exact .inl (.inl ⟨_, _, rfl, rfl, kk _ _ _ (S.pushF (m := true) (d := .int _) rfl) h⟩)
  · cases view_str v1
    cases view_str v2
    exact .inl (.inr ⟨_, _, rfl, rfl, by rw [line_eq]; exact h.1, kk _ _ _ (S.pushF (m := true) (d := .str _) rfl) h.2⟩)
  · obtain ⟨a, ws, rfl, c, r⟩ := v1
    obtain ⟨b, us, rfl, c2, r2⟩ := v2
    refine .inr ⟨a, b, ws, us, rfl, rfl, c, c2, ?_, fun p hp => kk _ _ _ (S.newList hp (reps_app (Reps.mono (Gh.gm_mono fun h => (Bool.and_eq_true_iff.mp h).1) .refl _ _ r) (Reps.mono (Gh.gm_mono fun h => (Bool.and_eq_true_iff.mp h).2) .refl _ _ r2))) h.2⟩
    rw [line_eq, ← reps_len r, ← reps_len r2]
    exact h.1
  · exact h.elim
theorem q_add (ha : QE X g a pa) (hb : QE X g b pb) : QE X g (.BinOp a .Add b pos) (rOp2 oAdd pa pb) := q_op op_addQ rd_add ha hb
/-! ### == -/
mutual
def D.py : D → PyData
  | .non => .none
  | .bl b => .bool b
  | .int i => .int i
  | .str x => .str x
  | .lst xs => .list (pys xs)
  | .tup xs => .tuple (pys xs)
  | _ => .none
def pys : List D → List PyData
  | [] => []
  | x :: r => D.py x :: pys r
end
mutual
theorem py_lay : ∀ d : D, d.flatd = true → d.py.canLay0 = true
  | .non, _ => by simp only [D.py, PyData.canLay0]
  | .bl _, _ => by simp only [D.py, PyData.canLay0]
  | .int _, _ => by simp only [D.py, PyData.canLay0]
  | .str _, h => by simp only [D.py, PyData.canLay0]; unfold D.flatd at h; exact h
  | .lst xs, h => by
    simp only [D.py, PyData.canLay0]
    exact pys_lay xs (by unfold D.flatd at h; exact h)
  | .tup xs, h => by
    simp only [D.py, PyData.canLay0]
    exact pys_lay xs (by unfold D.flatd at h; exact h)
  | .dk _, h => by unfold D.flatd at h; cases h
  | .dt _, h => by unfold D.flatd at h; cases h
  | .obj _ _, h => by unfold D.flatd at h; cases h
  | .ref _, h => by unfold D.flatd at h; cases h
  | .ty _, h => by unfold D.flatd at h; cases h
  | .scr _, h => by unfold D.flatd at h; cases h
theorem pys_lay : ∀ ds : List D, D.flatd.flats ds = true → PyData.canLayAll0 (pys ds) = true
  | [], _ => by simp only [pys, PyData.canLayAll0]
  | x :: r, h => by
    unfold D.flatd.flats at h
    obtain ⟨h1, h2⟩ := Bool.and_eq_true_iff.mp h
    simp only [pys, PyData.canLayAll0, py_lay x h1, pys_lay r h2, Bool.and_self]
end
mutual
theorem py_dep : ∀ d : D, d.py.depth ≤ d.dep
  | .non => by simp only [D.py, PyData.depth, Nat.zero_le]
  | .bl _ => by simp only [D.py, PyData.depth, Nat.zero_le]
  | .int _ => by simp only [D.py, PyData.depth, Nat.zero_le]
  | .str _ => by simp only [D.py, PyData.depth, Nat.zero_le]
  | .lst xs => by
    have := pys_dep xs
    simp only [D.py, PyData.depth, D.dep]
    omega
  | .tup xs => by
    have := pys_dep xs
    simp only [D.py, PyData.depth, D.dep]
    omega
  | .dk _ => by simp only [D.py, PyData.depth, Nat.zero_le]
  | .dt _ => by simp only [D.py, PyData.depth, Nat.zero_le]
  | .obj _ _ => by simp only [D.py, PyData.depth, Nat.zero_le]
  | .ref _ => by simp only [D.py, PyData.depth, Nat.zero_le]
  | .ty _ => by simp only [D.py, PyData.depth, Nat.zero_le]
  | .scr _ => by simp only [D.py, PyData.depth, Nat.zero_le]
theorem pys_dep : ∀ ds : List D, PyData.depthAll (pys ds) ≤ D.dep.deps ds
  | [] => by simp only [pys, PyData.depthAll, Nat.zero_le]
  | x :: r => by
    have h1 := py_dep x
    have h2 := pys_dep r
    simp only [pys, PyData.depthAll, D.dep.deps]
    omega
end
mutual
theorem py_eqv : ∀ d e : D, d.flatd = true → e.flatd = true → PyData.eqv d.py e.py = D.eqv d e
  | .non, e, _, h => by cases e <;> first | (simp only [D.py, PyData.eqv, D.eqv]; done) | (simp only [D.flatd] at h; cases h)
  | .bl b, e, _, h => by cases e <;> first | (simp only [D.py, PyData.eqv, D.eqv]; done) | (simp only [D.flatd] at h; cases h)
  | .int i, e, _, h => by cases e <;> first | (simp only [D.py, PyData.eqv, D.eqv]; done) | (simp only [D.flatd] at h; cases h)
  | .str x, e, _, h => by cases e <;> first | (simp only [D.py, PyData.eqv, D.eqv]; done) | (simp only [D.flatd] at h; cases h)
  | .lst xs, e, h1, h => by
    cases e with
    | lst ys =>
      simp only [D.py, PyData.eqv, D.eqv]
      exact pys_eqv xs ys (by simp only [D.flatd] at h1; exact h1) (by simp only [D.flatd] at h; exact h)
    | _ => first | (simp only [D.py, PyData.eqv, D.eqv]; done) | (simp only [D.flatd] at h; cases h)
  | .tup xs, e, h1, h => by
    cases e with
    | tup ys =>
      simp only [D.py, PyData.eqv, D.eqv]
      exact pys_eqv xs ys (by simp only [D.flatd] at h1; exact h1) (by simp only [D.flatd] at h; exact h)
    | _ => first | (simp only [D.py, PyData.eqv, D.eqv]; done) | (simp only [D.flatd] at h; cases h)
  | .dk _, _, h, _ => by simp only [D.flatd] at h; cases h
  | .dt _, _, h, _ => by simp only [D.flatd] at h; cases h
  | .obj _ _, _, h, _ => by simp only [D.flatd] at h; cases h
  | .ref _, _, h, _ => by simp only [D.flatd] at h; cases h
  | .ty _, _, h, _ => by simp only [D.flatd] at h; cases h
  | .scr _, _, h, _ => by simp only [D.flatd] at h; cases h
theorem pys_eqv : ∀ xs ys : List D, D.flatd.flats xs = true → D.flatd.flats ys = true → PyData.eqvAll (pys xs) (pys ys) = D.eqv.eqvs xs ys
  | [], [], _, _ => by simp only [pys, PyData.eqvAll, D.eqv.eqvs]
  | [], _ :: _, _, _ => by simp only [pys, PyData.eqvAll, D.eqv.eqvs]
  | _ :: _, [], _, _ => by simp only [pys, PyData.eqvAll, D.eqv.eqvs]
  | x :: xs, y :: ys, h1, h2 => by
    simp only [D.flatd.flats] at h1 h2
    obtain ⟨a1, a2⟩ := Bool.and_eq_true_iff.mp h1
    obtain ⟨b1, b2⟩ := Bool.and_eq_true_iff.mp h2
    simp only [pys, PyData.eqvAll, D.eqv.eqvs, py_eqv x y a1 b1, pys_eqv xs ys a2 b2]
end
mutual
theorem dp_of {G : Addr → Prop} {K : PySem.W.Frag} {H : Hp} : ∀ (d : D) (v : V), d.flatd = true → Rep K G H d v → Dp K H v d.py
  | .non, _, _, r => by cases (show _ = V.non from r); simp only [D.py]; exact .non
  | .bl b, _, _, r => by cases (show _ = V.bl b from r); simp only [D.py]; exact .bl _
  | .int i, _, _, r => by cases (show _ = V.int i from r); simp only [D.py]; exact .int _
  | .str x, _, _, r => by cases (show _ = V.str x from r); simp only [D.py]; exact .str _
  | .lst xs, _, h, r => by
    obtain ⟨a, vs, rfl, f, q⟩ := r
    simp only [D.py]
    exact .lst (.inl f.rd) (dps_of xs vs (by simp only [D.flatd] at h; exact h) q)
  | .tup xs, _, h, r => by
    obtain ⟨a, vs, rfl, f, q⟩ := r
    simp only [D.py]
    exact .tup f (dps_of xs vs (by simp only [D.flatd] at h; exact h) q)
  | .dk _, _, h, _ => by simp only [D.flatd] at h; cases h
  | .dt _, _, h, _ => by simp only [D.flatd] at h; cases h
  | .obj _ _, _, h, _ => by simp only [D.flatd] at h; cases h
  | .ref _, _, h, _ => by simp only [D.flatd] at h; cases h
  | .ty _, _, h, _ => by simp only [D.flatd] at h; cases h
  | .scr _, _, h, _ => by simp only [D.flatd] at h; cases h
theorem dps_of {G : Addr → Prop} {K : PySem.W.Frag} {H : Hp} : ∀ (ds : List D) (vs : List V), D.flatd.flats ds = true → Reps K G H ds vs → DpAll K H vs (pys ds)
  | [], _, _, r => by cases r; simp only [pys]; exact .nil
  | x :: xs, _, h, ⟨v, vs, e, r1, r2⟩ => by
    subst e
    simp only [D.flatd.flats] at h
    obtain ⟨a1, a2⟩ := Bool.and_eq_true_iff.mp h
    simp only [pys]
    exact .cons (dp_of x v a1 r1) (dps_of xs vs a2 r2)
end
theorem dp_view {K : PySem.W.Frag} {H : Hp} {m : Bool} {d : D} {v : V} (h : d.flatd = true) (r : ViewR K g H m d v) : Dp K H v d.py := by
  cases d with
  | lst xs =>
    obtain ⟨a, vs, rfl, f, q⟩ := r
    simp only [D.py]
    exact .lst (.inl f) (dps_of xs vs (by simp only [D.flatd] at h; exact h) q)
  | dk xs => simp only [D.flatd] at h; cases h
  | obj C xs => simp only [D.flatd] at h; cases h
  | _ => exact dp_of (G := g.gm m) _ _ h r
theorem shaped_of {d : D} (h : d.flatd = true) (hd : d.dep ≤ 64) : SeqAt.shaped d.py = true := by
  unfold SeqAt.shaped
  rw [py_lay d h, decide_eq_true (Nat.le_trans (py_dep d) hd)]
  rfl
abbrev rEqQ (K : PySem.W.Frag) : R2 := fun x y H Q => rEq x y H Q ∨ rEqD K x y H Q
abbrev rNeQ (K : PySem.W.Frag) : R2 := fun x y H Q => rNe x y H Q ∨ rNeD K x y H Q
theorem rd_eq : OpRd X g (rEqQ X.K) (oEq false) := by
  intro σ τ vs ρ H x y m1 m2 d1 d2 k Q S v1 v2 h kk
  unfold oEq at h
  split at h
  · cases view_str v1
    cases view_str v2
    rename_i a b
    refine .inl ⟨rfl, kk _ _ _ (S.pushF (m := true) (d := .bl _) ?_) h⟩
    show V.bl _ = V.bl _
    rw [dec_str]
    simp
  · obtain ⟨⟨f1, f2, e1, e2⟩, q⟩ := h
    refine .inr ⟨_, _, dp_view f1 v1, dp_view f2 v2, shaped_of f1 e1, shaped_of f2 e2, ?_⟩
    rw [py_eqv _ _ f1 f2]
    exact kk _ _ _ (S.pushF (m := true) (d := .bl _) (by show V.bl _ = V.bl _; simp)) q
theorem rd_ne : OpRd X g (rNeQ X.K) (oEq true) := by
  intro σ τ vs ρ H x y m1 m2 d1 d2 k Q S v1 v2 h kk
  unfold oEq at h
  split at h
  · cases view_str v1
    cases view_str v2
    rename_i a b
    refine .inl ⟨rfl, kk _ _ _ (S.pushF (m := true) (d := .bl _) ?_) h⟩
    show V.bl _ = V.bl _
    rw [dec_str]
    simp
  · obtain ⟨⟨f1, f2, e1, e2⟩, q⟩ := h
    refine .inr ⟨_, _, dp_view f1 v1, dp_view f2 v2, shaped_of f1 e1, shaped_of f2 e2, ?_⟩
    rw [py_eqv _ _ f1 f2]
    exact kk _ _ _ (S.pushF (m := true) (d := .bl _) (by show V.bl _ = V.bl _; simp)) q
theorem op_eqQ (hu : X.A.units + 64 < cLine) : OpR X (compareOp .Eq) (rEqQ X.K) := op_eq.or (op_eqD hu)
theorem op_neQ (hu : X.A.units + 64 < cLine) : OpR X (compareOp .NotEq) (rNeQ X.K) := op_ne.or (op_neD hu)
end
end Q

namespace Q
open PySem PySem.Spec PyProof.Rows L2
section
variable {X : Cx} {g : Gh} {a b e c : Expr} {es rest : List Expr} {pa pb p q : RE} {ta tb tc : RT} {ps : RA} {pos : Pos} {Ξ : RX}
/-! ### and, or, not -/
theorem qw_and1 (ha : QT X g a ta) : QW X g (.BoolOp .And [a] pos) ta :=
  QW.of (fun Ξ tk => pw_and1 (ha.pt tk)) fun τ vs ρ Φ Ξ σ H S hw => ⟨τ, vs, ρ, Φ, S, hw, fun b ρ' H' S' q => ⟨ρ', S', q⟩⟩
theorem qw_or1 (ha : QT X g a ta) : QW X g (.BoolOp .Or [a] pos) ta :=
  QW.of (fun Ξ tk => pw_or1 (ha.pt tk)) fun τ vs ρ Φ Ξ σ H S hw => ⟨τ, vs, ρ, Φ, S, hw, fun b ρ' H' S' q => ⟨ρ', S', q⟩⟩
theorem qw_and (ha : QT X g a ta) (hb : QW X g (.BoolOp .And (b :: rest) pos) tb) : QW X g (.BoolOp .And (a :: b :: rest) pos) (rAnd ta tb) := by
  refine QW.of (fun Ξ tk => pw_and (ha.pt tk) (hb.pw tk)) fun τ vs ρ Φ Ξ σ H S hw => ⟨τ, vs, ρ, _, S, hw, fun c ρ' H' S' q => ?_⟩
  cases c with
  | true => exact ⟨τ, vs, ρ', Φ, S', q.t rfl, fun b ρ' H' S' q => ⟨ρ', S', q⟩⟩
  | false => exact ⟨ρ', S', q.f rfl⟩
theorem qw_or (ha : QT X g a ta) (hb : QW X g (.BoolOp .Or (b :: rest) pos) tb) : QW X g (.BoolOp .Or (a :: b :: rest) pos) (rOr ta tb) := by
  refine QW.of (fun Ξ tk => pw_or (ha.pt tk) (hb.pw tk)) fun τ vs ρ Φ Ξ σ H S hw => ⟨τ, vs, ρ, _, S, hw, fun c ρ' H' S' q => ?_⟩
  cases c with
  | false => exact ⟨τ, vs, ρ', Φ, S', q.f rfl, fun b ρ' H' S' q => ⟨ρ', S', q⟩⟩
  | true => exact ⟨ρ', S', q.t rfl⟩
theorem qt_not (ha : QT X g a ta) : QT X g (.UnaryOp .Not a pos) (rNot ta) :=
  QT.of (fun Ξ tk => pt_not (ha.pt tk)) fun τ vs ρ Φ Ξ σ H S hw => ⟨τ, vs, ρ, _, S, hw, fun b ρ' H' S' q => ⟨ρ', S', q⟩⟩
theorem q_one {op} (h : QE X g a p) : QE X g (.BoolOp op [a] pos) p :=
  QE.of (fun Ξ tk => pe_one (h.pe tk)) fun τ vs ρ Φ Ξ σ H S hw => ⟨τ, vs, ρ, Φ, S, hw, fun sv ρ' v H' S' q => ⟨sv, ρ', S', q⟩⟩
theorem q_and (ha : QE X g a pa) (hb : QE X g (.BoolOp .And (b :: rest) pos) pb) : QE X g (.BoolOp .And (a :: b :: rest) pos) (rAndV pa pb) := by
  refine QE.of (fun Ξ tk => pe_and (ha.pe tk) (hb.pe tk)) fun τ vs ρ Φ Ξ σ H S hw => ⟨τ, vs, ρ, _, S, hw, fun sv ρ' v H' S' q => ?_⟩
  obtain ⟨m, c, rfl, q⟩ := kB_ok q
  refine ⟨c, S'.bl, ?_⟩
  cases c with
  | true => exact ⟨τ, vs, ρ', Φ, S'.pop, q.t rfl, fun sv ρ' v H' S' q => ⟨sv, ρ', S', q⟩⟩
  | false => exact ⟨_, ρ', S'.pop.pushF (m := true) (d := .bl false) rfl, q.f rfl⟩
theorem q_or (ha : QE X g a pa) (hb : QE X g (.BoolOp .Or (b :: rest) pos) pb) : QE X g (.BoolOp .Or (a :: b :: rest) pos) (rOrV pa pb) := by
  refine QE.of (fun Ξ tk => pe_or (ha.pe tk) (hb.pe tk)) fun τ vs ρ Φ Ξ σ H S hw => ⟨τ, vs, ρ, _, S, hw, fun sv ρ' v H' S' q => ?_⟩
  obtain ⟨m, c, rfl, q⟩ := kB_ok q
  refine ⟨c, S'.bl, ?_⟩
  cases c with
  | false => exact ⟨τ, vs, ρ', Φ, S'.pop, q.f rfl, fun sv ρ' v H' S' q => ⟨sv, ρ', S', q⟩⟩
  | true => exact ⟨_, ρ', S'.pop.pushF (m := true) (d := .bl true) rfl, q.t rfl⟩
theorem q_not (ha : QE X g a pa) : QE X g (.UnaryOp .Not a pos) (rNotV pa) := by
  refine QE.of (fun Ξ tk => pe_not (ha.pe tk)) fun τ vs ρ Φ Ξ σ H S hw => ⟨τ, vs, ρ, _, S, hw, fun sv ρ' v H' S' q => ?_⟩
  obtain ⟨m, c, rfl, q⟩ := kB_ok q
  exact ⟨c, S'.bl, _, ρ', S'.pop.pushF (m := true) (d := .bl (!c)) rfl, q⟩
theorem q_ifE (hc : QT X g c tc) (ha : QE X g a pa) (hb : QE X g b pb) : QE X g (.IfExp c a b pos) (rIfE tc pa pb) := by
  refine QE.of (fun Ξ tk => pe_ifExp (hc.pt tk) (ha.pe tk) (hb.pe tk)) fun τ vs ρ Φ Ξ σ H S hw => ⟨τ, vs, ρ, _, S, hw, fun c ρ' H' S' q => ?_⟩
  cases c with
  | true => exact ⟨τ, vs, ρ', Φ, S', q.t rfl, fun sv ρ' v H' S' q => ⟨sv, ρ', S', q⟩⟩
  | false => exact ⟨τ, vs, ρ', Φ, S', q.f rfl, fun sv ρ' v H' S' q => ⟨sv, ρ', S', q⟩⟩
/-! ### displays -/
theorem q_tup {k} (h : QA X g es ps) : QE X g (.Tuple es k pos) (rTup ps) := by
  refine QE.of (fun Ξ tk => pe_tup (h.paT tk)) fun τ vs ρ Φ Ξ σ H S hw => ⟨τ, vs, ρ, _, S, hw, fun m ds ρ' us H' S' r q => ?_⟩
  exact ⟨by rw [line_eq, ← reps_len r]; exact q.1, fun p hp => ⟨_, ρ', S'.newTup hp r, q.2⟩⟩
theorem q_lst (h : QA X g es ps) : QE X g (.List es pos) (rLst ps) := by
  refine QE.of (fun Ξ tk => pe_lst (h.paT tk)) fun τ vs ρ Φ Ξ σ H S hw => ⟨τ, vs, ρ, _, S, hw, fun m ds ρ' us H' S' r q => ?_⟩
  exact ⟨by rw [line_eq, ← reps_len r]; exact q.1, fun p hp => ⟨_, ρ', S'.newList hp r, q.2⟩⟩
end
/-! ### statements -/
section
variable {X : Cx} {g : Gh} {st : Stmt} {sts : List Stmt} {e c : Expr} {p : RE} {ct : RT} {q r : RS} {pos : Pos} {Ξ : RX} {i : Nat} {x : Str}
def endsQ (X : Cx) (g : Gh) (τ : List SV) (vs : List V) (D : PEnds) : Ends where
  nx := fun σ H => ∃ ρ, SR X.K g ρ σ τ vs H ∧ D.nx ρ
  rt := fun v H => ∃ σ sv ρ, SR X.K g ρ σ (sv :: τ) (v :: vs) H ∧ D.rt sv ρ
  bk := fun σ H => ∃ ρ, SR X.K g ρ σ τ vs H ∧ D.bk ρ
  ct := fun σ H => ∃ ρ, SR X.K g ρ σ τ vs H ∧ D.ct ρ
theorem SP.sq {pins : List (Addr × Obj)} {τ : List SV} {vs : List V} {D : PEnds} {f : Flow} {s' : Shared} (h : SP X pins (endsQ X g τ vs D) f s') : SQ X g pins τ vs D f s' := by
  cases f with
  | next => obtain ⟨σ', H', I, ρ, S, q⟩ := h; exact ⟨σ', H', ρ, I, S, q⟩
  | brk => obtain ⟨σ', H', I, ρ, S, q⟩ := h; exact ⟨σ', H', ρ, I, S, q⟩
  | cont => obtain ⟨σ', H', I, ρ, S, q⟩ := h; exact ⟨σ', H', ρ, I, S, q⟩
  | ret u => obtain ⟨v, σ', H', I, rv, σ'', sv, ρ, S, q⟩ := h; exact ⟨v, σ', H', sv, ρ, σ'', I, rv, S, q⟩
theorem QS.of {t : RX → TS} (h : ∀ Ξ, Takes X (WQ X g Ξ) → PS X st (t Ξ)) (hp : ∀ τ vs ρ D σ H, NoBor τ → SR X.K g ρ σ τ vs H → q D ρ → t D.ex (endsQ X g τ vs D) σ H) : QS X g st q :=
  ⟨fun pins s σ H τ vs ρ D nb tk I S hw => thn ((h _ tk).run pins s σ H _ I (hp τ vs ρ D σ H nb S hw)) fun f s' z => SP.sq z⟩
theorem QSs.of {t : RX → TS} (h : ∀ Ξ, Takes X (WQ X g Ξ) → PSs X sts (t Ξ)) (hp : ∀ τ vs ρ D σ H, NoBor τ → SR X.K g ρ σ τ vs H → q D ρ → t D.ex (endsQ X g τ vs D) σ H) : QSs X g sts q :=
  ⟨fun pins s σ H τ vs ρ D nb tk I S hw => thn ((h _ tk).run pins s σ H _ I (hp τ vs ρ D σ H nb S hw)) fun f s' z => SP.sq z⟩
def tqs (X : Cx) (g : Gh) (p : RS) (Ξ : RX) : TS := fun E σ H => ∃ τ vs ρ D, NoBor τ ∧ D.ex = Ξ ∧ SR X.K g ρ σ τ vs H ∧ p D ρ ∧
  (∀ ρ' σ' H', SR X.K g ρ' σ' τ vs H' → D.nx ρ' → E.nx σ' H') ∧ (∀ sv ρ' v σ' H', SR X.K g ρ' σ' (sv :: τ) (v :: vs) H' → D.rt sv ρ' → E.rt v H') ∧
  (∀ ρ' σ' H', SR X.K g ρ' σ' τ vs H' → D.bk ρ' → E.bk σ' H') ∧ (∀ ρ' σ' H', SR X.K g ρ' σ' τ vs H' → D.ct ρ' → E.ct σ' H')
theorem sq_sp {pins : List (Addr × Obj)} {τ : List SV} {vs : List V} {D : PEnds} {E : Ends} {f : Flow} {s' : Shared} (h : SQ X g pins τ vs D f s') (h1 : ∀ ρ' σ' H', SR X.K g ρ' σ' τ vs H' → D.nx ρ' → E.nx σ' H') (h2 : ∀ sv ρ' v σ' H', SR X.K g ρ' σ' (sv :: τ) (v :: vs) H' → D.rt sv ρ' → E.rt v H')
    (h3 : ∀ ρ' σ' H', SR X.K g ρ' σ' τ vs H' → D.bk ρ' → E.bk σ' H') (h4 : ∀ ρ' σ' H', SR X.K g ρ' σ' τ vs H' → D.ct ρ' → E.ct σ' H') : SP X pins E f s' := by
  cases f with
  | next => obtain ⟨σ', H', ρ, I, S, q⟩ := h; exact ⟨σ', H', I, h1 _ _ _ S q⟩
  | brk => obtain ⟨σ', H', ρ, I, S, q⟩ := h; exact ⟨σ', H', I, h3 _ _ _ S q⟩
  | cont => obtain ⟨σ', H', ρ, I, S, q⟩ := h; exact ⟨σ', H', I, h4 _ _ _ S q⟩
  | ret u => obtain ⟨v, σ', H', sv, ρ, σ'', I, rv, S, q⟩ := h; exact ⟨v, σ', H', I, rv, h2 _ _ _ _ _ S q⟩
theorem QS.ps (h : QS X g st q) (tk : Takes X (WQ X g Ξ)) : PS X st (tqs X g q Ξ) := ⟨fun pins s σ H E I ⟨τ, vs, ρ, D, nb, he, S, hp, h1, h2, h3, h4⟩ => by
  subst he
  exact thn (h.run pins s σ H τ vs ρ D nb tk I S hp) fun f s' z => sq_sp z h1 h2 h3 h4⟩
theorem QSs.pss (h : QSs X g sts q) (tk : Takes X (WQ X g Ξ)) : PSs X sts (tqs X g q Ξ) := ⟨fun pins s σ H E I ⟨τ, vs, ρ, D, nb, he, S, hp, h1, h2, h3, h4⟩ => by
  subst he
  exact thn (h.run pins s σ H τ vs ρ D nb tk I S hp) fun f s' z => sq_sp z h1 h2 h3 h4⟩
/-- the usual witness -/
theorem tqs_in {τ : List SV} {vs : List V} {ρ : PSt} {σ : L2.St} {H : Hp} {D : PEnds} (nb : NoBor τ) (S : SR X.K g ρ σ τ vs H) (h : q D ρ) : tqs X g q D.ex (endsQ X g τ vs D) σ H :=
  ⟨τ, vs, ρ, D, nb, rfl, S, h, fun ρ' _ _ S' q => ⟨ρ', S', q⟩, fun sv ρ' v σ' _ S' q => ⟨σ', sv, ρ', S', q⟩, fun ρ' _ _ S' q => ⟨ρ', S', q⟩, fun ρ' _ _ S' q => ⟨ρ', S', q⟩⟩
theorem qs_nil : QSs X g [] rNext := QSs.of (t := fun _ => tNext) (fun _ _ => pss_nil) fun τ vs ρ D σ H nb S hw => ⟨ρ, S, hw⟩
theorem qs_cons (h1 : QS X g st q) (h2 : QSs X g sts r) : QSs X g (st :: sts) (rSeq q r) := by
  refine QSs.of (fun Ξ tk => pss_cons (h1.ps tk) (h2.pss tk)) fun τ vs ρ D σ H nb S hw => ?_
  refine ⟨τ, vs, ρ, { D with nx := r D }, nb, rfl, S, hw, fun ρ' σ' H' S' q => tqs_in nb S' q, fun sv ρ' v σ' _ S' q => ⟨σ', sv, ρ', S', q⟩, fun ρ' _ _ S' q => ⟨ρ', S', q⟩, fun ρ' _ _ S' q => ⟨ρ', S', q⟩⟩
theorem qs_one (h1 : QS X g st q) : QSs X g [st] q :=
  QSs.of (fun Ξ tk => pss_one (h1.ps tk)) fun τ vs ρ D σ H nb S hw => tqs_in nb S hw
theorem q_pass : QS X g (.Pass pos) rNext := QS.of (t := fun _ => tNext) (fun _ _ => ps_pass) fun τ vs ρ D σ H nb S hw => ⟨ρ, S, hw⟩
theorem q_break : QS X g (.Break pos) rBreak := QS.of (t := fun _ => tBreak) (fun _ _ => ps_break) fun τ vs ρ D σ H nb S hw => ⟨ρ, S, hw⟩
theorem q_cont : QS X g (.Continue pos) rCont := QS.of (t := fun _ => tCont) (fun _ _ => ps_continue) fun τ vs ρ D σ H nb S hw => ⟨ρ, S, hw⟩
theorem q_expr (he : QE X g e p) (hs : swapsWith e none pos.line X.env = pure false := by rfl) : QS X g (.Expr e pos) (rDrop p) :=
  QS.of (fun Ξ tk => ps_expr (he.pe tk) hs) fun τ vs ρ D σ H nb S hw => ⟨τ, vs, ρ, _, S, hw, fun sv ρ' v H' S' q => ⟨ρ', S'.pop, q⟩⟩
theorem q_ret (he : QE X g e p) : QS X g (.Return (some e) pos) (rRet p) :=
  QS.of (fun Ξ tk => ps_ret (he.pe tk)) fun τ vs ρ D σ H nb S hw => ⟨τ, vs, ρ, _, S, hw, fun sv ρ' v H' S' q => ⟨σ, sv, ρ', S', q⟩⟩
theorem q_retN : QS X g (.Return none pos) rRetN :=
  QS.of (t := fun _ => tRetN) (fun _ _ => ps_retN) fun τ vs ρ D σ H nb S hw => ⟨σ, _, ρ, S.pushF (m := true) (d := .non) rfl, hw⟩
theorem q_if {a b : List Stmt} (hc : QT X g c ct) (ha : QSs X g a q) (hb : QSs X g b r) : QS X g (.If c a b pos) (rIf ct q r) := by
  refine QS.of (fun Ξ tk => ps_if (hc.pt tk) (ha.pss tk) (hb.pss tk)) fun τ vs ρ D σ H nb S hw => ⟨τ, vs, ρ, _, S, hw, fun b ρ' H' S' z => ?_⟩
  cases b with
  | true => exact tqs_in nb S' (z.t rfl)
  | false => exact tqs_in nb S' (z.f rfl)
def tqeA (X : Cx) (g : Gh) (p : RE) (Ξ : RX) : TE := fun σ H Q => ∃ τ vs ρ Φ, SR X.K g ρ σ τ vs H ∧ p ρ (kA Φ) Ξ ∧ ∀ sv ρ' v H', sv.isBor = false → SR X.K g ρ' σ (sv :: τ) (v :: vs) H' → Φ sv ρ' → Q v H'
theorem QE.peA (h : QE X g e p) (tk : Takes X (WQ X g Ξ)) : PE X e (tqeA X g p Ξ) := ⟨fun pins s σ H Q I ⟨τ, vs, ρ, Φ, S, hp, k⟩ =>
  thn (h.run pins s σ H τ vs ρ _ Ξ tk I S hp) fun u s' ⟨v, H', sv, ρ', I', r, S', q⟩ => by
    cases sv with
    | bor i =>
      obtain ⟨m, d, ρ2, e, q⟩ := kT_ok (show kT (fun m d ρ2 => Φ (.fr m d) ρ2) (.bor i) ρ' from q)
      obtain ⟨H2, I2, S2⟩ := take_ok I' S' e
      exact ⟨v, H2, I2, r, k _ ρ2 v H2 rfl S2 q⟩
    | _ => exact ⟨v, H', I', r, k _ ρ' v H' rfl S' q⟩⟩
theorem q_set {pos' : Pos} (hN : X.N.Nodup) (hi : X.N[i]? = some x) (hx : Loc X.env.scope x) (he : QE X g e p) (hs : swapsWith e (some (.Name x pos')) pos.line X.env = pure false := by rfl) (hf : X.fn x = true ∨ X.env.scope.names.lookup x = some .local := by first | exact .inl rfl | exact .inr rfl | assumption) :
    QS X g (.Assign [.Name x pos'] e pos) (rSet i p) :=
  QS.of (fun Ξ tk => ps_set hN hi hx (he.peA tk) hs hf) fun τ vs ρ D σ H nb S hw => ⟨τ, vs, ρ, _, S, hw, fun sv ρ' v H' hb S' q => ⟨ρ'.set i sv, S'.assign hb nb, q⟩⟩
end
end Q

namespace Q
open PySem PySem.Spec PyProof.Rows L2
theorem storeOk_of {K : PySem.W.Frag} {S : Addr → Prop} {H : Hp} {a : Addr} {kvs : List (Ky × D)} {kw : List (Ky × V)} (c : H a = some (.dK kw)) (r : Repk K S H kvs kw) (is : isSto kvs) : StoreOk K S H a := by
  obtain ⟨ns, pos, now, left, seed, turn, great, rfl, h⟩ := is
  obtain ⟨⟨k1, v1⟩, _, rfl, r1, ⟨k2, v2⟩, _, rfl, r2, ⟨k3, v3⟩, _, rfl, r3, ⟨k4, v4⟩, _, rfl, r4, ⟨k5, v5⟩, _, rfl, r5, ⟨k6, v6⟩, _, rfl, r6, ⟨k7, v7⟩, _, rfl, r7, r⟩ := r
  cases r
  obtain ⟨e1, q1⟩ := (show k1 = _ ∧ Rep K _ H (.lst (ns.map .int)) v1 from r1)
  obtain ⟨e2, q2⟩ := (show k2 = _ ∧ v2 = V.int pos from r2)
  obtain ⟨e3, q3⟩ := (show k3 = _ ∧ v3 = V.int now from r3)
  obtain ⟨e4, q4⟩ := (show k4 = _ ∧ v4 = V.int left from r4)
  obtain ⟨e5, q5⟩ := (show k5 = _ ∧ v5 = V.bl great from r5)
  obtain ⟨e6, q6⟩ := (show k6 = _ ∧ v6 = V.int seed from r6)
  obtain ⟨e7, q7⟩ := (show k7 = _ ∧ v7 = V.int turn from r7)
  subst e1 e2 e3 e4 e5 e6 e7 q2 q3 q4 q5 q6 q7
  exact ⟨v1, ns, pos, now, left, seed, turn, great, c, q1, h⟩
theorem storeOk_to {K : PySem.W.Frag} {S : Addr → Prop} {H : Hp} {a : Addr} (h : StoreOk K S H a) : ∃ kvs kw, isSto kvs ∧ H a = some (.dK kw) ∧ Repk K S H kvs kw := by
  obtain ⟨c, ns, pos, now, left, seed, turn, great, e, r, h⟩ := h
  exact ⟨stoKvs ns pos now left seed turn great, _, ⟨ns, pos, now, left, seed, turn, great, rfl, h⟩, e, _, _, rfl, ⟨rfl, r⟩, _, _, rfl, ⟨rfl, rfl⟩, _, _, rfl, ⟨rfl, rfl⟩, _, _, rfl, ⟨rfl, rfl⟩, _, _, rfl, ⟨rfl, rfl⟩, _, _, rfl, ⟨rfl, rfl⟩, _, _, rfl, ⟨rfl, rfl⟩, rfl⟩
/-! ### what a def promises, over plain data -/
def ArgR (K : PySem.W.Frag) (G S : Addr → Prop) (H : Hp) : Mode → D → V → Prop
  | .s, d, v => Rep K G H d v
  | .b, d, v => Rep K (fun _ => True) H d v
  | .t, d, v => ∃ a, d = .ref a ∧ v = .ref a ∧ StoreOk K S H a
def ArgsR (K : PySem.W.Frag) (G S : Addr → Prop) (H : Hp) : List Mode → List D → List V → Prop
  | [], [], [] => True
  | m :: ms, d :: ds, v :: vs => ArgR K G S H m d v ∧ ArgsR K G S H ms ds vs
  | _, _, _ => False
structure CallR' (K : PySem.W.Frag) (T : TBs) (S : Addr → Prop) (M : List Addr) (H H' : Hp) : Prop where
  keep : KeepB M H H'
  tabs : LamX.Tabs T.tb H'
  sto : ∀ a ∈ M, StoreOk K S H' a
def spQ (K : PySem.W.Frag) (T : TBs) (ms : List Mode) (qs : QSpec) : Sp := fun vs H Q E =>
  ∃ (G S : Addr → Prop) (ds : List D) (R : SV → Prop) (F : Exn → Prop), (∀ a, H a = none → G a) ∧ (∀ a, H a = none → S a) ∧ (mOf ms ds = [] → ∀ a, S a → H a = none) ∧ LamX.Tabs T.tb H ∧ ArgsR K G S H ms ds vs ∧ (mOf ms ds).Nodup ∧ qs ds R F ∧
    (∀ sv v H' σ, CallR' K T S (mOf ms ds) H H' → SVR K ⟨G, [], T, H, [], S⟩ H' σ sv (some v) → sv.isBor = false → (∀ a, ownOf sv (some v) = some a → H a = none) → R sv → Q v H') ∧
    (∀ x c d H', CallR' K T S (mOf ms ds) H H' → ExnOk K ⟨G, [], T, H, [], S⟩ H' x c d → F x → E c d H')
theorem argsR_len {K : PySem.W.Frag} {G S : Addr → Prop} {H : Hp} : ∀ {ms : List Mode} {ds : List D} {vs : List V}, ArgsR K G S H ms ds vs → ms.length = ds.length ∧ ds.length = vs.length
  | [], [], [], _ => ⟨rfl, rfl⟩
  | _ :: ms, _ :: ds, _ :: vs, h => by
    have := argsR_len h.2
    simp [this.1, this.2]
  | [], _ :: _, _, h => h.elim
  | [], [], _ :: _, h => h.elim
  | _ :: _, [], _, h => h.elim
  | _ :: _, _ :: _, [], h => h.elim
theorem slots0_len : ∀ {ms : List Mode} {ds : List D}, ms.length = ds.length → (slots0 ms ds).length = ds.length
  | [], [], _ => rfl
  | _ :: ms, _ :: ds, h => by
    unfold slots0
    rw [List.length_cons, List.length_cons, slots0_len (by simpa using h)]
/-- a parameter's slot -/
theorem slot0_svr {K : PySem.W.Frag} {g : Gh} {H : Hp} {σ : L2.St} {m : Mode} {d : D} {v : V} (h : ArgR K g.G g.S H m d v) : SVR K g H σ (slot0 m d) (some v) ∧ (slot0 m d).isBor = false ∧ ∀ a, ownOf (slot0 m d) (some v) = some a → m = .t ∧ d = .ref a ∧ slot0 m d = .sto a := by
  cases m with
  | s => exact ⟨⟨v, rfl, Rep.mono (fun _ z _ => z) .refl _ _ h⟩, rfl, fun a e => nomatch (show (none : Option Addr) = some a from e)⟩
  | b => exact ⟨⟨v, rfl, Rep.mono (fun _ _ z => Bool.noConfusion z) .refl _ _ h⟩, rfl, fun a e => nomatch (show (none : Option Addr) = some a from e)⟩
  | t =>
    obtain ⟨b, rfl, rfl, q⟩ := h
    refine ⟨⟨rfl, q⟩, rfl, fun a e => ?_⟩
    have : b = a := Option.some.inj (show some b = some a from e)
    subst this
    exact ⟨rfl, rfl, rfl⟩
theorem mOf_mem : ∀ {ms : List Mode} {ds : List D} {i : Nat} {a : Addr}, ms[i]? = some .t → ds[i]? = some (.ref a) → a ∈ mOf ms ds
  | m :: ms, d :: ds, 0, a, h1, h2 => by
    simp at h1 h2
    subst h1 h2
    unfold mOf m1
    exact List.mem_cons_self
  | m :: ms, d :: ds, i + 1, a, h1, h2 => by
    have ih := mOf_mem (ms := ms) (ds := ds) (i := i) (a := a) (by simpa using h1) (by simpa using h2)
    unfold mOf
    exact List.mem_append_right _ ih
  | [], _, _, _, h, _ => by simp at h
  | _ :: _, [], _, _, _, h => by simp at h
theorem m1_mem {m : Mode} {d : D} {a : Addr} (h : a ∈ m1 m d) : m = .t ∧ d = .ref a := by
  unfold m1 at h
  split at h
  · simp at h; subst h; exact ⟨rfl, rfl⟩
  · cases h
/-- the entries at a def's entry -/
theorem entry_all {K : PySem.W.Frag} {g : Gh} {H : Hp} {σ : L2.St} : ∀ {ms : List Mode} {ds : List D} {vs : List V}, ArgsR K g.G g.S H ms ds vs → ∀ p ∈ (slots0 ms ds).zip (vs.map some), SVR K g H σ p.1 p.2 ∧ p.1.isBor = false ∧ ∀ a, ownOf p.1 p.2 = some a → a ∈ mOf ms ds ∧ p.1 = .sto a
  | [], [], [], _, p, hp => by simp [slots0] at hp
  | m :: ms, d :: ds, v :: vs, h, p, hp => by
    unfold slots0 at hp
    rw [List.map_cons, List.zip_cons_cons] at hp
    rcases List.mem_cons.mp hp with rfl | hp
    · obtain ⟨h1, h2, h3⟩ := slot0_svr (σ := σ) h.1
      refine ⟨h1, h2, fun a e => ?_⟩
      obtain ⟨rfl, rfl, e2⟩ := h3 a e
      exact ⟨by unfold mOf m1; exact List.mem_cons_self, e2⟩
    · obtain ⟨h1, h2, h3⟩ := entry_all (σ := σ) h.2 p hp
      exact ⟨h1, h2, fun a e => ⟨by unfold mOf; exact List.mem_append_right _ (h3 a e).1, (h3 a e).2⟩⟩
  | [], _ :: _, _, h, _, _ => h.elim
  | [], [], _ :: _, h, _, _ => h.elim
  | _ :: _, [], _, h, _, _ => h.elim
  | _ :: _, _ :: _, [], h, _, _ => h.elim
theorem entry_inj {K : PySem.W.Frag} {g : Gh} {H : Hp} : ∀ {ms : List Mode} {ds : List D} {vs : List V}, ArgsR K g.G g.S H ms ds vs → (mOf ms ds).Nodup → Injs ((slots0 ms ds).zip (vs.map some))
  | [], [], [], _, _ => injs_iff.mpr .nil
  | m :: ms, d :: ds, v :: vs, h, nd => by
    unfold mOf at nd
    obtain ⟨n1, n2, n3⟩ := List.nodup_append.mp nd
    unfold slots0
    rw [List.map_cons, List.zip_cons_cons]
    refine Injs.cons (entry_inj h.2 n2) fun a e q hq z => ?_
    obtain ⟨_, _, h3⟩ := slot0_svr (g := g) (σ := []) h.1
    obtain ⟨rfl, rfl, _⟩ := h3 a e
    have z2 := ((entry_all (g := g) (σ := []) h.2 q hq).2.2 a z).1
    exact n3 a (by unfold m1; exact List.mem_cons_self) a z2 rfl
  | [], _ :: _, _, h, _ => h.elim
  | [], [], _ :: _, h, _ => h.elim
  | _ :: _, [], _, h, _ => h.elim
  | _ :: _, _ :: _, [], h, _ => h.elim
theorem zip_rep : ∀ (n : Nat) {p : SV × Option V}, p ∈ (List.replicate n SV.no).zip (List.replicate n (none : Option V)) → p = (.no, none)
  | 0, _, h => by simp at h
  | n + 1, p, h => by
    rw [List.replicate_succ, List.replicate_succ, List.zip_cons_cons] at h
    rcases List.mem_cons.mp h with h | h
    · exact h
    · exact zip_rep n h
theorem injs_app_no {l r : List (SV × Option V)} (h : Injs l) (hr : ∀ p ∈ r, p = (SV.no, none)) : Injs (l ++ r) := by
  intro i j p q a e1 e2 h1 h2
  have low : ∀ {i : Nat} {p : SV × Option V}, (l ++ r)[i]? = some p → ownOf p.1 p.2 = some a → l[i]? = some p := fun {i p} e ho => by
    by_cases hi : i < l.length
    · rw [List.getElem?_append_left hi] at e; exact e
    · rw [List.getElem?_append_right (by omega)] at e
      have := hr p (List.mem_of_getElem? e)
      subst this
      cases ho
  exact h i j p q a (low e1 h1) (low e2 h2) h1 h2
theorem sr_start {X : Cx} {B : Hp} {G Sx : Addr → Prop} {T : TBs} {ms : List Mode} {ds : List D} {vs : List V} {n : Nat} (h : ArgsR X.K G Sx B ms ds vs) (nd : (mOf ms ds).Nodup) (hG : ∀ a, B a = none → G a) (hS : ∀ a, B a = none → Sx a) (ht : LamX.Tabs T.tb B) :
    SR X.K ⟨G, mOf ms ds, T, B, [], Sx⟩ (slots0 ms ds ++ List.replicate n .no) (vs.map some ++ List.replicate n none) [] [] B := by
  obtain ⟨l1, l2⟩ := argsR_len h
  have l3 := slots0_len l1
  have es : ents (slots0 ms ds ++ List.replicate n .no) (vs.map some ++ List.replicate n none) [] [] = (slots0 ms ds).zip (vs.map some) ++ (List.replicate n SV.no).zip (List.replicate n none) := by
    unfold ents
    rw [List.zip_nil_left, List.nil_append, List.zip_append (by rw [l3, List.length_map, l2])]
  refine ⟨by simp [l3, l2], rfl, fun p hp => ?_, ?_, fun p hp a e => ?_, KeepB.refl, ht, hG, fun z hz => absurd hz (by simp), fun sv hsv => ?_, hS⟩
  · rw [es] at hp
    rcases List.mem_append.mp hp with hp | hp
    · exact (entry_all (g := ⟨G, mOf ms ds, T, B, [], Sx⟩) h p hp).1
    · rw [zip_rep n hp]; trivial
  · show Injs _
    rw [es]
    exact injs_app_no (entry_inj (g := ⟨G, mOf ms ds, T, B, [], Sx⟩) h nd) fun p hp => zip_rep n hp
  · rw [es] at hp
    rcases List.mem_append.mp hp with hp | hp
    · have z := (entry_all (g := ⟨G, mOf ms ds, T, B, [], Sx⟩) (σ := []) h p hp).2.2 a e
      exact .inr ⟨z.1, by rw [z.2]; rfl⟩
    · rw [zip_rep n hp] at e; cases e
  · rcases List.mem_append.mp hsv with z | z
    · obtain ⟨i, hi⟩ := List.mem_iff_getElem?.mp z
      have hi2 : i < vs.length := by
        have := (List.getElem?_eq_some_iff.mp hi).1
        omega
      have hz : ((slots0 ms ds).zip (vs.map some))[i]? = some (sv, some vs[i]) := by
        rw [List.getElem?_zip_eq_some]
        exact ⟨hi, by simp [hi2]⟩
      exact (entry_all (g := ⟨G, mOf ms ds, T, B, [], Sx⟩) (σ := []) h _ (List.mem_of_getElem? hz)).2.1
    · rw [(List.mem_replicate.mp z).2]; rfl
theorem keeps_sto : ∀ {ms : List Mode} {ds : List D} {ρ : PSt} {a : Addr}, keeps ms ds ρ → a ∈ mOf ms ds → ∃ i : Nat, ρ[i]? = some (SV.sto a) ∨ ∃ kvs, ρ[i]? = some (SV.so a kvs) ∧ isSto kvs
  | m :: ms, d :: ds, sv :: ρ, a, k, h => by
    unfold mOf at h
    unfold keeps at k
    rcases List.mem_append.mp h with h | h
    · obtain ⟨rfl, rfl⟩ := m1_mem h
      rcases (show sv = SV.sto a ∨ ∃ a' kvs, D.ref a = .ref a' ∧ sv = .so a' kvs ∧ isSto kvs from k.1) with e | ⟨a', kvs, e1, e2, e3⟩
      · exact ⟨0, .inl (by rw [e]; rfl)⟩
      · cases e1
        exact ⟨0, .inr ⟨kvs, by rw [e2]; rfl, e3⟩⟩
    · obtain ⟨i, hi⟩ := keeps_sto k.2 h
      exact ⟨i + 1, by simpa using hi⟩
  | [], _, _, _, _, h => by simp [mOf] at h
  | _ :: _, [], _, _, _, h => by simp [mOf] at h
  | m :: ms, d :: ds, [], _, k, _ => by
    unfold keeps at k
    exact k.elim
theorem callR_of {X : Cx} {B : Hp} {G Sx : Addr → Prop} {T : TBs} {ms : List Mode} {ds : List D} {ρ : PSt} {σ : L2.St} {τ : List SV} {vs : List V} {H : Hp} (S : SR X.K ⟨G, mOf ms ds, T, B, [], Sx⟩ ρ σ τ vs H) (k : keeps ms ds ρ) : CallR' X.K T Sx (mOf ms ds) B H :=
  ⟨S.keep, S.tabs, fun a ha => by
    obtain ⟨i, hi⟩ := keeps_sto k ha
    rcases hi with hi | ⟨kvs, hi, is⟩
    · obtain ⟨u, _, z, _⟩ := S.slot hi
      exact z.2
    · obtain ⟨u, _, z, _⟩ := S.slot hi
      obtain ⟨_, kw, c, r⟩ := z
      exact storeOk_of c r is⟩
section
variable {P : Program} {w : World} {K : PySem.W.Frag} {mg : Str → Option Value} {base : Heap}
/-- THE RULE for a def: its body's derivation, its reading over plain data -/
theorem q_fn {x qual : Str} {st : Stmt} {f : Addr} {fd : FuncData} {N ps : List Str} {k : Nat} {T : TBs} {ms : List Mode} {qs : QSpec} {p : RS} (F : Fun K x qual st f fd) (S : FnScope N ps (defScope st)) (hm : ms.length = ps.length)
    (hbody : ∀ (cdv : Value) (A : Around) (outer : List Env) (s : Shared) (H : Hp) (E : XK) (g : Gh), Room k (A.deeper (envOfC qual (defScope st) s.heap.objs.size f cdv)) → g.T = T → QSs (cxOf (L2.CX P w) P w K mg base N qual (defScope st) f cdv A outer s H E) g (defBody st) p)
    (hq : ∀ (ds : List D) (R : SV → Prop) (F : Exn → Prop), qs ds R F → p (endsF ms ds R F) (slots0 ms ds ++ List.replicate (N.length - ps.length) .no)) : FnOk P w K mg base (L2.CX P w) (k + 1) f fd ps (spQ K T ms qs) := by
  refine F.okX S (fun vs H Q E h => ?_) (fun cdv A outer s H vs Q E hr h => ?_)
  · obtain ⟨G, Sx, ds, R, F', _, _, _, _, ha, _⟩ := h
    obtain ⟨l1, l2⟩ := argsR_len ha
    omega
  · obtain ⟨G, Sx, ds, R, F', hG, hS, hS0, ht, ha, nd, hqs, h1, h2⟩ := h
    obtain ⟨l1, l2⟩ := argsR_len ha
    have B := hbody cdv A outer s H E ⟨G, mOf ms ds, T, H, [], Sx⟩ hr rfl
    have S0 := sr_start (X := cxOf (L2.CX P w) P w K mg base N qual (defScope st) f cdv A outer s H E) (n := N.length - ps.length) ha nd hG hS ht
    have tk : Takes (cxOf (L2.CX P w) P w K mg base N qual (defScope st) f cdv A outer s H E) (WQ (cxOf (L2.CX P w) P w K mg base N qual (defScope st) f cdv A outer s H E) ⟨G, mOf ms ds, T, H, [], Sx⟩ (endsF ms ds R F').ex) := by
      refine Takes.imp (takes_of rfl rfl rfl rfl) fun c d σ H' hx => ?_
      obtain ⟨x, ρ, τ, vs', S', ok, hf, hk⟩ := hx
      exact h2 x c d H' (callR_of S' hk) ok hf
    refine ⟨_, B.pss tk, ?_⟩
    have e : L2.start N vs = vs.map some ++ List.replicate (N.length - ps.length) none := by
      unfold L2.start
      rw [← l2, ← l1, hm]
    rw [e]
    refine ⟨[], [], _, endsF ms ds R F', (fun sv h => absurd h (by simp)), rfl, S0, hq ds R F' hqs, fun ρ' σ' H' S' z => ?_, fun sv ρ' v σ' H' S' z => ?_, fun ρ' σ' H' S' z => z, fun ρ' σ' H' S' z => z⟩
    · exact h1 (.fr true .non) .non H' σ' (callR_of S' z.2) ⟨.non, rfl, rfl⟩ rfl (fun a e => nomatch (show (none : Option Addr) = some a from e)) z.1
    · obtain ⟨z1, z2, z3⟩ := z
      have main : ∀ (tv : SV), tv.isBor = false → (tv, some v) ∈ ents ρ' σ' [sv] [v] → R tv → okRes ms ds tv → Q v H' := fun tv hb hm hR ho => by
        refine h1 tv v H' σ' (callR_of S'.pop z3) (S'.all _ hm) hb (fun a e => ?_) hR
        rcases S'.own _ hm a e with q | ⟨q1, q2⟩
        · exact q
        · have ho' : mOf ms ds = [] := by
            cases tv with
            | sto b => exact ho
            | so b kvs => exact ho
            | _ => cases q2
          have q1 : a ∈ mOf ms ds := q1
          rw [ho'] at q1
          cases q1
      cases sv with
      | bor i =>
        have e1 : SV.mv ρ' (.bor i) = (ρ'[i]?).getD .no := rfl
        have gone : R .no → Q v H' := fun hR => h1 .no v H' σ' (callR_of S'.pop z3) trivial rfl (fun a e => nomatch (show (none : Option Addr) = some a from e)) hR
        cases q : ρ'[i]? with
        | none =>
          rw [e1, q] at z1
          exact gone z1
        | some tv =>
          rw [e1, q] at z1 z2
          by_cases hn : tv = .no
          · subst hn; exact gone z1
          · exact main tv (S'.nb _ (List.mem_of_getElem? q)) (List.mem_cons_of_mem _ (List.mem_of_getElem? (ents_at S'.pop.tlen i q (S'.borSlot S'.top q hn)))) z1 z2
      | _ => exact main _ rfl List.mem_cons_self z1 z2
end
end Q

namespace Q
open PySem PySem.Spec PyProof.Rows L2
theorem take_sto {sv : SV} {ρ ρ' : PSt} {m : Bool} {d : D} {i : Nat} {a : Addr} (h : sv.take ρ = some (m, d, ρ')) (k : ρ[i]? = some (.sto a)) : ρ'[i]? = some (.sto a) := by
  cases sv with
  | bor j =>
    have h' : (match ρ[j]? with
      | some sv => (match sv.take0 with
        | some (m, d) => some (m, d, ρ.set j (.fr m d))
        | none => none)
      | none => none) = some (m, d, ρ') := h
    cases e : ρ[j]? with
    | none => rw [e] at h'; cases h'
    | some sv =>
      rw [e] at h'
      cases e2 : sv.take0 with
      | none => simp only [e2] at h'; cases h'
      | some md =>
        simp only [e2] at h'
        injection h' with h'
        injection h' with _ h'
        injection h' with _ h'
        subst h'
        have ne : j ≠ i := fun z => by
          subst z
          rw [k] at e
          cases e
          cases e2
        rw [List.getElem?_set_ne ne]
        exact k
  | fr m' d' => cases h; exact k
  | ol m' d' => cases h; exact k
  | od m' d' => cases h; exact k
  | oo m' C d' => cases h; exact k
  | no => cases h
  | sto b => cases h
  | so b kvs => cases h
theorem passA_sto {mo : Mode} {sv : SV} {ρ ρ' : PSt} {m : Bool} {d : D} {i : Nat} {a : Addr} (h : passA mo sv ρ = some (m, d, ρ')) (k : ρ[i]? = some (.sto a)) : ρ'[i]? = some (.sto a) := by
  cases mo with
  | s => exact take_sto h k
  | b => obtain ⟨m', e, _⟩ := passB_ok h; exact take_sto e k
  | t => obtain ⟨_, _, _, _, _, _, e⟩ := passT_ok h; rw [e]; exact k
theorem passAll_nil {ms : List Mode} {ρ ρ1 : PSt} {m : Bool} {ds : List D} (h : passAll ms [] ρ = some (m, ds, ρ1)) : ms = [] ∧ m = true ∧ ds = [] ∧ ρ1 = ρ := by
  cases ms with
  | nil => cases h; exact ⟨rfl, rfl, rfl, rfl⟩
  | cons _ _ => cases h
theorem passAll_cons {ms : List Mode} {sv : SV} {svs : List SV} {ρ ρ1 : PSt} {m : Bool} {ds : List D} (h : passAll ms (sv :: svs) ρ = some (m, ds, ρ1)) :
    ∃ mo mr m1 d1 ρ2 m2 ds2, ms = mo :: mr ∧ passA mo sv ρ = some (m1, d1, ρ2) ∧ passAll mr svs ρ2 = some (m2, ds2, ρ1) ∧ m = (m1 && m2) ∧ ds = d1 :: ds2 := by
  cases ms with
  | nil => cases h
  | cons mo mr =>
    unfold passAll at h
    cases e : passA mo sv ρ with
    | none => rw [e] at h; cases h
    | some r =>
      obtain ⟨m1, d1, ρ2⟩ := r
      simp only [e] at h
      cases e2 : passAll mr svs ρ2 with
      | none => rw [e2] at h; cases h
      | some r2 =>
        obtain ⟨m2, ds2, ρ3⟩ := r2
        rw [e2] at h
        injection h with h
        injection h with a b
        injection b with b c
        subst a b c
        exact ⟨mo, mr, m1, d1, ρ2, m2, ds2, rfl, e, e2, rfl, rfl⟩
/-- how an argument lies behind the handing over -/
def ArgQ (K : PySem.W.Frag) (G : Addr → Prop) (H : Hp) (ρ : PSt) : Mode → D → V → Prop
  | .s, d, v => Rep K G H d v
  | .b, d, v => Rep K (fun _ => True) H d v
  | .t, d, v => ∃ a, d = .ref a ∧ v = .ref a ∧ ∃ i : Nat, ρ[i]? = some (.sto a)
def ArgsQ (K : PySem.W.Frag) (G : Addr → Prop) (H : Hp) (ρ : PSt) : List Mode → List D → List V → Prop
  | [], [], [] => True
  | m :: ms, d :: ds, v :: vs => ArgQ K G H ρ m d v ∧ ArgsQ K G H ρ ms ds vs
  | _, _, _ => False
section
variable {X : Cx} {g : Gh} {σ : L2.St} {pins : List (Addr × Obj)} {s : Shared}
theorem argsQ_mono {K : PySem.W.Frag} {G G' : Addr → Prop} {H H' : Hp} {ρ ρ' : PSt} (hg : ∀ a, G a → G' a) (st : Stab H H') (hr : ∀ (i : Nat) a, ρ[i]? = some (SV.sto a) → ρ'[i]? = some (.sto a)) : ∀ {ms : List Mode} {ds : List D} {vs : List V}, ArgsQ K G H ρ ms ds vs → ArgsQ K G' H' ρ' ms ds vs
  | [], [], [], _ => trivial
  | m :: ms, d :: ds, v :: vs, h => by
    refine ⟨?_, argsQ_mono hg st hr h.2⟩
    have h1 := h.1
    cases m with
    | s => exact Rep.mono hg st _ _ h1
    | b => exact Rep.mono (fun _ z => z) st _ _ h1
    | t => obtain ⟨a, e1, e2, i, hi⟩ := h1; exact ⟨a, e1, e2, i, hr i a hi⟩
  | [], _ :: _, _, h => h.elim
  | [], [], _ :: _, h => h.elim
  | _ :: _, [], _, h => h.elim
  | _ :: _, _ :: _, [], h => h.elim
theorem passA_ok {mo : Mode} {sv : SV} {v : V} {ρ ρ1 : PSt} {τ : List SV} {vs : List V} {H : Hp} {m : Bool} {d : D} (I : L2.Inv X pins σ H s) (S : SR X.K g ρ σ (sv :: τ) (v :: vs) H) (h : passA mo sv ρ = some (m, d, ρ1)) :
    ∃ H' sv', L2.Inv X pins σ H' s ∧ SR X.K g ρ1 σ (sv' :: τ) (v :: vs) H' ∧ ∀ H2, SVR X.K g H2 σ sv' (some v) → ArgQ X.K (g.gm m) H2 ρ1 mo d v := by
  cases mo with
  | s =>
    obtain ⟨H', I', S'⟩ := take_ok I S h
    exact ⟨H', _, I', S', fun H2 ⟨w, hw, r⟩ => by cases hw; exact r⟩
  | b =>
    obtain ⟨m', e, rfl⟩ := passB_ok h
    obtain ⟨H', I', S'⟩ := take_ok I S e
    exact ⟨H', _, I', S', fun H2 ⟨w, hw, r⟩ => by cases hw; exact Rep.mono (fun _ _ => trivial) .refl _ _ r⟩
  | t =>
    obtain ⟨i, a, rfl, e, rfl, rfl, rfl⟩ := passT_ok h
    have hv := S.borSlot S.top e (by simp)
    obtain ⟨u, hu, z, _⟩ := S.slot e
    rw [hv] at hu
    cases hu
    have z1 := z.1
    cases z1
    exact ⟨H, _, I, S, fun H2 _ => ⟨a, rfl, rfl, i, e⟩⟩
theorem passAll_ok (svs : List SV) : ∀ (ms : List Mode) (us : List V) (ρ ρ1 : PSt) (H : Hp) (m : Bool) (ds : List D) (τ : List SV) (vs : List V), L2.Inv X pins σ H s → svs.length = us.length → SR X.K g ρ σ (svs ++ τ) (us ++ vs) H → passAll ms svs ρ = some (m, ds, ρ1) →
    ∃ H', L2.Inv X pins σ H' s ∧ SR X.K g ρ1 σ τ vs H' ∧ ArgsQ X.K (g.gm m) H' ρ1 ms ds us ∧ ∀ (i : Nat) a, ρ[i]? = some (SV.sto a) → ρ1[i]? = some (.sto a) := by
  induction svs with
  | nil =>
    intro ms us ρ ρ1 H m ds τ vs I hl S t
    obtain ⟨rfl, rfl, rfl, rfl⟩ := passAll_nil t
    have : us = [] := by
      cases us with
      | nil => rfl
      | cons _ _ => simp at hl
    subst this
    exact ⟨H, I, S, trivial, fun _ _ z => z⟩
  | cons sv svs ih =>
    intro ms us ρ ρ1 H m ds τ vs I hl S t
    cases us with
    | nil => simp at hl
    | cons u us =>
      have hl' : svs.length = us.length := by simpa using hl
      obtain ⟨mo, mr, m1, d1, ρ2, m2, ds2, rfl, e1, e2, rfl, rfl⟩ := passAll_cons t
      obtain ⟨H1, sv', I1, S1, r1⟩ := passA_ok I S e1
      obtain ⟨H2, I2, S2, r2, k2⟩ := ih mr us ρ2 ρ1 H1 m2 ds2 _ _ I1 hl' (S1.sink hl') e2
      have g1 : ∀ a, g.gm m1 a → g.gm (m1 && m2) a := Gh.gm_mono fun h => (Bool.and_eq_true_iff.mp h).1
      have g2 : ∀ a, g.gm m2 a → g.gm (m1 && m2) a := Gh.gm_mono fun h => (Bool.and_eq_true_iff.mp h).2
      refine ⟨H2, I2, S2.pop, ⟨?_, argsQ_mono g2 .refl (fun _ _ z => z) r2⟩, fun i a z => k2 i a (passA_sto e1 z)⟩
      have q := r1 H2 S2.top
      cases mo with
      | s => exact Rep.mono g1 .refl _ _ q
      | b => exact q
      | t => obtain ⟨a, z1, z2, i, hi⟩ := q; exact ⟨a, z1, z2, i, k2 i a hi⟩
/-! ### the call -/
theorem argsQ_R {τ : List SV} {vs : List V} {G : Addr → Prop} {H : Hp} {ρ : PSt} (S : SR X.K g ρ σ τ vs H) : ∀ {ms : List Mode} {ds : List D} {us : List V}, ArgsQ X.K G H ρ ms ds us → ArgsR X.K G g.S H ms ds us
  | [], [], [], _ => trivial
  | m :: ms, d :: ds, v :: vs, h => by
    refine ⟨?_, argsQ_R S h.2⟩
    have h1 := h.1
    cases m with
    | s => exact h1
    | b => exact h1
    | t =>
      obtain ⟨a, e1, e2, i, hi⟩ := h1
      obtain ⟨u, _, z, _⟩ := S.slot hi
      exact ⟨a, e1, e2, z.2⟩
  | [], _ :: _, _, h => h.elim
  | [], [], _ :: _, h => h.elim
  | _ :: _, [], _, h => h.elim
  | _ :: _, _ :: _, [], h => h.elim
theorem argsQ_M {G : Addr → Prop} {H : Hp} {K : PySem.W.Frag} {ρ : PSt} : ∀ {ms : List Mode} {ds : List D} {us : List V}, ArgsQ K G H ρ ms ds us → ∀ a ∈ mOf ms ds, ∃ i : Nat, ρ[i]? = some (SV.sto a)
  | [], [], [], _, a, ha => by simp [mOf] at ha
  | m :: ms, d :: ds, v :: vs, h, a, ha => by
    unfold mOf at ha
    rcases List.mem_append.mp ha with ha | ha
    · obtain ⟨rfl, rfl⟩ := m1_mem ha
      obtain ⟨b, e1, _, i, hi⟩ := h.1
      cases e1
      exact ⟨i, hi⟩
    · exact argsQ_M h.2 a ha
  | [], _ :: _, _, h, _, _ => h.elim
  | [], [], _ :: _, h, _, _ => h.elim
  | _ :: _, [], _, h, _, _ => h.elim
  | _ :: _, _ :: _, [], h, _, _ => h.elim
/-- the state behind a call -/
theorem SR.called {M : List Addr} {τ : List SV} {vs : List V} {H H' : Hp} {ρ : PSt} (S : SR X.K g ρ σ τ vs H) (hM : ∀ a ∈ M, ∃ i : Nat, ρ[i]? = some (SV.sto a)) (c : CallR' X.K g.T g.S M H H') (st0 : Stab0 H H') : SR X.K g ρ σ τ vs H' := by
  have mem : ∀ a ∈ M, ∃ i : Nat, (ents ρ σ τ vs)[i]? = some (SV.sto a, some (.ref a)) := fun a ha => by
    obtain ⟨i, hi⟩ := hM a ha
    obtain ⟨u, hu, z, _⟩ := S.slot hi
    have := z.1
    subst this
    exact ⟨_, ents_at S.tlen i hi hu⟩
  have st : Stab H H' := ⟨st0, fun a fs e => c.keep.keep a _ e (fun ha => by
    obtain ⟨i, hi⟩ := mem a ha
    obtain ⟨_, _, _, _, _, _, _, _, q, _⟩ := (S.all _ (List.mem_of_getElem? hi)).2
    rw [q] at e
    cases e) fun ps z => nomatch z⟩
  have own_stay : ∀ q ∈ ents ρ σ τ vs, ∀ a, ownOf q.1 q.2 = some a → a ∉ M → H' a = H a := fun q hq a e hn => by
    obtain ⟨_, u, hu, mu, _⟩ := svr_own (S.all q hq) e
    rw [hu]
    exact c.keep.keep a u hu hn fun ps z => by subst z; exact mu
  refine ⟨S.len, S.tlen, fun q hq => ?_, S.inj, S.own, ⟨fun a o h0 hm ht => ?_, fun a h => S.keep.live a (c.keep.live a h)⟩, c.tabs, S.gnew, fun z hz => st.pin (S.pin z hz), S.nb, S.snew⟩
  · by_cases hs : ∃ a, ownOf q.1 q.2 = some a ∧ a ∈ M
    · obtain ⟨a, e, ha⟩ := hs
      obtain ⟨i, hi⟩ := mem a ha
      obtain ⟨j, hj⟩ := List.mem_iff_getElem?.mp hq
      have := S.inj i j _ _ a hi hj rfl e
      subst this
      rw [hi] at hj
      cases hj
      exact ⟨rfl, c.sto a ha⟩
    · exact svr_mono st (fun a e => own_stay q hq a e fun z => hs ⟨a, e, z⟩) (S.all q hq)
  · refine c.keep.keep a o (S.keep.keep a o h0 hm ht) (fun ha => ?_) ht
    obtain ⟨i, hi⟩ := mem a ha
    rcases S.own _ (List.mem_of_getElem? hi) a rfl with z | ⟨z, _⟩
    · rw [z] at h0; cases h0
    · exact hm z
end
theorem run_fnQ {X : Cx} {σ : L2.St} {pins : List (Addr × Obj)} {s : Shared} {H : Hp} {k : Nat} {f : Addr} {fd : FuncData} {ps : List Str} {sp : Sp} {dvs : List V} {ds : List Value} {us : List Value} {vs : List V} {Q : VK} {E : XK} {W : WX} (F : FnOk X.prog X.w X.K X.mg X.base (L2.CX X.prog X.w) k f fd ps sp) (hr : Room k X.A)
    (hb : Binds X.K fd ps ds) (hd : Vals dvs ds) (tk : Takes X W) (I : L2.Inv X pins σ H s) (r : Vals vs us) (h : sp (vs ++ dvs) H Q E) (hE : ∀ c d H', Stab0 H H' → E c d H' → W c d σ H') :
    wpAny (model X.prog X.w) X.A (call (.ref f) us) (fun u s' => ∃ v H', L2.Inv X pins σ H' s' ∧ RelV v u ∧ Stab0 H H' ∧ Q v H') X.xe s := by
  have rr : Vals (vs ++ dvs) (us ++ ds) := r.append hd
  have hl : (us ++ ds).length = ps.length := by rw [← rr.length]; exact F.len _ _ _ _ h
  refine wpAny_call (codeAny_mono (F.run X.A X.stack s H ⟨us, []⟩ (us ++ ds) (vs ++ dvs) Q E hr I.env0 (hb s us I.kIn hl) rr h) fun res s' hq => ?_)
  cases res with
  | error e =>
    obtain ⟨a, B, H', cls, d, e1, fl, hok, ub, na, os, ag, z⟩ := hq
    exact tk _ _ (XE.of_call (E := fun c d H' => Stab0 H H' ∧ E c d H') I (fun c d H' q => hE c d H' q.1 q.2) ⟨a, B, H', cls, d, e1, fl, hok, ub, na, os, ag, ⟨ub.frzs, ub.tups⟩, z⟩)
  | ok fl =>
    cases fl with
    | ret u =>
      obtain ⟨v, H', os, bare, un, hok, rv, q⟩ := hq
      obtain ⟨hh, gg, dd, t, os'⟩ := s'
      obtain rfl : os' = s.os := os
      exact ⟨v, H', I.call (h' := hh) (g' := gg) (d' := dd) (t' := t) (ch := []) un hok bare (fun b z => absurd z (by simp)), rv, ⟨un.frzs, un.tups⟩, q⟩
    | next => exact False.elim hq
    | brk => exact False.elim hq
    | cont => exact False.elim hq
mutual
theorem rep_safe {K : PySem.W.Frag} {G G' : Addr → Prop} {H : Hp} : ∀ (d : D) (v : V), d.safe = true → Rep K G H d v → Rep K G' H d v
  | .non, _, _, r => r
  | .bl _, _, _, r => r
  | .int _, _, _, r => r
  | .str _, _, _, r => r
  | .ref _, _, _, r => r
  | .ty _, _, _, r => r
  | .tup xs, _, h, ⟨a, vs, e, f, r⟩ => ⟨a, vs, e, f, reps_safe xs vs (by simp only [D.safe] at h; exact h) r⟩
  | .lst _, _, h, _ => by simp only [D.safe] at h; cases h
  | .dk _, _, h, _ => by simp only [D.safe] at h; cases h
  | .dt _, _, h, _ => by simp only [D.safe] at h; cases h
  | .obj _ _, _, h, _ => by simp only [D.safe] at h; cases h
  | .scr _, _, h, _ => by simp only [D.safe] at h; cases h
theorem reps_safe {K : PySem.W.Frag} {G G' : Addr → Prop} {H : Hp} : ∀ (ds : List D) (vs : List V), safes ds = true → Reps K G H ds vs → Reps K G' H ds vs
  | [], _, _, r => r
  | x :: xs, _, h, ⟨v, vs, e, r1, r2⟩ => by
    simp only [safes] at h
    obtain ⟨a1, a2⟩ := Bool.and_eq_true_iff.mp h
    exact ⟨v, vs, e, rep_safe x v a1 r1, reps_safe xs vs a2 r2⟩
end
section
variable {X : Cx} {g : Gh} {σ : L2.St} {pins : List (Addr × Obj)} {s : Shared}
theorem svr_dem {K : PySem.W.Frag} {g : Gh} {H : Hp} {σ σ0 : L2.St} {T : TBs} {B : Hp} {Sc : Addr → Prop} {m : Bool} {sv : SV} {v : Option V} (hsc : ∀ a, Sc a → g.S a) (hb : sv.isBor = false) (h : SVR K ⟨g.gm m, [], T, B, [], Sc⟩ H σ0 sv v) : SVR K g H σ (sv.dem m) v := by
  have gg : ∀ m', ∀ a, (⟨g.gm m, [], T, B, [], Sc⟩ : Gh).gm m' a → g.gm (m' && m) a := fun m' a q z => by
    obtain ⟨z1, z2⟩ := Bool.and_eq_true_iff.mp z
    exact q z1 z2
  cases sv with
  | no => trivial
  | fr m' d =>
    obtain ⟨u, e, r⟩ := h
    refine ⟨u, e, ?_⟩
    cases hs : d.safe with
    | true => exact rep_safe _ _ hs r
    | false =>
      rw [Bool.or_false]
      exact Rep.mono (gg m') .refl _ _ r
  | ol m' xs => obtain ⟨a, ws, e, c, r⟩ := h; exact ⟨a, ws, e, c, Reps.mono (gg m') .refl _ _ r⟩
  | od m' xs => obtain ⟨a, ws, e, c, r⟩ := h; exact ⟨a, ws, e, c, Repk.mono (gg m') .refl _ _ r⟩
  | oo m' C xs => obtain ⟨a, dx, ws, e, c, r⟩ := h; exact ⟨a, dx, ws, e, c, Repf.mono (gg m') .refl _ _ r⟩
  | sto a => exact ⟨h.1, h.2.up hsc⟩
  | so a kvs => obtain ⟨e, kw, c, r⟩ := h; exact ⟨e, kw, c, Repk.mono hsc .refl _ _ r⟩
  | bor i => cases hb
theorem argsR_up {K : PySem.W.Frag} {G Sx Sy : Addr → Prop} {H : Hp} : ∀ {ms : List Mode} {ds : List D} {us : List V}, (∀ a ∈ mOf ms ds, ∀ b, Sx b → Sy b) → ArgsR K G Sx H ms ds us → ArgsR K G Sy H ms ds us
  | [], [], [], _, _ => trivial
  | m :: ms, d :: ds, v :: vs, hs, h => by
    refine ⟨?_, argsR_up (fun a ha => hs a (by unfold mOf; exact List.mem_append_right _ ha)) h.2⟩
    have h1 := h.1
    cases m with
    | s => exact h1
    | b => exact h1
    | t =>
      obtain ⟨a, e1, e2, z⟩ := h1
      refine ⟨a, e1, e2, z.up (hs a ?_)⟩
      subst e1
      unfold mOf
      exact List.mem_append_left _ (by simp [m1])
  | [], _ :: _, _, _, h => h.elim
  | [], [], _ :: _, _, h => h.elim
  | _ :: _, [], _, _, h => h.elim
  | _ :: _, _ :: _, [], _, h => h.elim
theorem CallR'.up {K : PySem.W.Frag} {T : TBs} {Sx Sy : Addr → Prop} {M : List Addr} {H H' : Hp} (hs : ∀ a, Sx a → Sy a) (c : CallR' K T Sx M H H') : CallR' K T Sy M H H' :=
  { c with sto := fun a ha => (c.sto a ha).up hs }
theorem own_dem {m : Bool} {sv : SV} {v : Option V} : ownOf (sv.dem m) v = ownOf sv v := by
  cases v with
  | none => cases sv <;> rfl
  | some v => cases v <;> cases sv <;> rfl
theorem argsR_app {K : PySem.W.Frag} {G Sx : Addr → Prop} {H : Hp} {dd : List D} {dV : List V} (hd : Reps K G H dd dV) : ∀ {ms : List Mode} {ds : List D} {us : List V}, ArgsR K G Sx H ms ds us → ArgsR K G Sx H (ms ++ dd.map fun _ => .s) (ds ++ dd) (us ++ dV)
  | [], [], [], _ => by
    have : ∀ {dd : List D} {dV : List V}, Reps K G H dd dV → ArgsR K G Sx H (dd.map fun _ => .s) dd dV := fun {dd} => by
      induction dd with
      | nil => intro dV h; cases h; exact trivial
      | cons x r ih => intro dV ⟨v, vs', e, h1, h2⟩; subst e; exact ⟨h1, ih h2⟩
    exact this hd
  | _ :: ms, _ :: ds, _ :: us, h => ⟨h.1, argsR_app hd h.2⟩
  | [], _ :: _, _, h => h.elim
  | [], [], _ :: _, h => h.elim
  | _ :: _, [], _, h => h.elim
  | _ :: _, _ :: _, [], h => h.elim
theorem mOf_app : ∀ {ms : List Mode} {ds dd : List D}, ms.length = ds.length → mOf (ms ++ dd.map fun _ => .s) (ds ++ dd) = mOf ms ds
  | [], [], dd, _ => by
    have : ∀ dd : List D, mOf (dd.map fun _ => .s) dd = [] := fun dd => by
      induction dd with
      | nil => rfl
      | cons x r ih =>
        rw [List.map_cons]
        unfold mOf
        rw [ih]
        rfl
    simpa [mOf] using this dd
  | _ :: ms, _ :: ds, dd, h => by
    rw [List.cons_append, List.cons_append]
    unfold mOf
    rw [mOf_app (by simpa using h)]
def isT : Mode → Bool
  | .t => true
  | _ => false
theorem mOf_le : ∀ (ms : List Mode) (ds : List D), (mOf ms ds).length ≤ (ms.filter isT).length
  | [], _ => by simp [mOf]
  | _ :: _, [] => by simp [mOf]
  | mo :: ms, d :: ds => by
    have ih := mOf_le ms ds
    unfold mOf
    rw [List.length_append, List.filter_cons]
    cases mo with
    | s => simpa [m1, isT] using ih
    | b => simpa [m1, isT] using ih
    | t =>
      have : (m1 .t d).length ≤ 1 := by
        cases d <;> simp [m1]
      simp [isT]
      omega
theorem stoM_nodup {τ : List SV} {vs : List V} {H : Hp} {ρ : PSt} {ms : List Mode} {ds : List D} (S : SR X.K g ρ σ τ vs H) (h1 : (mOf ms ds).length ≤ 1) : (mOf ms ds).Nodup := by
  cases e : mOf ms ds with
  | nil => exact .nil
  | cons a r =>
    rw [e] at h1
    cases r with
    | nil => simp
    | cons b r => simp at h1
/-- behind the arguments -/
theorem call_core {k : Nat} {f : Addr} {fd : FuncData} {ps : List Str} {ms : List Mode} {qs : QSpec} {dd : List D} {dV : List V} {dvals : List Value} {us : List Value} {ws : List V} {svs : List SV} {ρ : PSt} {τ : List SV} {vs : List V} {H : Hp} {Φ : RK} {Ξ : RX} {m : Bool} {ds : List D} {ρ2 : PSt}
    (F : FnOk X.prog X.w X.K X.mg X.base (L2.CX X.prog X.w) k f fd ps (spQ X.K g.T (ms ++ dd.map fun _ => .s) qs)) (hr : Room k X.A) (hb : Binds X.K fd ps dvals) (hd : Vals dV dvals) (hdd : ∀ K G H, Reps K G H dd dV) (h1 : (ms.filter isT).length ≤ 1)
    (tk : Takes X (WQ X g Ξ)) (I : L2.Inv X pins σ H s) (r : Vals ws us) (hl : svs.length = ws.length) (S : SR X.K g ρ σ (svs ++ τ) (ws ++ vs) H) (hp : passAll ms svs ρ = some (m, ds, ρ2)) (hq : qs (ds ++ dd) (fun r => Φ (r.dem m) ρ2) (fun e => Ξ e ρ2)) :
    wpAny (model X.prog X.w) X.A (call (.ref f) us) (QEnd X g pins σ τ vs Φ) X.xe s := by
  obtain ⟨H2, I2, S2, ra, _⟩ := passAll_ok svs ms ws ρ ρ2 H m ds τ vs I hl S hp
  have rA := argsQ_R S2 ra
  obtain ⟨l1, _⟩ := argsR_len rA
  have hM := argsQ_M ra
  have eM : mOf (ms ++ dd.map fun _ => .s) (ds ++ dd) = mOf ms ds := mOf_app l1
  have nd : (mOf ms ds).Nodup := by
    exact stoM_nodup S2 (Nat.le_trans (mOf_le ms ds) h1)
  have hsc : ∀ a, ((mOf ms ds ≠ [] ∧ g.S a) ∨ H2 a = none) → g.S a := fun a z => z.elim And.right fun z => S2.snew a (S2.free z)
  refine thn (run_fnQ (Q := fun v H3 => ∃ sv σ0, CallR' X.K g.T g.S (mOf ms ds) H2 H3 ∧ SVR X.K ⟨g.gm m, [], g.T, H2, [], fun a => (mOf ms ds ≠ [] ∧ g.S a) ∨ H2 a = none⟩ H3 σ0 sv (some v) ∧ sv.isBor = false ∧ (∀ a, ownOf sv (some v) = some a → H2 a = none) ∧ Φ (sv.dem m) ρ2)
    (E := fun c d H3 => ∃ x, CallR' X.K g.T g.S (mOf ms ds) H2 H3 ∧ ExnOk X.K g H3 x c d ∧ Ξ x ρ2) F hr hb hd tk I2 r ?_ ?_) fun u s' hx => ?_
  · refine ⟨g.gm m, fun a => (mOf ms ds ≠ [] ∧ g.S a) ∨ H2 a = none, ds ++ dd, fun r => Φ (r.dem m) ρ2, fun e => Ξ e ρ2, fun a ha _ => S2.gnew a (S2.free ha), fun a ha => .inr ha, fun z a h => h.elim (fun q => absurd (eM ▸ z) q.1) id, S2.tabs, argsR_up (fun a ha b hb => .inl ⟨fun z => (by rw [eM, z] at ha; cases ha), hb⟩) (argsR_app (hdd _ _ _) rA), by rw [eM]; exact nd, hq, ?_, ?_⟩
    · intro sv v H3 σ0 c hs hb ho hR
      rw [eM] at c
      exact ⟨sv, σ0, c.up hsc, hs, hb, ho, hR⟩
    · intro x c d H3 c2 ok hF
      rw [eM] at c2
      exact ⟨x, c2.up hsc, ok, hF⟩
  · intro c d H3 st hx
    obtain ⟨x, c2, ok, hF⟩ := hx
    exact ⟨x, ρ2, τ, vs, S2.called hM c2 st, ok, hF⟩
  · obtain ⟨v, H3, I3, rv, st, sv, σ0, c, hs, hb2, ho, hR⟩ := hx
    have S3 := S2.called hM c st
    refine ⟨v, H3, sv.dem m, ρ2, I3, rv, S3.push (svr_dem hsc hb2 hs) fun a e => ?_, hR⟩
    rw [own_dem] at e
    have hn := ho a e
    refine ⟨.inl (S2.free hn), fun q hq z => ?_⟩
    obtain ⟨_, w, hw, _⟩ := svr_own (S2.all q hq) z
    rw [hn] at hw
    cases hw
theorem rCall_ok {ms : List Mode} {qs : QSpec} {dd : List D} {svs : List SV} {ρ1 : PSt} {k : RK} {x : RX} (h : (match passAll ms svs ρ1 with
  | some (m, ds, ρ2) => qs (ds ++ dd) (fun r => k (r.dem m) ρ2) (fun e => x e ρ2)
  | none => False)) : ∃ m ds ρ2, passAll ms svs ρ1 = some (m, ds, ρ2) ∧ qs (ds ++ dd) (fun r => k (r.dem m) ρ2) (fun e => x e ρ2) := by
  split at h
  · rename_i m ds ρ2 e; exact ⟨m, ds, ρ2, e, h⟩
  · exact h.elim
/-- f(e, ..) of a def of the text -/
theorem q_call {k : Nat} {f : Addr} {fd : FuncData} {ps : List Str} {ms : List Mode} {qs : QSpec} {dd : List D} {dV : List V} {dvals : List Value} {x : Str} {e : Expr} {es : List Expr} {pa : RA} {p pos : Pos}
    (F : FnOk X.prog X.w X.K X.mg X.base (L2.CX X.prog X.w) k f fd ps (spQ X.K g.T (ms ++ dd.map fun _ => .s) qs)) (hr : Room k X.A) (hg : Gl X x) (hm : X.mg x = some (.ref f)) (hk : PySem.W.keepIn X.K (.ref f) = true) (hb : Binds X.K fd ps dvals) (hd : Vals dV dvals) (hdd : ∀ K G H, Reps K G H dd dV)
    (ha : QA X g (e :: es) pa) (h1 : (ms.filter isT).length ≤ 1 := by decide) (hdb : (x == ("__debug__" : Str)) = false := by decide) (he : starEach (e :: es) X.env = (false, eval e X.env) :: starEach es X.env := by rfl)
    (hpl : (backTo pos (starEach es X.env)).any (·.1) = false := by rfl) : QE X g (.Call (.Name x p) (e :: es) [] pos) (rCall ms qs dd pa) := by
  refine ⟨fun pins s σ H τ vs ρ Φ Ξ tk I S hw => ?_⟩
  apply wpAny_Call_Name_kw
  refine ld_glob I hg hm ?_ hdb
  refine PySem.W.callWith_K (h₀ := X.base) I.ok.mod.kin hk (thn (ha.run pos pins s σ H τ vs ρ _ Ξ tk I S hw) fun us s1 hx => ?_) he hpl
  obtain ⟨ws, H1, svs, ρ1, I1, r, hl, S1, q⟩ := hx
  obtain ⟨m, ds, ρ2, e1, q⟩ := rCall_ok q
  exact ⟨I1.kIn, call_core F hr hb hd hdd h1 tk I1 r hl S1 e1 q⟩
theorem q_call0 {k : Nat} {f : Addr} {fd : FuncData} {ps : List Str} {qs : QSpec} {dd : List D} {dV : List V} {dvals : List Value} {x : Str} {p pos : Pos}
    (F : FnOk X.prog X.w X.K X.mg X.base (L2.CX X.prog X.w) k f fd ps (spQ X.K g.T ([] ++ dd.map fun _ => .s) qs)) (hr : Room k X.A) (hg : Gl X x) (hm : X.mg x = some (.ref f)) (hk : PySem.W.keepIn X.K (.ref f) = true) (hb : Binds X.K fd ps dvals) (hd : Vals dV dvals) (hdd : ∀ K G H, Reps K G H dd dV)
    (hdb : (x == ("__debug__" : Str)) = false := by decide) : QE X g (.Call (.Name x p) [] [] pos) (rCall [] qs dd rNil) := by
  refine ⟨fun pins s σ H τ vs ρ Φ Ξ tk I S hw => ?_⟩
  apply wpAny_Call_Name_kw
  refine ld_glob I hg hm ?_ hdb
  obtain ⟨m, ds, ρ2, e1, q⟩ := rCall_ok (k := Φ) (x := Ξ) (ms := []) (svs := []) (ρ1 := ρ) (qs := qs) (dd := dd) (show (match passAll [] [] ρ with
    | some (m, ds, ρ2) => qs (ds ++ dd) (fun r => Φ (r.dem m) ρ2) (fun e => Ξ e ρ2)
    | none => False) from hw)
  exact PySem.W.callWith_K0 I.kIn hk (call_core (us := []) (ws := []) (svs := []) F hr hb hd hdd (Nat.zero_le _) tk I .nil rfl S e1 q)
end
end Q

namespace Q
open PySem PySem.Spec PyProof.Rows L2
/-! ### targets -/
/-- the slots at js alone are stored -/
def Wr (js : List Nat) (σ σ' : L2.St) : Prop := ∀ vs : List Nat, (∀ j ∈ js, j ∈ vs) → wipe σ' vs = wipe σ vs
theorem Wr.refl {js : List Nat} {σ : L2.St} : Wr js σ σ := fun _ _ => rfl
theorem Wr.trans {js ks : List Nat} {σ σ1 σ2 : L2.St} (a : Wr js σ σ1) (b : Wr ks σ1 σ2) : Wr (js ++ ks) σ σ2 := fun vs h => (b vs fun j hj => h j (List.mem_append_right _ hj)).trans (a vs fun j hj => h j (List.mem_append_left _ hj))
theorem wipe_setv {σ : L2.St} {i : Nat} {x : Option V} : ∀ {vs : List Nat}, i ∈ vs → wipe (σ.set i x) vs = wipe σ vs
  | v :: vs, h => by
    unfold wipe
    by_cases hv : i ∈ vs
    · rw [wipe_setv hv]
    · have e : i = v := by
        rcases List.mem_cons.mp h with h | h
        · exact h
        · exact absurd h hv
      subst e
      have q : ∀ {vs : List Nat}, i ∉ vs → wipe (σ.set i x) vs = (wipe σ vs).set i x := fun {vs} => by
        induction vs with
        | nil => intro _; rfl
        | cons w ws ih =>
          intro h
          unfold wipe
          rw [ih (fun z => h (List.mem_cons_of_mem _ z))]
          exact List.set_comm _ _ (fun z => h (by rw [z]; exact List.mem_cons_self))
      rw [q hv, List.set_set]
structure QG (X : Cx) (g : Gh) (js : List Nat) (tg : Expr) (r : RG) : Prop where
  run : ∀ (pins : List (Addr × Obj)) (s : Shared) (σ : L2.St) (H : Hp) (τ : List SV) (vs : List V) (ρ : PSt) (sv : SV) (v : V) (u : Value) (k : PSt → Prop), NoBor τ → sv.isBor = false → L2.Inv X pins σ H s → RelV v u → SR X.K g ρ σ (sv :: τ) (v :: vs) H → r sv ρ k →
    wpAny (model X.prog X.w) X.A (assign tg X.env u) (fun _ s' => ∃ σ' H' ρ', L2.Inv X pins σ' H' s' ∧ SR X.K g ρ' σ' τ vs H' ∧ k ρ' ∧ Wr js σ σ') X.xe s
def tqg (X : Cx) (g : Gh) (js : List Nat) (r : RG) : TG := fun v σ H Q => ∃ τ vs ρ sv k, NoBor τ ∧ sv.isBor = false ∧ SR X.K g ρ σ (sv :: τ) (v :: vs) H ∧ r sv ρ k ∧ ∀ ρ' σ' H', SR X.K g ρ' σ' τ vs H' → k ρ' → Wr js σ σ' → Q σ' H'
section
variable {X : Cx} {g : Gh} {tg e : Expr} {es : List Expr} {r : RG} {p q : RE} {pos : Pos} {js ks : List Nat}
theorem QG.pg (h : QG X g js tg r) : PG X tg (tqg X g js r) := ⟨fun pins s σ H v u Q I rv ⟨τ, vs, ρ, sv, k, nb, hb, S, hr, hk⟩ =>
  thn (h.run pins s σ H τ vs ρ sv v u k nb hb I rv S hr) fun _ s' ⟨σ', H', ρ', I', S', z, wr⟩ => ⟨σ', H', I', hk _ _ _ S' z wr⟩⟩
theorem qg_name {i : Nat} {x : Str} (hN : X.N.Nodup) (hi : X.N[i]? = some x) (hx : Loc X.env.scope x) (hf : X.fn x = true ∨ X.env.scope.names.lookup x = some .local := by first | exact .inl rfl | exact .inr rfl | assumption) : QG X g [i] (.Name x pos) (gN i) :=
  ⟨fun pins s σ H τ vs ρ sv v u k nb hb I rv S hr => thn ((pg_name (pos := pos) hN hi hx hf).run pins s σ H v u (fun σ' H' => ∃ ρ', SR X.K g ρ' σ' τ vs H' ∧ k ρ' ∧ Wr [i] σ σ') I rv ⟨_, S.assign hb nb, hr, fun ws hw => wipe_setv (hw i (by simp))⟩) fun _ s' ⟨σ', H', I', ρ', S', z, wr⟩ => ⟨σ', H', ρ', I', S', z, wr⟩⟩
/-- (a, b, ..): names one after another -/
structure QGs (X : Cx) (g : Gh) (js : List Nat) (ts : List Expr) (r : List RG) : Prop where
  run : ∀ (pins : List (Addr × Obj)) (s : Shared) (σ : L2.St) (H : Hp) (τ : List SV) (vs : List V) (ρ : PSt) (m : Bool) (ds : List D) (ws : List V) (us : List Value) (k : PSt → Prop), NoBor τ → L2.Inv X pins σ H s → Vals ws us → SR X.K g ρ σ (ds.map (.fr m) ++ τ) (ws ++ vs) H → ds.length = ws.length → gTs r m ds ρ k →
    wpAny (model X.prog X.w) X.A (assignInOrder ((assignEach ts X.env).map (·.2)) us) (fun _ s' => ∃ σ' H' ρ', L2.Inv X pins σ' H' s' ∧ SR X.K g ρ' σ' τ vs H' ∧ k ρ' ∧ Wr js σ σ') X.xe s
theorem nobor_fr {m : Bool} {ds : List D} {τ : List SV} (h : NoBor τ) : NoBor (ds.map (.fr m) ++ τ) := fun sv hs => by
  rcases List.mem_append.mp hs with z | z
  · obtain ⟨d, _, rfl⟩ := List.mem_map.mp z; rfl
  · exact h sv z
theorem qgs_nil : QGs X g [] [] [] := ⟨fun pins s σ H τ vs ρ m ds ws us k nb I rv S hl hr => by
  cases ds with
  | nil =>
    cases ws with
    | nil =>
      cases rv
      exact assignInOrder_nil ⟨σ, H, ρ, I, S, hr, Wr.refl⟩
    | cons _ _ => simp at hl
  | cons _ _ => exact hr.elim⟩
theorem qgs_cons {r : RG} {rs : List RG} (h1 : QG X g js e r) (h2 : QGs X g ks es rs) (hs : (assignEach (e :: es) X.env).map (·.2) = assign e X.env :: (assignEach es X.env).map (·.2) := by rfl) : QGs X g (js ++ ks) (e :: es) (r :: rs) :=
  ⟨fun pins s σ H τ vs ρ m ds ws us k nb I rv S hl hr => by
    cases ds with
    | nil => exact hr.elim
    | cons d ds =>
      cases ws with
      | nil => simp at hl
      | cons w ws =>
        cases rv with
        | cons r1 rr =>
          rw [hs]
          refine assignInOrder_cons (thn (h1.run pins s σ H (ds.map (SV.fr m) ++ τ) (ws ++ vs) ρ (.fr m d) w _ _ (nobor_fr nb) rfl I r1 (show SR X.K g ρ σ (SV.fr m d :: (ds.map (SV.fr m) ++ τ)) (w :: (ws ++ vs)) H from S) hr) fun _ s1 hx => ?_)
          obtain ⟨σ1, H1, ρ1, I1, S1, z, w1⟩ := hx
          exact thn (h2.run pins s1 σ1 H1 τ vs ρ1 m ds ws _ k nb I1 rr S1 (by simpa using hl) z) fun _ s2 ⟨σ2, H2, ρ2, I2, S2, z2, w2⟩ => ⟨σ2, H2, ρ2, I2, S2, z2, w1.trans w2⟩⟩
theorem reps_push {K : PySem.W.Frag} {τ : List SV} {vs : List V} {ρ : PSt} {σ : L2.St} {H : Hp} {m : Bool} (S : SR K g ρ σ τ vs H) : ∀ {ds : List D} {ws : List V}, Reps K (g.gm m) H ds ws → SR K g ρ σ (ds.map (.fr m) ++ τ) (ws ++ vs) H
  | [], _, h => by cases h; exact S
  | d :: ds, _, ⟨w, ws, e, a, b⟩ => by
    subst e
    exact (reps_push S b).pushF a
theorem qg_tup {ts : List Expr} {k : Nat} {rs : List RG} (hc : X.calm = true) (h : QGs X g js ts rs) (hn : (assignEach ts X.env).length = rs.length := by rfl) (hst : (assignEach ts X.env).findIdx? (·.1) = none := by rfl) : QG X g js (.Tuple ts k pos) (gT rs) :=
  ⟨fun pins s σ H τ vs ρ sv v u k nb hb I rv S hr => by
    obtain ⟨m, ds, rfl, hlr, hr⟩ := gT_ok hr
    obtain ⟨w, hw, a, ws, rfl, f, rp⟩ := S.top
    cases hw
    cases rv
    obtain ⟨its, rvs, ht, hz⟩ := I.tuple f
    have hl := reps_len rp
    refine assign_Tuple_tuple (I.ok.hd hc) ht (by rw [List.size_toArray, hn, ← rvs.length, ← hl]; exact hlr.symm) hst fun h' hx => ?_
    have I1 : L2.Inv X pins σ H { s with heap := h' } := I.kept (t' := s.toks) fun b o e => hx b o (Nat.ne_of_lt (Heap.lt_size e)) e
    exact h.run pins _ σ H τ vs ρ m ds ws _ k nb I1 (by simpa using rvs) (reps_push S.pop rp) hl hr⟩
/-- target = value -/
theorem q_asg (he : QE X g e p) (hg : QG X g js tg r) (hs : swapsWithSole [tg] e pos.line X.env = pure false := by rfl) (hw : swappedStores [tg] e X.env = pure none := by rfl) (h1 : (assignEach [tg] X.env).map (·.2) = [assign tg X.env] := by rfl) : QS X g (.Assign [tg] e pos) (rAsg p r) := by
  refine QS.of (fun Ξ tk => ps_asg (he.peT tk) hg.pg hs hw h1) fun τ vs ρ D σ H nb S hx => ⟨τ, vs, ρ, _, S, hx, fun m d ρ' v H' S' rp z => ?_⟩
  exact ⟨τ, vs, ρ', .fr m d, D.nx, nb, rfl, S'.pushF rp, z, fun ρ' σ' H' S' z _ => ⟨ρ', S', z⟩⟩
end
/-! ### walks -/
structure WalkQ (K : PySem.W.Frag) (g : Gh) (J : It) (m : Bool) (xs : List D) (tx : List SV) (vx : List V) : Prop where
  goes : ∀ (i : Nat) ρ σ τ vs H, SR K g ρ σ (tx ++ τ) (vx ++ vs) H → i < xs.length → J.go i H
  stops : ∀ ρ σ τ vs H, SR K g ρ σ (tx ++ τ) (vx ++ vs) H → J.stop xs.length H
  yields : ∀ (i : Nat) ρ σ τ vs H v H', SR K g ρ σ (tx ++ τ) (vx ++ vs) H → i < xs.length → J.yld i H v H' → ∃ d, xs[i]? = some d ∧ SR K g ρ σ (.fr m d :: (tx ++ τ)) (v :: (vx ++ vs)) H'
  nb : NoBor tx
  len : tx.length = vx.length
def tqi (X : Cx) (g : Gh) (ri : RI) (Ξ : RX) : TI := fun σ H R => ∃ τ vs ρ Φ, SR X.K g ρ σ τ vs H ∧ ri ρ Φ Ξ ∧ ∀ J m xs ρ' tx vx H', SR X.K g ρ' σ (tx ++ τ) (vx ++ vs) H' → WalkQ X.K g J m xs tx vx → Φ m xs ρ' → R J H'
def QI (X : Cx) (g : Gh) (tg e : Expr) (ri : RI) : Prop := ∀ Ξ, Takes X (WQ X g Ξ) → PI X tg e (tqi X g ri Ξ)
theorem PI.imp {X : Cx} {tg e : Expr} {t t' : TI} (h : PI X tg e t) (i : ∀ σ H R, t' σ H R → t σ H R) : PI X tg e t' := ⟨fun pins s σ H R I hw => h.run pins s σ H R I (i σ H R hw)⟩
section
variable {X : Cx} {g : Gh} {tg e a b : Expr} {p q : RE} {pos pf : Pos}
theorem scr_sq {K : PySem.W.Frag} {G : Addr → Prop} {H : Hp} {a : Addr} {xs : List V} (f : Fz G H a (.lst xs) ∨ KL K a xs) : SqL K H a xs := f.imp (fun f => f.rd) id
theorem qi_list (h : QE X g e p) : QI X g tg e (riL p) := fun Ξ tk => PI.imp (pi_list (h.peT tk)) fun σ H R ⟨τ, vs, ρ, Φ, S, hw, k⟩ => by
  refine ⟨τ, vs, ρ, _, S, hw, fun m d ρ' v H' S' r q => ?_⟩
  cases d with
  | lst xs =>
    obtain ⟨a, ws, rfl, f, rp⟩ := id r
    refine ⟨a, rfl, ⟨ws, .inl f.rd⟩, k (Itl X.K a) m xs ρ' [.fr m (.lst xs)] [.ref a] H' (S'.pushF r) ⟨?_, ?_, ?_, ?_, rfl⟩ q⟩
    · intro i ρ σ τ vs H S hi
      obtain ⟨w, hw, b, us, e, f, rp⟩ := S.top
      cases hw; cases e
      have hl := reps_len rp
      exact ⟨us, us[i]'(by omega), .inl f.rd, by simp⟩
    · intro ρ σ τ vs H S
      obtain ⟨w, hw, b, us, e, f, rp⟩ := S.top
      cases hw; cases e
      exact ⟨us, .inl f.rd, by rw [reps_len rp]; exact Nat.le_refl _⟩
    · intro i ρ σ τ vs H v H' S hi y
      obtain ⟨w, hw, b, us, e, f, rp⟩ := S.top
      cases hw; cases e
      obtain ⟨rfl, hy⟩ := y
      have hv := hy us (.inl f.rd)
      obtain ⟨u, hu, ru⟩ := reps_get rp (List.getElem?_eq_getElem hi)
      rw [hv] at hu
      cases hu
      exact ⟨xs[i], List.getElem?_eq_getElem hi, S.pushF ru⟩
    · intro sv hsv
      rw [List.mem_singleton.mp hsv]; rfl
  | scr ns =>
    obtain ⟨a, rfl, f⟩ := id r
    have len : (ns.map D.int).length = (ns.map V.int).length := by rw [List.length_map, List.length_map]
    refine ⟨a, rfl, ⟨_, scr_sq f⟩, k (Itl X.K a) true (ns.map .int) ρ' [.fr m (.scr ns)] [.ref a] H' (S'.pushF r) ⟨?_, ?_, ?_, ?_, rfl⟩ q⟩
    · intro i ρ σ τ vs H S hi
      obtain ⟨w, hw, b, e, f⟩ := S.top
      cases hw; cases e
      exact ⟨_, (ns.map V.int)[i]'(by omega), scr_sq f, by simp⟩
    · intro ρ σ τ vs H S
      obtain ⟨w, hw, b, e, f⟩ := S.top
      cases hw; cases e
      exact ⟨_, scr_sq f, by omega⟩
    · intro i ρ σ τ vs H v H' S hi y
      obtain ⟨w, hw, b, e, f⟩ := S.top
      cases hw; cases e
      obtain ⟨rfl, hy⟩ := y
      have hv := hy _ (scr_sq f)
      have hi' : i < ns.length := by simpa using hi
      refine ⟨.int ns[i], by simp [hi'], S.pushF ?_⟩
      rw [List.getElem?_map, List.getElem?_eq_getElem hi'] at hv
      exact (Option.some.inj hv).symm
    · intro sv hsv
      rw [List.mem_singleton.mp hsv]; rfl
  | _ => exact q.elim
theorem qi_tup (h : QE X g e p) : QI X g tg e (riT p) := fun Ξ tk => PI.imp (pi_tup (h.peT tk)) fun σ H R ⟨τ, vs, ρ, Φ, S, hw, k⟩ => by
  refine ⟨τ, vs, ρ, _, S, hw, fun m d ρ' v H' S' r q => ?_⟩
  cases d with
  | tup xs =>
    obtain ⟨a, ws, rfl, f, rp⟩ := id r
    refine ⟨a, rfl, ⟨ws, f⟩, k (Itt X.K a) m xs ρ' [.fr m (.tup xs)] [.ref a] H' (S'.pushF r) ⟨?_, ?_, ?_, ?_, rfl⟩ q⟩
    · intro i ρ σ τ vs H S hi
      obtain ⟨w, hw, b, us, e, f, rp⟩ := S.top
      cases hw; cases e
      have hl := reps_len rp
      exact ⟨us, us[i]'(by omega), f, by simp⟩
    · intro ρ σ τ vs H S
      obtain ⟨w, hw, b, us, e, f, rp⟩ := S.top
      cases hw; cases e
      exact ⟨us, f, by rw [reps_len rp]; exact Nat.le_refl _⟩
    · intro i ρ σ τ vs H v H' S hi y
      obtain ⟨w, hw, b, us, e, f, rp⟩ := S.top
      cases hw; cases e
      obtain ⟨rfl, hy⟩ := y
      have hv := hy us f
      obtain ⟨u, hu, ru⟩ := reps_get rp (List.getElem?_eq_getElem hi)
      rw [hv] at hu
      cases hu
      exact ⟨xs[i], List.getElem?_eq_getElem hi, S.pushF ru⟩
    · intro sv hsv
      rw [List.mem_singleton.mp hsv]; rfl
  | _ => exact q.elim
theorem walkQ_range {K : PySem.W.Frag} {lo : Int} {n : Nat} : WalkQ K g (Itr lo n) true (intsF lo n) [] [] := by
  have hl : (intsF lo n).length = n := by simp [intsF]
  refine ⟨fun i ρ σ τ vs H S hi => ?_, fun ρ σ τ vs H S => ?_, fun i ρ σ τ vs H v H' S hi y => ?_, fun sv h => absurd h (by simp), rfl⟩
  · rw [hl] at hi; exact hi
  · rw [hl]; exact Nat.le_refl _
  · obtain ⟨rfl, rfl⟩ := y
    rw [hl] at hi
    refine ⟨.int (lo + (i : Nat)), by simp [intsF, hi], S.pushF rfl⟩
theorem qi_range1 {pa : RA} (hg : Gl X "range") (hm : X.mg "range" = none) (h : QA X g [a] pa) (hs : starEach [a] X.env = [(false, eval a X.env)] := by rfl) : QI X g tg (.Call (.Name "range" pf) [a] [] pos) (riR1 pa) := fun Ξ tk =>
  PI.imp (pi_range1 hg hm (h.pa tk) hs) fun σ H R ⟨τ, vs, ρ, Φ, S, hw, k⟩ => by
    refine ⟨τ, vs, ρ, _, S, hw, fun svs ρ' us H' hl S' q => ?_⟩
    match svs, us, hl, S', q with
    | [s1], [x], _, S', q =>
      obtain ⟨m, d, e, q⟩ := kV_ok q
      have v1 := view_ok S'.pop S'.top e
      cases d with
      | int n =>
        cases view_int v1
        exact ⟨n, rfl, q.1.1, q.1.2, k (Itr 0 n.toNat) true _ ρ' [] [] H' S'.pop walkQ_range q.2⟩
      | _ => exact q.elim
    | [], _, _, _, q => exact q.elim
    | _ :: _ :: _, _, _, _, q => exact q.elim
theorem qi_range2 {pa : RA} (hg : Gl X "range") (hm : X.mg "range" = none) (h : QA X g [a, b] pa) (hs : starEach [a, b] X.env = [(false, eval a X.env), (false, eval b X.env)] := by rfl) (hs2 : starEach [b] X.env = [(false, eval b X.env)] := by rfl) :
    QI X g tg (.Call (.Name "range" pf) [a, b] [] pos) (riR2 pa) := fun Ξ tk =>
  PI.imp (pi_range2 hg hm (h.pa tk) hs hs2) fun σ H R ⟨τ, vs, ρ, Φ, S, hw, k⟩ => by
    refine ⟨τ, vs, ρ, _, S, hw, fun svs ρ' us H' hl S' q => ?_⟩
    match svs, us, hl, S', q with
    | [s1, s2], [x, y], _, S', q =>
      obtain ⟨m1, d1, m2, d2, e1, e2, z⟩ := kV2_ok q
      have v1 := view_ok S'.pop.pop S'.top e1
      have v2 := view_ok S'.pop.pop S'.pop.top e2
      cases d1 with
      | int i =>
        cases d2 with
        | int j =>
          cases view_int v1
          cases view_int v2
          exact ⟨i, j, rfl, z.1, k _ true _ ρ' [] [] H' S'.pop.pop walkQ_range z.2⟩
        | _ => exact z.elim
      | _ => exact z.elim
    | [], _, _, _, q => exact q.elim
    | [_], _, _, _, q => exact q.elim
    | _ :: _ :: _ :: _, _, _, _, q => exact q.elim
theorem SR.nb_app {tx τ : List SV} (h1 : NoBor tx) (h2 : NoBor τ) : NoBor (tx ++ τ) := fun sv h => (List.mem_append.mp h).elim (h1 sv) (h2 sv)
/-- for target in iter: body -/
theorem q_for {js : List Nat} {ri : RI} {r : RG} {body : List Stmt} {rb : RS} (hp : PassesOwn (model X.prog X.w) X.A X.env X.xe) (hc : X.calm = true) (hi : QI X g tg e ri) (hg : QG X g js tg r) (hb : QSs X g body rb) (hs : ∀ x, foldedSetIterable e X.env x = pure x := by intro _; rfl) : QS X g (.For tg e body [] pos) (rFor ri r rb) := by
  refine QS.of (fun Ξ tk => ps_for hp hc (hi Ξ tk) hg.pg (hb.pss tk) hs) fun τ vs ρ D σ H nb S hw => ?_
  refine ⟨τ, vs, ρ, _, S, hw, fun J m xs ρ1 tx vx H1 S1 W ⟨Iv, i0, turn, fin⟩ => ?_⟩
  refine ⟨fun i n σ H => n = xs.length - i ∧ i ≤ xs.length ∧ ∃ ρ, SR X.K g ρ σ (tx ++ τ) (vx ++ vs) H ∧ Iv i ρ, ⟨xs.length, by simp, Nat.zero_le _, ρ1, S1, i0⟩, ?_⟩
  rintro i n σ H ⟨rfl, hi, ρ, S, iv⟩
  by_cases hlt : i < xs.length
  · refine .inr ⟨W.goes i ρ σ τ vs H S hlt, fun σ' H' => i + 1 ≤ xs.length ∧ ∃ ρ, SR X.K g ρ σ' (tx ++ τ) (vx ++ vs) H' ∧ Iv (i + 1) ρ, fun σ' H' ⟨h1, h2⟩ => ⟨xs.length - (i + 1), by omega, rfl, h1, h2⟩, fun v H' y => ?_⟩
    obtain ⟨d, hd, S'⟩ := W.yields i ρ σ τ vs H v H' S hlt y
    have nb2 := SR.nb_app W.nb nb
    refine ⟨tx ++ τ, vx ++ vs, ρ, .fr m d, _, nb2, rfl, S', turn i d ρ hd iv, fun ρ2 σ2 H2 S2 z _ => ?_⟩
    refine ⟨tx ++ τ, vx ++ vs, ρ2, { D with nx := Iv (i + 1), ct := Iv (i + 1), bk := D.nx }, nb2, rfl, S2, z, fun ρ' σ' H' S' z => ⟨hlt, ρ', S', z⟩, fun sv ρ' v σ' H' S' z => ?_, fun ρ' σ' H' S' z => ⟨ρ', S'.drop W.len, z⟩, fun ρ' σ' H' S' z => ⟨hlt, ρ', S', z⟩⟩
    exact ⟨σ', sv, ρ', SR.drop (svs := tx) (us := vx) W.len (S'.sink W.len), z⟩
  · have e : i = xs.length := by omega
    subst e
    exact .inl ⟨W.stops ρ σ τ vs H S, ρ, S.drop W.len, fin ρ iv⟩
end
end Q

namespace Q
open PySem PySem.Spec PyProof.Rows L2
/-! ### the block's slots -/
theorem wipeP_len (ρ : PSt) : ∀ vs : List Nat, (wipeP ρ vs).length = ρ.length
  | [] => rfl
  | v :: vs => by unfold wipeP; rw [List.length_set, wipeP_len ρ vs]
section
variable {K : PySem.W.Frag} {g : Gh} {ρ : PSt} {σ : L2.St} {τ : List SV} {vs : List V} {H : Hp}
/-- a slot is forgotten -/
theorem SR.forget (S : SR K g ρ σ τ vs H) (i : Nat) : SR K g (ρ.set i .no) (σ.set i none) τ vs H := by
  have key : ∀ q ∈ ents (ρ.set i .no) (σ.set i none) τ vs, q ∈ ents ρ σ τ vs ∨ q = (.no, none) := fun q hq => by
    rw [ents_set S.tlen] at hq
    exact List.mem_or_eq_of_mem_set hq
  refine ⟨by simp [S.len], S.tlen, fun q hq => ?_, ?_, fun q hq a e => ?_, S.keep, S.tabs, S.gnew, S.pin, fun x hx => ?_, S.snew⟩
  · rcases key q hq with z | rfl
    · have h := S.all q z
      obtain ⟨sv, v⟩ := q
      cases sv with
      | bor j =>
        refine ⟨h.1, fun w e => h.2 w ?_⟩
        by_cases hj : i = j
        · subst hj
          rw [List.getElem?_set] at e
          simp at e
        · rw [List.getElem?_set_ne hj] at e; exact e
      | _ => exact h
    · trivial
  · have inj : Injs ((ents ρ σ τ vs).set (τ.length + i) (SV.no, none)) := Injs.set S.inj _ _ fun a e => nomatch (show (none : Option Addr) = some a from e)
    rw [← ents_set S.tlen] at inj
    exact inj
  · rcases key q hq with z | rfl
    · exact S.own q z a e
    · cases e
  · rcases List.mem_or_eq_of_mem_set hx with z | rfl
    · exact S.nb x z
    · rfl
theorem SR.wipe (S : SR K g ρ σ τ vs H) : ∀ js : List Nat, SR K g (wipeP ρ js) (L2.wipe σ js) τ vs H
  | [] => S
  | j :: js => (S.wipe js).forget j
def BorOk (σ : L2.St) (τ : List SV) (vs : List V) : Prop := ∀ p ∈ τ.zip (vs.map some), ∀ i, p.1 = .bor i → ∀ w, σ[i]? = some (some w) → p.2 = some w
theorem SR.borOk (S : SR K g ρ σ τ vs H) : BorOk σ τ vs := fun p hp i e w hw => by
  have h := S.all p (List.mem_append_left _ hp)
  rw [e] at h
  exact h.2 w hw
/-- .. and back -/
theorem SR.unwipe {js : List Nat} (S : SR K g ρ (L2.wipe σ js) τ vs H) (hb : BorOk σ τ vs) : SR K g ρ σ τ vs H := by
  have hl : ρ.length = σ.length := by rw [S.len, wipe_length]
  have at_ : ∀ i, i < σ.length → (L2.wipe σ js)[i]? = σ[i]? ∨ (L2.wipe σ js)[i]? = some none := fun i hi => by
    have : ∀ js : List Nat, (L2.wipe σ js)[i]? = σ[i]? ∨ (L2.wipe σ js)[i]? = some none := fun js => by
      induction js with
      | nil => exact .inl rfl
      | cons j js ih =>
        unfold L2.wipe
        rw [List.getElem?_set]
        split
        · rename_i e; subst e; split
          · exact .inr rfl
          · rename_i h; rw [wipe_length] at h; exact absurd hi h
        · exact ih
    exact this js
  have key : ∀ (k : Nat) q, (ents ρ σ τ vs)[k]? = some q → (ents ρ (L2.wipe σ js) τ vs)[k]? = some q ∨ (q.1 = .no ∧ ownOf q.1 q.2 = none) := fun k q hk => by
    unfold ents at hk ⊢
    by_cases h1 : k < (τ.zip (vs.map some)).length
    · rw [List.getElem?_append_left h1] at hk ⊢
      exact .inl hk
    · rw [List.getElem?_append_right (by omega)] at hk ⊢
      generalize k - (τ.zip (vs.map some)).length = i at hk ⊢
      obtain ⟨e1, e2⟩ := List.getElem?_zip_eq_some.mp hk
      have hi : i < σ.length := (List.getElem?_eq_some_iff.mp e2).1
      rcases at_ i hi with z | z
      · exact .inl (List.getElem?_zip_eq_some.mpr ⟨e1, z.trans e2⟩)
      · right
        obtain ⟨sv, v⟩ := q
        have hm := S.all (sv, none) (List.mem_of_getElem? (ents_at S.tlen i e1 z))
        have : sv = .no := by
          cases sv with
          | no => rfl
          | fr m d => obtain ⟨u, e, _⟩ := hm; cases e
          | ol m d => obtain ⟨u, _, e, _⟩ := hm; cases e
          | od m d => obtain ⟨u, _, e, _⟩ := hm; cases e
          | oo m C d => obtain ⟨u, _, _, e, _⟩ := hm; cases e
          | sto a => have := hm.1; cases this
          | so a kvs => have := hm.1; cases this
          | bor j => have := S.nb _ (List.mem_of_getElem? e1); cases this
        subst this
        exact ⟨rfl, by cases v <;> rfl⟩
  refine ⟨hl, S.tlen, fun q hq => ?_, fun i j p q a e1 e2 h1 h2 => ?_, fun q hq a e => ?_, S.keep, S.tabs, S.gnew, S.pin, S.nb, S.snew⟩
  · obtain ⟨k, hk⟩ := List.mem_iff_getElem?.mp hq
    rcases key k q hk with z | ⟨z, _⟩
    · have h := S.all q (List.mem_of_getElem? z)
      by_cases hbq : q.1.isBor = true
      · obtain ⟨sv, v⟩ := q
        cases sv with
        | bor i =>
          refine ⟨h.1, fun w hw => ?_⟩
          rcases List.mem_append.mp hq with y | y
          · exact hb _ y i rfl w hw
          · have := S.nb _ (List.of_mem_zip y).1
            cases this
        | _ => cases hbq
      · exact svr_sigma (by simpa using hbq) h
    · rw [z]; trivial
  · rcases key i p e1 with z1 | ⟨_, z1⟩
    · rcases key j q e2 with z2 | ⟨_, z2⟩
      · exact S.inj i j p q a z1 z2 h1 h2
      · rw [z2] at h2; cases h2
    · rw [z1] at h1; cases h1
  · obtain ⟨k, hk⟩ := List.mem_iff_getElem?.mp hq
    rcases key k q hk with z | ⟨_, z⟩
    · exact S.own q (List.mem_of_getElem? z) a e
    · rw [z] at e; cases e
/-- an own cell on top is written -/
theorem SR.writeTop {sv sv' : SV} {v : V} {a : Addr} {o : HO} (S : SR K g ρ σ (sv :: τ) (v :: vs) H) (ho : ownOf sv (some v) = some a) (ho' : ownOf sv' (some v) = some a) (ns : sv.stoOf = none) (new : SVR K g (upd H a o) σ sv' (some v)) : SR K g ρ σ (sv' :: τ) (v :: vs) (upd H a o) := by
  have hm : (sv, some v) ∈ ents ρ σ (sv :: τ) (v :: vs) := List.mem_cons_self
  obtain ⟨_, u, hu, mu, nx⟩ := svr_own S.top ho
  have st : Stab H (upd H a o) := stab_mut (by rw [hu]; exact mu)
  have hB : g.B a = none := (S.own _ hm a ho).elim id fun z => absurd z.2 (by rw [show (sv, some v).1.stoOf = none from ns]; exact fun e => nomatch e)
  have S2 : SR K g ρ σ τ vs (upd H a o) := by
    refine S.pop.heap st (fun q hq b e => ?_) (S.keep.upd (.inl hB)) ?_
    · rw [upd_ne]
      rintro rfl
      exact Injs.fresh S.inj ho q hq e
    · intro pt hpt
      obtain ⟨ps, h1, h2, h3⟩ := S.tabs pt hpt
      have ne1 : pt.1 ≠ a := fun z => by rw [z, hu] at h1; cases h1; exact mu
      refine ⟨ps, by rw [upd_ne ne1]; exact h1, h2, fun pos cv hc => ?_⟩
      obtain ⟨c, e1, e2⟩ := h3 pos cv hc
      refine ⟨c, e1, ?_⟩
      rw [upd_ne]
      · exact e2
      rintro rfl
      rw [hu] at e2
      exact nx _ (Option.some.inj e2)
  refine S2.push new fun b e => ?_
  rw [ho'] at e
  cases e
  exact ⟨.inl hB, fun q hq z => Injs.fresh S.inj ho q hq z⟩
end
theorem wipe_wipe (σ : L2.St) : ∀ vs : List Nat, L2.wipe (L2.wipe σ vs) vs = L2.wipe σ vs := fun vs => by
  apply List.ext_getElem?
  intro i
  have one : ∀ (σ : L2.St) (vs : List Nat), (L2.wipe σ vs)[i]? = if i ∈ vs ∧ i < σ.length then some none else σ[i]? := fun σ vs => by
    induction vs with
    | nil => simp [L2.wipe]
    | cons v vs ih =>
      unfold L2.wipe
      rw [List.getElem?_set, wipe_length, ih]
      by_cases h1 : v = i
      · subst h1
        by_cases h2 : v < σ.length
        · simp [h2]
        · simp [h2]
      · simp [h1, Ne.symm h1]
  rw [one, one, wipe_length]
  by_cases h : i ∈ vs ∧ i < σ.length
  · rw [if_pos h, if_pos h]
  · rw [if_neg h, if_neg h]
theorem SR.sinkTop {K : PySem.W.Frag} {g : Gh} {ρ : PSt} {σ : L2.St} {τ tx : List SV} {vs vx : List V} {H : Hp} {sv : SV} {v : V} (S : SR K g ρ σ (sv :: (tx ++ τ)) (v :: (vx ++ vs)) H) (hl : tx.length = vx.length) : SR K g ρ σ (sv :: τ) (v :: vs) H :=
  SR.drop hl (S.sink hl)
/-- without what leans on slots -/
def nob : SV → SV
  | .bor _ => .no
  | sv => sv
theorem nob_nb {τ : List SV} : NoBor (τ.map nob) := fun sv h => by
  obtain ⟨x, _, rfl⟩ := List.mem_map.mp h
  cases x <;> rfl
theorem sto_nob {sv : SV} : (nob sv).stoOf = sv.stoOf := by cases sv <;> rfl
theorem own_nob {sv : SV} {v : Option V} : ownOf (nob sv) v = ownOf sv v := by
  cases v with
  | none => cases sv <;> rfl
  | some v => cases v <;> cases sv <;> rfl
theorem ents_nob {ρ : PSt} {σ : L2.St} {τ : List SV} {vs : List V} (i : Nat) (hl : τ.length = vs.length) : (∀ q, (ents ρ σ τ vs)[i]? = some q → ∃ q', (ents ρ σ (τ.map nob) vs)[i]? = some q' ∧ q'.2 = q.2 ∧ (q'.1 = q.1 ∨ (q'.1 = nob q.1 ∧ q ∈ τ.zip (vs.map some)))) ∧
    (∀ q, (ents ρ σ (τ.map nob) vs)[i]? = some q → ∃ q', (ents ρ σ τ vs)[i]? = some q' ∧ q.2 = q'.2 ∧ (q.1 = q'.1 ∨ (q.1 = nob q'.1 ∧ q' ∈ τ.zip (vs.map some)))) := by
  have e : (τ.map nob).zip (vs.map some) = (τ.zip (vs.map some)).map fun p => (nob p.1, p.2) := by
    rw [List.zip_map_left]
    rfl
  unfold ents
  rw [e]
  have l1 : ((τ.zip (vs.map some)).map fun p => (nob p.1, p.2)).length = (τ.zip (vs.map some)).length := List.length_map _
  constructor
  · intro q hq
    by_cases h1 : i < (τ.zip (vs.map some)).length
    · rw [List.getElem?_append_left h1] at hq
      refine ⟨(nob q.1, q.2), ?_, rfl, .inr ⟨rfl, List.mem_of_getElem? hq⟩⟩
      rw [List.getElem?_append_left (by rw [l1]; exact h1), List.getElem?_map, hq]
      rfl
    · rw [List.getElem?_append_right (by omega)] at hq
      refine ⟨q, ?_, rfl, .inl rfl⟩
      rw [List.getElem?_append_right (by rw [l1]; omega), l1]
      exact hq
  · intro q hq
    by_cases h1 : i < (τ.zip (vs.map some)).length
    · rw [List.getElem?_append_left (by rw [l1]; exact h1), List.getElem?_map] at hq
      cases hz : (τ.zip (vs.map some))[i]? with
      | none => rw [hz] at hq; cases hq
      | some z =>
        rw [hz] at hq
        cases hq
        refine ⟨z, ?_, rfl, .inr ⟨rfl, List.mem_of_getElem? hz⟩⟩
        rw [List.getElem?_append_left h1]
        exact hz
    · rw [List.getElem?_append_right (by rw [l1]; omega), l1] at hq
      refine ⟨q, ?_, rfl, .inl rfl⟩
      rw [List.getElem?_append_right (by omega)]
      exact hq
section
variable {K : PySem.W.Frag} {g : Gh} {ρ : PSt} {σ : L2.St} {τ : List SV} {vs : List V} {H : Hp}
theorem SR.nobor (S : SR K g ρ σ τ vs H) : SR K g ρ σ (τ.map nob) vs H := by
  have ow : ∀ {q q' : SV × Option V}, q.2 = q'.2 → (q.1 = q'.1 ∨ (q.1 = nob q'.1 ∧ q' ∈ τ.zip (vs.map some))) → ownOf q.1 q.2 = ownOf q'.1 q'.2 := fun {q q'} e1 e2 => by
    rw [e1]
    rcases e2 with e | ⟨e, _⟩
    · rw [e]
    · rw [e, own_nob]
  refine ⟨S.len, by rw [List.length_map]; exact S.tlen, fun q hq => ?_, fun i j p q a e1 e2 h1 h2 => ?_, fun q hq a e => ?_, S.keep, S.tabs, S.gnew, S.pin, S.nb, S.snew⟩
  · obtain ⟨i, hi⟩ := List.mem_iff_getElem?.mp hq
    obtain ⟨q', h1, h2, h3⟩ := (ents_nob i S.tlen).2 q hi
    have z := S.all q' (List.mem_of_getElem? h1)
    rw [h2]
    rcases h3 with e | ⟨e, _⟩
    · rw [e]; exact z
    · rw [e]
      obtain ⟨sv, v⟩ := q'
      cases sv with
      | bor k => trivial
      | _ => exact z
  · obtain ⟨p', p1, p2, p3⟩ := (ents_nob i S.tlen).2 p e1
    obtain ⟨q', q1, q2, q3⟩ := (ents_nob j S.tlen).2 q e2
    rw [ow p2 p3] at h1
    rw [ow q2 q3] at h2
    exact S.inj i j p' q' a p1 q1 h1 h2
  · obtain ⟨i, hi⟩ := List.mem_iff_getElem?.mp hq
    obtain ⟨q', h1, h2, h3⟩ := (ents_nob i S.tlen).2 q hi
    rw [ow h2 h3] at e
    rcases S.own q' (List.mem_of_getElem? h1) a e with z | ⟨z1, z2⟩
    · exact .inl z
    · refine .inr ⟨z1, ?_⟩
      rcases h3 with w | ⟨w, _⟩
      · rw [w]; exact z2
      · rw [w, sto_nob, z2]
theorem SR.rebor (S : SR K g ρ σ (τ.map nob) vs H) (hb : BorOk σ τ vs) (hl : τ.length = vs.length) : SR K g ρ σ τ vs H := by
  have ow : ∀ {q q' : SV × Option V}, q'.2 = q.2 → (q'.1 = q.1 ∨ (q'.1 = nob q.1 ∧ q ∈ τ.zip (vs.map some))) → ownOf q'.1 q'.2 = ownOf q.1 q.2 := fun {q q'} e1 e2 => by
    rw [e1]
    rcases e2 with e | ⟨e, _⟩
    · rw [e]
    · rw [e, own_nob]
  refine ⟨S.len, hl, fun q hq => ?_, fun i j p q a e1 e2 h1 h2 => ?_, fun q hq a e => ?_, S.keep, S.tabs, S.gnew, S.pin, S.nb, S.snew⟩
  · obtain ⟨i, hi⟩ := List.mem_iff_getElem?.mp hq
    obtain ⟨q', h1, h2, h3⟩ := (ents_nob i hl).1 q hi
    have z := S.all q' (List.mem_of_getElem? h1)
    rw [h2] at z
    rcases h3 with e | ⟨e, hm⟩
    · rw [e] at z; exact z
    · obtain ⟨sv, v⟩ := q
      cases sv with
      | bor k =>
        refine ⟨?_, fun w hw => hb _ hm k rfl w hw⟩
        obtain ⟨_, hv⟩ := List.of_mem_zip hm
        obtain ⟨y, _, rfl⟩ := List.mem_map.mp hv
        rfl
      | _ => rw [e] at z; exact z
  · obtain ⟨p', p1, p2, p3⟩ := (ents_nob i hl).1 p e1
    obtain ⟨q', q1, q2, q3⟩ := (ents_nob j hl).1 q e2
    rw [← ow p2 p3] at h1
    rw [← ow q2 q3] at h2
    exact S.inj i j p' q' a p1 q1 h1 h2
  · obtain ⟨i, hi⟩ := List.mem_iff_getElem?.mp hq
    obtain ⟨q', h1, h2, h3⟩ := (ents_nob i hl).1 q hi
    rw [← ow h2 h3] at e
    rcases S.own q' (List.mem_of_getElem? h1) a e with z | ⟨z1, z2⟩
    · exact .inl z
    · refine .inr ⟨z1, ?_⟩
      rcases h3 with w | ⟨w, _⟩
      · rw [← w]; exact z2
      · rw [w, sto_nob] at z2; exact z2
end
/-! ### list comprehensions -/
structure QTs (X : Cx) (g : Gh) (ifs : List Expr) (p : RT) : Prop where
  pts : ∀ Ξ, Takes X (WQ X g Ξ) → PTs X ifs (tqt X g p Ξ)
theorem qts_nil {X : Cx} {g : Gh} : QTs X g [] rYes := ⟨fun Ξ _ => ⟨fun pins s σ H Q I ⟨τ, vs, ρ, Φ, S, hp, k⟩ => wpAny_tests_nil ⟨H, I, k true ρ H S hp⟩⟩⟩
theorem qts_one {X : Cx} {g : Gh} {c : Expr} {p : RT} (h : QT X g c p) : QTs X g [c] p := ⟨fun Ξ tk => pts_one (h.pt tk)⟩
theorem takes_noX {X : Cx} {g : Gh} : Takes X (WQ X g noX) := Takes.imp takes0 fun c d σ H h => by
  obtain ⟨_, _, _, _, _, _, z⟩ := h
  exact z
section
variable {X : Cx} {g : Gh} {elt tg iter : Expr} {ifs : List Expr} {scope : Scope} {own : List (Str × Nat)} {pos : Pos} {ri : RI} {r : RG} {tt : RT} {te : RE} {js : List Nat}
theorem map_nob : ∀ {tx : List SV}, NoBor tx → tx.map nob = tx
  | [], _ => rfl
  | x :: r, h => by
    have h1 := h x List.mem_cons_self
    rw [List.map_cons, map_nob fun sv hs => h sv (List.mem_cons_of_mem _ hs)]
    cases x <;> first | rfl | cases h1
theorem nob_app {K : PySem.W.Frag} {g : Gh} {ρ : PSt} {σ : L2.St} {tx τ : List SV} {vs : List V} {H : Hp} (h : NoBor tx) (S : SR K g ρ σ ((tx ++ τ).map nob) vs H) : SR K g ρ σ (tx ++ τ.map nob) vs H := by
  have e : tx.map nob = tx := map_nob h
  rw [List.map_append, e] at S
  exact S
theorem lc_read {τ : List SV} {vs : List V} {ρ : PSt} {σ : L2.St} {H : Hp} {Φ : RK} {Ξ : RX} {ow : List Nat} {Y : Cx} (hj : ∀ j ∈ js, j ∈ ow) (S : SR X.K g ρ σ τ vs H) (hw : rLc ow ri r tt te ρ Φ Ξ) (hY : Y.K = X.K) :
    tLc (tqi X g ri Ξ) (tqg Y g js r) (tqt Y g tt noX) (tqeT Y g te noX) ow σ H fun v H' => ∃ ma acc ρ', SR X.K g ρ' σ (.ol ma acc :: τ) (v :: vs) H' ∧ Φ (.ol ma acc) ρ' := by
  refine ⟨τ, vs, ρ, _, S, hw, fun J m xs ρ1 tx vx H1 S1 W hI D hD => ?_⟩
  obtain ⟨Iv, i0, turn, fin⟩ := hI
  have bo : BorOk σ τ vs := S.borOk
  have tl : τ.length = vs.length := S.tlen
  have mk : ∀ {ρ σ H acc ma v}, SR X.K g ρ σ (SV.ol ma acc :: (tx ++ τ.map nob)) (v :: (vx ++ vs)) H → SR X.K g ρ σ (tx ++ (SV.ol ma acc :: τ.map nob)) (vx ++ (v :: vs)) H := fun S => S.sink W.len
  refine ⟨fun i n H => n = xs.length - i ∧ i ≤ xs.length ∧ ∃ acc ma ρ, SR X.K g ρ (L2.wipe σ ow) (tx ++ (SV.ol ma acc :: τ.map nob)) (vx ++ (V.ref D :: vs)) H ∧ Iv i acc ma ρ, ⟨xs.length, by simp, Nat.zero_le _, [], true, _, mk (SR.newList (nob_app W.nb (S1.nobor.wipe ow)) hD rfl), i0⟩, ?_⟩
  rintro i n H ⟨rfl, hi, acc, ma, ρ, S, iv⟩
  by_cases hlt : i < xs.length
  · refine .inr ⟨W.goes i ρ _ _ _ H S hlt, fun H' => i + 1 ≤ xs.length ∧ ∃ acc ma ρ, SR X.K g ρ (L2.wipe σ ow) (tx ++ (SV.ol ma acc :: τ.map nob)) (vx ++ (V.ref D :: vs)) H' ∧ Iv (i + 1) acc ma ρ, fun H' h => ⟨xs.length - (i + 1), by omega, rfl, h⟩, fun v H' y => ?_⟩
    obtain ⟨d, hd, S'⟩ := W.yields i ρ _ _ _ H v H' S hlt y
    refine ⟨tx ++ (SV.ol ma acc :: τ.map nob), vx ++ (V.ref D :: vs), ρ, .fr m d, _, ?_, rfl, by rw [hY]; exact S', turn i d acc ma ρ hd iv, fun ρ2 σ2 H2 S2 z wr => ?_⟩
    · exact SR.nb_app W.nb fun sv h => (List.mem_cons.mp h).elim (fun z => by rw [z]; rfl) (nob_nb sv)
    · have we : L2.wipe σ2 ow = L2.wipe σ ow := by
        rw [wr ow hj, wipe_wipe]
      refine ⟨we, _, _, ρ2, _, S2, z, fun b ρ3 H3 S3 z => ?_⟩
      have back : ∀ {ρ H}, SR X.K g ρ σ2 (tx ++ (SV.ol ma acc :: τ.map nob)) (vx ++ (V.ref D :: vs)) H → SR X.K g (wipeP ρ ow) (L2.wipe σ ow) (tx ++ (SV.ol ma acc :: τ.map nob)) (vx ++ (V.ref D :: vs)) H := fun S => by
        have := S.wipe ow
        rw [we] at this
        exact this
      rw [hY] at S3
      cases b with
      | false => exact ⟨hlt, acc, ma, _, back S3, z.f rfl⟩
      | true =>
        refine ⟨_, _, ρ3, _, by rw [hY]; exact S3, z.t rfl, fun md d4 ρ4 y4 H4 S4 r4 z => ?_⟩
        rw [hY] at S4 r4
        have T := (back S4).lift W.len
        obtain ⟨a, ws, e, c, rp⟩ := T.top
        cases e
        refine ⟨ws, c, by rw [line_eq, ← reps_len rp]; exact z.1, hlt, acc ++ [d4], ma && md, _, ?_, z.2⟩
        have st : Stab H4 (upd H4 D (.lst (ws ++ [y4]))) := stab_mut (by rw [c]; trivial)
        refine (SR.writeTop (sv' := .ol (ma && md) (acc ++ [d4])) T rfl rfl rfl ⟨D, _, rfl, upd_same, ?_⟩).sink W.len
        exact reps_app (Reps.mono (Gh.gm_mono fun h => (Bool.and_eq_true_iff.mp h).1) st _ _ rp) (reps_one (Rep.mono (Gh.gm_mono fun h => (Bool.and_eq_true_iff.mp h).2) st _ _ r4))
  · have e : i = xs.length := by omega
    subst e
    refine .inl ⟨W.stops ρ _ _ _ H S, ma, acc, ρ, ?_, fin acc ma ρ iv⟩
    have T := (S.lift W.len).sinkTop W.len
    have T2 : SR X.K g ρ σ ((SV.ol ma acc :: τ).map nob) (V.ref D :: vs) H := T.unwipe (by
      intro p hp i e w hw
      have := nob_nb (τ := SV.ol ma acc :: τ) p.1 (List.of_mem_zip hp).1
      rw [e] at this
      cases this)
    exact T2.rebor (by
      intro p hp i e w hw
      rw [List.map_cons, List.zip_cons_cons] at hp
      rcases List.mem_cons.mp hp with rfl | hp
      · cases e
      · exact bo p hp i e w hw) (by simp [tl])
theorem tLc_mono {wi : TI} {gg : TG} {t2 : TT} {t3 : TE} {ow : List Nat} {σ : L2.St} {H : Hp} {Q Q' : VK} (m : ∀ v H, Q v H → Q' v H) (h : tLc wi gg t2 t3 ow σ H Q) (mono : ∀ R R' : It → Hp → Prop, (∀ J H, R J H → R' J H) → wi σ H R → wi σ H R') : tLc wi gg t2 t3 ow σ H Q' :=
  mono _ _ (fun J H1 h D hD => by
    obtain ⟨W, h1, h2⟩ := h D hD
    exact ⟨W, h1, fun i m' H hw => (h2 i m' H hw).imp (fun z => ⟨z.1, m _ _ z.2⟩) id⟩) h
theorem tqi_mono {X : Cx} {ri : RI} {Ξ : RX} (R R' : It → Hp → Prop) {σ : L2.St} {H : Hp} (i : ∀ J H, R J H → R' J H) (h : tqi X g ri Ξ σ H R) : tqi X g ri Ξ σ H R' := by
  obtain ⟨τ, vs, ρ, Φ, S, hw, k⟩ := h
  exact ⟨τ, vs, ρ, Φ, S, hw, fun J m xs ρ1 tx vx H1 S1 W q => i _ _ (k J m xs ρ1 tx vx H1 S1 W q)⟩
theorem q_lc (hc : X.calm = true) (hN : X.N.Nodup) (hi : QI X g tg iter ri) (ok : BlkOk X.N X.env.scope scope own) (hj : ∀ j ∈ js, j ∈ own.map (·.2))
    (hg : ∀ (s : Shared) (H : Hp) (C : Addr) (cl : List (Str × Addr)) (fp : List Addr), QG (X.blk s H scope (compEnvC scope cl C X.env) fp) g js tg r) (ht : ∀ (s : Shared) (H : Hp) (C : Addr) (cl : List (Str × Addr)) (fp : List Addr), QTs (X.blk s H scope (compEnvC scope cl C X.env) fp) g ifs tt)
    (he : ∀ (s : Shared) (H : Hp) (C : Addr) (cl : List (Str × Addr)) (fp : List Addr), QE (X.blk s H scope (compEnvC scope cl C X.env) fp) g elt te) (hs : ∀ x, foldedSetIterable iter X.env x = pure x := by intro _; rfl) : QE X g (.ListComp elt [⟨tg, iter, ifs, 0⟩] scope pos) (rLc (own.map (·.2)) ri r tt te) := by
  refine QE.of (fun Ξ tk => pe_lc (wi := tqi X g ri Ξ) (g := tqg X g js r) (tt := tqt X g tt noX) (te := tqeT X g te noX) hc hN (hi Ξ tk) ok (fun s H C cl fp => (hg s H C cl fp).pg) (fun s H C cl fp => (ht s H C cl fp).pts noX takes_noX) (fun s H C cl fp => (he s H C cl fp).peT takes_noX) hs) fun τ vs ρ Φ Ξ σ H S hw => ?_
  exact tLc_mono (fun v H' ⟨ma, acc, ρ', S', q⟩ => ⟨_, ρ', S', q⟩) (lc_read hj S hw rfl) fun R R' i h => tqi_mono R R' i h
theorem q_setLc {i : Nat} {y : Str} {py spos : Pos} (hc : X.calm = true) (hN : X.N.Nodup) (hy : X.N[i]? = some y) (hyl : X.env.scope.names.lookup y = some .local)
    (hi : QI X g tg iter ri) (ok : BlkOk X.N X.env.scope scope own) (hj : ∀ j ∈ js, j ∈ own.map (·.2))
    (hg : ∀ (s : Shared) (H : Hp) (C : Addr) (cl : List (Str × Addr)) (fp : List Addr), QG (X.blk s H scope (compEnvC scope cl C X.env) fp) g js tg r) (ht : ∀ (s : Shared) (H : Hp) (C : Addr) (cl : List (Str × Addr)) (fp : List Addr), QTs (X.blk s H scope (compEnvC scope cl C X.env) fp) g ifs tt)
    (he : ∀ (s : Shared) (H : Hp) (C : Addr) (cl : List (Str × Addr)) (fp : List Addr), QE (X.blk s H scope (compEnvC scope cl C X.env) fp) g elt te)
    (hsw : swapsWith (.ListComp elt [⟨tg, iter, ifs, 0⟩] scope pos) (some (.Name y py)) spos.line X.env = pure true := by rfl) (hs : ∀ x, foldedSetIterable iter X.env x = pure x := by intro _; rfl) : QS X g (.Assign [.Name y py] (.ListComp elt [⟨tg, iter, ifs, 0⟩] scope pos) spos) (rSet i (rLc (own.map (·.2)) ri r tt te)) := by
  refine QS.of (fun Ξ tk => ps_setLc (wi := tqi X g ri Ξ) (g := tqg X g js r) (tt := tqt X g tt noX) (te := tqeT X g te noX) hc hN hy hyl hsw (hi Ξ tk) ok (fun s H C cl fp => (hg s H C cl fp).pg) (fun s H C cl fp => (ht s H C cl fp).pts noX takes_noX) (fun s H C cl fp => (he s H C cl fp).peT takes_noX) hs) fun τ vs ρ D σ H nb S hw => ?_
  refine tLc_mono (fun v H' hx => ?_) (lc_read (Φ := kA fun sv ρ' => D.nx (ρ'.set i sv)) hj S hw rfl) fun R R' i h => tqi_mono R R' i h
  obtain ⟨ma, acc, ρ', S', q⟩ := hx
  exact ⟨_, S'.assign rfl nb, q⟩
end
end Q

/-! pure part 2: built-in functions, subscripts, slices, methods -/
namespace Q
open PySem
abbrev Op1 := Bool → D → (SV → Prop) → Prop
def rB1 (o : Op1) (p : RE) : RE := fun ρ k x => p ρ (fun s ρ1 => match s.view ρ1 with
  | some (m, d) => o m d fun r => k r ρ1
  | none => False) x
/-! ### isinstance -/
inductive Ty where
  | int | bool | str | list | tuple | dict
  deriving DecidableEq
def Ty.nm : Ty → String
  | .int => "int" | .bool => "bool" | .str => "str" | .list => "list" | .tuple => "tuple" | .dict => "dict"
def D.tyn : D → Option String
  | .non => some "NoneType" | .bl _ => some "bool" | .int _ => some "int" | .str _ => some "str" | .lst _ => some "list" | .tup _ => some "tuple" | .dk _ => some "dict"
  | _ => none
def D.isa : D → Ty → Bool
  | .bl _, .int => true | .bl _, .bool => true | .int _, .int => true | .str _, .str => true | .lst _, .list => true | .tup _, .tuple => true | .dk _, .dict => true
  | _, _ => false
def D.plain : D → Bool
  | .non | .bl _ | .int _ | .str _ | .lst _ | .tup _ | .dk _ => true
  | _ => false
def oIsa (T : Ty) : Op1 := fun _ d k => d.plain = true ∧ k (.fr true (.bl (d.isa T)))
def oIsas (Ts : List Ty) : Op1 := fun _ d k => d.plain = true ∧ k (.fr true (.bl (Ts.any d.isa)))
def oLen : Op1 := fun _ d k => match d with
  | .lst xs => k (.fr true (.int xs.length))
  | .tup xs => k (.fr true (.int xs.length))
  | .str x => x.length ≤ line ∧ k (.fr true (.int x.length))
  | .dk kvs => k (.fr true (.int kvs.length))
  | _ => False
def oList : Op1 := fun m d k => match d with
  | .lst xs => k (.ol (m || safes xs) xs)
  | .tup xs => k (.ol (m || safes xs) xs)
  | .scr ns => k (.ol true (ns.map .int))
  | _ => False
def oTuple : Op1 := fun m d k => match d with
  | .lst xs => k (.fr m (.tup xs))
  | .tup xs => k (.fr m (.tup xs))
  | _ => False
def oInt1 : Op1 := fun _ d k => match d with
  | .int i => k (.fr true (.int i))
  | .bl b => k (.fr true (.int (if b then 1 else 0)))
  | .str a => ∃ n, PySem.intText? a = some n ∧ a.length ≤ 640 ∧ k (.fr true (.int n))
  | _ => False
def oStr1 : Op1 := fun _ d k => match d with
  | .int i => i.natAbs.log2 < 1920 ∧ k (.fr true (.str (toString i)))
  | _ => False
def oNeg : Op1 := fun _ d k => match d with
  | .int i => k (.fr true (.int (-i)))
  | _ => False
def oAbs : Op1 := fun _ d k => match d with
  | .int i => k (.fr true (.int (if i < 0 then -i else i)))
  | _ => False
def oAll : Op1 := fun _ d k => match d with
  | .lst xs => ∃ bs : List Bool, xs = bs.map D.bl ∧ k (.fr true (.bl (bs.all id)))
  | _ => False
def oAny : Op1 := fun _ d k => match d with
  | .lst xs => ∃ bs : List Bool, xs = bs.map D.bl ∧ k (.fr true (.bl (bs.any id)))
  | _ => False
def oSum : Op1 := fun _ d k => match d with
  | .lst xs => ∃ ns : List Int, xs = ns.map D.int ∧ k (.fr true (.int ns.sum))
  | _ => False
def oMin : Op2 := fun _ d1 _ d2 k => match d1, d2 with
  | .int i, .int j => k (.fr true (.int (if j < i then j else i)))
  | _, _ => False
def oMax : Op2 := fun _ d1 _ d2 k => match d1, d2 with
  | .int i, .int j => k (.fr true (.int (if j > i then j else i)))
  | _, _ => False
abbrev oPow : Op2 := oInt (fun i j => i ^ j.toNat) fun i j => 0 ≤ j ∧ ((j ≤ 1000000 ∧ i.natAbs < 2 ^ 64) ∨ (j ≤ 10000 ∧ i.natAbs.log2 < 10000))
/-! ### subscripts, slices -/
def D.key : D → Option Ky
  | .int i => some (.inl i)
  | .str x => some (.inr x)
  | _ => none
def dget (kvs : List (Ky × D)) (k : Ky) : Option D := (kvs.find? fun kv => decide (kv.1 = k)).map (·.2)
def dput (kvs : List (Ky × D)) (k : Ky) (v : D) : List (Ky × D) :=
  if (kvs.any fun kv => decide (kv.1 = k)) = true then kvs.map (fun kv => if kv.1 = k then (kv.1, v) else kv) else kvs ++ [(k, v)]
def oIx : Op2 := fun m1 d1 _ d2 k => match d1, d2 with
  | .lst xs, .int i => ∃ d, L2.atI xs i = some d ∧ k (.fr m1 d)
  | .tup xs, .int i => ∃ d, L2.atI xs i = some d ∧ k (.fr m1 d)
  | .str x, .int i => x.length ≤ line ∧ ∃ c, L2.atI x.cps.toList i = some c ∧ k (.fr true (.str ⟨#[c]⟩))
  | .dk kvs, y => ∃ ky d, y.key = some ky ∧ dget kvs ky = some d ∧ k (.fr m1 d)
  | _, _ => False
abbrev RO := PSt → (Option Int → PSt → Prop) → RX → Prop
def roN : RO := fun ρ k _ => k none ρ
def roE (p : RE) : RO := fun ρ k x => p ρ (kV fun _ d ρ' => match d with
  | .int i => k (some i) ρ'
  | _ => False) x
def cutD (xs : List D) (lo hi : Option Int) : List D := (xs.drop (HT.sIx xs.length 0 lo)).take (HT.sIx xs.length xs.length hi - HT.sIx xs.length 0 lo)
abbrev OSl := Bool → D → Option Int → Option Int → (SV → Prop) → Prop
def oSl : OSl := fun m d lo hi k => match d with
  | .lst xs => k (.ol m (cutD xs lo hi))
  | .tup xs => ¬ (HT.sIx xs.length 0 lo = 0 ∧ HT.sIx xs.length xs.length hi = xs.length) ∧ k (.fr m (.tup (cutD xs lo hi)))
  | .str z => z.length ≤ line ∧ k (.fr true (.str (L2.cutS z lo hi)))
  | _ => False
def rSl (p : RE) (lo hi : RO) : RE := fun ρ k x => p ρ (fun s ρ1 => lo ρ1 (fun l ρ2 => hi ρ2 (fun h ρ3 => match s.view ρ3 with
  | some (m, d) => oSl m d l h fun r => k r ρ3
  | none => False) x) x) x
/-! ### a < b < c -/
def rChain (o o' : Op2) (pa pb pc : RE) : RE := fun ρ k x => pa ρ (fun s1 ρ1 => pb ρ1 (fun s2 ρ2 => kV2 (fun m1 d1 m2 d2 => o m1 d1 m2 d2 fun r => kB (fun b ρ3 => ifB b (pc ρ3 (fun s3 ρ4 => kV2 (fun m1 d1 m2 d2 => o' m1 d1 m2 d2 fun r => k r ρ4) s2 s3 ρ4) x) (k (.fr true (.bl false)) ρ3)) r ρ2) s1 s2 ρ2) x) x
/-! ### in -/
def oIn (neg : Bool) : Op2 := fun _ d1 _ d2 k => match d1, d2 with
  | .str i, .str j => k (.fr true (.bl (xor neg (!(Builtin.Str.occurrences j i 0 j.length 1).isEmpty))))
  | d, .lst xs => (d.flatd = true ∧ d.dep ≤ 64 ∧ (D.lst xs).flatd = true ∧ (D.lst xs).dep ≤ 64) ∧ k (.fr true (.bl (xor neg (xs.any fun z => D.eqv z d))))
  | d, .dk kvs => ∃ ky, d.key = some ky ∧ k (.fr true (.bl (xor neg (dget kvs ky).isSome)))
  | _, _ => False
/-! ### methods of an own list in slot i -/
abbrev MOp := Bool → List D → Bool → List D → (SV → Bool → List D → Prop) → Prop
def rMS (i : Nat) (o : MOp) (ps : RA) : RE := fun ρ k x => ps ρ (kTs fun m' ds ρ' => match ρ'[i]? with
  | some (.ol m xs) => o m xs m' ds fun r m2 xs2 => k r (ρ'.set i (.ol m2 xs2))
  | _ => False) x
/-- the slot holds an own list when the name is read -/
def rMS2 (i : Nat) (o : MOp) (ps : RA) : RE := fun ρ k x => match ρ[i]? with
  | some (.ol _ _) => rMS i o ps ρ k x
  | _ => False
def moAppend : MOp := fun m xs m' ds k => match ds with
  | [d] => xs.length < line ∧ k (.fr true .non) (m && m') (xs ++ [d])
  | _ => False
def moExtend : MOp := fun m xs m' ds k => match ds with
  | [.lst zs] => xs.length + zs.length ≤ line ∧ k (.fr true .non) (m && m') (xs ++ zs)
  | _ => False
def moPop : MOp := fun m xs _ ds k => match ds with
  | [.int z] => (-(2 ^ 63) ≤ z ∧ z < 2 ^ 63) ∧ ∃ j y, seqIndex? z xs.length = some j ∧ xs[j]? = some y ∧ k (.fr m y) m (xs.eraseIdx j)
  | _ => False
def moPop0 : MOp := fun m xs _ ds k => match ds with
  | [] => ∃ y, xs[xs.length - 1]? = some y ∧ k (.fr m y) m xs.dropLast
  | _ => False
def moClear : MOp := fun m xs _ ds k => match ds with
  | [] => k (.fr true .non) true []
  | _ => False
/-- slot[e] = v -/
def isOwn : SV → Bool
  | .ol _ _ | .od _ _ | .so _ _ => true
  | _ => false
def putIx (i : Nat) (mv : Bool) (dv di : D) (ρ : PSt) (k : PSt → Prop) : Prop := match ρ[i]? with
  | some (.ol m xs) => (match di with
    | .int z => ∃ j, L2.ixN xs.length z = some j ∧ k (ρ.set i (.ol (m && mv) (xs.set j dv)))
    | _ => False)
  | some (.od m kvs) => ∃ ky, di.key = some ky ∧ kvs.length < line ∧ k (ρ.set i (.od (m && mv) (dput kvs ky dv)))
  | some (.so a kvs) => dv.safe = true ∧ ∃ ky, di.key = some ky ∧ kvs.length < line ∧ k (ρ.set i (.so a (dput kvs ky dv)))
  | _ => False
def rSetIx (i : Nat) (pi pv : RE) : RS := fun D ρ => pv ρ (kT fun mv dv ρ1 => match ρ1[i]? with
  | some sv => isOwn sv = true ∧ pi ρ1 (kV fun _ di ρ2 => putIx i mv dv di ρ2 D.nx) D.ex
  | none => False) D.ex
/-! ### dict displays -/
abbrev RP := PSt → (Bool → List (Ky × D) → PSt → Prop) → RX → Prop
def rpNil : RP := fun ρ k _ => k true [] ρ
def rpCons (pk pv : RE) (r : RP) : RP := fun ρ k x => pk ρ (kV fun _ dk ρ1 => pv ρ1 (kT fun m d ρ2 => r ρ2 (fun m' kvs ρ3 => ∃ ky, dk.key = some ky ∧ k (m && m') ((ky, d) :: kvs) ρ3) x) x) x
def mergeD (kvs more : List (Ky × D)) : List (Ky × D) := more.foldl (fun acc kv => dput acc kv.1 kv.2) kvs
def rDict (p : RP) : RE := fun ρ k x => p ρ (fun m kvs ρ' => kvs.length ≤ 15 ∧ k (.od m (mergeD [] kvs)) ρ') x
def rDict0 : RE := fun ρ k _ => k (.od true []) ρ
/-- a text's method: the text, one argument -/
abbrev SOp := Str → Bool → D → (SV → Prop) → Prop
def rS1 (o : SOp) (pa pb : RE) : RE := fun ρ k x => pa ρ (fun s1 ρ1 => match s1 with
  | .fr _ (.str a) => pb ρ1 (fun s2 ρ2 => match s2.view ρ2 with
    | some (m, d) => o a m d fun r => k r ρ2
    | none => False) x
  | _ => False) x
def rS0 (o : Str → (SV → Prop) → Prop) (pa : RE) : RE := fun ρ k x => pa ρ (fun s1 ρ1 => match s1 with
  | .fr _ (.str a) => o a fun r => k r ρ1
  | _ => False) x
def oJoin : SOp := fun a _ d k => match d with
  | .lst xs => ∃ ys : List Str, xs = ys.map D.str ∧ (ys.map (·.length)).sum + ys.length * a.length ≤ 16777216 ∧ k (.fr true (.str (Txt.join a ys)))
  | .tup xs => ∃ ys : List Str, xs = ys.map D.str ∧ (ys.map (·.length)).sum + ys.length * a.length ≤ 16777216 ∧ k (.fr true (.str (Txt.join a ys)))
  | _ => False
def oStarts : SOp := fun a _ d k => match d with
  | .str b => k (.fr true (.bl (Txt.startswith a b)))
  | _ => False
def oEnds : SOp := fun a _ d k => match d with
  | .str b => k (.fr true (.bl (Txt.endswith a b)))
  | _ => False
def oFind : SOp := fun a _ d k => match d with
  | .str b => k (.fr true (.int (Txt.find a b)))
  | _ => False
def oCount : SOp := fun a _ d k => match d with
  | .str b => k (.fr true (.int (Txt.count a b)))
  | _ => False
def oUpper : Str → (SV → Prop) → Prop := fun a k => a.length ≤ 5592405 ∧ k (.fr true (.str (Txt.upper a)))
/-- list * int -/
def oRep : Op2 := fun m1 d1 _ d2 k => match d1, d2 with
  | .lst xs, .int n => (-(2 ^ 63) ≤ n ∧ n < 2 ^ 63 ∧ xs.length * n.toNat ≤ line) ∧ k (.ol m1 (List.replicate n.toNat xs).flatten)
  | .int i, .int j => ((-(2 ^ 64) < i ∧ i < 2 ^ 64) ∨ (-(2 ^ 64) < j ∧ j < 2 ^ 64)) ∧ k (.fr true (.int (i * j)))
  | _, _ => False
end Q
namespace Q
open PySem
def kyD : Ky → D
  | .inl i => .int i
  | .inr x => .str x
/-- over the keys of a dict -/
def riK (p : RE) : RI := fun ρ k x => p ρ (kT fun _ d ρ' => match d with
  | .dk kvs => k true (kvs.map fun kv => kyD kv.1) ρ'
  | _ => False) x
/-- over the signs of a text -/
def riS (p : RE) : RI := fun ρ k x => p ρ (fun s ρ' => match s with
  | .fr _ (.str x) => k true (x.cps.toList.map fun c => .str ⟨#[c]⟩) ρ'
  | _ => False) x
end Q
namespace Q
open PySem
/-! ### calls with keywords -/
def permL {α : Type} (pm : List Nat) (xs : List α) : List α := pm.filterMap fun i => xs[i]?
def rCallK (ms : List Mode) (qs : QSpec) (np : Nat) (pm : List Nat) (pa pk : RA) : RE := fun ρ k x => pa ρ (fun svs ρ1 => pk ρ1 (fun kvs ρ2 => (svs.length = np ∧ (svs ++ kvs).length = pm.length) ∧ match passAll ms (permL pm (svs ++ kvs)) ρ2 with
  | some (m, ds, ρ3) => qs ds (fun r => k (r.dem m) ρ3) (fun e => x e ρ3)
  | none => False) x) x
end Q
namespace Q
open PySem
/-! ### raise -/
/-- a text or an int that fits into a message -/
def D.fits : D → Prop
  | .str s => s.length ≤ 1000000
  | .int i => i.natAbs.log2 < 1920
  | _ => False
def rRaise1 (C : EC) (f1 : Str) (ok : D → Prop) (p : RE) : RS := fun D ρ => p ρ (kT fun _ d ρ' => ok d ∧ D.ex ⟨C, [(f1, d)]⟩ ρ') D.ex
end Q

namespace Q
open PySem
/-! ### the store is opened, closed, made -/
def rOpen (i : Nat) (p : RS) : RS := fun D ρ => match ρ[i]? with
  | some (.sto a) => ∀ kvs, isSto kvs → p D (ρ.set i (.so a kvs))
  | _ => False
def rClose (i : Nat) (p : RS) : RS := fun D ρ => match ρ[i]? with
  | some (.so a kvs) => isSto kvs ∧ p D (ρ.set i (.sto a))
  | _ => False
def rRetSto (p : RE) : RS := fun D ρ => p ρ (fun sv ρ' => match sv with
  | .od m kvs => m = true ∧ isSto kvs ∧ ∀ a, D.rt (.sto a) ρ'
  | _ => False) D.ex
end Q

namespace Q
open PySem
/-! ### try, except; what is asked of the error in the suite -/
def rTryAs (cx : EC) (i : Nat) (pb : RS) (psu : Addr → Exn → RS) : RS := fun D ρ =>
  pb { D with ex := fun e ρ' => ifB (e.cls.sub cx) (∀ a, psu a e { nx := fun r => D.nx (r.set i .no), rt := D.rt, bk := fun r => D.bk (r.set i .no), ct := fun r => D.ct (r.set i .no), ex := noX } (ρ'.set i (.fr true (.ref a)))) (D.ex e ρ') } ρ
def rIsE (a : Addr) (x : Exn) (cx : EC) (i : Nat) : RE := fun ρ k _ => match ρ[i]? with
  | some (.fr _ (.ref b)) => b = a ∧ k (.fr true (.bl (x.cls.sub cx))) ρ
  | _ => False
def rIsEs (a : Addr) (x : Exn) (cs : List EC) (i : Nat) : RE := fun ρ k _ => match ρ[i]? with
  | some (.fr _ (.ref b)) => b = a ∧ k (.fr true (.bl (cs.any x.cls.sub))) ρ
  | _ => False
def rXf (a : Addr) (x : Exn) (n : Str) (i : Nat) : RE := fun ρ k _ => match ρ[i]? with
  | some (.fr _ (.ref b)) => b = a ∧ ∃ d, x.fs.lookup n = some d ∧ k (.fr d.safe d) ρ
  | _ => False
/-! ### own things lent for a while -/
def SV.clean : SV → Bool
  | .fr m d => m || d.safe
  | .ol m _ => m
  | .od m _ => m
  | .oo m _ _ => m
  | _ => false
def SV.lent : SV → SV
  | .fr m d => .fr m d
  | .ol _ xs => .fr false (.lst xs)
  | .od _ kvs => .fr false (.dk kvs)
  | .oo _ C fs => .fr false (.obj C fs)
  | .sto a => .sto a
  | _ => .no
def rLend (p : RE) : RE := fun ρ k _ => p (ρ.map SV.lent) (fun r ρ' => (ρ' = ρ.map SV.lent ∧ r.clean = true) ∧ k r ρ) noX
/-! ### a lambda handed to a def -/
abbrev AskP := (SV → Prop) → (Exn → Prop) → Prop
/-- ask(), the slot i holds what is asked -/
def rAct (f : Addr) (ask : AskP) (i : Nat) : RE := fun ρ k x => match ρ[i]? with
  | some (.fr _ (.ref b)) => b = f ∧ ask (fun r => k r ρ) (fun e => x e ρ)
  | _ => False
/-- what a lambda sees of its maker's slots -/
def SV.seen : SV → SV
  | .fr m d => .fr m d
  | _ => .no
def rAskCall (qs : AskP → AskP) (p : RE) : RE := fun ρ k x => qs (fun R F => p (ρ.map SV.seen) (fun sv ρ' => sv.isBor = false ∧ R sv) (fun e _ => F e)) (fun r => k r ρ) (fun e => x e ρ)
end Q

namespace Q
open PySem PySem.Spec PyProof.Rows L2
/-! ### one argument -/
def Op1Rd (X : Cx) (g : Gh) (r : List V → Hp → VK → Prop) (o : Op1) : Prop := ∀ (σ : L2.St) (τ : List SV) (vs : List V) (ρ : PSt) (H : Hp) (x : V) (m : Bool) (d : D) (k : SV → Prop) (Q : VK), SR X.K g ρ σ τ vs H → ViewR X.K g H m d x → o m d k →
  (∀ sv z H', SR X.K g ρ σ (sv :: τ) (z :: vs) H' → k sv → Q z H') → r [x] H Q
theorem rB1_ok {o : Op1} {s : SV} {ρ1 : PSt} {k : RK} (h : (match s.view ρ1 with
  | some (m, d) => o m d fun r => k r ρ1
  | none => False)) : ∃ m d, s.view ρ1 = some (m, d) ∧ o m d fun r => k r ρ1 := by
  cases e : s.view ρ1 with
  | none => rw [e] at h; exact h.elim
  | some md => rw [e] at h; exact ⟨md.1, md.2, rfl, h⟩
section
variable {X : Cx} {g : Gh} {a b e : Expr} {es : List Expr} {pa pb p : RE} {ps : RA} {r : List V → Hp → VK → Prop} {o : Op1} {pos pf : Pos} {x : Str} {id : String}
theorem b1_rd (hr : Op1Rd X g r o) {Ξ : RX} {τ : List SV} {vs : List V} {ρ : PSt} {Φ : RK} {σ : L2.St} {H : Hp} (S : SR X.K g ρ σ τ vs H) (hw : rB1 o p ρ Φ Ξ) :
    tCB r (tCons (tqe X g p Ξ) tNil) σ H fun v H' => ∃ sv ρ', SR X.K g ρ' σ (sv :: τ) (v :: vs) H' ∧ Φ sv ρ' := by
  refine ⟨τ, vs, ρ, _, S, hw, fun s1 ρ1 x H1 S1 h1 => ?_⟩
  obtain ⟨m, d, e1, q⟩ := rB1_ok h1
  exact hr σ τ vs ρ1 H1 x m d _ _ S1.pop (view_ok S1 S1.top e1) q fun sv z H' S' k => ⟨sv, ρ1, S', k⟩
theorem q_b1 (hc : CallR X (.builtin id) r) (hr : Op1Rd X g r o) (hg : Gl X x) (hm : X.mg x = none) (hv : bootBuiltins x = some (.builtin id)) (ha : QE X g e p) (hn : x ≠ "__name__" := by decide) (hdb : (x == ("__debug__" : Str)) = false := by decide)
    (he : starEach [e] X.env = (false, eval e X.env) :: starEach [] X.env := by rfl) (hpl : (backTo pos (starEach [] X.env)).any (·.1) = false := by rfl) : QE X g (.Call (.Name x pf) [e] [] pos) (rB1 o p) :=
  QE.of (fun Ξ tk => pe_callB hc hg hm hv (pa_cons (ha.pe tk) pa_nil he) hn hdb he hpl) fun τ vs ρ Φ Ξ σ H S hw => b1_rd hr S hw
theorem q_t1 (hc : CallR X (.type id) r) (hr : Op1Rd X g r o) (hg : Gl X x) (hm : X.mg x = none) (hv : bootBuiltins x = some (.type id)) (ha : QE X g e p) (hn : x ≠ "__name__" := by decide) (hdb : (x == ("__debug__" : Str)) = false := by decide)
    (he : starEach [e] X.env = (false, eval e X.env) :: starEach [] X.env := by rfl) (hpl : (backTo pos (starEach [] X.env)).any (·.1) = false := by rfl) : QE X g (.Call (.Name x pf) [e] [] pos) (rB1 o p) :=
  QE.of (fun Ξ tk => pe_callTy hc hg hm hv (pa_cons (ha.pe tk) pa_nil he) hn hdb he hpl) fun τ vs ρ Φ Ξ σ H S hw => b1_rd hr S hw
theorem b2_rd {r : List V → Hp → VK → Prop} {o : Op2} (hr : OpRd X g (fun x y => r [x, y]) o) {Ξ : RX} {τ : List SV} {vs : List V} {ρ : PSt} {Φ : RK} {σ : L2.St} {H : Hp} (S : SR X.K g ρ σ τ vs H) (hw : rOp2 o pa pb ρ Φ Ξ) :
    tCB r (tCons (tqe X g pa Ξ) (tCons (tqe X g pb Ξ) tNil)) σ H fun v H' => ∃ sv ρ', SR X.K g ρ' σ (sv :: τ) (v :: vs) H' ∧ Φ sv ρ' :=
  op2_rd (r := fun x y => r [x, y]) hr S hw
theorem q_b2 {o : Op2} (hc : CallR X (.builtin id) r) (hr : OpRd X g (fun x y => r [x, y]) o) (hg : Gl X x) (hm : X.mg x = none) (hv : bootBuiltins x = some (.builtin id)) (ha : QE X g a pa) (hb : QE X g b pb) (hn : x ≠ "__name__" := by decide) (hdb : (x == ("__debug__" : Str)) = false := by decide)
    (he : starEach [a, b] X.env = (false, eval a X.env) :: starEach [b] X.env := by rfl) (he2 : starEach [b] X.env = (false, eval b X.env) :: starEach [] X.env := by rfl) (hpl : (backTo pos (starEach [b] X.env)).any (·.1) = false := by rfl) : QE X g (.Call (.Name x pf) [a, b] [] pos) (rOp2 o pa pb) :=
  QE.of (fun Ξ tk => pe_callB hc hg hm hv (pa_cons (ha.pe tk) (pa_cons (hb.pe tk) pa_nil he2) he) hn hdb he hpl) fun τ vs ρ Φ Ξ σ H S hw => b2_rd hr S hw
/-! ### isinstance -/
theorem isa_kit {d : D} {t : String} (T : Ty) (h : d.tyn = some t) : kitB t T.nm = some (d.isa T) := by
  cases d <;> first
    | (cases h; cases T <;> (first | rfl | decide +kernel))
    | cases h
theorem plain_ty {K : PySem.W.Frag} {H : Hp} {m : Bool} {d : D} {v : V} (r : ViewR K g H m d v) (h : d.plain = true) : ∃ t, d.tyn = some t ∧ TyX K H v (.type t) := by
  cases d with
  | non => cases (show v = V.non from r); exact ⟨_, rfl, .base .non⟩
  | bl b => cases (show v = V.bl b from r); exact ⟨_, rfl, .base (.bl b)⟩
  | int b => cases (show v = V.int b from r); exact ⟨_, rfl, .base (.int b)⟩
  | str b => cases (show v = V.str b from r); exact ⟨_, rfl, .base (.str b)⟩
  | lst xs =>
    obtain ⟨a, vs, rfl, c, _⟩ := r
    rcases c with c | ⟨o, c⟩
    · exact ⟨_, rfl, .base (.lst c)⟩
    · exact ⟨_, rfl, .base (.frz c)⟩
  | tup xs =>
    obtain ⟨a, vs, rfl, c, _⟩ := r
    rcases c with (c | ⟨o, c⟩) | ⟨o, its, n, c1, c2, _⟩
    · exact ⟨_, rfl, .base (.tup c)⟩
    · exact ⟨_, rfl, .fTuple c⟩
    · exact ⟨_, rfl, .kTuple c1 c2⟩
  | dk xs =>
    obtain ⟨a, vs, rfl, c, _⟩ := r
    rcases c with c | ⟨o, c⟩
    · exact ⟨_, rfl, .base (.dK c)⟩
    · exact ⟨_, rfl, .fDict c⟩
  | dt _ => cases h
  | scr _ => cases h
  | obj _ _ => cases h
  | ref _ => cases h
  | ty _ => cases h
theorem isas_kit {K : PySem.W.Frag} {d : D} {t : String} (h : d.tyn = some t) : ∀ Ts : List Ty, PySem.W.kitAny K (.type t) (Ts.map fun T => Value.type T.nm) = some (Ts.any d.isa)
  | [] => rfl
  | T :: Ts => by
    rw [List.map_cons, List.any_cons]
    refine kitAny_cons (kit_ty (isa_kit T h)) (fun hb => ?_) fun hb => by rw [hb]; rfl
    rw [hb, Bool.false_or]
    exact isas_kit h Ts
theorem tyname {T : Ty} (hg : Gl X (T.nm : Str)) (hm : X.mg (T.nm : Str) = none) {pos : Pos} : PE X (.Name (T.nm : Str) pos) (tC (.ty T.nm)) := by
  cases T <;> exact pe_bltn hg hm (by rfl) rfl
theorem q_isa (T : Ty) {p1 p2 p3 : Pos} (hgi : Gl X "isinstance") (hmi : X.mg "isinstance" = none) (hg : Gl X (T.nm : Str)) (hm : X.mg (T.nm : Str) = none) (ha : QE X g e p)
    (he : starEach [e, .Name (T.nm : Str) p2] X.env = (false, eval e X.env) :: starEach [.Name (T.nm : Str) p2] X.env := by rfl) (he2 : starEach [.Name (T.nm : Str) p2] X.env = (false, eval (.Name (T.nm : Str) p2) X.env) :: starEach [] X.env := by rfl)
    (hpl : (backTo p3 (starEach [.Name (T.nm : Str) p2] X.env)).any (·.1) = false := by rfl) : QE X g (.Call (.Name "isinstance" p1) [e, .Name (T.nm : Str) p2] [] p3) (rB1 (oIsa T) p) := by
  refine QE.of (fun Ξ tk => pe_callB call_isi hgi hmi (by rfl) (pa_cons (ha.pe tk) (pa_cons (tyname hg hm) pa_nil he2) he) (by decide) (by decide) he hpl) fun τ vs ρ Φ Ξ σ H S hw => ?_
  refine ⟨τ, vs, ρ, _, S, hw, fun s1 ρ1 x H1 S1 h1 => ?_⟩
  obtain ⟨m, d, e1, hp, q⟩ := rB1_ok h1
  obtain ⟨t, ht, ty⟩ := plain_ty (view_ok S1 S1.top e1) hp
  exact ⟨x, .ty T.nm, _, _, _, rfl, .ty _, ty, kit_ty (isa_kit T ht), .fr true (.bl (d.isa T)), ρ1, S1.pop.pushF rfl, q⟩
def tCs (cs : List V) : TA := fun _ H Q => Q cs H
theorem pac_nil : PA X [] (tCs []) := pa_nil
theorem pac_cons {v : V} {cs : List V} (h : PE X e (tC v)) (hr : PA X es (tCs cs)) (he : starEach (e :: es) X.env = (false, eval e X.env) :: starEach es X.env := by rfl) : PA X (e :: es) (tCs (v :: cs)) := pa_cons h hr he
theorem q_isas (Ts : List Ty) {p1 p2 p3 : Pos} {k : Nat} (hgi : Gl X "isinstance") (hmi : X.mg "isinstance" = none) (hT : PA X es (tCs (Ts.map fun T => V.ty T.nm))) (hl : Ts.length ≤ 100) (ha : QE X g e p)
    (he : starEach [e, .Tuple es k p2] X.env = (false, eval e X.env) :: starEach [.Tuple es k p2] X.env := by rfl) (he2 : starEach [.Tuple es k p2] X.env = (false, eval (.Tuple es k p2) X.env) :: starEach [] X.env := by rfl)
    (hpl : (backTo p3 (starEach [.Tuple es k p2] X.env)).any (·.1) = false := by rfl) : QE X g (.Call (.Name "isinstance" p1) [e, .Tuple es k p2] [] p3) (rB1 (oIsas Ts) p) := by
  refine QE.of (fun Ξ tk => pe_callB call_isiT hgi hmi (by rfl) (pa_cons (ha.pe tk) (pa_cons (pe_tup hT) pa_nil he2) he) (by decide) (by decide) he hpl) fun τ vs ρ Φ Ξ σ H S hw => ?_
  refine ⟨τ, vs, ρ, _, S, hw, fun s1 ρ1 x H1 S1 h1 => ?_⟩
  obtain ⟨m, d, e1, hp, q⟩ := rB1_ok h1
  refine ⟨by rw [line_eq, List.length_map]; exact Nat.le_trans hl (by decide), fun tp htp => ?_⟩
  have S2 := S1.new (o := .tup (Ts.map fun T => V.ty T.nm)) htp
  obtain ⟨t, ht, ty⟩ := plain_ty (view_ok S2 S2.top e1) hp
  have pr : ∀ Ts : List Ty, Paired ClsV (Ts.map fun T => V.ty T.nm) (Ts.map fun T => Value.type T.nm) := fun Ts => by
    induction Ts with
    | nil => exact .nil
    | cons T Ts ih => exact .cons (.ty _) ih
  exact ⟨x, tp, _, _, _, _, rfl, upd_same, pr Ts, ty, isas_kit ht Ts, .fr true (.bl (Ts.any d.isa)), ρ1, S2.pop.pushF rfl, q⟩
/-! ### len, list, tuple, int, str, all, any, sum, min, max -/
abbrev rLenQ (K : PySem.W.Frag) : List V → Hp → VK → Prop := fun xs H Q => (∃ x n, xs = [x] ∧ LenV K x H n ∧ Q (.int n) H) ∨ ∃ a kvs, xs = [V.ref a] ∧ Rd H a (.dK kvs) ∧ Q (.int kvs.length) H
theorem call_lenR : CallR X (.builtin "len") (fun xs H Q => ∃ a kvs, xs = [V.ref a] ∧ Rd H a (.dK kvs) ∧ Q (.int kvs.length) H) := by
  intro pins s σ H xs us Q I r h
  obtain ⟨a, kvs, rfl, c, q⟩ := h
  obtain ⟨u, rfl, rx⟩ := vals1 r
  cases rx
  exact d_len I c fun t s' I' => ⟨.int kvs.length, H, I', ⟨_, rfl⟩, q⟩
theorem call_lenQ : CallR X (.builtin "len") (rLenQ X.K) := call_len.or call_lenR
theorem repk_len {K : PySem.W.Frag} {G : Addr → Prop} {H : Hp} : ∀ {ds : List (Ky × D)} {vs : List (Ky × V)}, Repk K G H ds vs → ds.length = vs.length
  | [], _, h => by cases h; rfl
  | _ :: r, _, ⟨v, vs', e, _, b⟩ => by rw [e, List.length_cons, List.length_cons, repk_len b]
theorem rd_len : Op1Rd X g (rLenQ X.K) oLen := by
  intro σ τ vs ρ H x m d k Q S v h kk
  unfold oLen at h
  split at h
  · obtain ⟨a, ws, rfl, c, r⟩ := v
    refine .inl ⟨_, ws.length, rfl, .inl ⟨ws, .inl c, rfl⟩, kk _ _ _ (S.pushF (m := true) (d := .int _) ?_) h⟩
    rw [← reps_len r]; rfl
  · obtain ⟨a, ws, rfl, c, r⟩ := v
    refine .inl ⟨_, ws.length, rfl, .inr ⟨ws, c, rfl⟩, kk _ _ _ (S.pushF (m := true) (d := .int _) ?_) h⟩
    rw [← reps_len r]; rfl
  · cases view_str v
    rename_i y
    exact .inl ⟨_, y.length, rfl, ⟨by rw [line_eq]; exact h.1, rfl⟩, kk _ _ _ (S.pushF (m := true) (d := .int _) rfl) h.2⟩
  · obtain ⟨a, ws, rfl, c, r⟩ := v
    refine .inr ⟨a, ws, rfl, c, kk _ _ _ (S.pushF (m := true) (d := .int _) ?_) h⟩
    rw [← repk_len r]; rfl
  · exact h.elim
theorem q_len (hg : Gl X "len") (hm : X.mg "len" = none) (ha : QE X g e p) (he : starEach [e] X.env = (false, eval e X.env) :: starEach [] X.env := by rfl) (hpl : (backTo pos (starEach [] X.env)).any (·.1) = false := by rfl) : QE X g (.Call (.Name "len" pf) [e] [] pos) (rB1 oLen p) :=
  q_b1 call_lenQ rd_len hg hm (by rfl) ha (by decide) (by decide) he hpl
theorem reps_or {K : PySem.W.Frag} {H : Hp} {m : Bool} {xs : List D} {ys : List V} (r : Reps K (g.gm m) H xs ys) : Reps K (g.gm (m || safes xs)) H xs ys := by
  cases hs : safes xs with
  | true => exact reps_safe xs ys hs r
  | false => rw [Bool.or_false]; exact r
theorem reps_nsR {K : PySem.W.Frag} {G : Addr → Prop} {H : Hp} : ∀ {ns : List Int}, Reps K G H (ns.map .int) (ns.map .int)
  | [] => rfl
  | _ :: _ => ⟨_, _, rfl, rfl, reps_nsR⟩
theorem rd_list : Op1Rd X g (fun xs H Q => ∃ p ys, xs = [.ref p] ∧ (SqL X.K H p ys ∨ SqT X.K H p ys) ∧ ∀ l, H l = none → Q (.ref l) (upd H l (.lst ys))) oList := by
  intro σ τ vs ρ H x m d k Q S v h kk
  unfold oList at h
  split at h
  · obtain ⟨a, ws, rfl, c, r⟩ := v
    exact ⟨a, ws, rfl, .inl (.inl c), fun l hl => kk _ _ _ (S.newList hl (reps_or r)) h⟩
  · obtain ⟨a, ws, rfl, c, r⟩ := v
    exact ⟨a, ws, rfl, .inr c, fun l hl => kk _ _ _ (S.newList hl (reps_or r)) h⟩
  · obtain ⟨a, rfl, f⟩ := v
    exact ⟨a, _, rfl, .inl (scr_sq f), fun l hl => kk _ _ _ (S.newList hl reps_nsR) h⟩
  · exact h.elim
theorem q_list (hg : Gl X "list") (hm : X.mg "list" = none) (ha : QE X g e p) (he : starEach [e] X.env = (false, eval e X.env) :: starEach [] X.env := by rfl) (hpl : (backTo pos (starEach [] X.env)).any (·.1) = false := by rfl) : QE X g (.Call (.Name "list" pf) [e] [] pos) (rB1 oList p) :=
  q_t1 call_list_of rd_list hg hm (by rfl) ha (by decide) (by decide) he hpl
theorem rd_tuple : Op1Rd X g (fun xs H Q => ∃ p ys, xs = [.ref p] ∧ ((SqL X.K H p ys ∧ ∀ l, H l = none → Q (.ref l) (upd H l (.tup ys))) ∨ (SqT X.K H p ys ∧ Q (.ref p) H))) oTuple := by
  intro σ τ vs ρ H x m d k Q S v h kk
  unfold oTuple at h
  split at h
  · obtain ⟨a, ws, rfl, c, r⟩ := v
    exact ⟨a, ws, rfl, .inl ⟨.inl c, fun l hl => kk _ _ _ (S.newTup hl r) h⟩⟩
  · obtain ⟨a, ws, rfl, c, r⟩ := v
    exact ⟨a, ws, rfl, .inr ⟨c, kk _ _ _ (S.pushF (m := m) (d := .tup _) ⟨a, ws, rfl, c, r⟩) h⟩⟩
  · exact h.elim
theorem q_tuple (hg : Gl X "tuple") (hm : X.mg "tuple" = none) (ha : QE X g e p) (he : starEach [e] X.env = (false, eval e X.env) :: starEach [] X.env := by rfl) (hpl : (backTo pos (starEach [] X.env)).any (·.1) = false := by rfl) : QE X g (.Call (.Name "tuple" pf) [e] [] pos) (rB1 oTuple p) :=
  q_t1 call_tuple_of rd_tuple hg hm (by rfl) ha (by decide) (by decide) he hpl
theorem rd_int1 : Op1Rd X g (fun xs H Q => ((∃ i, xs = [.int i] ∧ Q (.int i) H) ∨ ∃ k, xs = [.bl k] ∧ Q (.int (if k then 1 else 0)) H) ∨ ∃ a n, xs = [.str a] ∧ PySem.intText? a = some n ∧ a.length ≤ 640 ∧ Q (.int n) H) oInt1 := by
  intro σ τ vs ρ H x m d k Q S v h kk
  unfold oInt1 at h
  split at h
  · cases view_int v
    exact .inl (.inl ⟨_, rfl, kk _ _ _ (S.pushF (m := true) (d := .int _) rfl) h⟩)
  · rename_i b
    cases (show x = V.bl b from v)
    exact .inl (.inr ⟨_, rfl, kk _ _ _ (S.pushF (m := true) (d := .int _) rfl) h⟩)
  · cases view_str v
    obtain ⟨n, h1, h2, q⟩ := h
    exact .inr ⟨_, n, rfl, h1, h2, kk _ _ _ (S.pushF (m := true) (d := .int _) rfl) q⟩
  · exact h.elim
theorem q_int1 (hg : Gl X "int") (hm : X.mg "int" = none) (ha : QE X g e p) (he : starEach [e] X.env = (false, eval e X.env) :: starEach [] X.env := by rfl) (hpl : (backTo pos (starEach [] X.env)).any (·.1) = false := by rfl) : QE X g (.Call (.Name "int" pf) [e] [] pos) (rB1 oInt1 p) :=
  q_t1 (call_int1.or call_int_str) rd_int1 hg hm (by rfl) ha (by decide) (by decide) he hpl
theorem rd_str1 : Op1Rd X g (fun xs H Q => ∃ i, xs = [.int i] ∧ i.natAbs.log2 < 1920 ∧ Q (.str (toString i)) H) oStr1 := by
  intro σ τ vs ρ H x m d k Q S v h kk
  unfold oStr1 at h
  split at h
  · cases view_int v
    exact ⟨_, rfl, h.1, kk _ _ _ (S.pushF (m := true) (d := .str _) rfl) h.2⟩
  · exact h.elim
theorem q_str1 (hg : Gl X "str") (hm : X.mg "str" = none) (ha : QE X g e p) (he : starEach [e] X.env = (false, eval e X.env) :: starEach [] X.env := by rfl) (hpl : (backTo pos (starEach [] X.env)).any (·.1) = false := by rfl) : QE X g (.Call (.Name "str" pf) [e] [] pos) (rB1 oStr1 p) :=
  q_t1 call_str_int rd_str1 hg hm (by rfl) ha (by decide) (by decide) he hpl
theorem reps_bls {K : PySem.W.Frag} {G : Addr → Prop} {H : Hp} : ∀ {bs : List Bool} {ws : List V}, Reps K G H (bs.map D.bl) ws → ws = bs.map V.bl
  | [], _, h => h
  | b :: bs, _, ⟨v, vs', e, r1, r2⟩ => by
    subst e
    rw [List.map_cons, ← reps_bls r2, show v = V.bl b from r1]
theorem reps_ints {K : PySem.W.Frag} {G : Addr → Prop} {H : Hp} : ∀ {ns : List Int} {ws : List V}, Reps K G H (ns.map D.int) ws → ws = ns.map V.int
  | [], _, h => h
  | b :: bs, _, ⟨v, vs', e, r1, r2⟩ => by
    subst e
    rw [List.map_cons, ← reps_ints r2, show v = V.int b from r1]
theorem reps_strs {K : PySem.W.Frag} {G : Addr → Prop} {H : Hp} : ∀ {ns : List Str} {ws : List V}, Reps K G H (ns.map D.str) ws → ws = ns.map V.str
  | [], _, h => h
  | b :: bs, _, ⟨v, vs', e, r1, r2⟩ => by
    subst e
    rw [List.map_cons, ← reps_strs r2, show v = V.str b from r1]
theorem rd_all : Op1Rd X g (rAll X.K) oAll := by
  intro σ τ vs ρ H x m d k Q S v h kk
  unfold oAll at h
  split at h
  · obtain ⟨bs, rfl, q⟩ := h
    obtain ⟨a, ws, rfl, c, r⟩ := v
    exact ⟨a, bs, rfl, .inl (by rw [← reps_bls r]; exact c), kk _ _ _ (S.pushF (m := true) (d := .bl _) rfl) q⟩
  · exact h.elim
theorem rd_any : Op1Rd X g (rAny X.K) oAny := by
  intro σ τ vs ρ H x m d k Q S v h kk
  unfold oAny at h
  split at h
  · obtain ⟨bs, rfl, q⟩ := h
    obtain ⟨a, ws, rfl, c, r⟩ := v
    exact ⟨a, bs, rfl, .inl (by rw [← reps_bls r]; exact c), kk _ _ _ (S.pushF (m := true) (d := .bl _) rfl) q⟩
  · exact h.elim
theorem rd_sum : Op1Rd X g (rSum X.K) oSum := by
  intro σ τ vs ρ H x m d k Q S v h kk
  unfold oSum at h
  split at h
  · obtain ⟨bs, rfl, q⟩ := h
    obtain ⟨a, ws, rfl, c, r⟩ := v
    exact ⟨a, bs, rfl, .inl (by rw [← reps_ints r]; exact c), kk _ _ _ (S.pushF (m := true) (d := .int _) rfl) q⟩
  · exact h.elim
theorem q_all (hc : X.calm = true) (hg : Gl X "all") (hm : X.mg "all" = none) (ha : QE X g e p) (he : starEach [e] X.env = (false, eval e X.env) :: starEach [] X.env := by rfl) (hpl : (backTo pos (starEach [] X.env)).any (·.1) = false := by rfl) : QE X g (.Call (.Name "all" pf) [e] [] pos) (rB1 oAll p) :=
  q_b1 (cr_all hc) rd_all hg hm (by rfl) ha (by decide) (by decide) he hpl
theorem q_any (hc : X.calm = true) (hg : Gl X "any") (hm : X.mg "any" = none) (ha : QE X g e p) (he : starEach [e] X.env = (false, eval e X.env) :: starEach [] X.env := by rfl) (hpl : (backTo pos (starEach [] X.env)).any (·.1) = false := by rfl) : QE X g (.Call (.Name "any" pf) [e] [] pos) (rB1 oAny p) :=
  q_b1 (cr_any hc) rd_any hg hm (by rfl) ha (by decide) (by decide) he hpl
theorem q_sum (hc : X.calm = true) (hg : Gl X "sum") (hm : X.mg "sum" = none) (ha : QE X g e p) (he : starEach [e] X.env = (false, eval e X.env) :: starEach [] X.env := by rfl) (hpl : (backTo pos (starEach [] X.env)).any (·.1) = false := by rfl) : QE X g (.Call (.Name "sum" pf) [e] [] pos) (rB1 oSum p) :=
  q_b1 (cr_sum hc) rd_sum hg hm (by rfl) ha (by decide) (by decide) he hpl
theorem rd_abs : Op1Rd X g (fun xs H Q => ∃ i, xs = [.int i] ∧ Q (.int (if i < 0 then -i else i)) H) oAbs := by
  intro σ τ vs ρ H x m d k Q S v h kk
  unfold oAbs at h
  split at h
  · cases view_int v
    exact ⟨_, rfl, kk _ _ _ (S.pushF (m := true) (d := .int _) rfl) h⟩
  · exact h.elim
theorem rd_neg {σ : L2.St} {τ : List SV} {vs : List V} {ρ : PSt} {H : Hp} {x : V} {m : Bool} {d : D} {k : SV → Prop} {Q : VK} (S : SR X.K g ρ σ τ vs H) (v : ViewR X.K g H m d x) (h : oNeg m d k)
    (kk : ∀ sv z H', SR X.K g ρ σ (sv :: τ) (z :: vs) H' → k sv → Q z H') : rU (fun i => .int (-i)) x H Q := by
  unfold oNeg at h
  split at h
  · cases view_int v
    exact ⟨_, rfl, kk _ _ _ (S.pushF (m := true) (d := .int _) rfl) h⟩
  · exact h.elim
theorem q_neg (ha : QE X g e p) : QE X g (.UnaryOp .USub e pos) (rB1 oNeg p) :=
  QE.of (fun Ξ tk => pe_un un_neg (ha.pe tk)) fun τ vs ρ Φ Ξ σ H S hw => ⟨τ, vs, ρ, _, S, hw, fun s1 ρ1 x H1 S1 h1 => by
    obtain ⟨m, d, e1, q⟩ := rB1_ok h1
    exact rd_neg S1.pop (view_ok S1 S1.top e1) q fun sv z H' S' k => ⟨sv, ρ1, S', k⟩⟩
theorem rd_min : OpRd X g (fun x y H Q => ∃ i j, [x, y] = [V.int i, .int j] ∧ Q (.int (if j < i then j else i)) H) oMin := by
  intro σ τ vs ρ H x y m1 m2 d1 d2 k Q S v1 v2 h kk
  unfold oMin at h
  split at h
  · cases view_int v1
    cases view_int v2
    exact ⟨_, _, rfl, kk _ _ _ (S.pushF (m := true) (d := .int _) rfl) h⟩
  · exact h.elim
theorem rd_max : OpRd X g (fun x y H Q => ∃ i j, [x, y] = [V.int i, .int j] ∧ Q (.int (if j > i then j else i)) H) oMax := by
  intro σ τ vs ρ H x y m1 m2 d1 d2 k Q S v1 v2 h kk
  unfold oMax at h
  split at h
  · cases view_int v1
    cases view_int v2
    exact ⟨_, _, rfl, kk _ _ _ (S.pushF (m := true) (d := .int _) rfl) h⟩
  · exact h.elim
theorem q_min (hc : X.calm = true) (hg : Gl X "min") (hm : X.mg "min" = none) (ha : QE X g a pa) (hb : QE X g b pb)
    (he : starEach [a, b] X.env = (false, eval a X.env) :: starEach [b] X.env := by rfl) (he2 : starEach [b] X.env = (false, eval b X.env) :: starEach [] X.env := by rfl) (hpl : (backTo pos (starEach [b] X.env)).any (·.1) = false := by rfl) : QE X g (.Call (.Name "min" pf) [a, b] [] pos) (rOp2 oMin pa pb) :=
  q_b2 (call_min2 hc) rd_min hg hm (by rfl) ha hb (by decide) (by decide) he he2 hpl
theorem q_max (hc : X.calm = true) (hg : Gl X "max") (hm : X.mg "max" = none) (ha : QE X g a pa) (hb : QE X g b pb)
    (he : starEach [a, b] X.env = (false, eval a X.env) :: starEach [b] X.env := by rfl) (he2 : starEach [b] X.env = (false, eval b X.env) :: starEach [] X.env := by rfl) (hpl : (backTo pos (starEach [b] X.env)).any (·.1) = false := by rfl) : QE X g (.Call (.Name "max" pf) [a, b] [] pos) (rOp2 oMax pa pb) :=
  q_b2 (call_max2 hc) rd_max hg hm (by rfl) ha hb (by decide) (by decide) he he2 hpl
theorem op_powC : OpR X (binaryOp .Pow) (rI (fun i j => 0 ≤ j ∧ ((j ≤ 1000000 ∧ i.natAbs < 2 ^ 64) ∨ (j ≤ 10000 ∧ i.natAbs.log2 < 10000))) fun i j => .int (i ^ j.toNat)) := fun pins s σ H x y v u Q I rx ry ⟨i, j, e1, e2, c, q⟩ => by
  rcases c.2 with h | h
  · exact op_pow pins s σ H x y v u Q I rx ry ⟨i, j, e1, e2, ⟨c.1, h.1, h.2⟩, q⟩
  · subst e1 e2
    obtain ⟨t, rfl⟩ := rx
    obtain ⟨t', rfl⟩ := ry
    refine pow_int c.1 ?_ ⟨.int _, H, I.tok _, ⟨_, rfl⟩, q⟩
    have hb : Builtin.Int.intBits i ≤ i.natAbs.log2 + 1 := by
      unfold Builtin.Int.intBits
      split <;> omega
    have h1 : ((Builtin.Int.intBits i : Nat) : Int) ≤ 10000 := by omega
    have h2 : ((Builtin.Int.intBits i : Nat) : Int) * j ≤ 10000 * 10000 := Int.mul_le_mul h1 h.1 c.1 (by omega)
    exact Int.le_trans h2 (by decide)
theorem q_pow (ha : QE X g a pa) (hb : QE X g b pb) : QE X g (.BinOp a .Pow b pos) (rOp2 oPow pa pb) := q_op op_powC (rd_int fun _ _ h => h) ha hb
end
end Q

namespace Q
open PySem PySem.Spec PyProof.Rows L2
/-! ### lookups agree -/
section
variable {K : PySem.W.Frag} {G : Addr → Prop} {H : Hp}
theorem atI_rep {ds : List D} {vs : List V} {i : Int} {d : D} (r : Reps K G H ds vs) (h : atI ds i = some d) : ∃ v, atI vs i = some v ∧ Rep K G H d v := by
  unfold atI at h ⊢
  rw [← reps_len r]
  cases e : ixN ds.length i with
  | none => rw [e] at h; cases h
  | some j =>
    rw [e] at h
    exact reps_get r h
theorem reps_drop : ∀ {ds : List D} {vs : List V} (n : Nat), Reps K G H ds vs → Reps K G H (ds.drop n) (vs.drop n)
  | _, _, 0, r => r
  | [], _, n + 1, r => by cases r; exact rfl
  | _ :: _, _, n + 1, ⟨v, vs', e, _, b⟩ => by subst e; exact reps_drop n b
theorem reps_take : ∀ {ds : List D} {vs : List V} (n : Nat), Reps K G H ds vs → Reps K G H (ds.take n) (vs.take n)
  | _, _, 0, r => rfl
  | [], _, n + 1, r => by cases r; exact rfl
  | _ :: _, _, n + 1, ⟨v, vs', e, a, b⟩ => by subst e; exact ⟨v, _, rfl, a, reps_take n b⟩
theorem reps_cut {ds : List D} {vs : List V} (lo hi : Option Int) (r : Reps K G H ds vs) : Reps K G H (cutD ds lo hi) (cutV vs lo hi) := by
  unfold cutD cutV
  rw [← reps_len r]
  exact reps_take _ (reps_drop _ r)
theorem reps_set : ∀ {ds : List D} {vs : List V} (j : Nat) {d : D} {v : V}, Reps K G H ds vs → Rep K G H d v → Reps K G H (ds.set j d) (vs.set j v)
  | [], _, _, _, _, r, _ => by cases r; exact rfl
  | _ :: _, _, 0, _, _, ⟨v, vs', e, a, b⟩, q => by subst e; exact ⟨_, _, rfl, q, b⟩
  | _ :: _, _, j + 1, _, _, ⟨v, vs', e, a, b⟩, q => by subst e; exact ⟨v, _, rfl, a, reps_set j b q⟩
theorem reps_erase : ∀ {ds : List D} {vs : List V} (j : Nat), Reps K G H ds vs → Reps K G H (ds.eraseIdx j) (vs.eraseIdx j)
  | [], _, _, r => by cases r; exact rfl
  | _ :: _, _, 0, ⟨v, vs', e, a, b⟩ => by subst e; exact b
  | _ :: _, _, j + 1, ⟨v, vs', e, a, b⟩ => by subst e; exact ⟨v, _, rfl, a, reps_erase j b⟩
theorem reps_dropLast : ∀ {ds : List D} {vs : List V}, Reps K G H ds vs → Reps K G H ds.dropLast vs.dropLast
  | [], _, r => by cases r; exact rfl
  | [_], _, ⟨v, vs', e, a, b⟩ => by subst e; cases b; exact rfl
  | _ :: _ :: _, _, ⟨v, vs', e, a, v2, vs2, e2, b⟩ => by subst e; subst e2; exact ⟨v, _, rfl, a, reps_dropLast ⟨v2, vs2, rfl, b⟩⟩
theorem reps_rep {ds : List D} {vs : List V} (r : Reps K G H ds vs) : ∀ n : Nat, Reps K G H (List.replicate n ds).flatten (List.replicate n vs).flatten
  | 0 => rfl
  | n + 1 => by
    rw [List.replicate_succ, List.replicate_succ, List.flatten_cons, List.flatten_cons]
    exact reps_app r (reps_rep r n)
theorem repk1 {p : Ky × D} {v : Ky × V} (h : Repk1 K G H p v) : v.1 = p.1 ∧ Rep K G H p.2 v.2 := by
  obtain ⟨k, d⟩ := p
  exact h
theorem repk_get : ∀ {ds : List (Ky × D)} {vs : List (Ky × V)} {k : Ky} {d : D}, Repk K G H ds vs → dget ds k = some d → ∃ v, valV vs k = some v ∧ Rep K G H d v
  | [], _, _, _, _, e => by simp [dget] at e
  | p :: r, _, k, d, ⟨v, vs', e, a, b⟩, h => by
    subst e
    have e1 : v.1 = p.1 := (repk1 a).1
    by_cases hk : p.1 = k
    · rw [valV_pos (e1.trans hk)]
      have : some p.2 = some d := by rw [← h]; simp [dget, List.find?_cons, hk]
      cases this
      exact ⟨_, rfl, (repk1 a).2⟩
    · rw [valV_neg (by rw [e1]; exact hk)]
      exact repk_get b (by rw [← h]; simp [dget, List.find?_cons, hk])
theorem repk_none : ∀ {ds : List (Ky × D)} {vs : List (Ky × V)} {k : Ky}, Repk K G H ds vs → dget ds k = none → valV vs k = none
  | [], _, _, r, _ => by cases r; rfl
  | p :: r, _, k, ⟨v, vs', e, a, b⟩, h => by
    subst e
    have e1 : v.1 = p.1 := (repk1 a).1
    by_cases hk : p.1 = k
    · have : (some p.2 : Option D) = none := by rw [← h]; simp [dget, List.find?_cons, hk]
      cases this
    · rw [valV_neg (by rw [e1]; exact hk)]
      exact repk_none b (by rw [← h]; simp [dget, List.find?_cons, hk])
theorem repk_some {ds : List (Ky × D)} {vs : List (Ky × V)} {k : Ky} (r : Repk K G H ds vs) : (valV vs k).isSome = (dget ds k).isSome := by
  cases e : dget ds k with
  | none => rw [repk_none r e]; rfl
  | some d => obtain ⟨v, hv, _⟩ := repk_get r e; rw [hv]; rfl
theorem repk_any (k : Ky) : ∀ {ds : List (Ky × D)} {vs : List (Ky × V)}, Repk K G H ds vs → (vs.any fun kv => decide (kv.1 = k)) = (ds.any fun kv => decide (kv.1 = k))
  | [], _, r => by cases r; rfl
  | p :: r, _, ⟨v, vs', e, a, b⟩ => by
    subst e
    rw [List.any_cons, List.any_cons, repk_any k b, (repk1 a).1]
theorem repk_map (k : Ky) {d : D} {y : V} (q : Rep K G H d y) : ∀ {ds : List (Ky × D)} {vs : List (Ky × V)}, Repk K G H ds vs → Repk K G H (ds.map fun kv => if kv.1 = k then (kv.1, d) else kv) (vs.map fun kv => if kv.1 = k then (kv.1, y) else kv)
  | [], _, r => by cases r; rfl
  | p :: r, _, ⟨v, vs', e, a, b⟩ => by
    subst e
    rw [List.map_cons, List.map_cons]
    refine ⟨_, _, rfl, ?_, repk_map k q b⟩
    have e1 : v.1 = p.1 := (repk1 a).1
    by_cases hk : p.1 = k
    · rw [if_pos hk, if_pos (e1.trans hk)]; exact (show v.1 = p.1 ∧ Rep K G H d y from ⟨e1, q⟩)
    · rw [if_neg hk, if_neg (by rw [e1]; exact hk)]; exact a
theorem repk_app : ∀ {ds es : List (Ky × D)} {vs us : List (Ky × V)}, Repk K G H ds vs → Repk K G H es us → Repk K G H (ds ++ es) (vs ++ us)
  | [], _, _, _, h, b => by cases h; exact b
  | _ :: r, _, _, _, ⟨v, vs', e, a, b⟩, q => by subst e; exact ⟨v, _, rfl, a, repk_app b q⟩
theorem repk_put {ds : List (Ky × D)} {vs : List (Ky × V)} {k : Ky} {d : D} {y : V} (r : Repk K G H ds vs) (q : Rep K G H d y) : Repk K G H (dput ds k d) (putK vs k y) := by
  unfold dput putK
  rw [repk_any k r]
  split
  · exact repk_map k q r
  · exact repk_app r ⟨(k, y), [], rfl, ⟨rfl, q⟩, rfl⟩
theorem repk_merge : ∀ {es : List (Ky × D)} {us : List (Ky × V)} {ds : List (Ky × D)} {vs : List (Ky × V)}, Repk K G H es us → Repk K G H ds vs → Repk K G H (mergeD ds es) (mergeK vs us)
  | [], _, _, _, h, r => by cases h; exact r
  | p :: es, _, ds, vs, ⟨v, us, e, a, b⟩, r => by
    subst e
    show Repk K G H (mergeD (dput ds p.1 p.2) es) (mergeK (putK vs v.1 v.2) us)
    have e1 : v.1 = p.1 := (repk1 a).1
    rw [e1]
    exact repk_merge b (repk_put r (repk1 a).2)
theorem Repk.mono' {G' : Addr → Prop} {H' : Hp} (hg : ∀ a, G a → G' a) (st : Stab H H') {ds : List (Ky × D)} {vs : List (Ky × V)} (r : Repk K G H ds vs) : Repk K G' H' ds vs := Repk.mono hg st ds vs r
theorem key_rep {d : D} {v : V} {k : Ky} (h : d.key = some k) (r : Rep K G H d v) : v = L2.kV k := by
  cases d with
  | int i => cases h; exact r
  | str x => cases h; exact r
  | _ => cases h
end
/-! ### subscripts -/
section
variable {X : Cx} {g : Gh} {a b c e : Expr} {es : List Expr} {pa pb pc p : RE} {ps : RA} {pos p2 : Pos}
theorem key_view {K : PySem.W.Frag} {H : Hp} {m : Bool} {d : D} {v : V} {k : Ky} (h : d.key = some k) (r : ViewR K g H m d v) : v = L2.kV k := by
  cases d with
  | int i => cases h; exact r
  | str x => cases h; exact r
  | _ => cases h
abbrev rDG : R2 := fun x y H Q => ∃ a v, x = V.ref a ∧ DGet H a y (some v) ∧ Q v H
theorem ix_dictH (hu : X.A.units + 1 < cLine) : IxR X rDG := by
  intro value slice pins s σ H x y v u Q I rx ry h hs
  obtain ⟨a, z, rfl, gt, q⟩ := h
  cases (show v = Value.ref a from rx)
  exact tail_any (dict_typeIs I gt) slot_dict_getitem.lookup (d_getItem hu I gt ry fun w' s' I' rw' => ⟨z, H, I', rw', q⟩) hs
abbrev rIxQ (K : PySem.W.Frag) : R2 := fun x y H Q => rIx K x y H Q ∨ rDG x y H Q
theorem rd_ix : OpRd X g (rIxQ X.K) oIx := by
  intro σ τ vs ρ H x y m1 m2 d1 d2 k Q S v1 v2 h kk
  unfold oIx at h
  split at h
  · obtain ⟨d, hd, q⟩ := h
    obtain ⟨a, ws, rfl, c, r⟩ := v1
    cases view_int v2
    obtain ⟨v, hv, rv⟩ := atI_rep r hd
    exact .inl (.inl ⟨a, ws, _, v, rfl, rfl, .inl c, hv, kk _ _ _ (S.pushF rv) q⟩)
  · obtain ⟨d, hd, q⟩ := h
    obtain ⟨a, ws, rfl, c, r⟩ := v1
    cases view_int v2
    obtain ⟨v, hv, rv⟩ := atI_rep r hd
    exact .inl (.inr (.inl ⟨a, ws, _, v, rfl, rfl, c, hv, kk _ _ _ (S.pushF rv) q⟩))
  · obtain ⟨hl, c, hc, q⟩ := h
    cases view_str v1
    cases view_int v2
    exact .inl (.inr (.inr ⟨_, _, c, rfl, rfl, by rw [line_eq]; exact hl, hc, kk _ _ _ (S.pushF (m := true) (d := .str _) rfl) q⟩))
  · obtain ⟨ky, d, hk, hd, q⟩ := h
    obtain ⟨a, ws, rfl, c, r⟩ := v1
    obtain ⟨v, hv, rv⟩ := repk_get r hd
    exact .inr ⟨a, v, rfl, .inl ⟨ws, ky, c, key_view hk v2, hv.symm⟩, kk _ _ _ (S.pushF rv) q⟩
  · exact h.elim
theorem q_ix (hu : X.A.units + 1 < cLine) (ha : QE X g a pa) (hb : QE X g b pb) (hs : PlainIx b := by intros _ _; rfl) : QE X g (.Subscript a b pos) (rOp2 oIx pa pb) :=
  QE.of (fun Ξ tk => pe_ix (ix_seq.or (ix_dictH hu)) (ha.pe tk) (hb.pe tk) hs) fun τ vs ρ Φ Ξ σ H S hw => op2_rd rd_ix S hw
/-! ### slices -/
structure QO (X : Cx) (g : Gh) (e : Option Expr) (p : RO) : Prop where
  po : ∀ Ξ, Takes X (WQ X g Ξ) → PO X e (fun σ H Q => ∃ τ vs ρ Φ, SR X.K g ρ σ τ vs H ∧ p ρ Φ Ξ ∧ ∀ o ρ' H', SR X.K g ρ' σ τ vs H' → Φ o ρ' → Q o H')
theorem qo_n : QO X g none roN := ⟨fun Ξ tk => ⟨fun pins s σ H Q I ⟨τ, vs, ρ, Φ, S, hp, k⟩ => po_none.run pins s σ H Q I (k none ρ H S hp)⟩⟩
theorem qo_e (h : QE X g e p) : QO X g (some e) (roE p) := ⟨fun Ξ tk => ⟨fun pins s σ H Q I ⟨τ, vs, ρ, Φ, S, hp, k⟩ => by
  refine (po_some (h.pe tk)).run pins s σ H Q I ⟨τ, vs, ρ, _, S, hp, fun sv ρ' v H' S' q => ?_⟩
  obtain ⟨m, d, e1, q⟩ := kV_ok q
  cases d <;> first
    | exact ⟨_, view_int (view_ok S' S'.top e1), k _ _ _ S'.pop q⟩
    | exact q.elim⟩⟩
abbrev rSlQ (K : PySem.W.Frag) : V → Option Int → Option Int → Hp → VK → Prop := fun x lo hi H Q => (rSlL K x lo hi H Q ∨ rSlT K x lo hi H Q) ∨ rSlS x lo hi H Q
theorem rSl_view {s : SV} {ρ : PSt} {k : RK} {l h : Option Int} (q : (match s.view ρ with
  | some (m, d) => oSl m d l h fun r => k r ρ
  | none => False)) : ∃ m d, s.view ρ = some (m, d) ∧ oSl m d l h fun r => k r ρ := by
  cases e : s.view ρ with
  | none => rw [e] at q; exact q.elim
  | some md => rw [e] at q; exact ⟨md.1, md.2, rfl, q⟩
theorem q_sl {lo hi : Option Expr} {rl rh : RO} (he : QE X g e p) (hl : QO X g lo rl) (hh : QO X g hi rh) : QE X g (.Subscript e (.Slice lo hi none p2) pos) (rSl p rl rh) := by
  refine QE.of (fun Ξ tk => pe_slice ((sl_list.or sl_tup).or sl_str) (he.pe tk) (hl.po Ξ tk) (hh.po Ξ tk)) fun τ vs ρ Φ Ξ σ H S hw => ?_
  refine ⟨τ, vs, ρ, _, S, hw, fun s1 ρ1 x H1 S1 h1 => ⟨s1 :: τ, x :: vs, ρ1, _, S1, h1, fun l ρ2 H2 S2 h2 => ⟨s1 :: τ, x :: vs, ρ2, _, S2, h2, fun u ρ3 H3 S3 h3 => ?_⟩⟩⟩
  obtain ⟨m, d, e1, q⟩ := rSl_view h3
  have v := view_ok S3 S3.top e1
  unfold oSl at q
  split at q
  · obtain ⟨a, ws, rfl, c, r⟩ := v
    exact .inl (.inl ⟨a, ws, rfl, .inl c, fun p hp => ⟨_, ρ3, S3.pop.newList hp (reps_cut l u r), q⟩⟩)
  · obtain ⟨a, ws, rfl, c, r⟩ := v
    exact .inl (.inr ⟨a, ws, rfl, c, by rw [← reps_len r]; exact q.1, fun p hp => ⟨_, ρ3, S3.pop.newTup hp (reps_cut l u r), q.2⟩⟩)
  · cases view_str v
    exact .inr ⟨_, rfl, by rw [line_eq]; exact q.1, _, ρ3, S3.pop.pushF (m := true) (d := .str _) rfl, q.2⟩
  · exact q.elim
/-! ### a < b < c -/
theorem chain_rd {r r' : R2} {o o' : Op2} (hr : OpRd X g r o) (hr' : OpRd X g r' o') {Ξ : RX} {τ : List SV} {vs : List V} {ρ : PSt} {Φ : RK} {σ : L2.St} {H : Hp} {Q : VK} (S : SR X.K g ρ σ τ vs H) (hw : rChain o o' pa pb pc ρ Φ Ξ) (kk : ∀ sv ρ' v H', SR X.K g ρ' σ (sv :: τ) (v :: vs) H' → Φ sv ρ' → Q v H') :
    tChain r r' (tqe X g pa Ξ) (tqe X g pb Ξ) (tqe X g pc Ξ) σ H Q := by
  refine ⟨τ, vs, ρ, _, S, hw, fun s1 ρ1 x H1 S1 h1 => ?_⟩
  refine ⟨s1 :: τ, x :: vs, ρ1, _, S1, h1, fun s2 ρ2 y H2 S2 h2 => ?_⟩
  obtain ⟨m1, d1, m2, d2, e1, e2, q⟩ := kV2_ok h2
  have v2 := view_ok S2 S2.top e2
  have v1 := view_ok S2 S2.pop.top e1
  refine hr σ (s2 :: s1 :: τ) (y :: x :: vs) ρ2 H2 x y m1 m2 d1 d2 _ _ S2 v1 v2 q fun sv z H' S' k => ?_
  obtain ⟨m, c, rfl, q⟩ := kB_ok k
  refine ⟨c, S'.bl, ?_⟩
  cases c with
  | false => exact kk _ ρ2 _ _ (S'.pop.pop.pop.pushF (m := true) (d := .bl false) rfl) (q.f rfl)
  | true =>
    refine ⟨s2 :: s1 :: τ, y :: x :: vs, ρ2, _, S'.pop, q.t rfl, fun s3 ρ4 w' H4 S4 h4 => ?_⟩
    obtain ⟨m3, d3, m4, d4, e3, e4, q4⟩ := kV2_ok h4
    have v4 := view_ok S4 S4.top e4
    have v3 := view_ok S4 S4.pop.top e3
    exact hr' σ τ vs ρ4 H4 y w' m3 m4 d3 d4 _ _ S4.pop.pop.pop v3 v4 q4 fun sv z H' S' k => kk sv ρ4 z H' S' k
theorem q_chain {op op' : CmpOp} {r r' : R2} {o o' : Op2} (ho : OpR X (compareOp op) r) (ho' : OpR X (compareOp op') r') (hr : OpRd X g r o) (hr' : OpRd X g r' o') (ha : QE X g a pa) (hb : QE X g b pb) (hc : QE X g c pc)
    (hm : lastMarks [op, op'] [b, c] = false := by with_unfolding_all rfl) : QE X g (.Compare a [op, op'] [b, c] pos) (rChain o o' pa pb pc) :=
  QE.of (fun Ξ tk => pe_chain ho ho' (ha.pe tk) (hb.pe tk) (hc.pe tk) hm) fun τ vs ρ Φ Ξ σ H S hw => chain_rd hr hr' S hw fun sv ρ' v H' S' k => ⟨sv, ρ', S', k⟩
theorem q_chainT {op op' : CmpOp} {r r' : R2} {o o' : Op2} (ho : OpR X (compareOp op) r) (ho' : OpR X (compareOp op') r') (hr : OpRd X g r o) (hr' : OpRd X g r' o') (ha : QE X g a pa) (hb : QE X g b pb) (hc : QE X g c pc)
    (hm : lastMarks [op, op'] [b, c] = false := by with_unfolding_all rfl) : QT X g (.Compare a [op, op'] [b, c] pos) (rB (rChain o o' pa pb pc)) := by
  refine QT.of (fun Ξ tk => pt_chain ho ho' (ha.pe tk) (hb.pe tk) (hc.pe tk) hm) fun τ vs ρ Φ Ξ σ H S hw => ?_
  refine chain_rd hr hr' S hw fun sv ρ' v H' S' k => ?_
  obtain ⟨m, c, rfl, q⟩ := kB_ok k
  exact ⟨c, S'.bl, ρ', S'.pop, q⟩
end
end Q

namespace Q
open PySem PySem.Spec PyProof.Rows L2
/-! ### in -/
section
variable {X : Cx} {g : Gh} {a b c e : Expr} {es : List Expr} {pa pb pc p : RE} {ps : RA} {pos p2 : Pos}
theorem any_eqv (d : D) (hd : d.flatd = true) : ∀ xs : List D, D.flatd.flats xs = true → ((pys xs).any fun z => PyData.eqv z d.py) = xs.any fun z => D.eqv z d
  | [], _ => rfl
  | x :: r, h => by
    unfold D.flatd.flats at h
    obtain ⟨h1, h2⟩ := Bool.and_eq_true_iff.mp h
    simp only [pys, List.any_cons]
    rw [py_eqv x d h1 hd, any_eqv d hd r h2]
abbrev rInDict : R2 := fun y x H Q => ∃ a o, x = V.ref a ∧ DGet H a y o ∧ Q (.bl o.isSome) H
abbrev rNotInDict : R2 := fun y x H Q => ∃ a o, x = V.ref a ∧ DGet H a y o ∧ Q (.bl (!o.isSome)) H
theorem op_inDict (hu : X.A.units + 1 < cLine) : OpR X (compareOp .In) rInDict := by
  intro pins s σ H x y v u Q I rx ry h
  obtain ⟨a, o, rfl, gt, q⟩ := h
  cases (show u = Value.ref a from ry)
  exact d_in hu I gt rx fun s' I' => ⟨.bl _, H, I', rfl, q⟩
theorem op_notInDict (hu : X.A.units + 1 < cLine) : OpR X (compareOp .NotIn) rNotInDict := by
  intro pins s σ H x y v u Q I rx ry h
  obtain ⟨a, o, rfl, gt, q⟩ := h
  cases (show u = Value.ref a from ry)
  exact d_notIn hu I gt rx fun s' I' => ⟨.bl _, H, I', rfl, q⟩
abbrev rInS : R2 := fun x y H Q => ∃ i j, x = V.str i ∧ y = V.str j ∧ Q (.bl (!(Builtin.Str.occurrences j i 0 j.length 1).isEmpty)) H
abbrev rNotInS : R2 := fun x y H Q => ∃ i j, x = V.str i ∧ y = V.str j ∧ Q (.bl (!(!(Builtin.Str.occurrences j i 0 j.length 1).isEmpty))) H
abbrev rInQ (K : PySem.W.Frag) : R2 := fun x y H Q => (rInS x y H Q ∨ rInD K x y H Q) ∨ rInDict x y H Q
abbrev rNotInQ (K : PySem.W.Frag) : R2 := fun x y H Q => (rNotInS x y H Q ∨ rNotInD K x y H Q) ∨ rNotInDict x y H Q
theorem rd_in : OpRd X g (rInQ X.K) (oIn false) := by
  intro σ τ vs ρ H x y m1 m2 d1 d2 k Q S v1 v2 h kk
  unfold oIn at h
  split at h
  · cases view_str v1
    cases view_str v2
    exact .inl (.inl ⟨_, _, rfl, rfl, kk _ _ _ (S.pushF (m := true) (d := .bl _) (by show V.bl _ = V.bl _; simp)) h⟩)
  · rename_i d xs
    obtain ⟨⟨f1, e1, f2, e2⟩, q⟩ := h
    have q1 := dp_view f2 v2
    have s2 := shaped_of f2 e2
    simp only [D.py] at q1 s2
    refine .inl (.inr ⟨_, _, dp_view f1 v1, q1, shaped_of f1 e1, s2, ?_⟩)
    rw [any_eqv d1 f1 xs (by simpa only [D.flatd] using f2)]
    exact kk _ _ _ (S.pushF (m := true) (d := .bl _) (by show V.bl _ = V.bl _; simp)) q
  · obtain ⟨ky, hk, q⟩ := h
    obtain ⟨a, ws, rfl, c, r⟩ := v2
    refine .inr ⟨a, _, rfl, .inl ⟨ws, ky, c, key_view hk v1, rfl⟩, ?_⟩
    rw [repk_some r]
    exact kk _ _ _ (S.pushF (m := true) (d := .bl _) (by show V.bl _ = V.bl _; simp)) q
  · exact h.elim
theorem rd_notIn : OpRd X g (rNotInQ X.K) (oIn true) := by
  intro σ τ vs ρ H x y m1 m2 d1 d2 k Q S v1 v2 h kk
  unfold oIn at h
  split at h
  · cases view_str v1
    cases view_str v2
    exact .inl (.inl ⟨_, _, rfl, rfl, kk _ _ _ (S.pushF (m := true) (d := .bl _) (by show V.bl _ = V.bl _; simp)) h⟩)
  · rename_i d xs
    obtain ⟨⟨f1, e1, f2, e2⟩, q⟩ := h
    have q1 := dp_view f2 v2
    have s2 := shaped_of f2 e2
    simp only [D.py] at q1 s2
    refine .inl (.inr ⟨_, _, dp_view f1 v1, q1, shaped_of f1 e1, s2, ?_⟩)
    rw [any_eqv d1 f1 xs (by simpa only [D.flatd] using f2)]
    exact kk _ _ _ (S.pushF (m := true) (d := .bl _) (by show V.bl _ = V.bl _; simp)) q
  · obtain ⟨ky, hk, q⟩ := h
    obtain ⟨a, ws, rfl, c, r⟩ := v2
    refine .inr ⟨a, _, rfl, .inl ⟨ws, ky, c, key_view hk v1, rfl⟩, ?_⟩
    rw [repk_some r]
    exact kk _ _ _ (S.pushF (m := true) (d := .bl _) (by show V.bl _ = V.bl _; simp)) q
  · exact h.elim
theorem units1 {n : Nat} (h : n + 65 < cLine) : n + 1 < cLine := by omega
theorem op_inQ (hu : X.A.units + 65 < cLine) : OpR X (compareOp .In) (rInQ X.K) := (op_in_str.or (op_inD hu)).or (op_inDict (units1 hu))
theorem op_notInQ (hu : X.A.units + 65 < cLine) : OpR X (compareOp .NotIn) (rNotInQ X.K) := (op_notIn_str.or (op_notInD hu)).or (op_notInDict (units1 hu))
/-! ### list * int, str.join -/
abbrev rRepQ : R2 := fun x y H Q => rI CMul (fun i j => .int (i * j)) x y H Q ∨ ∃ l k xs, x = V.ref l ∧ y = .int k ∧ Rd H l (.lst xs) ∧ -(2 ^ 63) ≤ k ∧ k < 2 ^ 63 ∧ xs.length * k.toNat ≤ sizeLine ∧
  ∀ p, H p = none → Q (.ref p) (upd H p (.lst (List.replicate k.toNat xs).flatten))
theorem op_repR : OpR X (binaryOp .Mult) (fun x y H Q => ∃ l k xs, x = V.ref l ∧ y = .int k ∧ Rd H l (.lst xs) ∧ -(2 ^ 63) ≤ k ∧ k < 2 ^ 63 ∧ xs.length * k.toNat ≤ sizeLine ∧
  ∀ p, H p = none → Q (.ref p) (upd H p (.lst (List.replicate k.toNat xs).flatten))) := by
  intro pins s σ H x y v u Q I rx ry h
  obtain ⟨l, k, xs, rfl, rfl, hH, h1, h2, hz, q⟩ := h
  cases rx
  obtain ⟨t, rfl⟩ := ry
  obtain ⟨z, its, n, r, e⟩ := hH.ok I.hok
  have hl := r.length
  have hlen : its.toArray.size * k.toNat ≤ sizeLine := by rw [List.size_toArray, ← hl]; exact hz
  have hcap : ¬ its.toArray.size * k.toNat > (2 ^ 63 - 1) / 8 := by
    have : (sizeLine : Nat) ≤ (2 ^ 63 - 1) / 8 := by decide
    omega
  have hfit : ¬ (!Builtin.List.listFitsIndex k) = true := by
    rw [fitsIndex_both h1 h2]
    exact Bool.false_ne_true
  have hlong : ¬ Builtin.List.listTooLong (its.toArray.size * k.toNat) = true := by
    rw [notLongL hlen]
    exact Bool.false_ne_true
  have hnew : List.foldl (fun x1 x2 => x1 ++ x2) #[] (List.replicate (if its.toArray.isEmpty = true then 0 else k.toNat) its.toArray) = (List.replicate k.toNat its).flatten.toArray := by
    have f0 : ∀ m : Nat, List.foldl (fun x1 x2 => x1 ++ x2) #[] (List.replicate m its.toArray) = (List.replicate m its).flatten.toArray := fun m => by
      have := foldl_rep its m []
      rw [List.nil_append] at this
      exact this
    rw [f0]
    cases its with
    | nil => simp
    | cons a r' => rw [if_neg (by simp)]
  refine wpAny_binaryOp_repeat_ref (T := "list") (U := "int") (by decide) ⟨_, e, rfl⟩ (fun s' => typeIs_int s' k t) noFill_list_mul F.fills_int_mul F.slot_int_rmul repeat_list F.slot_int_index.lookup
    (call_meets F.slot_int_rmul (typeIs_int s k t) F.entry_int_rmul (F.args_int_rmul_2 _ _) (int___rmul___int_list k t l its.toArray n)
      ⟨e, rfl, ⟨_, e, rfl⟩, call_meets F.slot_list_mul ⟨_, e, rfl⟩ F.entry_list_mul (F.args_list_mul_2 _ _) (AutoListH.list___mul___list_int_3 l its.toArray n k t hfit hcap hlong) ⟨e, ?_⟩⟩)
  rw [hnew]
  exact ⟨.ref _, _, I.lnew (t' := s.toks) (r.rep k.toNat) (by rw [PyProof.Rows.lm_len_rep_flat, Nat.mul_comm]; exact hz), rfl, q _ I.fresh⟩
theorem rd_rep : OpRd X g rRepQ oRep := by
  intro σ τ vs ρ H x y m1 m2 d1 d2 k Q S v1 v2 h kk
  unfold oRep at h
  split at h
  · obtain ⟨⟨h1, h2, h3⟩, q⟩ := h
    obtain ⟨a, ws, rfl, c, r⟩ := v1
    cases view_int v2
    exact .inr ⟨a, _, ws, rfl, rfl, c, h1, h2, by rw [line_eq, ← reps_len r]; exact h3, fun p hp => kk _ _ _ (S.newList hp (reps_rep r _)) q⟩
  · cases view_int v1
    cases view_int v2
    exact .inl ⟨_, _, rfl, rfl, h.1, kk _ _ _ (S.pushF (m := true) (d := .int _) rfl) h.2⟩
  · exact h.elim
theorem q_rep (ha : QE X g a pa) (hb : QE X g b pb) : QE X g (.BinOp a .Mult b pos) (rOp2 oRep pa pb) := q_op (op_mul.or op_repR) rd_rep ha hb
theorem rS1_view {o : SOp} {a : Str} {s2 : SV} {ρ2 : PSt} {k : RK} (h : (match s2.view ρ2 with
    | some (m, d) => o a m d fun r => k r ρ2
    | none => False)) : ∃ m d, s2.view ρ2 = some (m, d) ∧ o a m d fun r => k r ρ2 := by
  cases e : s2.view ρ2 with
  | none => rw [e] at h; exact h.elim
  | some md => rw [e] at h; exact ⟨md.1, md.2, rfl, h⟩
def SOpRd (X : Cx) (g : Gh) (r : V → List V → Hp → VK → Prop) (o : SOp) : Prop := ∀ (σ : L2.St) (τ : List SV) (vs : List V) (ρ : PSt) (H : Hp) (a : Str) (y : V) (m : Bool) (d : D) (k : SV → Prop) (Q : VK), SR X.K g ρ σ τ vs H → ViewR X.K g H m d y → o a m d k →
  (∀ sv z H', SR X.K g ρ σ (sv :: τ) (z :: vs) H' → k sv → Q z H') → r (.str a) [y] H Q
theorem s1_rd {r : V → List V → Hp → VK → Prop} {o : SOp} (hr : SOpRd X g r o) {Ξ : RX} {τ : List SV} {vs : List V} {ρ : PSt} {Φ : RK} {σ : L2.St} {H : Hp} (S : SR X.K g ρ σ τ vs H) (hw : rS1 o pa pb ρ Φ Ξ) :
    tM1 r (tqe X g pa Ξ) (tqe X g pb Ξ) σ H fun v H' => ∃ sv ρ', SR X.K g ρ' σ (sv :: τ) (v :: vs) H' ∧ Φ sv ρ' := by
  refine ⟨τ, vs, ρ, _, S, hw, fun s1 ρ1 x H1 S1 h1 => ?_⟩
  split at h1
  · rename_i m a
    obtain ⟨u, e, ru⟩ := S1.top
    cases e
    cases (show x = V.str a from ru)
    refine ⟨⟨a, rfl⟩, .fr m (.str a) :: τ, .str a :: vs, ρ1, _, S1, h1, fun s2 ρ2 y H2 S2 h2 => ?_⟩
    obtain ⟨m2, d2, e2, q⟩ := rS1_view h2
    exact hr σ τ vs ρ2 H2 a y m2 d2 _ _ S2.pop.pop (view_ok S2 S2.top e2) q fun sv z H' S' k => ⟨sv, ρ2, S', k⟩
  · exact h1.elim
theorem s0_rd {r : V → List V → Hp → VK → Prop} {o : Str → (SV → Prop) → Prop} (hr : ∀ (a : Str) (k : SV → Prop) (H : Hp) (Q : VK), o a k → (∀ d z, k (.fr true d) → (∀ G H, Rep X.K G H d z) → Q z H) → r (.str a) [] H Q) {Ξ : RX} {τ : List SV} {vs : List V} {ρ : PSt} {Φ : RK} {σ : L2.St} {H : Hp} (S : SR X.K g ρ σ τ vs H) (hw : rS0 o pa ρ Φ Ξ) :
    tM0 r (tqe X g pa Ξ) σ H fun v H' => ∃ sv ρ', SR X.K g ρ' σ (sv :: τ) (v :: vs) H' ∧ Φ sv ρ' := by
  refine ⟨τ, vs, ρ, _, S, hw, fun s1 ρ1 x H1 S1 h1 => ?_⟩
  split at h1
  · rename_i m a
    obtain ⟨u, e, ru⟩ := S1.top
    cases e
    cases (show x = V.str a from ru)
    exact ⟨⟨a, rfl⟩, hr a _ H1 _ h1 fun d z k rz => ⟨_, ρ1, S1.pop.pushF (rz _ _), k⟩⟩
  · exact h1.elim
abbrev rJoinQ (K : PySem.W.Frag) : V → List V → Hp → VK → Prop := fun x xs H Q => ∃ a p, ∃ ys : List Str, x = V.str a ∧ xs = [.ref p] ∧ (SqL K H p (ys.map V.str) ∨ SqT K H p (ys.map V.str)) ∧
      (ys.map (·.length)).sum + ys.length * a.length ≤ 16777216 ∧ Q (.str (Txt.join a ys)) H
theorem rd_join : SOpRd X g (rJoinQ X.K) oJoin := by
  intro σ τ vs ρ H a y m d k Q S v h kk
  unfold oJoin at h
  split at h
  · obtain ⟨ys, rfl, hz, q⟩ := h
    obtain ⟨b, ws, rfl, c, r⟩ := v
    exact ⟨a, b, ys, rfl, rfl, .inl (.inl (by rw [← reps_strs r]; exact c)), hz, kk _ _ _ (S.pushF (m := true) (d := .str _) rfl) q⟩
  · obtain ⟨ys, rfl, hz, q⟩ := h
    obtain ⟨b, ws, rfl, c, r⟩ := v
    exact ⟨a, b, ys, rfl, rfl, .inr (by rw [← reps_strs r]; exact c), hz, kk _ _ _ (S.pushF (m := true) (d := .str _) rfl) q⟩
  · exact h.elim
theorem q_join {apos : Pos} (ha : QE X g a pa) (hb : QE X g b pb) (hs : starEach [b] X.env = [(false, eval b X.env)] := by rfl) (hbase : attributeBase a "join" X.env (eval a X.env) = eval a X.env := by rfl) (hline : (apos.endLine == pos.line) = true := by rfl) :
    QE X g (.Call (.Attribute a "join" apos) [b] [] pos) (rS1 oJoin pa pb) :=
  QE.of (fun Ξ tk => pe_join (ha.pe tk) (hb.pe tk) hs hbase hline) fun τ vs ρ Φ Ξ σ H S hw => s1_rd rd_join S hw
/-! ### methods of an own list -/
def MRd (X : Cx) (g : Gh) (r : V → List V → Hp → VK → Prop) (o : MOp) : Prop := ∀ (H : Hp) (a : Addr) (ws us : List V) (m m' : Bool) (xs ds : List D) (k : SV → Bool → List D → Prop) (Q : VK), H a = some (.lst ws) → Reps X.K (g.gm m) H xs ws → Reps X.K (g.gm m') H ds us → o m xs m' ds k →
  (∀ m3 d v m2 xs2 ws2, Rep X.K (g.gm m3) H d v → Reps X.K (g.gm m2) H xs2 ws2 → k (.fr m3 d) m2 xs2 → Q v (upd H a (.lst ws2))) → r (.ref a) us H Q
theorem rMS_ok {i : Nat} {o : MOp} {m' : Bool} {ds : List D} {ρ' : PSt} {k : RK} (h : (match ρ'[i]? with
  | some (.ol m xs) => o m xs m' ds fun r m2 xs2 => k r (ρ'.set i (.ol m2 xs2))
  | _ => False)) : ∃ m xs, ρ'[i]? = some (.ol m xs) ∧ o m xs m' ds fun r m2 xs2 => k r (ρ'.set i (.ol m2 xs2)) := by
  split at h
  · rename_i m xs e; exact ⟨m, xs, e, h⟩
  · exact h.elim
theorem rMS2_ok {i : Nat} {o : MOp} {ρ : PSt} {k : RK} {y : RX} (h : rMS2 i o ps ρ k y) : ∃ m xs, ρ[i]? = some (.ol m xs) ∧ rMS i o ps ρ k y := by
  unfold rMS2 at h
  split at h
  · rename_i m xs e; exact ⟨m, xs, e, h⟩
  · exact h.elim
/-- the slot's list after a method -/
theorem SR.mput {ρ : PSt} {σ : L2.St} {τ : List SV} {vs : List V} {H : Hp} {i : Nat} {m m2 m3 : Bool} {xs xs2 : List D} {ws ws2 : List V} {a : Addr} {d : D} {v : V} (S : SR X.K g ρ σ τ vs H) (hr : ρ[i]? = some (.ol m xs)) (hs : σ[i]? = some (some (.ref a))) (hH : H a = some (.lst ws))
    (r3 : Rep X.K (g.gm m3) H d v) (r2 : Reps X.K (g.gm m2) H xs2 ws2) : SR X.K g (ρ.set i (.ol m2 xs2)) σ (.fr m3 d :: τ) (v :: vs) (upd H a (.lst ws2)) := by
  have st : Stab H (upd H a (.lst ws2)) := stab_mut (by rw [hH]; trivial)
  have S2 := S.write (sv' := .ol m2 xs2) (o := .lst ws2) hr hs rfl (.inl rfl) rfl ⟨a, ws2, rfl, upd_same, Reps.mono (fun _ z => z) st _ _ r2⟩ (fun z => nomatch z)
  exact S2.pushF (Rep.mono (fun _ z => z) st _ _ r3)
theorem ol_slot {ρ : PSt} {σ : L2.St} {τ : List SV} {vs : List V} {H : Hp} {i : Nat} {m : Bool} {xs : List D} (S : SR X.K g ρ σ τ vs H) (hr : ρ[i]? = some (.ol m xs)) : ∃ a ws, σ[i]? = some (some (.ref a)) ∧ H a = some (.lst ws) ∧ Reps X.K (g.gm m) H xs ws := by
  obtain ⟨u, hu, ⟨a, ws, rfl, c, r⟩, _⟩ := S.slot hr
  exact ⟨a, ws, hu, c, r⟩
theorem q_ms (i : Nat) {x name : Str} {id : String} {r : V → List V → Hp → VK → Prop} {o : MOp} {apos np : Pos} (slot : Slot "list" name id) (hty : typeOf (.builtin id) = pure (.type "method_descriptor")) (hmt : MtM X id r) (hr : MRd X g r o) (hN : X.N[i]? = some x) (ha : QA X g (e :: es) ps)
    (hv : Vis X.env.scope x := by first | exact Or.inl rfl | exact Or.inr (Or.inl rfl) | exact Or.inr (Or.inr rfl)) (hd : (x == ("__debug__" : Str)) = false := by decide) (hcd : (x == ("__classdict__" : Str)) = false := by decide)
    (hbase : attributeBase (.Name x np) name X.env (eval (.Name x np) X.env) = eval (.Name x np) X.env := by rfl)
    (hfew : ((backTo pos (starEach (e :: es) X.env)).all (fun x => !x.1) && (backToKw pos (keywordEach [] X.env)).all (fun x => x.1.isSome)
      && decide ((e :: es).length + ([] : List Keyword).length + (if ([] : List Keyword).isEmpty then 0 else 1) < 30)) = true := by rfl)
    (hline : (apos.endLine == pos.line) = true := by rfl) (hs : starEach (e :: es) X.env = (false, eval e X.env) :: starEach es X.env := by rfl) (hplain : (backTo pos (starEach es X.env)).any (·.1) = false := by rfl) :
    QE X g (.Call (.Attribute (.Name x np) name apos) (e :: es) [] pos) (rMS2 i o ps) := by
  refine QE.of (fun Ξ tk => pe_bm F.plainAttrs_list slot hty hmt (pe_var (i := i) hN hv hd hcd) (ha.paT tk) hbase hfew hline hs hplain) fun τ vs ρ Φ Ξ σ H S hw => ?_
  obtain ⟨m0, xs0, e0, hw⟩ := rMS2_ok hw
  obtain ⟨a, ws0, hsl, c0, _⟩ := ol_slot S e0
  refine ⟨.ref a, hsl, .inl ⟨rfl, ws0, .inl (.inl c0)⟩, τ, vs, ρ, _, S, hw, fun m' ds ρ' us H' S' r' q => ?_⟩
  obtain ⟨m, xs, e1, q⟩ := rMS_ok q
  obtain ⟨b, ws, hsl2, c1, rs⟩ := ol_slot S' e1
  rw [hsl] at hsl2
  cases hsl2
  exact hr H' a ws us m m' xs ds _ _ c1 rs r' q fun m3 d v m2 xs2 ws2 r3 r2 k => ⟨_, _, S'.mput e1 hsl c1 r3 r2, k⟩
theorem q_ms0 (i : Nat) {x name : Str} {id : String} {r : V → List V → Hp → VK → Prop} {o : MOp} {apos np : Pos} (slot : Slot "list" name id) (hty : typeOf (.builtin id) = pure (.type "method_descriptor")) (hmt : MtM X id r) (hr : MRd X g r o) (hN : X.N[i]? = some x)
    (hv : Vis X.env.scope x := by first | exact Or.inl rfl | exact Or.inr (Or.inl rfl) | exact Or.inr (Or.inr rfl)) (hd : (x == ("__debug__" : Str)) = false := by decide) (hcd : (x == ("__classdict__" : Str)) = false := by decide)
    (hbase : attributeBase (.Name x np) name X.env (eval (.Name x np) X.env) = eval (.Name x np) X.env := by rfl) (hline : (apos.endLine == pos.line) = true := by rfl) :
    QE X g (.Call (.Attribute (.Name x np) name apos) [] [] pos) (rMS2 i o rNil) := by
  refine QE.of (fun Ξ tk => pe_bm0 F.plainAttrs_list slot hty hmt (pe_var (i := i) hN hv hd hcd) hbase hline) fun τ vs ρ Φ Ξ σ H S hw => ?_
  obtain ⟨m0, xs0, e0, hw⟩ := rMS2_ok hw
  obtain ⟨a, ws0, hsl, c0, rs0⟩ := ol_slot S e0
  refine ⟨.ref a, hsl, .inl ⟨rfl, ws0, .inl (.inl c0)⟩, ?_⟩
  obtain ⟨m', ds, ρ', e2, q⟩ := kTs_ok (show kTs (fun m' ds ρ' => match ρ'[i]? with
    | some (.ol m xs) => o m xs m' ds fun r m2 xs2 => Φ r (ρ'.set i (.ol m2 xs2))
    | _ => False) [] ρ from hw)
  cases e2
  obtain ⟨m, xs, e1, q⟩ := rMS_ok q
  rw [e0] at e1
  cases e1
  exact hr H a ws0 [] m0 true xs0 [] _ _ c0 rs0 rfl q fun m3 d v m2 xs2 ws2 r3 r2 k => ⟨_, _, S.mput e0 hsl c0 r3 r2, k⟩
theorem gm_and1 {K : PySem.W.Frag} {m m' : Bool} {H : Hp} {ds : List D} {ws : List V} (r : Reps K (g.gm m) H ds ws) : Reps K (g.gm (m && m')) H ds ws := Reps.mono (Gh.gm_mono fun h => (Bool.and_eq_true_iff.mp h).1) .refl _ _ r
theorem gm_and2 {K : PySem.W.Frag} {m m' : Bool} {H : Hp} {ds : List D} {ws : List V} (r : Reps K (g.gm m') H ds ws) : Reps K (g.gm (m && m')) H ds ws := Reps.mono (Gh.gm_mono fun h => (Bool.and_eq_true_iff.mp h).2) .refl _ _ r
theorem reps_1 {K : PySem.W.Frag} {G : Addr → Prop} {H : Hp} {d : D} {us : List V} (r : Reps K G H [d] us) : ∃ v, us = [v] ∧ Rep K G H d v := by
  obtain ⟨v, vs', e, a, b⟩ := r
  cases b
  exact ⟨v, e, a⟩
theorem md_append : MRd X g rAppend moAppend := by
  intro H a ws us m m' xs ds k Q c r r' h kk
  unfold moAppend at h
  split at h
  · rename_i d
    obtain ⟨v, rfl, rv⟩ := reps_1 r'
    refine ⟨a, ws, v, rfl, rfl, c, by rw [line_eq, ← reps_len r]; exact h.1, ?_⟩
    exact kk true .non .non _ _ _ rfl (reps_app (gm_and1 r) (gm_and2 (reps_one rv))) h.2
  · exact h.elim
theorem md_pop : MRd X g rPopAt moPop := by
  intro H a ws us m m' xs ds k Q c r r' h kk
  unfold moPop at h
  split at h
  · rename_i z
    obtain ⟨v, rfl, rv⟩ := reps_1 r'
    obtain ⟨⟨h1, h2⟩, j, y, hj, hy, q⟩ := h
    cases (show v = V.int z from rv)
    obtain ⟨w, hw, rw'⟩ := reps_get r hy
    exact ⟨a, ws, z, j, w, rfl, rfl, c, h1, h2, by rw [← reps_len r]; exact hj, hw, kk m y w _ _ _ rw' (reps_erase j r) q⟩
  · exact h.elim
theorem md_pop0 : MRd X g rPop moPop0 := by
  intro H a ws us m m' xs ds k Q c r r' h kk
  unfold moPop0 at h
  split at h
  · cases r'
    obtain ⟨y, hy, q⟩ := h
    obtain ⟨w, hw, rw'⟩ := reps_get r hy
    exact ⟨a, ws, w, rfl, rfl, c, by rw [← reps_len r]; exact hw, kk m y w _ _ _ rw' (reps_dropLast r) q⟩
  · exact h.elim
theorem md_clear : MRd X g rClear moClear := by
  intro H a ws us m m' xs ds k Q c r r' h kk
  unfold moClear at h
  split at h
  · cases r'
    exact ⟨a, ws, rfl, rfl, c, kk true .non .non true [] [] rfl rfl h⟩
  · exact h.elim
abbrev rExtendR : V → List V → Hp → VK → Prop := fun x vs H Q => ∃ l b xs zs, x = V.ref l ∧ vs = [.ref b] ∧ H l = some (.lst xs) ∧ Rd H b (.lst zs) ∧ xs.length + zs.length ≤ sizeLine ∧ Q .non (upd H l (.lst (xs ++ zs)))
theorem mt_extendR : MtM X "list.extend" rExtendR := by
  intro pins s σ H x vs v us Q I rx rv h
  obtain ⟨l, b, xs, zs, rfl, rfl, hH, hB, hz, q⟩ := h
  cases rx
  obtain ⟨u, rfl, ru⟩ := rv.one
  cases ru
  obtain ⟨z, its, n, r, hl, e⟩ := I.lstM hH
  obtain ⟨z2, its2, n2, r2, e2⟩ := hB.ok I.hok
  have hl2 := r2.length
  have hsz : its.toArray.size + its2.toArray.size ≤ sizeLine := by rw [List.size_toArray, List.size_toArray]; omega
  have hlong : ¬ (!its.toArray.isEmpty && Builtin.List.listTooLong (its.toArray.size + its2.toArray.size)) = true := by
    rw [notLongL hsz, Bool.and_false]
    exact Bool.false_ne_true
  refine call_meets F.slot_list_extend ⟨_, e, rfl⟩ F.entry_list_extend (F.args_list_extend_2 _ _)
    (AutoSeq1.list_extend_list_list_0 l its.toArray n b its2.toArray n2 hlong (by rw [List.size_toArray]; omega) (by omega)) ⟨e, e2, ?_⟩
  refine ⟨.non, _, I.lset (its' := its ++ its2) hH e (by simp) (r.append r2) ?_, rfl, q⟩
  rw [List.length_append]
  omega
theorem md_extend : MRd X g rExtendR moExtend := by
  intro H a ws us m m' xs ds k Q c r r' h kk
  unfold moExtend at h
  split at h
  · rename_i zs
    obtain ⟨v, rfl, b, us, rfl, f, rz⟩ := reps_1 r'
    refine ⟨a, b, ws, us, rfl, rfl, c, f.rd, by rw [line_eq, ← reps_len r, ← reps_len rz]; exact h.1, ?_⟩
    exact kk true .non .non _ _ _ rfl (reps_app (gm_and1 r) (gm_and2 rz)) h.2
  · exact h.elim
theorem q_append (i : Nat) {x : Str} {apos np : Pos} (hN : X.N[i]? = some x) (he : QE X g e p)
    (hv : Vis X.env.scope x := by first | exact Or.inl rfl | exact Or.inr (Or.inl rfl) | exact Or.inr (Or.inr rfl)) (hd : (x == ("__debug__" : Str)) = false := by decide) (hcd : (x == ("__classdict__" : Str)) = false := by decide)
    (hbase : attributeBase (.Name x np) "append" X.env (eval (.Name x np) X.env) = eval (.Name x np) X.env := by rfl)
    (hfew : ((backTo pos (starEach [e] X.env)).all (fun x => !x.1) && (backToKw pos (keywordEach [] X.env)).all (fun x => x.1.isSome)
      && decide ([e].length + ([] : List Keyword).length + (if ([] : List Keyword).isEmpty then 0 else 1) < 30)) = true := by rfl)
    (hline : (apos.endLine == pos.line) = true := by rfl) (hs : starEach [e] X.env = (false, eval e X.env) :: starEach [] X.env := by rfl) (hplain : (backTo pos (starEach [] X.env)).any (·.1) = false := by rfl) :
    QE X g (.Call (.Attribute (.Name x np) "append" apos) [e] [] pos) (rMS2 i moAppend (rCons p rNil)) :=
  q_ms i F.slot_list_append F.type_list_append mt_append md_append hN (qa_cons he qa_nil hs) hv hd hcd hbase hfew hline hs hplain
theorem q_extend (i : Nat) {x : Str} {apos np : Pos} (hN : X.N[i]? = some x) (he : QE X g e p)
    (hv : Vis X.env.scope x := by first | exact Or.inl rfl | exact Or.inr (Or.inl rfl) | exact Or.inr (Or.inr rfl)) (hd : (x == ("__debug__" : Str)) = false := by decide) (hcd : (x == ("__classdict__" : Str)) = false := by decide)
    (hbase : attributeBase (.Name x np) "extend" X.env (eval (.Name x np) X.env) = eval (.Name x np) X.env := by rfl)
    (hfew : ((backTo pos (starEach [e] X.env)).all (fun x => !x.1) && (backToKw pos (keywordEach [] X.env)).all (fun x => x.1.isSome)
      && decide ([e].length + ([] : List Keyword).length + (if ([] : List Keyword).isEmpty then 0 else 1) < 30)) = true := by rfl)
    (hline : (apos.endLine == pos.line) = true := by rfl) (hs : starEach [e] X.env = (false, eval e X.env) :: starEach [] X.env := by rfl) (hplain : (backTo pos (starEach [] X.env)).any (·.1) = false := by rfl) :
    QE X g (.Call (.Attribute (.Name x np) "extend" apos) [e] [] pos) (rMS2 i moExtend (rCons p rNil)) :=
  q_ms i F.slot_list_extend F.type_list_extend mt_extendR md_extend hN (qa_cons he qa_nil hs) hv hd hcd hbase hfew hline hs hplain
theorem q_popAt (i : Nat) {x : Str} {apos np : Pos} (hN : X.N[i]? = some x) (he : QE X g e p)
    (hv : Vis X.env.scope x := by first | exact Or.inl rfl | exact Or.inr (Or.inl rfl) | exact Or.inr (Or.inr rfl)) (hd : (x == ("__debug__" : Str)) = false := by decide) (hcd : (x == ("__classdict__" : Str)) = false := by decide)
    (hbase : attributeBase (.Name x np) "pop" X.env (eval (.Name x np) X.env) = eval (.Name x np) X.env := by rfl)
    (hfew : ((backTo pos (starEach [e] X.env)).all (fun x => !x.1) && (backToKw pos (keywordEach [] X.env)).all (fun x => x.1.isSome)
      && decide ([e].length + ([] : List Keyword).length + (if ([] : List Keyword).isEmpty then 0 else 1) < 30)) = true := by rfl)
    (hline : (apos.endLine == pos.line) = true := by rfl) (hs : starEach [e] X.env = (false, eval e X.env) :: starEach [] X.env := by rfl) (hplain : (backTo pos (starEach [] X.env)).any (·.1) = false := by rfl) :
    QE X g (.Call (.Attribute (.Name x np) "pop" apos) [e] [] pos) (rMS2 i moPop (rCons p rNil)) :=
  q_ms i F.slot_list_pop F.type_list_pop mt_popAt md_pop hN (qa_cons he qa_nil hs) hv hd hcd hbase hfew hline hs hplain
end
end Q

namespace Q
open PySem PySem.Spec PyProof.Rows L2
section
variable {X : Cx} {g : Gh} {a b c e ie value : Expr} {es : List Expr} {pa pb pc p pv pi : RE} {ps : RA} {pos p2 pos' : Pos}
/-! ### slot[e] = v -/
abbrev rSetQ : TSet := fun o i v H Q => rSetL o i v H Q ∨ rSetD o i v H Q
theorem set_Q (hu : X.A.units + 1 < cLine) : PSet X rSetQ := by
  intro pins s σ H o i v ov iv u Q I ro ri rv h
  rcases h with h | h
  · exact set_list pins s σ H o i v ov iv u Q I ro ri rv h
  · exact set_dict hu pins s σ H o i v ov iv u Q I ro ri rv h
theorem own_ref {ρ : PSt} {σ : L2.St} {τ : List SV} {vs : List V} {H : Hp} {i : Nat} {sv : SV} (S : SR X.K g ρ σ τ vs H) (hr : ρ[i]? = some sv) (ho : isOwn sv = true) : ∃ a, σ[i]? = some (some (.ref a)) := by
  obtain ⟨u, hu, z, _⟩ := S.slot hr
  cases sv with
  | ol m xs => obtain ⟨a, _, rfl, _⟩ := z; exact ⟨a, hu⟩
  | od m xs => obtain ⟨a, _, rfl, _⟩ := z; exact ⟨a, hu⟩
  | so a kvs => obtain ⟨rfl, _⟩ := z; exact ⟨a, hu⟩
  | _ => cases ho
theorem od_slot {ρ : PSt} {σ : L2.St} {τ : List SV} {vs : List V} {H : Hp} {i : Nat} {m : Bool} {xs : List (Ky × D)} (S : SR X.K g ρ σ τ vs H) (hr : ρ[i]? = some (.od m xs)) : ∃ a ws, σ[i]? = some (some (.ref a)) ∧ H a = some (.dK ws) ∧ Repk X.K (g.gm m) H xs ws := by
  obtain ⟨u, hu, ⟨a, ws, rfl, c, r⟩, _⟩ := S.slot hr
  exact ⟨a, ws, hu, c, r⟩
theorem putIx_ok {ρ : PSt} {σ : L2.St} {τ : List SV} {vs : List V} {H : Hp} {i : Nat} {mv mi : Bool} {dv di : D} {v vi : V} {x : Addr} {k : PSt → Prop} (S : SR X.K g ρ σ τ vs H) (hs : σ[i]? = some (some (.ref x))) (rv : Rep X.K (g.gm mv) H dv v) (ri : ViewR X.K g H mi di vi) (h : putIx i mv dv di ρ k) :
    rSetQ (.ref x) vi v H fun H' => ∃ ρ', SR X.K g ρ' σ τ vs H' ∧ k ρ' := by
  unfold putIx at h
  split at h
  · rename_i m xs e
    obtain ⟨a, ws, h1, h2, h3⟩ := ol_slot S e
    rw [hs] at h1
    cases h1
    split at h
    · rename_i z
      obtain ⟨j, hj, q⟩ := h
      cases view_int ri
      refine .inl ⟨x, ws, z, j, rfl, rfl, h2, by rw [← reps_len h3]; exact hj, _, ?_, q⟩
      have st : Stab H (upd H x (.lst (ws.set j v))) := stab_mut (by rw [h2]; trivial)
      exact S.write (sv' := .ol (m && mv) (xs.set j dv)) (o := .lst (ws.set j v)) e hs rfl (.inl rfl) rfl ⟨x, _, rfl, upd_same, reps_set j (Reps.mono (Gh.gm_mono fun h => (Bool.and_eq_true_iff.mp h).1) st _ _ h3) (Rep.mono (Gh.gm_mono fun h => (Bool.and_eq_true_iff.mp h).2) st _ _ rv)⟩ (fun z => nomatch z)
    · exact h.elim
  · rename_i m kvs e
    obtain ⟨a, ws, h1, h2, h3⟩ := od_slot S e
    rw [hs] at h1
    cases h1
    obtain ⟨ky, hk, hl, q⟩ := h
    cases key_view hk ri
    refine .inr ⟨x, _, rfl, .inl ⟨ws, ky, h2, rfl, by rw [line_eq, ← repk_len h3]; exact hl, rfl⟩, _, ?_, q⟩
    have st : Stab H (upd H x (.dK (putK ws ky v))) := stab_mut (by rw [h2]; trivial)
    exact S.write (sv' := .od (m && mv) (dput kvs ky dv)) (o := .dK (putK ws ky v)) e hs rfl (.inl rfl) rfl ⟨x, _, rfl, upd_same, repk_put (Repk.mono (Gh.gm_mono fun h => (Bool.and_eq_true_iff.mp h).1) st _ _ h3) (Rep.mono (Gh.gm_mono fun h => (Bool.and_eq_true_iff.mp h).2) st _ _ rv)⟩ (fun z => nomatch z)
  · rename_i a kvs e
    obtain ⟨u, hu, ⟨rfl, ws, h2, h3⟩, _⟩ := S.slot e
    rw [hs] at hu
    cases hu
    obtain ⟨sf, ky, hk, hl, q⟩ := h
    cases key_view hk ri
    refine .inr ⟨_, _, rfl, .inl ⟨ws, ky, h2, rfl, by rw [line_eq, ← repk_len h3]; exact hl, rfl⟩, _, ?_, q⟩
    have st : Stab H (upd H x (.dK (putK ws ky v))) := stab_mut (by rw [h2]; trivial)
    exact S.write (sv' := .so x (dput kvs ky dv)) (o := .dK (putK ws ky v)) e hs rfl (.inl rfl) rfl ⟨rfl, _, upd_same, repk_put (Repk.mono (fun _ z => z) st _ _ h3) (rep_safe _ _ sf (Rep.mono (fun _ z => z) st _ _ rv))⟩ (fun _ => rfl)
  · exact h.elim
theorem q_setIx (i : Nat) {x : Str} {np : Pos} (hu : X.A.units + 1 < cLine) (hN : X.N[i]? = some x) (hi : QE X g ie pi) (hv : QE X g value pv)
    (hvi : Vis X.env.scope x := by first | exact Or.inl rfl | exact Or.inr (Or.inl rfl) | exact Or.inr (Or.inr rfl)) (hd : (x == ("__debug__" : Str)) = false := by decide) (hcd : (x == ("__classdict__" : Str)) = false := by decide)
    (ha : ∀ v, assign (.Subscript (.Name x np) ie pos') X.env v = (do
      let ov ← holding [v] (eval (.Name x np) X.env)
      let iv ← holding [v, ov] (eval ie X.env)
      standAt pos'
      holding [v, ov, iv] (setItem ov iv v)
      release [v, ov, iv] []) := by intro _; rfl)
    (hs : swapsWithSole [.Subscript (.Name x np) ie pos'] value pos.line X.env = pure false := by rfl) (hw : swappedStores [.Subscript (.Name x np) ie pos'] value X.env = pure none := by rfl)
    (h1 : (assignEach [.Subscript (.Name x np) ie pos'] X.env).map (·.2) = [assign (.Subscript (.Name x np) ie pos') X.env] := by rfl) :
    QS X g (.Assign [.Subscript (.Name x np) ie pos'] value pos) (rSetIx i pi pv) := by
  refine QS.of (fun Ξ tk => ps_asg (hv.peT tk) (pg_sub (pe_var (i := i) hN hvi hd hcd) (hi.pe tk) (set_Q hu) ha) hs hw h1) fun τ vs ρ D σ H nb S hw => ?_
  refine ⟨τ, vs, ρ, _, S, hw, fun mv dv ρ1 v H1 S1 rv q => ?_⟩
  cases e : ρ1[i]? with
  | none => rw [e] at q; exact q.elim
  | some sv =>
    rw [e] at q
    obtain ⟨ho, q⟩ := q
    obtain ⟨x, hx⟩ := own_ref S1 e ho
    refine ⟨.ref x, hx, .fr mv dv :: τ, v :: vs, ρ1, _, S1.pushF rv, q, fun si ρ2 vi H2 S2 h2 => ?_⟩
    obtain ⟨mi, di, e2, q2⟩ := kV_ok h2
    have vI := view_ok S2 S2.top e2
    obtain ⟨w, hw, rw'⟩ := S2.pop.top
    cases hw
    exact putIx_ok S2.pop.pop hx rw' vI q2
/-! ### dict displays -/
/-- a reading that its post-condition may be weakened in -/
structure QPm (X : Cx) (g : Gh) (keys : List (Option Expr)) (values : List Expr) (p : RP) : Prop where
  trs : ∀ Ξ, Takes X (WQ X g Ξ) → ∃ trs, (∀ pos, PPs X pos keys values trs) ∧ ∀ (τ : List SV) (vs : List V) (ρ : PSt) (Φ : Bool → List (Ky × D) → PSt → Prop) (σ : L2.St) (H : Hp) (Q : List (V × V) → Hp → Prop), SR X.K g ρ σ τ vs H → p ρ Φ Ξ →
    (∀ m kvs (kw : List (Key × V)) ρ' H', Repk X.K (g.gm m) H' kvs kw → SR X.K g ρ' σ τ vs H' → Φ m kvs ρ' → Q (kw.map (fun kv => (L2.kV kv.1, kv.2))) H') → tPairs trs σ H Q
theorem qpm_nil : QPm X g [] [] rpNil := ⟨fun Ξ tk => ⟨[], fun pos => pps_nil, fun τ vs ρ Φ σ H Q S h k => k true [] [] ρ H rfl S h⟩⟩
theorem qpm_cons {ks : List (Option Expr)} {vs' : List Expr} {k v : Expr} {pk pv : RE} {r : RP} (hk : QE X g k pk) (hv : QE X g v pv) (hr : QPm X g ks vs' r) : QPm X g (some k :: ks) (v :: vs') (rpCons pk pv r) := ⟨fun Ξ tk => by
  obtain ⟨trs, h1, h2⟩ := hr.trs Ξ tk
  refine ⟨_, fun pos => pps_cons (hk.pe tk) (hv.peT tk) (h1 pos), fun τ vs ρ Φ σ H Q S h kk => ?_⟩
  refine ⟨τ, vs, ρ, _, S, h, fun sk ρ1 x H1 S1 q1 => ?_⟩
  obtain ⟨mk, dk, e1, q1⟩ := kV_ok q1
  have vk := view_ok S1 S1.top e1
  refine ⟨τ, vs, ρ1, _, S1.pop, q1, fun m d ρ2 y H2 S2 ry q2 => ?_⟩
  refine h2 (.fr m d :: τ) (y :: vs) ρ2 _ σ H2 _ (S2.pushF ry) q2 fun m' kvs kw ρ3 H3 r3 S3 q3 => ?_
  obtain ⟨ky, hky, q3⟩ := q3
  obtain ⟨w, hw, rw'⟩ := S3.top
  cases hw
  have ex : x = L2.kV ky := key_view hky vk
  subst ex
  exact kk (m && m') ((ky, d) :: kvs) ((ky, y) :: kw) ρ3 H3 ⟨(ky, y), kw, rfl, (show ky = ky ∧ _ from ⟨rfl, Rep.mono (Gh.gm_mono fun h => (Bool.and_eq_true_iff.mp h).1) .refl _ _ rw'⟩), Repk.mono (Gh.gm_mono fun h => (Bool.and_eq_true_iff.mp h).2) .refl _ _ r3⟩ S3.pop q3⟩
theorem q_dict {keys : List (Option Expr)} {values : List Expr} {r : RP} (h : QPm X g keys values r) (hall : keys.all (·.isSome) = true := by rfl) (hl : keys.length = values.length := by rfl) (h0 : keys ≠ [] := by simp) (h15 : keys.length ≤ 15 := by decide) : QE X g (.Dict keys values pos) (rDict r) := by
  refine ⟨fun pins s σ H τ vs ρ Φ Ξ tk I S hw => ?_⟩
  obtain ⟨trs, h1, h2⟩ := h.trs Ξ tk
  refine thn ((pe_disp (h1 pos) hall hl h0 h15).run pins s σ H (fun v H' => ∃ sv ρ', SR X.K g ρ' σ (sv :: τ) (v :: vs) H' ∧ Φ sv ρ') I ?_) fun u s' ⟨v, H', I', rv, sv, ρ', S', q⟩ => ⟨v, H', sv, ρ', I', rv, S', q⟩
  intro p hp
  have S1 : SR X.K g ρ σ (.od true [] :: τ) (.ref p :: vs) (upd H p (.dK [])) := S.newOwn hp ⟨p, [], rfl, upd_same, rfl⟩
  refine h2 _ _ ρ _ σ _ _ S1 hw fun m kvs kw ρ' H' rk S' q => ?_
  obtain ⟨a, kw0, e, c, r0⟩ := S'.top
  cases e
  cases r0
  have ln := repk_len rk
  refine ⟨c, kw, rfl, by rw [← ln]; exact q.1, .od m (mergeD [] kvs), ρ', ?_, q.2⟩
  have st : Stab H' (upd H' p (.dK (mergeK [] kw))) := stab_mut (by rw [c]; trivial)
  exact SR.writeTop (sv' := .od m (mergeD [] kvs)) S' rfl rfl rfl ⟨p, _, rfl, upd_same, repk_merge (Repk.mono (fun _ z => z) st _ _ rk) rfl⟩
theorem q_dict0 : QE X g (.Dict [] [] pos) rDict0 :=
  QE.of (t := fun _ => tDNewK) (fun _ _ => pe_dnewK) fun τ vs ρ Φ Ξ σ H S hw => fun p hp => ⟨.od true [], ρ, S.newOwn hp ⟨p, [], rfl, upd_same, rfl⟩, hw⟩
/-! ### the draws' store is made -/
end
end Q

namespace Q
open PySem PySem.Spec PyProof.Rows L2
/-! ### pins: a frozen cell that is kept in sight -/
def Gh.pinned (g : Gh) (z : Addr × Obj × HO) : Gh := { g with Z := (fun H => H z.1 = some (.frz z.2.1 z.2.2)) :: g.Z }
section
variable {K : PySem.W.Frag} {g : Gh} {ρ : PSt} {σ : L2.St} {τ : List SV} {vs : List V} {H : Hp} {z : Addr × Obj × HO}
theorem SR.topin (S : SR K g ρ σ τ vs H) (h : H z.1 = some (.frz z.2.1 z.2.2)) : SR K (g.pinned z) ρ σ τ vs H :=
  ⟨S.len, S.tlen, S.all, S.inj, S.own, S.keep, S.tabs, S.gnew, fun y hy => (List.mem_cons.mp hy).elim (fun e => by rw [e]; exact ⟨fun _ _ st e => st.frz _ _ _ e, h⟩) (S.pin y), S.nb, S.snew⟩
theorem SR.unpin (S : SR K (g.pinned z) ρ σ τ vs H) : SR K g ρ σ τ vs H :=
  ⟨S.len, S.tlen, S.all, S.inj, S.own, S.keep, S.tabs, S.gnew, fun y hy => S.pin y (List.mem_cons_of_mem _ hy), S.nb, S.snew⟩
theorem SR.pin1 (S : SR K (g.pinned z) ρ σ τ vs H) : H z.1 = some (.frz z.2.1 z.2.2) := (S.pin _ List.mem_cons_self).2
end
theorem takes_pin {X : Cx} {g : Gh} {Ξ : RX} (z : Addr × Obj × HO) (tk : Takes X (WQ X g Ξ)) : Takes X (WQ X (g.pinned z) Ξ) := Takes.imp tk fun c d σ H h => by
  obtain ⟨x, ρ, τ, vs, S, ok, h⟩ := h
  exact ⟨x, ρ, τ, vs, S.unpin, ok, h⟩
theorem key_kv {K : PySem.W.Frag} {G : Addr → Prop} {H : Hp} (k : Ky) : Rep K G H (kyD k) (L2.kV k) := by
  cases k <;> rfl
theorem repk_at {K : PySem.W.Frag} {G : Addr → Prop} {H : Hp} : ∀ {ds : List (Ky × D)} {vs : List (Ky × V)} {i : Nat} {p : Ky × V}, Repk K G H ds vs → vs[i]? = some p → ∃ d, ds[i]? = some d ∧ p.1 = d.1 ∧ Rep K G H d.2 p.2
  | [], _, _, _, r, h => by cases r; simp at h
  | x :: r, _, 0, p, ⟨v, vs', e, a, _⟩, h => by
    subst e
    simp at h
    subst h
    exact ⟨x, rfl, (repk1 a).1, (repk1 a).2⟩
  | x :: r, _, i + 1, p, ⟨v, vs', e, _, b⟩, h => by
    subst e
    simp at h
    obtain ⟨d, h1, h2⟩ := repk_at b h
    exact ⟨d, by simpa using h1, h2⟩
section
variable {X : Cx} {g : Gh} {tg e : Expr} {p : RE} {pos apos cpos : Pos}
/-! ### over the signs of a text -/
theorem qi_str (h : QE X g e p) : QI X g tg e (riS p) := fun Ξ tk => PI.imp (pi_str (h.pe tk)) fun σ H R ⟨τ, vs, ρ, Φ, S, hw, k⟩ => by
  refine ⟨τ, vs, ρ, _, S, hw, fun sv ρ' v H' S' q => ?_⟩
  split at q
  · rename_i m x
    obtain ⟨u, e, ru⟩ := S'.top
    cases e
    cases (show v = V.str x from ru)
    refine ⟨x, rfl, k (Its x) true _ ρ' [] [] H' S'.pop ⟨?_, ?_, ?_, fun sv h => absurd h (by simp), rfl⟩ q⟩
    · intro i ρ σ τ vs H S hi
      show i < x.cps.size
      simpa using hi
    · intro ρ σ τ vs H S
      show x.cps.size ≤ _
      simp
    · intro i ρ σ τ vs H v H' S hi y
      obtain ⟨rfl, c, hc, rfl⟩ := y
      refine ⟨.str ⟨#[c]⟩, ?_, S.pushF rfl⟩
      rw [List.getElem?_map, Array.getElem?_toList, hc]
      rfl
  · exact q.elim
/-! ### over the keys of a dict -/
theorem q_forK {js : List Nat} {r : RG} {body : List Stmt} {rb : RS} (hp : PassesOwn (model X.prog X.w) X.A X.env X.xe) (hc : X.calm = true) (he : QE X g e p) (hg : ∀ z, QG X (g.pinned z) js tg r) (hb : ∀ z, QSs X (g.pinned z) body rb)
    (hbase : attributeBase e "keys" X.env (eval e X.env) = eval e X.env := by rfl) (hline : (apos.endLine == cpos.line) = true := by rfl)
    (hs : ∀ x, foldedSetIterable (.Call (.Attribute e "keys" apos) [] [] cpos) X.env x = pure x := by intro _; rfl) : QS X g (.For tg (.Call (.Attribute e "keys" apos) [] [] cpos) body [] pos) (rFor (riK p) r rb) := by
  have hgU : PG X tg (fun v σ H Q => ∃ z, tqg X (g.pinned z) js r v σ H Q) := ⟨fun pins s σ H v u Q I rv ⟨z, h⟩ => (hg z).pg.run pins s σ H v u Q I rv h⟩
  have hbU : ∀ Ξ, Takes X (WQ X g Ξ) → PSs X body (fun E σ H => ∃ z, tqs X (g.pinned z) rb Ξ E σ H) := fun Ξ tk => ⟨fun pins s σ H E I ⟨z, h⟩ => ((hb z).pss (takes_pin z tk)).run pins s σ H E I h⟩
  refine QS.of (fun Ξ tk => ps_for hp hc (pi_keysM (he.peT tk) hbase hline) hgU (hbU Ξ tk) hs) fun τ vs ρ D σ H nb S hw => ?_
  refine ⟨τ, vs, ρ, _, S, hw, fun m d ρ1 v H1 S1 rv q => ?_⟩
  cases d with
  | dk kvs =>
    obtain ⟨Iv, i0, turn, fin⟩ := q
    obtain ⟨a, kw, rfl, fz, rk⟩ := id rv
    obtain ⟨_, o, fo⟩ := fz
    have ln := repk_len rk
    refine ⟨a, o, kw, rfl, fo, ?_⟩
    have S2 : SR X.K (g.pinned (a, o, .dK kw)) ρ1 σ (.fr m (.dk kvs) :: τ) (.ref a :: vs) H1 := (S1.pushF rv).topin fo
    have nb2 : NoBor (.fr m (.dk kvs) :: τ) := fun sv h => (List.mem_cons.mp h).elim (fun z => by rw [z]; rfl) (nb sv)
    refine ⟨fun i n σ H => n = kvs.length - i ∧ i ≤ kvs.length ∧ ∃ ρ, SR X.K (g.pinned (a, o, .dK kw)) ρ σ (.fr m (.dk kvs) :: τ) (.ref a :: vs) H ∧ Iv i ρ, ⟨kvs.length, by simp, Nat.zero_le _, ρ1, S2, i0⟩, ?_⟩
    rintro i n σ H ⟨rfl, hi, ρ, S, iv⟩
    have fo := S.pin1
    by_cases hlt : i < kvs.length
    · refine .inr ⟨⟨fo, by rw [← ln]; exact hlt⟩, fun σ' H' => i + 1 ≤ kvs.length ∧ ∃ ρ, SR X.K (g.pinned (a, o, .dK kw)) ρ σ' (.fr m (.dk kvs) :: τ) (.ref a :: vs) H' ∧ Iv (i + 1) ρ, fun σ' H' ⟨h1, h2⟩ => ⟨kvs.length - (i + 1), by omega, rfl, h1, h2⟩, fun v H' y => ?_⟩
      obtain ⟨rfl, k, w', hk, rfl⟩ := y
      obtain ⟨dp, hdp, hk1, _⟩ := repk_at rk hk
      have hk1 : k = dp.1 := hk1
      subst hk1
      refine ⟨(a, o, .dK kw), .fr m (.dk kvs) :: τ, .ref a :: vs, ρ, .fr true (kyD dp.1), _, nb2, rfl, S.pushF (key_kv _), turn i (kyD dp.1) ρ (by rw [List.getElem?_map, hdp]; rfl) iv, fun ρ2 σ2 H2 S2 z _ => ?_⟩
      refine ⟨(a, o, .dK kw), .fr m (.dk kvs) :: τ, .ref a :: vs, ρ2, { D with nx := Iv (i + 1), ct := Iv (i + 1), bk := D.nx }, nb2, rfl, S2, z, fun ρ' σ' H' S' z => ⟨hlt, ρ', S', z⟩, fun sv ρ' v σ' H' S' z => ?_, fun ρ' σ' H' S' z => ⟨ρ', S'.pop.unpin, z⟩, fun ρ' σ' H' S' z => ⟨hlt, ρ', S', z⟩⟩
      exact ⟨σ', sv, ρ', (SR.drop (svs := [.fr m (.dk kvs)]) (us := [.ref a]) rfl (S'.sink (svs := [.fr m (.dk kvs)]) (us := [.ref a]) rfl)).unpin, z⟩
    · have e : i = kvs.length := by omega
      subst e
      exact .inl ⟨⟨fo, by rw [← ln]; exact Nat.le_refl _⟩, ρ, S.pop.unpin, fin ρ (by simpa using iv)⟩
  | _ => exact q.elim
end
end Q

namespace Q
open PySem PySem.Spec PyProof.Rows L2
/-! ### calls with keywords -/
theorem permL_range {α : Type} (l : List α) : permL (List.range l.length) l = l := by
  unfold permL
  apply List.ext_getElem?
  intro i
  have e : (List.range l.length).filterMap (fun i => l[i]?) = l := by
    induction l with
    | nil => rfl
    | cons a l ih =>
      rw [List.length_cons, List.range_succ_eq_map, List.filterMap_cons, List.filterMap_map]
      simp only [List.getElem?_cons_zero]
      congr 1
  rw [e]
theorem permL_perm {α : Type} {pm : List Nat} {l : List α} (h : pm.Perm (List.range pm.length)) (hl : l.length = pm.length) : (permL pm l).Perm l := by
  have := h.filterMap (fun i => l[i]?)
  rw [← hl] at this
  exact this.trans (by rw [show (List.range l.length).filterMap (fun i => l[i]?) = l from permL_range l])
theorem permL_zip {α β : Type} {a : List α} {b : List β} (hl : a.length = b.length) : ∀ pm : List Nat, permL pm (a.zip b) = (permL pm a).zip (permL pm b)
  | [] => rfl
  | i :: pm => by
    have ih := permL_zip hl pm
    unfold permL at ih ⊢
    rw [List.filterMap_cons, List.filterMap_cons, List.filterMap_cons]
    by_cases hi : i < a.length
    · rw [List.getElem?_eq_getElem hi, List.getElem?_eq_getElem (show i < b.length by omega), List.getElem?_eq_getElem (show i < (a.zip b).length by rw [List.length_zip]; omega)]
      simp only [List.zip_cons_cons, List.getElem_zip]
      rw [ih]
    · rw [List.getElem?_eq_none (show a.length ≤ i by omega), List.getElem?_eq_none (show b.length ≤ i by omega), List.getElem?_eq_none (show (a.zip b).length ≤ i by rw [List.length_zip]; omega)]
      exact ih
theorem permL_map {α β : Type} (f : α → β) (l : List α) : ∀ pm : List Nat, permL pm (l.map f) = (permL pm l).map f
  | [] => rfl
  | i :: pm => by
    have ih := permL_map f l pm
    unfold permL at ih ⊢
    rw [List.filterMap_cons, List.filterMap_cons, List.getElem?_map]
    cases l[i]? with
    | none => exact ih
    | some x => simp only [Option.map_some, List.map_cons]; rw [ih]
theorem permL_len {α β : Type} {a : List α} {b : List β} (hl : a.length = b.length) : ∀ pm : List Nat, (permL pm a).length = (permL pm b).length
  | [] => rfl
  | i :: pm => by
    have ih := permL_len hl pm
    unfold permL at ih ⊢
    rw [List.filterMap_cons, List.filterMap_cons]
    by_cases hi : i < a.length
    · rw [List.getElem?_eq_getElem hi, List.getElem?_eq_getElem (show i < b.length by omega)]
      simp only [List.length_cons]; rw [ih]
    · rw [List.getElem?_eq_none (show a.length ≤ i by omega), List.getElem?_eq_none (show b.length ≤ i by omega)]
      exact ih
theorem permL_vals {pm : List Nat} {ws : List V} {us : List Value} (r : Vals ws us) : Vals (permL pm ws) (permL pm us) := by
  induction pm with
  | nil => exact .nil
  | cons i pm ih =>
    have hl := r.length
    unfold permL at ih ⊢
    rw [List.filterMap_cons, List.filterMap_cons]
    by_cases hi : i < ws.length
    · obtain ⟨u, hu, ru⟩ := r.get (List.getElem?_eq_getElem hi)
      rw [List.getElem?_eq_getElem hi, hu]
      exact .cons ru ih
    · rw [List.getElem?_eq_none (show ws.length ≤ i by omega), List.getElem?_eq_none (show us.length ≤ i by omega)]
      exact ih
/-- the binding of such a call -/
def KwB (K : PySem.W.Frag) (fd : FuncData) (ps ks : List Str) (pm : List Nat) : Prop := ∀ (s : Shared) (us ws : List Value), K.In s.heap → ws.length = ks.length → (us ++ ws).length = pm.length → BindsTo s fd ⟨us, ks.zip ws⟩ (ps.zip (permL pm (us ++ ws)))
theorem kwB {x qual : Str} {st : Stmt} {f : Addr} {fd : FuncData} {ps ks : List Str} {pm : List Nat} {K : PySem.W.Frag} (n0 : Nat) (hn : pm.length = n0 + ks.length) (F : Fun K x qual st f fd)
    (h : ∀ (kV doc pmv : Value) (an : Option Addr) (cdv ct : Value) (us ws : List Value), us.length = n0 → ws.length = ks.length → bindArgs (PySem.W.fnOf x qual (defArgs st) (defBody st) (defScope st) .none kV doc pmv an cdv ct) ⟨us, ks.zip ws⟩ = pure (ps.zip (permL pm (us ++ ws)))) : KwB K fd ps ks pm := by
  obtain ⟨oc, od, kV, doc, pmv, an, cdv, ct, osl, rfl, lk, hcd⟩ := F.ex
  exact fun s us ws _ h1 h2 => .of_eq (h kV doc pmv an cdv ct us ws (by rw [List.length_append] at h2; omega) h1)
section
variable {X : Cx} {g : Gh} {pins : List (Addr × Obj)} {s : Shared} {σ : L2.St}
theorem run_fnA {H : Hp} {k : Nat} {f : Addr} {fd : FuncData} {ps : List Str} {sp : Sp} {us all : List Value} {kw : List (Str × Value)} {vs : List V} {Q : VK} {E : XK} {W : WX} (F : FnOk X.prog X.w X.K X.mg X.base (L2.CX X.prog X.w) k f fd ps sp) (hr : Room k X.A)
    (hb : all.length = ps.length → BindsTo s fd ⟨us, kw⟩ (ps.zip all)) (tk : Takes X W) (I : L2.Inv X pins σ H s) (r : Vals vs all) (h : sp vs H Q E) (hE : ∀ c d H', Stab0 H H' → E c d H' → W c d σ H') :
    wpAny (model X.prog X.w) X.A (call (.ref f) us kw) (fun u s' => ∃ v H', L2.Inv X pins σ H' s' ∧ RelV v u ∧ Stab0 H H' ∧ Q v H') X.xe s := by
  have hl : all.length = ps.length := by rw [← r.length]; exact F.len _ _ _ _ h
  refine wpAny_call (codeAny_mono (F.run X.A X.stack s H ⟨us, kw⟩ all vs Q E hr I.env0 (hb hl) r h) fun res s' hq => ?_)
  cases res with
  | error e =>
    obtain ⟨a, B, H', cls, d, e1, fl, hok, ub, na, os, ag, z⟩ := hq
    exact tk _ _ (XE.of_call (E := fun c d H' => Stab0 H H' ∧ E c d H') I (fun c d H' q => hE c d H' q.1 q.2) ⟨a, B, H', cls, d, e1, fl, hok, ub, na, os, ag, ⟨ub.frzs, ub.tups⟩, z⟩)
  | ok fl =>
    cases fl with
    | ret u =>
      obtain ⟨v, H', os, bare, un, hok, rv, q⟩ := hq
      obtain ⟨hh, gg, dd, t, os'⟩ := s'
      obtain rfl : os' = s.os := os
      exact ⟨v, H', I.call (h' := hh) (g' := gg) (d' := dd) (t' := t) (ch := []) un hok bare (fun b z => absurd z (by simp)), rv, ⟨un.frzs, un.tups⟩, q⟩
    | next => exact False.elim hq
    | brk => exact False.elim hq
    | cont => exact False.elim hq
theorem call_coreA {k : Nat} {f : Addr} {fd : FuncData} {ps : List Str} {ms : List Mode} {qs : QSpec} {us all : List Value} {kw : List (Str × Value)} {ws : List V} {svs : List SV} {ρ : PSt} {τ : List SV} {vs : List V} {H : Hp} {Φ : RK} {Ξ : RX} {m : Bool} {ds : List D} {ρ2 : PSt}
    (F : FnOk X.prog X.w X.K X.mg X.base (L2.CX X.prog X.w) k f fd ps (spQ X.K g.T ms qs)) (hr : Room k X.A) (hb : all.length = ps.length → BindsTo s fd ⟨us, kw⟩ (ps.zip all)) (h1 : (ms.filter isT).length ≤ 1)
    (tk : Takes X (WQ X g Ξ)) (I : L2.Inv X pins σ H s) (r : Vals ws all) (hl : svs.length = ws.length) (S : SR X.K g ρ σ (svs ++ τ) (ws ++ vs) H) (hp : passAll ms svs ρ = some (m, ds, ρ2)) (hq : qs ds (fun r => Φ (r.dem m) ρ2) (fun e => Ξ e ρ2)) :
    wpAny (model X.prog X.w) X.A (call (.ref f) us kw) (QEnd X g pins σ τ vs Φ) X.xe s := by
  obtain ⟨H2, I2, S2, ra, _⟩ := passAll_ok svs ms ws ρ ρ2 H m ds τ vs I hl S hp
  have rA := argsQ_R S2 ra
  have hM := argsQ_M ra
  have nd : (mOf ms ds).Nodup := stoM_nodup S2 (Nat.le_trans (mOf_le ms ds) h1)
  have hsc : ∀ a, ((mOf ms ds ≠ [] ∧ g.S a) ∨ H2 a = none) → g.S a := fun a z => z.elim And.right fun z => S2.snew a (S2.free z)
  refine thn (run_fnA (Q := fun v H3 => ∃ sv σ0, CallR' X.K g.T g.S (mOf ms ds) H2 H3 ∧ SVR X.K ⟨g.gm m, [], g.T, H2, [], fun a => (mOf ms ds ≠ [] ∧ g.S a) ∨ H2 a = none⟩ H3 σ0 sv (some v) ∧ sv.isBor = false ∧ (∀ a, ownOf sv (some v) = some a → H2 a = none) ∧ Φ (sv.dem m) ρ2)
    (E := fun c d H3 => ∃ x, CallR' X.K g.T g.S (mOf ms ds) H2 H3 ∧ ExnOk X.K g H3 x c d ∧ Ξ x ρ2) F hr hb tk I2 r ?_ ?_) fun u s' hx => ?_
  · refine ⟨g.gm m, fun a => (mOf ms ds ≠ [] ∧ g.S a) ∨ H2 a = none, ds, fun r => Φ (r.dem m) ρ2, fun e => Ξ e ρ2, fun a ha _ => S2.gnew a (S2.free ha), fun a ha => .inr ha, fun z a h => h.elim (fun q => absurd z q.1) id, S2.tabs, argsR_up (fun a ha b hb => .inl ⟨fun z => (by rw [z] at ha; cases ha), hb⟩) rA, nd, hq, ?_, ?_⟩
    · intro sv v H3 σ0 c hs hb ho hR
      exact ⟨sv, σ0, c.up hsc, hs, hb, ho, hR⟩
    · intro x c d H3 c2 ok hF
      exact ⟨x, c2.up hsc, ok, hF⟩
  · intro c d H3 st hx
    obtain ⟨x, c2, ok, hF⟩ := hx
    exact ⟨x, ρ2, τ, vs, S2.called hM c2 st, ok, hF⟩
  · obtain ⟨v, H3, I3, rv, st, sv, σ0, c, hs, hb2, ho, hR⟩ := hx
    have S3 := S2.called hM c st
    refine ⟨v, H3, sv.dem m, ρ2, I3, rv, S3.push (svr_dem hsc hb2 hs) fun a e => ?_, hR⟩
    rw [own_dem] at e
    have hn := ho a e
    refine ⟨.inl (S2.free hn), fun q hq z => ?_⟩
    obtain ⟨_, w, hw, _⟩ := svr_own (S2.all q hq) z
    rw [hn] at hw
    cases hw
end
/-! ### the keywords' values -/
structure QKw (X : Cx) (g : Gh) (kws : List Keyword) (p : RA) : Prop where
  pk : ∀ Ξ, Takes X (WQ X g Ξ) → PK X kws (tqa X g p Ξ)
section
variable {X : Cx} {g : Gh} {e : Expr} {es : List Expr} {kws : List Keyword} {p : RE} {pa pk : RA} {nm : Option Str} {kpos pos np : Pos}
theorem qk_nil : QKw X g [] rNil := ⟨fun Ξ tk => ⟨fun pos pins s σ H Q I ⟨τ, vs, ρ, Φ, S, h, k⟩ => pk_nil.run pos pins s σ H Q I (k [] ρ [] H rfl S h)⟩⟩
theorem qk_cons (ha : QE X g e p) (hr : QKw X g kws pk) : QKw X g (⟨nm, e, kpos⟩ :: kws) (rCons p pk) := ⟨fun Ξ tk => ⟨fun pos pins s σ H Q I ⟨τ, vs, ρ, Φ, S, h, k⟩ => by
  refine (pk_cons (ha.pe tk) (hr.pk Ξ tk)).run pos pins s σ H Q I ⟨τ, vs, ρ, _, S, h, fun sv ρ1 v H1 S1 h1 => ?_⟩
  refine ⟨sv :: τ, v :: vs, ρ1, _, S1, h1, fun svs ρ2 us H2 hl S2 h2 => ?_⟩
  exact k (sv :: svs) ρ2 (v :: us) H2 (by simp [hl]) (S2.lift hl) h2⟩⟩
/-- behind both kinds of arguments, permuted -/
theorem SR.permArgs {K : PySem.W.Frag} {ρ : PSt} {σ : L2.St} {τ : List SV} {vs : List V} {H : Hp} {sp sk : List SV} {up uk : List V} {pm : List Nat} (S : SR K g ρ σ (sk ++ (sp ++ τ)) (uk ++ (up ++ vs)) H) (h1 : sp.length = up.length) (h2 : sk.length = uk.length)
    (hp : pm.Perm (List.range pm.length)) (hl : (sp ++ sk).length = pm.length) : SR K g ρ σ (permL pm (sp ++ sk) ++ τ) (permL pm (up ++ uk) ++ vs) H := by
  have hl2 : (sp ++ sk).length = (up ++ uk).length := by simp [h1, h2]
  have e1 : (permL pm (sp ++ sk)).length = (permL pm (up ++ uk)).length := permL_len hl2 pm
  have t0 := S.tlen
  refine S.perm (by rw [List.length_append, List.length_append, e1]; simp only [List.length_append] at t0; omega) ?_
  rw [List.map_append, List.map_append, List.map_append, List.zip_append (by simp [h2]), List.zip_append (by simp [h1]), List.zip_append (by rw [List.length_map]; exact e1)]
  rw [← permL_map, ← permL_zip (by rw [List.length_map]; exact hl2), List.map_append, List.zip_append (by simp [h1])]
  have pp : (permL pm (sp.zip (up.map some) ++ sk.zip (uk.map some))).Perm (sp.zip (up.map some) ++ sk.zip (uk.map some)) := permL_perm hp (by rw [← hl]; simp [h1, h2])
  refine List.Perm.trans ?_ (pp.symm.append_right _)
  rw [← List.append_assoc]
  exact List.Perm.append_right _ List.perm_append_comm
theorem rCallK_ok {ms : List Mode} {qs : QSpec} {svs : List SV} {ρ1 : PSt} {k : RK} {x : RX} (h : (match passAll ms svs ρ1 with
  | some (m, ds, ρ2) => qs ds (fun r => k (r.dem m) ρ2) (fun e => x e ρ2)
  | none => False)) : ∃ m ds ρ2, passAll ms svs ρ1 = some (m, ds, ρ2) ∧ qs ds (fun r => k (r.dem m) ρ2) (fun e => x e ρ2) := by
  split at h
  · rename_i m ds ρ2 e; exact ⟨m, ds, ρ2, e, h⟩
  · exact h.elim
theorem q_callK {k n0 : Nat} {f : Addr} {fd : FuncData} {ps ks : List Str} {ms : List Mode} {qs : QSpec} {x : Str} {pm : List Nat}
    (F : FnOk X.prog X.w X.K X.mg X.base (L2.CX X.prog X.w) k f fd ps (spQ X.K g.T ms qs)) (hr : Room k X.A) (hg : Gl X x) (hm : X.mg x = some (.ref f)) (hk : PySem.W.keepIn X.K (.ref f) = true) (hb : KwB X.K fd ps ks pm)
    (ha : QA X g (e :: es) pa) (hkw : QKw X g kws pk) (hkn : pm.length = n0 + ks.length := by rfl) (hpm : pm.Perm (List.range pm.length) := by decide) (h1 : (ms.filter isT).length ≤ 1 := by decide)
    (hall : (backToKw pos (keywordEach kws X.env)).all (·.1.isSome) = true := by rfl) (hks : (backToKw pos (keywordEach kws X.env)).filterMap (·.1) = ks := by rfl)
    (hdb : (x == ("__debug__" : Str)) = false := by decide) (he : starEach (e :: es) X.env = (false, eval e X.env) :: starEach es X.env := by rfl)
    (hpl : ((backTo pos (starEach (e :: es) X.env)).any (·.1) || (backToKw pos (keywordEach kws X.env)).any (·.1.isNone)) = false := by rfl) : QE X g (.Call (.Name x np) (e :: es) kws pos) (rCallK ms qs n0 pm pa pk) := by
  refine ⟨fun pins s σ H τ vs ρ Φ Ξ tk I S hw => ?_⟩
  refine wpAny_Call_Name_kw (ld_glob I hg hm ?_ hdb)
  refine PySem.W.callWith_KW (h₀ := X.base) I.ok.mod.kin hk hall (thn (ha.run pos pins s σ H τ vs ρ _ Ξ tk I S hw) fun us s1 hx => ?_) hpl he
  obtain ⟨up, H1, svp, ρ1, I1, rp, hlp, S1, q1⟩ := hx
  refine thn ((hkw.pk Ξ tk).run pos pins s1 σ H1 (fun zs H' => ∃ svs ρ', svs.length = zs.length ∧ SR X.K g ρ' σ (svs ++ (svp ++ τ)) (zs ++ (up ++ vs)) H' ∧ _) I1 ⟨_, _, ρ1, _, S1, q1, fun svs ρ' us H' hl S' q => ⟨svs, ρ', hl, S', q⟩⟩) fun ws s2 ⟨zs, H2, I2, rz, svs, ρ2, hl, S2, q2⟩ => ⟨I2.kIn, ?_⟩
  rw [hks]
  obtain ⟨hz, q2⟩ := q2
  obtain ⟨m, ds, ρ3, e1, q3⟩ := rCallK_ok q2
  have lk : (svp ++ svs).length = pm.length := hz.2
  have l0 := hz.1
  rw [List.length_append] at lk
  have l1 := rp.length
  have l2 := rz.length
  have S3 := SR.permArgs S2 hlp hl hpm hz.2
  refine call_coreA (us := us) (all := permL pm (us ++ ws)) (ws := permL pm (up ++ zs)) (svs := permL pm (svp ++ svs)) F hr (fun _ => hb s2 us ws I2.kIn ?_ ?_) h1 tk I2 (permL_vals (rp.append rz)) (permL_len (by simp [hlp, hl]) pm) S3 e1 q3
  · omega
  · rw [List.length_append]; omega
theorem q_callK0 {k : Nat} {f : Addr} {fd : FuncData} {ps ks : List Str} {ms : List Mode} {qs : QSpec} {x : Str} {pm : List Nat}
    (F : FnOk X.prog X.w X.K X.mg X.base (L2.CX X.prog X.w) k f fd ps (spQ X.K g.T ms qs)) (hr : Room k X.A) (hg : Gl X x) (hm : X.mg x = some (.ref f)) (hk : PySem.W.keepIn X.K (.ref f) = true) (hb : KwB X.K fd ps ks pm)
    (hkw : QKw X g kws pk) (hkn : pm.length = ks.length := by rfl) (hpm : pm.Perm (List.range pm.length) := by decide) (h1 : (ms.filter isT).length ≤ 1 := by decide)
    (hall : (backToKw pos (keywordEach kws X.env)).all (·.1.isSome) = true := by rfl) (hks : (backToKw pos (keywordEach kws X.env)).filterMap (·.1) = ks := by rfl)
    (hdb : (x == ("__debug__" : Str)) = false := by decide)
    (hpl : ((backTo pos (starEach [] X.env)).any (·.1) || (backToKw pos (keywordEach kws X.env)).any (·.1.isNone)) = false := by rfl) : QE X g (.Call (.Name x np) [] kws pos) (rCallK ms qs 0 pm rNil pk) := by
  refine ⟨fun pins s σ H τ vs ρ Φ Ξ tk I S hw => ?_⟩
  refine wpAny_Call_Name_kw (ld_glob I hg hm ?_ hdb)
  refine PySem.W.callWith_KW0 (h₀ := X.base) I.ok.mod.kin hk hall (thn ((hkw.pk Ξ tk).run pos pins s σ H (fun zs H' => ∃ svs ρ', svs.length = zs.length ∧ SR X.K g ρ' σ (svs ++ τ) (zs ++ vs) H' ∧ _) I ⟨τ, vs, ρ, _, S, hw, fun svs ρ' us H' hl S' q => ⟨svs, ρ', hl, S', q⟩⟩) fun ws s2 ⟨zs, H2, I2, rz, svs, ρ2, hl, S2, q2⟩ => ⟨I2.kIn, ?_⟩) hpl
  rw [hks]
  obtain ⟨hz, q2⟩ := q2
  obtain ⟨m, ds, ρ3, e1, q3⟩ := rCallK_ok q2
  have hz' : svs.length = pm.length := by simpa using hz.2
  have lw : ws.length = ks.length := by rw [← rz.length, ← hl, hz', hkn]
  have S3 : SR X.K g ρ2 σ (permL pm ([] ++ svs) ++ τ) (permL pm ([] ++ zs) ++ vs) H2 := SR.permArgs (sp := []) (up := []) S2 rfl hl hpm hz.2
  exact call_coreA (us := []) (all := permL pm ([] ++ ws)) (ws := permL pm ([] ++ zs)) (svs := permL pm ([] ++ svs)) F hr (fun _ => hb s2 [] ws I2.kIn lw (by rw [← hz', hl, rz.length]; rfl)) h1 tk I2 (permL_vals rz) (permL_len (by simpa using hl) pm) S3 e1 q3
end
end Q

namespace Q
open PySem PySem.Spec PyProof.Rows L2 PySem.Calls NdefX
/-! ### super().__init__(msg) in an own exception's __init__ -/
def mwO (q a : Addr) : HO := .ext fun h => h.get? q = some (PySem.W.kxs_mw "ValueError.__init__" a)
theorem mwO_ok {P : Program} {w : World} {H : Hp} {h : Heap} {q a : Addr} (e : h.get? q = some (PySem.W.kxs_mw "ValueError.__init__" a)) : ObjOk P w H h q (mwO q a) :=
  ⟨e, ⟨_, e⟩, fun h1 h2 x k => k _ x⟩
theorem mwO_at {P : Program} {w : World} {H : Hp} {h : Heap} {q a : Addr} (hok : HOk P w H h) (e : H q = some (mwO q a)) : h.get? q = some (PySem.W.kxs_mw "ValueError.__init__" a) := (show ObjOk P w H h q (mwO q a) from hok q _ e).1
structure SupC (K : PySem.W.Frag) (prog : Program) (C f cda cc : Addr) (fd : FuncData) (sn : Str) : Prop where
  hf : ∃ oc od osl, K.lookup f = some ⟨oc, od, .func fd, osl⟩
  hp : ∃ ar, (fd.params.posonlyargs ++ fd.params.args).head? = some ar ∧ ar.arg = sn
  code : ∃ ccl cdd ccs, ∃ vs : Array Value, ∃ file tf, K.lookup cda = some ⟨ccl, cdd, .fields vs, ccs⟩ ∧ vs[2]? = some (.str file tf) ∧ ((prog.main.file : Str) == file) = true
  cell : ∃ cl cld csl, K.lookup cc = some ⟨cl, cld, .cell (some (.ref C)), csl⟩
  cls : ∃ cd, PySem.W.clsIn K C = some cd
  sub : PySem.W.mroIn K C (.ref C) = some true
  top : (prog.main.scope.names.lookup ("super" : Str)).isSome = false
  sup : PySem.W.ks_superIn K C C "__init__" = some (some (.builtin "ValueError.__init__"))
  any : PySem.W.nsIn K PySem.cStatics "thirdparty.any" = some none
  subV : PySem.W.subIn K (.ref C) (.type "ValueError") = some true
  oex : OexC K C
section
variable {X : Cx} {σ : L2.St} {H : Hp} {s : Shared} {C f cda cc a : Addr} {fd : FuncData} {sn : Str} {body : List Stmt} {msg : Expr} {tm : TE} {p0 p1 p2 p3 p4 : Pos}
theorem exo_inst {h : Heap} {t1 : Addr} (e : h.get? a = some ({ cls := .ref C, dict := none, data := .fields #[.ref t1, .none, .none, .none, .bool false, .none] } : Obj)) : PySem.W.InstAt h a ({ cls := .ref C, dict := none, data := .fields #[.ref t1, .none, .none, .none, .bool false, .none] } : Obj) C none := ⟨e, rfl, rfl, trivial⟩
theorem sup_init (T : SupC X.K X.prog C f cda cc fd sn) (I : L2.Inv X [] σ H s) (h0 : X.N[0]? = some sn) (hs : σ[0]? = some (some (V.ref a))) (ha : H a = some (exo a C none))
    (hfu : X.env.func = some f) (hco : X.env.code = .ref cda) (hcl : X.env.cells.lookup ("__class__" : Str) = some cc) (hks : X.env.kindOf "super" = some .globalImplicit) (hkc : X.env.kindOf "__class__" = some .free) (hka : X.env.kindOf sn = some .local)
    (hmg : X.mg "super" = none) (hm : PE X msg tm) (hmr : ∀ q, H q = none → ∀ Q : VK, (∀ v, Q v (upd H q (mwO q a))) → tm σ (upd H q (mwO q a)) Q)
    (hin : interactive X.env = false) (hsw : swapsWith (.Call (.Attribute (.Call (.Name "super" p0) [] [] p1) "__init__" p2) [msg] [] p3) none p4.line X.env = pure false)
    (hst : starEach [msg] X.env = (false, eval msg X.env) :: starEach [] X.env)
    {R : Flow → Shared → Prop} {pl : Sem Bool}
    (hev : eval (.Call (.Attribute (.Call (.Name "super" p0) [] [] p1) "__init__" p2) [msg] [] p3) X.env = (do
      let ov ← attributeBase (.Call (.Name "super" p0) [] [] p1) "__init__" X.env (eval (.Call (.Name "super" p0) [] [] p1) X.env)
      standAt p2.atName
      let (f, first) ← holding [ov] (getMethod ov "__init__" pl)
      callWith p3 f first (backTo p3 (starEach [msg] X.env)) []))
    (h : ∀ q s', H q = none → L2.Inv X [] σ (upd H q (mwO q a)) s' → R .next s') :
    _root_.PySem.wpAt (model X.prog X.w) X.A (.func body X.env) (exec (.Expr (.Call (.Attribute (.Call (.Name "super" p0) [] [] p1) "__init__" p2) [msg] [] p3) p4) X.env) R X.xe s := by
  obtain ⟨oc, od, osl, lf⟩ := T.hf
  obtain ⟨ar, hp, rfl⟩ := T.hp
  obtain ⟨ccl, cdd, ccs, vs, file, tf, lc, hvs, hfile⟩ := T.code
  obtain ⟨cl, cld, csl, lcell⟩ := T.cell
  obtain ⟨cd, hcd⟩ := T.cls
  have KX := I.kIn
  refine PySem.ks_wpAt_Expr_any (PySem.ks_wpAt_MethodCall (pl := pl) ?_ hev) hin hsw
  obtain ⟨m, hns, hlook⟩ := I.loc
  obtain ⟨u, ru, lk⟩ := hlook 0 ar.arg (.ref a) h0 hs (.inl hka)
  cases ru
  obtain ⟨t1, hoe⟩ := exo_at I.hok ha
  have hm1 : m ar.arg = some (.ref a) := by
    rcases lk with ⟨_, e⟩ | ⟨k, _⟩
    · exact e
    · rcases k with k | k
      · have : X.env.kindOf ar.arg = some .cell := k
        rw [hka] at this; cases this
      · have : X.env.kindOf ar.arg = some .free := k
        rw [hka] at this; cases this
  refine PySem.ks_wpAt_super_base (env := X.env) hks hkc rfl hfu (KX _ _ lf) rfl hp hco (KX _ _ lc) rfl hvs hfile T.top ?_
  obtain ⟨mb, b1, b2⟩ := I.mod.blt
  refine PySem.W.ks_loadName_global I.ok.kind hks (Calls.loadGlobal_builtin (by rw [I.ok.glob]; exact I.mod.glob.keeps I.bk) hmg (by rw [I.ok.blt]; exact b1.keeps I.bk) ((b2 "super" (by decide)).trans (by rfl)) ⟨rfl, ?_⟩)
  refine wpAny_loadName_free I.ok.kind hkc hcl ⟨_, KX _ _ lcell, rfl⟩ ?_
  refine wpAny_loadName_local I.ok.kind hka hns hm1 ?_
  obtain ⟨oD, hD1, hD2⟩ : ∃ oD, s.heap.get? C = some oD ∧ oD.data = .cls cd := by
    unfold PySem.W.clsIn at hcd
    split at hcd
    · rename_i c d cd' sl ho
      cases hcd
      exact ⟨_, KX _ _ ho, rfl⟩
    · cases hcd
  obtain ⟨hh, g, d, t, os⟩ := s
  refine PySem.ks_wpAny_isType_cls hD1 hD2 ⟨rfl, ?_⟩
  refine PySem.ks_wpAny_call_super hD1 hD2 hoe rfl (fun c e => by cases e) (PySem.W.looks_mroIn KX T.sub) (fun h' e k => ?_)
  -- the super object stands
  have I2 : L2.Inv X [] σ H ⟨h', g, d, t, os⟩ := I.kept (t' := t) k
  obtain ⟨t2, hoe2⟩ := exo_at I2.hok ha
  have sup := T.sup
  unfold PySem.W.ks_superIn at sup
  rw [hcd] at sup
  have hI : PySem.W.Looks (model X.prog X.w) h' (isInstance (.ref a) (.type "ValueError")) true := (exo_inst hoe2).type.andThen (PySem.W.looks_subIn I2.kIn T.subV)
  refine PySem.W.kxs_getMethod PySem.W.kxs_ValueError e (PySem.W.looks_opaque I2.kIn T.any) (l₀ := cd.mro) ?_ rfl I2.kIn sup hI (PySem.W.ks_ne I2.kIn (exo_inst hoe2) hcd) (by decide) ?_
  · exact fun A Q E s k q => wpAny_bind ((PySem.W.looks_clsIn I2.kIn hcd) A _ E s k (wpAny_pure q))
  -- the method wrapper stands
  have hq0 : H h'.objs.size = none := I2.hok.fresh (Nat.le_refl _)
  have hmw : (h'.push (PySem.W.kxs_mw "ValueError.__init__" a)).get? h'.objs.size = some (PySem.W.kxs_mw "ValueError.__init__" a) := Heap.get?_push_at rfl rfl
  have I3 : L2.Inv X [] σ (upd H h'.objs.size (mwO h'.objs.size a)) ⟨h'.push (PySem.W.kxs_mw "ValueError.__init__" a), g, d, t + 1, os⟩ :=
    I2.laid (a := h'.objs.size) (o := mwO h'.objs.size a) (h' := h'.push (PySem.W.kxs_mw "ValueError.__init__" a)) (t' := t + 1) (fun _ _ e => Heap.get?_push_of_some _ e) (Nat.le_refl _) (mwO_ok hmw)
  have hpl : (backTo p3 (starEach [msg] X.env)).any (·.1) = false := by rw [hst]; rfl
  show wpAny (model X.prog X.w) X.A (callWith p3 (.ref h'.objs.size) [] (backTo p3 (starEach [msg] X.env)) []) _ X.xe _
  have hA := (pa_cons hm pa_nil hst).run p3 [] _ σ _ (fun vs H1 => (∃ v, vs = [v]) ∧ H1 = upd H h'.objs.size (mwO h'.objs.size a)) I3 (hmr _ hq0 _ fun v => ⟨⟨v, rfl⟩, rfl⟩)
  rw [hst] at hA hpl ⊢
  refine PySem.W.kxs_callWith (i := "ValueError.__init__") (x := a) hpl (Calls.evalArgs_plain ?_)
  refine thn hA fun us s1 hx => ?_
  obtain ⟨vs', H1, I4, r4, ⟨v, rfl⟩, rfl⟩ := hx
  have hu := mwO_at I4.hok upd_same
  refine ⟨hu, ?_⟩
  have hne : a ≠ h'.objs.size := fun z => by rw [z, hq0] at ha; cases ha
  have ha4 : upd H h'.objs.size (mwO h'.objs.size a) a = some (exo a C none) := by rw [upd_ne hne]; exact ha
  obtain ⟨nm, qn, N, bs, bm, sn2, sub, ab, col, dd, k0, k1, k2, k3, k5, hC, hbm⟩ := T.oex.cls
  obtain ⟨t4, hoe4⟩ := exo_at I4.hok ha4
  have hC4 := I4.kIn _ _ hC
  have lus : us.length ≤ sizeLine := by
    have := r4.length
    rw [← this, sizeLine_eq]
    exact (by decide : 1 ≤ 16777216)
  obtain ⟨h4, g4, d4, tk4, os4⟩ := s1
  show wpAny (model X.prog X.w) X.A (call (.ref h'.objs.size) us) _ X.xe _
  refine wpAny_call (codeAny_of_tree ?_)
  show wpAny _ X.A.in1 (callAny (.ref h'.objs.size) ⟨us, []⟩) _ _ _
  simp only [callAny]
  refine wpAny_bind (wpAny_load hu ?_)
  simp only [PySem.W.kxs_mw, show (Value.type "method-wrapper" == Value.type "method" || Value.type "method-wrapper" == Value.type "builtin_function_or_method" || Value.type "method-wrapper" == Value.type "method-wrapper") = true by decide, if_true]
  refine PySem.W.KFB.if_so (by decide) ?_
  refine wpAny_bind (PySem.W.check_bound_init F.excBase_ValueError.toExcCallFacts hC4 hoe4 rfl ?_)
  refine wpAny_bind (wpAny_pure (wpAny_pure ?_))
  refine ⟨plainId_quiet F.excBase_ValueError.init.plain _, codeAny_builtin F.excBase_ValueError.initEntry ?_⟩
  refine PySem.W.exc_init_tree (cls := .ref C) (t0 := t4) (dv := none) (c2 := .none) (c3 := .none) (b4 := .bool false) hoe4 lus fun h5 k5 e5 _ => ?_
  refine h h'.objs.size _ hq0 ?_
  have J := I4.write (t' := tk4) (x := a) (e := a) (o := exo a C none) (by rw [ha4]; exact True.intro) (.inl rfl) k5 ⟨_, e5⟩ (exo_ok e5)
  have eu : upd (upd H h'.objs.size (mwO h'.objs.size a)) a (exo a C none) = upd H h'.objs.size (mwO h'.objs.size a) := by
    funext b
    by_cases hb : b = a
    · rw [hb, upd_same, ha4]
    · rw [upd_ne hb]
  rw [eu] at J
  exact J
end
/-! ### such an __init__ keeps its promise -/
section
variable {CX : CXT} {P : Program} {w : World} {K : PySem.W.Frag} {mg : Str → Option Value} {base : Heap} {k : Nat} {f C cda cc : Addr} {name qual sn : Str} {params : Arguments} {rest : List Stmt} {scope : Scope} {kV doc pm ct oc : Value} {an od : Option Addr} {osl : Array (Option Value)} {N ps : List Str} {sp : Sp} {msg : Expr} {p0 p1 p2 p3 p4 : Pos}
abbrev initBody (msg : Expr) (p0 p1 p2 p3 p4 : Pos) (rest : List Stmt) : List Stmt := .Expr (.Call (.Attribute (.Call (.Name "super" p0) [] [] p1) "__init__" p2) [msg] [] p3) p4 :: rest
theorem fn_init (lk : K.lookup f = some ⟨oc, od, .func (PySem.W.ksFn name qual params (initBody msg p0 p1 p2 p3 p4 rest) scope .none kV doc pm an (.ref cda) ct cc), osl⟩) (hcd : PySem.W.codeIn K (.ref cda) qual = true) (S : NScope N ps ["__class__"] scope) (h0 : N[0]? = some sn) (hps : ps[0]? = some sn)
    (T : SupC K P C f cda cc (PySem.W.ksFn name qual params (initBody msg p0 p1 p2 p3 p4 rest) scope .none kV doc pm an (.ref cda) ct cc) sn) (hmg : mg "super" = none) (hks : scope.names.lookup ("super" : Str) = some .globalImplicit)
    (len : ∀ vs H Q E, sp vs H Q E → vs.length = ps.length)
    (hbody : ∀ (A : Around) (outer : List Env) (s : Shared) (H : Hp) (vs : List V) (Q : VK) (E : XK), Room k (A.deeper (envF ⟨name, qual, params, initBody msg p0 p1 p2 p3 p4 rest, scope, [("__class__", cc)], cda⟩ f s.heap.objs.size)) → sp vs H Q E → ∃ (a : Addr) (us : List V) (tm : TE) (t : TS), vs = .ref a :: us ∧ H a = some (exo a C none) ∧
      PE (ncx CX P w K mg base N ⟨name, qual, params, initBody msg p0 p1 p2 p3 p4 rest, scope, [("__class__", cc)], cda⟩ f A outer s H E) msg tm ∧ PSs (ncx CX P w K mg base N ⟨name, qual, params, initBody msg p0 p1 p2 p3 p4 rest, scope, [("__class__", cc)], cda⟩ f A outer s H E) rest t ∧
      (∀ q, H q = none → ∀ Q : VK, (∀ v, Q v (upd H q (mwO q a))) → tm (startF N vs [some (.ref C)]) (upd H q (mwO q a)) Q) ∧ ∀ q, H q = none → t { nx := fun _ H' => Q .non H', rt := Q } (startF N vs [some (.ref C)]) (upd H q (mwO q a)))
    (hsw : ∀ L, swapsWith (.Call (.Attribute (.Call (.Name "super" p0) [] [] p1) "__init__" p2) [msg] [] p3) none p4.line (envF ⟨name, qual, params, initBody msg p0 p1 p2 p3 p4 rest, scope, [("__class__", cc)], cda⟩ f L) = pure false := by intro _; rfl)
    (hst : ∀ L, starEach [msg] (envF ⟨name, qual, params, initBody msg p0 p1 p2 p3 p4 rest, scope, [("__class__", cc)], cda⟩ f L) = (false, eval msg (envF ⟨name, qual, params, initBody msg p0 p1 p2 p3 p4 rest, scope, [("__class__", cc)], cda⟩ f L)) :: starEach [] (envF ⟨name, qual, params, initBody msg p0 p1 p2 p3 p4 rest, scope, [("__class__", cc)], cda⟩ f L) := by intro _; rfl)
    {pl : Sem Bool}
    (hev : ∀ L, eval (.Call (.Attribute (.Call (.Name "super" p0) [] [] p1) "__init__" p2) [msg] [] p3) (envF ⟨name, qual, params, initBody msg p0 p1 p2 p3 p4 rest, scope, [("__class__", cc)], cda⟩ f L) = (do
      let ov ← attributeBase (.Call (.Name "super" p0) [] [] p1) "__init__" (envF ⟨name, qual, params, initBody msg p0 p1 p2 p3 p4 rest, scope, [("__class__", cc)], cda⟩ f L) (eval (.Call (.Name "super" p0) [] [] p1) (envF ⟨name, qual, params, initBody msg p0 p1 p2 p3 p4 rest, scope, [("__class__", cc)], cda⟩ f L))
      standAt p2.atName
      let (f', first) ← holding [ov] (getMethod ov "__init__" pl)
      callWith p3 f' first (backTo p3 (starEach [msg] (envF ⟨name, qual, params, initBody msg p0 p1 p2 p3 p4 rest, scope, [("__class__", cc)], cda⟩ f L))) []) := by intro _; rfl) :
    FnOk P w K mg base CX (k + 1) f (PySem.W.ksFn name qual params (initBody msg p0 p1 p2 p3 p4 rest) scope .none kV doc pm an (.ref cda) ct cc) ps sp := by
  refine ⟨len, fun A outer s H args us vs Q E hr e0 hb r hsp => ?_⟩
  have hl := len _ _ _ _ hsp
  have KX : K.In s.heap := e0.mod.kin.keeps fun b o e => (e0.bs b o e).1
  have lim : s.heap.NoLimit := e0.mod.nolimit.keeps fun b o e => (e0.bs b o e).1
  obtain ⟨a, us', tm, t, ev, ha, hm, ht, rm, rt⟩ := hbody A outer s H vs Q E (hr.deeper _) hsp
  refine PySem.ks_codeAny_call_defAt (fd := PySem.W.ksFn name qual params (initBody msg p0 p1 p2 p3 p4 rest) scope .none kV doc pm an (.ref cda) ct cc) (body := initBody msg p0 p1 p2 p3 p4 rest) (binds := ps.zip us) hr.depth (KX _ _ lk) rfl lim (PySem.W.codeRec_of KX hcd) rfl hb S.nocell (fun ⟨n, _⟩ hy => S.par n (List.of_mem_zip hy).1) (fun h₁ hns kp => ?_) S.co S.gen S.kind
  obtain ⟨cl, cld, csl, lcell⟩ := T.cell
  have Cl : CellsAt [("__class__", cc)] ["__class__"] [some (V.ref C)] s.heap H := by
    have hcc : s.heap.IsCell cc (some (.ref C)) := ⟨_, KX _ _ lcell, rfl⟩
    have key : ∀ (y : Str) c, ([("__class__", cc)] : List (Str × Addr)).lookup y = some c → y = "__class__" ∧ c = cc := fun y c e => by
      by_cases h : y = "__class__"
      · subst h
        exact ⟨rfl, by cases e; rfl⟩
      · rw [List.lookup_cons, beq_false_of_ne h] at e
        cases e
    refine ⟨rfl, fun y c e => ?_, fun x y c e1 e2 => (key _ _ e1).1.trans (key _ _ e2).1.symm, fun i y hy => ?_⟩
    · obtain ⟨rfl, rfl⟩ := key _ _ e
      exact ⟨(e0.bs _ _ (e0.mod.kin _ _ lcell)).2, _, hcc⟩
    · cases i with
      | zero =>
        cases hy
        exact ⟨cc, rfl, fun v e => by cases e; exact ⟨.ref C, rfl, hcc⟩⟩
      | succ i => simp at hy
  have I : L2.Inv (ncx CX P w K mg base N ⟨name, qual, params, initBody msg p0 p1 p2 p3 p4 rest, scope, [("__class__", cc)], cda⟩ f A outer s H E) [] (startF N vs [some (.ref C)]) H { s with heap := h₁, toks := s.toks + (ps.zip us).length } := inv_startN S hr.hd e0 hl r Cl hns kp
  have fin : ∀ {σ' : L2.St} {H' : Hp} {v : V} {u : Value} {s' : Shared}, L2.Inv (ncx CX P w K mg base N ⟨name, qual, params, initBody msg p0 p1 p2 p3 p4 rest, scope, [("__class__", cc)], cda⟩ f A outer s H E) [] σ' H' s' → L2.RelV v u → Q v H' → CE outer P w H s Q u s' :=
    fun {σ' H' v u s'} J rv q => ⟨v, H', J.os, J.bare, J.base, J.hok, rv, q⟩
  have e00 : (startF N vs [some (V.ref C)])[0]? = some (some (V.ref a)) := by rw [ev]; rfl
  refine PySem.ks_wpAt_execs_cons (sup_init (X := ncx CX P w K mg base N ⟨name, qual, params, initBody msg p0 p1 p2 p3 p4 rest, scope, [("__class__", cc)], cda⟩ f A outer s H E) (pl := pl) T I h0 e00 ha rfl rfl rfl hks (S.frk _ (by simp)) (S.par _ (List.mem_of_getElem? hps)) hmg hm rm (by show (scope.kind == .module && _) = false; rw [S.kind]; rfl) (hsw _) (hst _) (hev _) (fun q s' hq J => ?_))
  refine _root_.PySem.wpAt_of_wpAny ?_
  refine wpAny_mono (ht.run [] s' _ _ _ J (rt q hq)) (fun fl s2 hs => ?_) fun e s2 hs => hs
  cases fl with
  | ret u =>
    obtain ⟨v, σ', H', J, rv, q⟩ := hs
    exact fin J rv q
  | next =>
    obtain ⟨σ', H', J, q⟩ := hs
    exact fin (v := V.non) (u := Value.none) J rfl q
  | brk =>
    obtain ⟨_, _, _, q⟩ := hs
    exact False.elim q
  | cont =>
    obtain ⟨_, _, _, q⟩ := hs
    exact False.elim q
end
end Q

namespace Q
open PySem PySem.Spec PyProof.Rows L2 NdefX
/-! ### raise C(e), C an own class with one field -/
def spI1 (C : Addr) (f1 : Str) (ok : V → Prop) : Sp := fun vs H Q E => ∃ (a : Addr) (y : V), vs = [.ref a, y] ∧ ok y ∧ H a = some (exo a C none) ∧
  ∀ q d, H q = none → H d = none → d ≠ a → d ≠ q → q ≠ a → Q .non (upd (upd (upd H q (mwO q a)) d (exd d [(f1, y)])) a (exo a C (some d)))
structure Exc1 (P : Program) (w : World) (K : PySem.W.Frag) (mg : Str → Option Value) (base : Heap) (x : Str) (C : Addr) (f1 : Str) (k : Nat) (ok : V → Prop) : Prop where
  oex : OexC K C
  init : ∃ fI fd ps, PySem.W.findIn K (.ref C) "__init__" = some (some (.ref fI)) ∧ PySem.W.typeIn K (.ref fI) = some (.type "function") ∧ FnOk P w K mg base (L2.CX P w) k fI fd ps (spI1 C f1 ok) ∧ Binds K fd ps []
  mg : mg x = some (.ref C)
section
variable {X : Cx} {g : Gh} {e : Expr} {p : RE} {x f1 : Str} {C : Addr} {k : Nat} {ok : V → Prop} {np cpos pos : Pos}
theorem passes_no : Passes (L2.CX X.prog X.w) X (fun _ _ _ => False) := fun _ _ _ _ _ _ _ h => by
  obtain ⟨_, _, _, _, _, _, _, _, _, _, _, _, z⟩ := h
  exact z.elim
theorem fin_heap {H1 : Hp} {a q d : Addr} {o0 o1 mw : HO} {fs : List (Str × V)} {ex : HO} (ha : H1 a = none) (hda : d ≠ a) (hdq : d ≠ q) (hqa : q ≠ a) :
    upd (del (upd (upd (upd (upd H1 a o0) q mw) d ex) a o1) a) d (.xd fs) = upd (upd H1 q mw) d (.xd fs) := by
  funext b
  by_cases h1 : b = d
  · rw [h1, upd_same, upd_same]
  · rw [upd_ne h1, upd_ne h1]
    by_cases h2 : b = a
    · rw [h2, del_same, upd_ne (fun z => hqa z.symm), ha]
    · rw [del_ne h2, upd_ne h2, upd_ne h1]
      by_cases h3 : b = q
      · rw [h3, upd_same, upd_same]
      · rw [upd_ne h3, upd_ne h3, upd_ne h2]
theorem q_raise1 {okD : D → Prop} (T : Exc1 X.prog X.w X.K X.mg X.base x C f1 k ok) {ec : EC} (how : ec.own = true) (hea : g.T.ea ec = C) (hok : ∀ {H : Hp} {d : D} {v : V} {m : Bool}, Rep X.K (g.gm m) H d v → okD d → ok v) (hr : Room (k + 1) X.A) (hg : Gl X x) (hc : X.calm = true) (ha : QE X g e p)
    (hdb : (x == ("__debug__" : Str)) = false := by decide) (he : starEach [e] X.env = (false, eval e X.env) :: starEach [] X.env := by rfl) (hpl : (backTo cpos (starEach [] X.env)).any (·.1) = false := by rfl) :
    QS X g (.Raise (some (.Call (.Name x np) [e] [] cpos)) none pos) (rRaise1 ec f1 okD p) := by
  obtain ⟨fI, fd, ps, iC, tI, F1, hb⟩ := T.init
  refine QS.of (fun Ξ tk => ps_raise hc tk (pmk_oex T.oex iC tI F1 hr hb .nil passes_no hg T.mg (pa_cons (ha.peT tk) pa_nil he) hdb he hpl)) fun τ vs ρ D σ H nb S hw => ?_
  refine ⟨τ, vs, ρ, _, S, hw, fun m d ρ' v H1 S1 r q => ?_⟩
  refine ⟨(by decide : 1 ≤ 1000), fun a ha => ⟨a, v, rfl, hok r q.1, upd_same, fun qq dd hq hd hda hdq hqa => ?_⟩⟩
  have hq1 : H1 qq = none := by rw [upd_ne hqa] at hq; exact hq
  have hd1 : H1 dd = none := by rw [upd_ne hda] at hd; exact hd
  refine ⟨rfl, dd, [(f1, v)], upd_same, by rw [upd_ne hda, upd_same], hd1, ?_⟩
  rw [fin_heap ha hda hdq hqa]
  have S2 := S1.new (o := mwO qq a) hq1
  have hd2 : upd H1 qq (mwO qq a) dd = none := by rw [upd_ne hdq]; exact hd1
  have S3 := S2.new (o := .xd [(f1, v)]) hd2
  refine ⟨⟨ec, [(f1, d)]⟩, ρ', τ, vs, S3, ⟨⟨how, by rw [hea]⟩, dd, [(f1, v)], rfl, upd_same, (f1, v), [], rfl, ?_, rfl⟩, q.2⟩
  exact (show f1 = f1 ∧ _ from ⟨rfl, Rep.mono (fun _ _ => trivial) ((stab_new hq1).trans (stab_new hd2)) _ _ r⟩)
end
/-! ### its __init__ -/
def okV (y : V) : Prop := (∃ s : Str, y = .str s ∧ s.length ≤ 1000000) ∨ ∃ i : Int, y = .int i ∧ i.natAbs.log2 < 1920
theorem okV_of {K : PySem.W.Frag} {G : Addr → Prop} {H : Hp} {d : D} {v : V} (r : Rep K G H d v) (h : d.fits) : okV v := by
  cases d with
  | str s => exact .inl ⟨s, r, h⟩
  | int i => exact .inr ⟨i, r, h⟩
  | _ => exact h.elim
section
variable {P : Program} {w : World} {K : PySem.W.Frag} {mg : Str → Option Value} {base : Heap} {f C cda cc : Addr} {name qual f1 p1 : Str} {params : Arguments} {scope : Scope} {kV doc pm ct oc : Value} {an od : Option Addr} {osl : Array (Option Value)} {msg : Expr} {p0 p1' p2 p3 p4 a1 a2 a3 a4 : Pos}
theorem fn_init1 {tm : TE} (lk : K.lookup f = some ⟨oc, od, .func (PySem.W.ksFn name qual params (initBody msg p0 p1' p2 p3 p4 [.Assign [.Attribute (.Name "self" a1) f1 a2] (.Name p1 a3) a4]) scope .none kV doc pm an (.ref cda) ct cc), osl⟩) (hcd : PySem.W.codeIn K (.ref cda) qual = true)
    (S : NScope ["self", p1, "__class__"] ["self", p1] ["__class__"] scope) (T : SupC K P C f cda cc (PySem.W.ksFn name qual params (initBody msg p0 p1' p2 p3 p4 [.Assign [.Attribute (.Name "self" a1) f1 a2] (.Name p1 a3) a4]) scope .none kV doc pm an (.ref cda) ct cc) "self")
    (hno : PySem.W.findIn K (.ref C) f1 = some none) (hmg : mg "super" = none) (hks : scope.names.lookup ("super" : Str) = some .globalImplicit) (hl : scope.names.lookup p1 = some .local) (hl0 : scope.names.lookup ("self" : Str) = some .local)
    (hd : (p1 == ("__debug__" : Str)) = false) (hcl : (p1 == ("__classdict__" : Str)) = false)
    (hm : ∀ (A : Around) (outer : List Env) (s : Shared) (H : Hp) (E : XK), PE (ncx (L2.CX P w) P w K mg base ["self", p1, "__class__"] ⟨name, qual, params, initBody msg p0 p1' p2 p3 p4 [.Assign [.Attribute (.Name "self" a1) f1 a2] (.Name p1 a3) a4], scope, [("__class__", cc)], cda⟩ f A outer s H E) msg tm)
    (rm : ∀ (a : Addr) (y : V) (H : Hp) (Q : VK), okV y → (∀ v, Q v H) → tm [some (.ref a), some y, some (.ref C)] H Q)
    (hsw : ∀ L, swapsWith (.Call (.Attribute (.Call (.Name "super" p0) [] [] p1') "__init__" p2) [msg] [] p3) none p4.line (envF ⟨name, qual, params, initBody msg p0 p1' p2 p3 p4 [.Assign [.Attribute (.Name "self" a1) f1 a2] (.Name p1 a3) a4], scope, [("__class__", cc)], cda⟩ f L) = pure false)
    (hst : ∀ L, starEach [msg] (envF ⟨name, qual, params, initBody msg p0 p1' p2 p3 p4 [.Assign [.Attribute (.Name "self" a1) f1 a2] (.Name p1 a3) a4], scope, [("__class__", cc)], cda⟩ f L) = (false, eval msg (envF ⟨name, qual, params, initBody msg p0 p1' p2 p3 p4 [.Assign [.Attribute (.Name "self" a1) f1 a2] (.Name p1 a3) a4], scope, [("__class__", cc)], cda⟩ f L)) :: starEach [] (envF ⟨name, qual, params, initBody msg p0 p1' p2 p3 p4 [.Assign [.Attribute (.Name "self" a1) f1 a2] (.Name p1 a3) a4], scope, [("__class__", cc)], cda⟩ f L))
    {pl : Sem Bool}
    (hev : ∀ L, eval (.Call (.Attribute (.Call (.Name "super" p0) [] [] p1') "__init__" p2) [msg] [] p3) (envF ⟨name, qual, params, initBody msg p0 p1' p2 p3 p4 [.Assign [.Attribute (.Name "self" a1) f1 a2] (.Name p1 a3) a4], scope, [("__class__", cc)], cda⟩ f L) = (do
      let ov ← attributeBase (.Call (.Name "super" p0) [] [] p1') "__init__" (envF ⟨name, qual, params, initBody msg p0 p1' p2 p3 p4 [.Assign [.Attribute (.Name "self" a1) f1 a2] (.Name p1 a3) a4], scope, [("__class__", cc)], cda⟩ f L) (eval (.Call (.Name "super" p0) [] [] p1') (envF ⟨name, qual, params, initBody msg p0 p1' p2 p3 p4 [.Assign [.Attribute (.Name "self" a1) f1 a2] (.Name p1 a3) a4], scope, [("__class__", cc)], cda⟩ f L))
      standAt p2.atName
      let (f', first) ← holding [ov] (getMethod ov "__init__" pl)
      callWith p3 f' first (backTo p3 (starEach [msg] (envF ⟨name, qual, params, initBody msg p0 p1' p2 p3 p4 [.Assign [.Attribute (.Name "self" a1) f1 a2] (.Name p1 a3) a4], scope, [("__class__", cc)], cda⟩ f L))) [])) :
    FnOk P w K mg base (L2.CX P w) 1 f (PySem.W.ksFn name qual params (initBody msg p0 p1' p2 p3 p4 [.Assign [.Attribute (.Name "self" a1) f1 a2] (.Name p1 a3) a4]) scope .none kV doc pm an (.ref cda) ct cc) ["self", p1] (spI1 C f1 okV) := by
  refine fn_init (k := 0) lk hcd S rfl rfl T hmg hks (fun vs H Q E h => ?_) (fun A outer s H vs Q E hr h => ?_) hsw hst (pl := pl) hev
  · obtain ⟨a, y, rfl, _⟩ := h; rfl
  · obtain ⟨a, y, rfl, hy, ha, hq⟩ := h
    refine ⟨a, [y], tm, _, rfl, ha, hm A outer s H E, pss_one (ps_ost (pe_var (i := 0) rfl (.inl hl0)) (pe_var (i := 1) rfl (.inl hl) hd hcl)), fun q _ Q k => rm a y _ Q hy k, fun q hq0 => ?_⟩
    have hqa : q ≠ a := fun z => by rw [z, ha] at hq0; cases hq0
    refine ⟨y, rfl, .ref a, rfl, a, C, rfl, T.oex, hno, .inl ⟨by rw [upd_ne (fun z => hqa z.symm)]; exact ha, fun dx hdx hda => ?_⟩⟩
    have hdq : dx ≠ q := fun z => by rw [z, upd_same] at hdx; cases hdx
    exact hq q dx hq0 (by rw [upd_ne hdq] at hdx; exact hdx) hda hdq hqa
end
end Q

namespace Q
open PySem PySem.Spec PyProof.Rows L2
section
variable {K : PySem.W.Frag} {g : Gh} {ρ : PSt} {σ : L2.St} {τ : List SV} {vs : List V} {H : Hp} {i : Nat} {a : Addr}
theorem upd_self {H : Hp} {a : Addr} {o : HO} (h : H a = some o) : upd H a o = H := by
  funext b
  by_cases hb : b = a
  · rw [hb, upd_same, h]
  · rw [upd_ne hb]
theorem SR.opened (S : SR K g ρ σ τ vs H) (h : ρ[i]? = some (.sto a)) : ∃ kvs, isSto kvs ∧ SR K g (ρ.set i (.so a kvs)) σ τ vs H := by
  obtain ⟨u, hu, ⟨rfl, c⟩, _⟩ := S.slot h
  obtain ⟨kvs, kw, is, e, r⟩ := storeOk_to c
  refine ⟨kvs, is, ?_⟩
  have W := S.write (sv' := .so a kvs) (o := .dK kw) h hu rfl (.inl rfl) rfl (by rw [upd_self e]; exact ⟨rfl, kw, e, r⟩) (fun _ => rfl)
  rw [upd_self e] at W
  exact W
theorem SR.closed {kvs : List (Ky × D)} (S : SR K g ρ σ τ vs H) (h : ρ[i]? = some (.so a kvs)) (is : isSto kvs) : SR K g (ρ.set i (.sto a)) σ τ vs H := by
  obtain ⟨u, hu, ⟨rfl, kw, e, r⟩, _⟩ := S.slot h
  have W := S.write (sv' := .sto a) (o := .dK kw) h hu rfl (.inl rfl) rfl (by rw [upd_self e]; exact ⟨rfl, storeOk_of e r is⟩) (fun _ => rfl)
  rw [upd_self e] at W
  exact W
end
section
variable {X : Cx} {g : Gh} {sts : List Stmt} {st : Stmt} {p : RS} {e : Expr} {pe : RE} {pos : Pos}
theorem rOpen_ok {i : Nat} {D : PEnds} {ρ : PSt} (h : rOpen i p D ρ) : ∃ a, ρ[i]? = some (.sto a) ∧ ∀ kvs, isSto kvs → p D (ρ.set i (.so a kvs)) := by
  unfold rOpen at h
  split at h
  · rename_i a e; exact ⟨a, e, h⟩
  · exact h.elim
theorem rClose_ok {i : Nat} {D : PEnds} {ρ : PSt} (h : rClose i p D ρ) : ∃ a kvs, ρ[i]? = some (.so a kvs) ∧ isSto kvs ∧ p D (ρ.set i (.sto a)) := by
  unfold rClose at h
  split at h
  · rename_i a kvs e; exact ⟨a, kvs, e, h⟩
  · exact h.elim
theorem q_open (i : Nat) (h : QSs X g sts p) : QSs X g sts (rOpen i p) := ⟨fun pins s σ H τ vs ρ D nb tk I S hw => by
  obtain ⟨a, e, k⟩ := rOpen_ok hw
  obtain ⟨kvs, is, S2⟩ := S.opened e
  exact h.run pins s σ H τ vs _ D nb tk I S2 (k kvs is)⟩
theorem q_close (i : Nat) (h : QS X g st p) : QS X g st (rClose i p) := ⟨fun pins s σ H τ vs ρ D nb tk I S hw => by
  obtain ⟨a, kvs, e, is, k⟩ := rClose_ok hw
  exact h.run pins s σ H τ vs _ D nb tk I (S.closed e is) k⟩
theorem q_retSto (hGS : ∀ a, g.G a → g.S a) (h : QE X g e pe) : QS X g (.Return (some e) pos) (rRetSto pe) := by
  refine QS.of (fun Ξ tk => ps_ret (h.pe tk)) fun τ vs ρ D σ H nb S hw => ⟨τ, vs, ρ, _, S, hw, fun sv ρ' v H' S' q => ?_⟩
  split at q
  · rename_i m kvs
    obtain ⟨em, is, q⟩ := q
    obtain ⟨a, kw, e1, c, r⟩ := S'.top
    cases e1
    have hm : (SV.od m kvs, some (V.ref a)) ∈ ents ρ' σ (.od m kvs :: τ) (.ref a :: vs) := List.mem_cons_self
    refine ⟨σ, .sto a, ρ', S'.pop.push (show SVR X.K g H' σ (.sto a) (some (.ref a)) from ⟨rfl, storeOk_of c (Repk.mono (fun a z => hGS a (z em)) .refl _ _ r) is⟩) fun b hb => ?_, q a⟩
    have : a = b := Option.some.inj (show some a = some b from hb)
    subst this
    refine ⟨(S'.own _ hm a rfl).imp id fun z => ?_, fun q hq z => Injs.fresh S'.inj (p := (SV.od m kvs, some (V.ref a))) rfl q hq z⟩
    exact absurd z.2 (fun e => nomatch (show (none : Option Addr) = some a from e))
  · exact q.elim
end
theorem svr_up {K : PySem.W.Frag} {G G' S S' : Addr → Prop} {M M' : List Addr} {T T' : TBs} {B B' : Hp} {Z Z' : List (Hp → Prop)} {H : Hp} {σ : L2.St} {sv : SV} {v : Option V} (hG : ∀ a, G a → G' a) (hS : ∀ a, S a → S' a) (hb : sv.isBor = false) (h : SVR K ⟨G, M, T, B, Z, S⟩ H σ sv v) : SVR K ⟨G', M', T', B', Z', S'⟩ H σ sv v := by
  have gg : ∀ m, ∀ a, (⟨G, M, T, B, Z, S⟩ : Gh).gm m a → (⟨G', M', T', B', Z', S'⟩ : Gh).gm m a := fun m a q z => hG a (q z)
  cases sv with
  | no => trivial
  | fr m d => obtain ⟨u, e, r⟩ := h; exact ⟨u, e, Rep.mono (gg m) .refl _ _ r⟩
  | ol m xs => obtain ⟨a, ws, e, c, r⟩ := h; exact ⟨a, ws, e, c, Reps.mono (gg m) .refl _ _ r⟩
  | od m xs => obtain ⟨a, ws, e, c, r⟩ := h; exact ⟨a, ws, e, c, Repk.mono (gg m) .refl _ _ r⟩
  | oo m C xs => obtain ⟨a, dx, ws, e, c, r⟩ := h; exact ⟨a, dx, ws, e, c, Repf.mono (gg m) .refl _ _ r⟩
  | sto a => exact ⟨h.1, h.2.up hS⟩
  | so a kvs => obtain ⟨e, kw, c, r⟩ := h; exact ⟨e, kw, c, Repk.mono hS .refl _ _ r⟩
  | bor i => cases hb
theorem argsR_b {K : PySem.W.Frag} {G G' S S' : Addr → Prop} {H : Hp} : ∀ (n : Nat) {ds : List D} {vs : List V}, ArgsR K G S H (List.replicate n .b) ds vs → ArgsR K G' S' H (List.replicate n .b) ds vs
  | 0, [], [], _ => trivial
  | n + 1, _ :: _, _ :: _, h => ⟨h.1, argsR_b n h.2⟩
  | 0, _ :: _, _, h => h.elim
  | 0, [], _ :: _, h => h.elim
  | _ + 1, [], _, h => h.elim
  | _ + 1, _ :: _, [], h => h.elim
section
variable {P : Program} {w : World} {K : PySem.W.Frag} {mg : Str → Option Value} {base : Heap}
/-- the rule for a def that makes a store: all it is given is lent -/
theorem q_fnF {x qual : Str} {st : Stmt} {f : Addr} {fd : FuncData} {N ps : List Str} {k : Nat} {T : TBs} {qs : QSpec} {p : RS} {nb : Nat} (F : Fun K x qual st f fd) (S : FnScope N ps (defScope st)) (hm : (List.replicate nb Mode.b).length = ps.length)
    (hbody : ∀ (cdv : Value) (A : Around) (outer : List Env) (s : Shared) (H : Hp) (E : XK) (g : Gh), Room k (A.deeper (envOfC qual (defScope st) s.heap.objs.size f cdv)) → g.T = T → (∀ a, g.G a → g.S a) → QSs (cxOf (L2.CX P w) P w K mg base N qual (defScope st) f cdv A outer s H E) g (defBody st) p)
    (hq : ∀ (ds : List D) (R : SV → Prop) (F : Exn → Prop), qs ds R F → p (endsF (List.replicate nb Mode.b) ds R F) (slots0 (List.replicate nb Mode.b) ds ++ List.replicate (N.length - ps.length) .no)) : FnOk P w K mg base (L2.CX P w) (k + 1) f fd ps (spQ K T (List.replicate nb Mode.b) qs) := by
  refine F.okX S (fun vs H Q E h => ?_) (fun cdv A outer s H vs Q E hr h => ?_)
  · obtain ⟨G, Sx, ds, R, F', _, _, _, _, ha, _⟩ := h
    obtain ⟨l1, l2⟩ := argsR_len ha
    omega
  · obtain ⟨G0, Sx0, ds, R, F', hG0, hS0, _, ht, ha0, nd, hqs, h10, h20⟩ := h
    obtain ⟨G, eG⟩ : ∃ G : Addr → Prop, G = fun a => H a = none := ⟨_, rfl⟩
    obtain ⟨Sx, eS⟩ : ∃ G : Addr → Prop, G = fun a => H a = none := ⟨_, rfl⟩
    have hG : ∀ a, H a = none → G a := fun a h => by rw [eG]; exact h
    have hS : ∀ a, H a = none → Sx a := fun a h => by rw [eS]; exact h
    have uG : ∀ a, G a → G0 a := fun a h => hG0 a (by rw [eG] at h; exact h)
    have uS : ∀ a, Sx a → Sx0 a := fun a h => hS0 a (by rw [eS] at h; exact h)
    have ha := argsR_b (G' := G) (S' := Sx) nb ha0
    have h1 : ∀ sv v H' σ, CallR' K T Sx (mOf (List.replicate nb Mode.b) ds) H H' → SVR K ⟨G, [], T, H, [], Sx⟩ H' σ sv (some v) → sv.isBor = false → (∀ a, ownOf sv (some v) = some a → H a = none) → R sv → Q v H' := fun sv v H' σ c hs hb ho hR => h10 sv v H' σ (c.up uS) (svr_up uG uS hb hs) hb ho hR
    have h2 : ∀ x c d H', CallR' K T Sx (mOf (List.replicate nb Mode.b) ds) H H' → ExnOk K ⟨G, [], T, H, [], Sx⟩ H' x c d → F' x → E c d H' := fun x c d H' cr ok hF => h20 x c d H' (cr.up uS) ok hF
    obtain ⟨l1, l2⟩ := argsR_len ha
    have B := hbody cdv A outer s H E ⟨G, mOf (List.replicate nb Mode.b) ds, T, H, [], Sx⟩ hr rfl (fun a z => by rw [eG] at z; rw [eS]; exact z)
    have S0 := sr_start (X := cxOf (L2.CX P w) P w K mg base N qual (defScope st) f cdv A outer s H E) (n := N.length - ps.length) ha nd hG hS ht
    have tk : Takes (cxOf (L2.CX P w) P w K mg base N qual (defScope st) f cdv A outer s H E) (WQ (cxOf (L2.CX P w) P w K mg base N qual (defScope st) f cdv A outer s H E) ⟨G, mOf (List.replicate nb Mode.b) ds, T, H, [], Sx⟩ (endsF (List.replicate nb Mode.b) ds R F').ex) := by
      refine Takes.imp (takes_of rfl rfl rfl rfl) fun c d σ H' hx => ?_
      obtain ⟨x, ρ, τ, vs', S', ok, hf, hk⟩ := hx
      exact h2 x c d H' (callR_of S' hk) ok hf
    refine ⟨_, B.pss tk, ?_⟩
    have e : L2.start N vs = vs.map some ++ List.replicate (N.length - ps.length) none := by
      unfold L2.start
      rw [← l2, ← l1, hm]
    rw [e]
    refine ⟨[], [], _, endsF (List.replicate nb Mode.b) ds R F', (fun sv h => absurd h (by simp)), rfl, S0, hq ds R F' hqs, fun ρ' σ' H' S' z => ?_, fun sv ρ' v σ' H' S' z => ?_, fun ρ' σ' H' S' z => z, fun ρ' σ' H' S' z => z⟩
    · exact h1 (.fr true .non) .non H' σ' (callR_of S' z.2) ⟨.non, rfl, rfl⟩ rfl (fun a e => nomatch (show (none : Option Addr) = some a from e)) z.1
    · obtain ⟨z1, z2, z3⟩ := z
      have main : ∀ (tv : SV), tv.isBor = false → (tv, some v) ∈ ents ρ' σ' [sv] [v] → R tv → okRes (List.replicate nb Mode.b) ds tv → Q v H' := fun tv hb hm hR ho => by
        refine h1 tv v H' σ' (callR_of S'.pop z3) (S'.all _ hm) hb (fun a e => ?_) hR
        rcases S'.own _ hm a e with q | ⟨q1, q2⟩
        · exact q
        · have ho' : mOf (List.replicate nb Mode.b) ds = [] := by
            cases tv with
            | sto b => exact ho
            | so b kvs => exact ho
            | _ => cases q2
          have q1 : a ∈ mOf (List.replicate nb Mode.b) ds := q1
          rw [ho'] at q1
          cases q1
      cases sv with
      | bor i =>
        have e1 : SV.mv ρ' (.bor i) = (ρ'[i]?).getD .no := rfl
        have gone : R .no → Q v H' := fun hR => h1 .no v H' σ' (callR_of S'.pop z3) trivial rfl (fun a e => nomatch (show (none : Option Addr) = some a from e)) hR
        cases q : ρ'[i]? with
        | none =>
          rw [e1, q] at z1
          exact gone z1
        | some tv =>
          rw [e1, q] at z1 z2
          by_cases hn : tv = .no
          · subst hn; exact gone z1
          · exact main tv (S'.nb _ (List.mem_of_getElem? q)) (List.mem_cons_of_mem _ (List.mem_of_getElem? (ents_at S'.pop.tlen i q (S'.borSlot S'.top q hn)))) z1 z2
      | _ => exact main _ rfl List.mem_cons_self z1 z2
end
end Q

namespace Q
open PySem PySem.Spec PyProof.Rows L2
/-! ### try: .. except C as n: .. -/
theorem takes_no {X : Cx} {g : Gh} : Takes X (WQ X g noX) := fun u s' h => by
  obtain ⟨_, _, _, _, _, _, _, _, _, _, _, _, _, _, _, _, x, ρ, τ, vs, _, _, z⟩ := h
  exact z.elim
/-- the error is kept in sight -/
def Gh.exc (g : Gh) (K : PySem.W.Frag) (dd : Addr) (fv : List (Str × V)) (x : Exn) : Gh := { g with Z := (fun H => H dd = some (.xd fv) ∧ Repf K (fun _ => True) H x.fs fv) :: g.Z }
section
variable {K : PySem.W.Frag} {g : Gh} {ρ : PSt} {σ : L2.St} {τ : List SV} {vs : List V} {H : Hp} {dd : Addr} {fv : List (Str × V)} {x : Exn}
theorem SR.toexc (S : SR K g ρ σ τ vs H) (h : H dd = some (.xd fv)) (r : Repf K (fun _ => True) H x.fs fv) : SR K (g.exc K dd fv x) ρ σ τ vs H :=
  ⟨S.len, S.tlen, S.all, S.inj, S.own, S.keep, S.tabs, S.gnew, fun y hy => (List.mem_cons.mp hy).elim (fun e => by rw [e]; exact ⟨fun _ _ st e => ⟨st.xd _ _ e.1, Repf.mono (fun _ z => z) st _ _ e.2⟩, h, r⟩) (S.pin y), S.nb, S.snew⟩
theorem SR.unexc (S : SR K (g.exc K dd fv x) ρ σ τ vs H) : SR K g ρ σ τ vs H :=
  ⟨S.len, S.tlen, S.all, S.inj, S.own, S.keep, S.tabs, S.gnew, fun y hy => S.pin y (List.mem_cons_of_mem _ hy), S.nb, S.snew⟩
theorem SR.exc1 (S : SR K (g.exc K dd fv x) ρ σ τ vs H) : H dd = some (.xd fv) ∧ Repf K (fun _ => True) H x.fs fv := (S.pin _ List.mem_cons_self).2
/-- slot i is emptied -/
theorem SR.clear (S : SR K g ρ σ τ vs H) (i : Nat) (nb : NoBor τ) : SR K g (ρ.set i .no) (σ.set i none) τ vs H := by
  have es := ents_set (ρ := ρ) (σ := σ) S.tlen i .no none
  have key : ∀ q ∈ ents (ρ.set i .no) (σ.set i none) τ vs, q ∈ ents ρ σ τ vs ∨ q = (.no, none) := fun q hq => by
    rw [es] at hq
    exact List.mem_or_eq_of_mem_set hq
  have nbq : ∀ q ∈ ents ρ σ τ vs, q.1.isBor = false := fun q hq => by
    rcases List.mem_append.mp hq with z | z
    · exact nb _ (List.of_mem_zip z).1
    · exact S.nb _ (List.of_mem_zip z).1
  refine ⟨by simp [S.len], S.tlen, fun q hq => ?_, ?_, fun q hq a e => ?_, S.keep, S.tabs, S.gnew, S.pin, fun y hy => ?_, S.snew⟩
  · rcases key q hq with z | rfl
    · exact svr_sigma (nbq q z) (S.all q z)
    · trivial
  · show Injs _
    rw [es]
    exact Injs.set S.inj _ _ fun a e => nomatch (show (none : Option Addr) = some a from e)
  · rcases key q hq with z | rfl
    · exact S.own q z a e
    · exact nomatch (show (none : Option Addr) = some a from e)
  · rcases List.mem_or_eq_of_mem_set hy with z | rfl
    · exact S.nb y z
    · rfl
/-- slot i holds a new thing that nobody owns -/
theorem SR.put (S : SR K g ρ σ τ vs H) (i : Nat) (nb : NoBor τ) {d : D} {v : V} (r : Rep K (g.gm true) H d v) : SR K g (ρ.set i (.fr true d)) (σ.set i (some v)) τ vs H :=
  (S.pushF (m := true) r).assign rfl nb
end
/-! ### blocks of a def itself: no temporaries lie below -/
structure QS0 (X : Cx) (g : Gh) (st : Stmt) (p : RS) : Prop where
  run : ∀ (pins : List (Addr × Obj)) (s : Shared) (σ : L2.St) (H : Hp) (ρ : PSt) (D : PEnds), Takes X (WQ X g D.ex) → L2.Inv X pins σ H s → SR X.K g ρ σ [] [] H → p D ρ →
    wpAny (model X.prog X.w) X.A (exec st X.env) (SQ X g pins [] [] D) X.xe s
structure QSs0 (X : Cx) (g : Gh) (st : List Stmt) (p : RS) : Prop where
  run : ∀ (pins : List (Addr × Obj)) (s : Shared) (σ : L2.St) (H : Hp) (ρ : PSt) (D : PEnds), Takes X (WQ X g D.ex) → L2.Inv X pins σ H s → SR X.K g ρ σ [] [] H → p D ρ →
    wpAny (model X.prog X.w) X.A (execs st X.env) (SQ X g pins [] [] D) X.xe s
theorem nobor_nil : NoBor [] := fun _ h => nomatch h
section
variable {X : Cx} {g : Gh} {st : Stmt} {sts : List Stmt} {q r : RS} {Ξ : RX} {pos : Pos} {c : Expr} {ct : RT}
theorem QS.q0 (h : QS X g st q) : QS0 X g st q := ⟨fun pins s σ H ρ D tk I S hq => h.run pins s σ H [] [] ρ D nobor_nil tk I S hq⟩
theorem QSs.q0 (h : QSs X g sts q) : QSs0 X g sts q := ⟨fun pins s σ H ρ D tk I S hq => h.run pins s σ H [] [] ρ D nobor_nil tk I S hq⟩
def tqs0 (X : Cx) (g : Gh) (p : RS) (Ξ : RX) : TS := fun E σ H => ∃ ρ D, D.ex = Ξ ∧ SR X.K g ρ σ [] [] H ∧ p D ρ ∧
  (∀ ρ' σ' H', SR X.K g ρ' σ' [] [] H' → D.nx ρ' → E.nx σ' H') ∧ (∀ sv ρ' v σ' H', SR X.K g ρ' σ' [sv] [v] H' → D.rt sv ρ' → E.rt v H') ∧ (∀ ρ' σ' H', SR X.K g ρ' σ' [] [] H' → D.bk ρ' → E.bk σ' H') ∧ ∀ ρ' σ' H', SR X.K g ρ' σ' [] [] H' → D.ct ρ' → E.ct σ' H'
theorem QS0.ps (h : QS0 X g st q) (tk : Takes X (WQ X g Ξ)) : PS X st (tqs0 X g q Ξ) := ⟨fun pins s σ H E I ⟨ρ, D, he, S, hp, h1, h2, h3, h4⟩ => by
  subst he
  exact thn (h.run pins s σ H ρ D tk I S hp) fun f s' z => sq_sp z h1 h2 h3 h4⟩
theorem QSs0.pss (h : QSs0 X g sts q) (tk : Takes X (WQ X g Ξ)) : PSs X sts (tqs0 X g q Ξ) := ⟨fun pins s σ H E I ⟨ρ, D, he, S, hp, h1, h2, h3, h4⟩ => by
  subst he
  exact thn (h.run pins s σ H ρ D tk I S hp) fun f s' z => sq_sp z h1 h2 h3 h4⟩
theorem tqs0_in {ρ : PSt} {σ : L2.St} {H : Hp} {D : PEnds} (S : SR X.K g ρ σ [] [] H) (h : q D ρ) : tqs0 X g q D.ex (endsQ X g [] [] D) σ H :=
  ⟨ρ, D, rfl, S, h, fun ρ' _ _ S' q => ⟨ρ', S', q⟩, fun sv ρ' v σ' _ S' q => ⟨σ', sv, ρ', S', q⟩, fun ρ' _ _ S' q => ⟨ρ', S', q⟩, fun ρ' _ _ S' q => ⟨ρ', S', q⟩⟩
theorem QS0.of {t : RX → TS} (h : ∀ Ξ, Takes X (WQ X g Ξ) → PS X st (t Ξ)) (hp : ∀ ρ D σ H, SR X.K g ρ σ [] [] H → q D ρ → t D.ex (endsQ X g [] [] D) σ H) : QS0 X g st q :=
  ⟨fun pins s σ H ρ D tk I S hw => thn ((h _ tk).run pins s σ H _ I (hp ρ D σ H S hw)) fun f s' z => SP.sq z⟩
theorem QSs0.of {t : RX → TS} (h : ∀ Ξ, Takes X (WQ X g Ξ) → PSs X sts (t Ξ)) (hp : ∀ ρ D σ H, SR X.K g ρ σ [] [] H → q D ρ → t D.ex (endsQ X g [] [] D) σ H) : QSs0 X g sts q :=
  ⟨fun pins s σ H ρ D tk I S hw => thn ((h _ tk).run pins s σ H _ I (hp ρ D σ H S hw)) fun f s' z => SP.sq z⟩
theorem qs0_cons (h1 : QS0 X g st q) (h2 : QSs0 X g sts r) : QSs0 X g (st :: sts) (rSeq q r) := by
  refine QSs0.of (fun Ξ tk => pss_cons (h1.ps tk) (h2.pss tk)) fun ρ D σ H S hw => ?_
  exact ⟨ρ, { D with nx := r D }, rfl, S, hw, fun ρ' σ' H' S' q => tqs0_in S' q, fun sv ρ' v σ' _ S' q => ⟨σ', sv, ρ', S', q⟩, fun ρ' _ _ S' q => ⟨ρ', S', q⟩, fun ρ' _ _ S' q => ⟨ρ', S', q⟩⟩
theorem qs0_one (h1 : QS0 X g st q) : QSs0 X g [st] q :=
  QSs0.of (fun Ξ tk => pss_one (h1.ps tk)) fun ρ D σ H S hw => tqs0_in S hw
end
section
variable {X : Cx} {g : Gh} {x n : Str} {c : Value} {cx : EC} {i : Nat} {body suite : List Stmt} {b₀ : Stmt} {np pos pos' : Pos} {pb : RS} {psu : Addr → Exn → RS}
/-- the suite's reading, for the kit's rule -/
def tSuite (X : Cx) (g : Gh) (psu : Addr → Exn → RS) (a : Addr) (cls : Value) (d : Option Addr) : TS := fun E σ H =>
  ∃ (y : Exn) (dd : Addr) (fv : List (Str × V)), y.cls.own = true ∧ cls = .ref (g.T.ea y.cls) ∧ d = some dd ∧ tqs X (g.exc X.K dd fv y) (psu a y) noX E σ H
def tBody (X : Cx) (g : Gh) (pb : RS) (W : WX) : TS := fun E σ H => ∃ Ξ : RX, (∀ c d σ' H', WQ X g Ξ c d σ' H' → W c d σ' H') ∧ tqs X g pb Ξ E σ H
theorem q_try_as (hs : X.stack = X.env :: X.outer) (hf : X.env.frame = some X.env.locals) (hN : X.N.Nodup) (hi : X.N[i]? = some n) (hln : X.env.kindOf n = some .local) (hc : Names X x c)
    (het : ∀ d : EC, d.own = true → PySem.W.exmOne X.K (.ref (g.T.ea d)) c = some (d.sub cx))
    (hb : ∀ (pn : List (Addr × Obj)) (xe : Value → Shared → Prop), PassesOwn (model X.prog X.w) X.A X.env xe → QSs (X.tr pn xe) g body pb)
    (hsu : ∀ (a : Addr) (oe : Obj) (y : Exn) (dd : Addr) (fv : List (Str × V)) (pn : List (Addr × Obj)), y.cls.own = true → Zc (.ref (g.T.ea y.cls)) (some dd) oe → (∃ vs, oe.data = .fields vs) → QSs (X.suite a ((a, oe) :: pn)) (g.exc X.K dd fv y) (b₀ :: suite) (psu a y)) :
    QS0 X g (.Try body [.ExceptHandler (some (.Name x np)) (some n) (b₀ :: suite) pos'] [] [] pos) (rTryAs cx i pb psu) := by
  refine QS0.of (t := fun Ξ => fun D σ H => tBody X g pb (wAs X.K c i (tSuite X g psu) (WQ X g Ξ) D) D σ H) (fun Ξ tk => ps_try_as hs hf hN hi hln hc tk (fun W pn xe tkW hp => ?_) (fun a oe cls d pn hz hd => ?_)) (fun ρ D σ H S hw => ?_)
  · refine ⟨fun pins s σ H E I ⟨Ξ', imp, h⟩ => ?_⟩
    exact ((hb pn xe hp).pss (Ξ := Ξ') (Takes.imp tkW imp)).run pins s σ H E I h
  · refine ⟨fun pins s σ H E I ⟨y, dd, fv, ho, e1, e2, h⟩ => ?_⟩
    subst e1 e2
    exact ((hsu a oe y dd fv pn ho hz hd).pss (Ξ := noX) takes_no).run pins s σ H E I h
  · refine ⟨(fun e ρ' => ifB (e.cls.sub cx) (∀ a, psu a e { nx := fun r => D.nx (r.set i .no), rt := D.rt, bk := fun r => D.bk (r.set i .no), ct := fun r => D.ct (r.set i .no), ex := noX } (ρ'.set i (.fr true (.ref a)))) (D.ex e ρ')), fun c' d σ' H' hx => ?_, tqs_in (D := { D with ex := _ }) nobor_nil S hw⟩
    obtain ⟨y, ρ', τ', vs', S', ⟨⟨ho, e1⟩, dd, fv, e2, e3, r⟩, hif⟩ := hx
    subst e1 e2
    refine ⟨_, het _ ho, fun hb a ha => ?_, fun hb => ⟨y, ρ', τ', vs', S', ⟨⟨ho, rfl⟩, dd, fv, rfl, e3, r⟩, hif.f hb⟩⟩
    have S1 : SR X.K g ρ' σ' [] [] H' := SR.drop (svs := τ') (us := vs') S'.tlen (by rw [List.append_nil, List.append_nil]; exact S')
    have S2 := (S1.put i nobor_nil (d := .ref a) (v := .ref a) rfl).toexc e3 r
    refine ⟨y, dd, fv, ho, rfl, rfl, [], [], _, _, nobor_nil, rfl, S2, hif.t hb a, fun ρ2 σ2 H2 S3 q => ⟨ρ2.set i .no, S3.unexc.clear i nobor_nil, q⟩, fun sv ρ2 v σ2 H2 S3 q => ⟨σ2, sv, ρ2, S3.unexc, q⟩, fun ρ2 σ2 H2 S3 q => ⟨ρ2.set i .no, S3.unexc.clear i nobor_nil, q⟩, fun ρ2 σ2 H2 S3 q => ⟨ρ2.set i .no, S3.unexc.clear i nobor_nil, q⟩⟩
end
end Q

namespace Q
open PySem PySem.Spec PyProof.Rows L2
/-! ### what is asked of the error in the suite -/
/-- the facts of an error's class -/
structure ErrK (K : PySem.W.Frag) (C : Addr) : Prop where
  hc : (PySem.W.clsIn K C).isSome = true
  ga : PySem.W.findIn K (.ref C) "__getattribute__" = some (some (.builtin "BaseException.__getattribute__"))
  gg : PySem.W.findIn K (.ref C) "__getattr__" = some none
  hs : PySem.W.subIn K (.ref C) (.type "BaseException") = some true
  hd : PySem.W.hasDictIn K C = true
  ha : PySem.W.findIn K (.ref C) "__class__" = some (some (.builtin "object.__class__"))
  hn : PySem.W.specialIn K (.builtin "object.__class__") "__get__" = some (some (.builtin "getset_descriptor.__get__"))
  ht : PySem.W.takesIn K (.builtin "object.__class__") = some true
  hm : PySem.W.mroIn K C (.type "object") = some true
/-- a class that isinstance asks for -/
structure ClE (K : PySem.W.Frag) (T : TBs) (cx : EC) (v : V) (u : Value) : Prop where
  cv : ClsV v u
  kit : ∀ d : EC, d.own = true → PySem.W.kitOne K (.ref (T.ea d)) u = some (d.sub cx)
inductive ClEs (K : PySem.W.Frag) (T : TBs) : List EC → List V → List Value → Prop where
  | nil : ClEs K T [] [] []
  | cons {cx cs v vs u us} : ClE K T cx v u → ClEs K T cs vs us → ClEs K T (cx :: cs) (v :: vs) (u :: us)
theorem ClEs.paired {K : PySem.W.Frag} {T : TBs} : ∀ {cs : List EC} {vs : List V} {us : List Value}, ClEs K T cs vs us → Paired ClsV vs us
  | _, _, _, .nil => .nil
  | _, _, _, .cons a b => .cons a.cv b.paired
theorem ClEs.kit {K : PySem.W.Frag} {T : TBs} {d : EC} (hd : d.own = true) : ∀ {cs : List EC} {vs : List V} {us : List Value}, ClEs K T cs vs us → PySem.W.kitAny K (.ref (T.ea d)) us = some (cs.any d.sub)
  | _, _, _, .nil => rfl
  | _, _, _, .cons (cx := cx) (cs := cs) a b => by
    rw [List.any_cons]
    refine kitAny_cons (a.kit d hd) (fun hb => ?_) fun hb => by rw [hb]; rfl
    rw [hb, Bool.false_or]
    exact b.kit hd
section
variable {X : Cx} {g : Gh} {a dd : Addr} {oe : Obj} {y : Exn} {fv : List (Str × V)} {pn : List (Addr × Obj)} {n : Str} {i : Nat} {cx : EC} {cs : List EC} {v : V} {u : Value} {vs : List V} {us : List Value} {p1 p2 p3 p4 : Pos} {C : Expr} {es : List Expr}
theorem err_at {pins : List (Addr × Obj)} {s : Shared} {σ : L2.St} {H : Hp} (I : L2.Inv (X.suite a ((a, oe) :: pn)) pins σ H s) (hz : Zc (.ref (g.T.ea y.cls)) (some dd) oe) (hf : ∃ vs, oe.data = .fields vs) (hx : H dd = some (.xd fv)) :
    ∃ od, PySem.W.InstAt s.heap a oe (g.T.ea y.cls) (some od) ∧ s.heap.get? dd = some od := by
  have q := (I.pin (a, oe) (List.mem_append.mpr (.inl List.mem_cons_self))).1
  obtain ⟨ws, hw⟩ := hf
  obtain ⟨mA, hns, _⟩ := (show ObjOk X.prog X.w H s.heap dd (.xd fv) from I.hok dd _ hx)
  obtain ⟨od, ho, _⟩ := lookIn_ns hns
  refine ⟨od, ⟨q, hz.1, ?_, ?_⟩, ho⟩
  · unfold PySem.W.notCls
    rw [hw] <;> rfl
  · rw [hz.2]
    exact ho
theorem call_isX (T : ErrK X.K (g.T.ea y.cls)) (hz : Zc (.ref (g.T.ea y.cls)) (some dd) oe) (hf : ∃ vs, oe.data = .fields vs) :
    CallR (X.suite a ((a, oe) :: pn)) (.builtin "isinstance") fun xs H Q => ∃ (c : V) (cv : Value) (b : Bool), xs = [.ref a, c] ∧ H dd = some (.xd fv) ∧ ClsV c cv ∧ PySem.W.kitOne X.K (.ref (g.T.ea y.cls)) cv = some b ∧ Q (.bl b) H := by
  intro pins s σ H xs us Q I r h
  obtain ⟨c, cv, b, rfl, hx, k, e, q⟩ := h
  obtain ⟨u1, u2, rfl, r1, r2⟩ := vals2 r
  have e2 := k.eq r2
  subst e2
  cases (show u1 = Value.ref a from r1)
  obtain ⟨od, J, _⟩ := err_at I hz hf hx
  exact PySem.W.kia_one (PySem.W.kitx_exc T.hc T.ga T.gg T.hs T.ha T.hn T.ht T.hm) I.kIn J e (fun z => nomatch z) fun tk => ⟨.bl b, H, I.kept (t' := tk) fun _ _ z => z, rfl, q⟩
theorem call_isXT (T : ErrK X.K (g.T.ea y.cls)) (hz : Zc (.ref (g.T.ea y.cls)) (some dd) oe) (hf : ∃ vs, oe.data = .fields vs) :
    CallR (X.suite a ((a, oe) :: pn)) (.builtin "isinstance") fun xs H Q => ∃ (tp : Addr) (cs : List V) (ws : List Value) (b : Bool), xs = [.ref a, .ref tp] ∧ H dd = some (.xd fv) ∧ H tp = some (.tup cs) ∧ Paired ClsV cs ws ∧ PySem.W.kitAny X.K (.ref (g.T.ea y.cls)) ws = some b ∧ Q (.bl b) H := by
  intro pins s σ H xs us Q I r h
  obtain ⟨tp, cs, ws, b, rfl, hx, hT, k, e, q⟩ := h
  obtain ⟨u1, u2, rfl, r1, r2⟩ := vals2 r
  cases (show u1 = Value.ref a from r1)
  cases (show u2 = Value.ref tp from r2)
  obtain ⟨od, J, _⟩ := err_at I hz hf hx
  obtain ⟨_, its, rv, o, h1, h2, n, h3⟩ := (show ObjOk X.prog X.w H s.heap tp (.tup cs) from I.hok tp _ hT)
  have e3 := ClsV.all k rv
  subst e3
  obtain ⟨oc, od', dt, sl⟩ := o
  simp only at h2 h3
  subst h2 h3
  exact PySem.W.kia_tup (PySem.W.kitx_exc T.hc T.ga T.gg T.hs T.ha T.hn T.ht T.hm) I.kIn J h1 e (fun z => nomatch z) fun tk => ⟨.bl b, H, I.kept (t' := tk) fun _ _ z => z, rfl, q⟩
theorem rSlot_ok {ρ : PSt} {P : Prop} (h : match ρ[i]? with
  | some (.fr _ (.ref b)) => b = a ∧ P
  | _ => False) : ∃ m, ρ[i]? = some (.fr m (.ref a)) ∧ P := by
  split at h
  · rename_i m b e
    obtain ⟨rfl, h⟩ := h
    exact ⟨m, e, h⟩
  · exact h.elim
theorem slot_val {ρ : PSt} {σ : L2.St} {τ : List SV} {vs : List V} {H : Hp} {m : Bool} {K : PySem.W.Frag} (S : SR K g ρ σ τ vs H) (e : ρ[i]? = some (.fr m (.ref a))) : σ[i]? = some (some (.ref a)) := by
  obtain ⟨w, hw, ⟨z, rfl, r⟩, _⟩ := S.slot e
  rw [hw, show z = V.ref a from r]
theorem q_isE (T : ErrK X.K (g.T.ea y.cls)) (ho : y.cls.own = true) (hz : Zc (.ref (g.T.ea y.cls)) (some dd) oe) (hf : ∃ vs, oe.data = .fields vs) (cl : ClE X.K g.T cx v u) (hC : PE (X.suite a ((a, oe) :: pn)) C (tC v))
    (hgi : Gl X "isinstance") (hmi : X.mg "isinstance" = none) (i : Nat) (hN : X.N[i]? = some n := by rfl) (hv : Vis X.env.scope n := by first | exact Or.inl rfl | exact Or.inr (Or.inl rfl) | exact Or.inr (Or.inr rfl)) (hdb : (n == ("__debug__" : Str)) = false := by decide)
    (hcd : (n == ("__classdict__" : Str)) = false := by decide)
    (he : starEach [.Name n p2, C] X.env = (false, eval (.Name n p2) X.env) :: starEach [C] X.env := by rfl) (he2 : starEach [C] X.env = (false, eval C X.env) :: starEach [] X.env := by rfl)
    (hpl : (backTo p3 (starEach [C] X.env)).any (·.1) = false := by rfl) : QE (X.suite a ((a, oe) :: pn)) (g.exc X.K dd fv y) (.Call (.Name "isinstance" p1) [.Name n p2, C] [] p3) (rIsE a y cx i) := by
  refine QE.of (t := fun _ => _) (fun Ξ tk => pe_callB (call_isX (fv := fv) T hz hf) hgi hmi (by rfl) (pa_cons (pe_var hN hv hdb hcd) (pa_cons hC pa_nil he2) he) (by decide) (by decide) he hpl) fun τ vs ρ Φ Ξ σ H S hw => ?_
  obtain ⟨m, e, q⟩ := rSlot_ok hw
  exact ⟨_, slot_val S e, _, _, _, rfl, S.exc1.1, cl.cv, cl.kit _ ho, .fr true (.bl (y.cls.sub cx)), ρ, S.pushF rfl, q⟩
theorem q_isEs (T : ErrK X.K (g.T.ea y.cls)) (ho : y.cls.own = true) (hz : Zc (.ref (g.T.ea y.cls)) (some dd) oe) (hf : ∃ vs, oe.data = .fields vs) (cl : ClEs X.K g.T cs vs us) (hl : vs.length ≤ 100) (hC : PA (X.suite a ((a, oe) :: pn)) es (tCs vs))
    (hgi : Gl X "isinstance") (hmi : X.mg "isinstance" = none) (i : Nat) {k : Nat} (hN : X.N[i]? = some n := by rfl) (hv : Vis X.env.scope n := by first | exact Or.inl rfl | exact Or.inr (Or.inl rfl) | exact Or.inr (Or.inr rfl)) (hdb : (n == ("__debug__" : Str)) = false := by decide)
    (hcd : (n == ("__classdict__" : Str)) = false := by decide)
    (he : starEach [.Name n p2, .Tuple es k p4] X.env = (false, eval (.Name n p2) X.env) :: starEach [.Tuple es k p4] X.env := by rfl) (he2 : starEach [.Tuple es k p4] X.env = (false, eval (.Tuple es k p4) X.env) :: starEach [] X.env := by rfl)
    (hpl : (backTo p3 (starEach [.Tuple es k p4] X.env)).any (·.1) = false := by rfl) : QE (X.suite a ((a, oe) :: pn)) (g.exc X.K dd fv y) (.Call (.Name "isinstance" p1) [.Name n p2, .Tuple es k p4] [] p3) (rIsEs a y cs i) := by
  refine QE.of (t := fun _ => _) (fun Ξ tk => pe_callB (call_isXT (fv := fv) T hz hf) hgi hmi (by rfl) (pa_cons (pe_var hN hv hdb hcd) (pa_cons (pe_tup hC) pa_nil he2) he) (by decide) (by decide) he hpl) fun τ ws ρ Φ Ξ σ H S hw => ?_
  obtain ⟨m, e, q⟩ := rSlot_ok hw
  refine ⟨_, slot_val S e, by rw [line_eq]; exact Nat.le_trans hl (by decide), fun tp htp => ?_⟩
  have S2 := S.new (o := .tup vs) htp
  exact ⟨_, _, _, _, rfl, S2.exc1.1, upd_same, cl.paired, cl.kit ho, .fr true (.bl (cs.any y.cls.sub)), ρ, S2.pushF rfl, q⟩
theorem repf_get {K : PySem.W.Frag} {G : Addr → Prop} {H : Hp} : ∀ {fs : List (Str × D)} {fv : List (Str × V)} {n : Str} {d : D}, Repf K G H fs fv → fs.lookup n = some d → ∃ v, fv.lookup n = some v ∧ Rep K G H d v
  | [], _, _, _, _, e => nomatch e
  | (k, x) :: r, _, n, d, ⟨(k', v), vs', rfl, ⟨e1, h1⟩, h2⟩, e => by
    have e1 : k' = k := e1
    subst e1
    rw [List.lookup_cons] at e ⊢
    cases hb : n == k' with
    | true =>
      rw [hb] at e
      cases e
      exact ⟨v, rfl, h1⟩
    | false =>
      rw [hb] at e
      exact repf_get h2 e
theorem q_xf (T : ErrK X.K (g.T.ea y.cls)) (hno : PySem.W.findIn X.K (.ref (g.T.ea y.cls)) f = some none) (hz : Zc (.ref (g.T.ea y.cls)) (some dd) oe) (hf : ∃ vs, oe.data = .fields vs) (i : Nat)
    (hN : X.N[i]? = some n := by rfl) (hv : Vis X.env.scope n := by first | exact Or.inl rfl | exact Or.inr (Or.inl rfl) | exact Or.inr (Or.inr rfl)) (hdb : (n == ("__debug__" : Str)) = false := by decide)
    (hcd : (n == ("__classdict__" : Str)) = false := by decide) (hb : attributeBase (.Name n p1) f X.env (eval (.Name n p1) X.env) = eval (.Name n p1) X.env := by rfl) :
    QE (X.suite a ((a, oe) :: pn)) (g.exc X.K dd fv y) (.Attribute (.Name n p1) f p2) (rXf a y f i) := by
  refine QE.of (t := fun _ => _) (fun Ξ tk => pe_xf ⟨T.ga, T.gg, T.hs, T.hd⟩ hno hz hf (pe_var hN hv hdb hcd) hb) fun τ vs ρ Φ Ξ σ H S hw => ?_
  obtain ⟨m, e, d, hd, q⟩ := rSlot_ok hw
  obtain ⟨h1, h2⟩ := S.exc1
  obtain ⟨v, hl, r⟩ := repf_get h2 hd
  refine ⟨_, slot_val S e, rfl, rfl, dd, fv, v, rfl, h1, hl, .fr d.safe d, ρ, S.pushF ?_, q⟩
  cases hs : d.safe with
  | true => exact rep_safe d v hs r
  | false => exact Rep.mono (fun _ _ z => Bool.noConfusion z) .refl _ _ r
end
end Q

namespace Q
open PySem PySem.Spec PyProof.Rows L2
/-! ### own things lent for a while: all are locked, then unlocked -/
section
variable {K : PySem.W.Frag} {G G' : Addr → Prop} {H H' : Hp}
mutual
theorem Rep.map (hf : ∀ a u, Fz G H a u → Fz G' H' a u) (ht : ∀ a xs, SqT K H a xs → SqT K H' a xs) : ∀ (d : D) (v : V), Rep K G H d v → Rep K G' H' d v
  | .non, _, h => h
  | .bl _, _, h => h
  | .int _, _, h => h
  | .str _, _, h => h
  | .lst xs, _, ⟨a, vs, e, f, r⟩ => ⟨a, vs, e, hf _ _ f, Reps.map hf ht xs vs r⟩
  | .tup xs, _, ⟨a, vs, e, f, r⟩ => ⟨a, vs, e, ht _ _ f, Reps.map hf ht xs vs r⟩
  | .dk xs, _, ⟨a, vs, e, f, r⟩ => ⟨a, vs, e, hf _ _ f, Repk.map hf ht xs vs r⟩
  | .dt xs, _, ⟨a, vs, e, f, r⟩ => ⟨a, vs, e, hf _ _ f, Rept.map hf ht xs vs r⟩
  | .obj C fs, _, ⟨a, dx, fv, e, f, r⟩ => ⟨a, dx, fv, e, hf _ _ f, Repf.map hf ht fs fv r⟩
  | .ref _, _, h => h
  | .ty _, _, h => h
  | .scr _, _, ⟨a, e, f⟩ => ⟨a, e, f.imp (hf _ _) id⟩
theorem Reps.map (hf : ∀ a u, Fz G H a u → Fz G' H' a u) (ht : ∀ a xs, SqT K H a xs → SqT K H' a xs) : ∀ (d : List D) (v : List V), Reps K G H d v → Reps K G' H' d v
  | [], _, h => h
  | x :: r, _, ⟨v, vs', e, a, b⟩ => ⟨v, vs', e, Rep.map hf ht x v a, Reps.map hf ht r vs' b⟩
theorem Repk.map (hf : ∀ a u, Fz G H a u → Fz G' H' a u) (ht : ∀ a xs, SqT K H a xs → SqT K H' a xs) : ∀ (d : List (Ky × D)) (v : List (Ky × V)), Repk K G H d v → Repk K G' H' d v
  | [], _, h => h
  | (k, x) :: r, _, ⟨v, vs', e, a, b⟩ => ⟨v, vs', e, ⟨a.1, Rep.map hf ht x v.2 a.2⟩, Repk.map hf ht r vs' b⟩
theorem Rept.map (hf : ∀ a u, Fz G H a u → Fz G' H' a u) (ht : ∀ a xs, SqT K H a xs → SqT K H' a xs) : ∀ (d : List (List Ky × D)) (v : List (List Ky × V)), Rept K G H d v → Rept K G' H' d v
  | [], _, h => h
  | (k, x) :: r, _, ⟨v, vs', e, a, b⟩ => ⟨v, vs', e, ⟨a.1, Rep.map hf ht x v.2 a.2⟩, Rept.map hf ht r vs' b⟩
theorem Repf.map (hf : ∀ a u, Fz G H a u → Fz G' H' a u) (ht : ∀ a xs, SqT K H a xs → SqT K H' a xs) : ∀ (d : List (Str × D)) (v : List (Str × V)), Repf K G H d v → Repf K G' H' d v
  | [], _, h => h
  | (k, x) :: r, _, ⟨v, vs', e, a, b⟩ => ⟨v, vs', e, ⟨a.1, Rep.map hf ht x v.2 a.2⟩, Repf.map hf ht r vs' b⟩
end
end
section
variable {X : Cx} {g : Gh} {σ : L2.St} {pins : List (Addr × Obj)} {s : Shared}
theorem lockAll {H : Hp} : ∀ (L : List Addr), L2.Inv X pins σ H s → (∀ a ∈ L, ∃ u, H a = some u ∧ Mut (some u)) → ∃ H1, L2.Inv X pins σ H1 s ∧ (∀ a ∈ L, ∃ od u, H a = some u ∧ H1 a = some (.frz od u)) ∧ ∀ b, b ∉ L → H1 b = H b
  | [], I, _ => ⟨H, I, fun _ h => (nomatch h), fun _ _ => rfl⟩
  | a :: L, I, hL => by
    obtain ⟨H1, I1, h1, h2⟩ := lockAll L I fun b hb => hL b (List.mem_cons_of_mem _ hb)
    by_cases ha : a ∈ L
    · exact ⟨H1, I1, fun b hb => (List.mem_cons.mp hb).elim (fun e => by rw [e]; exact h1 a ha) (h1 b), fun b hb => h2 b fun z => hb (List.mem_cons_of_mem _ z)⟩
    · obtain ⟨u, e, mu⟩ := hL a List.mem_cons_self
      have e1 : H1 a = some u := (h2 a ha).trans e
      obtain ⟨od, I2⟩ := I1.lock e1 mu
      refine ⟨_, I2, fun b hb => ?_, fun b hb => ?_⟩
      · by_cases hba : b = a
        · subst hba
          exact ⟨od, u, e, upd_same⟩
        · rw [upd_ne hba]
          exact h1 b ((List.mem_cons.mp hb).resolve_left hba)
      · rw [upd_ne fun z => hb (by rw [z]; exact List.mem_cons_self)]
        exact h2 b fun z => hb (List.mem_cons_of_mem _ z)
theorem unlockAll {H0 H2 : Hp} : ∀ (L : List Addr), L2.Inv X pins σ H2 s → (∀ a ∈ L, (∃ od u, H0 a = some u ∧ H2 a = some (.frz od u)) ∧ ∀ o' u', X.H_0 a ≠ some (.frz o' u')) → ∃ H3, L2.Inv X pins σ H3 s ∧ (∀ a ∈ L, H3 a = H0 a) ∧ ∀ b, b ∉ L → H3 b = H2 b
  | [], I, _ => ⟨H2, I, fun _ h => (nomatch h), fun _ _ => rfl⟩
  | a :: L, I, hL => by
    obtain ⟨H3, I1, h1, h2⟩ := unlockAll L I fun b hb => hL b (List.mem_cons_of_mem _ hb)
    by_cases ha : a ∈ L
    · exact ⟨H3, I1, fun b hb => (List.mem_cons.mp hb).elim (fun e => by rw [e]; exact h1 a ha) (h1 b), fun b hb => h2 b fun z => hb (List.mem_cons_of_mem _ z)⟩
    · obtain ⟨⟨od, u, e, e2⟩, hn⟩ := hL a List.mem_cons_self
      have e1 : H3 a = some (.frz od u) := (h2 a ha).trans e2
      refine ⟨_, I1.unlock e1 hn, fun b hb => ?_, fun b hb => ?_⟩
      · by_cases hba : b = a
        · subst hba
          rw [upd_same, e]
        · rw [upd_ne hba]
          exact h1 b ((List.mem_cons.mp hb).resolve_left hba)
      · rw [upd_ne fun z => hb (by rw [z]; exact List.mem_cons_self)]
        exact h2 b fun z => hb (List.mem_cons_of_mem _ z)
/-- the own cells of the slots -/
def lentL (ρ : PSt) (σ : L2.St) : List Addr := (ρ.zip σ).filterMap fun p => match p.1.stoOf with
  | none => ownOf p.1 p.2
  | some _ => none
theorem lentL_mem {ρ : PSt} {σ : L2.St} {a : Addr} (h : a ∈ lentL ρ σ) : ∃ p ∈ ρ.zip σ, p.1.stoOf = none ∧ ownOf p.1 p.2 = some a := by
  obtain ⟨p, hp, e⟩ := List.mem_filterMap.mp h
  refine ⟨p, hp, ?_⟩
  cases q : p.1.stoOf with
  | none => rw [q] at e; exact ⟨rfl, e⟩
  | some b => rw [q] at e; cases e
theorem lentL_of {ρ : PSt} {σ : L2.St} {a : Addr} {p : SV × Option V} (hp : p ∈ ρ.zip σ) (h1 : p.1.stoOf = none) (h2 : ownOf p.1 p.2 = some a) : a ∈ lentL ρ σ := List.mem_filterMap.mpr ⟨p, hp, by rw [h1]; exact h2⟩
def lentM (ρ : PSt) : List Addr := ρ.filterMap fun sv => match sv with
  | .sto a => some a
  | _ => none
theorem lentM_mem {ρ : PSt} {a : Addr} (h : a ∈ lentM ρ) : ∃ i : Nat, ρ[i]? = some (SV.sto a) := by
  obtain ⟨p, hp, e⟩ := List.mem_filterMap.mp h
  obtain ⟨i, hi⟩ := List.mem_iff_getElem?.mp hp
  cases p <;> first | cases e; exact ⟨i, hi⟩ | cases e
theorem lentM_of {ρ : PSt} {a : Addr} (h : SV.sto a ∈ ρ) : a ∈ lentM ρ := List.mem_filterMap.mpr ⟨_, h, rfl⟩
theorem zip_map1 {α β γ : Type} (f : α → γ) : ∀ (l : List α) (m : List β), (l.map f).zip m = (l.zip m).map fun p => (f p.1, p.2)
  | [], _ => by simp
  | _ :: _, [] => by simp
  | _ :: l, _ :: m => by simp [zip_map1 f l m]
theorem own_lent {sv : SV} {v : Option V} {a : Addr} (h : ownOf sv.lent v = some a) : ∃ b, sv = .sto b ∧ ownOf sv v = some a := by
  cases v with
  | none => cases sv <;> exact nomatch h
  | some v => cases sv <;> cases v <;> first | exact ⟨_, rfl, h⟩ | exact nomatch h
/-- the ghost within -/
def Gh.lent (g : Gh) (L M : List Addr) (H1 : Hp) : Gh := { g with G := fun b => g.G b ∧ b ∉ L, M := M, B := H1, S := fun b => g.S b ∧ b ∉ L }
theorem svr_lent {K : PySem.W.Frag} {H H1 : Hp} {L M : List Addr} {sv : SV} {v : Option V} (h : SVR K g H σ sv v) (hL : ∀ a ∈ L, ∃ od u, H a = some u ∧ Mut (some u) ∧ H1 a = some (.frz od u)) (hN : ∀ b, b ∉ L → H1 b = H b) (ho : sv.stoOf = none → ∀ a, ownOf sv v = some a → a ∈ L) (nb : sv.isBor = false) (hB : ∀ b, sv = .sto b → b ∉ L) :
    SVR K (g.lent L M H1) H1 σ sv.lent v := by
  have out : ∀ b o u, H b = some (.frz o u) → b ∉ L := fun b o u e hb => by
    obtain ⟨_, _, e1, mu, _⟩ := hL b hb
    rw [e] at e1
    cases e1
    exact mu
  have hf : ∀ m b u, Fz (g.gm m) H b u → Fz ((g.lent L M H1).gm m) H1 b u := fun m b u ⟨h1, o, e⟩ => ⟨fun z => ⟨h1 z, out b o u e⟩, o, by rw [hN b (out b o u e)]; exact e⟩
  have ht : ∀ b xs, SqT K H b xs → SqT K H1 b xs := fun b xs z => by
    rcases z with (z | ⟨o, z⟩) | z
    · refine .inl (.inl ?_)
      rw [hN b fun hb => ?_]
      · exact z
      · obtain ⟨_, _, e1, mu, _⟩ := hL b hb
        rw [z] at e1
        cases e1
        exact mu
    · exact .inl (.inr ⟨o, by rw [hN b (out b o _ z)]; exact z⟩)
    · exact .inr z
  have fz : ∀ a u, a ∈ L → H a = some u → Fz ((g.lent L M H1).gm false) H1 a u := fun a u ha e => by
    obtain ⟨od, u', e1, _, e2⟩ := hL a ha
    rw [e] at e1
    cases e1
    exact ⟨fun z => Bool.noConfusion z, od, e2⟩
  have wk : ∀ m b u, Fz (g.gm m) H b u → Fz ((g.lent L M H1).gm false) H1 b u := fun m b u z => ⟨fun z => Bool.noConfusion z, (hf m b u z).2⟩
  cases sv with
  | no => trivial
  | fr m d => obtain ⟨u, e, r⟩ := h; exact ⟨u, e, Rep.map (hf m) ht _ _ r⟩
  | ol m xs =>
    obtain ⟨a, ws, rfl, c, r⟩ := h
    exact ⟨_, rfl, a, ws, rfl, fz a _ (ho rfl a rfl) c, Reps.map (wk m) ht _ _ r⟩
  | od m xs =>
    obtain ⟨a, ws, rfl, c, r⟩ := h
    exact ⟨_, rfl, a, ws, rfl, fz a _ (ho rfl a rfl) c, Repk.map (wk m) ht _ _ r⟩
  | oo m C xs =>
    obtain ⟨a, dx, ws, rfl, c, r⟩ := h
    exact ⟨_, rfl, a, dx, ws, rfl, fz a _ (ho rfl a rfl) c, Repf.map (wk m) ht _ _ r⟩
  | sto b =>
    obtain ⟨e, c, ns, pos, now, left, seed, turn, great, h1, h2, h3⟩ := h
    exact ⟨e, c, ns, pos, now, left, seed, turn, great, by rw [hN b (hB b rfl)]; exact h1, Rep.map (fun b u ⟨h1, o, e⟩ => ⟨⟨h1, out b o u e⟩, o, by rw [hN b (out b o u e)]; exact e⟩) ht _ _ h2, h3⟩
  | so b kvs => trivial
  | bor i => cases nb
theorem tup_back {K : PySem.W.Frag} {H2 H3 : Hp} {L : List Addr} (hL : ∀ a ∈ L, ∃ od u, Mut (some u) ∧ H2 a = some (.frz od u)) (hN : ∀ b, b ∉ L → H3 b = H2 b) : ∀ b xs, SqT K H2 b xs → SqT K H3 b xs := fun b xs z => by
    have nl : ∀ o, H2 b = some o → (∀ od u, Mut (some u) → o ≠ .frz od u) → b ∉ L := fun o e q hb => by
      obtain ⟨od, u, mu, e1⟩ := hL b hb
      rw [e] at e1
      cases e1
      exact q od u mu rfl
    rcases z with (z | ⟨o, z⟩) | z
    · exact .inl (.inl (by rw [hN b (nl _ z fun _ _ _ q => nomatch q)]; exact z))
    · refine .inl (.inr ⟨o, ?_⟩)
      rw [hN b (nl _ z fun od u mu q => by cases q; exact mu)]
      exact z
    · exact .inr z
theorem svr_back {K : PySem.W.Frag} {H1 H2 H3 : Hp} {L M : List Addr} {sv : SV} {v : Option V} (h : SVR K (g.lent L M H1) H2 σ sv v) (hL : ∀ a ∈ L, ∃ od u, Mut (some u) ∧ H2 a = some (.frz od u)) (hN : ∀ b, b ∉ L → H3 b = H2 b) (hc : sv.clean = true) : SVR K g H3 σ sv v := by
  have ht := tup_back (K := K) hL hN
  have hf : ∀ b u, Fz ((g.lent L M H1).gm true) H2 b u → Fz (g.gm true) H3 b u := fun b u ⟨h1, o, e⟩ => ⟨fun z => (h1 z).1, o, by rw [hN b (h1 rfl).2]; exact e⟩
  have own : ∀ a o, H2 a = some o → Mut (some o) → H3 a = some o := fun a o e mu => by
    rw [hN a fun ha => ?_]
    · exact e
    · obtain ⟨od, u, _, e1⟩ := hL a ha
      rw [e] at e1
      cases e1
      exact mu
  cases sv with
  | no => trivial
  | fr m d =>
    obtain ⟨u, e, r⟩ := h
    cases m with
    | true => exact ⟨u, e, Rep.map hf ht _ _ r⟩
    | false =>
      have hs : d.safe = true := hc
      exact ⟨u, e, Rep.map (G := fun b => b ∉ L) (fun b u ⟨h1, o, e⟩ => ⟨fun z => Bool.noConfusion z, o, by rw [hN b h1]; exact e⟩) ht _ _ (rep_safe d u hs r)⟩
  | ol m xs => cases (show m = true from hc); obtain ⟨a, ws, rfl, c, r⟩ := h; exact ⟨a, ws, rfl, own _ _ c trivial, Reps.map hf ht _ _ r⟩
  | od m xs => cases (show m = true from hc); obtain ⟨a, ws, rfl, c, r⟩ := h; exact ⟨a, ws, rfl, own _ _ c trivial, Repk.map hf ht _ _ r⟩
  | oo m C xs => cases (show m = true from hc); obtain ⟨a, dx, ws, rfl, c, r⟩ := h; exact ⟨a, dx, ws, rfl, own _ _ c trivial, Repf.map hf ht _ _ r⟩
  | sto b => cases hc
  | so b kvs => cases hc
  | bor i => cases hc
theorem q_lend {e : Expr} {p : RE} (h : ∀ g' : Gh, g'.T = g.T → QE X g' e p) : QE X g e (rLend p) := by
  refine ⟨fun pins s σ H τ vs ρ Φ Ξ tk I S hw => ?_⟩
  have mem2 : ∀ q ∈ ρ.zip σ, q ∈ ents ρ σ τ vs := fun q hq => List.mem_append_right _ hq
  have hL0 : ∀ a ∈ lentL ρ σ, ∃ u, H a = some u ∧ Mut (some u) ∧ ∀ φ, u ≠ .ext φ := fun a ha => by
    obtain ⟨q, hq, h1, h2⟩ := lentL_mem ha
    obtain ⟨_, u, e, mu, nx⟩ := svr_own (S.all q (mem2 q hq)) h2
    exact ⟨u, e, mu, nx⟩
  obtain ⟨H1, I1, hA, hN⟩ := lockAll (lentL ρ σ) I fun a ha => let ⟨u, e, mu, _⟩ := hL0 a ha; ⟨u, e, mu⟩
  have hL : ∀ a ∈ lentL ρ σ, ∃ od u, H a = some u ∧ Mut (some u) ∧ H1 a = some (.frz od u) := fun a ha => by
    obtain ⟨u, e, mu, _⟩ := hL0 a ha
    obtain ⟨od, u', e1, e2⟩ := hA a ha
    rw [e] at e1
    cases e1
    exact ⟨od, u, e, mu, e2⟩
  have notL : ∀ b o, H b = some o → ¬ Mut (some o) → b ∉ lentL ρ σ := fun b o e nm hb => by
    obtain ⟨u, e1, mu, _⟩ := hL0 b hb
    rw [e] at e1
    cases e1
    exact nm mu
  have notLx : ∀ b φ, H b = some (.ext φ) → b ∉ lentL ρ σ := fun b φ e hb => by
    obtain ⟨u, e1, _, nx⟩ := hL0 b hb
    rw [e] at e1
    cases e1
    exact nx φ rfl
  have tabs1 : LamX.Tabs g.T.tb H1 := fun pt hpt => by
    obtain ⟨ps, h1, h2, h3⟩ := S.tabs pt hpt
    refine ⟨ps, by rw [hN _ (notL _ _ h1 id)]; exact h1, h2, fun pos cv hc => ?_⟩
    obtain ⟨c, e1, e2⟩ := h3 pos cv hc
    exact ⟨c, e1, by rw [hN _ (notLx _ _ e2)]; exact e2⟩
  have st1 : Stab H H1 := ⟨⟨fun a o u e => by rw [hN _ (notL _ _ e id)]; exact e, fun a xs e => by rw [hN _ (notL _ _ e id)]; exact e⟩, fun a xs e => by rw [hN _ (notL _ _ e id)]; exact e⟩
  have lnone : ∀ b, H1 b = none → b ∉ lentL ρ σ ∧ H b = none := fun b e => by
    have nb : b ∉ lentL ρ σ := fun hb => by
      obtain ⟨_, _, _, _, e1⟩ := hL b hb
      rw [e] at e1
      cases e1
    exact ⟨nb, by rw [← hN b nb]; exact e⟩
  have stoL : ∀ q ∈ ρ.zip σ, ∀ b, q.1 = .sto b → b ∉ lentL ρ σ := fun q hq b e hb => by
    obtain ⟨r, hr, h1, h2⟩ := lentL_mem hb
    obtain ⟨i, hi⟩ := List.mem_iff_getElem?.mp (mem2 q hq)
    obtain ⟨j, hj⟩ := List.mem_iff_getElem?.mp (mem2 r hr)
    have hv := S.all q (mem2 q hq)
    obtain ⟨q1, q2⟩ := q
    have e : q1 = .sto b := e
    subst e
    have hv : q2 = some (.ref b) := hv.1
    subst hv
    have := S.inj i j _ _ b hi hj rfl h2
    subst this
    rw [hi] at hj
    cases hj
    cases h1
  have zinj : ∀ (i j : Nat) (q r : SV × Option V) (a : Addr), (ρ.zip σ)[i]? = some q → (ρ.zip σ)[j]? = some r → ownOf q.1 q.2 = some a → ownOf r.1 r.2 = some a → i = j := fun i j q r a h1 h2 e1 e2 => by
    have := S.inj ((τ.zip (vs.map some)).length + i) ((τ.zip (vs.map some)).length + j) q r a (by unfold ents; rw [List.getElem?_append_right (by omega)]; simpa using h1) (by unfold ents; rw [List.getElem?_append_right (by omega)]; simpa using h2) e1 e2
    omega
  have S1 : SR X.K (g.lent (lentL ρ σ) (lentM ρ) H1) (ρ.map SV.lent) σ [] [] H1 := by
    refine ⟨by rw [List.length_map]; exact S.len, rfl, fun q hq => ?_, fun i j q r a h1 h2 e1 e2 => ?_, fun q hq a e => ?_, KeepB.refl, tabs1, fun b e => ⟨S.gnew b (S.free (lnone b e).2), (lnone b e).1⟩, fun z hz => st1.pin (S.pin z hz), fun sv hs => ?_, fun b e => ⟨S.snew b (S.free (lnone b e).2), (lnone b e).1⟩⟩
    · have hq : q ∈ (ρ.map SV.lent).zip σ := hq
      rw [zip_map1] at hq
      obtain ⟨r, hr, rfl⟩ := List.mem_map.mp hq
      exact svr_lent (S.all r (mem2 r hr)) hL hN (fun h1 a h2 => lentL_of hr h1 h2) (S.nb _ (List.of_mem_zip hr).1) (stoL r hr)
    · have h1 : ((ρ.map SV.lent).zip σ)[i]? = some q := h1
      have h2 : ((ρ.map SV.lent).zip σ)[j]? = some r := h2
      rw [zip_map1, List.getElem?_map] at h1 h2
      obtain ⟨q', hq', rfl⟩ := Option.map_eq_some_iff.mp h1
      obtain ⟨r', hr', rfl⟩ := Option.map_eq_some_iff.mp h2
      obtain ⟨_, _, o1⟩ := own_lent e1
      obtain ⟨_, _, o2⟩ := own_lent e2
      exact zinj i j q' r' a hq' hr' o1 o2
    · have hq : q ∈ (ρ.map SV.lent).zip σ := hq
      rw [zip_map1] at hq
      obtain ⟨r, hr, rfl⟩ := List.mem_map.mp hq
      obtain ⟨b, eb, o⟩ := own_lent e
      obtain ⟨r1, r2⟩ := r
      have eb : r1 = .sto b := eb
      subst eb
      have hv : r2 = some (.ref b) := (S.all _ (mem2 _ hr)).1
      subst hv
      cases (show some b = some a from o)
      exact .inr ⟨lentM_of (List.of_mem_zip hr).1, rfl⟩
    · obtain ⟨r, hr, rfl⟩ := List.mem_map.mp hs
      cases r <;> rfl
  refine thn ((h (g.lent (lentL ρ σ) (lentM ρ) H1) rfl).run pins s σ H1 [] [] _ _ noX takes_no I1 S1 hw) fun u s' ⟨v, H2, sv, ρ', I2, rv, S2, ⟨⟨eρ, hc⟩, q⟩⟩ => ?_
  have mK : ∀ b ∈ lentM ρ, ∃ kw, H b = some (.dK kw) ∧ b ∉ lentL ρ σ := fun b hb => by
    obtain ⟨i, hi⟩ := lentM_mem hb
    obtain ⟨u, hu, ⟨rfl, _, _, _, _, _, _, _, _, e, _⟩, _⟩ := S.slot hi
    exact ⟨_, e, stoL (SV.sto b, some (V.ref b)) (List.mem_of_getElem? ((List.getElem?_zip_eq_some (i := i)).mpr ⟨hi, hu⟩)) b rfl⟩
  have kp : ∀ b o, H1 b = some o → b ∉ lentM ρ → (∀ ps, o ≠ .tbl ps) → H2 b = some o := fun b o e nm n => S2.keep.keep b o e nm n
  have Lm : ∀ b, b ∈ lentL ρ σ → b ∉ lentM ρ := fun b hb hm => by
    obtain ⟨_, _, n⟩ := mK b hm
    exact n hb
  have h2L : ∀ a ∈ lentL ρ σ, ∃ od u, Mut (some u) ∧ H2 a = some (.frz od u) := fun a ha => by
    obtain ⟨od, u, _, mu, e⟩ := hL a ha
    exact ⟨od, u, mu, kp _ _ e (Lm a ha) fun _ z => nomatch z⟩
  obtain ⟨H3, I3, hB, hM⟩ := unlockAll (H0 := H) (lentL ρ σ) I2 fun a ha => by
    obtain ⟨od, u, e0, mu, e⟩ := hL a ha
    exact ⟨⟨od, u, e0, kp _ _ e (Lm a ha) (fun _ z => nomatch z)⟩, I.nofrz e0 mu⟩
  have kp3 : ∀ b o, H b = some o → b ∉ lentM ρ → (∀ ps, o ≠ .tbl ps) → H3 b = some o := fun b o e nm n => by
    by_cases hb : b ∈ lentL ρ σ
    · rw [hB b hb]; exact e
    · rw [hM b hb]
      exact kp b o (by rw [hN b hb]; exact e) nm n
  have live3 : ∀ b, H3 b = none → H b = none := fun b e => by
    have nb : b ∉ lentL ρ σ := fun hb => by
      rw [hB b hb] at e
      obtain ⟨_, _, e1, _⟩ := hL b hb
      rw [e] at e1
      cases e1
    rw [hM b nb] at e
    exact (lnone b (S2.keep.live b e)).2
  have nM : ∀ b o, H b = some o → (∀ kw, o ≠ .dK kw) → b ∉ lentM ρ := fun b o e n hb => by
    obtain ⟨kw, e1, _⟩ := mK b hb
    rw [e] at e1
    cases e1
    exact n _ rfl
  have st3 : Stab0 H H3 := ⟨fun a o u e => kp3 _ _ e (nM _ _ e fun _ z => nomatch z) (fun _ z => nomatch z), fun a xs e => kp3 _ _ e (nM _ _ e fun _ z => nomatch z) (fun _ z => nomatch z)⟩
  have tabs3 : LamX.Tabs g.T.tb H3 := fun pt hpt => by
    obtain ⟨ps, h1, h2, h3⟩ := S2.tabs pt hpt
    have nl : ∀ b o, H2 b = some o → (∀ od u, o ≠ .frz od u) → b ∉ lentL ρ σ := fun b o e n hb => by
      obtain ⟨od, u, _, e1⟩ := h2L b hb
      rw [e] at e1
      cases e1
      exact n od u rfl
    refine ⟨ps, by rw [hM _ (nl _ _ h1 (fun _ _ z => nomatch z))]; exact h1, h2, fun pos cv hc => ?_⟩
    obtain ⟨c, e1, e2⟩ := h3 pos cv hc
    refine ⟨c, e1, ?_⟩
    rw [hM _ (nl _ _ e2 fun _ _ z => by unfold LamX.CodeO at z; cases z)]
    exact e2
  have sto3 : ∀ a ∈ lentM ρ, StoreOk X.K g.S H3 a := fun a ha => by
    obtain ⟨i, hi⟩ := lentM_mem ha
    have hi' : ρ'[i]? = some (.sto a) := by rw [eρ, List.getElem?_map, hi]; rfl
    obtain ⟨u, hu, ⟨_, c, ns, pos, now, left, seed, turn, great, h1, h2, h3⟩, _⟩ := S2.slot hi'
    obtain ⟨_, _, nl⟩ := mK a ha
    exact ⟨c, ns, pos, now, left, seed, turn, great, by rw [hM a nl]; exact h1, Rep.map (G := fun b => g.S b ∧ b ∉ lentL ρ σ) (fun b u ⟨h1, o, e⟩ => ⟨h1.1, o, by rw [hM b h1.2]; exact e⟩) (tup_back h2L hM) _ _ h2, h3⟩
  have S3 : SR X.K g ρ σ τ vs H3 := S.called (M := lentM ρ) (fun a ha => lentM_mem ha) ⟨⟨fun a o e m t => kp3 a o e m t, fun a e => live3 a e⟩, tabs3, sto3⟩ st3
  refine ⟨v, H3, sv, ρ, I3, rv, S3.push (svr_back S2.top h2L hM hc) fun a e => ?_, q⟩
  have nst : sv.stoOf = none := by cases sv <;> first | rfl | cases hc
  have h1n : H1 a = none := (S2.own _ List.mem_cons_self a e).elim id fun z => absurd z.2 (by rw [nst]; exact fun e => nomatch e)
  have hn := (lnone a h1n).2
  refine ⟨.inl (S.free hn), fun q hq z => ?_⟩
  obtain ⟨_, w, hw, _⟩ := svr_own (S.all q hq) z
  rw [hn] at hw
  cases hw
end
end Q

namespace Q
open PySem PySem.Spec PyProof.Rows L2 LamX
/-! ### a lambda is made -/
def LamStep (P : Addr) (H H1 : Hp) : Prop := H1 = H ∨ ∃ (ps more : Array Value) (c' : Addr) (q : Str), H P = some (.tbl ps) ∧ H c' = none ∧ H1 = upd (upd H P (.tbl (ps ++ more))) c' (CodeO c' q)
section
variable {X : Cx} {pins : List (Addr × Obj)} {σ : L2.St} {H : Hp} {s : Shared}
theorem lam_mk {T : List (Addr × Str)} {q : Str} {c P : Addr} {params : Arguments} {body : Expr} {scope : Scope} {pos : Pos} {Ex : Value → Shared → Prop} {Qv : Value → Shared → Prop} (I : L2.Inv X pins σ H s) (TB : TabB X.base X.mg c P) (hcode : X.env.code = .ref c)
    (hm : (P, q) ∈ T) (hu : ∀ p ∈ T, p.1 = P → p.2 = q) (hq : q = X.env.qual ++ "<lambda>") (hT : Tabs T H) (hdef : defaultsOf params X.env = ([], [])) (hfree : ∀ y ∈ scope.names, y.2 = .free → ∃ c, X.env.cells.lookup y.1 = some c)
    (h : ∀ (f c' : Addr) (pm ctv : Value) (H1 : Hp) (s' : Shared), L2.Inv X pins σ H1 s' → LamStep P H H1 → Tabs T H1 → s'.heap.get? f = some (PySem.W.kla_obj "<lambda>" (X.env.qual ++ "<lambda>") params body scope (cloFrom X.env.cells scope.names []) pm c' ctv) →
      H1 f = none → f ∉ frs X.stack → H1 c' = some (CodeO c' (X.env.qual ++ "<lambda>")) → Qv (.ref f) s') : wpAny (model X.prog X.w) X.A (eval (.Lambda params body scope pos) X.env) Qv Ex s := by
  subst hq
  obtain ⟨ps, eP, ht, ha⟩ := hT _ hm
  have eP : H P = some (.tbl ps) := eP
  have noP : ∀ b o, H b = some o → (∀ q, o ≠ .tbl q) → b ≠ P := fun b o e n z => by
    subst z
    rw [eP] at e
    exact n ps (Option.some.inj e).symm
  have oP : s.heap.get? P = some { cls := .none, data := .fields ps } := I.hok P _ eP
  have bP := TB.bm.keeps I.bk
  have far : ∀ f, s.heap.objs.size ≤ f → f ∉ frs X.stack := fun f hf z => (List.mem_cons.mp (I.stkSub _ z)).elim (fun e => absurd (e ▸ I.lt) (Nat.not_lt.mpr hf)) (I.nofs hf)
  apply PySem.W.kla_eval hdef
  cases hc : codeAmong pos ps.toList with
  | some cv =>
    obtain ⟨c', rfl, hco⟩ := ha pos cv hc
    refine PySem.W.kla_makeFunctionHit (closure_ok hfree) I.ok.glob (I.mod.glob.keeps I.bk) hcode (TB.code.keeps I.bk) oP ht hc bP fun ctv h' tk hx hsz => ?_
    exact h _ c' _ ctv H _ (I.kept fun b o e => Heap.get?_push_of_some _ (hx b o e)) (.inl rfl) hT (Heap.get?_push_size _ rfl) (I.hok.fresh hsz) (far _ hsz) hco
  | none =>
    refine PySem.W.kla_makeFunction (closure_ok hfree) I.ok.glob (I.mod.glob.keeps I.bk) hcode (TB.code.keeps I.bk) oP ht hc TB.gP bP fun c' ctv h' tk hx hge hlt hrec htb => ?_
    obtain ⟨_, oc, ws, t, rfl', hoc, hd, hv⟩ := hrec
    cases rfl'
    have nC : H c' = none := I.hok.fresh hge
    have I1 := inv_table (t' := tk) (h' := h'.push (PySem.W.kla_obj "<lambda>" (X.env.qual ++ "<lambda>") params body scope (cloFrom X.env.cells scope.names []) ((X.mg "__name__").getD .none) c' ctv)) I eP (fun b o hb e => Heap.get?_push_of_some _ (hx b o hb e)) (Heap.get?_push_of_some _ htb) hge ⟨oc, ws, t, Heap.get?_push_of_some _ hoc, hd, hv⟩
    have up : ∀ b o, H b = some o → (∀ q, o ≠ .tbl q) → upd (upd H P (.tbl (ps ++ #[rawInt pos.line, rawInt pos.col, .ref c']))) c' (CodeO c' (X.env.qual ++ "<lambda>")) b = some o := fun b o e n => by
      rw [upd_ne (ne_of_none e nC), upd_ne (noP b o e n)]
      exact e
    have hsz := Nat.le_trans hge (Nat.le_of_lt hlt)
    refine h _ c' _ ctv _ _ I1 (.inr ⟨ps, _, c', _, eP, nC, rfl⟩) (fun p hp => ?_) (Heap.get?_push_size _ rfl) ?_ (far _ hsz) upd_same
    · by_cases hb : p.1 = P
      · refine ⟨ps ++ #[rawInt pos.line, rawInt pos.col, .ref c'], ?_, ?_, fun p' cv hcv => ?_⟩
        · rw [hb, upd_ne (ne_of_none eP nC), upd_same]
        · rw [Array.toList_append]
          exact PySem.TriplesOk_snoc _ _ _ _ ht
        · rw [Array.toList_append] at hcv
          rw [hu p hp hb]
          rcases among_app _ ht hcv with z | z
          · obtain ⟨c0, e1, e2⟩ := ha p' cv z
            exact ⟨c0, e1, up _ _ e2 codeO_ne⟩
          · exact ⟨c', z, upd_same⟩
      · obtain ⟨qs, a1, a2, a3⟩ := hT p hp
        refine ⟨qs, (upd_ne (ne_of_none a1 nC)).trans ((upd_ne hb).trans a1), a2, fun p' cv hcv => ?_⟩
        obtain ⟨c0, e1, e2⟩ := a3 p' cv hcv
        exact ⟨c0, e1, up _ _ e2 codeO_ne⟩
    · exact (upd_ne (Nat.ne_of_gt hlt)).trans ((upd_ne (Nat.ne_of_gt (Nat.lt_of_lt_of_le (Heap.lt_size oP) hsz))).trans (I.hok.fresh hsz))
end
section
variable {K : PySem.W.Frag} {g : Gh} {ρ : PSt} {σ : L2.St} {τ : List SV} {vs : List V} {H H1 : Hp} {P : Addr}
theorem LamStep.keep (h : LamStep P H H1) : ∀ b o, H b = some o → (∀ ps, o ≠ .tbl ps) → H1 b = some o := fun b o e n => by
  rcases h with rfl | ⟨ps, more, c', q, eP, nC, rfl⟩
  · exact e
  · have hb : b ≠ P := fun z => by
      subst z
      rw [eP] at e
      exact n ps (Option.some.inj e).symm
    rw [upd_ne (ne_of_none e nC), upd_ne hb]
    exact e
theorem LamStep.live (h : LamStep P H H1) : ∀ b, H1 b = none → H b = none := fun b e => by
  rcases h with rfl | ⟨ps, more, c', q, eP, nC, rfl⟩
  · exact e
  · exact NdefX.upd_none (NdefX.upd_none e)
/-- what keeps all but the tables keeps the state -/
theorem SR.ext (S : SR K g ρ σ τ vs H) (kp : ∀ b o, H b = some o → (∀ ps, o ≠ .tbl ps) → H1 b = some o) (lv : ∀ b, H1 b = none → H b = none) (T1 : LamX.Tabs g.T.tb H1) : SR K g ρ σ τ vs H1 := by
  refine S.heap ⟨⟨fun a o u e => kp _ _ e (fun _ z => nomatch z), fun a xs e => kp _ _ e (fun _ z => nomatch z)⟩, fun a xs e => kp _ _ e (fun _ z => nomatch z)⟩ (fun q hq a e => ?_) ⟨fun a o e m t => kp a o (S.keep.keep a o e m t) t, fun a e => S.keep.live a (lv a e)⟩ T1
  obtain ⟨_, o, e1, mu, _⟩ := svr_own (S.all q hq) e
  rw [e1]
  exact kp _ _ e1 fun ps z => by subst z; exact mu
theorem svr_g {g' : Gh} {σ' : L2.St} {sv : SV} {v : Option V} (hg : g'.G = g.G) (hS : g'.S = g.S) (nb : sv.isBor = false) (h : SVR K g H σ sv v) : SVR K g' H σ' sv v := by
  have e : ∀ m, g'.gm m = g.gm m := fun m => by unfold Gh.gm; rw [hg]
  cases sv with
  | bor i => cases nb
  | no => trivial
  | fr m d => obtain ⟨u, e1, r⟩ := h; exact ⟨u, e1, by rw [e]; exact r⟩
  | ol m xs => obtain ⟨a, ws, e1, c, r⟩ := h; exact ⟨a, ws, e1, c, by rw [e]; exact r⟩
  | od m xs => obtain ⟨a, ws, e1, c, r⟩ := h; exact ⟨a, ws, e1, c, by rw [e]; exact r⟩
  | oo m C xs => obtain ⟨a, dx, ws, e1, c, r⟩ := h; exact ⟨a, dx, ws, e1, c, by rw [e]; exact r⟩
  | sto b => exact ⟨h.1, by rw [hS]; exact h.2⟩
  | so b kvs => obtain ⟨e1, kw, c, r⟩ := h; exact ⟨e1, kw, c, by rw [hS]; exact r⟩
/-- what the lambda sees of its maker's slots, at any later heap -/
theorem SR.seen (S : SR K g ρ σ τ vs H) (st : Stab H H1) (hG : ∀ a, H1 a = none → g.G a) (hS : ∀ a, H1 a = none → g.S a) (T1 : LamX.Tabs g.T.tb H1) : SR K ⟨g.G, [], g.T, H1, [], g.S⟩ (ρ.map SV.seen) σ [] [] H1 := by
  have mem2 : ∀ q ∈ ρ.zip σ, q ∈ ents ρ σ τ vs := fun q hq => List.mem_append_right _ hq
  have no : ∀ (sv : SV) (v : Option V) a, ownOf sv.seen v ≠ some a := fun sv v a => by
    cases v with
    | none => cases sv <;> exact fun z => nomatch z
    | some v => cases sv <;> cases v <;> exact fun z => nomatch z
  have hz : ∀ q ∈ ents (ρ.map SV.seen) σ [] [], ∃ r ∈ ρ.zip σ, q = (r.1.seen, r.2) := fun q hq => by
    have hq : q ∈ (ρ.map SV.seen).zip σ := hq
    rw [zip_map1] at hq
    obtain ⟨r, hr, rfl⟩ := List.mem_map.mp hq
    exact ⟨r, hr, rfl⟩
  refine ⟨by rw [List.length_map]; exact S.len, rfl, fun q hq => ?_, fun i j q r a h1 h2 e1 e2 => ?_, fun q hq a e => ?_, KeepB.refl, T1, hG, (fun z hz => nomatch hz), fun sv hs => ?_, hS⟩
  · obtain ⟨r, hr, rfl⟩ := hz q hq
    have z := S.all r (mem2 r hr)
    obtain ⟨sv, v⟩ := r
    cases sv with
    | fr m d => obtain ⟨u, e1, r⟩ := z; exact ⟨u, e1, Rep.mono (fun _ q => q) st _ _ r⟩
    | _ => trivial
  · obtain ⟨r', _, rfl⟩ := hz q (List.mem_of_getElem? h1)
    exact absurd e1 (no _ _ _)
  · obtain ⟨r', _, rfl⟩ := hz q hq
    exact absurd e (no _ _ _)
  · obtain ⟨r, hr, rfl⟩ := List.mem_map.mp hs
    cases r <;> rfl
end
/-! ### it is called, in the def that got it -/
section
variable {X : Cx} {pins : List (Addr × Obj)} {σ : L2.St} {H : Hp} {s : Shared}
theorem rAct_ok {f : Addr} {ask : AskP} {i : Nat} {ρ : PSt} {k : RK} {x : RX} (h : rAct f ask i ρ k x) : ∃ m, ρ[i]? = some (.fr m (.ref f)) ∧ ask (fun r => k r ρ) (fun e => x e ρ) := by
  unfold rAct at h
  split at h
  · rename_i m b e
    obtain ⟨rfl, h⟩ := h
    exact ⟨m, e, h⟩
  · exact h.elim
/-- a lambda's wish about errors -/
theorem takes_lam {A : Around} {outer : List Env} {s1 : Shared} {HZ : Hp} {E : XK} {scope : Scope} {f c' : Addr} : Takes (lamCx X A outer s1 HZ E scope f c') (fun cls d _ H => E cls d H) := takes_of rfl rfl rfl rfl
def askOf (p : RE) (ρ : PSt) : AskP := fun R F => p (ρ.map SV.seen) (fun sv _ => sv.isBor = false ∧ R sv) (fun e _ => F e)
theorem q_act {Eg : XK} {Ng : List Str} {qg : Str} {sg : Scope} {gA f c' : Addr} {cdg pm ctv : Value} {params : Arguments} {body : Expr} {scope : Scope} {k i : Nat} {a : Str} {pn : List (Addr × Obj)} {xe : Value → Shared → Prop} {g0 gc : Gh} {ρ0 : PSt} {τ0 : List SV} {vs0 : List V} {p : RE} {p1 p2 : Pos}
    (I : L2.Inv X pins σ H s) (L : LamS X.env.scope scope) (hf : s.heap.get? f = some (PySem.W.kla_obj "<lambda>" (X.env.qual ++ "<lambda>") params body scope (cloFrom X.env.cells scope.names []) pm c' ctv)) (hfn : H f = none) (hfr : f ∉ frs X.stack) (hco : H c' = some (CodeO c' (X.env.qual ++ "<lambda>")))
    (hbind : bindArgs (PySem.W.kla_fn "<lambda>" (X.env.qual ++ "<lambda>") params body scope (cloFrom X.env.cells scope.names []) pm (.ref c') ctv) ⟨[], []⟩ = pure []) (hr : Room (k + 1) (X.A.deeper (envOfC qg sg s.heap.objs.size gA cdg)))
    (hbody : ∀ (A : Around) (outer : List Env) (s1 : Shared) (H1 : Hp) (E : XK) (gl : Gh), gl.T = g0.T → Room k (A.deeper (lamEnv X scope s1.heap.objs.size f c')) → QE (lamCx X A outer s1 H1 E scope f c') gl body p)
    (S0 : SR X.K g0 ρ0 σ τ0 vs0 H) (hB : gc.B = H) (hM : gc.M = []) (hTc : gc.T = g0.T) (hG : gc.G = g0.G) (hSc : gc.S = g0.S)
    (hN : Ng[i]? = some a) (hv : Vis sg a) (hd : (a == ("__debug__" : Str)) = false := by decide) (hcd : (a == ("__classdict__" : Str)) = false := by decide) :
    QE ((cxOf (L2.CX X.prog X.w) X.prog X.w X.K X.mg X.base Ng qg sg gA cdg X.A X.stack s H Eg).tr pn xe) gc (.Call (.Name a p1) [] [] p2) (rAct f (askOf p ρ0) i) := by
  refine ⟨fun pinsZ sZ σZ HZ τ vs ρ Φ Ξ tk IZ SZ hw => ?_⟩
  obtain ⟨m, hslot, hask⟩ := rAct_ok hw
  have hs := slot_val SZ hslot
  have kpB : ∀ b o, H b = some o → (∀ ps, o ≠ .tbl ps) → HZ b = some o := fun b o e n => SZ.keep.keep b o (by rw [hB]; exact e) (by rw [hM]; exact fun z => nomatch z) n
  have stB : Stab H HZ := ⟨⟨fun a o u e => kpB _ _ e (fun _ z => nomatch z), fun a xs e => kpB _ _ e (fun _ z => nomatch z)⟩, fun a xs e => kpB _ _ e (fun _ z => nomatch z)⟩
  refine wpAny_Call_Name_kw (thn ((pe_var (pos := p1) hN hv hd hcd).run pinsZ sZ σZ HZ (fun v H1 => v = .ref f ∧ H1 = HZ) IZ ⟨.ref f, hs, rfl, rfl⟩) fun u s1 ⟨v, H1, I1, r1, q1⟩ => ?_)
  obtain ⟨rfl, rfl⟩ := q1
  obtain rfl : u = Value.ref f := r1
  have of1 := I1.base.keep f _ hf hfn hfr (fun z => nomatch (show f ∈ ([] : List Addr) from z))
  have hcZ := kpB c' _ hco fun _ z => codeO_ne _ z
  obtain ⟨⟨oc, ws, t, hoc, hdc, hvc⟩, _, _⟩ := I1.hok c' _ hcZ
  refine PySem.W.callWith_F0 ⟨_, _, _, _, of1⟩ ?_
  -- the state that the lambda sees
  have Sl : SR X.K ⟨gc.G, [], gc.T, H1, [], gc.S⟩ (ρ0.map SV.seen) σ [] [] H1 := by
    have z := S0.seen (H1 := H1) stB (fun a e => S0.gnew a (S0.free (by rw [← hB]; exact SZ.keep.live a e))) (fun a e => S0.snew a (S0.free (by rw [← hB]; exact SZ.keep.live a e))) (by rw [← hTc]; exact SZ.tabs)
    rw [hG, hTc, hSc]
    exact z
  -- back in the def
  have back : ∀ {H' : Hp} {ρ' : PSt} {σ' : L2.St} {τ' : List SV} {vs' : List V}, SR X.K ⟨gc.G, [], gc.T, H1, [], gc.S⟩ ρ' σ' τ' vs' H' → SR X.K gc ρ σZ τ vs H' := fun {H' ρ' σ' τ' vs'} Sx =>
    SZ.ext (fun b o e n => Sx.keep.keep b o e (fun z => nomatch z) n) Sx.keep.live Sx.tabs
  have rc : codeAny (model X.prog X.w) (X.A.deeper (envOfC qg sg s.heap.objs.size gA cdg)) (.call (.ref f) ⟨[], []⟩) (CR (L2.CX X.prog X.w) (envOfC qg sg s.heap.objs.size gA cdg :: X.stack) X.prog X.w H1 s1
      (fun v H' => ∃ sv, SR X.K gc ρ σZ (sv :: τ) (v :: vs) H' ∧ Φ sv ρ) (fun c d H' => WQ ((cxOf (L2.CX X.prog X.w) X.prog X.w X.K X.mg X.base Ng qg sg gA cdg X.A X.stack s H Eg).tr pn xe) gc Ξ c d σZ H')) s1 := by
    refine PySem.W.kla_callFunE hr.depth of1 rfl L.co L.gen rfl ⟨c', oc, ws, t, rfl, hoc, hdc, hvc⟩ ?_
    rw [hbind]
    refine wpAny_pure (wpAny_newFunctionEnv (fun y hy => (L.own y hy).2) (fun y hy => nomatch hy) (fun h₁ hns hsb => ⟨I1.nolimit.fresh _ hsb, ?_⟩) L.kind)
    have J := lam_start2 (E := fun c d H' => WQ ((cxOf (L2.CX X.prog X.w) X.prog X.w X.K X.mg X.base Ng qg sg gA cdg X.A X.stack s H Eg).tr pn xe) gc Ξ c d σZ H') (f := f) (c' := c') (tk := s1.toks + ([] : List (Str × Value)).length) I L I1.env0 hr.hd I1.base hns fun b o e => hsb.extBut b o (Nat.ne_of_lt (Heap.lt_size e)) (Heap.get?_push_of_some _ e)
    refine PySem.W.kla_codeExpr (wpAny_mono ((hbody _ _ s1 H1 _ ⟨gc.G, [], gc.T, H1, [], gc.S⟩ hTc (hr.deeper _)).run [] _ σ H1 [] [] _ _ (fun e _ => Ξ e ρ) (Takes.imp takes_lam fun c d σ' H' hx => ?_) J Sl hask) (fun u s' hq => ?_) fun e s' hq => hq)
    · obtain ⟨x, ρ', τ', vs', S', ok, hΞ⟩ := hx
      exact ⟨x, ρ, τ, vs, back S', ok, hΞ⟩
    · obtain ⟨v, H', sv, ρ', J', rv, S', nb, hΦ⟩ := hq
      refine ⟨v, H', J'.os, J'.bare, J'.base, J'.hok, rv, sv, (back S').push (svr_g rfl rfl nb S'.top) fun a e => ?_, hΦ⟩
      have hn : H1 a = none := (S'.own _ List.mem_cons_self a e).elim id fun z => nomatch (show a ∈ ([] : List Addr) from z.1)
      refine ⟨.inl (SZ.free hn), fun q hq z => ?_⟩
      obtain ⟨_, w, hw, _⟩ := svr_own (SZ.all q hq) z
      rw [hn] at hw
      cases hw
  refine wpAny_call (codeAny_mono rc fun r s' hq => ?_)
  cases r with
  | error e => exact tk _ _ (XE.of_call I1 (fun c d H' q => q) hq)
  | ok fl =>
    cases fl with
    | ret u =>
      obtain ⟨v, H', I2, rv, sv, S2, q⟩ := I1.after hq
      exact ⟨v, H', sv, ρ, I2, rv, S2, q⟩
    | next => exact False.elim hq
    | brk => exact False.elim hq
    | cont => exact False.elim hq
end
end Q

namespace Q
open PySem PySem.Spec PyProof.Rows L2 LamX
section
variable {P : Program} {w : World} {K : PySem.W.Frag} {mg : Str → Option Value} {base : Heap}
/-- the slots and the ends of a def's body, over the kit's ends -/
theorem body_end {X : Cx} {G Sx : Addr → Prop} {T : TBs} {ms : List Mode} {ds : List D} {H : Hp} {R : SV → Prop} {F' : Exn → Prop} {Q : VK} {p : RS} {σ : L2.St} {ρ : PSt} (S0 : SR X.K ⟨G, mOf ms ds, T, H, [], Sx⟩ ρ σ [] [] H) (hp : p (endsF ms ds R F') ρ)
    (h1 : ∀ sv v H' σ, CallR' X.K T Sx (mOf ms ds) H H' → SVR X.K ⟨G, [], T, H, [], Sx⟩ H' σ sv (some v) → sv.isBor = false → (∀ a, ownOf sv (some v) = some a → H a = none) → R sv → Q v H') :
    tqs0 X ⟨G, mOf ms ds, T, H, [], Sx⟩ p (endsF ms ds R F').ex { nx := fun _ H' => Q .non H', rt := Q } σ H := by
  refine ⟨ρ, endsF ms ds R F', rfl, S0, hp, fun ρ' σ' H' S' z => ?_, fun sv ρ' v σ' H' S' z => ?_, fun ρ' σ' H' S' z => z, fun ρ' σ' H' S' z => z⟩
  · exact h1 (.fr true .non) .non H' σ' (callR_of S' z.2) ⟨.non, rfl, rfl⟩ rfl (fun a e => nomatch (show (none : Option Addr) = some a from e)) z.1
  · obtain ⟨z1, z2, z3⟩ := z
    have main : ∀ (tv : SV), tv.isBor = false → (tv, some v) ∈ ents ρ' σ' [sv] [v] → R tv → okRes ms ds tv → Q v H' := fun tv hb hm hR ho => by
      refine h1 tv v H' σ' (callR_of S'.pop z3) (S'.all _ hm) hb (fun a e => ?_) hR
      rcases S'.own _ hm a e with q | ⟨q1, q2⟩
      · exact q
      · have ho' : mOf ms ds = [] := by
          cases tv with
          | sto b => exact ho
          | so b kvs => exact ho
          | _ => cases q2
        have q1 : a ∈ mOf ms ds := q1
        rw [ho'] at q1
        cases q1
    cases sv with
    | bor i =>
      have e1 : SV.mv ρ' (.bor i) = (ρ'[i]?).getD .no := rfl
      have gone : R .no → Q v H' := fun hR => h1 .no v H' σ' (callR_of S'.pop z3) trivial rfl (fun a e => nomatch (show (none : Option Addr) = some a from e)) hR
      cases q : ρ'[i]? with
      | none =>
        rw [e1, q] at z1
        exact gone z1
      | some tv =>
        rw [e1, q] at z1 z2
        by_cases hn : tv = .no
        · subst hn; exact gone z1
        · exact main tv (S'.nb _ (List.mem_of_getElem? q)) (List.mem_cons_of_mem _ (List.mem_of_getElem? (ents_at S'.pop.tlen i q (S'.borSlot S'.top q hn)))) z1 z2
    | _ => exact main _ rfl List.mem_cons_self z1 z2
/-- THE RULE for a def, once more: its code object is told, its block may hold a try -/
theorem q_fnC {x qual : Str} {st : Stmt} {f : Addr} {fd : FuncData} {N ps : List Str} {k : Nat} {T : TBs} {ms : List Mode} {qs : QSpec} {p : RS} (F : Fun K x qual st f fd) (S : FnScope N ps (defScope st)) (hm : ms.length = ps.length)
    (hbody : ∀ (A : Around) (outer : List Env) (s : Shared) (H : Hp) (E : XK) (g : Gh), Room k (A.deeper (envOfC qual (defScope st) s.heap.objs.size f fd.code)) → g.T = T → QSs0 (cxOf (L2.CX P w) P w K mg base N qual (defScope st) f fd.code A outer s H E) g (defBody st) p)
    (hq : ∀ (ds : List D) (R : SV → Prop) (F : Exn → Prop), qs ds R F → p (endsF ms ds R F) (slots0 ms ds ++ List.replicate (N.length - ps.length) .no)) : FnOk P w K mg base (L2.CX P w) (k + 1) f fd ps (spQ K T ms qs) := by
  obtain ⟨oc, od, kV, doc, pm, an, cdv, ct, osl, rfl, lk, hcd⟩ := F.ex
  refine fn_of lk hcd S (fun vs H Q E h => ?_) (fun A outer s H vs Q E hr h => ?_)
  · obtain ⟨G, Sx, ds, R, F', _, _, _, _, ha, _⟩ := h
    obtain ⟨l1, l2⟩ := argsR_len ha
    omega
  · obtain ⟨G, Sx, ds, R, F', hG, hS, hS0, ht, ha, nd, hqs, h1, h2⟩ := h
    obtain ⟨l1, l2⟩ := argsR_len ha
    have B := hbody A outer s H E ⟨G, mOf ms ds, T, H, [], Sx⟩ hr rfl
    have S0 := sr_start (X := cxOf (L2.CX P w) P w K mg base N qual (defScope st) f cdv A outer s H E) (n := N.length - ps.length) ha nd hG hS ht
    have tk : Takes (cxOf (L2.CX P w) P w K mg base N qual (defScope st) f cdv A outer s H E) (WQ (cxOf (L2.CX P w) P w K mg base N qual (defScope st) f cdv A outer s H E) ⟨G, mOf ms ds, T, H, [], Sx⟩ (endsF ms ds R F').ex) := by
      refine Takes.imp (takes_of rfl rfl rfl rfl) fun c d σ H' hx => ?_
      obtain ⟨x, ρ, τ, vs', S', ok, hf, hk⟩ := hx
      exact h2 x c d H' (callR_of S' hk) ok hf
    refine ⟨_, B.pss tk, ?_⟩
    have e : L2.start N vs = vs.map some ++ List.replicate (N.length - ps.length) none := by
      unfold L2.start
      rw [← l2, ← l1, hm]
    rw [e]
    exact body_end S0 (hq ds R F' hqs) h1
/-- a def that calls what it got (its only parameter a) -/
structure AskD (P : Program) (w : World) (K : PySem.W.Frag) (mg : Str → Option Value) (base : Heap) (T : TBs) (k : Nat) (x : Str) (st : Stmt) (gA : Addr) (fd : FuncData) (a : Str) (qs : AskP → AskP) : Prop where
  fn : Fun K x x st gA fd
  gl : mg x = some (.ref gA)
  bd : Binds K fd [a] []
  run : ∃ (N : List Str) (rb : Addr → AskP → RS), FnScope N [a] (defScope st) ∧ N[0]? = some a ∧ Vis (defScope st) a ∧ (a == ("__debug__" : Str)) = false ∧ (a == ("__classdict__" : Str)) = false ∧
    (∀ (A : Around) (outer : List Env) (s : Shared) (H : Hp) (E : XK) (g : Gh) (f : Addr) (ask : AskP), Room k (A.deeper (envOfC x (defScope st) s.heap.objs.size gA fd.code)) → g.T = T →
      (∀ (pn : List (Addr × Obj)) (xe : Value → Shared → Prop) (p1 p2 : Pos), QE ((cxOf (L2.CX P w) P w K mg base N x (defScope st) gA fd.code A outer s H E).tr pn xe) g (.Call (.Name a p1) [] [] p2) (rAct f ask 0)) →
      QSs0 (cxOf (L2.CX P w) P w K mg base N x (defScope st) gA fd.code A outer s H E) g (defBody st) (rb f ask)) ∧
    ∀ (f : Addr) (ask : AskP) (R : SV → Prop) (F : Exn → Prop), qs ask R F → rb f ask (endsF [.s] [.ref f] R F) (.fr true (.ref f) :: List.replicate (N.length - 1) .no)
theorem AskD.mono {T : TBs} {j k : Nat} {x : Str} {st : Stmt} {gA : Addr} {fd : FuncData} {a : Str} {qs : AskP → AskP} (h : AskD P w K mg base T j x st gA fd a qs) (hk : j ≤ k) : AskD P w K mg base T k x st gA fd a qs := by
  obtain ⟨h1, h2, h3, N, rb, s1, s2, s3, s4, s5, s6, s7⟩ := h
  exact ⟨h1, h2, h3, N, rb, s1, s2, s3, s4, s5, fun A outer s H E g f ask hr => s6 A outer s H E g f ask (hr.mono hk), s7⟩
end
section
variable {X : Cx} {g : Gh}
/-- x(lambda: body) -/
theorem q_ask {k : Nat} {x a q : Str} {st : Stmt} {gA c Pt : Addr} {fd : FuncData} {qs : AskP → AskP} {params : Arguments} {body : Expr} {scope : Scope} {p : RE} {pn lpos pos : Pos} (Dx : AskD X.prog X.w X.K X.mg X.base g.T (k + 1) x st gA fd a qs) (hg : Gl X x)
    (TB : TabB X.base X.mg c Pt) (hcode : X.env.code = .ref c) (hm : (Pt, q) ∈ g.T.tb) (hu : ∀ p ∈ g.T.tb, p.1 = Pt → p.2 = q) (hq : q = X.env.qual ++ "<lambda>") (hr : Room (k + 2) X.A) (L : LamS X.env.scope scope)
    (hbody : ∀ (A : Around) (outer : List Env) (s : Shared) (H : Hp) (E : XK) (f c' : Addr) (gl : Gh), gl.T = g.T → Room k (A.deeper (lamEnv X scope s.heap.objs.size f c')) → QE (lamCx X A outer s H E scope f c') gl body p)
    (hdef : defaultsOf params X.env = ([], []) := by rfl) (hbind : ∀ (q : Str) (cl : List (Str × Addr)) (pm cv ctv : Value), bindArgs (PySem.W.kla_fn "<lambda>" q params body scope cl pm cv ctv) ⟨[], []⟩ = pure [] := by intros; rfl)
    (hdb : (x == ("__debug__" : Str)) = false := by decide) : QE X g (.Call (.Name x pn) [.Lambda params body scope lpos] [] pos) (rAskCall qs p) := by
  refine ⟨fun pins s σ H τ vs ρ Φ Ξ tk I S hw => ?_⟩
  refine wpAny_Call_Name_kw (ld_glob I hg Dx.gl ?_ hdb)
  refine PySem.W.callWith_K (h₀ := X.base) I.ok.mod.kin Dx.fn.kp ?_ (by rfl) (by rfl)
  show wpAny _ _ (spliced ((false, eval (.Lambda params body scope lpos) X.env) :: backTo pos (starEach [] X.env))) _ _ s
  refine Calls.spliced_cons (lam_mk I TB hcode hm hu hq S.tabs hdef (L.has I.ok) fun f c' pm' ctv H1 s' I1 step T1 hf hfn hfr hco => ?_)
  refine Calls.spliced_nil ⟨I1.kIn, ?_⟩
  have S1 : SR X.K g ρ σ τ vs H1 := S.ext step.keep step.live T1
  obtain ⟨N, rb, sc, n0, va, d1, d2, hD, hp⟩ := Dx.run
  obtain ⟨oc, od, kV, doc, pm, an, cdv, ct, osl, rfl, lk, hcd⟩ := Dx.fn.ex
  have hG : ∀ b, H1 b = none → g.G b := fun b e => S1.gnew b (S1.free e)
  have aR : ArgsR X.K g.G g.S H1 [.s] [.ref f] [.ref f] := ⟨rfl, trivial⟩
  refine thn (Q := fun u s2 => ∃ v H2, L2.Inv X pins σ H2 s2 ∧ L2.RelV v u ∧ ∃ sv σ0, CallR' X.K g.T g.S [] H1 H2 ∧ SVR X.K ⟨g.G, [], g.T, H1, [], g.S⟩ H2 σ0 sv (some v) ∧ sv.isBor = false ∧ (∀ a, ownOf sv (some v) = some a → H1 a = none) ∧ Φ sv ρ) ?_ fun u s2 hx => ?_
  · have rc : codeAny (model X.prog X.w) X.A (.call (.ref gA) ⟨[.ref f], []⟩) (CR (L2.CX X.prog X.w) X.stack X.prog X.w H1 s'
        (fun v H2 => ∃ sv σ0, CallR' X.K g.T g.S [] H1 H2 ∧ SVR X.K ⟨g.G, [], g.T, H1, [], g.S⟩ H2 σ0 sv (some v) ∧ sv.isBor = false ∧ (∀ a, ownOf sv (some v) = some a → H1 a = none) ∧ Φ sv ρ)
        (fun c d H2 => ∃ y, CallR' X.K g.T g.S [] H1 H2 ∧ ExnOk X.K g H2 y c d ∧ Ξ y ρ)) s' := by
      refine run_ofS (N := N) (ps := [a]) (us := [.ref f]) (vs := [.ref f]) (k := k + 1) lk hcd sc hr I1.env0 (by
        have z := Dx.bd s' [.ref f] I1.kIn rfl
        rw [List.append_nil] at z
        exact z) (.cons rfl .nil) rfl fun hr' => ?_
      have act := fun pn xe p1 p2 => q_act (pn := pn) (xe := xe) (p1 := p1) (p2 := p2) (g0 := g) (gc := ⟨g.G, mOf [.s] [.ref f], g.T, H1, [], g.S⟩) (ρ0 := ρ) (p := p) (Ng := N) (qg := x) (sg := defScope st) (gA := gA) (cdg := cdv) (i := 0) (a := a) (k := k)
        (Eg := fun c d H2 => ∃ y, CallR' X.K g.T g.S [] H1 H2 ∧ ExnOk X.K g H2 y c d ∧ Ξ y ρ) I1 L hf hfn hfr hco (hbind _ _ _ _ _) hr' (fun A outer s2 H2 E gl e hr2 => hbody A outer s2 H2 E f c' gl e hr2) S1 rfl rfl rfl rfl rfl n0 va d1 d2
      have B := hD X.A X.stack s' H1 (fun c d H2 => ∃ y, CallR' X.K g.T g.S [] H1 H2 ∧ ExnOk X.K g H2 y c d ∧ Ξ y ρ) ⟨g.G, mOf [.s] [.ref f], g.T, H1, [], g.S⟩ f (askOf p ρ) hr' rfl act
      have S0 := sr_start (X := cxOf (L2.CX X.prog X.w) X.prog X.w X.K X.mg X.base N x (defScope st) gA cdv X.A X.stack s' H1 (fun c d H2 => ∃ y, CallR' X.K g.T g.S [] H1 H2 ∧ ExnOk X.K g H2 y c d ∧ Ξ y ρ)) (n := N.length - 1) aR .nil hG (fun b e => S1.snew b (S1.free e)) T1
      refine ⟨_, B.pss (Ξ := (endsF [.s] [.ref f] (fun r => Φ r ρ) (fun e => Ξ e ρ)).ex) ?_, ?_⟩
      · refine Takes.imp (takes_of rfl rfl rfl rfl) fun c d σ' H' hx => ?_
        obtain ⟨y, ρ', τ', vs', S', ok, hF, hk⟩ := hx
        exact ⟨y, callR_of (ms := [.s]) (ds := [.ref f]) S' hk, ok, hF⟩
      · have e : L2.start N [V.ref f] = [V.ref f].map some ++ List.replicate (N.length - 1) none := rfl
        rw [e]
        exact body_end (X := cxOf (L2.CX X.prog X.w) X.prog X.w X.K X.mg X.base N x (defScope st) gA cdv X.A X.stack s' H1 (fun c d H2 => ∃ y, CallR' X.K g.T g.S [] H1 H2 ∧ ExnOk X.K g H2 y c d ∧ Ξ y ρ)) (ms := [.s]) (ds := [.ref f]) (Q := fun v H2 => ∃ sv σ0, CallR' X.K g.T g.S [] H1 H2 ∧ SVR X.K ⟨g.G, [], g.T, H1, [], g.S⟩ H2 σ0 sv (some v) ∧ sv.isBor = false ∧ (∀ a, ownOf sv (some v) = some a → H1 a = none) ∧ Φ sv ρ) S0 (hp f (askOf p ρ) (fun r => Φ r ρ) (fun e => Ξ e ρ) hw) fun sv v H' σ' c s b o r => ⟨sv, σ', c, s, b, o, r⟩
    refine wpAny_call (codeAny_mono rc fun r s2 hq => ?_)
    cases r with
    | error e =>
      refine tk _ _ (XE.of_call I1 (fun c d H' q => ?_) hq)
      obtain ⟨y, c2, ok, hΞ⟩ := q
      exact ⟨y, ρ, τ, vs, S1.ext (fun b o e n => c2.keep.keep b o e (fun z => nomatch z) n) c2.keep.live c2.tabs, ok, hΞ⟩
    | ok fl =>
      cases fl with
      | ret u =>
        obtain ⟨v, H2, I2, rv, z⟩ := I1.after hq
        exact ⟨v, H2, I2, rv, z⟩
      | next => exact False.elim hq
      | brk => exact False.elim hq
      | cont => exact False.elim hq
  · obtain ⟨v, H2, I2, rv, sv, σ0, c2, hs, hb, ho, hΦ⟩ := hx
    have S2 : SR X.K g ρ σ τ vs H2 := S1.ext (fun b o e n => c2.keep.keep b o e (fun z => nomatch z) n) c2.keep.live c2.tabs
    refine ⟨v, H2, sv, ρ, I2, rv, S2.push (svr_g rfl rfl hb hs) fun a e => ?_, hΦ⟩
    have hn := ho a e
    refine ⟨.inl (S1.free hn), fun q hq z => ?_⟩
    obtain ⟨_, u, hu, mu, _⟩ := svr_own (S1.all q hq) z
    rw [hn] at hu
    cases hu
end
end Q

namespace Q
open PySem PySem.Spec PyProof.Rows L2 He
/-! ### the errors' classes, by names -/
def ecn : EC → Str
  | .bv => "BadValue" | .un => "Unknown" | .tk => "Taken" | .cl => "Clash" | .lk => "Lacking" | .uf => "Unfit" | .bt => "BadText" | .rm => "RoomError" | .ve => "ValueError"
def ecl : List EC := [.bv, .un, .tk, .cl, .lk, .uf, .bt]
theorem ecl_own {e : EC} (h : e.own = true) : e ∈ ecl := by
  cases e <;> first | exact (by decide) | cases h
def eaOf (K : PySem.W.Frag) (e : EC) : Addr := ga K (ecn e)
def errKB (K : PySem.W.Frag) (C : Addr) : Bool :=
  (PySem.W.clsIn K C).isSome && (eqO (PySem.W.findIn K (.ref C) "__getattribute__") (some (some (.builtin "BaseException.__getattribute__"))) && (eqO (PySem.W.findIn K (.ref C) "__getattr__") (some none) && (decide (PySem.W.subIn K (.ref C) (.type "BaseException") = some true) &&
  (PySem.W.hasDictIn K C && (eqO (PySem.W.findIn K (.ref C) "__class__") (some (some (.builtin "object.__class__"))) && (eqO (PySem.W.specialIn K (.builtin "object.__class__") "__get__") (some (some (.builtin "getset_descriptor.__get__"))) && (decide (PySem.W.takesIn K (.builtin "object.__class__") = some true) && decide (PySem.W.mroIn K C (.type "object") = some true))))))))
theorem errKB_ok {K : PySem.W.Frag} {C : Addr} (h : errKB K C = true) : ErrK K C := by
  obtain ⟨h1, h⟩ := ba h
  obtain ⟨h2, h⟩ := ba h
  obtain ⟨h3, h⟩ := ba h
  obtain ⟨h4, h⟩ := ba h
  obtain ⟨h5, h⟩ := ba h
  obtain ⟨h6, h⟩ := ba h
  obtain ⟨h7, h⟩ := ba h
  obtain ⟨h8, h9⟩ := ba h
  exact ⟨h1, eqO_ok h2, eqO_ok h3, of_decide_eq_true h4, h5, eqO_ok h6, eqO_ok h7, of_decide_eq_true h8, of_decide_eq_true h9⟩
/-- what a class stands for, as a value -/
def ecv (K : PySem.W.Frag) : EC → Value
  | .ve => .type "ValueError"
  | e => .ref (eaOf K e)
def errsB (fs : List Str) (cs : List EC) (K : PySem.W.Frag) : Bool :=
  (ecl.all fun e => errKB K (eaOf K e) && fs.all fun f => eqO (PySem.W.findIn K (.ref (eaOf K e)) f) (some none)) &&
  (ecl.all fun d => cs.all fun c => decide (PySem.W.kitOne K (.ref (eaOf K d)) (ecv K c) = some (d.sub c)) && decide (PySem.W.exmOne K (.ref (eaOf K d)) (ecv K c) = some (d.sub c)))
structure ErrsF (fs : List Str) (cs : List EC) (K : PySem.W.Frag) : Prop where
  errK : ∀ e : EC, e.own = true → ErrK K (eaOf K e)
  noat : ∀ e : EC, e.own = true → ∀ f ∈ fs, PySem.W.findIn K (.ref (eaOf K e)) f = some none
  kit : ∀ c ∈ cs, ∀ d : EC, d.own = true → PySem.W.kitOne K (.ref (eaOf K d)) (ecv K c) = some (d.sub c)
  exm : ∀ c ∈ cs, ∀ d : EC, d.own = true → PySem.W.exmOne K (.ref (eaOf K d)) (ecv K c) = some (d.sub c)
theorem errsB_ok {fs : List Str} {cs : List EC} {K : PySem.W.Frag} (h : errsB fs cs K = true) : ErrsF fs cs K := by
  obtain ⟨h1, h2⟩ := ba h
  refine ⟨fun e he => errKB_ok (ba (List.all_eq_true.mp h1 e (ecl_own he))).1, fun e he f hf => ?_, fun c hc d hd => ?_, fun c hc d hd => ?_⟩
  · exact eqO_ok (List.all_eq_true.mp (ba (List.all_eq_true.mp h1 e (ecl_own he))).2 f hf)
  · exact of_decide_eq_true (ba (List.all_eq_true.mp (List.all_eq_true.mp h2 d (ecl_own hd)) c hc)).1
  · exact of_decide_eq_true (ba (List.all_eq_true.mp (List.all_eq_true.mp h2 d (ecl_own hd)) c hc)).2
theorem ErrsF.cl {fs : List Str} {cs : List EC} {K : PySem.W.Frag} (F : ErrsF fs cs K) {T : TBs} (hT : T.ea = eaOf K) {c : EC} (h : c ∈ cs) : ∃ v, ClE K T c v (ecv K c) ∧ L2.RelV v (ecv K c) := by
  cases c with
  | ve => exact ⟨.ty "ValueError", ⟨.ty _, fun d hd => by rw [hT]; exact F.kit _ h d hd⟩, rfl⟩
  | _ => exact ⟨.ref (eaOf K _), ⟨.own _, fun d hd => by rw [hT]; exact F.kit _ h d hd⟩, rfl⟩
/-! ### an error's class that is raised, its __init__ -/
def oexB (K : PySem.W.Frag) (C : Addr) : Bool := (match K.lookup C with
  | some ⟨.type t, _, .cls cd, sl⟩ => decide (t = "type") && (match cd.mro, sl.toList with
    | .ref C' :: bm, [_, _, _, _, some (.builtin n), _] => decide (C' = C) && (decide (n = "ValueError.__new__") && (cd.hasDict && (!cd.hasDel && PySem.HandSPX.refsVE bm)))
    | _, _ => false)
  | _ => false) && (eqO (PySem.W.findIn K (.ref C) "__setattr__") (some (some (.builtin "object.__setattr__"))) && (decide (PySem.W.subIn K (.ref C) (.type "BaseException") = some true) && (decide (PySem.W.typeIn K (.ref C) = some (.type "type")) && PySem.W.keepIn K (.ref C))))
theorem oexB_ok {K : PySem.W.Frag} {C : Addr} (h : oexB K C = true) : OexC K C := by
  obtain ⟨h1, h⟩ := ba h
  obtain ⟨h2, h⟩ := ba h
  obtain ⟨h3, h⟩ := ba h
  obtain ⟨h4, h5⟩ := ba h
  refine ⟨?_, eqO_ok h2, of_decide_eq_true h3, of_decide_eq_true h4, h5⟩
  cases q : K.lookup C with
  | none =>
    rw [q] at h1
    cases h1
  | some o =>
    obtain ⟨oc, od, dt, sl⟩ := o
    rw [q] at h1
    cases oc with
    | type t =>
      cases dt with
      | cls cd =>
        obtain ⟨k1, k2⟩ := ba h1
        obtain ⟨nm, bs, mro, ns, qn, hd, sn, sub, ab, col, del⟩ := cd
        obtain ⟨sl⟩ := sl
        cases of_decide_eq_true k1
        dsimp only at k2
        split at k2
        · rename_i C' bm k0 k1' k2' k3 n k5
          obtain ⟨z1, k2⟩ := ba k2
          obtain ⟨z2, k2⟩ := ba k2
          obtain ⟨z3, k2⟩ := ba k2
          obtain ⟨z4, z5⟩ := ba k2
          cases of_decide_eq_true z1
          cases of_decide_eq_true z2
          subst z3
          have z4 : del = false := by cases del <;> first | rfl | cases z4
          subst z4
          exact ⟨nm, qn, ns, bs, bm, sn, sub, ab, col, od, k0, k1', k2', k3, k5, rfl, z5⟩
        · cases k2
      | _ => cases h1
    | _ => cases dt <;> cases h1
abbrev FnC : Type := Option (Str × Str × Arguments × FuncBody × Scope × Addr × List Str × Addr)
def fnC (K : PySem.W.Frag) (p : Str × Option Str) : FnC := match K.lookup (fAd K p) with
  | some ⟨_, _, .func fd, _⟩ => some (fd.name, fd.qualname, fd.params, fd.body, fd.scope, fd.globals, fd.closure.map (·.1), fd.builtins)
  | _ => none
/-- an own error's __init__, a closure over __class__ -/
structure IniD where
  cls : Str
  st : Stmt
def IniD.at_ (d : IniD) : Str × Option Str := (d.cls, some "__init__")
def IniD.qual (d : IniD) : Str := d.cls ++ ".__init__"
def IniD.val (d : IniD) : FnC := some ("__init__", d.qual, defArgs d.st, .stmts (defBody d.st), defScope d.st, mainGlobals, ["__class__"], builtinsNs)
def IniD.ok (file : Str) (K : PySem.W.Frag) (d : IniD) : Bool :=
  (match K.lookup (fAd K d.at_) with
  | some ⟨_, _, .func fd, _⟩ => (match fd.defaults with
    | .none => true
    | _ => false) && (match fd.closure with
    | [(_, cc)] => (match K.lookup cc with
      | some ⟨_, _, .cell (some (.ref C)), _⟩ => decide (C = ga K d.cls)
      | _ => false)
    | _ => false) && ((match fd.code with
    | .ref cda => (match K.lookup cda with
      | some ⟨_, _, .fields vs, _⟩ => (match (vs[2]? : Option Value) with
        | some (.str f _) => f == file
        | _ => false)
      | _ => false)
    | _ => false) && PySem.W.codeIn K fd.code d.qual)
  | _ => false) && (oexB K (ga K d.cls) && (eqO (PySem.W.findIn K (.ref (ga K d.cls)) "__init__") (some (some (.ref (fAd K d.at_)))) && (decide (PySem.W.typeIn K (.ref (fAd K d.at_)) = some (.type "function")) &&
  (decide (PySem.W.mroIn K (ga K d.cls) (.ref (ga K d.cls)) = some true) && (eqO (PySem.W.ks_superIn K (ga K d.cls) (ga K d.cls) "__init__") (some (some (.builtin "ValueError.__init__"))) && (eqO (PySem.W.nsIn K PySem.cStatics "thirdparty.any") (some none) && (decide (PySem.W.subIn K (.ref (ga K d.cls)) (.type "ValueError") = some true) && (PySem.W.clsIn K (ga K d.cls)).isSome)))))))
theorem IniD.facts {P : Program} {K : PySem.W.Frag} {d : IniD} (e : fnC K d.at_ = d.val) (c : d.ok P.main.file K = true) (top : (P.main.scope.names.lookup ("super" : Str)).isSome = false) {sn : Str} (hp : ∃ ar, ((defArgs d.st).posonlyargs ++ (defArgs d.st).args).head? = some ar ∧ ar.arg = sn) :
    PySem.W.findIn K (.ref (ga K d.cls)) "__init__" = some (some (.ref (fAd K d.at_))) ∧ PySem.W.typeIn K (.ref (fAd K d.at_)) = some (.type "function") ∧ OexC K (ga K d.cls) ∧
    ∃ (oc : Value) (od : Option Addr) (osl : Array (Option Value)) (kV doc pm : Value) (an : Option Addr) (cda : Addr) (ct : Value) (cc : Addr),
      K.lookup (fAd K d.at_) = some ⟨oc, od, .func (PySem.W.ksFn "__init__" d.qual (defArgs d.st) (defBody d.st) (defScope d.st) .none kV doc pm an (.ref cda) ct cc), osl⟩ ∧ PySem.W.codeIn K (.ref cda) d.qual = true ∧
      SupC K P (ga K d.cls) (fAd K d.at_) cda cc (PySem.W.ksFn "__init__" d.qual (defArgs d.st) (defBody d.st) (defScope d.st) .none kV doc pm an (.ref cda) ct cc) sn := by
  obtain ⟨c1, c⟩ := ba c
  obtain ⟨c2, c⟩ := ba c
  obtain ⟨c3, c⟩ := ba c
  obtain ⟨c4, c⟩ := ba c
  obtain ⟨c5, c⟩ := ba c
  obtain ⟨c6, c⟩ := ba c
  obtain ⟨c7, c⟩ := ba c
  obtain ⟨c8, c9⟩ := ba c
  refine ⟨eqO_ok c3, of_decide_eq_true c4, oexB_ok c2, ?_⟩
  unfold fnC at e
  cases q : K.lookup (fAd K d.at_) with
  | none =>
    rw [q] at c1
    cases c1
  | some o =>
    obtain ⟨oc, od, dt, osl⟩ := o
    rw [q] at c1 e
    cases dt with
    | func fd =>
      obtain ⟨n1, n2, n3, n4, n5, n6, n7, n8, n9, n10, n11, n12, n13, n14, n15⟩ := fd
      have e2 : (some (n1, n2, n3, n4, n5, n6, n7.map (·.1), n15) : FnC) = some (("__init__" : Str), d.qual, defArgs d.st, FuncBody.stmts (defBody d.st), defScope d.st, mainGlobals, [("__class__" : Str)], builtinsNs) := e
      simp only [Option.some.injEq, Prod.mk.injEq] at e2
      obtain ⟨h1, h2, h3, h4, h5, h6, h7, h8⟩ := e2
      subst h1 h2 h3 h4 h5 h6 h8
      obtain ⟨k1, k2⟩ := ba c1
      obtain ⟨k0, k1⟩ := ba k1
      obtain ⟨k3, k4⟩ := ba k2
      dsimp only at k0 k1 k3 k4
      cases n8 with
      | none =>
        match n7, h7 with
        | [(y, cc)], h7 =>
          have h7 : y = "__class__" := by simpa using h7
          subst h7
          cases n13 with
          | ref cda =>
            have hcell : ∃ cl cld csl, K.lookup cc = some ⟨cl, cld, .cell (some (.ref (ga K d.cls))), csl⟩ := by
              dsimp only at k1
              cases q2 : K.lookup cc with
              | none =>
                rw [q2] at k1
                cases k1
              | some o2 =>
                obtain ⟨oc2, od2, dt2, osl2⟩ := o2
                rw [q2] at k1
                cases dt2 with
                | cell v =>
                  cases v with
                  | none => cases k1
                  | some v =>
                    cases v with
                    | ref C =>
                      cases (of_decide_eq_true k1 : C = ga K d.cls)
                      exact ⟨_, _, _, rfl⟩
                    | _ => cases k1
                | _ => cases k1
            have hcode : ∃ ccl cdd ccs, ∃ vs : Array Value, ∃ file tf, K.lookup cda = some ⟨ccl, cdd, .fields vs, ccs⟩ ∧ vs[2]? = some (.str file tf) ∧ ((P.main.file : Str) == file) = true := by
              dsimp only at k3
              cases q2 : K.lookup cda with
              | none =>
                rw [q2] at k3
                cases k3
              | some o2 =>
                obtain ⟨oc2, od2, dt2, osl2⟩ := o2
                rw [q2] at k3
                cases dt2 with
                | fields vs =>
                  dsimp only at k3
                  cases q3 : vs[2]? with
                  | none =>
                    rw [q3] at k3
                    cases k3
                  | some u =>
                    rw [q3] at k3
                    cases u with
                    | str f tf =>
                      have z : f = P.main.file := eq_of_beq k3
                      exact ⟨_, _, _, vs, f, tf, rfl, q3, by rw [z]; exact beq_self_eq_true _⟩
                    | _ => cases k3
                | _ => cases k3
            exact ⟨oc, od, osl, n9, n10, n11, n12, cda, n14, cc, rfl, k4, ⟨oc, od, osl, q⟩, hp, hcode, hcell, Option.isSome_iff_exists.mp c9, of_decide_eq_true c5, top, eqO_ok c6, eqO_ok c7, of_decide_eq_true c8, oexB_ok c2⟩
          | _ => cases k3
      | _ => cases k0
    | _ => cases c1
/-! ### the head's look -/
/-- what is told at the law's entry -/
structure SaysY (fa : List Fa) (fn : List DefD) (ini : List IniD) (file : Str) (tf : List Defn) (ex : PySem.W.Frag → Bool) (h : Heap) (K : PySem.W.Frag) : Prop where
  d : SaysD fa fn K
  i : ini.map (fun d => fnC K d.at_) = ini.map IniD.val
  io : ∀ d ∈ ini, d.ok file K = true
  more : ex K = true
  hd : ∀ p ∈ tf, PySem.W.codeHdIn K (cT K p).1 (cT K p).2 = true
  out : ∀ p ∈ tf, K.lookup (cT K p).2 = none
  empty : ∀ p ∈ tf, h.get? (cT K p).2 = some { cls := .none, data := .fields #[] }
abbrev AlY : Type := AlD × List FnC × Bool
def obsK (fa : List Fa) (fn : List DefD) (ini : List IniD) (file : Str) (tf : List Defn) (ex : PySem.W.Frag → Bool) (g : Addr → Option Obj) (K : PySem.W.Frag) : AlY := (obsD fa fn K, ini.map (fun d => fnC K d.at_), (ini.all fun d => d.ok file K) && (ex K && tabsB g tf K))
def obsY (n : Nat) (fa : List Fa) (fn : List DefD) (ini : List IniD) (file : Str) (tf : List Defn) (ex : PySem.W.Frag → Bool) (g : Addr → Option Obj) : AlY := obsK fa fn ini file tf ex g (frT g (PySem.cStatics :: asD g n))
def valY (fn : List DefD) (ini : List IniD) : AlY := (valD fn, ini.map IniD.val, true)
theorem saysY_of {n : Nat} {fa : List Fa} {fn : List DefD} {ini : List IniD} {file : Str} {tf : List Defn} {ex : PySem.W.Frag → Bool} {h : Heap} (e : obsY n fa fn ini file tf ex h.get? = valY fn ini) : SaysY fa fn ini file tf ex h (frT h.get? (PySem.cStatics :: asD h.get? n)) := by
  unfold obsY at e
  generalize hK : frT h.get? (PySem.cStatics :: asD h.get? n) = K at e ⊢
  have e1 : obsD fa fn K = valD fn := congrArg (fun z : AlY => z.1) e
  have e2 : ini.map (fun d => fnC K d.at_) = ini.map IniD.val := congrArg (fun z : AlY => z.2.1) e
  have e3 : ((ini.all fun d => d.ok file K) && (ex K && tabsB h.get? tf K)) = true := congrArg (fun z : AlY => z.2.2) e
  obtain ⟨h0, e3⟩ := ba e3
  obtain ⟨h1, h2⟩ := ba e3
  have key : ∀ p ∈ tf, PySem.W.codeHdIn K (cT K p).1 (cT K p).2 = true ∧ ∃ o, h.get? (cT K p).2 = some o ∧ emptyTab o = true := fun p hp => by
    obtain ⟨h3, h4⟩ := ba (List.all_eq_true.mp h2 p hp)
    refine ⟨h3, ?_⟩
    cases q : h.get? (cT K p).2 with
    | none =>
      rw [q] at h4
      cases h4
    | some o =>
      rw [q] at h4
      exact ⟨o, rfl, h4⟩
  refine ⟨e1, e2, List.all_eq_true.mp h0, h1, fun p hp => (key p hp).1, fun p hp => ?_, fun p hp => ?_⟩
  · obtain ⟨_, o, q, z⟩ := key p hp
    have w := frT_none (as := PySem.cStatics :: asD h.get? n) q z
    rw [hK] at w
    exact w
  · obtain ⟨_, o, q, z⟩ := key p hp
    rw [q, emptyTab_eq z]
def hookY (n : Nat) (fa : List Fa) (fn : List DefD) (ini : List IniD) (file : Str) (tf : List Defn) (ex : PySem.W.Frag → Bool) : PySem.W.Hook where
  α := AlY
  obs := fun s => obsY n fa fn ini file tf ex s.heap.get?
  val := fun _ => valY fn ini
  says := fun _ h => ∃ K : PySem.W.Frag, K.In h ∧ SaysY fa fn ini file tf ex h K
  of := fun _ _ e => ⟨_, frT_in, saysY_of e⟩
  keeps := fun _ _ _ ⟨K, hK, c⟩ k => ⟨K, PySem.W.Frag.In.keeps hK k, ⟨c.d, c.i, c.io, c.more, c.hd, c.out, fun p hp => k _ _ (c.empty p hp)⟩⟩
theorem obsY_eq {n : Nat} {fa : List Fa} {fn : List DefD} {ini : List IniD} {file : Str} {tf : List Defn} {ex : PySem.W.Frag → Bool} {g : Addr → Option Obj} {s : Shared} (h : ∀ a, g a = s.heap.get? a) : obsY n fa fn ini file tf ex g = (hookY n fa fn ini file tf ex).obs s := by
  have e : g = s.heap.get? := funext h
  rw [e] <;> rfl
theorem SaysY.ini_ {fa : List Fa} {fn : List DefD} {ini : List IniD} {file : Str} {tf : List Defn} {ex : PySem.W.Frag → Bool} {h : Heap} {K : PySem.W.Frag} (c : SaysY fa fn ini file tf ex h K) {d : IniD} (hd : d ∈ ini) : fnC K d.at_ = d.val := by
  obtain ⟨i, hi, e⟩ := List.mem_iff_getElem.mp hd
  have e2 : (ini.map fun d => fnC K d.at_)[i]? = (ini.map IniD.val)[i]? := by rw [c.i]
  rw [List.getElem?_map, List.getElem?_map, List.getElem?_eq_getElem hi, e] at e2
  exact Option.some.inj e2
/-- a def of the text, without defaults -/
theorem fun_of {K : PySem.W.Frag} {x qual : Str} {st : Stmt} {f : Addr} {fd : FuncData} (F : FunD K x qual (defArgs st) (defBody st) (defScope st) [] [] f fd) : Fun K x qual st f fd := by
  obtain ⟨oc, od, dV, kV, doc, pm, an, cdv, ct, osl, e, lk, hcd, hd, _⟩ := F.ex
  rcases hd with ⟨_, rfl⟩ | ⟨z, _⟩
  · exact ⟨⟨oc, od, kV, doc, pm, an, cdv, ct, osl, e, lk, hcd⟩, F.kp⟩
  · exact absurd rfl z
end Q

namespace Q
open PySem PySem.Spec PyProof.Rows L2
/-! ### what the printed derivations use -/
section
variable {P : Program} {w : World} {K : PySem.W.Frag} {mg : Str → Option Value} {base : Heap} {T T' : TBs}
theorem fnT {k : Nat} {f : Addr} {fd : FuncData} {ps : List Str} {ms : List Mode} {qs : QSpec} (h : T' = T) (F : FnOk P w K mg base (L2.CX P w) k f fd ps (spQ K T ms qs)) : FnOk P w K mg base (L2.CX P w) k f fd ps (spQ K T' ms qs) := by
  rw [h]
  exact F
theorem askT {k : Nat} {x : Str} {st : Stmt} {gA : Addr} {fd : FuncData} {a : Str} {qs : AskP → AskP} (h : T' = T) (F : AskD P w K mg base T k x st gA fd a qs) : AskD P w K mg base T' k x st gA fd a qs := by
  rw [h]
  exact F
theorem eaT {e : EC} {C : Addr} (h : T' = T) (F : T.ea e = C) : T'.ea e = C := by
  rw [h]
  exact F
theorem clT {cx : EC} {v : V} {u : Value} (h : T' = T) (F : ClE K T cx v u) : ClE K T' cx v u := by
  rw [h]
  exact F
theorem clsT {cs : List EC} {vs : List V} {us : List Value} (h : T' = T) (F : ClEs K T cs vs us) : ClEs K T' cs vs us := by
  rw [h]
  exact F
theorem ekT {e : EC} (h : T' = T) (F : ∀ d : EC, d.own = true → ErrK K (T.ea d)) (ho : e.own = true) : ErrK K (T'.ea e) := by
  rw [h]
  exact F e ho
theorem noT {e : EC} {f : Str} (h : T' = T) (F : ∀ d : EC, d.own = true → PySem.W.findIn K (.ref (T.ea d)) f = some none) (ho : e.own = true) : PySem.W.findIn K (.ref (T'.ea e)) f = some none := by
  rw [h]
  exact F e ho
theorem tbT {q : Addr × Str} (h : T' = T) (F : q ∈ T.tb) : q ∈ T'.tb := by
  rw [h]
  exact F
theorem tuT {Pt : Addr} {q : Str} (h : T' = T) (F : ∀ p ∈ T.tb, p.1 = Pt → p.2 = q) : ∀ p ∈ T'.tb, p.1 = Pt → p.2 = q := by
  rw [h]
  exact F
/-- a class of errors, by its name in the module -/
structure EG (K : PySem.W.Frag) (mg : Str → Option Value) (T : TBs) (x : Str) (cx : EC) (v : V) (u : Value) : Prop where
  cl : ClE K T cx v u
  exm : ∀ d : EC, d.own = true → PySem.W.exmOne K (.ref (T.ea d)) u = some (d.sub cx)
  rel : L2.RelV v u
  at_ : mg x = some u ∨ (mg x = none ∧ bootBuiltins x = some u ∧ x ≠ "__name__")
theorem EG.pe {X : Cx} {x : Str} {cx : EC} {v : V} {u : Value} {pos : Pos} (E : EG K X.mg T x cx v u) (hg : Gl X x) (hd : (x == ("__debug__" : Str)) = false := by decide) : PE X (.Name x pos) (tC v) := by
  rcases E.at_ with h | ⟨h1, h2, h3⟩
  · exact pe_glob hg h E.rel hd
  · exact pe_bltn hg h1 h2 E.rel h3 hd
theorem EG.names {X : Cx} {x : Str} {cx : EC} {v : V} {u : Value} (E : EG K X.mg T x cx v u) (hg : Gl X x) (hd : (x == ("__debug__" : Str)) = false := by decide) : Names X x u := ⟨hg, hd, E.at_⟩
theorem EG.exT {x : Str} {cx : EC} {v : V} {u : Value} (h : T' = T) (E : EG K mg T x cx v u) : ∀ d : EC, d.own = true → PySem.W.exmOne K (.ref (T'.ea d)) u = some (d.sub cx) := by
  rw [h]
  exact E.exm
end
end Q

namespace Q
open PySem PySem.Spec PyProof.Rows L2
/-! ### the law's own def: the script may lie anywhere -/
theorem pss_lock {X : Cx} {sts : List Stmt} {t : Obj → TS} {a : Addr} (h : ∀ od, PSs X sts (t od)) : PSs X sts (fun D σ H => ∃ u, H a = some u ∧ Mut (some u) ∧ ∀ od, t od { nx := fun σ' H' => H' a = some (.frz od u) ∧ D.nx σ' (upd H' a u), rt := fun v H' => H' a = some (.frz od u) ∧ D.rt v (upd H' a u), bk := fun σ' H' => H' a = some (.frz od u) ∧ D.bk σ' (upd H' a u), ct := fun σ' H' => H' a = some (.frz od u) ∧ D.ct σ' (upd H' a u) } σ (upd H a (.frz od u))) := ⟨fun pins s σ H D I ⟨u, e, mu, hw⟩ => by
  obtain ⟨od, I1⟩ := I.lock e mu
  have hn := I.nofrz e mu
  refine thn ((h od).run pins s σ _ _ I1 (hw od)) fun f s' z => ?_
  cases f with
  | next => obtain ⟨σ', H', J, e', q⟩ := z; exact ⟨σ', _, J.unlock e' hn, q⟩
  | brk => obtain ⟨σ', H', J, e', q⟩ := z; exact ⟨σ', _, J.unlock e' hn, q⟩
  | cont => obtain ⟨σ', H', J, e', q⟩ := z; exact ⟨σ', _, J.unlock e' hn, q⟩
  | ret u' => obtain ⟨v, σ', H', J, r, e', q⟩ := z; exact ⟨v, σ', _, J.unlock e' hn, r, q⟩⟩
def spL (K : PySem.W.Frag) (T : TBs) (qs : QSpec) : Sp := fun vs H Q _ => ∃ (a : Addr) (ns : List Int), vs = [.ref a] ∧ SqL K H a (ns.map .int) ∧ (∀ p ∈ T.tb, H p.1 = some (.tbl #[])) ∧ qs [.scr ns] (fun sv => sv = .fr true (.bl true)) (fun _ => False) ∧ ∀ H', Q (.bl true) H'
section
variable {P : Program} {w : World} {K : PySem.W.Frag} {mg : Str → Option Value} {base : Heap}
theorem q_fnL {x qual a0 : Str} {st : Stmt} {f : Addr} {fd : FuncData} {N : List Str} {k : Nat} {T : TBs} {qs : QSpec} {p : RS} (F : Fun K x qual st f fd) (S : FnScope N [a0] (defScope st))
    (hbody : ∀ (A : Around) (outer : List Env) (s : Shared) (H : Hp) (E : XK) (g : Gh), Room k (A.deeper (envOfC qual (defScope st) s.heap.objs.size f fd.code)) → g.T = T → QSs0 (cxOf (L2.CX P w) P w K mg base N qual (defScope st) f fd.code A outer s H E) g (defBody st) p)
    (hq : ∀ (ds : List D) (R : SV → Prop) (F : Exn → Prop), qs ds R F → p (endsF [.s] ds R F) (slots0 [.s] ds ++ List.replicate (N.length - 1) .no)) : FnOk P w K mg base (L2.CX P w) (k + 1) f fd [a0] (spL K T qs) := by
  obtain ⟨oc, od, kV, doc, pm, an, cdv, ct, osl, rfl, lk, hcd⟩ := F.ex
  refine fn_of lk hcd S (fun vs H Q E h => ?_) (fun A outer s H vs Q E hr h => ?_)
  · obtain ⟨a, ns, rfl, _⟩ := h
    rfl
  · obtain ⟨a, ns, rfl, hL, ht, hqs, hQ⟩ := h
    have core : ∀ (H1 : Hp) (Q1 : VK), (∀ p ∈ T.tb, H1 p.1 = some (.tbl #[])) → (Fz (fun _ => True) H1 a (.lst (ns.map .int)) ∨ KL K a (ns.map .int)) → (∀ H', (∀ o u, H1 a = some (.frz o u) → H' a = some (.frz o u)) → Q1 (.bl true) H') →
        PSs (cxOf (L2.CX P w) P w K mg base N qual (defScope st) f cdv A outer s H E) (defBody st) (tqs0 (cxOf (L2.CX P w) P w K mg base N qual (defScope st) f cdv A outer s H E) ⟨fun _ => True, mOf [.s] [.scr ns], T, H1, [], fun b => H1 b = none⟩ p (endsF [.s] [.scr ns] (fun sv => sv = .fr true (.bl true)) (fun _ => False)).ex) ∧
        tqs0 (cxOf (L2.CX P w) P w K mg base N qual (defScope st) f cdv A outer s H E) ⟨fun _ => True, mOf [.s] [.scr ns], T, H1, [], fun b => H1 b = none⟩ p (endsF [.s] [.scr ns] (fun sv => sv = .fr true (.bl true)) (fun _ => False)).ex { nx := fun _ H' => Q1 .non H', rt := Q1 } (L2.start N [V.ref a]) H1 := fun H1 Q1 ht1 hF hQ1 => by
      have B := hbody A outer s H E ⟨fun _ => True, mOf [.s] [.scr ns], T, H1, [], fun b => H1 b = none⟩ hr rfl
      have tb : LamX.Tabs T.tb H1 := fun p hp => LamX.TabS.nil (ht1 p hp)
      have S0 := sr_start (X := cxOf (L2.CX P w) P w K mg base N qual (defScope st) f cdv A outer s H E) (G := fun _ => True) (Sx := fun b => H1 b = none) (ms := [.s]) (ds := [.scr ns]) (vs := [.ref a]) (n := N.length - 1) (B := H1) (T := T) ⟨⟨a, rfl, hF⟩, trivial⟩ .nil (fun _ _ => trivial) (fun _ h => h) tb
      have tk : Takes (cxOf (L2.CX P w) P w K mg base N qual (defScope st) f cdv A outer s H E) (WQ (cxOf (L2.CX P w) P w K mg base N qual (defScope st) f cdv A outer s H E) ⟨fun _ => True, mOf [.s] [.scr ns], T, H1, [], fun b => H1 b = none⟩ (endsF [.s] [.scr ns] (fun sv => sv = .fr true (.bl true)) (fun _ => False)).ex) := by
        refine Takes.imp (takes_of rfl rfl rfl rfl) fun c d σ H' hx => ?_
        obtain ⟨x, ρ, τ, vs', S', ok, hf, hk⟩ := hx
        exact hf.elim
      refine ⟨B.pss tk, ?_⟩
      have e : L2.start N [V.ref a] = [V.ref a].map some ++ List.replicate (N.length - 1) none := rfl
      rw [e]
      refine body_end S0 (hq _ _ _ hqs) fun sv v H' σ c hs hb ho hR => ?_
      subst hR
      obtain ⟨u, hu, hv⟩ := hs
      cases hu
      cases hv
      exact hQ1 H' fun o u e => c.keep.keep a _ e (fun z => nomatch z) fun _ z => nomatch z
    rcases hL with (e | ⟨o, e⟩) | hK
    · have hp : ∀ od, _ := fun od : Obj => core (upd H a (.frz od (.lst (ns.map .int)))) (fun v H' => H' a = some (.frz od (.lst (ns.map .int))) ∧ Q v (upd H' a (.lst (ns.map .int)))) (fun p hp => by
        rw [upd_ne fun z => ?_]
        · exact ht p hp
        · rw [← z, ht p hp] at e
          cases e) (.inl ⟨trivial, od, upd_same⟩) fun H' hk => ⟨hk _ _ upd_same, hQ _⟩
      refine ⟨_, pss_lock (a := a) fun od => (hp od).1, _, e, trivial, fun od => ?_⟩
      obtain ⟨ρ, D, he, S', hp', h1, h2, h3, h4⟩ := (hp od).2
      exact ⟨ρ, D, he, S', hp', h1, h2, fun ρ' σ' H' s q => (h3 ρ' σ' H' s q).elim, fun ρ' σ' H' s q => (h4 ρ' σ' H' s q).elim⟩
    · obtain ⟨h1, h2⟩ := core H Q ht (.inl ⟨trivial, o, e⟩) fun H' _ => hQ H'
      exact ⟨_, h1, h2⟩
    · obtain ⟨h1, h2⟩ := core H Q ht (.inr hK) fun H' _ => hQ H'
      exact ⟨_, h1, h2⟩
end
theorem str_app {x y : Str} : (x ++ y).length = x.length + y.length := by
  show (x.cps ++ y.cps).size = _
  rw [Array.size_append]
  rfl
theorem rm_fmt {p q : Str} (hp : p.length ≤ 1000) (hq : q.length ≤ 1000) {σ : L2.St} {y : V} {H : Hp} {Q : VK} (hs : σ[1]? = some (some y)) (hy : okV y) (k : ∀ v, Q v H) : tJs [tC (.str p), tFmt (tVar 1), tC (.str q)] Str.empty σ H fun out H1 => Q (.str out) H1 := by
  have e0 : (Str.empty ++ p).length ≤ 1000 := by rw [str_app]; show 0 + _ ≤ _; omega
  have main : ∀ z : Str, z.length ≤ 1000000 → ∃ y : Str, V.str z = .str y ∧ (Str.empty ++ p ++ y).length ≤ sizeLine ∧ tJs [tC (.str q)] (Str.empty ++ p ++ y) σ H fun out H1 => Q (.str out) H1 := fun z hz => by
    refine ⟨z, rfl, ?_, q, rfl, ?_, k _⟩
    · rw [sizeLine_eq, str_app]; omega
    · rw [sizeLine_eq, str_app, str_app]; omega
  refine ⟨p, rfl, by rw [sizeLine_eq]; omega, y, hs, ?_⟩
  rcases hy with ⟨z, rfl, hz⟩ | ⟨i, rfl, hi⟩
  · exact .inl ⟨z, rfl, by rw [sizeLine_eq]; omega, main z hz⟩
  · have := int_text_len_1921 hi
    exact .inr ⟨i, rfl, hi, main _ (by show (Str.ofString (toString i)).length ≤ _; omega)⟩
/-! ### the closing's small facts -/
section
variable {P : Program} {w : World} {K : PySem.W.Frag} {mg : Str → Option Value} {base : Heap} {T : TBs}
theorem fn_zero {CX : CXT} {f : Addr} {fd : FuncData} {ps : List Str} {sp : Sp} (h : ∀ vs H Q E, ¬ sp vs H Q E) : FnOk P w K mg base CX 0 f fd ps sp :=
  ⟨fun vs H Q E q => (h vs H Q E q).elim, fun _ _ _ H _ _ vs Q E _ _ _ _ q => (h vs H Q E q).elim⟩
theorem eg_own {fs : List Str} {cs : List EC} (X1 : ErrsF fs cs K) (hT : T.ea = eaOf K) {c : EC} (hc : c ∈ cs) (ho : c ≠ .ve) (hm : mg (ecn c) = some (.ref (eaOf K c))) : EG K mg T (ecn c) c (.ref (eaOf K c)) (.ref (eaOf K c)) := by
  have e : ecv K c = .ref (eaOf K c) := by cases c <;> first | rfl | exact absurd rfl ho
  refine ⟨⟨.own _, fun d hd => ?_⟩, fun d hd => ?_, rfl, .inl hm⟩
  · rw [hT, ← e]; exact X1.kit c hc d hd
  · rw [hT, ← e]; exact X1.exm c hc d hd
theorem eg_ve {fs : List Str} {cs : List EC} (X1 : ErrsF fs cs K) (hT : T.ea = eaOf K) (hc : EC.ve ∈ cs) (hm : mg "ValueError" = none) : EG K mg T "ValueError" .ve (.ty "ValueError") (.type "ValueError") := by
  refine ⟨⟨.ty _, fun d hd => ?_⟩, fun d hd => ?_, rfl, .inr ⟨hm, rfl, by decide⟩⟩
  · rw [hT]; exact X1.kit .ve hc d hd
  · rw [hT]; exact X1.exm .ve hc d hd
theorem code_of {p : He.Defn} {x q : Str} {st : Stmt} {fd : FuncData} (F : Fun K x q st (He.fAd K p) fd) : fd.code = .ref (He.cT K p).1 := by
  obtain ⟨oc, od, kV, doc, pm, an, cdv, ct, osl, rfl, lk, hcd⟩ := F.ex
  cases cdv with
  | ref c =>
    show Value.ref c = .ref (He.codeOf K p)
    rw [He.codeOf_eq lk rfl]
  | _ => cases hcd
end
theorem bits_lt {z : Int} (h : Builtin.Int.intBits z ≤ 1048576) : z.natAbs < 2 ^ 1048577 :=
  Nat.lt_of_lt_of_le (PySem.intBits_le_iff.mp h) (Nat.pow_le_pow_right (by decide) (by omega : (1048576 : Nat) ≤ 1048577))
end Q

namespace Q
open PySem
/-! ### tools for readings -/
theorem lc_inv {xs : List D} {ρ0 : PSt} (f : D → D) {S : Nat → D → List D → Bool → PSt → (Nat → List D → Bool → PSt → Prop) → Prop} {K : List D → Bool → PSt → Prop}
    (step : ∀ (i : Nat) (x : D), xs[i]? = some x → ∀ Iv : Nat → List D → Bool → PSt → Prop, Iv (i + 1) ((xs.take i).map f ++ [f x]) true ρ0 → S i x ((xs.take i).map f) true ρ0 Iv) (fin : K (xs.map f) true ρ0) :
    ∃ Iv : Nat → List D → Bool → PSt → Prop, Iv 0 [] true ρ0 ∧ (∀ (i : Nat) x acc ma ρ, xs[i]? = some x → Iv i acc ma ρ → S i x acc ma ρ Iv) ∧ ∀ acc ma ρ, Iv xs.length acc ma ρ → K acc ma ρ := by
  refine ⟨fun i acc ma ρ => acc = (xs.take i).map f ∧ ma = true ∧ ρ = ρ0, ⟨by simp, rfl, rfl⟩, ?_, ?_⟩
  · rintro i x acc ma ρ hx ⟨rfl, rfl, rfl⟩
    refine step i x hx _ ⟨?_, rfl, rfl⟩
    obtain ⟨hi, rfl⟩ := List.getElem?_eq_some_iff.mp hx
    rw [← List.map_singleton (f := f), ← List.map_append, List.take_append_getElem hi]
  · rintro acc ma ρ ⟨rfl, rfl, rfl⟩
    rw [List.take_length]
    exact fin
/-- the parts of a comprehension: each is as told -/
theorem lc_all {xs : List D} {ρ0 : PSt} (P : D → Prop) {S : Nat → D → List D → Bool → PSt → (Nat → List D → Bool → PSt → Prop) → Prop} {K : List D → Bool → PSt → Prop}
    (step : ∀ (i : Nat) (x : D) (acc : List D), xs[i]? = some x → acc.length = i → (∀ d ∈ acc, P d) → ∀ Iv : Nat → List D → Bool → PSt → Prop, (∀ d, P d → Iv (i + 1) (acc ++ [d]) true ρ0) → S i x acc true ρ0 Iv) (fin : ∀ acc : List D, acc.length = xs.length → (∀ d ∈ acc, P d) → K acc true ρ0) :
    ∃ Iv : Nat → List D → Bool → PSt → Prop, Iv 0 [] true ρ0 ∧ (∀ (i : Nat) x acc ma ρ, xs[i]? = some x → Iv i acc ma ρ → S i x acc ma ρ Iv) ∧ ∀ acc ma ρ, Iv xs.length acc ma ρ → K acc ma ρ := by
  refine ⟨fun i acc ma ρ => acc.length = i ∧ (∀ d ∈ acc, P d) ∧ ma = true ∧ ρ = ρ0, ⟨rfl, by simp, rfl, rfl⟩, ?_, ?_⟩
  · rintro i x acc ma ρ hx ⟨h1, h2, rfl, rfl⟩
    refine step i x acc hx h1 h2 _ fun d hd => ⟨by simp [h1], fun e he => ?_, rfl, rfl⟩
    rcases List.mem_append.mp he with z | z
    · exact h2 e z
    · rw [List.mem_singleton.mp z]; exact hd
  · rintro acc ma ρ ⟨h1, h2, rfl, rfl⟩
    exact fin acc h1 h2
/-- a for that changes no slot but its own i (wiped or not), or leaves -/
theorem for_inv {xs : List D} {ρ0 : PSt} (I : Nat → PSt → Prop) {S : Nat → D → PSt → (Nat → PSt → Prop) → Prop} {K : PSt → Prop} (h0 : I 0 ρ0)
    (step : ∀ (i : Nat) (x : D) (ρ : PSt), xs[i]? = some x → I i ρ → S i x ρ I) (fin : ∀ ρ, I xs.length ρ → K ρ) :
    ∃ Iv : Nat → PSt → Prop, Iv 0 ρ0 ∧ (∀ (i : Nat) x ρ, xs[i]? = some x → Iv i ρ → S i x ρ Iv) ∧ ∀ ρ, Iv xs.length ρ → K ρ := ⟨I, h0, step, fin⟩
theorem ints_get {lo : Int} {n i : Nat} {d : D} (h : (intsF lo n)[i]? = some d) : i < n ∧ d = .int (lo + (i : Nat)) := by
  unfold intsF at h
  rw [List.getElem?_map] at h
  cases e : (List.range n)[i]? with
  | none => rw [e] at h; cases h
  | some j =>
    rw [e] at h
    obtain ⟨hi, rfl⟩ := List.getElem?_eq_some_iff.mp e
    rw [List.length_range] at hi
    rw [List.getElem_range] at h
    exact ⟨hi, (Option.some.inj h).symm⟩
theorem ints_len {lo : Int} {n : Nat} : (intsF lo n).length = n := by
  unfold intsF
  rw [List.length_map, List.length_range]
theorem atI_int {xs : List D} {i : Int} (h0 : 0 ≤ i) (h1 : i < xs.length) : ∃ d, L2.atI xs i = some d ∧ d ∈ xs := by
  obtain ⟨j, rfl⟩ := Int.eq_ofNat_of_zero_le h0
  have hj : j < xs.length := by omega
  exact ⟨xs[j], L2.atI_nat (List.getElem?_eq_getElem hj), List.getElem_mem hj⟩
end Q

namespace Z
open PySem Q
def s_law_mix : QSpec := fun ds R _ => ∃ n t : Int, ds = [.int n, .int t] ∧ ∀ r : Int, 0 ≤ r → r < 999983 → R (.fr true (.int r))
def s_law_load : QSpec := fun ds R _ => ∃ a, ds = [.ref a] ∧ R (.fr true .non)
def s_law_take : QSpec := fun ds R _ => ∃ a n, ds = [.ref a, .int n] ∧ n < 10 ^ 200 ∧ ∀ r : Int, 0 ≤ r → (r < n ∨ r = 0) → R (.fr true (.int r))
def s_law_store : QSpec := fun ds R _ => ∃ ns : List Int, ds = [.scr ns] ∧ ns.length ≤ 63 ∧ (∀ n ∈ ns, n.natAbs < 2 ^ 1048577) ∧ ∀ a, R (.sto a)
def s_law_size : QSpec := fun ds R _ => ∃ a n, ds = [.ref a, .int n] ∧ n < 2 ^ 62 ∧ ∀ r : Int, 0 ≤ r → r ≤ max 0 n → R (.fr true (.int r))
def s_law_large : QSpec := fun ds R _ => ∃ a n, ds = [.ref a, .int n] ∧ n < 10 ^ 200 ∧ ∀ r : Int, 0 ≤ r → (r < n ∨ r = 0) → R (.fr true (.int r))
def s_law_between : QSpec := fun ds R _ => ∃ a l h, ds = [.ref a, .int l, .int h] ∧ h - l < 10 ^ 100 ∧ ∀ r : Int, l ≤ r → r ≤ max l h → R (.fr true (.int r))
def s_law_odds : QSpec := fun ds R _ => ∃ a n, ds = [.ref a, .int n] ∧ n < 10 ^ 200 ∧ ∀ b : Bool, R (.fr true (.bl b))
/-- a row to pick from -/
def pickOf (d : D) (R : SV → Prop) : Prop := match d with
  | .lst xs => xs.length ≤ 16777216 ∧ (xs = [] → R (.fr true .non)) ∧ ∀ x ∈ xs, R (.fr true x)
  | .str s => (0 < s.length ∧ s.length ≤ 16777216) ∧ ∀ c ∈ s.cps.toList, R (.fr true (.str ⟨#[c]⟩))
  | _ => False
def s_law_pick : QSpec := fun ds R _ => ∃ a d, ds = [.ref a, d] ∧ pickOf d R
def someOf (d : D) (n : Int) (R : SV → Prop) : Prop := match d with
  | .lst xs => (xs.length ≤ 16777215 ∧ -1000000 ≤ n) ∧ ∀ ys : List D, (∀ y ∈ ys, y ∈ xs) → (ys.length : Int) = max 0 (min n xs.length) → R (.ol true ys)
  | _ => False
def s_law_some : QSpec := fun ds R _ => ∃ a d n, ds = [.ref a, d, .int n] ∧ someOf d n R
def s_law_shuffled : QSpec := fun ds R _ => ∃ a xs, ds = [.ref a, .lst xs] ∧ xs.length ≤ 16777215 ∧ ∀ ys : List D, (∀ y ∈ ys, y ∈ xs) → ys.length = xs.length → R (.ol true ys)
def s_law_chars : QSpec := fun ds R _ => ds = [] ∧ ∀ s : Str, 0 < s.length → s.length ≤ 100 → R (.fr true (.str s))
def s_law_text : QSpec := fun ds R _ => ∃ a n, ds = [.ref a, .int n] ∧ n ≤ 1000 ∧ ∀ s : Str, R (.fr true (.str s))
/-! ### what the values are -/
def pl : Nat → D → Bool
  | 0, _ => false
  | n + 1, d => match d with
    | .non => true
    | .bl _ => true
    | .int _ => true
    | .str _ => true
    | .lst xs => decide (xs.length ≤ 2000) && xs.all (pl n)
    | .tup xs => decide (xs.length ≤ 2000) && xs.all (pl n)
    | .dk kvs => decide (kvs.length ≤ 2000) && (decide (kvs.map (·.1)).Nodup && kvs.all fun kv => pl n kv.2)
    | _ => false
def Pl (d : D) : Prop := ∃ n, pl n d = true
def cnt : D → Bool
  | .int i => decide (0 ≤ i)
  | _ => false
def goodStep (m : Int) : D → Bool
  | .tup [.int a, .int b, .int h] => decide (0 ≤ a) && (decide (0 ≤ b) && (decide (0 ≤ h) && (decide (a < b) && decide (b ≤ m))))
  | _ => false
def manyOk : D → Bool
  | .int i => decide (0 ≤ i) && decide (i ≤ 60)
  | _ => false
def stepsOk (m : D) : D → Bool
  | .lst xs => decide (xs.length ≤ 1000) && (match m with
    | .int i => xs.all (goodStep i)
    | _ => false)
  | _ => false
def chk (m s : D) : Option Str := if manyOk m = true then (if stepsOk m s = true then none else some "steps") else some "many"
def el (xs : List D) (i : Int) : D := (xs[i.toNat]?).getD .non
def kept (xs : List D) (a b h : Int) : Bool := match el xs a, el xs b with
  | .int x, .int y => decide (y ≤ x + h)
  | .int _, _ => false
  | _, _ => true
def keptS (xs : List D) : D → Bool
  | .tup [.int a, .int b, .int h] => kept xs a b h
  | _ => true
def entry (d : D) : Bool := d.isNon || cnt d
def shut (m : Int) (steps : List D) : D → Bool
  | .lst xs => decide ((xs.length : Int) = m + 1) && (xs.all entry && ((match el xs 0 with
    | .int i => decide (i = 0)
    | _ => false) && steps.all (keptS xs)))
  | _ => false
def last (m : Int) (h p : D) : Bool := match p with
  | .lst xs => (match el xs m, h with
    | .int x, .int hh => decide (hh ≤ x)
    | .int _, _ => false
    | _, _ => true)
  | _ => false
def bw (m : Int) (steps : List D) (h p : D) : Bool := shut m steps p && last m h p
def harmOk (h : D) : Bool := h.isNon || cnt h
/-! ### the promises -/
def s_plain_count : QSpec := fun ds R _ => ∃ d, ds = [d] ∧ Pl d ∧ R (.fr true (.bl (cnt d)))
def s_good_step : QSpec := fun ds R _ => ∃ m d, ds = [.int m, d] ∧ Pl d ∧ R (.fr true (.bl (goodStep m d)))
def s_check_graph : QSpec := fun ds R F => ∃ m s, ds = [m, s] ∧ Pl m ∧ Pl s ∧ match chk m s with
  | some nm => F ⟨.bv, [("argument", .str nm)]⟩
  | none => R (.fr true .non)
def s_step_kept : QSpec := fun ds R _ => ∃ xs a b h, ds = [.lst xs, .tup [.int a, .int b, .int h]] ∧ (0 ≤ a ∧ a < xs.length) ∧ (0 ≤ b ∧ b < xs.length) ∧ xs.all entry = true ∧ R (.fr true (.bl (kept xs a b h)))
def s_bars_way : QSpec := fun ds R F => ∃ m s h p, ds = [m, s, h, p] ∧ Pl m ∧ Pl s ∧ Pl h ∧ Pl p ∧ match chk m s with
  | some nm => F ⟨.bv, [("argument", .str nm)]⟩
  | none => if harmOk h = true then (match m, s with
    | .int mm, .lst ss => R (.fr true (.bl (bw mm ss h p)))
    | _, _ => False) else F ⟨.bv, [("argument", .str "harm")]⟩
def s_law_atom : QSpec := fun ds R _ => ∃ a, ds = [.ref a] ∧ ∀ d, pl 1 d = true → R (.fr true d)
def okSV (n : Nat) (sv : SV) : Prop := (∃ d, sv = .fr true d ∧ pl n d = true) ∨ (∃ xs, sv = .ol true xs ∧ pl n (.lst xs) = true) ∨ ∃ kvs, sv = .od true kvs ∧ pl n (.dk kvs) = true
def s_law_value : QSpec := fun ds R _ => ∃ a, ds = [.ref a] ∧ ∀ sv, okSV 10 sv → R sv
def s_law_is_int : QSpec := fun ds R _ => ∃ d, ds = [d] ∧ Pl d ∧ R (.fr true (.bl (match d with
  | .int _ => true
  | _ => false)))
def sI_law_same (n : Nat) : QSpec := fun ds R _ => ∃ d, ds = [d, d] ∧ pl n d = true ∧ R (.fr true (.bl true))
def ownSV : D → SV
  | .lst xs => .ol true xs
  | .dk kvs => .od true kvs
  | d => .fr true d
def sI_law_copy (n : Nat) : QSpec := fun ds R _ => ∃ d, ds = [d] ∧ pl n d = true ∧ R (ownSV d)
def s_law_same : QSpec := sI_law_same 20
def s_law_copy : QSpec := sI_law_copy 20
def goodS (m : Int) (xs : List D) : Prop := ∀ d ∈ xs, goodStep m d = true
def s_law_steps : QSpec := fun ds R _ => ∃ a m, ds = [.ref a, .int m] ∧ (0 ≤ m ∧ m ≤ 60) ∧ ∀ xs : List D, xs.length ≤ 62 → goodS m xs → R (.ol true xs)
def s_law_many_steps : QSpec := fun ds R _ => ∃ a m, ds = [.ref a, .int m] ∧ (0 ≤ m ∧ m ≤ 60) ∧ ∀ xs : List D, xs.length ≤ 840 → goodS m xs → R (.ol true xs)
def pap (m : Int) (xs : List D) : Prop := (xs.length : Int) = m + 1 ∧ ∀ d ∈ xs, entry d = true
def s_law_least_harms : QSpec := fun ds R _ => ∃ m ss, ds = [.int m, .lst ss] ∧ (0 ≤ m ∧ m ≤ 60) ∧ goodS m ss ∧ ∀ xs : List D, pap m xs → R (.ol true xs)
def s_law_closed : QSpec := fun ds R _ => ∃ m ss p, ds = [.int m, .lst ss, p] ∧ 0 ≤ m ∧ goodS m ss ∧ Pl p ∧ R (.fr true (.bl (shut m ss p)))
def s_law_due : QSpec := fun ds R _ => ∃ m ss p h, ds = [.int m, .lst ss, p, h] ∧ 0 ≤ m ∧ goodS m ss ∧ Pl p ∧ harmOk h = true ∧ R (.fr true (.bl (bw m ss h p)))
def s_law_bent : QSpec := fun ds R _ => ∃ a m xs, ds = [.ref a, .lst xs] ∧ pap m xs ∧ (0 ≤ m ∧ m ≤ 60) ∧ ∀ ys : List D, pap m ys → R (.ol true ys)
def s_law_broken : QSpec := fun ds R _ => ∃ a m xs, ds = [.ref a, .lst xs] ∧ pap m xs ∧ (0 ≤ m ∧ m ≤ 60) ∧ ∀ sv, okSV 12 sv → R sv
def s_law_next_step : QSpec := fun ds R _ => ∃ a m p, ds = [.ref a, .int m, p] ∧ (1 ≤ m ∧ m ≤ 60) ∧ Pl p ∧ ∀ d, goodStep m d = true → R (.fr true d)
def s_law_bad_name : AskP → AskP := fun ask R _ => ∃ nm : Str, (∀ (k : SV → Prop) (x : Exn → Prop), x ⟨.bv, [("argument", .str nm)]⟩ → ask k x) ∧ R (.fr true (.tup [.str "BadValue", .str nm]))
def s_law_refused : QSpec := fun ds R _ => ∃ a m ss h p, ds = [.ref a, .int m, .lst ss, h, p] ∧ (0 ≤ m ∧ m ≤ 60) ∧ goodS m ss ∧ ss.length ≤ 960 ∧ harmOk h = true ∧ pl 15 p = true ∧ R (.fr true (.bl true))
def s_law_asked : QSpec := fun ds R _ => ∃ m ss hs p, ds = [.int m, .lst ss, .lst ss, .lst hs, p] ∧ (0 ≤ m ∧ m ≤ 60) ∧ goodS m ss ∧ ss.length ≤ 960 ∧ (∀ h ∈ hs, harmOk h = true) ∧ hs.length ≤ 1000 ∧ pl 15 p = true ∧ R (.fr true (.bl true))
def s_law : QSpec := fun ds R _ => ∃ ns : List Int, ds = [.scr ns] ∧ ns.length ≤ 63 ∧ (∀ n ∈ ns, n.natAbs < 2 ^ 1048577) ∧ R (.fr true (.bl true))
end Z
namespace Z
open PySem Q
def rd_plain_count  : RS := (rRet (rAndV (rB1 (oIsa .int) (rName 0)) (rAndV (rNotV (rB1 (oIsa .bool) (rName 0))) (rOp2 oGe (rName 0) (rC (.int 0))))))
def rt_good_step_1  : RS := (rRet (rChain oLt oLe (rOp2 oIx (rName 1) (rC (.int 0))) (rOp2 oIx (rName 1) (rC (.int 1))) (rName 0)))
def rt_good_step_2  : RS := (rSeq (rIf (rNot (rB (rB1 oAll (rLc [2] (riT (rName 1)) (gN 2) rYes (rCall [.s] s_plain_count [] (rCons (rName 2) rNil)))))) (rRet (rC (.bl false))) rNext) (rt_good_step_1 ))
def rd_good_step  : RS := (rSeq (rIf (rOr (rNot (rB (rB1 (oIsa .tuple) (rName 1)))) (rB (rOp2 (oEq true) (rB1 oLen (rName 1)) (rC (.int 3))))) (rRet (rC (.bl false))) rNext) (rt_good_step_2 ))
def rt_check_graph_1  : RS := (rIf (rNot (rB (rB1 oAll (rLc [2] (riL (rName 1)) (gN 2) rYes (rCall [.s, .s] s_good_step [] (rCons (rName 0) (rCons (rName 2) rNil))))))) (rRaise1 .bv "argument" D.fits (rC (.str "steps"))) rNext)
def rt_check_graph_2  : RS := (rSeq (rIf (rOr (rNot (rB (rB1 (oIsa .list) (rName 1)))) (rB (rOp2 oGt (rB1 oLen (rName 1)) (rC (.int 1000))))) (rRaise1 .bv "argument" D.fits (rC (.str "steps"))) rNext) (rt_check_graph_1 ))
def rd_check_graph  : RS := (rSeq (rIf (rOr (rNot (rB (rCall [.s] s_plain_count [] (rCons (rName 0) rNil)))) (rB (rOp2 oGt (rName 0) (rC (.int 60))))) (rRaise1 .bv "argument" D.fits (rC (.str "many"))) rNext) (rt_check_graph_2 ))
def rt_step_kept_1  : RS := (rRet (rAndV (rOp2 (oIs true) (rOp2 oIx (rName 0) (rName 3)) (rC .non)) (rOp2 oLe (rOp2 oIx (rName 0) (rName 3)) (rOp2 oAdd (rOp2 oIx (rName 0) (rName 2)) (rName 4)))))
def rt_step_kept_2  : RS := (rSeq (rIf (rB (rOp2 (oIs false) (rOp2 oIx (rName 0) (rName 2)) (rC .non))) (rRet (rC (.bl true))) rNext) (rt_step_kept_1 ))
def rd_step_kept  : RS := (rSeq (rAsg (rName 1) (gT [(gN 2), (gN 3), (gN 4)])) (rt_step_kept_2 ))
def rt_bars_way_1  : RS := (rRet (rAndV (rOp2 (oIs true) (rName 2) (rC .non)) (rOp2 oGe (rOp2 oIx (rName 3) (rName 0)) (rName 2))))
def rt_bars_way_2  : RS := (rSeq (rIf (rB (rOp2 (oIs false) (rOp2 oIx (rName 3) (rName 0)) (rC .non))) (rRet (rC (.bl true))) rNext) (rt_bars_way_1 ))
def rt_bars_way_3  : RS := (rSeq (rIf (rNot (rB (rB1 oAll (rLc [5] (riL (rName 1)) (gN 5) rYes (rCall [.s, .s] s_step_kept [] (rCons (rName 3) (rCons (rName 5) rNil))))))) (rRet (rC (.bl false))) rNext) (rt_bars_way_2 ))
def rt_bars_way_4  : RS := (rSeq (rIf (rOr (rB (rOp2 (oIs false) (rOp2 oIx (rName 3) (rC (.int 0))) (rC .non))) (rB (rOp2 (oEq true) (rOp2 oIx (rName 3) (rC (.int 0))) (rC (.int 0))))) (rRet (rC (.bl false))) rNext) (rt_bars_way_3 ))
def rt_bars_way_5  : RS := (rSeq (rIf (rNot (rB (rB1 oAll (rLc [4] (riL (rName 3)) (gN 4) rYes (rOrV (rOp2 (oIs false) (rName 4) (rC .non)) (rCall [.s] s_plain_count [] (rCons (rName 4) rNil))))))) (rRet (rC (.bl false))) rNext) (rt_bars_way_4 ))
def rt_bars_way_6  : RS := (rSeq (rIf (rOr (rNot (rB (rB1 (oIsa .list) (rName 3)))) (rB (rOp2 (oEq true) (rB1 oLen (rName 3)) (rOp2 oAdd (rName 0) (rC (.int 1)))))) (rRet (rC (.bl false))) rNext) (rt_bars_way_5 ))
def rt_bars_way_7  : RS := (rSeq (rIf (rAnd (rB (rOp2 (oIs true) (rName 2) (rC .non))) (rNot (rB (rCall [.s] s_plain_count [] (rCons (rName 2) rNil))))) (rRaise1 .bv "argument" D.fits (rC (.str "harm"))) rNext) (rt_bars_way_6 ))
def rd_bars_way  : RS := (rSeq (rDrop (rCall [.s, .s] s_check_graph [] (rCons (rName 0) (rCons (rName 1) rNil)))) (rt_bars_way_7 ))
def rt_law_store_1  : RS := (rRetSto (rDict (rpCons (rC (.str "cells")) (rB1 oList (rName 0)) (rpCons (rC (.str "at")) (rC (.int 0)) (rpCons (rC (.str "now")) (rC (.int 0)) (rpCons (rC (.str "left")) (rC (.int 0)) (rpCons (rC (.str "great")) (rC (.bl false)) (rpCons (rC (.str "seed")) (rName 1) (rpCons (rC (.str "turn")) (rC (.int 0)) rpNil)))))))))
def rt_law_store_2  : RS := (rSeq (rFor (riL (rName 0)) (gN 2) (rSet 1 (rOp2 oMod (rB1 oInt1 (rOp2 oAdd (rOp2 oAdd (rOp2 oRep (rName 1) (rC (.int 31))) (rOp2 oMod (rB1 oInt1 (rName 2)) (rC (.int 1000003)))) (rC (.int 7)))) (rC (.int 1000003))))) (rt_law_store_1 ))
def rd_law_store  : RS := (rSeq (rSet 1 (rC (.int 11))) (rt_law_store_2 ))
def rt_law_load_1  : RS := (rSetIx 0 (rC (.str "left")) (rC (.int 120)))
def rt_law_load_2  : RS := (rSeq (rSetIx 0 (rC (.str "now")) (rOp2 oMod (rName 2) (rOp2 oPow (rOp2 oPow (rC (.int 10)) (rC (.int 60))) (rC (.int 10))))) (rt_law_load_1 ))
def rt_law_load_3  : RS := (rIf (rB (rOp2 oGe (rName 2) (rOp2 oPow (rC (.int 10)) (rC (.int 18))))) (rSeq (rSetIx 0 (rC (.str "great")) (rC (.bl true))) (rt_law_load_2 )) rNext)
def rt_law_load_4  : RS := (rSeq (rSetIx 0 (rC (.str "left")) (rC (.int 2))) (rt_law_load_3 ))
def rt_law_load_5  : RS := (rSeq (rSetIx 0 (rC (.str "now")) (rOp2 oMod (rB1 oInt1 (rOp2 oAdd (rName 2) (rOp2 oRep (rOp2 oDiv (rName 2) (rC (.int 1000003))) (rC (.int 613))))) (rC (.int 1000003)))) (rt_law_load_4 ))
def rt_law_load_6  : RS := (rIf (rB (rOp2 oLt (rName 1) (rB1 oLen (rOp2 oIx (rName 0) (rC (.str "cells")))))) (rSeq (rSet 2 (rB1 oInt1 (rOp2 oIx (rOp2 oIx (rName 0) (rC (.str "cells"))) (rName 1)))) (rt_law_load_5 )) rNext)
def rt_law_load_7  : RS := (rSeq (rSetIx 0 (rC (.str "left")) (rC (.int 1000))) (rt_law_load_6 ))
def rt_law_load_8  : RS := (rSeq (rSetIx 0 (rC (.str "now")) (rOp2 oIx (rName 0) (rC (.str "seed")))) (rt_law_load_7 ))
def rt_law_load_9  : RS := (rSeq (rSetIx 0 (rC (.str "great")) (rC (.bl false))) (rt_law_load_8 ))
def rt_law_load_10  : RS := (rSeq (rSetIx 0 (rC (.str "at")) (rOp2 oAdd (rName 1) (rC (.int 1)))) (rt_law_load_9 ))
def rd_law_load  : RS := (rOpen 0 (rSeq (rSet 1 (rB1 oInt1 (rOp2 oIx (rName 0) (rC (.str "at"))))) (rt_law_load_10 )))
def rt_law_mix_1  : RS := (rRet (rOp2 oMod (rB1 oInt1 (rOp2 oAdd (rOp2 oRep (rOp2 oRep (rOp2 oAdd (rOp2 oMod (rName 2) (rC (.int 1000))) (rC (.int 17))) (rOp2 oAdd (rOp2 oDiv (rName 2) (rC (.int 1000))) (rC (.int 613)))) (rC (.int 29))) (rName 2))) (rC (.int 999983))))
def rd_law_mix  : RS := (rSeq (rSet 2 (rOp2 oMod (rB1 oInt1 (rOp2 oAdd (rOp2 oAdd (rOp2 oRep (rName 0) (rC (.int 7919))) (rOp2 oRep (rName 1) (rC (.int 104729)))) (rC (.int 31)))) (rC (.int 1000003)))) (rt_law_mix_1 ))
def rt_law_take_1  : RS := (rRet (rOp2 oMod (rName 2) (rName 1)))
def rt_law_take_2  : RS := (rSeq (rIf (rB (rOp2 oLt (rName 2) (rName 1))) (rSetIx 0 (rC (.str "left")) (rC (.int 0))) rNext) (rt_law_take_1 ))
def rt_law_take_3  : RS := (rSet 3 (rOp2 oAdd (rOp2 oRep (rName 3) (rC (.int 1000000))) (rCall [.s, .s] s_law_mix [] (rCons (rName 2) (rCons (rOp2 oIx (rName 0) (rC (.str "turn"))) rNil)))))
def rt_law_take_4  : RS := (rRet (rOp2 oMod (rB1 oInt1 (rName 3)) (rName 1)))
def rt_law_take_5  : RS := (rSeq (rFor (riR1 (rCons (rOp2 oAdd (rC (.int 1)) (rOp2 oDiv (rB1 oLen (rB1 oStr1 (rName 1))) (rC (.int 6)))) rNil)) (gN 4) (rSeq (rSetIx 0 (rC (.str "turn")) (rOp2 oAdd (rB1 oInt1 (rOp2 oIx (rName 0) (rC (.str "turn")))) (rC (.int 1)))) (rt_law_take_3 ))) (rt_law_take_4 ))
def rt_law_take_6  : RS := (rSeq (rSet 3 (rC (.int 0))) (rt_law_take_5 ))
def rt_law_take_7  : RS := (rSeq (rIf (rB (rOp2 oIx (rName 0) (rC (.str "great")))) (rSeq (rSetIx 0 (rC (.str "now")) (rOp2 oDiv (rName 2) (rName 1))) (rt_law_take_2 )) rNext) (rt_law_take_6 ))
def rt_law_take_8  : RS := (rSeq (rSet 2 (rB1 oInt1 (rOp2 oIx (rName 0) (rC (.str "now"))))) (rt_law_take_7 ))
def rt_law_take_9  : RS := (rSeq (rSetIx 0 (rC (.str "left")) (rOp2 oSub (rB1 oInt1 (rOp2 oIx (rName 0) (rC (.str "left")))) (rC (.int 1)))) (rt_law_take_8 ))
def rt_law_take_10  : RS := (rSeq (rIf (rB (rOp2 oLt (rB1 oInt1 (rOp2 oIx (rName 0) (rC (.str "left")))) (rC (.int 1)))) (rSeq (rClose 0 (rDrop (rCall [.t] s_law_load [] (rCons (rName 0) rNil)))) (rOpen 0 rNext)) rNext) (rt_law_take_9 ))
def rd_law_take  : RS := (rOpen 0 (rSeq (rIf (rB (rOp2 oLt (rName 1) (rC (.int 2)))) (rRet (rC (.int 0))) rNext) (rt_law_take_10 )))
def rt_law_size_1  : RS := (rRet (rCall [.t, .s] s_law_take [] (rCons (rName 0) (rCons (rOp2 oAdd (rOp2 oMin (rName 1) (rC (.int 4))) (rC (.int 1))) rNil))))
def rt_law_size_2  : RS := (rSeq (rIf (rB (rOp2 (oEq false) (rName 2) (rC (.int 3)))) (rRet (rCall [.t, .s] s_law_take [] (rCons (rName 0) (rCons (rOp2 oAdd (rName 1) (rC (.int 1))) rNil)))) rNext) (rt_law_size_1 ))
def rt_law_size_3  : RS := (rSeq (rIf (rB (rOp2 (oEq false) (rName 2) (rC (.int 2)))) (rRet (rName 1)) rNext) (rt_law_size_2 ))
def rt_law_size_4  : RS := (rSeq (rIf (rB (rOp2 oLt (rName 2) (rC (.int 2)))) (rRet (rOp2 oMin (rName 2) (rName 1))) rNext) (rt_law_size_3 ))
def rt_law_size_5  : RS := (rSeq (rSet 2 (rCall [.t, .s] s_law_take [] (rCons (rName 0) (rCons (rC (.int 12)) rNil)))) (rt_law_size_4 ))
def rd_law_size  : RS := (rSeq (rSet 1 (rOp2 oMax (rC (.int 0)) (rName 1))) (rt_law_size_5 ))
def rt_law_large_1  : RS := (rRet (rCall [.t, .s] s_law_take [] (rCons (rName 0) (rCons (rOp2 oMin (rName 1) (rC (.int 12))) rNil))))
def rt_law_large_2  : RS := (rSeq (rIf (rB (rOp2 (oEq false) (rName 2) (rC (.int 3)))) (rRet (rCall [.t, .s] s_law_take [] (rCons (rName 0) (rCons (rName 1) rNil)))) rNext) (rt_law_large_1 ))
def rt_law_large_3  : RS := (rSeq (rIf (rB (rOp2 (oEq false) (rName 2) (rC (.int 2)))) (rRet (rOp2 oMax (rC (.int 0)) (rOp2 oSub (rName 1) (rC (.int 1))))) rNext) (rt_law_large_2 ))
def rt_law_large_4  : RS := (rSeq (rIf (rB (rOp2 oLt (rName 2) (rC (.int 2)))) (rRet (rOp2 oMax (rC (.int 0)) (rOp2 oMin (rName 2) (rOp2 oSub (rName 1) (rC (.int 1)))))) rNext) (rt_law_large_3 ))
def rd_law_large  : RS := (rSeq (rSet 2 (rCall [.t, .s] s_law_take [] (rCons (rName 0) (rCons (rC (.int 8)) rNil)))) (rt_law_large_4 ))
def rt_law_pick_1  : RS := (rRet (rOp2 oIx (rName 1) (rCall [.t, .s] s_law_take [] (rCons (rName 0) (rCons (rB1 oLen (rName 1)) rNil)))))
def rd_law_pick  : RS := (rSeq (rIf (rB (rOp2 oLt (rB1 oLen (rName 1)) (rC (.int 1)))) (rRet (rC .non)) rNext) (rt_law_pick_1 ))
def rd_law_odds  : RS := (rRet (rOp2 (oEq false) (rCall [.t, .s] s_law_take [] (rCons (rName 0) (rCons (rName 1) rNil))) (rC (.int 0))))
def rt_law_some_1  : RS := (rRet (rName 4))
def rt_law_some_2  : RS := (rSeq (rFor (riR1 (rCons (rOp2 oMin (rName 2) (rB1 oLen (rName 3))) rNil)) (gN 5) (rDrop (rMS2 4 moAppend (rCons (rMS2 3 moPop (rCons (rCall [.t, .s] s_law_take [] (rCons (rName 0) (rCons (rB1 oLen (rName 3)) rNil))) rNil)) rNil)))) (rt_law_some_1 ))
def rt_law_some_3  : RS := (rSeq (rSet 4 (rLst rNil)) (rt_law_some_2 ))
def rd_law_some  : RS := (rSeq (rSet 3 (rB1 oList (rName 1))) (rt_law_some_3 ))
def rt_law_shuffled_1  : RS := (rRet (rCall [.t, .s, .s] s_law_some [] (rCons (rName 0) (rCons (rName 1) (rCons (rB1 oLen (rName 1)) rNil)))))
def rt_law_shuffled_2  : RS := (rSeq (rIf (rB (rOp2 (oEq false) (rName 2) (rC (.int 1)))) (rRet (rLc [3] (riR1 (rCons (rB1 oLen (rName 1)) rNil)) (gN 3) rYes (rOp2 oIx (rName 1) (rOp2 oSub (rOp2 oSub (rB1 oLen (rName 1)) (rC (.int 1))) (rName 3))))) rNext) (rt_law_shuffled_1 ))
def rt_law_shuffled_3  : RS := (rSeq (rIf (rB (rOp2 (oEq false) (rName 2) (rC (.int 0)))) (rRet (rB1 oList (rName 1))) rNext) (rt_law_shuffled_2 ))
def rd_law_shuffled  : RS := (rSeq (rSet 2 (rCall [.t, .s] s_law_take [] (rCons (rName 0) (rCons (rC (.int 4)) rNil)))) (rt_law_shuffled_3 ))
def rd_law_chars  : RS := (rRet (rC (.str " !\"#$&'()*+,-./0123456789:;<=>?@ABCDEFGHIJKLMNOPQRSTUVWXYZ[\\]^_`abcdefghijklmnopqrstuvwxyz{|}~")))
def rt_law_text_1  : RS := (rRet (rS1 oJoin (rC (.str "")) (rLc [3] (riR1 (rCons (rCall [.t, .s] s_law_size [] (rCons (rName 0) (rCons (rName 1) rNil))) rNil)) (gN 3) rYes (rCall [.t, .s] s_law_pick [] (rCons (rName 0) (rCons (rName 2) rNil))))))
def rd_law_text  : RS := (rSeq (rSet 2 (rCall [] s_law_chars [] rNil)) (rt_law_text_1 ))
def rt_law_atom_1  : RS := (rRet (rOp2 oSub (rC (.int 0)) (rCall [.t, .s] s_law_large [] (rCons (rName 0) (rCons (rOp2 oPow (rC (.int 10)) (rC (.int 60))) rNil)))))
def rt_law_atom_2  : RS := (rSeq (rIf (rB (rOp2 (oEq false) (rName 1) (rC (.int 7)))) (rRet (rCall [.t, .s] s_law_large [] (rCons (rName 0) (rCons (rOp2 oPow (rC (.int 10)) (rC (.int 60))) rNil)))) rNext) (rt_law_atom_1 ))
def rt_law_atom_3  : RS := (rSeq (rIf (rB (rOp2 (oEq false) (rName 1) (rC (.int 6)))) (rRet (rCall [.t, .s] s_law_text [] (rCons (rName 0) (rCons (rC (.int 6)) rNil)))) rNext) (rt_law_atom_2 ))
def rt_law_atom_4  : RS := (rSeq (rIf (rB (rOp2 oLt (rName 1) (rC (.int 6)))) (rRet (rOp2 oIx (rLst (rCons (rC .non) (rCons (rC (.bl true)) (rCons (rC (.bl false)) (rCons (rC (.int 0)) (rCons (rC (.int 1)) (rCons (rC (.str "")) rNil))))))) (rName 1))) rNext) (rt_law_atom_3 ))
def rd_law_atom  : RS := (rSeq (rSet 1 (rCall [.t, .s] s_law_take [] (rCons (rName 0) (rCons (rC (.int 9)) rNil)))) (rt_law_atom_4 ))
def rt_law_value_1  : RS := (rIf (rB (rOp2 (oEq false) (rName 3) (rC (.int 0)))) (rSet 1 (rLst (rCons (rName 1) rNil))) (rIf (rB (rOp2 (oEq false) (rName 3) (rC (.int 1)))) (rSet 1 (rTup (rCons (rName 1) rNil))) (rIf (rB (rOp2 (oEq false) (rName 3) (rC (.int 2)))) (rSet 1 (rLst (rCons (rName 4) (rCons (rName 1) rNil)))) (rIf (rB (rOp2 (oEq false) (rName 3) (rC (.int 3)))) (rSet 1 (rTup (rCons (rName 1) (rCons (rName 4) rNil)))) (rIf (rB (rOp2 (oEq false) (rName 3) (rC (.int 4)))) (rSet 1 (rDict (rpCons (rC (.str "a")) (rName 1) (rpCons (rC (.int 1)) (rName 4) rpNil)))) (rIf (rB (rOp2 (oEq false) (rName 3) (rC (.int 5)))) (rSet 1 (rLst rNil)) (rIf (rB (rOp2 (oEq false) (rName 3) (rC (.int 6)))) (rSet 1 (rTup rNil)) (rSet 1 rDict0))))))))
def rt_law_value_2  : RS := (rSeq (rSet 4 (rCall [.t] s_law_atom [] (rCons (rName 0) rNil))) (rt_law_value_1 ))
def rt_law_value_3  : RS := (rRet (rName 1))
def rt_law_value_4  : RS := (rSeq (rFor (riR1 (rCons (rCall [.t, .s] s_law_pick [] (rCons (rName 0) (rCons (rLst (rCons (rC (.int 0)) (rCons (rC (.int 0)) (rCons (rC (.int 0)) (rCons (rC (.int 1)) (rCons (rC (.int 1)) (rCons (rC (.int 2)) (rCons (rC (.int 3)) (rCons (rC (.int 8)) rNil))))))))) rNil))) rNil)) (gN 2) (rSeq (rSet 3 (rCall [.t, .s] s_law_take [] (rCons (rName 0) (rCons (rC (.int 8)) rNil)))) (rt_law_value_2 ))) (rt_law_value_3 ))
def rd_law_value  : RS := (rSeq (rSet 1 (rCall [.t] s_law_atom [] (rCons (rName 0) rNil))) (rt_law_value_4 ))
def rd_law_is_int  : RS := (rRet (rAndV (rB1 (oIsa .int) (rName 0)) (rNotV (rB1 (oIsa .bool) (rName 0)))))
def rt_law_same_1 (s_law_same : QSpec) : RS := (rRet (rC (.bl true)))
def rt_law_same_2 (s_law_same : QSpec) : RS := (rRet (rC (.bl true)))
def rt_law_same_3 (s_law_same : QSpec) : RS := (rSeq (rFor (riR1 (rCons (rB1 oLen (rName 1)) rNil)) (gN 2) (rIf (rNot (rB (rCall [.s, .s] s_law_same [] (rCons (rOp2 oIx (rName 0) (rName 2)) (rCons (rOp2 oIx (rName 1) (rName 2)) rNil))))) (rRet (rC (.bl false))) rNext)) (rt_law_same_2 s_law_same))
def rt_law_same_4 (s_law_same : QSpec) : RS := (rSeq (rIf (rB (rB1 (oIsa .dict) (rName 1))) (rSeq (rFor (riK (rName 1)) (gN 3) (rIf (rOr (rB (rOp2 (oIn true) (rName 3) (rName 0))) (rNot (rB (rCall [.s, .s] s_law_same [] (rCons (rOp2 oIx (rName 0) (rName 3)) (rCons (rOp2 oIx (rName 1) (rName 3)) rNil)))))) (rRet (rC (.bl false))) rNext)) (rt_law_same_1 s_law_same)) rNext) (rt_law_same_3 s_law_same))
def rt_law_same_5 (s_law_same : QSpec) : RS := (rSeq (rIf (rB (rOp2 (oEq true) (rB1 oLen (rName 0)) (rB1 oLen (rName 1)))) (rRet (rC (.bl false))) rNext) (rt_law_same_4 s_law_same))
def rt_law_same_6 (s_law_same : QSpec) : RS := (rSeq (rIf (rB (rB1 (oIsas [.bool, .int, .str]) (rName 1))) (rRet (rOp2 (oEq false) (rName 0) (rName 1))) rNext) (rt_law_same_5 s_law_same))
def rt_law_same_7 (s_law_same : QSpec) : RS := (rSeq (rIf (rOr (rB (rOp2 (oEq true) (rB1 (oIsa .list) (rName 0)) (rB1 (oIsa .list) (rName 1)))) (rB (rOp2 (oEq true) (rB1 (oIsa .tuple) (rName 0)) (rB1 (oIsa .tuple) (rName 1))))) (rRet (rC (.bl false))) rNext) (rt_law_same_6 s_law_same))
def rt_law_same_8 (s_law_same : QSpec) : RS := (rSeq (rIf (rOr (rB (rOp2 (oEq true) (rB1 (oIsa .str) (rName 0)) (rB1 (oIsa .str) (rName 1)))) (rB (rOp2 (oEq true) (rB1 (oIsa .dict) (rName 0)) (rB1 (oIsa .dict) (rName 1))))) (rRet (rC (.bl false))) rNext) (rt_law_same_7 s_law_same))
def rt_law_same_9 (s_law_same : QSpec) : RS := (rSeq (rIf (rOr (rB (rOp2 (oEq true) (rB1 (oIsa .bool) (rName 0)) (rB1 (oIsa .bool) (rName 1)))) (rB (rOp2 (oEq true) (rB1 (oIsa .int) (rName 0)) (rB1 (oIsa .int) (rName 1))))) (rRet (rC (.bl false))) rNext) (rt_law_same_8 s_law_same))
def rd_law_same (s_law_same : QSpec) : RS := (rSeq (rIf (rOr (rB (rOp2 (oIs false) (rName 1) (rC .non))) (rB (rOp2 (oIs false) (rName 0) (rC .non)))) (rRet (rAndV (rOp2 (oIs false) (rName 1) (rC .non)) (rOp2 (oIs false) (rName 0) (rC .non)))) rNext) (rt_law_same_9 s_law_same))
def rt_law_copy_1 (s_law_copy : QSpec) : RS := (rRet (rName 1))
def rt_law_copy_2 (s_law_copy : QSpec) : RS := (rSeq (rFor (riK (rName 0)) (gN 2) (rSetIx 1 (rName 2) (rCall [.s] s_law_copy [] (rCons (rOp2 oIx (rName 0) (rName 2)) rNil)))) (rt_law_copy_1 s_law_copy))
def rt_law_copy_3 (s_law_copy : QSpec) : RS := (rRet (rName 0))
def rt_law_copy_4 (s_law_copy : QSpec) : RS := (rSeq (rIf (rB (rB1 (oIsa .dict) (rName 0))) (rSeq (rSet 1 rDict0) (rt_law_copy_2 s_law_copy)) rNext) (rt_law_copy_3 s_law_copy))
def rt_law_copy_5 (s_law_copy : QSpec) : RS := (rSeq (rIf (rB (rB1 (oIsa .tuple) (rName 0))) (rRet (rB1 oTuple (rLc [3] (riT (rName 0)) (gN 3) rYes (rCall [.s] s_law_copy [] (rCons (rName 3) rNil))))) rNext) (rt_law_copy_4 s_law_copy))
def rd_law_copy (s_law_copy : QSpec) : RS := (rSeq (rIf (rB (rB1 (oIsa .list) (rName 0))) (rRet (rLc [3] (riL (rName 0)) (gN 3) rYes (rCall [.s] s_law_copy [] (rCons (rName 3) rNil)))) rNext) (rt_law_copy_5 s_law_copy))
def rt_law_steps_1  : RS := (rSet 3 (rName 7))
def rt_law_steps_2  : RS := (rSeq (rDrop (rMS2 2 moAppend (rCons (rTup (rCons (rName 3) (rCons (rName 7) (rCons (rCall [.t, .s] s_law_large [] (rCons (rName 0) (rCons (rOp2 oPow (rC (.int 10)) (rC (.int 60))) rNil))) rNil)))) rNil))) (rt_law_steps_1 ))
def rt_law_steps_3  : RS := (rIf (rB (rOp2 oLt (rName 5) (rName 1))) (rDrop (rMS2 2 moAppend (rCons (rTup (rCons (rName 5) (rCons (rOp2 oAdd (rOp2 oAdd (rName 5) (rC (.int 1))) (rCall [.t, .s] s_law_take [] (rCons (rName 0) (rCons (rOp2 oSub (rName 1) (rName 5)) rNil)))) (rCons (rCall [.t, .s] s_law_large [] (rCons (rName 0) (rCons (rOp2 oPow (rC (.int 10)) (rC (.int 60))) rNil))) rNil)))) rNil))) rNext)
def rt_law_steps_4  : RS := (rDrop (rMS2 2 moAppend (rCons (rTup (rCons (rOp2 oIx (rName 6) (rC (.int 0))) (rCons (rOp2 oIx (rName 6) (rC (.int 1))) (rCons (rCall [.t, .s] s_law_large [] (rCons (rName 0) (rCons (rC (.int 12)) rNil))) rNil)))) rNil)))
def rt_law_steps_5  : RS := (rSeq (rDrop (rMS2 2 moAppend (rCons (rName 6) rNil))) (rt_law_steps_4 ))
def rt_law_steps_6  : RS := (rRet (rCall [.t, .s] s_law_shuffled [] (rCons (rName 0) (rCons (rName 2) rNil))))
def rt_law_steps_7  : RS := (rSeq (rIf (rAnd (rB (rOp2 oGt (rB1 oLen (rName 2)) (rC (.int 0)))) (rB (rCall [.t, .s] s_law_odds [] (rCons (rName 0) (rCons (rC (.int 3)) rNil))))) (rSeq (rSet 6 (rLend (rCall [.t, .s] s_law_pick [] (rCons (rName 0) (rCons (rName 2) rNil))))) (rt_law_steps_5 )) rNext) (rt_law_steps_6 ))
def rt_law_steps_8  : RS := (rSeq (rFor (riR1 (rCons (rOp2 oMin (rCall [.t, .s] s_law_size [] (rCons (rName 0) (rCons (rC (.int 60)) rNil))) (rOp2 oSub (rC (.int 60)) (rB1 oLen (rName 2)))) rNil)) (gN 4) (rSeq (rSet 5 (rCall [.t, .s] s_law_take [] (rCons (rName 0) (rCons (rName 1) rNil)))) (rt_law_steps_3 ))) (rt_law_steps_7 ))
def rt_law_steps_9  : RS := (rSeq (rIf (rB (rOp2 oGt (rCall [.t, .s] s_law_take [] (rCons (rName 0) (rCons (rC (.int 5)) rNil))) (rC (.int 0)))) (rFor (riR1 (rCons (rName 1) rNil)) (gN 4) (rIf (rB (rOp2 oLt (rName 3) (rName 1))) (rSeq (rSet 7 (rOp2 oAdd (rOp2 oAdd (rName 3) (rC (.int 1))) (rCall [.t, .s] s_law_take [] (rCons (rName 0) (rCons (rOp2 oMin (rOp2 oSub (rName 1) (rName 3)) (rC (.int 9))) rNil))))) (rt_law_steps_2 )) rNext)) rNext) (rt_law_steps_8 ))
def rt_law_steps_10  : RS := (rSeq (rSet 3 (rC (.int 0))) (rt_law_steps_9 ))
def rd_law_steps  : RS := (rSeq (rSet 2 (rLst rNil)) (rt_law_steps_10 ))
def rt_law_many_steps_1  : RS := (rRet (rName 4))
def rt_law_many_steps_2  : RS := (rSeq (rFor (riR1 (rCons (rName 1) rNil)) (gN 5) (rSet 4 (rOp2 oAdd (rName 4) (rLc [6] (riR2 (rCons (rOp2 oAdd (rName 5) (rC (.int 1))) (rCons (rOp2 oAdd (rOp2 oMin (rName 1) (rOp2 oAdd (rName 5) (rName 2))) (rC (.int 1))) rNil))) (gN 6) rYes (rTup (rCons (rName 5) (rCons (rName 6) (rCons (rOp2 oMod (rB1 oInt1 (rOp2 oAdd (rOp2 oRep (rName 5) (rC (.int 7))) (rOp2 oRep (rName 6) (rName 3)))) (rC (.int 13))) rNil)))))))) (rt_law_many_steps_1 ))
def rt_law_many_steps_3  : RS := (rSeq (rSet 4 (rLst rNil)) (rt_law_many_steps_2 ))
def rt_law_many_steps_4  : RS := (rSeq (rSet 3 (rCall [.t, .s] s_law_take [] (rCons (rName 0) (rCons (rC (.int 13)) rNil)))) (rt_law_many_steps_3 ))
def rd_law_many_steps  : RS := (rSeq (rSet 2 (rOp2 oAdd (rC (.int 4)) (rCall [.t, .s] s_law_take [] (rCons (rName 0) (rCons (rC (.int 13)) rNil))))) (rt_law_many_steps_4 ))
def rt_law_least_harms_1  : RS := (rIf (rOr (rB (rOp2 (oIs false) (rOp2 oIx (rName 2) (rOp2 oIx (rName 4) (rC (.int 1)))) (rC .non))) (rB (rOp2 oGt (rOp2 oIx (rName 2) (rOp2 oIx (rName 4) (rC (.int 1)))) (rName 5)))) (rSetIx 2 (rOp2 oIx (rName 4) (rC (.int 1))) (rName 5)) rNext)
def rt_law_least_harms_2  : RS := (rRet (rName 2))
def rt_law_least_harms_3  : RS := (rSeq (rFor (riR1 (rCons (rName 0) rNil)) (gN 3) (rFor (riL (rName 1)) (gN 4) (rIf (rAnd (rB (rOp2 (oEq false) (rOp2 oIx (rName 4) (rC (.int 0))) (rName 3))) (rB (rOp2 (oIs true) (rOp2 oIx (rName 2) (rName 3)) (rC .non)))) (rSeq (rSet 5 (rOp2 oAdd (rOp2 oIx (rName 2) (rName 3)) (rOp2 oIx (rName 4) (rC (.int 2))))) (rt_law_least_harms_1 )) rNext))) (rt_law_least_harms_2 ))
def rd_law_least_harms  : RS := (rSeq (rSet 2 (rOp2 oAdd (rLst (rCons (rC (.int 0)) rNil)) (rOp2 oRep (rLst (rCons (rC .non) rNil)) (rName 0)))) (rt_law_least_harms_3 ))
def rt_law_closed_1  : RS := (rRet (rC (.bl true)))
def rt_law_closed_2  : RS := (rSeq (rFor (riL (rName 1)) (gN 4) (rIf (rB (rOp2 (oIs true) (rOp2 oIx (rName 2) (rOp2 oIx (rName 4) (rC (.int 0)))) (rC .non))) (rIf (rOr (rB (rOp2 (oIs false) (rOp2 oIx (rName 2) (rOp2 oIx (rName 4) (rC (.int 1)))) (rC .non))) (rB (rOp2 oGt (rOp2 oIx (rName 2) (rOp2 oIx (rName 4) (rC (.int 1)))) (rOp2 oAdd (rOp2 oIx (rName 2) (rOp2 oIx (rName 4) (rC (.int 0)))) (rOp2 oIx (rName 4) (rC (.int 2))))))) (rRet (rC (.bl false))) rNext) rNext)) (rt_law_closed_1 ))
def rt_law_closed_3  : RS := (rSeq (rIf (rB (rOp2 (oEq true) (rOp2 oIx (rName 2) (rC (.int 0))) (rC (.int 0)))) (rRet (rC (.bl false))) rNext) (rt_law_closed_2 ))
def rt_law_closed_4  : RS := (rSeq (rFor (riL (rName 2)) (gN 3) (rIf (rAnd (rB (rOp2 (oIs true) (rName 3) (rC .non))) (rOr (rNot (rB (rCall [.s] s_law_is_int [] (rCons (rName 3) rNil)))) (rB (rOp2 oLt (rName 3) (rC (.int 0)))))) (rRet (rC (.bl false))) rNext)) (rt_law_closed_3 ))
def rd_law_closed  : RS := (rSeq (rIf (rOr (rNot (rB (rB1 (oIsa .list) (rName 2)))) (rB (rOp2 (oEq true) (rB1 oLen (rName 2)) (rOp2 oAdd (rName 0) (rC (.int 1)))))) (rRet (rC (.bl false))) rNext) (rt_law_closed_4 ))
def rt_law_due_1  : RS := (rRet (rAndV (rOp2 (oIs true) (rName 3) (rC .non)) (rOp2 oGe (rOp2 oIx (rName 2) (rName 0)) (rName 3))))
def rt_law_due_2  : RS := (rSeq (rIf (rB (rOp2 (oIs false) (rOp2 oIx (rName 2) (rName 0)) (rC .non))) (rRet (rC (.bl true))) rNext) (rt_law_due_1 ))
def rd_law_due  : RS := (rSeq (rIf (rNot (rB (rCall [.s, .s, .s] s_law_closed [] (rCons (rName 0) (rCons (rName 1) (rCons (rName 2) rNil)))))) (rRet (rC (.bl false))) rNext) (rt_law_due_2 ))
def rt_law_bent_1  : RS := (rRet (rName 2))
def rt_law_bent_2  : RS := (rSeq (rIf (rB (rOp2 (oEq false) (rName 4) (rC (.int 0)))) (rSet 2 (rLc [5] (riL (rName 2)) (gN 5) rYes (rIfE (rB (rOp2 (oIs true) (rName 5) (rC .non))) (rName 5) (rC (.int 0))))) (rIf (rB (rOp2 (oEq false) (rName 4) (rC (.int 1)))) (rSetIx 2 (rName 3) (rC .non)) (rIf (rB (rOp2 (oEq false) (rName 4) (rC (.int 2)))) (rSetIx 2 (rName 3) (rCall [.t, .s] s_law_large [] (rCons (rName 0) (rCons (rOp2 oPow (rC (.int 10)) (rC (.int 59))) rNil)))) (rIf (rB (rOp2 (oEq false) (rName 4) (rC (.int 3)))) (rSet 2 (rOp2 oAdd (rSl (rName 2) roN (roE (rName 3))) (rLc [5] (riL (rSl (rName 2) (roE (rName 3)) roN)) (gN 5) rYes (rIfE (rB (rOp2 (oIs true) (rName 5) (rC .non))) (rC (.int 0)) (rC .non))))) (rIf (rB (rOp2 (oIs true) (rOp2 oIx (rName 2) (rName 3)) (rC .non))) (rSetIx 2 (rName 3) (rOp2 oIx (rLst (rCons (rOp2 oAdd (rOp2 oIx (rName 2) (rName 3)) (rC (.int 1))) (rCons (rOp2 oMax (rC (.int 0)) (rOp2 oSub (rOp2 oIx (rName 2) (rName 3)) (rC (.int 1)))) (rCons (rC (.int 0)) rNil)))) (rOp2 oSub (rName 4) (rC (.int 4))))) rNext))))) (rt_law_bent_1 ))
def rt_law_bent_3  : RS := (rSeq (rSet 4 (rCall [.t, .s] s_law_take [] (rCons (rName 0) (rCons (rC (.int 7)) rNil)))) (rt_law_bent_2 ))
def rt_law_bent_4  : RS := (rSeq (rIf (rB (rCall [.t, .s] s_law_odds [] (rCons (rName 0) (rCons (rC (.int 4)) rNil)))) (rSet 3 (rOp2 oSub (rB1 oLen (rName 2)) (rC (.int 1)))) rNext) (rt_law_bent_3 ))
def rt_law_bent_5  : RS := (rSeq (rSet 3 (rCall [.t, .s] s_law_take [] (rCons (rName 0) (rCons (rB1 oLen (rName 2)) rNil)))) (rt_law_bent_4 ))
def rd_law_bent  : RS := (rSeq (rSet 2 (rB1 oList (rName 1))) (rt_law_bent_5 ))
def rt_law_broken_1  : RS := (rRet (rCall [.t, .s] s_law_pick [] (rCons (rName 0) (rCons (rName 5) rNil))))
def rt_law_broken_2  : RS := (rRet (rOp2 oAdd (rOp2 oAdd (rSl (rName 1) roN (roE (rName 3))) (rLst (rCons (rName 4) rNil))) (rSl (rName 1) (roE (rOp2 oAdd (rName 3) (rC (.int 1)))) roN)))
def rt_law_broken_3  : RS := (rSeq (rSet 4 (rCall [.t, .s] s_law_pick [] (rCons (rName 0) (rCons (rLst (rCons (rB1 oNeg (rC (.int 1))) (rCons (rC (.bl true)) (rCons (rC (.bl false)) (rCons (rC (.str "0")) (rCons (rC (.str "")) (rCons (rLst (rCons (rC (.int 0)) rNil)) (rCons (rTup (rCons (rC (.int 0)) rNil)) (rCons rDict0 (rCons (rOp2 oSub (rC (.int 0)) (rOp2 oPow (rC (.int 10)) (rC (.int 59)))) (rCons (rLst (rCons (rC .non) rNil)) rNil))))))))))) rNil)))) (rt_law_broken_2 ))
def rt_law_broken_4  : RS := (rSeq (rIf (rB (rOp2 (oEq false) (rName 2) (rC (.int 1)))) (rSeq (rSet 5 (rLst (rCons (rB1 oTuple (rName 1)) (rCons (rSl (rName 1) (roE (rC (.int 1))) roN) (rCons (rSl (rName 1) roN (roE (rB1 oNeg (rC (.int 1))))) (rCons (rOp2 oAdd (rName 1) (rLst (rCons (rC .non) rNil))) (rCons (rOp2 oAdd (rName 1) (rLst (rCons (rC (.int 0)) rNil))) (rCons (rOp2 oAdd (rSl (rName 1) roN (roE (rC (.int 1)))) (rName 1)) (rCons (rLst (rCons (rName 1) rNil)) (rCons (rDict (rpCons (rC (.int 0)) (rC (.int 0)) rpNil)) rNil)))))))))) (rt_law_broken_1 )) rNext) (rt_law_broken_3 ))
def rt_law_broken_5  : RS := (rSeq (rIf (rB (rOp2 (oEq false) (rName 2) (rC (.int 0)))) (rRet (rCall [.t] s_law_value [] (rCons (rName 0) rNil))) rNext) (rt_law_broken_4 ))
def rt_law_broken_6  : RS := (rSeq (rSet 3 (rCall [.t, .s] s_law_take [] (rCons (rName 0) (rCons (rB1 oLen (rName 1)) rNil)))) (rt_law_broken_5 ))
def rd_law_broken  : RS := (rSeq (rSet 2 (rCall [.t, .s] s_law_take [] (rCons (rName 0) (rCons (rC (.int 3)) rNil)))) (rt_law_broken_6 ))
def rt_law_next_step_1  : RS := (rIf (rAnd (rB (rOp2 oGt (rCall [.t, .s] s_law_take [] (rCons (rName 0) (rCons (rC (.int 4)) rNil))) (rC (.int 0)))) (rB (rOp2 oGe (rName 6) (rC (.int 0))))) (rSet 5 (rName 6)) rNext)
def rt_law_next_step_2  : RS := (rRet (rTup (rCons (rName 3) (rCons (rName 4) (rCons (rName 5) rNil)))))
def rt_law_next_step_3  : RS := (rSeq (rIf (rAnd (rB (rB1 (oIsa .list) (rName 2))) (rAnd (rB (rOp2 (oEq false) (rB1 oLen (rName 2)) (rOp2 oAdd (rName 1) (rC (.int 1))))) (rAnd (rB (rCall [.s] s_law_is_int [] (rCons (rOp2 oIx (rName 2) (rName 3)) rNil))) (rB (rCall [.s] s_law_is_int [] (rCons (rOp2 oIx (rName 2) (rName 4)) rNil)))))) (rSeq (rSet 6 (rOp2 oSub (rOp2 oSub (rOp2 oIx (rName 2) (rName 4)) (rOp2 oIx (rName 2) (rName 3))) (rCall [.t, .s] s_law_take [] (rCons (rName 0) (rCons (rC (.int 2)) rNil))))) (rt_law_next_step_1 )) rNext) (rt_law_next_step_2 ))
def rt_law_next_step_4  : RS := (rSeq (rSet 5 (rCall [.t, .s] s_law_large [] (rCons (rName 0) (rCons (rC (.int 12)) rNil)))) (rt_law_next_step_3 ))
def rt_law_next_step_5  : RS := (rSeq (rSet 4 (rOp2 oAdd (rOp2 oAdd (rName 3) (rC (.int 1))) (rCall [.t, .s] s_law_take [] (rCons (rName 0) (rCons (rOp2 oSub (rName 1) (rName 3)) rNil))))) (rt_law_next_step_4 ))
def rd_law_next_step  : RS := (rSeq (rSet 3 (rCall [.t, .s] s_law_take [] (rCons (rName 0) (rCons (rName 1) rNil)))) (rt_law_next_step_5 ))
def rd_law_bad_name  (f : Addr) (ask : AskP) : RS := (rSeq (rTryAs .bv 1 (rDrop (rAct f ask 0)) (fun a y => (rSeq (rSet 2 (rLst (rCons (rIsE a y .bt 1) (rCons (rIsE a y .un 1) (rCons (rIsE a y .tk 1) (rCons (rIsE a y .cl 1) rNil)))))) (rSeq (rSet 2 (rOp2 oAdd (rName 2) (rLst (rCons (rIsE a y .lk 1) (rCons (rIsE a y .uf 1) rNil))))) (rIf (rAnd (rB (rOp2 (oIn true) (rC (.bl true)) (rName 2))) (rAnd (rB (rIsE a y .rm 1)) (rB (rIsE a y .ve 1)))) (rRet (rTup (rCons (rC (.str "BadValue")) (rCons (rXf a y "argument" 1) rNil)))) rNext))))) (rRet (rTup (rCons (rC (.str "other")) rNil))))
def rt_law_refused_1  : RS := (rSet 12 (rOp2 oMin (rName 12) (rName 6)))
def rt_law_refused_2  : RS := (rSeq (rSetIx 11 (rName 6) (rCall [.t, .s] s_law_pick [] (rCons (rName 0) (rCons (rOp2 oIx (rName 10) (rName 6)) rNil)))) (rt_law_refused_1 ))
def rt_law_refused_3  : RS := (rRet (rCall [.s, .s] s_law_same [] (rCons (rName 14) (rCons (rTup (rCons (rC (.str "BadValue")) (rCons (rOp2 oIx (rLst (rCons (rC (.str "many")) (rCons (rC (.str "steps")) (rCons (rC (.str "harm")) rNil)))) (rName 12)) rNil))) rNil))))
def rt_law_refused_4  : RS := (rSeq (rSet 14 (rLend (rAskCall s_law_bad_name (rCall [.s, .s, .s, .s] s_bars_way [] (rCons (rOp2 oIx (rName 11) (rC (.int 0))) (rCons (rOp2 oIx (rName 11) (rC (.int 1))) (rCons (rOp2 oIx (rName 11) (rC (.int 2))) (rCons (rName 4) rNil)))))))) (rt_law_refused_3 ))
def rt_law_refused_5  : RS := (rSeq (rFor (riR1 (rCons (rC (.int 2)) rNil)) (gN 13) (rSeq (rSet 6 (rCall [.t, .s] s_law_take [] (rCons (rName 0) (rCons (rC (.int 3)) rNil)))) (rt_law_refused_2 ))) (rt_law_refused_4 ))
def rt_law_refused_6  : RS := (rSeq (rSet 12 (rC (.int 3))) (rt_law_refused_5 ))
def rt_law_refused_7  : RS := (rSeq (rSet 11 (rLst (rCons (rName 1) (rCons (rName 2) (rCons (rName 3) rNil))))) (rt_law_refused_6 ))
def rt_law_refused_8  : RS := (rSeq (rSet 10 (rLst (rCons (rName 8) (rCons (rName 9) (rCons (rLst (rCons (rB1 oNeg (rC (.int 1))) (rCons (rC (.bl true)) (rCons (rC (.bl false)) (rCons (rC (.str "0")) (rCons (rTup rNil) (rCons (rLst (rCons (rC (.int 0)) rNil)) (rCons rDict0 rNil)))))))) rNil))))) (rt_law_refused_7 ))
def rt_law_refused_9  : RS := (rSeq (rSet 9 (rLst (rCons (rName 7) (rCons (rName 7) (rCons (rName 7) (rCons (rB1 oTuple (rName 2)) (rCons (rC .non) (rCons rDict0 (rCons (rC (.int 1)) (rCons (rOp2 oRep (rLst (rCons (rTup (rCons (rC (.int 0)) (rCons (rOp2 oMin (rName 1) (rC (.int 1))) (rCons (rC (.int 0)) rNil)))) rNil)) (rC (.int 1001))) rNil)))))))))) (rt_law_refused_8 ))
def rt_law_refused_10  : RS := (rSeq (rSet 8 (rLst (rCons (rB1 oNeg (rC (.int 1))) (rCons (rC (.int 61)) (rCons (rC (.bl true)) (rCons (rC (.str "1")) (rCons (rC .non) (rCons (rLst (rCons (rC (.int 1)) rNil)) (rCons (rOp2 oPow (rC (.int 10)) (rC (.int 59))) rNil))))))))) (rt_law_refused_9 ))
def rt_law_refused_11  : RS := (rSeq (rSet 7 (rOp2 oAdd (rOp2 oAdd (rSl (rName 2) roN (roE (rName 6))) (rLst (rCons (rCall [.t, .s] s_law_pick [] (rCons (rName 0) (rCons (rName 5) rNil))) rNil))) (rSl (rName 2) (roE (rName 6)) roN))) (rt_law_refused_10 ))
def rt_law_refused_12  : RS := (rSeq (rSet 6 (rCall [.t, .s] s_law_take [] (rCons (rName 0) (rCons (rOp2 oAdd (rB1 oLen (rName 2)) (rC (.int 1))) rNil)))) (rt_law_refused_11 ))
def rt_law_refused_13  : RS := (rSeq (rSet 5 (rOp2 oAdd (rName 5) (rLst (rCons (rTup (rCons (rC (.int 0)) (rCons (rName 1) (rCons (rC (.bl true)) rNil)))) (rCons (rTup (rCons (rC (.bl false)) (rCons (rName 1) (rCons (rC (.int 0)) rNil)))) (rCons (rTup (rCons (rC (.int 0)) (rCons (rB1 oStr1 (rName 1)) (rCons (rC (.int 0)) rNil)))) (rCons (rTup (rCons (rC (.int 0)) (rCons (rName 1) (rCons (rC (.int 0)) (rCons (rC (.int 0)) rNil))))) (rCons (rTup (rCons (rC (.int 0)) (rCons (rName 1) (rCons (rC .non) rNil)))) (rCons (rC .non) (rCons (rC (.int 0)) rNil)))))))))) (rt_law_refused_12 ))
def rd_law_refused  : RS := (rSeq (rSet 5 (rLst (rCons (rTup (rCons (rC (.int 0)) (rCons (rOp2 oAdd (rName 1) (rC (.int 1))) (rCons (rC (.int 0)) rNil)))) (rCons (rTup (rCons (rName 1) (rCons (rName 1) (rCons (rC (.int 0)) rNil)))) (rCons (rTup (rCons (rName 1) (rCons (rOp2 oSub (rName 1) (rC (.int 1))) (rCons (rC (.int 0)) rNil)))) (rCons (rTup (rCons (rB1 oNeg (rC (.int 1))) (rCons (rC (.int 0)) (rCons (rC (.int 0)) rNil)))) (rCons (rTup (rCons (rC (.int 0)) (rCons (rName 1) (rCons (rB1 oNeg (rC (.int 1))) rNil)))) (rCons (rTup (rCons (rC (.int 0)) (rCons (rName 1) rNil))) (rCons (rLst (rCons (rC (.int 0)) (rCons (rName 1) (rCons (rC (.int 0)) rNil)))) rNil))))))))) (rt_law_refused_13 ))
def rt_law_asked_1  : RS := (rIf (rNot (rB (rCall [.s, .s] s_law_same [] (rCons (rName 6) (rCons (rName 4) rNil))))) (rRet (rC (.bl false))) rNext)
def rt_law_asked_2  : RS := (rSeq (rIf (rNot (rB (rCall [.s, .s] s_law_same [] (rCons (rName 7) (rCons (rOp2 oRep (rLst (rCons (rCall [.s, .s, .s, .s] s_law_due [] (rCons (rName 0) (rCons (rName 1) (rCons (rName 4) (rCons (rName 5) rNil))))) rNil)) (rC (.int 2))) rNil))))) (rRet (rC (.bl false))) rNext) (rt_law_asked_1 ))
def rt_law_asked_3  : RS := (rSeq (rSet 7 (rLst (rCons (rCall [.s, .s, .s, .s] s_bars_way [] (rCons (rName 0) (rCons (rName 2) (rCons (rName 5) (rCons (rName 6) rNil))))) (rCons (rCallK [.s, .s, .s, .s] s_bars_way 0 [3, 2, 1, 0] rNil (rCons (rName 6) (rCons (rName 5) (rCons (rName 2) (rCons (rName 0) rNil))))) rNil)))) (rt_law_asked_2 ))
def rt_law_asked_4  : RS := (rRet (rCall [.s, .s] s_law_same [] (rCons (rName 2) (rCons (rName 1) rNil))))
def rd_law_asked  : RS := (rSeq (rFor (riL (rName 3)) (gN 5) (rSeq (rSet 6 (rCall [.s] s_law_copy [] (rCons (rName 4) rNil))) (rt_law_asked_3 ))) (rt_law_asked_4 ))
def rt_law_1  : RS := (rIf (rNot (rB (rLend (rCall [.s, .s, .s, .s, .s] s_law_asked [] (rCons (rName 2) (rCons (rName 4) (rCons (rName 5) (rCons (rName 10) (rCons (rName 6) rNil))))))))) (rRet (rC (.bl false))) rNext)
def rt_law_2  : RS := (rSeq (rSet 4 (rOp2 oAdd (rName 4) (rLst (rCons (rName 11) rNil)))) (rt_law_1 ))
def rt_law_3  : RS := (rSeq (rDrop (rMS2 5 moAppend (rCons (rName 11) rNil))) (rt_law_2 ))
def rt_law_4  : RS := (rRet (rCall [.t, .s, .s, .s, .s] s_law_refused [] (rCons (rName 1) (rCons (rName 2) (rCons (rName 4) (rCons (rOp2 oIx (rName 10) (rC (.int 1))) (rCons (rCall [.s] s_law_copy [] (rCons (rName 6) rNil)) rNil)))))))
def rt_law_5  : RS := (rSeq (rIf (rB (rOp2 oGt (rName 2) (rC (.int 0)))) (rSeq (rSet 11 (rCall [.t, .s, .s] s_law_next_step [] (rCons (rName 1) (rCons (rName 2) (rCons (rName 6) rNil))))) (rt_law_3 )) rNext) (rt_law_4 ))
def rt_law_6  : RS := (rSeq (rIf (rNot (rB (rLend (rCall [.s, .s, .s, .s, .s] s_law_asked [] (rCons (rName 2) (rCons (rName 4) (rCons (rName 5) (rCons (rName 10) (rCons (rName 6) rNil))))))))) (rRet (rC (.bl false))) rNext) (rt_law_5 ))
def rt_law_7  : RS := (rSeq (rSet 10 (rOp2 oAdd (rOp2 oAdd (rLst (rCons (rC .non) rNil)) (rCall [.t, .s, .s] s_law_some [] (rCons (rName 1) (rCons (rName 9) (rCons (rC (.int 2)) rNil))))) (rLst (rCons (rC .non) rNil)))) (rt_law_6 ))
def rt_law_8  : RS := (rSeq (rSet 9 (rLst (rCons (rC (.int 0)) (rCons (rName 7) (rCons (rName 7) (rCons (rOp2 oAdd (rName 7) (rC (.int 1))) (rCons (rOp2 oMax (rC (.int 0)) (rOp2 oSub (rName 7) (rC (.int 1)))) (rCons (rOp2 oPow (rC (.int 10)) (rC (.int 59))) rNil)))))))) (rt_law_7 ))
def rt_law_9  : RS := (rSeq (rIf (rB (rCall [.t, .s] s_law_odds [] (rCons (rName 1) (rCons (rC (.int 3)) rNil)))) (rSet 6 (rCall [.t, .s] s_law_broken [] (rCons (rName 1) (rCons (rName 6) rNil)))) rNext) (rt_law_8 ))
def rt_law_10  : RS := (rSeq (rFor (riR1 (rCons (rCall [.t, .s] s_law_take [] (rCons (rName 1) (rCons (rC (.int 3)) rNil))) rNil)) (gN 8) (rSet 6 (rCall [.t, .s] s_law_bent [] (rCons (rName 1) (rCons (rName 6) rNil))))) (rt_law_9 ))
def rt_law_11  : RS := (rSeq (rIf (rB (rOp2 (oIs true) (rOp2 oIx (rName 6) (rName 2)) (rC .non))) (rSet 7 (rOp2 oIx (rName 6) (rName 2))) rNext) (rt_law_10 ))
def rt_law_12  : RS := (rSeq (rSet 7 (rC (.int 0))) (rt_law_11 ))
def rt_law_13  : RS := (rSeq (rSet 6 (rCall [.s, .s] s_law_least_harms [] (rCons (rName 2) (rCons (rName 4) rNil)))) (rt_law_12 ))
def rt_law_14  : RS := (rSeq (rSet 5 (rB1 oList (rName 4))) (rt_law_13 ))
def rt_law_15  : RS := (rSeq (rIf (rB (rName 3)) (rSet 4 (rCall [.t, .s] s_law_shuffled [] (rCons (rName 1) (rCons (rOp2 oAdd (rName 4) (rCall [.t, .s] s_law_many_steps [] (rCons (rName 1) (rCons (rName 2) rNil)))) rNil)))) rNext) (rt_law_14 ))
def rt_law_16  : RS := (rSeq (rSet 4 (rLc [11] (riL (rCall [.t, .s] s_law_steps [] (rCons (rName 1) (rCons (rName 2) rNil)))) (gN 11) rYes (rTup (rCons (rOp2 oIx (rName 11) (rC (.int 0))) (rCons (rOp2 oIx (rName 11) (rC (.int 1))) (rCons (rOp2 oMod (rB1 oInt1 (rOp2 oIx (rName 11) (rC (.int 2)))) (rOp2 oPow (rC (.int 10)) (rC (.int 57)))) rNil)))))) (rt_law_15 ))
def rt_law_17  : RS := (rSeq (rIf (rB (rName 3)) (rSet 2 (rOp2 oAdd (rC (.int 20)) (rCall [.t, .s] s_law_take [] (rCons (rName 1) (rCons (rC (.int 41)) rNil))))) rNext) (rt_law_16 ))
def rt_law_18  : RS := (rSeq (rSet 3 (rCall [.t, .s] s_law_odds [] (rCons (rName 1) (rCons (rC (.int 16)) rNil)))) (rt_law_17 ))
def rt_law_19  : RS := (rSeq (rSet 2 (rCall [.t, .s] s_law_size [] (rCons (rName 1) (rCons (rC (.int 60)) rNil)))) (rt_law_18 ))
def rd_law  : RS := (rSeq (rSet 1 (rCall [.b] s_law_store [] (rCons (rName 0) rNil))) (rt_law_19 ))
end Z
namespace Z
open PySem Q
local macro_rules | `(tactic| walk_at "side") => `(tactic| first | omega | (dsimp only; omega) | exact ⟨rfl, rfl, Nat.le_of_ble_eq_true rfl, Nat.le_of_ble_eq_true rfl⟩ | exact Nat.le_of_ble_eq_true rfl | exact Nat.lt_of_lt_of_le (Nat.lt_of_ble_eq_true rfl) (Nat.le_refl _) | exact trivial | assumption | (dsimp only; split <;> omega) | (apply rfl) | decide +kernel)
local macro_rules | `(tactic| walk_at "hyp") => `(tactic| (intro hb; simp only [Bool.false_xor, Bool.true_xor, Bool.not_eq_true', Bool.not_eq_false', decide_eq_true_eq, decide_eq_false_iff_not, Int.not_lt, Int.not_le, D.eqv, beq_iff_eq, beq_eq_false_iff_ne, ne_eq, Bool.not_true, Bool.not_false, Bool.false_eq_true, Bool.true_eq_false, not_true_eq_false, not_false_eq_true] at hb))
local macro_rules | `(tactic| walk_at "go1") => `(tactic| ((conv => whnf); first
  | refine ifB.T rfl ?_ | refine ifB.F rfl ?_
  | (refine ifB.mk ?_ ?_ <;> walk_at "hyp")
  | refine ⟨_, rfl, ?_⟩ | refine ⟨_, _, rfl, ?_⟩ | refine ⟨_, _, _, rfl, ?_⟩ | refine ⟨_, _, _, _, rfl, ?_⟩ | refine ⟨_, _, _, _, _, rfl, ?_⟩
  | refine ⟨_, _, rfl, rfl, ?_⟩
  | refine And.intro (by walk_at "side") ?_
  | exact trivial | intro))
local macro_rules | `(tactic| walk_at "go") => `(tactic| repeat' walk_at "go1")
local macro_rules | `(tactic| walk_at "w") => `(tactic| conv => whnf)

theorem p_law_mix (ds : List D) (R : SV → Prop) (F : Exn → Prop) (h : s_law_mix ds R F) : rd_law_mix (endsF [.s, .s] ds R F) (slots0 [.s, .s] ds ++ List.replicate 1 .no) := by
  obtain ⟨n, t, rfl, k⟩ := h
  repeat ((conv => whnf); first | refine ⟨.inr (by decide), ?_⟩ | refine ⟨by dsimp only; decide, ?_⟩)
  refine ⟨.inl (by dsimp only; omega), ?_⟩
  repeat ((conv => whnf); first | refine ⟨.inr (by decide), ?_⟩ | refine ⟨by dsimp only; decide, ?_⟩)
  refine ⟨k _ ?_ ?_, trivial, trivial, trivial, trivial⟩
  · exact Int.emod_nonneg _ (by decide)
  · exact Int.emod_lt_of_pos _ (by decide)
theorem log_of {n : Int} (h0 : 0 ≤ n) (h : n < 10 ^ 200) : n.natAbs.log2 < 1900 := by
  by_cases h1 : n.natAbs = 0
  · rw [h1]; decide
  · rw [Nat.log2_lt h1]
    have z : ((10 : Int) ^ 200) ≤ ((2 ^ 1900 : Nat) : Int) := by decide +kernel
    generalize (2 ^ 1900 : Nat) = w at *
    generalize (10 : Int) ^ 200 = v at *
    omega
section
variable {a : Addr} {n : Int} {R : SV → Prop} {F : Exn → Prop} (h2 : 2 ≤ n) (hn : n.natAbs.log2 < 1900) (k : ∀ r : Int, 0 ≤ r → (r < n ∨ r = 0) → R (.fr true (.int r)))
include h2 hn k
theorem take_1 {kvs : List (Ky × D)} (is : isSto kvs) (x : Int) : rt_law_take_1 (endsF [.t, .s] [.ref a, .int n] R F) [.so a kvs, .fr true (.int n), .fr true (.int x), .no, .no] := by
  conv => whnf
  refine ⟨by dsimp only; omega, ?_⟩
  conv => whnf
  exact ⟨k _ (Int.emod_nonneg _ (by omega)) (.inl (Int.emod_lt_of_pos _ (by omega))), trivial, .inr ⟨a, kvs, rfl, rfl, is⟩, trivial, trivial⟩
theorem take_7 (hlen : (toString n : Str).length ≤ 16777216) {kvs : List (Ky × D)} (is : isSto kvs) (x : Int) (h0 : 0 ≤ x) (hx : x.natAbs < 2 ^ 2000) : rt_law_take_7 (endsF [.t, .s] [.ref a, .int n] R F) [.so a kvs, .fr true (.int n), .fr true (.int x), .no, .no] := by
  obtain ⟨ns, pos, now, left, seed, turn, great, rfl, b1, b2, b3, b4, b5, b7, b8⟩ := is
  conv => whnf
  refine ⟨_, _, rfl, rfl, ?_⟩
  conv => whnf
  refine ⟨fun hg => ?_, fun hg => ?_⟩
  · conv => whnf
    refine ⟨⟨(by omega : 0 < n), .inr (by show n.natAbs.log2 < 9000; omega)⟩, ?_⟩
    conv => whnf
    refine ⟨rfl, ?_⟩
    conv => whnf
    refine ⟨rfl, _, rfl, (by decide : 7 < 16777216), ?_⟩
    conv => whnf
    have q0 : 0 ≤ x / n := Int.ediv_nonneg h0 (by omega)
    have q1 : (x / n).natAbs < 2 ^ 2000 := by
      refine Nat.lt_of_le_of_lt ?_ hx
      have : x / n ≤ x := Int.ediv_le_self _ h0
      omega
    refine ⟨fun hc => ?_, fun hc => take_1 (F := F) h2 hn k ⟨ns, pos, x / n, left, seed, turn, great, rfl, b1, b2, b3, q0, q1, b7, b8⟩ x⟩
    conv => whnf
    refine ⟨rfl, ?_⟩
    conv => whnf
    refine ⟨rfl, _, rfl, (by decide : 7 < 16777216), ?_⟩
    exact take_1 (F := F) h2 hn k ⟨ns, pos, x / n, 0, seed, turn, great, rfl, b1, b2, b3, q0, q1, b7, b8⟩ x
  · conv => whnf
    refine ⟨by omega, ?_⟩
    conv => whnf
    refine ⟨hlen, ?_⟩
    conv => whnf
    refine ⟨⟨by decide, .inl (by decide)⟩, ?_⟩
    conv => whnf
    refine ⟨⟨by dsimp only; omega, by dsimp only; omega⟩, ?_⟩
    conv => whnf
    refine ⟨fun _ ρ => ∃ kvs v sv, isSto kvs ∧ ρ = [.so a kvs, .fr true (.int n), .fr true (.int x), .fr true (.int v), sv], ⟨_, 0, .no, ⟨ns, pos, now, left, seed, turn, great, rfl, b1, b2, b3, b4, b5, b7, b8⟩, rfl⟩, ?_, ?_⟩
    · rintro i d ρ hd ⟨kvs, v, sv, ⟨ns, pos, now, left, seed, turn, great, rfl, b1, b2, b3, b4, b5, b7, b8⟩, rfl⟩
      conv => whnf
      refine ⟨_, _, rfl, rfl, ?_⟩
      conv => whnf
      refine ⟨rfl, ?_⟩
      conv => whnf
      refine ⟨rfl, _, rfl, (by decide : 7 < 16777216), ?_⟩
      conv => whnf
      refine ⟨.inr (by decide), ?_⟩
      conv => whnf
      refine ⟨_, _, rfl, rfl, ?_⟩
      conv => whnf
      refine ⟨_, _, rfl, fun r r0 r1 => ?_⟩
      conv => whnf
      exact ⟨_, _, _, ⟨ns, pos, now, left, seed, turn + 1, great, rfl, b1, b2, b3, b4, b5, b7, b8⟩, rfl⟩
    · rintro ρ ⟨kvs, v, sv, is, rfl⟩
      conv => whnf
      refine ⟨by dsimp only; omega, ?_⟩
      conv => whnf
      exact ⟨k _ (Int.emod_nonneg _ (by omega)) (.inl (Int.emod_lt_of_pos _ (by omega))), trivial, .inr ⟨a, kvs, rfl, rfl, is⟩, trivial, trivial⟩
theorem take_9 (hlen : (toString n : Str).length ≤ 16777216) {kvs : List (Ky × D)} (is : isSto kvs) : rt_law_take_9 (endsF [.t, .s] [.ref a, .int n] R F) [.so a kvs, .fr true (.int n), .no, .no, .no] := by
  obtain ⟨ns, pos, now, left, seed, turn, great, rfl, b1, b2, b3, b4, b5, b7, b8⟩ := is
  conv => whnf
  refine ⟨_, _, rfl, rfl, ?_⟩
  conv => whnf
  refine ⟨trivial, ?_⟩
  conv => whnf
  refine ⟨rfl, ?_⟩
  conv => whnf
  refine ⟨rfl, _, rfl, (by decide : 7 < 16777216), ?_⟩
  conv => whnf
  refine ⟨_, _, rfl, rfl, ?_⟩
  exact take_7 h2 hn k hlen ⟨ns, pos, now, left - 1, seed, turn, great, rfl, b1, b2, b3, b4, b5, b7, b8⟩ now b4 b5
end
theorem p_law_take (ds : List D) (R : SV → Prop) (F : Exn → Prop) (h : s_law_take ds R F) : rd_law_take (endsF [.t, .s] ds R F) (slots0 [.t, .s] ds ++ List.replicate 3 .no) := by
  obtain ⟨a, n, rfl, hn200, k⟩ := h
  conv => whnf
  intro kvs is
  conv => whnf
  refine ⟨fun hb => ?_, fun hb => ?_⟩
  · conv => whnf
    refine ⟨k 0 (by decide) (.inr rfl), trivial, .inr ⟨a, kvs, rfl, rfl, is⟩, trivial, trivial⟩
  have h2 : 2 ≤ n := by
    have := of_decide_eq_false hb
    omega
  have hn : n.natAbs.log2 < 1900 := log_of (by omega) hn200
  have hlen : (toString n : Str).length ≤ 16777216 := by
    have z := PySem.int_text_fits (a := n) (Nat.lt_trans hn (by decide))
    rw [sizeLine_eq] at z
    exact z
  conv => whnf
  have is0 := is
  obtain ⟨ns, pos, now, left, seed, turn, great, rfl, b1, b2, b3, b4, b5, b7, b8⟩ := is
  refine ⟨_, _, rfl, rfl, ?_⟩
  conv => whnf
  refine ⟨fun hc => ?_, fun hc => take_9 h2 hn k hlen is0⟩
  conv => whnf
  refine ⟨is0, ?_⟩
  conv => whnf
  refine ⟨_, rfl, ?_⟩
  conv => whnf
  intro kvs is
  exact take_9 h2 hn k hlen is
section
variable {a : Addr} {R : SV → Prop} {F : Exn → Prop} {ns : List Int} {seed turn : Int} (k : R (.fr true .non)) (b1 : ns.length ≤ 63) (b2 : ∀ n ∈ ns, n.natAbs < 2 ^ 1048577) (b7 : 0 ≤ seed) (b8 : seed < 1000003)
include k b1 b2 b7 b8
theorem load_1 {pos now left : Int} {great : Bool} {s1 s2 : SV} (h1 : 0 ≤ pos) (h2 : 0 ≤ now) (h3 : now.natAbs < 2 ^ 2000) : rt_law_load_1 (endsF [.t] [.ref a] R F) [.so a (stoKvs ns pos now left seed turn great), s1, s2] := by
  conv => whnf
  refine ⟨rfl, ?_⟩
  conv => whnf
  refine ⟨rfl, _, rfl, (by decide : 7 < 16777216), ?_⟩
  exact ⟨k, .inr ⟨a, _, rfl, rfl, ⟨ns, pos, now, 120, seed, turn, great, rfl, b1, b2, h1, h2, h3, b7, b8⟩⟩, trivial⟩
theorem load_2 {pos now left cell : Int} {great : Bool} {s1 : SV} (h1 : 0 ≤ pos) : rt_law_load_2 (endsF [.t] [.ref a] R F) [.so a (stoKvs ns pos now left seed turn great), s1, .fr true (.int cell)] := by
  have f0 : (0 : Int) ≤ cell % ((10 ^ 60) ^ 10) := Int.emod_nonneg _ (by decide +kernel)
  have f1 : (cell % ((10 ^ 60) ^ 10)).natAbs < 2 ^ 2000 := by
    have z1 : cell % ((10 ^ 60) ^ 10) < (10 ^ 60) ^ 10 := Int.emod_lt_of_pos _ (by decide +kernel)
    have z2 : ((10 ^ 60) ^ 10 : Int) ≤ ((2 ^ 2000 : Nat) : Int) := by decide +kernel
    generalize cell % ((10 ^ 60) ^ 10) = y at *
    generalize ((10 ^ 60) ^ 10 : Int) = z at *
    generalize (2 ^ 2000 : Nat) = w at *
    omega
  conv => whnf
  refine ⟨⟨by decide, .inl ⟨by decide, by decide⟩⟩, ?_⟩
  conv => whnf
  refine ⟨⟨by decide, .inr ⟨by decide, by decide +kernel⟩⟩, ?_⟩
  conv => whnf
  refine ⟨by dsimp only; decide +kernel, ?_⟩
  conv => whnf
  refine ⟨rfl, ?_⟩
  conv => whnf
  refine ⟨rfl, _, rfl, (by decide : 7 < 16777216), ?_⟩
  exact load_1 (great := great) (left := left) (now := cell % ((10 ^ 60) ^ 10)) k b1 b2 b7 b8 h1 f0 f1
theorem load_3 {pos now left cell : Int} {great : Bool} {s1 : SV} (h1 : 0 ≤ pos) (h2 : 0 ≤ now) (h3 : now.natAbs < 2 ^ 2000) : rt_law_load_3 (endsF [.t] [.ref a] R F) [.so a (stoKvs ns pos now left seed turn great), s1, .fr true (.int cell)] := by
  conv => whnf
  refine ⟨⟨by decide, .inl ⟨by decide, by decide⟩⟩, ?_⟩
  conv => whnf
  refine ⟨fun hb => ?_, fun hb => ?_⟩
  · conv => whnf
    refine ⟨rfl, ?_⟩
    conv => whnf
    refine ⟨rfl, _, rfl, (by decide : 7 < 16777216), ?_⟩
    exact load_2 (great := true) (left := left) (now := now) k b1 b2 b7 b8 h1
  · exact ⟨k, .inr ⟨a, _, rfl, rfl, ⟨ns, pos, now, left, seed, turn, great, rfl, b1, b2, h1, h2, h3, b7, b8⟩⟩, trivial⟩
theorem load_5 {pos now left cell : Int} {great : Bool} {s1 : SV} (h1 : 0 ≤ pos) : rt_law_load_5 (endsF [.t] [.ref a] R F) [.so a (stoKvs ns pos now left seed turn great), s1, .fr true (.int cell)] := by
  have e0 : (0 : Int) ≤ (cell + cell / 1000003 * 613) % 1000003 := Int.emod_nonneg _ (by decide)
  have e1 : ((cell + cell / 1000003 * 613) % 1000003).natAbs < 2 ^ 2000 := by
    have z1 : (cell + cell / 1000003 * 613) % 1000003 < 1000003 := Int.emod_lt_of_pos _ (by decide)
    have z2 : (1000003 : Nat) ≤ 2 ^ 2000 := by decide +kernel
    generalize (cell + cell / 1000003 * 613) % 1000003 = y at *
    generalize (2 ^ 2000 : Nat) = w at *
    omega
  conv => whnf
  refine ⟨⟨by decide, .inl (by decide)⟩, ?_⟩
  conv => whnf
  refine ⟨.inr (by decide), ?_⟩
  conv => whnf
  refine ⟨by dsimp only; decide, ?_⟩
  conv => whnf
  refine ⟨rfl, ?_⟩
  conv => whnf
  refine ⟨rfl, _, rfl, (by decide : 7 < 16777216), ?_⟩
  conv => whnf
  refine ⟨rfl, ?_⟩
  conv => whnf
  refine ⟨rfl, _, rfl, (by decide : 7 < 16777216), ?_⟩
  exact load_3 (great := great) (left := 2) (now := (cell + cell / 1000003 * 613) % 1000003) k b1 b2 b7 b8 h1 e0 e1
theorem load_6 {pos now left p : Int} {great : Bool} {s2 : SV} (hp : 0 ≤ p) (h1 : 0 ≤ pos) (h2 : 0 ≤ now) (h3 : now.natAbs < 2 ^ 2000) : rt_law_load_6 (endsF [.t] [.ref a] R F) [.so a (stoKvs ns pos now left seed turn great), .fr true (.int p), s2] := by
  conv => whnf
  refine ⟨_, _, rfl, rfl, ?_⟩
  conv => whnf
  refine ⟨fun hc => ?_, fun hc => ?_⟩
  · have hl : p < (ns.length : Int) := by
      have := of_decide_eq_true hc
      rw [List.length_map] at this
      exact this
    obtain ⟨j, rfl⟩ := Int.eq_ofNat_of_zero_le hp
    have hj : j < ns.length := by omega
    conv => whnf
    refine ⟨_, _, rfl, rfl, ?_⟩
    conv => whnf
    refine ⟨.int ns[j], L2.atI_nat (by rw [List.getElem?_map, List.getElem?_eq_getElem hj]; rfl), ?_⟩
    exact load_5 (great := great) (left := left) (now := now) k b1 b2 b7 b8 h1
  · exact ⟨k, .inr ⟨a, _, rfl, rfl, ⟨ns, pos, now, left, seed, turn, great, rfl, b1, b2, h1, h2, h3, b7, b8⟩⟩, trivial⟩
theorem load_8 {pos now left p : Int} {great : Bool} {s2 : SV} (hp : 0 ≤ p) (h1 : 0 ≤ pos) : rt_law_load_8 (endsF [.t] [.ref a] R F) [.so a (stoKvs ns pos now left seed turn great), .fr true (.int p), s2] := by
  have e1 : seed.natAbs < 2 ^ 2000 := by
    have z2 : (1000003 : Nat) ≤ 2 ^ 2000 := by decide +kernel
    generalize (2 ^ 2000 : Nat) = w at *
    omega
  conv => whnf
  refine ⟨_, _, rfl, rfl, ?_⟩
  conv => whnf
  refine ⟨rfl, ?_⟩
  conv => whnf
  refine ⟨rfl, _, rfl, (by decide : 7 < 16777216), ?_⟩
  conv => whnf
  refine ⟨rfl, ?_⟩
  conv => whnf
  refine ⟨rfl, _, rfl, (by decide : 7 < 16777216), ?_⟩
  exact load_6 (great := great) (left := 1000) (now := seed) k b1 b2 b7 b8 hp h1 b7 e1
end
theorem p_law_load (ds : List D) (R : SV → Prop) (F : Exn → Prop) (h : s_law_load ds R F) : rd_law_load (endsF [.t] ds R F) (slots0 [.t] ds ++ List.replicate 2 .no) := by
  obtain ⟨a, rfl, k⟩ := h
  conv => whnf
  intro kvs is
  obtain ⟨ns, pos, now, left, seed, turn, great, rfl, b1, b2, b3, b4, b5, b7, b8⟩ := is
  conv => whnf
  refine ⟨_, _, rfl, rfl, ?_⟩
  conv => whnf
  refine ⟨rfl, ?_⟩
  conv => whnf
  refine ⟨rfl, _, rfl, (by decide : 7 < 16777216), ?_⟩
  conv => whnf
  refine ⟨rfl, ?_⟩
  conv => whnf
  refine ⟨rfl, _, rfl, (by decide : 7 < 16777216), ?_⟩
  exact load_8 (great := false) (pos := pos + 1) (left := left) (now := now) k b1 b2 b7 b8 b3 (by omega)
theorem safes_int : ∀ ns : List Int, safes (ns.map .int) = true
  | [] => rfl
  | _ :: r => by simp [safes, D.safe, safes_int r]
theorem p_law_store (ds : List D) (R : SV → Prop) (F : Exn → Prop) (h : s_law_store ds R F) : rd_law_store (endsF [.b] ds R F) (slots0 [.b] ds ++ List.replicate 2 .no) := by
  obtain ⟨ns, rfl, h1, h2, k⟩ := h
  conv => whnf
  refine ⟨fun _ ρ => ∃ v sv, 0 ≤ v ∧ v < 1000003 ∧ ρ = [.fr false (.scr ns), .fr true (.int v), sv], ⟨11, .no, by decide, by decide, rfl⟩, ?_, ?_⟩
  · rintro i d ρ hd ⟨v, sv, v0, v1, rfl⟩
    rw [List.getElem?_map] at hd
    cases e : ns[i]? with
    | none => rw [e] at hd; cases hd
    | some n =>
      rw [e] at hd
      cases hd
      conv => whnf
      refine ⟨.inr (by decide), ?_⟩
      conv => whnf
      refine ⟨by dsimp only; decide, ?_⟩
      conv => whnf
      refine ⟨by dsimp only; decide, ?_⟩
      conv => whnf
      exact ⟨_, _, Int.emod_nonneg _ (by decide), Int.emod_lt_of_pos _ (by decide), rfl⟩
  · rintro ρ ⟨v, sv, v0, v1, rfl⟩
    conv => whnf
    refine ⟨_, rfl, _, rfl, _, rfl, _, rfl, _, rfl, _, rfl, _, rfl, (by decide : 7 ≤ 15), ?_⟩
    refine ⟨by simp [safes_int], ⟨ns, 0, 0, 0, v, 0, false, rfl, h1, h2, by decide, by decide, by decide, v0, v1⟩, fun a => ⟨k a, ?_, ?_⟩⟩
    · exact rfl
    · exact ⟨trivial, trivial⟩

theorem p_law_size (ds : List D) (R : SV → Prop) (F : Exn → Prop) (h : s_law_size ds R F) : rd_law_size (endsF [.t, .s] ds R F) (slots0 [.t, .s] ds ++ List.replicate 1 .no) := by
  obtain ⟨a, n, rfl, hn, k⟩ := h
  walk_at "go"
  all_goals refine ⟨k _ ?_ ?_, trivial, .inl rfl, trivial, trivial⟩
  all_goals walk_at "side"
theorem p_law_large (ds : List D) (R : SV → Prop) (F : Exn → Prop) (h : s_law_large ds R F) : rd_law_large (endsF [.t, .s] ds R F) (slots0 [.t, .s] ds ++ List.replicate 1 .no) := by
  obtain ⟨a, n, rfl, hn, k⟩ := h
  walk_at "go"
  all_goals refine ⟨k _ ?_ ?_, trivial, .inl rfl, trivial, trivial⟩
  all_goals walk_at "side"
theorem p_law_odds (ds : List D) (R : SV → Prop) (F : Exn → Prop) (h : s_law_odds ds R F) : rd_law_odds (endsF [.t, .s] ds R F) (slots0 [.t, .s] ds ++ List.replicate 0 .no) := by
  obtain ⟨a, n, rfl, hn, k⟩ := h
  walk_at "go"
  all_goals refine ⟨k _, trivial, .inl rfl, trivial, trivial⟩
theorem p_law_pick (ds : List D) (R : SV → Prop) (F : Exn → Prop) (h : s_law_pick ds R F) : rd_law_pick (endsF [.t, .s] ds R F) (slots0 [.t, .s] ds ++ List.replicate 0 .no) := by
  obtain ⟨a, d, rfl, k⟩ := h
  cases d with
  | lst xs =>
    obtain ⟨hl, k0, k⟩ := k
    walk_at "go"
    · rename_i hb
      exact ⟨k0 (List.length_eq_zero_iff.mp (by omega)), trivial, .inl rfl, trivial, trivial⟩
    · rename_i hb r h0 h1
      conv => whnf
      obtain ⟨x, e, hx⟩ := atI_int (xs := xs) (i := r) h0 (by omega)
      exact ⟨x, e, k x hx, trivial, .inl rfl, trivial, trivial⟩
  | str s =>
    obtain ⟨⟨hl, hm⟩, k⟩ := k
    walk_at "go"
    · rename_i hb r h0 h1
      conv => whnf
      obtain ⟨j, rfl⟩ := Int.eq_ofNat_of_zero_le h0
      have hj : j < s.cps.toList.length := by
        show j < s.cps.size
        have : s.length = s.cps.size := rfl
        omega
      exact ⟨s.cps.toList[j], L2.atI_nat (List.getElem?_eq_getElem hj), k _ (List.getElem_mem hj), trivial, .inl rfl, trivial, trivial⟩
  | _ => exact k.elim
theorem seq_at {z : Int} {n : Nat} (h0 : 0 ≤ z) (h1 : z < n) : seqIndex? z n = some z.toNat := by
  unfold seqIndex?
  dsimp only
  rw [if_neg (show ¬ z < 0 by omega), if_pos (by simp [h0, h1])]
theorem p_law_some (ds : List D) (R : SV → Prop) (F : Exn → Prop) (h : s_law_some ds R F) : rd_law_some (endsF [.t, .s, .s] ds R F) (slots0 [.t, .s, .s] ds ++ List.replicate 3 .no) := by
  obtain ⟨a, d, n, rfl, k⟩ := h
  cases d with
  | lst xs =>
    obtain ⟨⟨hl, hn⟩, k⟩ := k
    conv => whnf
    refine ⟨by show (0 : Nat) ≤ line; decide, ?_⟩
    conv => whnf
    refine ⟨by constructor <;> (try dsimp only) <;> split <;> omega, ?_⟩
    conv => whnf
    refine ⟨fun i ρ => ∃ (pool out : List D) (sv : SV), ρ = [.sto a, .fr true (.lst xs), .fr true (.int n), .ol true pool, .ol true out, sv] ∧ pool.length + i = xs.length ∧ out.length = i ∧ (∀ y ∈ pool, y ∈ xs) ∧ ∀ y ∈ out, y ∈ xs, ⟨xs, [], .no, rfl, rfl, rfl, fun y h => h, fun y h => nomatch h⟩, ?_, ?_⟩
    · rintro i x ρ hx ⟨pool, out, sv, rfl, h1, h2, h3, h4⟩
      obtain ⟨hi, rfl⟩ := ints_get hx
      have hi : i < (if (xs.length : Int) < n then (xs.length : Int) else n).toNat := hi
      have hp : 0 < pool.length := by
        have : i < xs.length := by
          split at hi <;> omega
        omega
      conv => whnf
      refine ⟨_, _, rfl, ?_⟩
      refine ⟨by omega, fun r h0 h1' => ?_⟩
      have hr : r < pool.length := by omega
      conv => whnf
      refine ⟨by omega, r.toNat, pool[r.toNat]'(by omega), seq_at h0 hr, List.getElem?_eq_getElem _, ?_⟩
      conv => whnf
      refine ⟨show out.length < line by have : line = 16777216 := rfl; omega, ?_⟩
      conv => whnf
      refine ⟨pool.eraseIdx r.toNat, out ++ [pool[r.toNat]'(by omega)], _, rfl, ?_, by simp [h2], fun y hy => h3 y (List.mem_of_mem_eraseIdx hy), fun y hy => ?_⟩
      · rw [List.length_eraseIdx, if_pos (by omega)]
        omega
      · rcases List.mem_append.mp hy with z | z
        · exact h4 y z
        · rw [List.mem_singleton.mp z]; exact h3 _ (List.getElem_mem _)
    · rintro ρ ⟨pool, out, sv, rfl, h1, h2, h3, h4⟩
      conv => whnf
      refine ⟨k out h4 ?_, trivial, .inl rfl, trivial, trivial, trivial⟩
      rw [h2, ints_len]
      show (((if (xs.length : Int) < n then (xs.length : Int) else n).toNat : Nat) : Int) = _
      split <;> omega
  | _ => exact k.elim
theorem p_law_shuffled (ds : List D) (R : SV → Prop) (F : Exn → Prop) (h : s_law_shuffled ds R F) : rd_law_shuffled (endsF [.t, .s] ds R F) (slots0 [.t, .s] ds ++ List.replicate 2 .no) := by
  obtain ⟨a, xs, rfl, hl, k⟩ := h
  walk_at "go"
  · exact ⟨k xs (fun y h => h) rfl, trivial, .inl rfl, trivial, trivial⟩
  · rename_i hb2 hb1
    conv => whnf
    refine lc_all (P := fun d => d ∈ xs) (fun i x acc hx h1 h2 Iv hI => ?_) fun acc h1 h2 => ?_
    · obtain ⟨hi, rfl⟩ := ints_get hx
      have hi : i < xs.length := by simpa using hi
      conv => whnf
      obtain ⟨d, e, hd⟩ := atI_int (xs := xs) (i := (xs.length : Int) - 1 - (0 + (i : Nat))) (by omega) (by omega)
      refine ifB.T rfl ?_
      conv => whnf
      refine ⟨trivial, ?_⟩
      conv => whnf
      refine ⟨trivial, ?_⟩
      conv => whnf
      refine ⟨d, e, ?_⟩
      exact ⟨by have : line = 16777216 := rfl; omega, hI d hd⟩
    · conv => whnf
      refine ⟨k acc h2 ?_, trivial, .inl rfl, trivial, trivial⟩
      rw [h1, ints_len]
      simp
  · rename_i ys h1 h2
    exact ⟨k ys h1 (by omega), trivial, .inl rfl, trivial, trivial⟩
theorem p_law_chars (ds : List D) (R : SV → Prop) (F : Exn → Prop) (h : s_law_chars ds R F) : rd_law_chars (endsF [] ds R F) (slots0 [] ds ++ List.replicate 0 .no) := by
  obtain ⟨rfl, k⟩ := h
  conv => whnf
  refine ⟨k _ (by decide +kernel) (by decide +kernel), trivial, trivial⟩
theorem p_law_text (ds : List D) (R : SV → Prop) (F : Exn → Prop) (h : s_law_text ds R F) : rd_law_text (endsF [.t, .s] ds R F) (slots0 [.t, .s] ds ++ List.replicate 2 .no) := by
  obtain ⟨a, n, rfl, hn, k⟩ := h
  walk_at "go"
  rename_i s h1 h2 r h3 h4
  conv => whnf
  refine lc_all (P := fun d => ∃ c, d = .str ⟨#[c]⟩) (fun i x acc hx h5 h6 Iv hI => ?_) fun acc h5 h6 => ?_
  · obtain ⟨hi, rfl⟩ := ints_get hx
    conv => whnf
    refine ifB.T rfl ?_
    conv => whnf
    refine ⟨_, _, rfl, ⟨h1, by omega⟩, fun c hc => ?_⟩
    exact ⟨by have : line = 16777216 := rfl; omega, hI _ ⟨c, rfl⟩⟩
  · rw [ints_len] at h5
    have hys : ∀ acc : List D, (∀ d ∈ acc, ∃ c, d = .str ⟨#[c]⟩) → ∃ ys : List Str, acc = ys.map D.str ∧ (ys.map (·.length)).sum = ys.length ∧ ys.length = acc.length := fun acc => by
      induction acc with
      | nil => exact fun _ => ⟨[], rfl, rfl, rfl⟩
      | cons x r ih =>
        intro h
        obtain ⟨ys, e1, e2, e3⟩ := ih fun d hd => h d (List.mem_cons_of_mem _ hd)
        obtain ⟨c, rfl⟩ := h x List.mem_cons_self
        refine ⟨⟨#[c]⟩ :: ys, by rw [e1]; rfl, ?_, by simp [e3]⟩
        rw [List.map_cons, List.sum_cons, e2, List.length_cons]
        show 1 + ys.length = ys.length + 1
        omega
    obtain ⟨ys, rfl, e2, e3⟩ := hys acc h6
    conv => whnf
    refine ⟨ys, rfl, ?_, ?_⟩
    · rw [e2, show (Str.ofString "").length = 0 from rfl, e3, h5]
      omega
    · exact ⟨k _, trivial, .inl rfl, trivial, trivial⟩

theorem pl_cases {d : D} (h : Pl d) : d.plain = true ∧ (∀ xs, d = .tup xs ∨ d = .lst xs → xs.length ≤ 2000 ∧ ∀ x ∈ xs, Pl x) := by
  obtain ⟨n, h⟩ := h
  cases n with
  | zero => cases h
  | succ n =>
    refine ⟨by cases d <;> (first | rfl | cases h), fun xs e => ?_⟩
    have h : (decide (xs.length ≤ 2000) && xs.all (pl n)) = true := by
      rcases e with rfl | rfl
      · exact h
      · exact h
    exact ⟨of_decide_eq_true (Bool.and_eq_true_iff.mp h).1, fun x hx => ⟨n, List.all_eq_true.mp (Bool.and_eq_true_iff.mp h).2 x hx⟩⟩
theorem p_plain_count (ds : List D) (R : SV → Prop) (F : Exn → Prop) (h : s_plain_count ds R F) : rd_plain_count (endsF [.s] ds R F) (slots0 [.s] ds ++ List.replicate 0 .no) := by
  obtain ⟨d, rfl, hd, k⟩ := h
  have hp := (pl_cases hd).1
  cases d <;> (first | (cases hp; done) | walk_at "go")
theorem good_list : ∀ xs : List D, xs.length = 3 → xs.all cnt = true → ∃ a b h : Int, xs = [.int a, .int b, .int h] ∧ 0 ≤ a ∧ 0 ≤ b ∧ 0 ≤ h
  | [x, y, z], _, h => by
    simp only [List.all_cons, List.all_nil, Bool.and_true, Bool.and_eq_true] at h
    obtain ⟨h1, h2, h3⟩ := h
    cases x <;> first | (cases h1; done) | skip
    cases y <;> first | (cases h2; done) | skip
    cases z <;> first | (cases h3; done) | skip
    exact ⟨_, _, _, rfl, of_decide_eq_true h1, of_decide_eq_true h2, of_decide_eq_true h3⟩
theorem good_cnt {m : Int} {xs : List D} (h : goodStep m (.tup xs) = true) : xs.length = 3 ∧ xs.all cnt = true := by
  unfold goodStep at h
  split at h
  · rename_i a b c e
    cases e
    simp only [Bool.and_eq_true, decide_eq_true_eq] at h
    simp [cnt, h]
  · cases h
theorem all_id (xs : List D) (f : D → Bool) : (xs.map f).all id = xs.all f := by
  rw [List.all_map]
  rfl
theorem p_good_step (ds : List D) (R : SV → Prop) (F : Exn → Prop) (h : s_good_step ds R F) : rd_good_step (endsF [.s, .s] ds R F) (slots0 [.s, .s] ds ++ List.replicate 1 .no) := by
  obtain ⟨m, d, rfl, hd, k⟩ := h
  have hc := pl_cases hd
  cases d with
  | tup xs =>
    obtain ⟨hl, hp⟩ := hc.2 xs (.inl rfl)
    walk_at "go"
    · rename_i hb
      refine ⟨?_, trivial, trivial, trivial, trivial⟩
      cases e : goodStep m (.tup xs) with
      | false => rw [e] at k; exact k
      | true =>
        have := (good_cnt e).1
        omega
    · rename_i hb
      refine lc_inv (fun d => .bl (cnt d)) (fun i x hx Iv hI => ?_) ?_
      · have hm := hp x (List.mem_of_getElem? hx)
        walk_at "go"
        refine ⟨by have : line = 16777216 := rfl; rw [List.length_map, List.length_take]; omega, hI⟩
      · conv => whnf
        refine ⟨xs.map cnt, by rw [List.map_map]; rfl, ?_⟩
        conv => whnf
        refine ⟨fun hb2 => ?_, fun hb2 => ?_⟩
        · refine ⟨?_, trivial, trivial, trivial, trivial⟩
          cases e : goodStep m (.tup xs) with
          | false => rw [e] at k; exact k
          | true =>
            have := (good_cnt e).2
            rw [all_id, this] at hb2
            cases hb2
        · have hb2 : xs.all cnt = true := by
            rw [all_id] at hb2
            simpa using hb2
          obtain ⟨a, b, h, rfl, h1, h2, h3⟩ := good_list xs (by omega) hb2
          have e : goodStep m (.tup [.int a, .int b, .int h]) = (decide (a < b) && decide (b ≤ m)) := by
            simp [goodStep, h1, h2, h3]
          rw [e] at k
          walk_at "go"
          · rename_i hb
            rw [decide_eq_true hb] at k
            conv => whnf
            exact ⟨k, trivial, trivial, trivial, trivial⟩
          · rename_i hb
            rw [decide_eq_false (by omega : ¬ a < b)] at k
            conv => whnf
            exact ⟨k, trivial, trivial, trivial, trivial⟩
  | _ => first | (cases hc.1; done) | walk_at "go"

theorem many_of {m : D} (h : manyOk m = true) : ∃ i : Int, m = .int i ∧ 0 ≤ i ∧ i ≤ 60 := by
  cases m with
  | int i =>
    obtain ⟨h1, h2⟩ := Bool.and_eq_true_iff.mp h
    exact ⟨i, rfl, of_decide_eq_true h1, of_decide_eq_true h2⟩
  | _ => cases h
theorem bang_t {b : Bool} (h : (!b) = true) : b = false := by simpa using h
theorem bang_f {b : Bool} (h : (!b) = false) : b = true := by simpa using h
theorem fits_lit : (Str.ofString "many").length ≤ 1000000 ∧ (Str.ofString "steps").length ≤ 1000000 ∧ (Str.ofString "harm").length ≤ 1000000 := by decide +kernel
theorem p_check_graph (ds : List D) (R : SV → Prop) (F : Exn → Prop) (h : s_check_graph ds R F) : rd_check_graph (endsF [.s, .s] ds R F) (slots0 [.s, .s] ds ++ List.replicate 1 .no) := by
  obtain ⟨m, s, rfl, hm, hs, k⟩ := h
  have bad1 : manyOk m = false → F ⟨.bv, [("argument", .str "many")]⟩ := fun e => by
    unfold chk at k
    rw [e] at k
    exact k
  have bad2 : ∀ i, m = .int i → 0 ≤ i → i ≤ 60 → stepsOk m s = false → F ⟨.bv, [("argument", .str "steps")]⟩ := fun i e h0 h1 e2 => by
    subst e
    unfold chk at k
    rw [show manyOk (.int i) = true by simp [manyOk, h0, h1], e2] at k
    exact k
  have good : ∀ i, m = .int i → 0 ≤ i → i ≤ 60 → stepsOk m s = true → R (.fr true .non) := fun i e h0 h1 e2 => by
    subst e
    unfold chk at k
    rw [show manyOk (.int i) = true by simp [manyOk, h0, h1], e2] at k
    exact k
  clear k
  have hsP := pl_cases hs
  conv => whnf
  refine ⟨_, rfl, hm, ?_⟩
  conv => whnf
  refine ⟨fun hb => ?_, fun hb => ?_⟩
  · conv => whnf
    refine ifB.T rfl ?_
    refine ⟨fits_lit.1, bad1 ?_, trivial, trivial, trivial⟩
    have hb := bang_t hb
    cases m with
    | int i =>
      have hb : decide (0 ≤ i) = false := hb
      simp [manyOk, hb]
    | _ => rfl
  · have hb := bang_f hb
    cases m with
    | int i =>
      have h0 : 0 ≤ i := of_decide_eq_true hb
      conv => whnf
      refine ⟨fun hb2 => ?_, fun hb2 => ?_⟩
      · refine ⟨fits_lit.1, bad1 ?_, trivial, trivial, trivial⟩
        have : ¬ i ≤ 60 := by
          have : 60 < i := of_decide_eq_true hb2
          omega
        simp [manyOk, this]
      · have h1 : i ≤ 60 := by
          have : ¬ 60 < i := of_decide_eq_false hb2
          omega
        cases s with
        | lst xs =>
          obtain ⟨hl, hp⟩ := hsP.2 xs (.inr rfl)
          walk_at "go"
          · rename_i hb3
            refine ⟨bad2 i rfl h0 h1 ?_, trivial, trivial, trivial⟩
            simp only [stepsOk]
            rw [decide_eq_false (by omega)]
            rfl
          · rename_i hb3
            refine lc_inv (fun d => .bl (goodStep i d)) (fun j x hx Iv hI => ?_) ?_
            · have hm := hp x (List.mem_of_getElem? hx)
              walk_at "go"
              refine ⟨by have : line = 16777216 := rfl; rw [List.length_map, List.length_take]; omega, hI⟩
            · conv => whnf
              refine ⟨xs.map (goodStep i), by rw [List.map_map]; rfl, ?_⟩
              conv => whnf
              have e : stepsOk (.int i) (.lst xs) = xs.all (goodStep i) := by
                simp only [stepsOk]
                rw [decide_eq_true (by omega)]
                rfl
              refine ⟨fun hb4 => ?_, fun hb4 => ?_⟩
              · have hb4 := bang_t hb4
                rw [all_id] at hb4
                exact ⟨fits_lit.2.1, bad2 i rfl h0 h1 (e.trans hb4), trivial, trivial, trivial⟩
              · have hb4 := bang_f hb4
                rw [all_id] at hb4
                exact ⟨good i rfl h0 h1 (e.trans hb4), trivial, trivial, trivial⟩
        | _ => first | (cases hsP.1; done) | (walk_at "go"; exact ⟨bad2 i rfl h0 h1 rfl, trivial, trivial, trivial⟩)
    | _ => cases hb
theorem el_at {xs : List D} {i : Int} (h0 : 0 ≤ i) (h1 : i < xs.length) : L2.atI xs i = some (el xs i) ∧ el xs i ∈ xs := by
  obtain ⟨j, rfl⟩ := Int.eq_ofNat_of_zero_le h0
  have hj : j < xs.length := by omega
  have e : el xs (j : Int) = xs[j] := by
    unfold el
    rw [Int.toNat_natCast, List.getElem?_eq_getElem hj]
    rfl
  rw [e]
  exact ⟨L2.atI_nat (List.getElem?_eq_getElem hj), List.getElem_mem hj⟩
theorem entry_cases {d : D} (h : entry d = true) : d = .non ∨ ∃ i : Int, d = .int i ∧ 0 ≤ i := by
  cases d with
  | non => exact .inl rfl
  | int i => exact .inr ⟨i, rfl, of_decide_eq_true h⟩
  | _ => cases h
theorem p_step_kept (ds : List D) (R : SV → Prop) (F : Exn → Prop) (h : s_step_kept ds R F) : rd_step_kept (endsF [.s, .s] ds R F) (slots0 [.s, .s] ds ++ List.replicate 3 .no) := by
  obtain ⟨xs, a, b, hh, rfl, ⟨a0, a1⟩, ⟨b0, b1⟩, he, k⟩ := h
  obtain ⟨ea, ma⟩ := el_at a0 a1
  obtain ⟨eb, mb⟩ := el_at b0 b1
  unfold kept at k
  conv => whnf
  refine ⟨rfl, ?_⟩
  conv => whnf
  rcases entry_cases (List.all_eq_true.mp he _ ma) with z | ⟨x, z, x0⟩ <;> rcases entry_cases (List.all_eq_true.mp he _ mb) with w | ⟨y, w, y0⟩ <;> rw [z] at ea <;> rw [w] at eb <;> rw [z, w] at k
  · refine ⟨_, ea, ?_⟩
    walk_at "go"
  · refine ⟨_, ea, ?_⟩
    walk_at "go"
  · refine ⟨_, ea, ?_⟩
    walk_at "go"
    refine ⟨_, eb, ?_⟩
    walk_at "go"
  · refine ⟨_, ea, ?_⟩
    walk_at "go"
    refine ⟨_, eb, ?_⟩
    walk_at "go"
    refine ⟨_, eb, ?_⟩
    conv => whnf
    refine ⟨_, ea, ?_⟩
    walk_at "go"

theorem shut_lst {m : Int} {ss xs : List D} : shut m ss (.lst xs) = (decide ((xs.length : Int) = m + 1) && (xs.all entry && ((match el xs 0 with
    | .int i => decide (i = 0)
    | _ => false) && ss.all (keptS xs)))) := rfl
theorem good_of {m : Int} {d : D} (h : goodStep m d = true) : ∃ a b hh : Int, d = .tup [.int a, .int b, .int hh] ∧ 0 ≤ a ∧ a < b ∧ b ≤ m ∧ 0 ≤ hh := by
  unfold goodStep at h
  split at h
  · rename_i a b c
    simp only [Bool.and_eq_true, decide_eq_true_eq] at h
    exact ⟨a, b, c, rfl, h.1, h.2.2.2.1, h.2.2.2.2, h.2.2.1⟩
  · cases h
theorem pl_cnt {d : D} (h : cnt d = true) : Pl d := by
  cases d with
  | int i => exact ⟨1, rfl⟩
  | _ => cases h
theorem steps_of {m s : D} (h : chk m s = none) : ∃ (i : Int) (ss : List D), m = .int i ∧ s = .lst ss ∧ (0 ≤ i ∧ i ≤ 60) ∧ ss.length ≤ 1000 ∧ goodS i ss := by
  unfold chk at h
  split at h
  · rename_i h1
    obtain ⟨i, rfl, h2, h3⟩ := many_of h1
    split at h
    · rename_i h4
      cases s with
      | lst ss =>
        obtain ⟨h5, h6⟩ := Bool.and_eq_true_iff.mp h4
        exact ⟨i, ss, rfl, rfl, ⟨h2, h3⟩, of_decide_eq_true h5, List.all_eq_true.mp h6⟩
      | _ => cases h4
    · cases h
  · cases h
theorem p_bars_way (ds : List D) (R : SV → Prop) (F : Exn → Prop) (h : s_bars_way ds R F) : rd_bars_way (endsF [.s, .s, .s, .s] ds R F) (slots0 [.s, .s, .s, .s] ds ++ List.replicate 2 .no) := by
  obtain ⟨m, s, h, p, rfl, hm, hs, hh, hp, k⟩ := h
  conv => whnf
  refine ⟨_, _, rfl, hm, hs, ?_⟩
  cases ec : chk m s with
  | some nm =>
    rw [ec] at k
    exact ⟨k, trivial, trivial, trivial, trivial, trivial⟩
  | none =>
    rw [ec] at k
    obtain ⟨i, ss, rfl, rfl, ⟨i0, i1⟩, hl, hg⟩ := steps_of ec
    dsimp only at k
    have hpc := pl_cases hp
    have main : ∀ h : D, (harmOk h = true) → Pl h → R (.fr true (.bl (bw i ss h p))) → rt_bars_way_6 (endsF [.s, .s, .s, .s] [.int i, .lst ss, h, p] R F) (slots0 [.s, .s, .s, .s] [.int i, .lst ss, h, p] ++ List.replicate 2 .no) := fun h hho hh k => by
      have no : shut i ss p = false → R (.fr true (.bl false)) := fun e => by
        unfold bw at k
        rw [e] at k
        exact k
      cases p with
      | lst xs =>
        obtain ⟨hxl, hxp⟩ := hpc.2 xs (.inr rfl)
        walk_at "go"
        · rename_i hb
          refine ⟨no ?_, trivial, trivial, trivial, trivial, trivial, trivial⟩
          rw [shut_lst, decide_eq_false (by omega)]
          rfl
        · rename_i hb
          refine lc_inv (fun d => .bl (entry d)) (fun j x hx Iv hI => ?_) ?_
          · have hmx := hxp x (List.mem_of_getElem? hx)
            have hpx := (pl_cases hmx).1
            have hlen : (List.map (fun d => D.bl (entry d)) (List.take j xs)).length < line := by
              have : line = 16777216 := rfl
              rw [List.length_map, List.length_take]
              omega
            cases x <;> first | (cases hpx; done) | (walk_at "go"; exact hI)
          · conv => whnf
            refine ⟨xs.map entry, by rw [List.map_map]; rfl, ?_⟩
            conv => whnf
            refine ⟨fun hb2 => ?_, fun hb2 => ?_⟩
            · have hb2 := bang_t hb2
              rw [all_id] at hb2
              refine ⟨no ?_, trivial, trivial, trivial, trivial, trivial, trivial⟩
              rw [shut_lst, hb2, Bool.false_and, Bool.and_false]
            · have hb2 := bang_f hb2
              rw [all_id] at hb2
              have hent := List.all_eq_true.mp hb2
              obtain ⟨e0, m0⟩ := el_at (xs := xs) (i := 0) (by omega) (by omega)
              obtain ⟨eM, mM⟩ := el_at (xs := xs) (i := i) (by omega) (by omega)
              have es : shut i ss (.lst xs) = ((match el xs 0 with
                | .int i => decide (i = 0)
                | _ => false) && ss.all (keptS xs)) := by
                rw [shut_lst, decide_eq_true hb, hb2, Bool.true_and, Bool.true_and]
              conv => whnf
              rcases entry_cases (hent _ m0) with z | ⟨x0, z, _⟩ <;> rw [z] at es e0
              · refine ⟨_, e0, ?_⟩
                walk_at "go"
                exact ⟨no es, trivial, trivial, trivial, trivial, trivial, trivial⟩
              · refine ⟨_, e0, ?_⟩
                walk_at "go"
                refine ⟨_, e0, ?_⟩
                walk_at "go"
                · rename_i hx0
                  refine ⟨no (es.trans ?_), trivial, trivial, trivial, trivial, trivial, trivial⟩
                  dsimp only
                  rw [decide_eq_false hx0]
                  rfl
                · rename_i hx0
                  have es : shut i ss (.lst xs) = ss.all (keptS xs) := by
                    rw [es]
                    dsimp only
                    rw [decide_eq_true hx0, Bool.true_and]
                  refine lc_inv (fun d => .bl (keptS xs d)) (fun j x hx Iv hI => ?_) ?_
                  · obtain ⟨a, b, hh, rfl, a0, ab, bm, h0⟩ := good_of (hg x (List.mem_of_getElem? hx))
                    have hlen : (List.map (fun d => D.bl (keptS xs d)) (List.take j ss)).length < line := by
                      have : line = 16777216 := rfl
                      rw [List.length_map, List.length_take]
                      omega
                    conv => whnf
                    refine ifB.T rfl ?_
                    conv => whnf
                    refine ⟨_, _, _, _, rfl, ⟨a0, by omega⟩, ⟨by omega, by omega⟩, hb2, ?_⟩
                    exact ⟨hlen, hI⟩
                  · conv => whnf
                    refine ⟨ss.map (keptS xs), by rw [List.map_map]; rfl, ?_⟩
                    conv => whnf
                    refine ⟨fun hb3 => ?_, fun hb3 => ?_⟩
                    · have hb3 := bang_t hb3
                      rw [all_id] at hb3
                      exact ⟨no (es.trans hb3), trivial, trivial, trivial, trivial, trivial, trivial⟩
                    · have hb3 := bang_f hb3
                      rw [all_id] at hb3
                      have k : R (.fr true (.bl (last i h (.lst xs)))) := by
                        unfold bw at k
                        rw [es, hb3, Bool.true_and] at k
                        exact k
                      unfold last at k
                      conv => whnf
                      rcases entry_cases (hent _ mM) with w | ⟨y, w, _⟩ <;> dsimp only at k <;> rw [w] at k eM
                      · refine ⟨_, eM, ?_⟩
                        walk_at "go"
                      · refine ⟨_, eM, ?_⟩
                        rcases entry_cases (d := h) hho with rfl | ⟨z, rfl, _⟩
                        · walk_at "go"
                        · walk_at "go"
                          refine ⟨_, eM, ?_⟩
                          walk_at "go"
      | _ => first | (cases hpc.1; done) | (have k := no rfl; walk_at "go")
    by_cases hx : harmOk h = true
    · rw [if_pos hx] at k
      rcases entry_cases (d := h) hx with rfl | ⟨z, rfl, hz⟩
      · walk_at "w"
        refine ⟨rfl, ?_⟩
        walk_at "w"
        refine ifB.F rfl ?_
        walk_at "w"
        refine ifB.F rfl ?_
        exact main _ rfl hh k
      · walk_at "w"
        refine ⟨rfl, ?_⟩
        walk_at "w"
        refine ifB.T rfl ?_
        walk_at "w"
        refine ⟨_, rfl, hh, ?_⟩
        walk_at "w"
        refine ifB.F (by rw [show cnt (.int z) = true from decide_eq_true hz]; rfl) ?_
        exact main _ hx hh k
    · rw [if_neg hx] at k
      have hc : cnt h = false := by
        cases e : cnt h with
        | false => rfl
        | true => exact absurd (show (h.isNon || cnt h) = true by rw [e, Bool.or_true]) hx
      have hn : h.isNon = false := by
        cases e : h.isNon with
        | false => rfl
        | true => exact absurd (show (h.isNon || cnt h) = true by rw [e, Bool.true_or]) hx
      walk_at "w"
      refine ⟨rfl, ?_⟩
      walk_at "w"
      refine ifB.T (by rw [hn]; rfl) ?_
      walk_at "w"
      refine ⟨_, rfl, hh, ?_⟩
      walk_at "w"
      refine ifB.T (by rw [hc]; rfl) ?_
      exact ⟨fits_lit.2.2, k, trivial, trivial, trivial, trivial, trivial⟩

theorem pl_succ {n : Nat} {d : D} (h : pl n d = true) : ∃ m, n = m + 1 := by
  cases n with
  | zero => cases h
  | succ m => exact ⟨m, rfl⟩
theorem pl_seq {n : Nat} {xs : List D} {d : D} (e : d = .tup xs ∨ d = .lst xs) (h : pl (n + 1) d = true) : xs.length ≤ 2000 ∧ ∀ x ∈ xs, pl n x = true := by
  have h : (decide (xs.length ≤ 2000) && xs.all (pl n)) = true := by
    rcases e with rfl | rfl
    · exact h
    · exact h
  exact ⟨of_decide_eq_true (Bool.and_eq_true_iff.mp h).1, List.all_eq_true.mp (Bool.and_eq_true_iff.mp h).2⟩
theorem pl_dk {n : Nat} {kvs : List (Ky × D)} (h : pl (n + 1) (.dk kvs) = true) : kvs.length ≤ 2000 ∧ (kvs.map (·.1)).Nodup ∧ ∀ kv ∈ kvs, pl n kv.2 = true := by
  have h : (decide (kvs.length ≤ 2000) && (decide (kvs.map (·.1)).Nodup && kvs.all fun kv => pl n kv.2)) = true := h
  obtain ⟨h1, h2⟩ := Bool.and_eq_true_iff.mp h
  obtain ⟨h2, h3⟩ := Bool.and_eq_true_iff.mp h2
  exact ⟨of_decide_eq_true h1, of_decide_eq_true h2, fun kv hk => List.all_eq_true.mp h3 kv hk⟩
theorem atI_nat' {xs : List D} {i : Nat} {x : D} (h : xs[i]? = some x) : L2.atI xs ((0 : Int) + (i : Nat)) = some x := by
  rw [Int.zero_add]
  exact L2.atI_nat h
theorem dget_mem {kvs : List (Ky × D)} {kv : Ky × D} (h : kv ∈ kvs) : ∃ d, dget kvs kv.1 = some d ∧ ∃ kv' ∈ kvs, kv'.2 = d := by
  unfold dget
  cases e : kvs.find? fun z => decide (z.1 = kv.1) with
  | none =>
    have := List.find?_eq_none.mp e kv h
    simp at this
  | some z => exact ⟨z.2, rfl, z, List.mem_of_find?_eq_some e, rfl⟩
theorem kyD_key (k : Ky) : (kyD k).key = some k := by
  cases k <;> rfl
/-- the loop of same over a row -/
theorem same_row {n : Nat} {xs : List D} {R : SV → Prop} {F : Exn → Prop} {d : D} (e : d = .tup xs ∨ d = .lst xs) (hp : ∀ x ∈ xs, pl n x = true) (hl : xs.length ≤ 2000) (k : R (.fr true (.bl true))) :
    rt_law_same_3 (sI_law_same n) (endsF [.s, .s] [d, d] R F) [.fr true d, .fr true d, .no, .no] := by
  have hlen : (-(2 ^ 62) ≤ (xs.length : Int) ∧ (xs.length : Int) < 2 ^ 62) := by omega
  rcases e with rfl | rfl
  · walk_at "w"
    refine ⟨hlen, ?_⟩
    walk_at "w"
    refine ⟨fun i ρ => ∃ sv, ρ = [.fr true (.tup xs), .fr true (.tup xs), sv, .no], ⟨.no, rfl⟩, ?_, ?_⟩
    · rintro i x ρ hx ⟨sv, rfl⟩
      obtain ⟨hi, rfl⟩ := ints_get hx
      have hi : i < xs.length := by simpa using hi
      have e := atI_nat' (List.getElem?_eq_getElem hi)
      walk_at "w"
      refine ⟨_, e, ?_⟩
      walk_at "w"
      refine ⟨_, e, ?_⟩
      walk_at "w"
      refine ⟨_, rfl, hp _ (List.getElem_mem hi), ?_⟩
      walk_at "w"
      refine ifB.F rfl ?_
      exact ⟨_, rfl⟩
    · rintro ρ ⟨sv, rfl⟩
      walk_at "go"
  · walk_at "w"
    refine ⟨hlen, ?_⟩
    walk_at "w"
    refine ⟨fun i ρ => ∃ sv, ρ = [.fr true (.lst xs), .fr true (.lst xs), sv, .no], ⟨.no, rfl⟩, ?_, ?_⟩
    · rintro i x ρ hx ⟨sv, rfl⟩
      obtain ⟨hi, rfl⟩ := ints_get hx
      have hi : i < xs.length := by simpa using hi
      have e := atI_nat' (List.getElem?_eq_getElem hi)
      walk_at "w"
      refine ⟨_, e, ?_⟩
      walk_at "w"
      refine ⟨_, e, ?_⟩
      walk_at "w"
      refine ⟨_, rfl, hp _ (List.getElem_mem hi), ?_⟩
      walk_at "w"
      refine ifB.F rfl ?_
      exact ⟨_, rfl⟩
    · rintro ρ ⟨sv, rfl⟩
      walk_at "go"
theorem p_law_same (n : Nat) (ds : List D) (R : SV → Prop) (F : Exn → Prop) (h : sI_law_same (n + 1) ds R F) : rd_law_same (sI_law_same n) (endsF [.s, .s] ds R F) (slots0 [.s, .s] ds ++ List.replicate 2 .no) := by
  obtain ⟨d, rfl, hd, k⟩ := h
  cases d with
  | non => walk_at "go"
  | bl b =>
    walk_at "go"
    walk_at "w"
    refine ⟨?_, trivial, trivial, trivial, trivial⟩
    have e : (false ^^ (D.bl b).eqv (D.bl b)) = true := by simp [D.eqv]
    show R (.fr true (.bl (false ^^ (D.bl b).eqv (D.bl b))))
    rw [e]
    exact k
  | int i =>
    walk_at "go"
    walk_at "w"
    refine ⟨?_, trivial, trivial, trivial, trivial⟩
    have e : (false ^^ (D.int i).eqv (D.int i)) = true := by simp [D.eqv]
    show R (.fr true (.bl (false ^^ (D.int i).eqv (D.int i))))
    rw [e]
    exact k
  | str s =>
    walk_at "go"
    walk_at "w"
    refine ⟨?_, trivial, trivial, trivial, trivial⟩
    have e : (false ^^ (s == s)) = true := by simp
    show R (.fr true (.bl (false ^^ (s == s))))
    rw [e]
    exact k
  | lst xs =>
    obtain ⟨hl, hp⟩ := pl_seq (.inr rfl) hd
    walk_at "go"
    exact (show _ ∧ _ from same_row (F := F) (.inr rfl) hp hl k).2
  | tup xs =>
    obtain ⟨hl, hp⟩ := pl_seq (.inl rfl) hd
    walk_at "go"
    exact (show _ ∧ _ from same_row (F := F) (.inl rfl) hp hl k).2
  | dk kvs =>
    obtain ⟨hl, hn, hp⟩ := pl_dk hd
    walk_at "go"
    refine ⟨fun i ρ => ∃ sv, ρ = [.fr true (.dk kvs), .fr true (.dk kvs), .no, sv], ⟨.no, rfl⟩, ?_, ?_⟩
    · rintro i x ρ hx ⟨sv, rfl⟩
      rw [List.getElem?_map] at hx
      cases e : kvs[i]? with
      | none => rw [e] at hx; cases hx
      | some kv =>
        rw [e] at hx
        cases hx
        obtain ⟨d, e1, kv', hm, e2⟩ := dget_mem (List.mem_of_getElem? e)
        have key : (kyD kv.1).key = some kv.1 := kyD_key _
        obtain ⟨ky, v⟩ := kv
        cases ky with
        | inl z =>
          dsimp only at e1 key
          walk_at "w"
          refine ⟨Sum.inl z, key, ?_⟩
          walk_at "w"
          refine ifB.F (by rw [e1]; rfl) ?_
          walk_at "w"
          refine ⟨Sum.inl z, d, key, e1, ?_⟩
          walk_at "w"
          refine ⟨Sum.inl z, d, key, e1, ?_⟩
          walk_at "w"
          refine ⟨_, rfl, by rw [← e2]; exact hp _ hm, ?_⟩
          walk_at "w"
          refine ifB.F rfl ?_
          exact ⟨_, rfl⟩
        | inr z =>
          dsimp only at e1 key
          walk_at "w"
          refine ⟨Sum.inr z, key, ?_⟩
          walk_at "w"
          refine ifB.F (by rw [e1]; rfl) ?_
          walk_at "w"
          refine ⟨Sum.inr z, d, key, e1, ?_⟩
          walk_at "w"
          refine ⟨Sum.inr z, d, key, e1, ?_⟩
          walk_at "w"
          refine ⟨_, rfl, by rw [← e2]; exact hp _ hm, ?_⟩
          walk_at "w"
          refine ifB.F rfl ?_
          exact ⟨_, rfl⟩
    · rintro ρ ⟨sv, rfl⟩
      walk_at "go"
  | _ => cases hd

theorem dput_new {kvs : List (Ky × D)} {k : Ky} {v : D} (h : k ∉ kvs.map (·.1)) : dput kvs k v = kvs ++ [(k, v)] := by
  unfold dput
  rw [if_neg]
  intro z
  obtain ⟨kv, hm, e⟩ := List.any_eq_true.mp z
  exact h (List.mem_map.mpr ⟨kv, hm, of_decide_eq_true e⟩)
theorem dget_nodup {kvs : List (Ky × D)} {i : Nat} {kv : Ky × D} (hn : (kvs.map (·.1)).Nodup) (h : kvs[i]? = some kv) : dget kvs kv.1 = some kv.2 := by
  unfold dget
  induction kvs generalizing i with
  | nil => cases h
  | cons x r ih =>
    rw [List.map_cons, List.nodup_cons] at hn
    cases i with
    | zero =>
      cases h
      rw [List.find?_cons_of_pos (by simp)]
      rfl
    | succ i =>
      have h : r[i]? = some kv := h
      rw [List.find?_cons_of_neg]
      · exact ih hn.2 h
      · intro z
        have e : x.1 = kv.1 := by simpa using z
        exact hn.1 (by rw [e]; exact List.mem_map.mpr ⟨kv, List.mem_of_getElem? h, rfl⟩)
theorem p_law_copy (n : Nat) (ds : List D) (R : SV → Prop) (F : Exn → Prop) (h : sI_law_copy (n + 1) ds R F) : rd_law_copy (sI_law_copy n) (endsF [.s] ds R F) (slots0 [.s] ds ++ List.replicate 3 .no) := by
  obtain ⟨d, rfl, hd, k⟩ := h
  have copyK : ∀ {m : Bool} {x : D} {acc : List D} {Iv : Nat → List D → Bool → PSt → Prop} {i : Nat} {ρ : PSt}, acc.length < line → Iv (i + 1) (acc ++ [x]) true ρ → (kT (fun md d ρ4 => acc.length < line ∧ Iv (i + 1) (acc ++ [d]) (true && md) ρ) (SV.dem true (ownSV x)) ρ) := fun {m x acc Iv i ρ} h1 h2 => by
    cases x <;> exact ⟨h1, h2⟩
  cases d with
  | lst xs =>
    obtain ⟨hl, hp⟩ := pl_seq (.inr rfl) hd
    walk_at "go"
    refine lc_inv id (fun i x hx Iv hI => ?_) ?_
    · have hx1 := hp x (List.mem_of_getElem? hx)
      have hlen : (List.map id (List.take i xs)).length < line := by
        have : line = 16777216 := rfl
        rw [List.length_map, List.length_take]
        omega
      walk_at "w"
      refine ifB.T rfl ?_
      walk_at "w"
      refine ⟨_, rfl, hx1, ?_⟩
      cases x <;> exact ⟨hlen, hI⟩
    · walk_at "w"
      rw [List.map_id]
      exact ⟨k, trivial, trivial, trivial⟩
  | tup xs =>
    obtain ⟨hl, hp⟩ := pl_seq (.inl rfl) hd
    walk_at "go"
    refine lc_inv id (fun i x hx Iv hI => ?_) ?_
    · have hx1 := hp x (List.mem_of_getElem? hx)
      have hlen : (List.map id (List.take i xs)).length < line := by
        have : line = 16777216 := rfl
        rw [List.length_map, List.length_take]
        omega
      walk_at "w"
      refine ifB.T rfl ?_
      walk_at "w"
      refine ⟨_, rfl, hx1, ?_⟩
      cases x <;> exact ⟨hlen, hI⟩
    · walk_at "w"
      rw [List.map_id]
      exact ⟨k, trivial, trivial, trivial⟩
  | dk kvs =>
    obtain ⟨hl, hn, hp⟩ := pl_dk hd
    walk_at "go"
    refine ⟨fun i ρ => ∃ sv, ρ = [.fr true (.dk kvs), .od true (kvs.take i), sv, .no], ⟨.no, rfl⟩, ?_, ?_⟩
    · rintro i x ρ hx ⟨sv, rfl⟩
      rw [List.getElem?_map] at hx
      cases e : kvs[i]? with
      | none => rw [e] at hx; cases hx
      | some kv =>
        rw [e] at hx
        cases hx
        have hi := (List.getElem?_eq_some_iff.mp e).1
        have e1 := dget_nodup hn e
        have hv := hp kv (List.mem_of_getElem? e)
        have hput : dput (kvs.take i) kv.1 kv.2 = kvs.take (i + 1) := by
          obtain ⟨hi, rfl⟩ := List.getElem?_eq_some_iff.mp e
          rw [dput_new, List.take_append_getElem hi]
          intro z
          have hd := hn
          rw [← List.take_append_drop i kvs, List.map_append, List.nodup_append] at hd
          refine hd.2.2 _ z _ (List.mem_map.mpr ⟨kvs[i], ?_, rfl⟩) rfl
          rw [List.drop_eq_getElem_cons hi]
          exact List.mem_cons_self
        have hlt : (kvs.take i).length < line := by
          have : line = 16777216 := rfl
          rw [List.length_take]
          omega
        obtain ⟨ky, v⟩ := kv
        dsimp only at e1 hv hput
        cases ky with
        | inl z =>
          walk_at "w"
          refine ⟨Sum.inl z, v, rfl, e1, ?_⟩
          walk_at "w"
          refine ⟨_, rfl, hv, ?_⟩
          cases v <;> exact ⟨rfl, Sum.inl z, rfl, hlt, _, by rw [hput]; rfl⟩
        | inr z =>
          walk_at "w"
          refine ⟨Sum.inr z, v, rfl, e1, ?_⟩
          walk_at "w"
          refine ⟨_, rfl, hv, ?_⟩
          cases v <;> exact ⟨rfl, Sum.inr z, rfl, hlt, _, by rw [hput]; rfl⟩
    · rintro ρ ⟨sv, rfl⟩
      rw [List.length_map, List.take_length]
      walk_at "go"
  | obj _ _ => cases hd
  | dt _ => cases hd
  | ref _ => cases hd
  | ty _ => cases hd
  | _ => walk_at "go"

theorem p_law_is_int (ds : List D) (R : SV → Prop) (F : Exn → Prop) (h : s_law_is_int ds R F) : rd_law_is_int (endsF [.s] ds R F) (slots0 [.s] ds ++ List.replicate 0 .no) := by
  obtain ⟨d, rfl, hd, k⟩ := h
  have hp := (pl_cases hd).1
  cases d <;> (first | (cases hp; done) | walk_at "go")
theorem p_law_atom (ds : List D) (R : SV → Prop) (F : Exn → Prop) (h : s_law_atom ds R F) : rd_law_atom (endsF [.t] ds R F) (slots0 [.t] ds ++ List.replicate 1 .no) := by
  obtain ⟨a, rfl, k⟩ := h
  walk_at "go"
  · rename_i r h0 h1 hb
    walk_at "w"
    obtain ⟨d, e, hd⟩ := atI_int (xs := [.non, .bl true, .bl false, .int 0, .int 1, .str ""]) (i := r) h0 (by show r < 6; omega)
    refine ⟨d, e, k d ?_, trivial, .inl rfl, trivial⟩
    simp only [List.mem_cons, List.not_mem_nil, or_false] at hd
    rcases hd with rfl | rfl | rfl | rfl | rfl | rfl <;> rfl
  · exact ⟨k _ rfl, trivial, .inl rfl, trivial⟩
  · exact ⟨k _ rfl, trivial, .inl rfl, trivial⟩
  · exact ⟨k _ rfl, trivial, .inl rfl, trivial⟩
theorem pl_up : ∀ {n m : Nat} {d : D}, n ≤ m → pl n d = true → pl m d = true
  | 0, _, _, _, h => by cases h
  | n + 1, 0, _, hl, _ => by omega
  | n + 1, m + 1, d, hl, h => by
    have up : ∀ x, pl n x = true → pl m x = true := fun x => pl_up (by omega)
    cases d with
    | lst xs =>
      obtain ⟨h1, h2⟩ := pl_seq (.inr rfl) h
      show (decide (xs.length ≤ 2000) && xs.all (pl m)) = true
      rw [decide_eq_true h1, List.all_eq_true.mpr fun x hx => up x (h2 x hx)]
      rfl
    | tup xs =>
      obtain ⟨h1, h2⟩ := pl_seq (.inl rfl) h
      show (decide (xs.length ≤ 2000) && xs.all (pl m)) = true
      rw [decide_eq_true h1, List.all_eq_true.mpr fun x hx => up x (h2 x hx)]
      rfl
    | dk kvs =>
      obtain ⟨h1, h2, h3⟩ := pl_dk h
      show (decide (kvs.length ≤ 2000) && (decide (kvs.map (·.1)).Nodup && kvs.all fun kv => pl m kv.2)) = true
      rw [decide_eq_true h1, decide_eq_true h2, List.all_eq_true.mpr fun x hx => up x.2 (h3 x hx)]
      rfl
    | obj _ _ => cases h
    | dt _ => cases h
    | ref _ => cases h
    | ty _ => cases h
    | scr _ => cases h
    | _ => rfl
theorem okSV_up {n m : Nat} {sv : SV} (h : n ≤ m) (o : okSV n sv) : okSV m sv := by
  rcases o with ⟨d, e, p⟩ | ⟨d, e, p⟩ | ⟨d, e, p⟩
  · exact .inl ⟨d, e, pl_up h p⟩
  · exact .inr (.inl ⟨d, e, pl_up h p⟩)
  · exact .inr (.inr ⟨d, e, pl_up h p⟩)
theorem pl_l1 {n : Nat} {x : D} (h : pl n x = true) : pl (n + 1) (.lst [x]) = true ∧ pl (n + 1) (.tup [x]) = true := by
  simp [pl, h]
theorem pl_l2 {n : Nat} {x y : D} (h : pl n x = true) (h2 : pl n y = true) : pl (n + 1) (.lst [x, y]) = true ∧ pl (n + 1) (.tup [x, y]) = true := by
  simp [pl, h, h2]
theorem pl_d2 {n : Nat} {x y : D} (h : pl n x = true) (h2 : pl n y = true) : pl (n + 1) (.dk (mergeD [] [(.inr ("a" : Str), x), (.inl 1, y)])) = true := by
  rw [show mergeD [] [((.inr ("a" : Str) : Ky), x), ((.inl 1 : Ky), y)] = [(.inr ("a" : Str), x), (.inl 1, y)] from rfl]
  simp [pl, h, h2]
theorem value_turn {a : Addr} {i : Nat} {sv s2 : SV} {o : D} (hs : okSV (i + 1) sv) (ho : pl 1 o = true) {c : Int} {K : PEnds} (hK : ∀ ρ, (∃ sv s2 s3 s4, ρ = [.sto a, sv, s2, s3, s4] ∧ okSV (i + 2) sv) → K.nx ρ) :
    rt_law_value_1 K [.sto a, sv, s2, .fr true (.int c), .fr true o] := by
  have ho' := pl_up (n := 1) (m := i + 1) (by omega) ho
  rcases hs with ⟨d, rfl, p⟩ | ⟨d, rfl, p⟩ | ⟨d, rfl, p⟩
  · walk_at "go"
    · exact hK _ ⟨_, _, _, _, rfl, .inr (.inl ⟨_, rfl, (pl_l1 p).1⟩)⟩
    · exact hK _ ⟨_, _, _, _, rfl, .inl ⟨_, rfl, (pl_l1 p).2⟩⟩
    · exact hK _ ⟨_, _, _, _, rfl, .inr (.inl ⟨_, rfl, (pl_l2 ho' p).1⟩)⟩
    · exact hK _ ⟨_, _, _, _, rfl, .inl ⟨_, rfl, (pl_l2 p ho').2⟩⟩
    · exact hK _ ⟨_, _, _, _, rfl, .inr (.inr ⟨_, rfl, pl_d2 p ho'⟩)⟩
    · exact hK _ ⟨_, _, _, _, rfl, .inr (.inl ⟨_, rfl, rfl⟩)⟩
    · exact hK _ ⟨_, _, _, _, rfl, .inl ⟨_, rfl, rfl⟩⟩
    · exact hK _ ⟨_, _, _, _, rfl, .inr (.inr ⟨_, rfl, rfl⟩)⟩
  · walk_at "go"
    · exact hK _ ⟨_, _, _, _, rfl, .inr (.inl ⟨_, rfl, (pl_l1 p).1⟩)⟩
    · exact hK _ ⟨_, _, _, _, rfl, .inl ⟨_, rfl, (pl_l1 p).2⟩⟩
    · exact hK _ ⟨_, _, _, _, rfl, .inr (.inl ⟨_, rfl, (pl_l2 ho' p).1⟩)⟩
    · exact hK _ ⟨_, _, _, _, rfl, .inl ⟨_, rfl, (pl_l2 p ho').2⟩⟩
    · exact hK _ ⟨_, _, _, _, rfl, .inr (.inr ⟨_, rfl, pl_d2 p ho'⟩)⟩
    · exact hK _ ⟨_, _, _, _, rfl, .inr (.inl ⟨_, rfl, rfl⟩)⟩
    · exact hK _ ⟨_, _, _, _, rfl, .inl ⟨_, rfl, rfl⟩⟩
    · exact hK _ ⟨_, _, _, _, rfl, .inr (.inr ⟨_, rfl, rfl⟩)⟩
  · walk_at "go"
    · exact hK _ ⟨_, _, _, _, rfl, .inr (.inl ⟨_, rfl, (pl_l1 p).1⟩)⟩
    · exact hK _ ⟨_, _, _, _, rfl, .inl ⟨_, rfl, (pl_l1 p).2⟩⟩
    · exact hK _ ⟨_, _, _, _, rfl, .inr (.inl ⟨_, rfl, (pl_l2 ho' p).1⟩)⟩
    · exact hK _ ⟨_, _, _, _, rfl, .inl ⟨_, rfl, (pl_l2 p ho').2⟩⟩
    · exact hK _ ⟨_, _, _, _, rfl, .inr (.inr ⟨_, rfl, pl_d2 p ho'⟩)⟩
    · exact hK _ ⟨_, _, _, _, rfl, .inr (.inl ⟨_, rfl, rfl⟩)⟩
    · exact hK _ ⟨_, _, _, _, rfl, .inl ⟨_, rfl, rfl⟩⟩
    · exact hK _ ⟨_, _, _, _, rfl, .inr (.inr ⟨_, rfl, rfl⟩)⟩
theorem p_law_value (ds : List D) (R : SV → Prop) (F : Exn → Prop) (h : s_law_value ds R F) : rd_law_value (endsF [.t] ds R F) (slots0 [.t] ds ++ List.replicate 4 .no) := by
  obtain ⟨a, rfl, k⟩ := h
  walk_at "go"
  rename_i d hd
  refine ⟨fun e => (nomatch e), fun x hx => ?_⟩
  have hx2 : ∃ n : Nat, x = .int n ∧ n ≤ 8 := by
    simp only [List.mem_cons, List.not_mem_nil, or_false] at hx
    rcases hx with rfl | rfl | rfl | rfl | rfl | rfl | rfl | rfl
    · exact ⟨0, rfl, by decide⟩
    · exact ⟨0, rfl, by decide⟩
    · exact ⟨0, rfl, by decide⟩
    · exact ⟨1, rfl, by decide⟩
    · exact ⟨1, rfl, by decide⟩
    · exact ⟨2, rfl, by decide⟩
    · exact ⟨3, rfl, by decide⟩
    · exact ⟨8, rfl, by decide⟩
  obtain ⟨n, rfl, hn⟩ := hx2
  walk_at "w"
  refine ⟨by omega, ?_⟩
  walk_at "w"
  refine ⟨fun i ρ => ∃ sv s2 s3 s4, ρ = [.sto a, sv, s2, s3, s4] ∧ okSV (i + 1) sv, ⟨_, _, _, _, rfl, .inl ⟨d, rfl, hd⟩⟩, ?_, ?_⟩
  · rintro i x ρ hx ⟨sv, s2, s3, s4, rfl, hs⟩
    walk_at "w"
    refine ⟨_, _, rfl, by decide +kernel, fun c h0 h1 => ?_⟩
    walk_at "w"
    refine ⟨_, rfl, fun o ho => ?_⟩
    exact value_turn hs ho fun ρ h => h
  · rintro ρ ⟨sv, s2, s3, s4, rfl, hs⟩
    have hs := okSV_up (m := 10) (by rw [ints_len]; omega) hs
    rcases hs with ⟨d, rfl, p⟩ | ⟨d, rfl, p⟩ | ⟨d, rfl, p⟩
    · exact ⟨k _ (.inl ⟨_, rfl, p⟩), trivial, .inl rfl, trivial⟩
    · exact ⟨k _ (.inr (.inl ⟨_, rfl, p⟩)), trivial, .inl rfl, trivial⟩
    · exact ⟨k _ (.inr (.inr ⟨_, rfl, p⟩)), trivial, .inl rfl, trivial⟩

theorem good_mk {m a b h : Int} (h0 : 0 ≤ a) (h1 : a < b) (h2 : b ≤ m) (h3 : 0 ≤ h) : goodStep m (.tup [.int a, .int b, .int h]) = true := by
  simp only [goodStep, Bool.and_eq_true, decide_eq_true_eq]
  omega
theorem goodS_app {m : Int} {xs : List D} {d : D} (h : goodS m xs) (hd : goodStep m d = true) : goodS m (xs ++ [d]) := fun e he => by
  rcases List.mem_append.mp he with z | z
  · exact h e z
  · rw [List.mem_singleton.mp z]; exact hd
theorem lt_line {n : Nat} (h : n ≤ 2000) : n < line := Nat.lt_of_le_of_lt h (by decide)
theorem steps_end {a : Addr} {m : Int} {R : SV → Prop} {F : Exn → Prop} (hm : 0 ≤ m ∧ m ≤ 60) (k : ∀ xs : List D, xs.length ≤ 62 → goodS m xs → R (.ol true xs)) {xs : List D} (hl : xs.length ≤ 62) (hg : goodS m xs) {s3 s4 s5 s6 s7 : SV} :
    rt_law_steps_6 (endsF [.t, .s] [.ref a, .int m] R F) [.sto a, .fr true (.int m), .ol true xs, s3, s4, s5, s6, s7] := by
  walk_at "w"
  refine ⟨_, _, rfl, by omega, fun ys h1 h2 => ?_⟩
  exact ⟨k ys (by omega) (fun d hd => hg d (h1 d hd)), trivial, .inl rfl, trivial, trivial⟩
theorem steps_mid {a : Addr} {m : Int} {R : SV → Prop} {F : Exn → Prop} (hm : 0 ≤ m ∧ m ≤ 60) (k : ∀ xs : List D, xs.length ≤ 62 → goodS m xs → R (.ol true xs)) {xs : List D} (hl : xs.length ≤ 60) (hg : goodS m xs) {s3 s4 s5 s6 s7 : SV} :
    rt_law_steps_7 (endsF [.t, .s] [.ref a, .int m] R F) [.sto a, .fr true (.int m), .ol true xs, s3, s4, s5, s6, s7] := by
  walk_at "w"
  refine ifB.mk (fun hb => ?_) (fun hb => ?_)
  · walk_at "w"
    refine ⟨_, _, rfl, by decide +kernel, fun b => ?_⟩
    walk_at "w"
    refine ifB.mk (fun hb => ?_) (fun hb => ?_)
    · walk_at "w"
      refine ⟨_, _, rfl, by omega, fun e => ?_, fun x hx => ?_⟩
      · subst e
        cases (show decide ((0 : Int) < ((([] : List D).length : Nat) : Int)) = true by assumption)
      · have gx := hg x hx
        obtain ⟨p, q, r, rfl, p0, pq, qm, r0⟩ := good_of gx
        refine ⟨⟨rfl, rfl⟩, ?_⟩
        walk_at "w"
        refine ⟨lt_line (by omega), ?_⟩
        walk_at "w"
        refine ⟨.int p, rfl, ?_⟩
        walk_at "w"
        refine ⟨.int q, rfl, ?_⟩
        walk_at "w"
        refine ⟨_, _, rfl, by decide +kernel, fun h h0 h1 => ?_⟩
        walk_at "w"
        refine ⟨by show 3 ≤ line; decide, ?_⟩
        walk_at "w"
        refine ⟨lt_line (by rw [List.length_append]; show xs.length + 1 ≤ 2000; omega), ?_⟩
        refine steps_end hm k (xs := (xs ++ [.tup [.int p, .int q, .int r]]) ++ [.tup [.int p, .int q, .int h]]) (by simp; omega) (goodS_app (goodS_app hg gx) (good_mk p0 pq qm h0))
    · exact steps_end hm k (by omega) hg
  · walk_at "w"
    refine ifB.F rfl ?_
    exact steps_end hm k (by omega) hg
theorem steps_2 {a : Addr} {m : Int} {R : SV → Prop} {F : Exn → Prop} (hm : 0 ≤ m ∧ m ≤ 60) (k : ∀ xs : List D, xs.length ≤ 62 → goodS m xs → R (.ol true xs)) {xs : List D} (hl : xs.length ≤ 60) (hg : goodS m xs) {s3 s4 s5 s6 s7 : SV} :
    rt_law_steps_8 (endsF [.t, .s] [.ref a, .int m] R F) [.sto a, .fr true (.int m), .ol true xs, s3, s4, s5, s6, s7] := by
  walk_at "w"
  refine ⟨_, _, rfl, by decide +kernel, fun r h0 h1 => ?_⟩
  walk_at "w"
  refine ⟨trivial, ?_⟩
  walk_at "w"
  refine ⟨by constructor <;> (try dsimp only) <;> split <;> omega, ?_⟩
  walk_at "w"
  refine ⟨fun i ρ => ∃ xs' s3 s4 s5 s6 s7, ρ = [.sto a, .fr true (.int m), .ol true xs', s3, s4, s5, s6, s7] ∧ goodS m xs' ∧ xs'.length ≤ xs.length + i, ⟨_, _, _, _, _, _, rfl, hg, Nat.le_refl _⟩, ?_, ?_⟩
  · rintro i x ρ hx ⟨xs', s3, s4, s5, s6, s7, rfl, hg', hl'⟩
    obtain ⟨hi, rfl⟩ := ints_get hx
    have hi : i < 60 - xs.length := by
      have : i < (if 60 - (xs.length : Int) < r then 60 - (xs.length : Int) else r).toNat := hi
      split at this <;> omega
    walk_at "w"
    refine ⟨_, _, rfl, by omega, fun p p0 p1 => ?_⟩
    walk_at "w"
    refine ifB.mk (fun hb => ?_) (fun hb => ?_)
    · have hb : p < m := of_decide_eq_true hb
      walk_at "w"
      refine ⟨trivial, ?_⟩
      walk_at "w"
      refine ⟨_, _, rfl, by dsimp only; omega, fun q q0 q1 => ?_⟩
      have q1 : q < m - p ∨ q = 0 := q1
      walk_at "w"
      refine ⟨⟨by decide, .inl ⟨by decide, by decide⟩⟩, ?_⟩
      walk_at "w"
      refine ⟨_, _, rfl, by decide +kernel, fun h h0 h1 => ?_⟩
      walk_at "w"
      refine ⟨by show 3 ≤ line; decide, ?_⟩
      walk_at "w"
      refine ⟨lt_line (by omega), ?_⟩
      exact ⟨_, _, _, _, _, _, rfl, goodS_app hg' (good_mk p0 (by omega) (by omega) h0), by simp; omega⟩
    · exact ⟨_, _, _, _, _, _, rfl, hg', by omega⟩
  · rintro ρ ⟨xs', s3, s4, s5, s6, s7, rfl, hg', hl'⟩
    refine steps_mid hm k ?_ hg'
    rw [ints_len] at hl'
    have : (if 60 - (xs.length : Int) < r then 60 - (xs.length : Int) else r).toNat ≤ 60 - xs.length := by
      split <;> omega
    have hl' : xs'.length ≤ xs.length + (if 60 - (xs.length : Int) < r then 60 - (xs.length : Int) else r).toNat := hl'
    omega
theorem p_law_steps (ds : List D) (R : SV → Prop) (F : Exn → Prop) (h : s_law_steps ds R F) : rd_law_steps (endsF [.t, .s] ds R F) (slots0 [.t, .s] ds ++ List.replicate 6 .no) := by
  obtain ⟨a, m, rfl, hm, k⟩ := h
  walk_at "w"
  refine ⟨by show 0 ≤ line; decide, ?_⟩
  walk_at "w"
  refine ⟨_, _, rfl, by decide +kernel, fun r h0 h1 => ?_⟩
  walk_at "w"
  refine ifB.mk (fun hb => ?_) (fun hb => ?_)
  · walk_at "w"
    refine ⟨by omega, ?_⟩
    walk_at "w"
    refine ⟨fun i ρ => ∃ xs at_ s4 s5 s6 s7, ρ = [.sto a, .fr true (.int m), .ol true xs, .fr true (.int at_), s4, s5, s6, s7] ∧ goodS m xs ∧ xs.length ≤ i ∧ 0 ≤ at_ ∧ at_ ≤ m, ⟨[], 0, _, _, _, _, rfl, fun d hd => (nomatch hd), Nat.le_refl _, by omega, by omega⟩, ?_, ?_⟩
    · rintro i x ρ hx ⟨xs, at_, s4, s5, s6, s7, rfl, hg, hl, a0, a1⟩
      obtain ⟨hi, rfl⟩ := ints_get hx
      walk_at "w"
      refine ifB.mk (fun hb => ?_) (fun hb => ?_)
      · have hb : at_ < m := of_decide_eq_true hb
        walk_at "w"
        refine ⟨trivial, ?_⟩
        walk_at "w"
        refine ⟨_, _, rfl, by (try dsimp only) <;> split <;> omega, fun q q0 q1 => ?_⟩
        have q2 : q < m - at_ := by
          have q1 : q < (if 9 < m - at_ then 9 else m - at_) ∨ q = 0 := q1
          split at q1 <;> omega
        walk_at "w"
        refine ⟨⟨by decide, .inl ⟨by decide, by decide⟩⟩, ?_⟩
        walk_at "w"
        refine ⟨_, _, rfl, by decide +kernel, fun h h0 h1 => ?_⟩
        walk_at "w"
        refine ⟨by show 3 ≤ line; decide, ?_⟩
        walk_at "w"
        refine ⟨lt_line (by omega), ?_⟩
        exact ⟨_, _, _, _, _, _, rfl, goodS_app hg (good_mk a0 (by omega) (by omega) h0), by simp; omega, by omega, by omega⟩
      · exact ⟨_, _, _, _, _, _, rfl, hg, by omega, a0, a1⟩
    · rintro ρ ⟨xs, at_, s4, s5, s6, s7, rfl, hg, hl, a0, a1⟩
      refine steps_2 hm k ?_ hg
      rw [ints_len] at hl
      omega
  · exact steps_2 hm k (xs := []) (by simp) fun d hd => (nomatch hd)

def tb : Nat → Nat
  | 0 => 0
  | i + 1 => tb i + min (60 - i) 16
theorem tb_le : ∀ i, i ≤ 60 → tb i ≤ 840 := by decide +kernel
theorem goodS_cat {m : Int} {xs ys : List D} (h : goodS m xs) (h2 : goodS m ys) : goodS m (xs ++ ys) := fun e he => (List.mem_append.mp he).elim (h e) (h2 e)
theorem p_law_many_steps (ds : List D) (R : SV → Prop) (F : Exn → Prop) (h : s_law_many_steps ds R F) : rd_law_many_steps (endsF [.t, .s] ds R F) (slots0 [.t, .s] ds ++ List.replicate 5 .no) := by
  obtain ⟨a, m, rfl, hm, k⟩ := h
  walk_at "w"
  refine ⟨_, _, rfl, by decide +kernel, fun s s0 s1 => ?_⟩
  walk_at "w"
  refine ⟨_, _, rfl, by decide +kernel, fun t t0 t1 => ?_⟩
  walk_at "w"
  refine ⟨by show 0 ≤ line; decide, ?_⟩
  walk_at "w"
  refine ⟨by omega, ?_⟩
  walk_at "w"
  refine ⟨fun i ρ => ∃ xs s5 s6, ρ = [.sto a, .fr true (.int m), .fr true (.int (4 + s)), .fr true (.int t), .ol true xs, s5, s6] ∧ goodS m xs ∧ xs.length ≤ tb i, ⟨_, _, _, rfl, fun d hd => (nomatch hd), Nat.le_refl _⟩, ?_, ?_⟩
  · rintro i x ρ hx ⟨xs, s5, s6, rfl, hg, hl⟩
    obtain ⟨hi, rfl⟩ := ints_get hx
    walk_at "w"
    refine ⟨by refine ⟨?_, ?_, ?_, ?_⟩ <;> (try dsimp only) <;> (try split) <;> omega, ?_⟩
    walk_at "w"
    refine lc_all (P := fun d => goodStep m d = true) (fun j y acc hy h1 h2 Iv hI => ?_) fun acc h1 h2 => ?_
    · obtain ⟨hj, rfl⟩ := ints_get hy
      walk_at "w"
      refine ifB.T rfl ?_
      walk_at "w"
      refine ⟨by constructor <;> (try dsimp only) <;> omega, ?_⟩
      walk_at "w"
      refine ⟨.inr (by omega), ?_⟩
      walk_at "w"
      refine ⟨(by decide : (0 : Int) < 13), ?_⟩
      walk_at "w"
      refine ⟨by show 3 ≤ line; decide, ?_⟩
      walk_at "w"
      have hb : 0 + (i : Int) + 1 + (j : Nat) ≤ m := by
        have hj : j < ((if 0 + (i : Int) + (4 + s) < m then 0 + (i : Int) + (4 + s) else m) + 1 - (0 + (i : Int) + 1)).toNat := hj
        split at hj <;> omega
      have hn : j ≤ 840 := by omega
      exact ⟨lt_line (by rw [h1]; omega), hI _ (good_mk (by omega) (by omega) hb (Int.emod_nonneg _ (by decide)))⟩
    · rw [ints_len] at h1
      walk_at "w"
      have hlen : acc.length ≤ min (60 - i) 16 := by
        have h1 : acc.length = ((if 0 + (i : Int) + (4 + s) < m then 0 + (i : Int) + (4 + s) else m) + 1 - (0 + (i : Int) + 1)).toNat := h1
        rw [h1]
        split <;> omega
      have hl3 := tb_le i (by omega)
      refine ⟨Nat.le_of_lt (lt_line (by omega)), ?_⟩
      refine ⟨_, _, _, rfl, goodS_cat hg h2, ?_⟩
      rw [List.length_append]
      show _ ≤ tb i + min (60 - i) 16
      omega
  · rintro ρ ⟨xs, s5, s6, rfl, hg, hl⟩
    rw [ints_len] at hl
    have hl2 := tb_le m.toNat (by omega)
    walk_at "w"
    exact ⟨k xs (by omega) hg, trivial, .inl rfl, trivial, trivial⟩

theorem ix_at {z : Int} {n : Nat} (h0 : 0 ≤ z) (h1 : z < n) : L2.ixN n z = some z.toNat := by
  unfold L2.ixN
  rw [if_pos h0, if_pos h1]
theorem pap_at {m : Int} {xs : List D} {i : Int} (h : pap m xs) (h0 : 0 ≤ i) (h1 : i ≤ m) : i < xs.length ∧ L2.atI xs i = some (el xs i) ∧ (el xs i = .non ∨ ∃ z : Int, el xs i = .int z ∧ 0 ≤ z) := by
  have hl : i < xs.length := by have := h.1; omega
  obtain ⟨e, m⟩ := el_at h0 hl
  exact ⟨hl, e, entry_cases (h.2 _ m)⟩
theorem pap_set {m : Int} {xs : List D} {d : D} (j : Nat) (h : pap m xs) (hd : entry d = true) : pap m (xs.set j d) := by
  refine ⟨by rw [List.length_set]; exact h.1, fun e he => ?_⟩
  rcases List.mem_or_eq_of_mem_set he with z | z
  · exact h.2 e z
  · rw [z]; exact hd
theorem int_entry {z : Int} (h : 0 ≤ z) : entry (.int z) = true := by
  show decide (0 ≤ z) = true
  exact decide_eq_true h
theorem p_law_least_harms (ds : List D) (R : SV → Prop) (F : Exn → Prop) (h : s_law_least_harms ds R F) : rd_law_least_harms (endsF [.s, .s] ds R F) (slots0 [.s, .s] ds ++ List.replicate 4 .no) := by
  obtain ⟨m, ss, rfl, hm, hg, k⟩ := h
  walk_at "w"
  refine ⟨by show 1 ≤ line; decide, ?_⟩
  walk_at "w"
  refine ⟨by show 1 ≤ line; decide, ?_⟩
  walk_at "w"
  refine ⟨⟨by omega, by omega, Nat.le_of_lt (lt_line (by show 1 * m.toNat ≤ 2000; omega))⟩, ?_⟩
  walk_at "w"
  rw [List.flatten_replicate_singleton]
  have h0 : pap m ([.int 0] ++ List.replicate m.toNat .non) := by
    refine ⟨?_, fun d hd => ?_⟩
    · rw [List.length_append, List.length_replicate, List.length_singleton]
      omega
    · rcases List.mem_append.mp hd with z | z
      · rw [List.mem_singleton.mp z]; rfl
      · rw [List.eq_of_mem_replicate z]; rfl
  refine ⟨Nat.le_of_lt (lt_line (by have := h0.1; rw [List.length_append] at this; omega)), ?_⟩
  generalize [D.int 0] ++ List.replicate m.toNat .non = xs0 at h0
  walk_at "w"
  refine ⟨by omega, ?_⟩
  walk_at "w"
  refine ⟨fun i ρ => ∃ xs s3 s4 s5, ρ = [.fr true (.int m), .fr true (.lst ss), .ol true xs, s3, s4, s5] ∧ pap m xs, ⟨_, _, _, _, rfl, h0⟩, ?_, ?_⟩
  · rintro i x ρ hx ⟨xs, s3, s4, s5, rfl, hp⟩
    obtain ⟨hi, rfl⟩ := ints_get hx
    walk_at "w"
    refine ⟨fun _ ρ => ∃ xs s4 s5, ρ = [.fr true (.int m), .fr true (.lst ss), .ol true xs, .fr true (.int (0 + (i : Nat))), s4, s5] ∧ pap m xs, ⟨_, _, _, rfl, hp⟩, ?_, ?_⟩
    · rintro j x ρ hx ⟨xs, s4, s5, rfl, hp⟩
      obtain ⟨a, b, h, rfl, a0, ab, bm, h0⟩ := good_of (hg _ (List.mem_of_getElem? hx))
      walk_at "w"
      refine ⟨.int a, rfl, ?_⟩
      walk_at "w"
      refine ⟨⟨rfl, rfl, Nat.le_of_ble_eq_true rfl, Nat.le_of_ble_eq_true rfl⟩, ?_⟩
      walk_at "w"
      refine ifB.mk (fun hb => ?_) (fun hb => ifB.F rfl ⟨_, _, _, rfl, hp⟩)
      have hb : a = 0 + (i : Int) := by simpa [D.eqv] using hb
      obtain ⟨la, ea, ca⟩ := pap_at hp (i := 0 + (i : Int)) (by omega) (by omega)
      obtain ⟨lb, eb, cb⟩ := pap_at hp (i := b) (by omega) (by omega)
      walk_at "w"
      refine ⟨_, ea, ?_⟩
      rcases ca with z | ⟨x, z, x0⟩
      · rw [z]
        walk_at "w"
        refine ⟨rfl, ?_⟩
        walk_at "w"
        refine ifB.F rfl ?_
        exact ⟨_, _, _, rfl, hp⟩
      · rw [z]
        walk_at "w"
        refine ⟨rfl, ?_⟩
        walk_at "w"
        refine ifB.T rfl ?_
        walk_at "w"
        refine ⟨_, ea, ?_⟩
        rw [z]
        walk_at "w"
        refine ⟨_, rfl, ?_⟩
        walk_at "w"
        refine ⟨_, rfl, ?_⟩
        walk_at "w"
        refine ⟨_, eb, ?_⟩
        have fin : ∀ s4 s5, ∃ xs' s4' s5', ([.fr true (.int m), .fr true (.lst ss), .ol true (xs.set b.toNat (.int (x + h))), .fr true (.int (0 + (i : Nat))), s4, s5] : List SV) = [.fr true (.int m), .fr true (.lst ss), .ol true xs', .fr true (.int (0 + (i : Nat))), s4', s5'] ∧ pap m xs' := fun s4 s5 => ⟨_, _, _, rfl, pap_set _ hp (int_entry (by omega))⟩
        rcases cb with w | ⟨y, w, y0⟩
        · rw [w]
          walk_at "w"
          refine ⟨rfl, ?_⟩
          walk_at "w"
          refine ifB.T rfl ?_
          walk_at "w"
          refine ifB.T rfl ?_
          walk_at "w"
          refine ⟨rfl, ?_⟩
          walk_at "w"
          refine ⟨_, rfl, ?_⟩
          walk_at "w"
          refine ⟨_, ix_at (by omega) lb, ?_⟩
          exact fin _ _
        · rw [w]
          walk_at "w"
          refine ⟨rfl, ?_⟩
          walk_at "w"
          refine ifB.F rfl ?_
          walk_at "w"
          refine ⟨_, rfl, ?_⟩
          walk_at "w"
          refine ⟨_, eb, ?_⟩
          rw [w]
          walk_at "w"
          refine ifB.mk (fun hb => ?_) (fun hb => ⟨_, _, _, rfl, hp⟩)
          walk_at "w"
          refine ⟨rfl, ?_⟩
          walk_at "w"
          refine ⟨_, rfl, ?_⟩
          walk_at "w"
          refine ⟨_, ix_at (by omega) lb, ?_⟩
          exact fin _ _
    · rintro ρ ⟨xs, s4, s5, rfl, hp⟩
      exact ⟨_, _, _, _, rfl, hp⟩
  · rintro ρ ⟨xs, s3, s4, s5, rfl, hp⟩
    walk_at "w"
    exact ⟨k xs hp, trivial, trivial, trivial, trivial⟩

local macro_rules | `(tactic| walk_at "ints") => `(tactic| exact ⟨rfl, rfl, Nat.le_of_ble_eq_true rfl, Nat.le_of_ble_eq_true rfl⟩)
local macro_rules | `(tactic| walk_at "T") => `(tactic| ((conv => whnf); refine ifB.T rfl ?_))
local macro_rules | `(tactic| walk_at "F") => `(tactic| ((conv => whnf); refine ifB.F rfl ?_))
theorem not_all {α : Type} {f : α → Bool} {xs : List α} {x : α} (h : x ∈ xs) (hf : f x = false) : xs.all f = false := by
  rw [List.all_eq_false]
  exact ⟨x, h, by rw [hf]; decide⟩
theorem closed_2 {m : Int} {ss xs : List D} {R : SV → Prop} {F : Exn → Prop} (hm : 0 ≤ m) (hg : goodS m ss) (hp : pap m xs) {s3 s4 : SV} (k : R (.fr true (.bl (ss.all (keptS xs))))) :
    rt_law_closed_2 (endsF [.s, .s, .s] [.int m, .lst ss, .lst xs] R F) [.fr true (.int m), .fr true (.lst ss), .fr true (.lst xs), s3, s4] := by
  walk_at "w"
  refine ⟨fun i ρ => ∃ s4, ρ = [.fr true (.int m), .fr true (.lst ss), .fr true (.lst xs), s3, s4] ∧ (ss.take i).all (keptS xs) = true, ⟨_, rfl, rfl⟩, ?_, ?_⟩
  · rintro i x ρ hx ⟨s4, rfl, ht⟩
    have hmx := List.mem_of_getElem? hx
    have no : keptS xs x = false → R (.fr true (.bl false)) := fun z => by
      rw [not_all hmx z] at k
      exact k
    have yes : keptS xs x = true → ((ss.take (i + 1)).all (keptS xs)) = true := fun z => by
      obtain ⟨hi, rfl⟩ := List.getElem?_eq_some_iff.mp hx
      rw [← List.take_append_getElem hi, List.all_append, ht, List.all_cons, z]
      rfl
    obtain ⟨a, b, h, rfl, a0, ab, bm, h0⟩ := good_of (hg _ hmx)
    obtain ⟨la, ea, ca⟩ := pap_at hp (i := a) (by omega) (by omega)
    obtain ⟨lb, eb, cb⟩ := pap_at hp (i := b) (by omega) (by omega)
    have ks : keptS xs (.tup [.int a, .int b, .int h]) = kept xs a b h := rfl
    rw [ks] at no yes
    unfold kept at no yes
    walk_at "w"
    refine ⟨_, rfl, ?_⟩
    walk_at "w"
    refine ⟨_, ea, ?_⟩
    rcases ca with z | ⟨x, z, x0⟩
    · rw [z] at no yes ⊢
      walk_at "w"
      refine ⟨rfl, ?_⟩
      walk_at "F"
      exact ⟨_, rfl, yes rfl⟩
    · rw [z] at no yes ea ⊢
      walk_at "w"
      refine ⟨rfl, ?_⟩
      walk_at "T"
      walk_at "w"
      refine ⟨_, rfl, ?_⟩
      walk_at "w"
      refine ⟨_, eb, ?_⟩
      rcases cb with w | ⟨y, w, y0⟩
      · rw [w] at no yes ⊢
        walk_at "w"
        refine ⟨rfl, ?_⟩
        walk_at "T"
        walk_at "T"
        walk_at "w"
        exact ⟨no rfl, trivial, trivial, trivial, trivial, trivial⟩
      · rw [w] at no yes eb ⊢
        walk_at "w"
        refine ⟨rfl, ?_⟩
        walk_at "F"
        walk_at "w"
        refine ⟨_, rfl, ?_⟩
        walk_at "w"
        refine ⟨_, eb, ?_⟩
        walk_at "w"
        refine ⟨_, rfl, ?_⟩
        walk_at "w"
        refine ⟨_, ea, ?_⟩
        walk_at "w"
        refine ⟨_, rfl, ?_⟩
        walk_at "w"
        refine ifB.mk (fun hb => ?_) (fun hb => ?_)
        · walk_at "w"
          refine ⟨no (decide_eq_false (by have := of_decide_eq_true hb; omega)), trivial, trivial, trivial, trivial, trivial⟩
        · exact ⟨_, rfl, yes (decide_eq_true (by have := of_decide_eq_false hb; omega))⟩
  · rintro ρ ⟨s4, rfl, ht⟩
    rw [List.take_length] at ht
    rw [ht] at k
    walk_at "w"
    exact ⟨k, trivial, trivial, trivial, trivial, trivial⟩
theorem p_law_closed (ds : List D) (R : SV → Prop) (F : Exn → Prop) (h : s_law_closed ds R F) : rd_law_closed (endsF [.s, .s, .s] ds R F) (slots0 [.s, .s, .s] ds ++ List.replicate 2 .no) := by
  obtain ⟨m, ss, p, rfl, hm, hg, hp, k⟩ := h
  obtain ⟨pp, ps⟩ := pl_cases hp
  walk_at "w"
  refine ⟨pp, ?_⟩
  cases p with
  | lst xs =>
    obtain ⟨hxl, hxp⟩ := ps xs (.inr rfl)
    rw [shut_lst] at k
    walk_at "F"
    walk_at "w"
    refine ⟨by walk_at "ints", ?_⟩
    walk_at "w"
    refine ifB.mk (fun hb => ?_) (fun hb => ?_)
    · walk_at "w"
      refine ⟨?_, trivial, trivial, trivial, trivial, trivial⟩
      have hb : ¬ (xs.length : Int) = m + 1 := by simpa [D.eqv] using hb
      rw [decide_eq_false hb] at k
      exact k
    · have hb : (xs.length : Int) = m + 1 := by simpa [D.eqv] using hb
      rw [decide_eq_true hb] at k
      walk_at "w"
      refine ⟨fun i ρ => ∃ s3, ρ = [.fr true (.int m), .fr true (.lst ss), .fr true (.lst xs), s3, .no] ∧ (xs.take i).all entry = true, ⟨_, rfl, rfl⟩, ?_, ?_⟩
      · rintro i x ρ hx ⟨s3, rfl, ht⟩
        have hmx := List.mem_of_getElem? hx
        have pxx := (pl_cases (hxp _ hmx)).1
        have no : entry x = false → R (.fr true (.bl false)) := fun z => by
          rw [not_all hmx z] at k
          exact k
        have yes : entry x = true → ((xs.take (i + 1)).all entry) = true := fun z => by
          obtain ⟨hi, rfl⟩ := List.getElem?_eq_some_iff.mp hx
          rw [← List.take_append_getElem hi, List.all_append, ht, List.all_cons, z]
          rfl
        walk_at "w"
        refine ⟨rfl, ?_⟩
        have px := hxp _ hmx
        cases x with
        | non =>
          walk_at "F"
          walk_at "F"
          exact ⟨_, rfl, yes rfl⟩
        | int z =>
          walk_at "T"
          walk_at "w"
          refine ⟨_, rfl, px, ?_⟩
          walk_at "F"
          walk_at "w"
          refine ifB.mk (fun hb => ?_) (fun hb => ?_)
          · walk_at "w"
            refine ⟨no (decide_eq_false (by have := of_decide_eq_true hb; omega)), trivial, trivial, trivial, trivial, trivial⟩
          · exact ⟨_, rfl, yes (int_entry (by have := of_decide_eq_false hb; omega))⟩
        | _ =>
          walk_at "T"
          walk_at "w"
          refine ⟨_, rfl, px, ?_⟩
          walk_at "T"
          walk_at "T"
          walk_at "w"
          exact ⟨no rfl, trivial, trivial, trivial, trivial, trivial⟩
      · rintro ρ ⟨s3, rfl, ht⟩
        rw [List.take_length] at ht
        rw [ht] at k
        have pa : pap m xs := ⟨hb, List.all_eq_true.mp ht⟩
        obtain ⟨la, ea, ca⟩ := pap_at pa (i := 0) (by omega) (by omega)
        walk_at "w"
        refine ⟨_, ea, ?_⟩
        rcases ca with z | ⟨x, z, x0⟩
        · rw [z] at k ⊢
          walk_at "w"
          refine ⟨by walk_at "ints", ?_⟩
          walk_at "T"
          walk_at "w"
          exact ⟨k, trivial, trivial, trivial, trivial, trivial⟩
        · rw [z] at k ⊢
          walk_at "w"
          refine ⟨by walk_at "ints", ?_⟩
          walk_at "w"
          refine ifB.mk (fun hb => ?_) (fun hb => ?_)
          · have hb : ¬ x = 0 := by simpa [D.eqv] using hb
            walk_at "w"
            refine ⟨?_, trivial, trivial, trivial, trivial, trivial⟩
            dsimp only at k
            rw [decide_eq_false hb] at k
            exact k
          · have hb : x = 0 := by simpa [D.eqv] using hb
            dsimp only at k
            rw [decide_eq_true hb] at k
            exact closed_2 hm hg pa k
  | _ =>
    walk_at "T"
    walk_at "T"
    walk_at "w"
    exact ⟨k, trivial, trivial, trivial, trivial, trivial⟩

theorem shut_pap {m : Int} {ss : List D} {p : D} (h : shut m ss p = true) : ∃ xs, p = .lst xs ∧ pap m xs := by
  cases p with
  | lst xs =>
    rw [shut_lst] at h
    obtain ⟨h1, h2⟩ := Bool.and_eq_true_iff.mp h
    exact ⟨xs, rfl, of_decide_eq_true h1, List.all_eq_true.mp (Bool.and_eq_true_iff.mp h2).1⟩
  | _ => cases h
theorem p_law_due (ds : List D) (R : SV → Prop) (F : Exn → Prop) (h : s_law_due ds R F) : rd_law_due (endsF [.s, .s, .s, .s] ds R F) (slots0 [.s, .s, .s, .s] ds ++ List.replicate 0 .no) := by
  obtain ⟨m, ss, p, h, rfl, hm, hg, hp, hh, k⟩ := h
  walk_at "w"
  refine ⟨_, _, _, rfl, hm, hg, hp, ?_⟩
  unfold bw at k
  cases es : shut m ss p with
  | false =>
    rw [es] at k
    walk_at "T"
    walk_at "w"
    exact ⟨k, trivial, trivial, trivial, trivial, trivial, trivial⟩
  | true =>
    rw [es] at k
    obtain ⟨xs, rfl, pa⟩ := shut_pap es
    obtain ⟨la, ea, ca⟩ := pap_at pa (i := m) (by omega) (by omega)
    have k : R (.fr true (.bl (last m h (.lst xs)))) := k
    unfold last at k
    dsimp only at k
    walk_at "F"
    walk_at "w"
    refine ⟨_, ea, ?_⟩
    rcases ca with z | ⟨x, z, x0⟩
    · rw [z] at k ⊢
      walk_at "w"
      refine ⟨rfl, ?_⟩
      walk_at "T"
      walk_at "w"
      exact ⟨k, trivial, trivial, trivial, trivial, trivial, trivial⟩
    · rw [z] at k ea ⊢
      walk_at "w"
      refine ⟨rfl, ?_⟩
      walk_at "F"
      walk_at "w"
      refine ⟨rfl, ?_⟩
      cases h with
      | non =>
        walk_at "w"
        exact ifB.F rfl ⟨k, trivial, trivial, trivial, trivial, trivial, trivial⟩
      | int hi =>
        walk_at "w"
        refine ifB.T rfl ?_
        walk_at "w"
        refine ⟨_, ea, ?_⟩
        walk_at "w"
        exact ⟨k, trivial, trivial, trivial, trivial, trivial, trivial⟩
      | _ => cases hh
theorem sIx_at {n : Nat} {d : Nat} {z : Int} (h0 : 0 ≤ z) (h1 : z ≤ n) : HT.sIx n d (some z) = z.toNat := by
  show (if z < 0 then (z + (n : Int)).toNat else min z.toNat n) = z.toNat
  rw [if_neg (by omega)]
  omega
theorem cut_lo {xs : List D} {z : Int} (h0 : 0 ≤ z) (h1 : z ≤ xs.length) : cutD xs (some z) none = xs.drop z.toNat := by
  unfold cutD
  rw [sIx_at h0 h1]
  exact List.take_of_length_le (by rw [List.length_drop]; exact Nat.le_refl _)
theorem cut_hi {xs : List D} {z : Int} (h0 : 0 ≤ z) (h1 : z ≤ xs.length) : cutD xs none (some z) = xs.take z.toNat := by
  unfold cutD
  rw [sIx_at h0 h1]
  rfl
theorem pap_map {m : Int} {xs ys : List D} (h : pap m xs) (hl : ys.length = xs.length) (hy : ∀ d ∈ ys, entry d = true) : pap m ys := ⟨by rw [hl]; exact h.1, hy⟩
theorem bent_1 {a : Addr} {m : Int} {xs ys : List D} {R : SV → Prop} {F : Exn → Prop} (k : ∀ ys : List D, pap m ys → R (.ol true ys)) (pa : pap m ys) {s3 s4 s5 : SV} :
    rt_law_bent_1 (endsF [.t, .s] [.ref a, .lst xs] R F) [.sto a, .fr true (.lst xs), .ol true ys, s3, s4, s5] := by
  walk_at "w"
  exact ⟨k ys pa, trivial, .inl rfl, trivial, trivial⟩
theorem bent_3 {a : Addr} {m t : Int} {xs : List D} {R : SV → Prop} {F : Exn → Prop} (pa : pap m xs) (hm : 0 ≤ m ∧ m ≤ 60) (k : ∀ ys : List D, pap m ys → R (.ol true ys)) (t0 : 0 ≤ t) (t1 : t ≤ m) {s4 s5 : SV} :
    rt_law_bent_3 (endsF [.t, .s] [.ref a, .lst xs] R F) [.sto a, .fr true (.lst xs), .ol true xs, .fr true (.int t), s4, s5] := by
  have hxl := pa.1
  walk_at "w"
  refine ⟨_, _, rfl, by decide +kernel, fun c c0 c1 => ?_⟩
  walk_at "w"
  refine ⟨by walk_at "ints", ?_⟩
  walk_at "w"
  refine ifB.mk (fun hb => ?_) (fun hb => ?_)
  · walk_at "w"
    refine lc_all (P := fun d => entry d = true) (fun j y acc hy h1 h2 Iv hI => ?_) fun acc h1 h2 => ?_
    · have hjl := (List.getElem?_eq_some_iff.mp hy).1
      walk_at "T"
      walk_at "w"
      refine ⟨rfl, ?_⟩
      rcases entry_cases (pa.2 _ (List.mem_of_getElem? hy)) with rfl | ⟨z, rfl, z0⟩
      · walk_at "F"
        exact ⟨lt_line (by omega), hI _ rfl⟩
      · walk_at "T"
        exact ⟨lt_line (by omega), hI _ (int_entry z0)⟩
    · exact bent_1 (F := F) k (pap_map pa h1 h2)
  walk_at "w"
  refine ⟨by walk_at "ints", ?_⟩
  walk_at "w"
  refine ifB.mk (fun hb => ?_) (fun hb => ?_)
  · walk_at "w"
    refine ⟨rfl, ?_⟩
    walk_at "w"
    refine ⟨_, ix_at t0 (by omega), ?_⟩
    exact bent_1 (F := F) k (pap_set _ pa rfl)
  walk_at "w"
  refine ⟨by walk_at "ints", ?_⟩
  walk_at "w"
  refine ifB.mk (fun hb => ?_) (fun hb => ?_)
  · walk_at "w"
    refine ⟨⟨by decide, .inl ⟨by decide, by decide⟩⟩, ?_⟩
    walk_at "w"
    refine ⟨_, _, rfl, by decide +kernel, fun h h0 h1 => ?_⟩
    walk_at "w"
    refine ⟨rfl, ?_⟩
    walk_at "w"
    refine ⟨_, ix_at t0 (by omega), ?_⟩
    exact bent_1 (F := F) k (pap_set _ pa (int_entry h0))
  walk_at "w"
  refine ⟨by walk_at "ints", ?_⟩
  walk_at "w"
  refine ifB.mk (fun hb => ?_) (fun hb => ?_)
  · walk_at "w"
    refine lc_all (P := fun d => entry d = true) (fun j y acc hy h1 h2 Iv hI => ?_) fun acc h1 h2 => ?_
    · have hjl := (List.getElem?_eq_some_iff.mp hy).1
      walk_at "T"
      walk_at "w"
      refine ⟨rfl, ?_⟩
      rw [cut_lo t0 (by omega)] at hy hjl
      rw [List.length_drop] at hjl
      rcases entry_cases (pa.2 _ (List.mem_of_mem_drop (List.mem_of_getElem? hy))) with rfl | ⟨z, rfl, z0⟩
      · walk_at "F"
        exact ⟨lt_line (by omega), hI _ rfl⟩
      · walk_at "T"
        exact ⟨lt_line (by omega), hI _ rfl⟩
    · walk_at "w"
      rw [cut_lo t0 (by omega), List.length_drop] at h1
      rw [cut_hi t0 (by omega)]
      have hl : (xs.take t.toNat ++ acc).length = xs.length := by
        rw [List.length_append, List.length_take]
        omega
      refine ⟨Nat.le_of_lt (lt_line (by rw [List.length_append] at hl; omega)), ?_⟩
      exact bent_1 (F := F) k (pap_map pa hl fun d hd => (List.mem_append.mp hd).elim (fun z => pa.2 _ (List.mem_of_mem_take z)) (h2 d))
  obtain ⟨la, ea, ca⟩ := pap_at pa t0 t1
  walk_at "w"
  refine ⟨_, ea, ?_⟩
  rcases ca with z | ⟨x, z, x0⟩
  · rw [z]
    walk_at "w"
    refine ⟨rfl, ?_⟩
    walk_at "F"
    exact bent_1 (F := F) k pa
  · rw [z] at ea ⊢
    walk_at "w"
    refine ⟨rfl, ?_⟩
    walk_at "T"
    walk_at "w"
    refine ⟨_, ea, ?_⟩
    walk_at "w"
    refine ⟨_, ea, ?_⟩
    walk_at "w"
    refine ⟨trivial, ?_⟩
    walk_at "w"
    refine ⟨by show 3 ≤ line; decide, ?_⟩
    walk_at "w"
    refine ⟨trivial, ?_⟩
    have hc : c = 4 ∨ c = 5 ∨ c = 6 := by
      simp [D.eqv] at *
      omega
    have fin : ∀ (d : D) (j : Int), (j = 0 ∧ d = .int (x + 1)) ∨ (j = 1 ∧ d = .int (if x - 1 > 0 then x - 1 else 0)) ∨ (j = 2 ∧ d = .int 0) → entry d = true := fun d j h => by
      rcases h with ⟨_, rfl⟩ | ⟨_, rfl⟩ | ⟨_, rfl⟩
      · exact int_entry (by omega)
      · exact int_entry (by split <;> omega)
      · rfl
    rcases hc with rfl | rfl | rfl
    all_goals
      walk_at "w"
      refine ⟨_, rfl, ?_⟩
      walk_at "w"
      refine ⟨rfl, ?_⟩
      walk_at "w"
      refine ⟨_, ix_at t0 (by omega), ?_⟩
    · exact bent_1 (F := F) k (pap_set _ pa (fin _ 0 (.inl ⟨rfl, rfl⟩)))
    · exact bent_1 (F := F) k (pap_set _ pa (fin _ 1 (.inr (.inl ⟨rfl, rfl⟩))))
    · exact bent_1 (F := F) k (pap_set _ pa (fin _ 2 (.inr (.inr ⟨rfl, rfl⟩))))
theorem p_law_bent (ds : List D) (R : SV → Prop) (F : Exn → Prop) (h : s_law_bent ds R F) : rd_law_bent (endsF [.t, .s] ds R F) (slots0 [.t, .s] ds ++ List.replicate 4 .no) := by
  obtain ⟨a, m, xs, rfl, pa, hm, k⟩ := h
  have hxl := pa.1
  walk_at "w"
  refine ⟨_, _, rfl, by rw [hxl]; exact Int.lt_of_le_of_lt (show m + 1 ≤ 61 by omega) (by decide +kernel), fun t t0 t1 => ?_⟩
  walk_at "w"
  refine ⟨_, _, rfl, by decide +kernel, fun o => ?_⟩
  cases o with
  | true =>
    walk_at "T"
    walk_at "w"
    refine ⟨trivial, ?_⟩
    exact bent_3 (t := (xs.length : Int) - 1) pa hm k (by omega) (by omega)
  | false =>
    walk_at "F"
    exact bent_3 pa hm k t0 (by omega)

theorem next_2 {a : Addr} {m s t h : Int} {p : D} {R : SV → Prop} {F : Exn → Prop} (k : ∀ d, goodStep m d = true → R (.fr true d)) (s0 : 0 ≤ s) (st : s < t) (tm : t ≤ m) (h0 : 0 ≤ h) {s6 : SV} :
    rt_law_next_step_2 (endsF [.t, .s, .s] [.ref a, .int m, p] R F) [.sto a, .fr true (.int m), .fr true p, .fr true (.int s), .fr true (.int t), .fr true (.int h), s6] := by
  walk_at "w"
  refine ⟨by show 3 ≤ line; decide, ?_⟩
  exact ⟨k _ (good_mk s0 st tm h0), trivial, .inl rfl, trivial, trivial, trivial⟩
theorem next_3 {a : Addr} {m s t h : Int} {p : D} {R : SV → Prop} {F : Exn → Prop} (hm : 1 ≤ m ∧ m ≤ 60) (hp : Pl p) (k : ∀ d, goodStep m d = true → R (.fr true d)) (s0 : 0 ≤ s) (st : s < t) (tm : t ≤ m) (h0 : 0 ≤ h) {s6 : SV} :
    rt_law_next_step_3 (endsF [.t, .s, .s] [.ref a, .int m, p] R F) [.sto a, .fr true (.int m), .fr true p, .fr true (.int s), .fr true (.int t), .fr true (.int h), s6] := by
  obtain ⟨pp, ps⟩ := pl_cases hp
  walk_at "w"
  refine ⟨pp, ?_⟩
  cases p with
  | lst xs =>
    obtain ⟨hxl, hxp⟩ := ps xs (.inr rfl)
    walk_at "T"
    walk_at "w"
    refine ⟨by walk_at "ints", ?_⟩
    walk_at "w"
    refine ifB.mk (fun hb => ?_) (fun hb => ?_)
    · have hb : (xs.length : Int) = m + 1 := by simpa [D.eqv] using hb
      obtain ⟨ea, ma⟩ := el_at (xs := xs) (i := s) s0 (by omega)
      obtain ⟨eb, mb⟩ := el_at (xs := xs) (i := t) (by omega) (by omega)
      walk_at "w"
      refine ⟨_, ea, ?_⟩
      walk_at "w"
      refine ⟨_, rfl, hxp _ ma, ?_⟩
      cases es : el xs s with
      | int x =>
        rw [es] at ea
        walk_at "T"
        walk_at "w"
        refine ⟨_, eb, ?_⟩
        walk_at "w"
        refine ⟨_, rfl, hxp _ mb, ?_⟩
        cases et : el xs t with
        | int y =>
          rw [et] at eb
          walk_at "T"
          walk_at "w"
          refine ⟨_, eb, ?_⟩
          walk_at "w"
          refine ⟨_, ea, ?_⟩
          walk_at "w"
          refine ⟨trivial, ?_⟩
          walk_at "w"
          refine ⟨_, _, rfl, by decide +kernel, fun c c0 c1 => ?_⟩
          walk_at "w"
          refine ⟨trivial, ?_⟩
          walk_at "w"
          refine ⟨_, _, rfl, by decide +kernel, fun e e0 e1 => ?_⟩
          walk_at "w"
          refine ifB.mk (fun hb => ?_) (fun hb => ?_)
          · walk_at "w"
            refine ifB.mk (fun hb => ?_) (fun hb => ?_)
            · exact next_2 k s0 st tm (of_decide_eq_true hb)
            · exact next_2 k s0 st tm h0
          · walk_at "F"
            exact next_2 k s0 st tm h0
        | _ =>
          walk_at "F"
          exact next_2 k s0 st tm h0
      | _ =>
        walk_at "F"
        walk_at "F"
        exact next_2 k s0 st tm h0
    · walk_at "F"
      exact next_2 k s0 st tm h0
  | _ =>
    walk_at "F"
    walk_at "F"
    exact next_2 k s0 st tm h0
theorem p_law_next_step (ds : List D) (R : SV → Prop) (F : Exn → Prop) (h : s_law_next_step ds R F) : rd_law_next_step (endsF [.t, .s, .s] ds R F) (slots0 [.t, .s, .s] ds ++ List.replicate 4 .no) := by
  obtain ⟨a, m, p, rfl, hm, hp, k⟩ := h
  walk_at "w"
  refine ⟨_, _, rfl, Int.lt_of_le_of_lt hm.2 (by decide +kernel), fun s s0 s1 => ?_⟩
  walk_at "w"
  refine ⟨trivial, ?_⟩
  walk_at "w"
  refine ⟨_, _, rfl, Int.lt_of_le_of_lt (show m - s ≤ 60 by omega) (by decide +kernel), fun c c0 c1 => ?_⟩
  have c1 : c < m - s ∨ c = 0 := c1
  walk_at "w"
  refine ⟨_, _, rfl, by decide +kernel, fun h h0 h1 => ?_⟩
  exact next_3 hm hp k s0 (by omega) (by omega) h0

theorem cut_mem {xs : List D} {lo hi : Option Int} {d : D} (h : d ∈ cutD xs lo hi) : d ∈ xs := List.mem_of_mem_drop (List.mem_of_mem_take h)
theorem cut_len {xs : List D} {lo hi : Option Int} : (cutD xs lo hi).length ≤ xs.length := by
  unfold cutD
  rw [List.length_take, List.length_drop]
  omega
theorem pl_entry {n : Nat} {d : D} (h : entry d = true) : pl (n + 1) d = true := by
  rcases entry_cases h with rfl | ⟨i, rfl, _⟩ <;> rfl
theorem pl_row {n : Nat} {xs : List D} (hl : xs.length ≤ 2000) (h : ∀ d ∈ xs, pl n d = true) : pl (n + 1) (.lst xs) = true ∧ pl (n + 1) (.tup xs) = true := by
  have e : (decide (xs.length ≤ 2000) && xs.all (pl n)) = true := by
    rw [decide_eq_true hl, List.all_eq_true.mpr h]
    rfl
  exact ⟨e, e⟩
theorem broken_2 {a : Addr} {m t : Int} {xs : List D} {w : D} {R : SV → Prop} {F : Exn → Prop} (pa : pap m xs) (hm : 0 ≤ m ∧ m ≤ 60) (k : ∀ sv, okSV 12 sv → R sv) (t0 : 0 ≤ t) (t1 : t ≤ m) (hw : pl 11 w = true) {s2 s5 : SV} :
    rt_law_broken_2 (endsF [.t, .s] [.ref a, .lst xs] R F) [.sto a, .fr true (.lst xs), s2, .fr true (.int t), .fr true w, s5] := by
  have hxl := pa.1
  walk_at "w"
  refine ⟨by show 1 ≤ line; decide, ?_⟩
  walk_at "w"
  have q1 := @cut_len xs none (some t)
  have q2 := @cut_len xs (some (t + 1)) none
  refine ⟨Nat.le_of_lt (lt_line (by show _ + 1 ≤ 2000; omega)), ?_⟩
  walk_at "w"
  refine ⟨Nat.le_of_lt (lt_line (by rw [List.length_append]; show _ + 1 + _ ≤ 2000; omega)), ?_⟩
  refine ⟨k _ (.inr (.inl ⟨_, rfl, (pl_row ?_ fun d hd => ?_).1⟩)), trivial, .inl rfl, trivial, trivial⟩
  · rw [List.length_append, List.length_append]; show _ + 1 + _ ≤ 2000; omega
  · rcases List.mem_append.mp hd with z | z
    · rcases List.mem_append.mp z with z | z
      · exact pl_entry (pa.2 _ (cut_mem z))
      · rw [List.mem_singleton.mp z]; exact hw
    · exact pl_entry (pa.2 _ (cut_mem z))
theorem p_law_broken (ds : List D) (R : SV → Prop) (F : Exn → Prop) (h : s_law_broken ds R F) : rd_law_broken (endsF [.t, .s] ds R F) (slots0 [.t, .s] ds ++ List.replicate 4 .no) := by
  obtain ⟨a, m, xs, rfl, pa, hm, k⟩ := h
  have hxl := pa.1
  have hpx : ∀ d ∈ xs, pl 9 d = true := fun d hd => pl_entry (pa.2 _ hd)
  have hx : pl 10 (.lst xs) = true ∧ pl 10 (.tup xs) = true := pl_row (by omega) hpx
  walk_at "w"
  refine ⟨_, _, rfl, by decide +kernel, fun c c0 c1 => ?_⟩
  walk_at "w"
  refine ⟨_, _, rfl, by rw [hxl]; exact Int.lt_of_le_of_lt (show m + 1 ≤ 61 by omega) (by decide +kernel), fun t t0 t1 => ?_⟩
  walk_at "w"
  refine ⟨by walk_at "ints", ?_⟩
  walk_at "w"
  refine ifB.mk (fun hb => ?_) (fun hb => ?_)
  · walk_at "w"
    refine ⟨_, rfl, fun sv hs => ?_⟩
    rcases hs with ⟨d, rfl, h⟩ | ⟨ys, rfl, h⟩ | ⟨kvs, rfl, h⟩
    · exact ⟨k (.fr true d) (.inl ⟨_, rfl, pl_up (by omega) h⟩), trivial, .inl rfl, trivial, trivial⟩
    · exact ⟨k (.ol true ys) (.inr (.inl ⟨_, rfl, pl_up (by omega) h⟩)), trivial, .inl rfl, trivial, trivial⟩
    · exact ⟨k (.od true kvs) (.inr (.inr ⟨_, rfl, pl_up (by omega) h⟩)), trivial, .inl rfl, trivial, trivial⟩
  walk_at "w"
  refine ⟨by walk_at "ints", ?_⟩
  walk_at "w"
  refine ifB.mk (fun hb => ?_) (fun hb => ?_)
  · walk_at "w"
    have q1 := @cut_len xs (some 1) none
    have q2 := @cut_len xs none (some (-1))
    have q3 := @cut_len xs none (some 1)
    walk_at "go"
    refine ⟨Nat.le_of_lt (lt_line (by show _ + 1 ≤ 2000; omega)), ?_⟩
    walk_at "go"
    refine ⟨Nat.le_of_lt (lt_line (by show _ + 1 ≤ 2000; omega)), ?_⟩
    walk_at "go"
    refine ⟨Nat.le_of_lt (lt_line (by omega)), ?_⟩
    walk_at "go"
    refine ⟨fun e => (nomatch e), fun x hx' => ?_⟩
    have hl : ∀ ys : List D, ys.length ≤ 2000 → (∀ d ∈ ys, entry d = true) → pl 12 (.lst ys) = true := fun ys h1 h2 => (pl_row h1 fun d hd => pl_entry (h2 d hd)).1
    have hpl : pl 12 x = true := by
      simp only [List.mem_cons, List.not_mem_nil, or_false] at hx'
      rcases hx' with rfl | rfl | rfl | rfl | rfl | rfl | rfl | rfl
      · exact pl_up (by omega) hx.2
      · exact hl _ (by omega) fun d hd => pa.2 _ (cut_mem hd)
      · exact hl _ (by omega) fun d hd => pa.2 _ (cut_mem hd)
      · exact hl _ (by rw [List.length_append]; show _ + 1 ≤ 2000; omega) fun d hd => (List.mem_append.mp hd).elim (pa.2 _) fun z => by rw [List.mem_singleton.mp z]; rfl
      · exact hl _ (by rw [List.length_append]; show _ + 1 ≤ 2000; omega) fun d hd => (List.mem_append.mp hd).elim (pa.2 _) fun z => by rw [List.mem_singleton.mp z]; rfl
      · exact hl _ (by rw [List.length_append]; omega) fun d hd => (List.mem_append.mp hd).elim (fun z => pa.2 _ (cut_mem z)) (pa.2 _)
      · exact pl_up (by omega) (pl_l1 hx.1).1
      · rfl
    exact ⟨k (.fr true x) (.inl ⟨_, rfl, hpl⟩), trivial, .inl rfl, trivial, trivial⟩
  walk_at "w"
  walk_at "go"
  refine ⟨fun e => (nomatch e), fun x hx => ?_⟩
  exact broken_2 pa hm k t0 (by omega) (List.all_eq_true.mp (by rfl) x hx)

theorem p_law_bad_name (f : Addr) (ask : AskP) (R : SV → Prop) (F : Exn → Prop) (h : s_law_bad_name ask R F) : rd_law_bad_name f ask (endsF [.s] [.ref f] R F) (.fr true (.ref f) :: List.replicate 2 .no) := by
  obtain ⟨nm, ha, k⟩ := h
  walk_at "w"
  refine ⟨rfl, ha _ _ ?_⟩
  refine ifB.T rfl ?_
  walk_at "go"
  walk_at "w"
  refine ⟨⟨rfl, Nat.le_of_ble_eq_true rfl, rfl, Nat.le_of_ble_eq_true rfl⟩, ?_⟩
  walk_at "go"

theorem ownSV_cases (p : D) : ownSV p = .fr true p ∨ (∃ xs, p = .lst xs ∧ ownSV p = .ol true xs) ∨ ∃ kvs, p = .dk kvs ∧ ownSV p = .od true kvs := by
  cases p with
  | lst xs => exact .inr (.inl ⟨xs, rfl, rfl⟩)
  | dk kvs => exact .inr (.inr ⟨kvs, rfl, rfl⟩)
  | _ => exact .inl rfl
theorem pl_good {m : Int} {d : D} {n : Nat} (h : goodStep m d = true) : pl (n + 2) d = true := by
  obtain ⟨a, b, hh, rfl, _⟩ := good_of h
  rfl
theorem pl_goodS {m : Int} {ss : List D} {n : Nat} (h : goodS m ss) (hl : ss.length ≤ 2000) : pl (n + 3) (.lst ss) = true := (pl_row hl fun d hd => pl_good (h d hd)).1
theorem chk_none {m : Int} {ss : List D} (hm : 0 ≤ m ∧ m ≤ 60) (h : goodS m ss) (hl : ss.length ≤ 1000) : chk (.int m) (.lst ss) = none := by
  have e1 : manyOk (.int m) = true := by
    show (decide (0 ≤ m) && decide (m ≤ 60)) = true
    rw [decide_eq_true hm.1, decide_eq_true hm.2]
    rfl
  have e2 : stepsOk (.int m) (.lst ss) = true := by
    show (decide (ss.length ≤ 1000) && ss.all (goodStep m)) = true
    rw [decide_eq_true hl, List.all_eq_true.mpr h]
    rfl
  unfold chk
  rw [if_pos e1, if_pos e2]
theorem pl_harm {h : D} (hh : harmOk h = true) : Pl h := by
  cases h with
  | non => exact ⟨1, rfl⟩
  | int _ => exact ⟨1, rfl⟩
  | _ => cases hh
theorem p_law_asked (ds : List D) (R : SV → Prop) (F : Exn → Prop) (h : s_law_asked ds R F) : rd_law_asked (endsF [.s, .s, .s, .s, .s] ds R F) (slots0 [.s, .s, .s, .s, .s] ds ++ List.replicate 3 .no) := by
  obtain ⟨m, ss, hs, p, rfl, hm, hg, hl, hh, hhl, hp, k⟩ := h
  have p20 : pl 20 p = true := pl_up (by omega) hp
  walk_at "w"
  refine ⟨fun i ρ => ∃ s5 s6 s7, ρ = [.fr true (.int m), .fr true (.lst ss), .fr true (.lst ss), .fr true (.lst hs), .fr true p, s5, s6, s7], ⟨_, _, _, rfl⟩, ?_, ?_⟩
  · rintro i x ρ hx ⟨s5, s6, s7, rfl⟩
    have hok := hh _ (List.mem_of_getElem? hx)
    walk_at "w"
    refine ⟨_, rfl, p20, ?_⟩
    rcases ownSV_cases p with e | ⟨xs, rfl, e⟩ | ⟨kvs, rfl, e⟩
    all_goals
      rw [e]
      walk_at "w"
      refine ⟨_, _, _, _, rfl, ⟨1, rfl⟩, ⟨_, pl_goodS (n := 0) hg (by omega)⟩, pl_harm hok, ⟨_, hp⟩, ?_⟩
      rw [chk_none hm hg (by omega)]
      dsimp only
      rw [if_pos hok]
      walk_at "w"
      refine ⟨⟨rfl, rfl⟩, ?_⟩
      walk_at "w"
      refine ⟨_, _, _, _, rfl, ⟨1, rfl⟩, ⟨_, pl_goodS (n := 0) hg (by omega)⟩, pl_harm hok, ⟨_, hp⟩, ?_⟩
      rw [chk_none hm hg (by omega)]
      dsimp only
      rw [if_pos hok]
      walk_at "w"
      refine ⟨by show 2 ≤ line; decide, ?_⟩
      walk_at "w"
      refine ⟨_, _, _, _, rfl, hm.1, hg, ⟨_, hp⟩, hok, ?_⟩
      walk_at "w"
      refine ⟨by show 1 ≤ line; decide, ?_⟩
      walk_at "w"
      refine ⟨⟨by decide, by decide, by show 1 * 2 ≤ line; decide⟩, ?_⟩
      walk_at "w"
      refine ⟨.lst [.bl _, .bl _], rfl, rfl, ?_⟩
      walk_at "F"
      walk_at "w"
      refine ⟨_, rfl, p20, ?_⟩
      walk_at "F"
      exact ⟨_, _, _, rfl⟩
  · rintro ρ ⟨s5, s6, s7, rfl⟩
    walk_at "w"
    exact ⟨_, rfl, pl_up (by omega) (pl_goodS (n := 0) hg (by omega)), k, trivial, trivial, trivial, trivial, trivial, trivial, trivial⟩

theorem log_small : ∀ n : Nat, n ≤ 60 → n.log2 < 1920 := by decide +kernel
/-- how the three arguments stand -/
def St (m : Int) (ss : List D) (h a0 a1 a2 : D) (f : Int) : Prop :=
  (f = 3 ∧ a0 = .int m ∧ a1 = .lst ss ∧ a2 = h) ∨ (f = 0 ∧ manyOk a0 = false) ∨ (f = 1 ∧ a0 = .int m ∧ stepsOk (.int m) a1 = false) ∨ (f = 2 ∧ a0 = .int m ∧ a1 = .lst ss ∧ harmOk a2 = false)
def nmOf (f : Int) : Str := if f = 0 then "many" else if f = 1 then "steps" else "harm"
theorem st_rng {m : Int} {ss : List D} {h a0 a1 a2 : D} {f : Int} (st : St m ss h a0 a1 a2 f) : 0 ≤ f ∧ f ≤ 3 := by
  rcases st with ⟨e, _⟩ | ⟨e, _⟩ | ⟨e, _⟩ | ⟨e, _⟩ <;> omega
theorem chk_many {a0 a1 : D} (h : manyOk a0 = false) : chk a0 a1 = some "many" := by
  unfold chk
  rw [h]
  rfl
theorem chk_steps {m : Int} {a1 : D} (hm : 0 ≤ m ∧ m ≤ 60) (h : stepsOk (.int m) a1 = false) : chk (.int m) a1 = some "steps" := by
  have e1 : manyOk (.int m) = true := by
    show (decide (0 ≤ m) && decide (m ≤ 60)) = true
    rw [decide_eq_true hm.1, decide_eq_true hm.2]
    rfl
  unfold chk
  rw [if_pos e1, h]
  rfl
theorem refused_5 {a : Addr} {m : Int} {ss L0 L1 L2 : List D} {h p : D} {R : SV → Prop} {F : Exn → Prop} (hm : 0 ≤ m ∧ m ≤ 60) (hg : goodS m ss) (hl : ss.length ≤ 960) (hh : harmOk h = true) (hp : pl 15 p = true) (k : R (.fr true (.bl true)))
    (h0 : L0 ≠ [] ∧ L0.length ≤ 2000 ∧ ∀ x ∈ L0, manyOk x = false ∧ pl 12 x = true) (h1 : L1 ≠ [] ∧ L1.length ≤ 2000 ∧ ∀ x ∈ L1, stepsOk (.int m) x = false ∧ pl 12 x = true) (h2 : L2 ≠ [] ∧ L2.length ≤ 2000 ∧ ∀ x ∈ L2, harmOk x = false ∧ pl 12 x = true) {s5 s6 s7 s8 s9 s13 s14 : SV} :
    rt_law_refused_5 (endsF [.t, .s, .s, .s, .s] [.ref a, .int m, .lst ss, h, p] R F) [.sto a, .fr true (.int m), .fr true (.lst ss), .fr true h, .fr true p, s5, s6, s7, s8, s9, .ol true [.lst L0, .lst L1, .lst L2], .ol true [.int m, .lst ss, h], .fr true (.int 3), s13, s14] := by
  walk_at "w"
  refine ⟨⟨by decide, by decide⟩, ?_⟩
  walk_at "w"
  refine ⟨fun i ρ => ∃ a0 a1 a2 f s6 s13, ρ = [.sto a, .fr true (.int m), .fr true (.lst ss), .fr true h, .fr true p, s5, s6, s7, s8, s9, .ol true [.lst L0, .lst L1, .lst L2], .ol true [a0, a1, a2], .fr true (.int f), s13, s14] ∧ St m ss h a0 a1 a2 f ∧ (Pl a0 ∧ Pl a1 ∧ Pl a2) ∧ (f = 3 → i = 0), ⟨_, _, _, _, _, _, rfl, .inl ⟨rfl, rfl, rfl, rfl⟩, ⟨⟨1, rfl⟩, ⟨_, pl_goodS (n := 0) hg (by omega)⟩, pl_harm hh⟩, fun _ => rfl⟩, ?_, ?_⟩
  · rintro i x ρ hx ⟨a0, a1, a2, f, s6, s13, rfl, st, ⟨p0, p1, p2⟩, _⟩
    walk_at "w"
    refine ⟨_, _, rfl, by decide +kernel, fun t t0 t1 => ?_⟩
    have ht : t = 0 ∨ t = 1 ∨ t = 2 := by omega
    have hr := st_rng st
    rcases ht with rfl | rfl | rfl
    · walk_at "w"
      refine ⟨_, rfl, ?_⟩
      walk_at "w"
      refine ⟨_, _, rfl, Nat.le_of_lt (lt_line h0.2.1), fun e => absurd e h0.1, fun y hy => ?_⟩
      obtain ⟨by1, by2⟩ := h0.2.2 y hy
      walk_at "w"
      refine ⟨rfl, ?_⟩
      walk_at "w"
      refine ⟨_, rfl, ?_⟩
      walk_at "w"
      refine ⟨y, a1, a2, _, _, _, rfl, .inr (.inl ⟨?_, by1⟩), ⟨⟨_, by2⟩, p1, p2⟩, ?_⟩
      · split <;> omega
      · intro e
        have e : (if 0 < f then 0 else f) = 3 := e
        split at e <;> omega
    · walk_at "w"
      refine ⟨_, rfl, ?_⟩
      walk_at "w"
      refine ⟨_, _, rfl, Nat.le_of_lt (lt_line h1.2.1), fun e => absurd e h1.1, fun y hy => ?_⟩
      obtain ⟨by1, by2⟩ := h1.2.2 y hy
      walk_at "w"
      refine ⟨rfl, ?_⟩
      walk_at "w"
      refine ⟨_, rfl, ?_⟩
      walk_at "w"
      refine ⟨a0, y, a2, _, _, _, rfl, ?_, ⟨p0, ⟨_, by2⟩, p2⟩, ?_⟩
      · rcases st with ⟨rfl, rfl, rfl, rfl⟩ | ⟨rfl, z⟩ | ⟨rfl, rfl, z⟩ | ⟨rfl, rfl, rfl, z⟩
        · exact .inr (.inr (.inl ⟨rfl, rfl, by1⟩))
        · exact .inr (.inl ⟨rfl, z⟩)
        · exact .inr (.inr (.inl ⟨rfl, rfl, by1⟩))
        · exact .inr (.inr (.inl ⟨rfl, rfl, by1⟩))
      · intro e
        have e : (if 1 < f then 1 else f) = 3 := e
        split at e <;> omega
    · walk_at "w"
      refine ⟨_, rfl, ?_⟩
      walk_at "w"
      refine ⟨_, _, rfl, Nat.le_of_lt (lt_line h2.2.1), fun e => absurd e h2.1, fun y hy => ?_⟩
      obtain ⟨by1, by2⟩ := h2.2.2 y hy
      walk_at "w"
      refine ⟨rfl, ?_⟩
      walk_at "w"
      refine ⟨_, rfl, ?_⟩
      walk_at "w"
      refine ⟨a0, a1, y, _, _, _, rfl, ?_, ⟨p0, p1, ⟨_, by2⟩⟩, ?_⟩
      · rcases st with ⟨rfl, rfl, rfl, rfl⟩ | ⟨rfl, z⟩ | ⟨rfl, rfl, z⟩ | ⟨rfl, rfl, rfl, z⟩
        · exact .inr (.inr (.inr ⟨rfl, rfl, rfl, by1⟩))
        · exact .inr (.inl ⟨rfl, z⟩)
        · exact .inr (.inr (.inl ⟨rfl, rfl, z⟩))
        · exact .inr (.inr (.inr ⟨rfl, rfl, rfl, by1⟩))
      · intro e
        have e : (if 2 < f then 2 else f) = 3 := e
        split at e <;> omega
  · rintro ρ ⟨a0, a1, a2, f, s6, s13, rfl, st, ⟨p0, p1, p2⟩, h3⟩
    have h3 : f ≠ 3 := fun e => absurd (h3 e) (by rw [ints_len]; decide)
    walk_at "w"
    refine ⟨nmOf f, fun k' x' hx' => ?_, ?_⟩
    · walk_at "w"
      refine ⟨_, rfl, ?_⟩
      walk_at "w"
      refine ⟨_, rfl, ?_⟩
      walk_at "w"
      refine ⟨_, rfl, ?_⟩
      walk_at "w"
      refine ⟨_, _, _, _, rfl, p0, p1, p2, ⟨_, hp⟩, ?_⟩
      rcases st with ⟨e, _⟩ | ⟨rfl, z⟩ | ⟨rfl, rfl, z⟩ | ⟨rfl, rfl, rfl, z⟩
      · exact absurd e h3
      · rw [chk_many z]
        exact hx'
      · rw [chk_steps hm z]
        exact hx'
      · rw [chk_none hm hg (by omega)]
        dsimp only
        rw [z]
        exact hx'
    · walk_at "w"
      refine ⟨⟨rfl, rfl⟩, ?_⟩
      have fin : ∀ nm : Str, pl 20 (.tup [.str "BadValue", .str nm]) = true := fun nm => rfl
      refine ⟨by show 3 ≤ line; decide, ?_⟩
      rcases st with ⟨e, _⟩ | ⟨rfl, z⟩ | ⟨rfl, rfl, z⟩ | ⟨rfl, rfl, rfl, z⟩
      · exact absurd e h3
      all_goals
        walk_at "w"
        refine ⟨_, rfl, ?_⟩
        walk_at "w"
        refine ⟨by show 2 ≤ line; decide, ?_⟩
        walk_at "w"
        refine ⟨_, rfl, fin _, k, trivial, .inl rfl, trivial, trivial, trivial, trivial, trivial⟩
theorem refused_10 {a : Addr} {m : Int} {ss bad : List D} {h p : D} {R : SV → Prop} {F : Exn → Prop} (hm : 0 ≤ m ∧ m ≤ 60) (hg : goodS m ss) (hl : ss.length ≤ 960) (hh : harmOk h = true) (hp : pl 15 p = true) (k : R (.fr true (.bl true)))
    (hbl : bad.length ≤ 2000) (hbp : ∀ d ∈ bad, pl 5 d = true) (hbs : stepsOk (.int m) (.lst bad) = false) {s5 s6 s8 s9 s10 s11 s12 s13 s14 : SV} :
    rt_law_refused_10 (endsF [.t, .s, .s, .s, .s] [.ref a, .int m, .lst ss, h, p] R F) [.sto a, .fr true (.int m), .fr true (.lst ss), .fr true h, .fr true p, s5, s6, .ol true bad, s8, s9, s10, s11, s12, s13, s14] := by
  walk_at "w"
  refine ⟨by show 1 ≤ line; decide, ?_⟩
  walk_at "w"
  refine ⟨⟨by decide, .inl ⟨by decide, by decide⟩⟩, ?_⟩
  walk_at "w"
  refine ⟨by show 7 ≤ line; decide, ?_⟩
  walk_at "w"
  refine ⟨by show 3 ≤ line; decide, ?_⟩
  walk_at "w"
  refine ⟨by show 1 ≤ line; decide, ?_⟩
  walk_at "w"
  refine ⟨⟨by decide, by decide, by show 1 * 1001 ≤ line; decide⟩, ?_⟩
  rw [List.flatten_replicate_singleton]
  generalize hbig : List.replicate (Int.toNat 1001) _ = big
  have bl : big.length = 1001 := by rw [← hbig, List.length_replicate]; rfl
  have bs : stepsOk (.int m) (.lst big) = false := by
    show (decide (big.length ≤ 1000) && _) = false
    rw [bl]
    rfl
  have bp : pl 12 (.lst big) = true := (pl_row (n := 11) (by omega) fun d hd => by
    rw [← hbig] at hd
    rw [List.eq_of_mem_replicate hd]
    rfl).1
  have bp2 : pl 12 (.lst bad) = true := (pl_row (n := 11) hbl fun d hd => pl_up (by omega) (hbp d hd)).1
  have sp : pl 12 (.tup ss) = true := (pl_row (n := 11) (by omega) fun d hd => pl_good (n := 9) (hg d hd)).2
  clear hbig
  walk_at "w"
  refine ⟨Nat.le_of_ble_eq_true rfl, ?_⟩
  walk_at "w"
  refine ⟨Nat.le_of_ble_eq_true rfl, ?_⟩
  walk_at "w"
  refine ⟨Nat.le_of_ble_eq_true rfl, ?_⟩
  walk_at "w"
  refine ⟨Nat.le_of_ble_eq_true rfl, ?_⟩
  walk_at "w"
  refine ⟨Nat.le_of_ble_eq_true rfl, ?_⟩
  walk_at "w"
  refine ⟨Nat.le_of_ble_eq_true rfl, ?_⟩
  refine refused_5 hm hg hl hh hp k ⟨?_, ?_, fun x hx => ?_⟩ ⟨?_, ?_, fun x hx => ?_⟩ ⟨?_, ?_, fun x hx => ?_⟩
  · exact List.cons_ne_nil _ _
  · exact Nat.le_of_ble_eq_true rfl
  · simp only [List.mem_cons, List.not_mem_nil, or_false] at hx
    rcases hx with rfl | rfl | rfl | rfl | rfl | rfl | rfl <;> exact ⟨rfl, rfl⟩
  · exact List.cons_ne_nil _ _
  · exact Nat.le_of_ble_eq_true rfl
  · simp only [List.mem_cons, List.not_mem_nil, or_false] at hx
    rcases hx with rfl | rfl | rfl | rfl | rfl | rfl | rfl | rfl
    · exact ⟨hbs, bp2⟩
    · exact ⟨hbs, bp2⟩
    · exact ⟨hbs, bp2⟩
    · exact ⟨rfl, sp⟩
    · exact ⟨rfl, rfl⟩
    · exact ⟨rfl, rfl⟩
    · exact ⟨rfl, rfl⟩
    · exact ⟨bs, bp⟩
  · exact List.cons_ne_nil _ _
  · exact Nat.le_of_ble_eq_true rfl
  · simp only [List.mem_cons, List.not_mem_nil, or_false] at hx
    rcases hx with rfl | rfl | rfl | rfl | rfl | rfl | rfl <;> exact ⟨rfl, rfl⟩
set_option maxHeartbeats 4000000 in
theorem p_law_refused (ds : List D) (R : SV → Prop) (F : Exn → Prop) (h : s_law_refused ds R F) : rd_law_refused (endsF [.t, .s, .s, .s, .s] ds R F) (slots0 [.t, .s, .s, .s, .s] ds ++ List.replicate 10 .no) := by
  obtain ⟨a, m, ss, h, p, rfl, hm, hg, hl, hh, hp, k⟩ := h
  walk_at "go"
  walk_at "w"
  refine ⟨log_small _ (by omega), ?_⟩
  walk_at "go"
  rename_i t t0 t1
  refine ⟨fun e => (nomatch e), fun x hx => ?_⟩
  have hx2 : goodStep m x = false ∧ pl 5 x = true := by
    simp only [List.cons_append, List.nil_append, List.mem_cons, List.not_mem_nil, or_false] at hx
    rcases hx with rfl | rfl | rfl | rfl | rfl | rfl | rfl | rfl | rfl | rfl | rfl | rfl | rfl | rfl <;> refine ⟨?_, rfl⟩ <;> first | rfl | (simp [goodStep]; done) | (simp [goodStep]; omega)
  clear hx
  have c1 := @cut_len ss none (some t)
  have c2 := @cut_len ss (some t) none
  walk_at "w"
  refine ⟨by show 1 ≤ line; decide, ?_⟩
  walk_at "w"
  refine ⟨Nat.le_of_lt (lt_line (by show _ + 1 ≤ 2000; omega)), ?_⟩
  walk_at "w"
  refine ⟨Nat.le_of_lt (lt_line (by rw [List.length_append]; show _ + 1 + _ ≤ 2000; omega)), ?_⟩
  generalize hbe : cutD ss none (some t) ++ [x] ++ cutD ss (some t) none = bad
  have hbl : bad.length ≤ 2000 := by rw [← hbe, List.length_append, List.length_append]; show _ + 1 + _ ≤ 2000; omega
  have hbp : ∀ d ∈ bad, pl 5 d = true := fun d hd => by
    rw [← hbe] at hd
    rcases List.mem_append.mp hd with z | z
    · rcases List.mem_append.mp z with z | z
      · exact pl_good (n := 3) (hg _ (cut_mem z))
      · rw [List.mem_singleton.mp z]; exact hx2.2
    · exact pl_good (n := 3) (hg _ (cut_mem z))
  have hbs : stepsOk (.int m) (.lst bad) = false := by
    show (decide (bad.length ≤ 1000) && bad.all (goodStep m)) = false
    rw [not_all (x := x) (by rw [← hbe]; simp) hx2.1, Bool.and_false]
  exact refused_10 hm hg hl hh hp k hbl hbp hbs

def Is (sv : SV) (d : D) : Prop := sv = .fr true d ∨ (∃ xs, d = .lst xs ∧ sv = .ol true xs) ∨ ∃ kvs, d = .dk kvs ∧ sv = .od true kvs
theorem is_own (p : D) : Is (ownSV p) p := ownSV_cases p
theorem is_ok {n : Nat} {sv : SV} (h : okSV n sv) : ∃ d, Is sv d ∧ pl n d = true := by
  rcases h with ⟨d, rfl, h⟩ | ⟨xs, rfl, h⟩ | ⟨kvs, rfl, h⟩
  · exact ⟨d, .inl rfl, h⟩
  · exact ⟨.lst xs, .inr (.inl ⟨_, rfl, rfl⟩), h⟩
  · exact ⟨.dk kvs, .inr (.inr ⟨_, rfl, rfl⟩), h⟩
section
variable {ns : List Int} {a : Addr} {m : Int} {ss hs : List D} {p : D} {R : SV → Prop} {F : Exn → Prop} (hm : 0 ≤ m ∧ m ≤ 60) (k : R (.fr true (.bl true)))
include hm k
theorem law_4 (hg : goodS m ss) (hl : ss.length ≤ 960) (hhs : ∀ h ∈ hs, harmOk h = true) (h2 : 2 ≤ hs.length) (hp : pl 15 p = true) {S P : SV} (iS : S = .fr true (.lst ss) ∨ S = .ol true ss) (iP : Is P p) {s0 s3 s5 s7 s8 s9 s11 : SV} :
    rt_law_4 (endsF [.s] [.scr ns] R F) [s0, .sto a, .fr true (.int m), s3, S, s5, P, s7, s8, s9, .ol true hs, s11] := by
  obtain ⟨e1, m1⟩ := el_at (xs := hs) (i := 1) (by omega) (by omega)
  have hh := hhs _ m1
  have p20 : pl 20 p = true := pl_up (by omega) hp
  have main : ∀ S' P' : SV, (S' = .fr true (.lst ss) ∨ S' = .ol true ss) → Is P' p → rt_law_4 (endsF [.s] [.scr ns] R F) [s0, .sto a, .fr true (.int m), s3, S', s5, P', s7, s8, s9, .ol true hs, s11] := by
    rintro S' P' (rfl | rfl) (rfl | ⟨xs, rfl, rfl⟩ | ⟨kvs, rfl, rfl⟩)
    all_goals
      walk_at "w"
      refine ⟨_, e1, ?_⟩
      walk_at "w"
      refine ⟨_, rfl, p20, ?_⟩
    all_goals
      generalize hq : ownSV _ = q
      have io : Is q _ := hq ▸ is_own _
      rcases io with rfl | ⟨xs', e', rfl⟩ | ⟨kvs', e', rfl⟩
    all_goals
      walk_at "w"
      refine ⟨_, _, _, _, _, rfl, hm, hg, hl, hh, ?_, k, trivial, trivial, trivial⟩
      first | exact hp | (rw [← e']; exact hp)
  exact main S P iS iP
theorem law_3 (hg : goodS m ss) (hl : ss.length ≤ 950) (hhs : ∀ h ∈ hs, harmOk h = true) (h2 : 2 ≤ hs.length) (h3 : hs.length ≤ 1000) (hp : pl 15 p = true) {d : D} (hd : goodStep m d = true) {s0 s3 s7 s8 s9 : SV} :
    rt_law_3 { nx := rt_law_4 (endsF [.s] [.scr ns] R F), rt := (endsF [.s] [.scr ns] R F).rt, bk := (endsF [.s] [.scr ns] R F).bk, ct := (endsF [.s] [.scr ns] R F).ct, ex := (endsF [.s] [.scr ns] R F).ex } [s0, .sto a, .fr true (.int m), s3, .fr true (.lst ss), .ol true ss, .fr true p, s7, s8, s9, .ol true hs, .fr true d] := by
  have hg2 := goodS_app hg hd
  have hl2 : (ss ++ [d]).length ≤ 960 := by rw [List.length_append]; show _ + 1 ≤ 960; omega
  walk_at "w"
  refine ⟨lt_line (by omega), ?_⟩
  walk_at "w"
  refine ⟨by show 1 ≤ line; decide, ?_⟩
  walk_at "w"
  refine ⟨Nat.le_of_lt (lt_line (by show _ + 1 ≤ 2000; omega)), ?_⟩
  walk_at "w"
  refine ⟨_, _, _, _, rfl, hm, hg2, hl2, hhs, h3, hp, ?_⟩
  refine ⟨⟨rfl, rfl⟩, ?_⟩
  walk_at "F"
  exact law_4 hm k hg2 hl2 hhs h2 hp (.inr rfl) (.inl rfl)
theorem law_6 (hg : goodS m ss) (hl : ss.length ≤ 950) (hhs : ∀ h ∈ hs, harmOk h = true) (h2 : 2 ≤ hs.length) (h3 : hs.length ≤ 1000) (hp : pl 15 p = true) {P : SV} (iP : Is P p) {s0 s3 s7 s8 s9 s11 : SV} :
    rt_law_6 (endsF [.s] [.scr ns] R F) [s0, .sto a, .fr true (.int m), s3, .fr true (.lst ss), .ol true ss, P, s7, s8, s9, .ol true hs, s11] := by
  rcases iP with rfl | ⟨xs', rfl, rfl⟩ | ⟨kvs', rfl, rfl⟩
  all_goals
    walk_at "w"
    refine ⟨_, _, _, _, rfl, hm, hg, by omega, hhs, h3, hp, ?_⟩
    refine ⟨⟨rfl, rfl⟩, ?_⟩
    walk_at "F"
    walk_at "w"
    refine ifB.mk (fun hb => ?_) (fun hb => ?_)
    · walk_at "w"
      refine ⟨_, _, _, rfl, ⟨by have := of_decide_eq_true hb; omega, hm.2⟩, ⟨_, hp⟩, fun d hd => ?_⟩
      exact law_3 hm k hg hl hhs h2 h3 hp hd
    · first
      | exact law_4 hm k hg (by omega) hhs h2 hp (.inl rfl) (.inl rfl)
      | exact law_4 hm k hg (by omega) hhs h2 hp (.inl rfl) (.inr (.inl ⟨_, rfl, rfl⟩))
      | exact law_4 hm k hg (by omega) hhs h2 hp (.inl rfl) (.inr (.inr ⟨_, rfl, rfl⟩))
theorem law_8 (hg : goodS m ss) (hl : ss.length ≤ 950) (hp : pl 15 p = true) {P : SV} (iP : Is P p) {low : Int} (h0 : 0 ≤ low) {s0 s3 s8 s9 s10 s11 : SV} :
    rt_law_8 (endsF [.s] [.scr ns] R F) [s0, .sto a, .fr true (.int m), s3, .fr true (.lst ss), .ol true ss, P, .fr true (.int low), s8, s9, s10, s11] := by
  walk_at "w"
  refine ⟨trivial, ?_⟩
  walk_at "w"
  refine ⟨⟨by decide, .inl ⟨by decide, by decide⟩⟩, ?_⟩
  walk_at "w"
  refine ⟨Nat.le_of_ble_eq_true rfl, ?_⟩
  walk_at "w"
  refine ⟨Nat.le_of_ble_eq_true rfl, ?_⟩
  walk_at "w"
  refine ⟨_, _, _, rfl, ⟨Nat.le_of_ble_eq_true rfl, by decide⟩, fun ys h1 h2 => ?_⟩
  have h2 : ys.length = 2 := by
    have h2 : (ys.length : Int) = max 0 (min 2 6) := h2
    omega
  have hy : ∀ y ∈ ys, harmOk y = true := fun y hy => by
    have := h1 y hy
    simp only [List.mem_cons, List.not_mem_nil, or_false] at this
    have ii : ∀ z : Int, 0 ≤ z → harmOk (.int z) = true := fun z hz => by
      show (false || decide (0 ≤ z)) = true
      rw [decide_eq_true hz]
      rfl
    rcases this with rfl | rfl | rfl | rfl | rfl | rfl
    · rfl
    · exact ii _ h0
    · exact ii _ h0
    · exact ii _ (by omega)
    · exact ii _ (by split <;> omega)
    · exact ii _ (by decide)
  walk_at "w"
  refine ⟨Nat.le_of_lt (lt_line (by show 1 + _ ≤ 2000; omega)), ?_⟩
  walk_at "w"
  refine ⟨Nat.le_of_ble_eq_true rfl, ?_⟩
  walk_at "w"
  refine ⟨Nat.le_of_lt (lt_line (by rw [List.length_append]; show 1 + _ + 1 ≤ 2000; omega)), ?_⟩
  have hlen : ([D.non] ++ ys ++ [D.non]).length = 4 := by rw [List.length_append, List.length_append]; show 1 + _ + 1 = 4; omega
  refine law_6 hm k hg hl (fun h hh => ?_) (by rw [hlen]; decide) (by rw [hlen]; decide) hp iP
  rcases List.mem_append.mp hh with z | z
  · rcases List.mem_append.mp z with z | z
    · rw [List.mem_singleton.mp z]; rfl
    · exact hy h z
  · rw [List.mem_singleton.mp z]; rfl
theorem law_9 (hg : goodS m ss) (hl : ss.length ≤ 950) {xs : List D} (pa : pap m xs) {low : Int} (h0 : 0 ≤ low) {s0 s3 s8 s9 s10 s11 : SV} :
    rt_law_9 (endsF [.s] [.scr ns] R F) [s0, .sto a, .fr true (.int m), s3, .fr true (.lst ss), .ol true ss, .ol true xs, .fr true (.int low), s8, s9, s10, s11] := by
  have hxl := pa.1
  walk_at "w"
  refine ⟨_, _, rfl, by decide +kernel, fun o => ?_⟩
  cases o with
  | true =>
    walk_at "T"
    walk_at "w"
    refine ⟨_, _, _, rfl, pa, hm, fun sv hs => ?_⟩
    obtain ⟨d, hi, hd⟩ := is_ok hs
    rcases hi with rfl | ⟨xs', rfl, rfl⟩ | ⟨kvs', rfl, rfl⟩
    · exact law_8 hm k hg hl (pl_up (by omega) hd) (.inl rfl) h0
    · exact law_8 hm k hg hl (pl_up (by omega) hd) (.inr (.inl ⟨_, rfl, rfl⟩)) h0
    · exact law_8 hm k hg hl (pl_up (by omega) hd) (.inr (.inr ⟨_, rfl, rfl⟩)) h0
  | false =>
    walk_at "F"
    exact law_8 hm k hg hl (p := .lst xs) (pl_row (n := 14) (by omega) fun d hd => pl_entry (n := 13) (pa.2 d hd)).1 (.inr (.inl ⟨_, rfl, rfl⟩)) h0
theorem law_10 (hg : goodS m ss) (hl : ss.length ≤ 950) {xs : List D} (pa : pap m xs) {low : Int} (h0 : 0 ≤ low) {s0 s3 s8 s9 s10 s11 : SV} :
    rt_law_10 (endsF [.s] [.scr ns] R F) [s0, .sto a, .fr true (.int m), s3, .fr true (.lst ss), .ol true ss, .ol true xs, .fr true (.int low), s8, s9, s10, s11] := by
  walk_at "w"
  refine ⟨_, _, rfl, by decide +kernel, fun r r0 r1 => ?_⟩
  walk_at "w"
  refine ⟨by omega, ?_⟩
  walk_at "w"
  refine ⟨fun i ρ => ∃ xs s8, ρ = [s0, .sto a, .fr true (.int m), s3, .fr true (.lst ss), .ol true ss, .ol true xs, .fr true (.int low), s8, s9, s10, s11] ∧ pap m xs, ⟨_, _, rfl, pa⟩, ?_, ?_⟩
  · rintro i x ρ hx ⟨xs, s8, rfl, pa⟩
    walk_at "w"
    exact ⟨_, _, _, rfl, pa, hm, fun ys hy => ⟨_, _, rfl, hy⟩⟩
  · rintro ρ ⟨xs, s8, rfl, pa⟩
    exact law_9 hm k hg hl pa h0
theorem law_11 (hg : goodS m ss) (hl : ss.length ≤ 950) {xs : List D} (pa : pap m xs) {s0 s3 s8 s9 s10 s11 : SV} :
    rt_law_11 (endsF [.s] [.scr ns] R F) [s0, .sto a, .fr true (.int m), s3, .fr true (.lst ss), .ol true ss, .ol true xs, .fr true (.int 0), s8, s9, s10, s11] := by
  obtain ⟨la, ea, ca⟩ := pap_at pa hm.1 (Int.le_refl m)
  walk_at "w"
  refine ⟨_, ea, ?_⟩
  rcases ca with z | ⟨x, z, x0⟩
  · rw [z]
    walk_at "w"
    refine ⟨rfl, ?_⟩
    walk_at "F"
    exact law_10 hm k hg hl pa (by decide)
  · rw [z] at ea ⊢
    walk_at "w"
    refine ⟨rfl, ?_⟩
    walk_at "T"
    walk_at "w"
    refine ⟨_, ea, ?_⟩
    exact law_10 hm k hg hl pa x0
theorem law_14 (hg : goodS m ss) (hl : ss.length ≤ 950) {s0 s3 s5 s6 s7 s8 s9 s10 s11 : SV} :
    rt_law_14 (endsF [.s] [.scr ns] R F) [s0, .sto a, .fr true (.int m), s3, .ol true ss, s5, s6, s7, s8, s9, s10, s11] := by
  walk_at "w"
  refine ⟨_, _, rfl, hm, hg, fun xs pa => ?_⟩
  exact law_11 hm k hg hl pa
theorem law_15 (hg : goodS m ss) (hl : ss.length ≤ 62) {w : Bool} {s0 s5 s6 s7 s8 s9 s10 s11 : SV} :
    rt_law_15 (endsF [.s] [.scr ns] R F) [s0, .sto a, .fr true (.int m), .fr true (.bl w), .ol true ss, s5, s6, s7, s8, s9, s10, s11] := by
  cases w with
  | true =>
    walk_at "T"
    walk_at "w"
    refine ⟨_, _, rfl, hm, fun xs hx hgx => ?_⟩
    have hal : (ss ++ xs).length ≤ 950 := by rw [List.length_append]; omega
    walk_at "w"
    refine ⟨Nat.le_of_lt (lt_line (by rw [List.length_append] at hal; omega)), ?_⟩
    walk_at "w"
    refine ⟨_, _, rfl, by omega, fun ys h1 h2 => ?_⟩
    have hg2 : goodS m ys := fun d hd => goodS_cat hg hgx d (h1 d hd)
    exact law_14 hm k hg2 (by omega)
  | false =>
    walk_at "F"
    exact law_14 hm k hg (by omega)
theorem law_16 {w : Bool} {s0 s4 s5 s6 s7 s8 s9 s10 : SV} :
    rt_law_16 (endsF [.s] [.scr ns] R F) [s0, .sto a, .fr true (.int m), .fr true (.bl w), s4, s5, s6, s7, s8, s9, s10, .no] := by
  walk_at "w"
  refine ⟨_, _, rfl, hm, fun xs hx hgx => ?_⟩
  walk_at "w"
  refine lc_all (P := fun d => goodStep m d = true) (fun j y acc hy h1 h2 Iv hI => ?_) fun acc h1 h2 => ?_
  · have hjl := (List.getElem?_eq_some_iff.mp hy).1
    obtain ⟨b, c, h, rfl, b0, bc, cm, hh0⟩ := good_of (hgx _ (List.mem_of_getElem? hy))
    walk_at "T"
    walk_at "w"
    refine ⟨_, rfl, ?_⟩
    walk_at "w"
    refine ⟨_, rfl, ?_⟩
    walk_at "w"
    refine ⟨_, rfl, ?_⟩
    walk_at "w"
    refine ⟨⟨by decide, .inl ⟨by decide, by decide⟩⟩, ?_⟩
    walk_at "w"
    refine ⟨(by decide : (0 : Int) < 10 ^ 57), ?_⟩
    walk_at "w"
    refine ⟨Nat.le_of_ble_eq_true rfl, ?_⟩
    exact ⟨lt_line (by omega), hI _ (good_mk b0 bc cm (Int.emod_nonneg _ (by decide)))⟩
  · exact law_15 hm k h2 (by omega)
end
theorem p_law (ds : List D) (R : SV → Prop) (F : Exn → Prop) (h : s_law ds R F) : rd_law (endsF [.s] ds R F) (slots0 [.s] ds ++ List.replicate 11 .no) := by
  obtain ⟨ns, rfl, h1, h2, k⟩ := h
  walk_at "w"
  refine ⟨_, rfl, h1, h2, fun a => ?_⟩
  walk_at "w"
  refine ⟨_, _, rfl, by decide, fun m m0 m1 => ?_⟩
  walk_at "w"
  refine ⟨_, _, rfl, by decide +kernel, fun w => ?_⟩
  cases w with
  | true =>
    walk_at "T"
    walk_at "w"
    refine ⟨_, _, rfl, by decide +kernel, fun r r0 r1 => ?_⟩
    exact law_16 (m := 20 + r) (by omega) k
  | false =>
    walk_at "F"
    exact law_16 (m := m) (by omega) k

end Z
namespace Z
open PySem PySem.Spec PyProof.Rows L2 Q
def top (i : Nat) : Stmt := PySem.Challenge.pw_typeformes_k27_bars_way_conditions.main.body.getD i (.Pass ⟨0, 0, 0, 0⟩)
structure Cd (P : Program) (w : World) (K : PySem.W.Frag) (mg : Str → Option Value) (base : Heap) (T : TBs) (x : Str) (ps : List Str) (k : Nat) (ms : List Mode) (qz : QSpec) (st : Stmt) (f : Addr) (fd : FuncData) : Prop where
  ok : FnOk P w K mg base (L2.CX P w) k f fd ps (spQ K T ms qz)
  mg : mg x = some (.ref f)
  kp : PySem.W.keepIn K (.ref f) = true
  bd : Binds K fd ps []
  fn : Fun K x x st f fd
theorem uE {k : Nat} {A : Around} (hr : Room k A) : A.units + 64 < cLine := hr.units
theorem uI {k : Nat} {A : Around} (hr : Room k A) : A.units + 65 < cLine := by have := hr.un; omega

section
variable {P : Program} {w : World} {K : PySem.W.Frag} {mg : Str → Option Value} {base : Heap} {T : TBs}

def N_plain_count : List Str := ["value"]
theorem sc_plain_count : FnScope N_plain_count ["value"] (defScope (top 10)) := by refine ⟨?_, ?_, ?_, ?_, ?_, ?_, ?_⟩ <;> first | rfl | decide
theorem fn_plain_count {f : Addr} {fd : FuncData} {qz : QSpec}
    (b_isinstance : mg "isinstance" = none)
    (b_int : mg "int" = none)
    (b_bool : mg "bool" = none)
    (F : Fun K "plain_count" "plain_count" (top 10) f fd) (pure : ∀ (ds : List D) (R : SV → Prop) (F : Exn → Prop), qz ds R F → ((rRet (rAndV (rB1 (oIsa .int) (rName 0)) (rAndV (rNotV (rB1 (oIsa .bool) (rName 0))) (rOp2 oGe (rName 0) (rC (.int 0)))))) : RS) (endsF [.s] ds R F) (slots0 [.s] ds ++ List.replicate 0 .no)) :
    FnOk P w K mg base (L2.CX P w) 1 f fd ["value"] (spQ K T [.s] qz) := by
  refine q_fn (N := N_plain_count) F sc_plain_count rfl (fun cdv A outer s H E g hr hT => ?_) pure
  have hN : N_plain_count.Nodup := sc_plain_count.nd
  have hp := passes_of (X := cxOf (L2.CX P w) P w K mg base N_plain_count "plain_count" (defScope (top 10)) f cdv A outer s H E) rfl
  exact (qs_one (q_ret (q_and (q_isa .int rfl b_isinstance rfl b_int (qv 0)) (q_and (q_not (q_isa .bool rfl b_isinstance rfl b_bool (qv 0))) (q_one (q_cmp op_ge rd_cmpI (qv 0) qi (nomark _)))))))
def N_good_step : List Str := ["many", "step", "item"]
theorem sc_good_step : FnScope N_good_step ["many", "step"] (defScope (top 11)) := by refine ⟨?_, ?_, ?_, ?_, ?_, ?_, ?_⟩ <;> first | rfl | decide
theorem fn_good_step {f : Addr} {fd : FuncData} {qz : QSpec}
    {k_plain_count : Nat} {f_plain_count : Addr} {fd_plain_count : FuncData} {s_plain_count : QSpec} (l_plain_count : k_plain_count ≤ 1) (c_plain_count : Cd P w K mg base T "plain_count" ["value"] k_plain_count [.s] s_plain_count (top 10) f_plain_count fd_plain_count)
    (b_isinstance : mg "isinstance" = none)
    (b_tuple : mg "tuple" = none)
    (b_len : mg "len" = none)
    (b_all : mg "all" = none)
    (F : Fun K "good_step" "good_step" (top 11) f fd) (pure : ∀ (ds : List D) (R : SV → Prop) (F : Exn → Prop), qz ds R F → ((rSeq (rIf (rOr (rNot (rB (rB1 (oIsa .tuple) (rName 1)))) (rB (rOp2 (oEq true) (rB1 oLen (rName 1)) (rC (.int 3))))) (rRet (rC (.bl false))) rNext) (rSeq (rIf (rNot (rB (rB1 oAll (rLc [2] (riT (rName 1)) (gN 2) rYes (rCall [.s] s_plain_count [] (rCons (rName 2) rNil)))))) (rRet (rC (.bl false))) rNext) (rRet (rChain oLt oLe (rOp2 oIx (rName 1) (rC (.int 0))) (rOp2 oIx (rName 1) (rC (.int 1))) (rName 0))))) : RS) (endsF [.s, .s] ds R F) (slots0 [.s, .s] ds ++ List.replicate 1 .no)) :
    FnOk P w K mg base (L2.CX P w) 2 f fd ["many", "step"] (spQ K T [.s, .s] qz) := by
  refine q_fn (N := N_good_step) F sc_good_step rfl (fun cdv A outer s H E g hr hT => ?_) pure
  have hN : N_good_step.Nodup := sc_good_step.nd
  have hp := passes_of (X := cxOf (L2.CX P w) P w K mg base N_good_step "good_step" (defScope (top 11)) f cdv A outer s H E) rfl
  exact (qs_cons (q_if (QW.qt (qw_or (qt_not (q_val (q_isa .tuple rfl b_isinstance rfl b_tuple (qv 1)))) (qw_or1 (q_cmpT (op_neQ (have z := uE hr; z)) rd_ne (q_len rfl b_len (qv 1)) qi (nomark _))))) (qs_one (q_ret qb)) qs_nil) (qs_cons (q_if (qt_not (q_val (q_all rfl rfl b_all (q_lc rfl hN (own := [("item", 2)]) (qi_tup (qv 1)) (blkOk_by (by rfl)) (by decide) (fun _ _ _ _ _ => (qg_name (i := 2) hN rfl (by first | exact Or.inl rfl | exact Or.inr rfl) (.inr rfl))) (fun _ _ _ _ _ => qts_nil) (fun _ _ _ _ _ => (q_call (ms := [.s]) (dd := []) (fnT hT (c_plain_count.ok.mono (Nat.le_trans l_plain_count (by decide)))) hr rfl c_plain_count.mg c_plain_count.kp c_plain_count.bd .nil (fun _ _ _ => rfl) (qa_cons (qv 2) qa_nil))))))) (qs_one (q_ret qb)) qs_nil) (qs_one (q_ret (q_chain op_lt op_le rd_cmpI rd_cmpI (q_ix (have z := hu_of hr; z) (qv 1) qi) (q_ix (have z := hu_of hr; z) (qv 1) qi) (qv 0))))))
def N_check_graph : List Str := ["many", "steps", "step"]
theorem sc_check_graph : FnScope N_check_graph ["many", "steps"] (defScope (top 12)) := by refine ⟨?_, ?_, ?_, ?_, ?_, ?_, ?_⟩ <;> first | rfl | decide
theorem fn_check_graph {f : Addr} {fd : FuncData} {qz : QSpec}
    {k_plain_count : Nat} {f_plain_count : Addr} {fd_plain_count : FuncData} {s_plain_count : QSpec} (l_plain_count : k_plain_count ≤ 2) (c_plain_count : Cd P w K mg base T "plain_count" ["value"] k_plain_count [.s] s_plain_count (top 10) f_plain_count fd_plain_count)
    {k_good_step : Nat} {f_good_step : Addr} {fd_good_step : FuncData} {s_good_step : QSpec} (l_good_step : k_good_step ≤ 2) (c_good_step : Cd P w K mg base T "good_step" ["many", "step"] k_good_step [.s, .s] s_good_step (top 11) f_good_step fd_good_step)
    {C_BadValue : Addr} (e_BadValue : Exc1 P w K mg base "BadValue" C_BadValue "argument" 1 okV) (a_BadValue : T.ea .bv = C_BadValue)
    (b_isinstance : mg "isinstance" = none)
    (b_list : mg "list" = none)
    (b_len : mg "len" = none)
    (b_all : mg "all" = none)
    (F : Fun K "check_graph" "check_graph" (top 12) f fd) (pure : ∀ (ds : List D) (R : SV → Prop) (F : Exn → Prop), qz ds R F → ((rSeq (rIf (rOr (rNot (rB (rCall [.s] s_plain_count [] (rCons (rName 0) rNil)))) (rB (rOp2 oGt (rName 0) (rC (.int 60))))) (rRaise1 .bv "argument" D.fits (rC (.str "many"))) rNext) (rSeq (rIf (rOr (rNot (rB (rB1 (oIsa .list) (rName 1)))) (rB (rOp2 oGt (rB1 oLen (rName 1)) (rC (.int 1000))))) (rRaise1 .bv "argument" D.fits (rC (.str "steps"))) rNext) (rIf (rNot (rB (rB1 oAll (rLc [2] (riL (rName 1)) (gN 2) rYes (rCall [.s, .s] s_good_step [] (rCons (rName 0) (rCons (rName 2) rNil))))))) (rRaise1 .bv "argument" D.fits (rC (.str "steps"))) rNext))) : RS) (endsF [.s, .s] ds R F) (slots0 [.s, .s] ds ++ List.replicate 1 .no)) :
    FnOk P w K mg base (L2.CX P w) 3 f fd ["many", "steps"] (spQ K T [.s, .s] qz) := by
  refine q_fn (N := N_check_graph) F sc_check_graph rfl (fun cdv A outer s H E g hr hT => ?_) pure
  have hN : N_check_graph.Nodup := sc_check_graph.nd
  have hp := passes_of (X := cxOf (L2.CX P w) P w K mg base N_check_graph "check_graph" (defScope (top 12)) f cdv A outer s H E) rfl
  exact (qs_cons (q_if (QW.qt (qw_or (qt_not (q_val (q_call (ms := [.s]) (dd := []) (fnT hT (c_plain_count.ok.mono (Nat.le_trans l_plain_count (by decide)))) hr rfl c_plain_count.mg c_plain_count.kp c_plain_count.bd .nil (fun _ _ _ => rfl) (qa_cons (qv 0) qa_nil)))) (qw_or1 (q_cmpT op_gt rd_cmpI (qv 0) qi (nomark _))))) (qs_one (q_raise1 (okD := D.fits) e_BadValue (ec := .bv) rfl (eaT hT a_BadValue) (fun r h => okV_of r h) (hr.mono (by decide)) rfl rfl qs)) qs_nil) (qs_cons (q_if (QW.qt (qw_or (qt_not (q_val (q_isa .list rfl b_isinstance rfl b_list (qv 1)))) (qw_or1 (q_cmpT op_gt rd_cmpI (q_len rfl b_len (qv 1)) qi (nomark _))))) (qs_one (q_raise1 (okD := D.fits) e_BadValue (ec := .bv) rfl (eaT hT a_BadValue) (fun r h => okV_of r h) (hr.mono (by decide)) rfl rfl qs)) qs_nil) (qs_one (q_if (qt_not (q_val (q_all rfl rfl b_all (q_lc rfl hN (own := [("step", 2)]) (qi_list (qv 1)) (blkOk_by (by rfl)) (by decide) (fun _ _ _ _ _ => (qg_name (i := 2) hN rfl (by first | exact Or.inl rfl | exact Or.inr rfl) (.inr rfl))) (fun _ _ _ _ _ => qts_nil) (fun _ _ _ _ _ => (q_call (ms := [.s, .s]) (dd := []) (fnT hT (c_good_step.ok.mono (Nat.le_trans l_good_step (by decide)))) hr rfl c_good_step.mg c_good_step.kp c_good_step.bd .nil (fun _ _ _ => rfl) (qa_cons (qv 0) (qa_cons (qv 2) qa_nil)))))))) (qs_one (q_raise1 (okD := D.fits) e_BadValue (ec := .bv) rfl (eaT hT a_BadValue) (fun r h => okV_of r h) (hr.mono (by decide)) rfl rfl qs)) qs_nil))))
def N_step_kept : List Str := ["paper", "step", "start", "end", "harm"]
theorem sc_step_kept : FnScope N_step_kept ["paper", "step"] (defScope (top 13)) := by refine ⟨?_, ?_, ?_, ?_, ?_, ?_, ?_⟩ <;> first | rfl | decide
theorem fn_step_kept {f : Addr} {fd : FuncData} {qz : QSpec}
    (F : Fun K "step_kept" "step_kept" (top 13) f fd) (pure : ∀ (ds : List D) (R : SV → Prop) (F : Exn → Prop), qz ds R F → ((rSeq (rAsg (rName 1) (gT [(gN 2), (gN 3), (gN 4)])) (rSeq (rIf (rB (rOp2 (oIs false) (rOp2 oIx (rName 0) (rName 2)) (rC .non))) (rRet (rC (.bl true))) rNext) (rRet (rAndV (rOp2 (oIs true) (rOp2 oIx (rName 0) (rName 3)) (rC .non)) (rOp2 oLe (rOp2 oIx (rName 0) (rName 3)) (rOp2 oAdd (rOp2 oIx (rName 0) (rName 2)) (rName 4))))))) : RS) (endsF [.s, .s] ds R F) (slots0 [.s, .s] ds ++ List.replicate 3 .no)) :
    FnOk P w K mg base (L2.CX P w) 1 f fd ["paper", "step"] (spQ K T [.s, .s] qz) := by
  refine q_fn (N := N_step_kept) F sc_step_kept rfl (fun cdv A outer s H E g hr hT => ?_) pure
  have hN : N_step_kept.Nodup := sc_step_kept.nd
  have hp := passes_of (X := cxOf (L2.CX P w) P w K mg base N_step_kept "step_kept" (defScope (top 13)) f cdv A outer s H E) rfl
  exact (qs_cons (q_asg (qv 1) (qg_tup rfl (qgs_cons (qg_name (i := 2) hN rfl (by first | exact Or.inl rfl | exact Or.inr rfl)) (qgs_cons (qg_name (i := 3) hN rfl (by first | exact Or.inl rfl | exact Or.inr rfl)) (qgs_cons (qg_name (i := 4) hN rfl (by first | exact Or.inl rfl | exact Or.inr rfl)) qgs_nil))))) (qs_cons (q_if (q_cmpT op_isF rd_isN (q_ix (have z := hu_of hr; z) (qv 0) (qv 2)) qn (nomark _)) (qs_one (q_ret qb)) qs_nil) (qs_one (q_ret (q_and (q_cmp op_isT rd_isN (q_ix (have z := hu_of hr; z) (qv 0) (qv 3)) qn (nomark _)) (q_one (q_cmp op_le rd_cmpI (q_ix (have z := hu_of hr; z) (qv 0) (qv 3)) (q_add (q_ix (have z := hu_of hr; z) (qv 0) (qv 2)) (qv 4)) (nomark _))))))))
def N_bars_way : List Str := ["many", "steps", "harm", "paper", "entry", "step"]
theorem sc_bars_way : FnScope N_bars_way ["many", "steps", "harm", "paper"] (defScope (top 14)) := by refine ⟨?_, ?_, ?_, ?_, ?_, ?_, ?_⟩ <;> first | rfl | decide
theorem fn_bars_way {f : Addr} {fd : FuncData} {qz : QSpec}
    {k_check_graph : Nat} {f_check_graph : Addr} {fd_check_graph : FuncData} {s_check_graph : QSpec} (l_check_graph : k_check_graph ≤ 3) (c_check_graph : Cd P w K mg base T "check_graph" ["many", "steps"] k_check_graph [.s, .s] s_check_graph (top 12) f_check_graph fd_check_graph)
    {k_plain_count : Nat} {f_plain_count : Addr} {fd_plain_count : FuncData} {s_plain_count : QSpec} (l_plain_count : k_plain_count ≤ 3) (c_plain_count : Cd P w K mg base T "plain_count" ["value"] k_plain_count [.s] s_plain_count (top 10) f_plain_count fd_plain_count)
    {k_step_kept : Nat} {f_step_kept : Addr} {fd_step_kept : FuncData} {s_step_kept : QSpec} (l_step_kept : k_step_kept ≤ 3) (c_step_kept : Cd P w K mg base T "step_kept" ["paper", "step"] k_step_kept [.s, .s] s_step_kept (top 13) f_step_kept fd_step_kept)
    {C_BadValue : Addr} (e_BadValue : Exc1 P w K mg base "BadValue" C_BadValue "argument" 1 okV) (a_BadValue : T.ea .bv = C_BadValue)
    (b_isinstance : mg "isinstance" = none)
    (b_list : mg "list" = none)
    (b_len : mg "len" = none)
    (b_all : mg "all" = none)
    (F : Fun K "bars_way" "bars_way" (top 14) f fd) (pure : ∀ (ds : List D) (R : SV → Prop) (F : Exn → Prop), qz ds R F → ((rSeq (rDrop (rCall [.s, .s] s_check_graph [] (rCons (rName 0) (rCons (rName 1) rNil)))) (rSeq (rIf (rAnd (rB (rOp2 (oIs true) (rName 2) (rC .non))) (rNot (rB (rCall [.s] s_plain_count [] (rCons (rName 2) rNil))))) (rRaise1 .bv "argument" D.fits (rC (.str "harm"))) rNext) (rSeq (rIf (rOr (rNot (rB (rB1 (oIsa .list) (rName 3)))) (rB (rOp2 (oEq true) (rB1 oLen (rName 3)) (rOp2 oAdd (rName 0) (rC (.int 1)))))) (rRet (rC (.bl false))) rNext) (rSeq (rIf (rNot (rB (rB1 oAll (rLc [4] (riL (rName 3)) (gN 4) rYes (rOrV (rOp2 (oIs false) (rName 4) (rC .non)) (rCall [.s] s_plain_count [] (rCons (rName 4) rNil))))))) (rRet (rC (.bl false))) rNext) (rSeq (rIf (rOr (rB (rOp2 (oIs false) (rOp2 oIx (rName 3) (rC (.int 0))) (rC .non))) (rB (rOp2 (oEq true) (rOp2 oIx (rName 3) (rC (.int 0))) (rC (.int 0))))) (rRet (rC (.bl false))) rNext) (rSeq (rIf (rNot (rB (rB1 oAll (rLc [5] (riL (rName 1)) (gN 5) rYes (rCall [.s, .s] s_step_kept [] (rCons (rName 3) (rCons (rName 5) rNil))))))) (rRet (rC (.bl false))) rNext) (rSeq (rIf (rB (rOp2 (oIs false) (rOp2 oIx (rName 3) (rName 0)) (rC .non))) (rRet (rC (.bl true))) rNext) (rRet (rAndV (rOp2 (oIs true) (rName 2) (rC .non)) (rOp2 oGe (rOp2 oIx (rName 3) (rName 0)) (rName 2))))))))))) : RS) (endsF [.s, .s, .s, .s] ds R F) (slots0 [.s, .s, .s, .s] ds ++ List.replicate 2 .no)) :
    FnOk P w K mg base (L2.CX P w) 4 f fd ["many", "steps", "harm", "paper"] (spQ K T [.s, .s, .s, .s] qz) := by
  refine q_fn (N := N_bars_way) F sc_bars_way rfl (fun cdv A outer s H E g hr hT => ?_) pure
  have hN : N_bars_way.Nodup := sc_bars_way.nd
  have hp := passes_of (X := cxOf (L2.CX P w) P w K mg base N_bars_way "bars_way" (defScope (top 14)) f cdv A outer s H E) rfl
  exact (qs_cons (q_expr (q_call (ms := [.s, .s]) (dd := []) (fnT hT (c_check_graph.ok.mono (Nat.le_trans l_check_graph (by decide)))) hr rfl c_check_graph.mg c_check_graph.kp c_check_graph.bd .nil (fun _ _ _ => rfl) (qa_cons (qv 0) (qa_cons (qv 1) qa_nil)))) (qs_cons (q_if (QW.qt (qw_and (q_cmpT op_isT rd_isN (qv 2) qn (nomark _)) (qw_and1 (qt_not (q_val (q_call (ms := [.s]) (dd := []) (fnT hT (c_plain_count.ok.mono (Nat.le_trans l_plain_count (by decide)))) hr rfl c_plain_count.mg c_plain_count.kp c_plain_count.bd .nil (fun _ _ _ => rfl) (qa_cons (qv 2) qa_nil))))))) (qs_one (q_raise1 (okD := D.fits) e_BadValue (ec := .bv) rfl (eaT hT a_BadValue) (fun r h => okV_of r h) (hr.mono (by decide)) rfl rfl qs)) qs_nil) (qs_cons (q_if (QW.qt (qw_or (qt_not (q_val (q_isa .list rfl b_isinstance rfl b_list (qv 3)))) (qw_or1 (q_cmpT (op_neQ (have z := uE hr; z)) rd_ne (q_len rfl b_len (qv 3)) (q_add (qv 0) qi) (nomark _))))) (qs_one (q_ret qb)) qs_nil) (qs_cons (q_if (qt_not (q_val (q_all rfl rfl b_all (q_lc rfl hN (own := [("entry", 4)]) (qi_list (qv 3)) (blkOk_by (by rfl)) (by decide) (fun _ _ _ _ _ => (qg_name (i := 4) hN rfl (by first | exact Or.inl rfl | exact Or.inr rfl) (.inr rfl))) (fun _ _ _ _ _ => qts_nil) (fun _ _ _ _ _ => (q_or (q_cmp op_isF rd_isN (qv 4) qn (nomark _)) (q_one (q_call (ms := [.s]) (dd := []) (fnT hT (c_plain_count.ok.mono (Nat.le_trans l_plain_count (by decide)))) hr rfl c_plain_count.mg c_plain_count.kp c_plain_count.bd .nil (fun _ _ _ => rfl) (qa_cons (qv 4) qa_nil))))))))) (qs_one (q_ret qb)) qs_nil) (qs_cons (q_if (QW.qt (qw_or (q_cmpT op_isF rd_isN (q_ix (have z := hu_of hr; z) (qv 3) qi) qn (nomark _)) (qw_or1 (q_cmpT (op_neQ (have z := uE hr; z)) rd_ne (q_ix (have z := hu_of hr; z) (qv 3) qi) qi (nomark _))))) (qs_one (q_ret qb)) qs_nil) (qs_cons (q_if (qt_not (q_val (q_all rfl rfl b_all (q_lc rfl hN (own := [("step", 5)]) (qi_list (qv 1)) (blkOk_by (by rfl)) (by decide) (fun _ _ _ _ _ => (qg_name (i := 5) hN rfl (by first | exact Or.inl rfl | exact Or.inr rfl) (.inr rfl))) (fun _ _ _ _ _ => qts_nil) (fun _ _ _ _ _ => (q_call (ms := [.s, .s]) (dd := []) (fnT hT (c_step_kept.ok.mono (Nat.le_trans l_step_kept (by decide)))) hr rfl c_step_kept.mg c_step_kept.kp c_step_kept.bd .nil (fun _ _ _ => rfl) (qa_cons (qv 3) (qa_cons (qv 5) qa_nil)))))))) (qs_one (q_ret qb)) qs_nil) (qs_cons (q_if (q_cmpT op_isF rd_isN (q_ix (have z := hu_of hr; z) (qv 3) (qv 0)) qn (nomark _)) (qs_one (q_ret qb)) qs_nil) (qs_one (q_ret (q_and (q_cmp op_isT rd_isN (qv 2) qn (nomark _)) (q_one (q_cmp op_ge rd_cmpI (q_ix (have z := hu_of hr; z) (qv 3) (qv 0)) (qv 2) (nomark _)))))))))))))
def N_law_store : List Str := ["_law_script", "_law_seed", "_law_cell"]
theorem sc_law_store : FnScope N_law_store ["_law_script"] (defScope (top 16)) := by refine ⟨?_, ?_, ?_, ?_, ?_, ?_, ?_⟩ <;> first | rfl | decide
theorem fn_law_store {f : Addr} {fd : FuncData} {qz : QSpec}
    (b_int : mg "int" = none)
    (b_list : mg "list" = none)
    (F : Fun K "_law_store" "_law_store" (top 16) f fd) (pure : ∀ (ds : List D) (R : SV → Prop) (F : Exn → Prop), qz ds R F → ((rSeq (rSet 1 (rC (.int 11))) (rSeq (rFor (riL (rName 0)) (gN 2) (rSet 1 (rOp2 oMod (rB1 oInt1 (rOp2 oAdd (rOp2 oAdd (rOp2 oRep (rName 1) (rC (.int 31))) (rOp2 oMod (rB1 oInt1 (rName 2)) (rC (.int 1000003)))) (rC (.int 7)))) (rC (.int 1000003))))) (rRetSto (rDict (rpCons (rC (.str "cells")) (rB1 oList (rName 0)) (rpCons (rC (.str "at")) (rC (.int 0)) (rpCons (rC (.str "now")) (rC (.int 0)) (rpCons (rC (.str "left")) (rC (.int 0)) (rpCons (rC (.str "great")) (rC (.bl false)) (rpCons (rC (.str "seed")) (rName 1) (rpCons (rC (.str "turn")) (rC (.int 0)) rpNil))))))))))) : RS) (endsF [.b] ds R F) (slots0 [.b] ds ++ List.replicate 2 .no)) :
    FnOk P w K mg base (L2.CX P w) 1 f fd ["_law_script"] (spQ K T [.b] qz) := by
  refine q_fnF (nb := 1) (N := N_law_store) F sc_law_store rfl (fun cdv A outer s H E g hr hT hGS => ?_) pure
  have hN : N_law_store.Nodup := sc_law_store.nd
  have hp := passes_of (X := cxOf (L2.CX P w) P w K mg base N_law_store "_law_store" (defScope (top 16)) f cdv A outer s H E) rfl
  exact (qs_cons (q_set (i := 1) hN rfl (by first | exact Or.inl rfl | exact Or.inr rfl) qi) (qs_cons (q_for hp rfl (qi_list (qv 0)) (qg_name (i := 2) hN rfl (by first | exact Or.inl rfl | exact Or.inr rfl)) (qs_one (q_set (i := 1) hN rfl (by first | exact Or.inl rfl | exact Or.inr rfl) (q_mod (q_int1 rfl b_int (q_add (q_add (q_rep (qv 1) qi) (q_mod (q_int1 rfl b_int (qv 2)) qi)) qi)) qi)))) (qs_one (q_retSto hGS (q_dict (qpm_cons qs (q_list rfl b_list (qv 0)) (qpm_cons qs qi (qpm_cons qs qi (qpm_cons qs qi (qpm_cons qs qb (qpm_cons qs (qv 1) (qpm_cons qs qi qpm_nil))))))))))))
def N_law_load : List Str := ["_law_store_here", "_law_at", "_law_cell"]
theorem sc_law_load : FnScope N_law_load ["_law_store_here"] (defScope (top 17)) := by refine ⟨?_, ?_, ?_, ?_, ?_, ?_, ?_⟩ <;> first | rfl | decide
theorem fn_law_load {f : Addr} {fd : FuncData} {qz : QSpec}
    (b_int : mg "int" = none)
    (b_len : mg "len" = none)
    (F : Fun K "_law_load" "_law_load" (top 17) f fd) (pure : ∀ (ds : List D) (R : SV → Prop) (F : Exn → Prop), qz ds R F → ((rOpen 0 (rSeq (rSet 1 (rB1 oInt1 (rOp2 oIx (rName 0) (rC (.str "at"))))) (rSeq (rSetIx 0 (rC (.str "at")) (rOp2 oAdd (rName 1) (rC (.int 1)))) (rSeq (rSetIx 0 (rC (.str "great")) (rC (.bl false))) (rSeq (rSetIx 0 (rC (.str "now")) (rOp2 oIx (rName 0) (rC (.str "seed")))) (rSeq (rSetIx 0 (rC (.str "left")) (rC (.int 1000))) (rIf (rB (rOp2 oLt (rName 1) (rB1 oLen (rOp2 oIx (rName 0) (rC (.str "cells")))))) (rSeq (rSet 2 (rB1 oInt1 (rOp2 oIx (rOp2 oIx (rName 0) (rC (.str "cells"))) (rName 1)))) (rSeq (rSetIx 0 (rC (.str "now")) (rOp2 oMod (rB1 oInt1 (rOp2 oAdd (rName 2) (rOp2 oRep (rOp2 oDiv (rName 2) (rC (.int 1000003))) (rC (.int 613))))) (rC (.int 1000003)))) (rSeq (rSetIx 0 (rC (.str "left")) (rC (.int 2))) (rIf (rB (rOp2 oGe (rName 2) (rOp2 oPow (rC (.int 10)) (rC (.int 18))))) (rSeq (rSetIx 0 (rC (.str "great")) (rC (.bl true))) (rSeq (rSetIx 0 (rC (.str "now")) (rOp2 oMod (rName 2) (rOp2 oPow (rOp2 oPow (rC (.int 10)) (rC (.int 60))) (rC (.int 10))))) (rSetIx 0 (rC (.str "left")) (rC (.int 120))))) rNext)))) rNext))))))) : RS) (endsF [.t] ds R F) (slots0 [.t] ds ++ List.replicate 2 .no)) :
    FnOk P w K mg base (L2.CX P w) 1 f fd ["_law_store_here"] (spQ K T [.t] qz) := by
  refine q_fn (N := N_law_load) F sc_law_load rfl (fun cdv A outer s H E g hr hT => ?_) pure
  have hN : N_law_load.Nodup := sc_law_load.nd
  have hp := passes_of (X := cxOf (L2.CX P w) P w K mg base N_law_load "_law_load" (defScope (top 17)) f cdv A outer s H E) rfl
  exact (q_open 0 (qs_cons (q_set (i := 1) hN rfl (by first | exact Or.inl rfl | exact Or.inr rfl) (q_int1 rfl b_int (q_ix (have z := hu_of hr; z) (qv 0) qs))) (qs_cons (q_setIx 0 (have z := hu_of hr; z) rfl qs (q_add (qv 1) qi)) (qs_cons (q_setIx 0 (have z := hu_of hr; z) rfl qs qb) (qs_cons (q_setIx 0 (have z := hu_of hr; z) rfl qs (q_ix (have z := hu_of hr; z) (qv 0) qs)) (qs_cons (q_setIx 0 (have z := hu_of hr; z) rfl qs qi) (qs_one (q_if (q_cmpT op_lt rd_cmpI (qv 1) (q_len rfl b_len (q_ix (have z := hu_of hr; z) (qv 0) qs)) (nomark _)) (qs_cons (q_set (i := 2) hN rfl (by first | exact Or.inl rfl | exact Or.inr rfl) (q_int1 rfl b_int (q_ix (have z := hu_of hr; z) (q_ix (have z := hu_of hr; z) (qv 0) qs) (qv 1)))) (qs_cons (q_setIx 0 (have z := hu_of hr; z) rfl qs (q_mod (q_int1 rfl b_int (q_add (qv 2) (q_rep (q_div (qv 2) qi) qi))) qi)) (qs_cons (q_setIx 0 (have z := hu_of hr; z) rfl qs qi) (qs_one (q_if (q_cmpT op_ge rd_cmpI (qv 2) (q_pow qi qi) (nomark _)) (qs_cons (q_setIx 0 (have z := hu_of hr; z) rfl qs qb) (qs_cons (q_setIx 0 (have z := hu_of hr; z) rfl qs (q_mod (qv 2) (q_pow (q_pow qi qi) qi))) (qs_one (q_setIx 0 (have z := hu_of hr; z) rfl qs qi)))) qs_nil))))) qs_nil))))))))
def N_law_mix : List Str := ["_law_number", "_law_turn", "_law_once"]
theorem sc_law_mix : FnScope N_law_mix ["_law_number", "_law_turn"] (defScope (top 18)) := by refine ⟨?_, ?_, ?_, ?_, ?_, ?_, ?_⟩ <;> first | rfl | decide
theorem fn_law_mix {f : Addr} {fd : FuncData} {qz : QSpec}
    (b_int : mg "int" = none)
    (F : Fun K "_law_mix" "_law_mix" (top 18) f fd) (pure : ∀ (ds : List D) (R : SV → Prop) (F : Exn → Prop), qz ds R F → ((rSeq (rSet 2 (rOp2 oMod (rB1 oInt1 (rOp2 oAdd (rOp2 oAdd (rOp2 oRep (rName 0) (rC (.int 7919))) (rOp2 oRep (rName 1) (rC (.int 104729)))) (rC (.int 31)))) (rC (.int 1000003)))) (rRet (rOp2 oMod (rB1 oInt1 (rOp2 oAdd (rOp2 oRep (rOp2 oRep (rOp2 oAdd (rOp2 oMod (rName 2) (rC (.int 1000))) (rC (.int 17))) (rOp2 oAdd (rOp2 oDiv (rName 2) (rC (.int 1000))) (rC (.int 613)))) (rC (.int 29))) (rName 2))) (rC (.int 999983))))) : RS) (endsF [.s, .s] ds R F) (slots0 [.s, .s] ds ++ List.replicate 1 .no)) :
    FnOk P w K mg base (L2.CX P w) 1 f fd ["_law_number", "_law_turn"] (spQ K T [.s, .s] qz) := by
  refine q_fn (N := N_law_mix) F sc_law_mix rfl (fun cdv A outer s H E g hr hT => ?_) pure
  have hN : N_law_mix.Nodup := sc_law_mix.nd
  have hp := passes_of (X := cxOf (L2.CX P w) P w K mg base N_law_mix "_law_mix" (defScope (top 18)) f cdv A outer s H E) rfl
  exact (qs_cons (q_set (i := 2) hN rfl (by first | exact Or.inl rfl | exact Or.inr rfl) (q_mod (q_int1 rfl b_int (q_add (q_add (q_rep (qv 0) qi) (q_rep (qv 1) qi)) qi)) qi)) (qs_one (q_ret (q_mod (q_int1 rfl b_int (q_add (q_rep (q_rep (q_add (q_mod (qv 2) qi) qi) (q_add (q_div (qv 2) qi) qi)) qi) (qv 2))) qi))))
def N_law_take : List Str := ["_law_store_here", "_law_many", "_law_now", "_law_value_here", "_law_k"]
theorem sc_law_take : FnScope N_law_take ["_law_store_here", "_law_many"] (defScope (top 19)) := by refine ⟨?_, ?_, ?_, ?_, ?_, ?_, ?_⟩ <;> first | rfl | decide
theorem fn_law_take {f : Addr} {fd : FuncData} {qz : QSpec}
    {k__law_load : Nat} {f__law_load : Addr} {fd__law_load : FuncData} {s_law_load : QSpec} (l__law_load : k__law_load ≤ 1) (c__law_load : Cd P w K mg base T "_law_load" ["_law_store_here"] k__law_load [.t] s_law_load (top 17) f__law_load fd__law_load)
    {k__law_mix : Nat} {f__law_mix : Addr} {fd__law_mix : FuncData} {s_law_mix : QSpec} (l__law_mix : k__law_mix ≤ 1) (c__law_mix : Cd P w K mg base T "_law_mix" ["_law_number", "_law_turn"] k__law_mix [.s, .s] s_law_mix (top 18) f__law_mix fd__law_mix)
    (b_int : mg "int" = none)
    (b_str : mg "str" = none)
    (b_len : mg "len" = none)
    (b_range : mg "range" = none)
    (F : Fun K "_law_take" "_law_take" (top 19) f fd) (pure : ∀ (ds : List D) (R : SV → Prop) (F : Exn → Prop), qz ds R F → ((rOpen 0 (rSeq (rIf (rB (rOp2 oLt (rName 1) (rC (.int 2)))) (rRet (rC (.int 0))) rNext) (rSeq (rIf (rB (rOp2 oLt (rB1 oInt1 (rOp2 oIx (rName 0) (rC (.str "left")))) (rC (.int 1)))) (rSeq (rClose 0 (rDrop (rCall [.t] s_law_load [] (rCons (rName 0) rNil)))) (rOpen 0 rNext)) rNext) (rSeq (rSetIx 0 (rC (.str "left")) (rOp2 oSub (rB1 oInt1 (rOp2 oIx (rName 0) (rC (.str "left")))) (rC (.int 1)))) (rSeq (rSet 2 (rB1 oInt1 (rOp2 oIx (rName 0) (rC (.str "now"))))) (rSeq (rIf (rB (rOp2 oIx (rName 0) (rC (.str "great")))) (rSeq (rSetIx 0 (rC (.str "now")) (rOp2 oDiv (rName 2) (rName 1))) (rSeq (rIf (rB (rOp2 oLt (rName 2) (rName 1))) (rSetIx 0 (rC (.str "left")) (rC (.int 0))) rNext) (rRet (rOp2 oMod (rName 2) (rName 1))))) rNext) (rSeq (rSet 3 (rC (.int 0))) (rSeq (rFor (riR1 (rCons (rOp2 oAdd (rC (.int 1)) (rOp2 oDiv (rB1 oLen (rB1 oStr1 (rName 1))) (rC (.int 6)))) rNil)) (gN 4) (rSeq (rSetIx 0 (rC (.str "turn")) (rOp2 oAdd (rB1 oInt1 (rOp2 oIx (rName 0) (rC (.str "turn")))) (rC (.int 1)))) (rSet 3 (rOp2 oAdd (rOp2 oRep (rName 3) (rC (.int 1000000))) (rCall [.s, .s] s_law_mix [] (rCons (rName 2) (rCons (rOp2 oIx (rName 0) (rC (.str "turn"))) rNil))))))) (rRet (rOp2 oMod (rB1 oInt1 (rName 3)) (rName 1))))))))))) : RS) (endsF [.t, .s] ds R F) (slots0 [.t, .s] ds ++ List.replicate 3 .no)) :
    FnOk P w K mg base (L2.CX P w) 2 f fd ["_law_store_here", "_law_many"] (spQ K T [.t, .s] qz) := by
  refine q_fn (N := N_law_take) F sc_law_take rfl (fun cdv A outer s H E g hr hT => ?_) pure
  have hN : N_law_take.Nodup := sc_law_take.nd
  have hp := passes_of (X := cxOf (L2.CX P w) P w K mg base N_law_take "_law_take" (defScope (top 19)) f cdv A outer s H E) rfl
  exact (q_open 0 (qs_cons (q_if (q_cmpT op_lt rd_cmpI (qv 1) qi (nomark _)) (qs_one (q_ret qi)) qs_nil) (qs_cons (q_if (q_cmpT op_lt rd_cmpI (q_int1 rfl b_int (q_ix (have z := hu_of hr; z) (qv 0) qs)) qi (nomark _)) (qs_cons (q_close 0 (q_expr (q_call (ms := [.t]) (dd := []) (fnT hT (c__law_load.ok.mono (Nat.le_trans l__law_load (by decide)))) hr rfl c__law_load.mg c__law_load.kp c__law_load.bd .nil (fun _ _ _ => rfl) (qa_cons (qv 0) qa_nil)))) (q_open 0 qs_nil)) qs_nil) (qs_cons (q_setIx 0 (have z := hu_of hr; z) rfl qs (q_sub (q_int1 rfl b_int (q_ix (have z := hu_of hr; z) (qv 0) qs)) qi)) (qs_cons (q_set (i := 2) hN rfl (by first | exact Or.inl rfl | exact Or.inr rfl) (q_int1 rfl b_int (q_ix (have z := hu_of hr; z) (qv 0) qs))) (qs_cons (q_if (q_val (q_ix (have z := hu_of hr; z) (qv 0) qs)) (qs_cons (q_setIx 0 (have z := hu_of hr; z) rfl qs (q_div (qv 2) (qv 1))) (qs_cons (q_if (q_cmpT op_lt rd_cmpI (qv 2) (qv 1) (nomark _)) (qs_one (q_setIx 0 (have z := hu_of hr; z) rfl qs qi)) qs_nil) (qs_one (q_ret (q_mod (qv 2) (qv 1)))))) qs_nil) (qs_cons (q_set (i := 3) hN rfl (by first | exact Or.inl rfl | exact Or.inr rfl) qi) (qs_cons (q_for hp rfl (qi_range1 rfl b_range (qa_cons (q_add qi (q_div (q_len rfl b_len (q_str1 rfl b_str (qv 1))) qi)) qa_nil)) (qg_name (i := 4) hN rfl (by first | exact Or.inl rfl | exact Or.inr rfl)) (qs_cons (q_setIx 0 (have z := hu_of hr; z) rfl qs (q_add (q_int1 rfl b_int (q_ix (have z := hu_of hr; z) (qv 0) qs)) qi)) (qs_one (q_set (i := 3) hN rfl (by first | exact Or.inl rfl | exact Or.inr rfl) (q_add (q_rep (qv 3) qi) (q_call (ms := [.s, .s]) (dd := []) (fnT hT (c__law_mix.ok.mono (Nat.le_trans l__law_mix (by decide)))) hr rfl c__law_mix.mg c__law_mix.kp c__law_mix.bd .nil (fun _ _ _ => rfl) (qa_cons (qv 2) (qa_cons (q_ix (have z := hu_of hr; z) (qv 0) qs) qa_nil)))))))) (qs_one (q_ret (q_mod (q_int1 rfl b_int (qv 3)) (qv 1))))))))))))
def N_law_size : List Str := ["_law_store_here", "_law_most", "_law_choice"]
theorem sc_law_size : FnScope N_law_size ["_law_store_here", "_law_most"] (defScope (top 20)) := by refine ⟨?_, ?_, ?_, ?_, ?_, ?_, ?_⟩ <;> first | rfl | decide
theorem fn_law_size {f : Addr} {fd : FuncData} {qz : QSpec}
    {k__law_take : Nat} {f__law_take : Addr} {fd__law_take : FuncData} {s_law_take : QSpec} (l__law_take : k__law_take ≤ 2) (c__law_take : Cd P w K mg base T "_law_take" ["_law_store_here", "_law_many"] k__law_take [.t, .s] s_law_take (top 19) f__law_take fd__law_take)
    (b_max : mg "max" = none)
    (b_min : mg "min" = none)
    (F : Fun K "_law_size" "_law_size" (top 20) f fd) (pure : ∀ (ds : List D) (R : SV → Prop) (F : Exn → Prop), qz ds R F → ((rSeq (rSet 1 (rOp2 oMax (rC (.int 0)) (rName 1))) (rSeq (rSet 2 (rCall [.t, .s] s_law_take [] (rCons (rName 0) (rCons (rC (.int 12)) rNil)))) (rSeq (rIf (rB (rOp2 oLt (rName 2) (rC (.int 2)))) (rRet (rOp2 oMin (rName 2) (rName 1))) rNext) (rSeq (rIf (rB (rOp2 (oEq false) (rName 2) (rC (.int 2)))) (rRet (rName 1)) rNext) (rSeq (rIf (rB (rOp2 (oEq false) (rName 2) (rC (.int 3)))) (rRet (rCall [.t, .s] s_law_take [] (rCons (rName 0) (rCons (rOp2 oAdd (rName 1) (rC (.int 1))) rNil)))) rNext) (rRet (rCall [.t, .s] s_law_take [] (rCons (rName 0) (rCons (rOp2 oAdd (rOp2 oMin (rName 1) (rC (.int 4))) (rC (.int 1))) rNil))))))))) : RS) (endsF [.t, .s] ds R F) (slots0 [.t, .s] ds ++ List.replicate 1 .no)) :
    FnOk P w K mg base (L2.CX P w) 3 f fd ["_law_store_here", "_law_most"] (spQ K T [.t, .s] qz) := by
  refine q_fn (N := N_law_size) F sc_law_size rfl (fun cdv A outer s H E g hr hT => ?_) pure
  have hN : N_law_size.Nodup := sc_law_size.nd
  have hp := passes_of (X := cxOf (L2.CX P w) P w K mg base N_law_size "_law_size" (defScope (top 20)) f cdv A outer s H E) rfl
  exact (qs_cons (q_set (i := 1) hN rfl (by first | exact Or.inl rfl | exact Or.inr rfl) (q_max rfl rfl b_max qi (qv 1))) (qs_cons (q_set (i := 2) hN rfl (by first | exact Or.inl rfl | exact Or.inr rfl) (q_call (ms := [.t, .s]) (dd := []) (fnT hT (c__law_take.ok.mono (Nat.le_trans l__law_take (by decide)))) hr rfl c__law_take.mg c__law_take.kp c__law_take.bd .nil (fun _ _ _ => rfl) (qa_cons (qv 0) (qa_cons qi qa_nil)))) (qs_cons (q_if (q_cmpT op_lt rd_cmpI (qv 2) qi (nomark _)) (qs_one (q_ret (q_min rfl rfl b_min (qv 2) (qv 1)))) qs_nil) (qs_cons (q_if (q_cmpT (op_eqQ (have z := uE hr; z)) rd_eq (qv 2) qi (nomark _)) (qs_one (q_ret (qv 1))) qs_nil) (qs_cons (q_if (q_cmpT (op_eqQ (have z := uE hr; z)) rd_eq (qv 2) qi (nomark _)) (qs_one (q_ret (q_call (ms := [.t, .s]) (dd := []) (fnT hT (c__law_take.ok.mono (Nat.le_trans l__law_take (by decide)))) hr rfl c__law_take.mg c__law_take.kp c__law_take.bd .nil (fun _ _ _ => rfl) (qa_cons (qv 0) (qa_cons (q_add (qv 1) qi) qa_nil))))) qs_nil) (qs_one (q_ret (q_call (ms := [.t, .s]) (dd := []) (fnT hT (c__law_take.ok.mono (Nat.le_trans l__law_take (by decide)))) hr rfl c__law_take.mg c__law_take.kp c__law_take.bd .nil (fun _ _ _ => rfl) (qa_cons (qv 0) (qa_cons (q_add (q_min rfl rfl b_min (qv 1) qi) qi) qa_nil))))))))))
def N_law_large : List Str := ["_law_store_here", "_law_bound", "_law_choice"]
theorem sc_law_large : FnScope N_law_large ["_law_store_here", "_law_bound"] (defScope (top 21)) := by refine ⟨?_, ?_, ?_, ?_, ?_, ?_, ?_⟩ <;> first | rfl | decide
theorem fn_law_large {f : Addr} {fd : FuncData} {qz : QSpec}
    {k__law_take : Nat} {f__law_take : Addr} {fd__law_take : FuncData} {s_law_take : QSpec} (l__law_take : k__law_take ≤ 2) (c__law_take : Cd P w K mg base T "_law_take" ["_law_store_here", "_law_many"] k__law_take [.t, .s] s_law_take (top 19) f__law_take fd__law_take)
    (b_min : mg "min" = none)
    (b_max : mg "max" = none)
    (F : Fun K "_law_large" "_law_large" (top 21) f fd) (pure : ∀ (ds : List D) (R : SV → Prop) (F : Exn → Prop), qz ds R F → ((rSeq (rSet 2 (rCall [.t, .s] s_law_take [] (rCons (rName 0) (rCons (rC (.int 8)) rNil)))) (rSeq (rIf (rB (rOp2 oLt (rName 2) (rC (.int 2)))) (rRet (rOp2 oMax (rC (.int 0)) (rOp2 oMin (rName 2) (rOp2 oSub (rName 1) (rC (.int 1)))))) rNext) (rSeq (rIf (rB (rOp2 (oEq false) (rName 2) (rC (.int 2)))) (rRet (rOp2 oMax (rC (.int 0)) (rOp2 oSub (rName 1) (rC (.int 1))))) rNext) (rSeq (rIf (rB (rOp2 (oEq false) (rName 2) (rC (.int 3)))) (rRet (rCall [.t, .s] s_law_take [] (rCons (rName 0) (rCons (rName 1) rNil)))) rNext) (rRet (rCall [.t, .s] s_law_take [] (rCons (rName 0) (rCons (rOp2 oMin (rName 1) (rC (.int 12))) rNil)))))))) : RS) (endsF [.t, .s] ds R F) (slots0 [.t, .s] ds ++ List.replicate 1 .no)) :
    FnOk P w K mg base (L2.CX P w) 3 f fd ["_law_store_here", "_law_bound"] (spQ K T [.t, .s] qz) := by
  refine q_fn (N := N_law_large) F sc_law_large rfl (fun cdv A outer s H E g hr hT => ?_) pure
  have hN : N_law_large.Nodup := sc_law_large.nd
  have hp := passes_of (X := cxOf (L2.CX P w) P w K mg base N_law_large "_law_large" (defScope (top 21)) f cdv A outer s H E) rfl
  exact (qs_cons (q_set (i := 2) hN rfl (by first | exact Or.inl rfl | exact Or.inr rfl) (q_call (ms := [.t, .s]) (dd := []) (fnT hT (c__law_take.ok.mono (Nat.le_trans l__law_take (by decide)))) hr rfl c__law_take.mg c__law_take.kp c__law_take.bd .nil (fun _ _ _ => rfl) (qa_cons (qv 0) (qa_cons qi qa_nil)))) (qs_cons (q_if (q_cmpT op_lt rd_cmpI (qv 2) qi (nomark _)) (qs_one (q_ret (q_max rfl rfl b_max qi (q_min rfl rfl b_min (qv 2) (q_sub (qv 1) qi))))) qs_nil) (qs_cons (q_if (q_cmpT (op_eqQ (have z := uE hr; z)) rd_eq (qv 2) qi (nomark _)) (qs_one (q_ret (q_max rfl rfl b_max qi (q_sub (qv 1) qi)))) qs_nil) (qs_cons (q_if (q_cmpT (op_eqQ (have z := uE hr; z)) rd_eq (qv 2) qi (nomark _)) (qs_one (q_ret (q_call (ms := [.t, .s]) (dd := []) (fnT hT (c__law_take.ok.mono (Nat.le_trans l__law_take (by decide)))) hr rfl c__law_take.mg c__law_take.kp c__law_take.bd .nil (fun _ _ _ => rfl) (qa_cons (qv 0) (qa_cons (qv 1) qa_nil))))) qs_nil) (qs_one (q_ret (q_call (ms := [.t, .s]) (dd := []) (fnT hT (c__law_take.ok.mono (Nat.le_trans l__law_take (by decide)))) hr rfl c__law_take.mg c__law_take.kp c__law_take.bd .nil (fun _ _ _ => rfl) (qa_cons (qv 0) (qa_cons (q_min rfl rfl b_min (qv 1) qi) qa_nil)))))))))
def N_law_pick : List Str := ["_law_store_here", "_law_row"]
theorem sc_law_pick : FnScope N_law_pick ["_law_store_here", "_law_row"] (defScope (top 22)) := by refine ⟨?_, ?_, ?_, ?_, ?_, ?_, ?_⟩ <;> first | rfl | decide
theorem fn_law_pick {f : Addr} {fd : FuncData} {qz : QSpec}
    {k__law_take : Nat} {f__law_take : Addr} {fd__law_take : FuncData} {s_law_take : QSpec} (l__law_take : k__law_take ≤ 2) (c__law_take : Cd P w K mg base T "_law_take" ["_law_store_here", "_law_many"] k__law_take [.t, .s] s_law_take (top 19) f__law_take fd__law_take)
    (b_len : mg "len" = none)
    (F : Fun K "_law_pick" "_law_pick" (top 22) f fd) (pure : ∀ (ds : List D) (R : SV → Prop) (F : Exn → Prop), qz ds R F → ((rSeq (rIf (rB (rOp2 oLt (rB1 oLen (rName 1)) (rC (.int 1)))) (rRet (rC .non)) rNext) (rRet (rOp2 oIx (rName 1) (rCall [.t, .s] s_law_take [] (rCons (rName 0) (rCons (rB1 oLen (rName 1)) rNil)))))) : RS) (endsF [.t, .s] ds R F) (slots0 [.t, .s] ds ++ List.replicate 0 .no)) :
    FnOk P w K mg base (L2.CX P w) 3 f fd ["_law_store_here", "_law_row"] (spQ K T [.t, .s] qz) := by
  refine q_fn (N := N_law_pick) F sc_law_pick rfl (fun cdv A outer s H E g hr hT => ?_) pure
  have hN : N_law_pick.Nodup := sc_law_pick.nd
  have hp := passes_of (X := cxOf (L2.CX P w) P w K mg base N_law_pick "_law_pick" (defScope (top 22)) f cdv A outer s H E) rfl
  exact (qs_cons (q_if (q_cmpT op_lt rd_cmpI (q_len rfl b_len (qv 1)) qi (nomark _)) (qs_one (q_ret qn)) qs_nil) (qs_one (q_ret (q_ix (have z := hu_of hr; z) (qv 1) (q_call (ms := [.t, .s]) (dd := []) (fnT hT (c__law_take.ok.mono (Nat.le_trans l__law_take (by decide)))) hr rfl c__law_take.mg c__law_take.kp c__law_take.bd .nil (fun _ _ _ => rfl) (qa_cons (qv 0) (qa_cons (q_len rfl b_len (qv 1)) qa_nil)))))))
def N_law_odds : List Str := ["_law_store_here", "_law_parts"]
theorem sc_law_odds : FnScope N_law_odds ["_law_store_here", "_law_parts"] (defScope (top 23)) := by refine ⟨?_, ?_, ?_, ?_, ?_, ?_, ?_⟩ <;> first | rfl | decide
theorem fn_law_odds {f : Addr} {fd : FuncData} {qz : QSpec}
    {k__law_take : Nat} {f__law_take : Addr} {fd__law_take : FuncData} {s_law_take : QSpec} (l__law_take : k__law_take ≤ 2) (c__law_take : Cd P w K mg base T "_law_take" ["_law_store_here", "_law_many"] k__law_take [.t, .s] s_law_take (top 19) f__law_take fd__law_take)
    (F : Fun K "_law_odds" "_law_odds" (top 23) f fd) (pure : ∀ (ds : List D) (R : SV → Prop) (F : Exn → Prop), qz ds R F → ((rRet (rOp2 (oEq false) (rCall [.t, .s] s_law_take [] (rCons (rName 0) (rCons (rName 1) rNil))) (rC (.int 0)))) : RS) (endsF [.t, .s] ds R F) (slots0 [.t, .s] ds ++ List.replicate 0 .no)) :
    FnOk P w K mg base (L2.CX P w) 3 f fd ["_law_store_here", "_law_parts"] (spQ K T [.t, .s] qz) := by
  refine q_fn (N := N_law_odds) F sc_law_odds rfl (fun cdv A outer s H E g hr hT => ?_) pure
  have hN : N_law_odds.Nodup := sc_law_odds.nd
  have hp := passes_of (X := cxOf (L2.CX P w) P w K mg base N_law_odds "_law_odds" (defScope (top 23)) f cdv A outer s H E) rfl
  exact (qs_one (q_ret (q_cmp (op_eqQ (have z := uE hr; z)) rd_eq (q_call (ms := [.t, .s]) (dd := []) (fnT hT (c__law_take.ok.mono (Nat.le_trans l__law_take (by decide)))) hr rfl c__law_take.mg c__law_take.kp c__law_take.bd .nil (fun _ _ _ => rfl) (qa_cons (qv 0) (qa_cons (qv 1) qa_nil))) qi (nomark _))))
def N_law_some : List Str := ["_law_store_here", "_law_row", "_law_many", "_law_pool", "_law_out", "_law_k"]
theorem sc_law_some : FnScope N_law_some ["_law_store_here", "_law_row", "_law_many"] (defScope (top 24)) := by refine ⟨?_, ?_, ?_, ?_, ?_, ?_, ?_⟩ <;> first | rfl | decide
theorem fn_law_some {f : Addr} {fd : FuncData} {qz : QSpec}
    {k__law_take : Nat} {f__law_take : Addr} {fd__law_take : FuncData} {s_law_take : QSpec} (l__law_take : k__law_take ≤ 2) (c__law_take : Cd P w K mg base T "_law_take" ["_law_store_here", "_law_many"] k__law_take [.t, .s] s_law_take (top 19) f__law_take fd__law_take)
    (b_list : mg "list" = none)
    (b_len : mg "len" = none)
    (b_min : mg "min" = none)
    (b_range : mg "range" = none)
    (F : Fun K "_law_some" "_law_some" (top 24) f fd) (pure : ∀ (ds : List D) (R : SV → Prop) (F : Exn → Prop), qz ds R F → ((rSeq (rSet 3 (rB1 oList (rName 1))) (rSeq (rSet 4 (rLst rNil)) (rSeq (rFor (riR1 (rCons (rOp2 oMin (rName 2) (rB1 oLen (rName 3))) rNil)) (gN 5) (rDrop (rMS2 4 moAppend (rCons (rMS2 3 moPop (rCons (rCall [.t, .s] s_law_take [] (rCons (rName 0) (rCons (rB1 oLen (rName 3)) rNil))) rNil)) rNil)))) (rRet (rName 4))))) : RS) (endsF [.t, .s, .s] ds R F) (slots0 [.t, .s, .s] ds ++ List.replicate 3 .no)) :
    FnOk P w K mg base (L2.CX P w) 3 f fd ["_law_store_here", "_law_row", "_law_many"] (spQ K T [.t, .s, .s] qz) := by
  refine q_fn (N := N_law_some) F sc_law_some rfl (fun cdv A outer s H E g hr hT => ?_) pure
  have hN : N_law_some.Nodup := sc_law_some.nd
  have hp := passes_of (X := cxOf (L2.CX P w) P w K mg base N_law_some "_law_some" (defScope (top 24)) f cdv A outer s H E) rfl
  exact (qs_cons (q_set (i := 3) hN rfl (by first | exact Or.inl rfl | exact Or.inr rfl) (q_list rfl b_list (qv 1))) (qs_cons (q_set (i := 4) hN rfl (by first | exact Or.inl rfl | exact Or.inr rfl) (q_lst qa_nil)) (qs_cons (q_for hp rfl (qi_range1 rfl b_range (qa_cons (q_min rfl rfl b_min (qv 2) (q_len rfl b_len (qv 3))) qa_nil)) (qg_name (i := 5) hN rfl (by first | exact Or.inl rfl | exact Or.inr rfl)) (qs_one (q_expr (q_append 4 rfl (q_popAt 3 rfl (q_call (ms := [.t, .s]) (dd := []) (fnT hT (c__law_take.ok.mono (Nat.le_trans l__law_take (by decide)))) hr rfl c__law_take.mg c__law_take.kp c__law_take.bd .nil (fun _ _ _ => rfl) (qa_cons (qv 0) (qa_cons (q_len rfl b_len (qv 3)) qa_nil)))))))) (qs_one (q_ret (qv 4))))))
def N_law_shuffled : List Str := ["_law_store_here", "_law_row", "_law_choice", "_law_k"]
theorem sc_law_shuffled : FnScope N_law_shuffled ["_law_store_here", "_law_row"] (defScope (top 25)) := by refine ⟨?_, ?_, ?_, ?_, ?_, ?_, ?_⟩ <;> first | rfl | decide
theorem fn_law_shuffled {f : Addr} {fd : FuncData} {qz : QSpec}
    {k__law_take : Nat} {f__law_take : Addr} {fd__law_take : FuncData} {s_law_take : QSpec} (l__law_take : k__law_take ≤ 3) (c__law_take : Cd P w K mg base T "_law_take" ["_law_store_here", "_law_many"] k__law_take [.t, .s] s_law_take (top 19) f__law_take fd__law_take)
    {k__law_some : Nat} {f__law_some : Addr} {fd__law_some : FuncData} {s_law_some : QSpec} (l__law_some : k__law_some ≤ 3) (c__law_some : Cd P w K mg base T "_law_some" ["_law_store_here", "_law_row", "_law_many"] k__law_some [.t, .s, .s] s_law_some (top 24) f__law_some fd__law_some)
    (b_list : mg "list" = none)
    (b_len : mg "len" = none)
    (b_range : mg "range" = none)
    (F : Fun K "_law_shuffled" "_law_shuffled" (top 25) f fd) (pure : ∀ (ds : List D) (R : SV → Prop) (F : Exn → Prop), qz ds R F → ((rSeq (rSet 2 (rCall [.t, .s] s_law_take [] (rCons (rName 0) (rCons (rC (.int 4)) rNil)))) (rSeq (rIf (rB (rOp2 (oEq false) (rName 2) (rC (.int 0)))) (rRet (rB1 oList (rName 1))) rNext) (rSeq (rIf (rB (rOp2 (oEq false) (rName 2) (rC (.int 1)))) (rRet (rLc [3] (riR1 (rCons (rB1 oLen (rName 1)) rNil)) (gN 3) rYes (rOp2 oIx (rName 1) (rOp2 oSub (rOp2 oSub (rB1 oLen (rName 1)) (rC (.int 1))) (rName 3))))) rNext) (rRet (rCall [.t, .s, .s] s_law_some [] (rCons (rName 0) (rCons (rName 1) (rCons (rB1 oLen (rName 1)) rNil)))))))) : RS) (endsF [.t, .s] ds R F) (slots0 [.t, .s] ds ++ List.replicate 2 .no)) :
    FnOk P w K mg base (L2.CX P w) 4 f fd ["_law_store_here", "_law_row"] (spQ K T [.t, .s] qz) := by
  refine q_fn (N := N_law_shuffled) F sc_law_shuffled rfl (fun cdv A outer s H E g hr hT => ?_) pure
  have hN : N_law_shuffled.Nodup := sc_law_shuffled.nd
  have hp := passes_of (X := cxOf (L2.CX P w) P w K mg base N_law_shuffled "_law_shuffled" (defScope (top 25)) f cdv A outer s H E) rfl
  exact (qs_cons (q_set (i := 2) hN rfl (by first | exact Or.inl rfl | exact Or.inr rfl) (q_call (ms := [.t, .s]) (dd := []) (fnT hT (c__law_take.ok.mono (Nat.le_trans l__law_take (by decide)))) hr rfl c__law_take.mg c__law_take.kp c__law_take.bd .nil (fun _ _ _ => rfl) (qa_cons (qv 0) (qa_cons qi qa_nil)))) (qs_cons (q_if (q_cmpT (op_eqQ (have z := uE hr; z)) rd_eq (qv 2) qi (nomark _)) (qs_one (q_ret (q_list rfl b_list (qv 1)))) qs_nil) (qs_cons (q_if (q_cmpT (op_eqQ (have z := uE hr; z)) rd_eq (qv 2) qi (nomark _)) (qs_one (q_ret (q_lc rfl hN (own := [("_law_k", 3)]) (qi_range1 rfl b_range (qa_cons (q_len rfl b_len (qv 1)) qa_nil)) (blkOk_by (by rfl)) (by decide) (fun _ _ _ _ _ => (qg_name (i := 3) hN rfl (by first | exact Or.inl rfl | exact Or.inr rfl) (.inr rfl))) (fun _ _ _ _ _ => qts_nil) (fun _ _ _ _ _ => (q_ix (have z := hu_of hr; z) (qv 1) (q_sub (q_sub (q_len rfl b_len (qv 1)) qi) (qv 3))))))) qs_nil) (qs_one (q_ret (q_call (ms := [.t, .s, .s]) (dd := []) (fnT hT (c__law_some.ok.mono (Nat.le_trans l__law_some (by decide)))) hr rfl c__law_some.mg c__law_some.kp c__law_some.bd .nil (fun _ _ _ => rfl) (qa_cons (qv 0) (qa_cons (qv 1) (qa_cons (q_len rfl b_len (qv 1)) qa_nil)))))))))
def N_law_chars : List Str := []
theorem sc_law_chars : FnScope N_law_chars [] (defScope (top 26)) := by refine ⟨?_, ?_, ?_, ?_, ?_, ?_, ?_⟩ <;> first | rfl | decide
theorem fn_law_chars {f : Addr} {fd : FuncData} {qz : QSpec}
    (F : Fun K "_law_chars" "_law_chars" (top 26) f fd) (pure : ∀ (ds : List D) (R : SV → Prop) (F : Exn → Prop), qz ds R F → ((rRet (rC (.str " !\"#$&'()*+,-./0123456789:;<=>?@ABCDEFGHIJKLMNOPQRSTUVWXYZ[\\]^_`abcdefghijklmnopqrstuvwxyz{|}~"))) : RS) (endsF [] ds R F) (slots0 [] ds ++ List.replicate 0 .no)) :
    FnOk P w K mg base (L2.CX P w) 1 f fd [] (spQ K T [] qz) := by
  refine q_fn (N := N_law_chars) F sc_law_chars rfl (fun cdv A outer s H E g hr hT => ?_) pure
  have hN : N_law_chars.Nodup := sc_law_chars.nd
  have hp := passes_of (X := cxOf (L2.CX P w) P w K mg base N_law_chars "_law_chars" (defScope (top 26)) f cdv A outer s H E) rfl
  exact (qs_one (q_ret qs))
def N_law_text : List Str := ["_law_store_here", "_law_most", "_law_chars_here", "_law_k"]
theorem sc_law_text : FnScope N_law_text ["_law_store_here", "_law_most"] (defScope (top 27)) := by refine ⟨?_, ?_, ?_, ?_, ?_, ?_, ?_⟩ <;> first | rfl | decide
theorem fn_law_text {f : Addr} {fd : FuncData} {qz : QSpec}
    {k__law_chars : Nat} {f__law_chars : Addr} {fd__law_chars : FuncData} {s_law_chars : QSpec} (l__law_chars : k__law_chars ≤ 3) (c__law_chars : Cd P w K mg base T "_law_chars" [] k__law_chars [] s_law_chars (top 26) f__law_chars fd__law_chars)
    {k__law_size : Nat} {f__law_size : Addr} {fd__law_size : FuncData} {s_law_size : QSpec} (l__law_size : k__law_size ≤ 3) (c__law_size : Cd P w K mg base T "_law_size" ["_law_store_here", "_law_most"] k__law_size [.t, .s] s_law_size (top 20) f__law_size fd__law_size)
    {k__law_pick : Nat} {f__law_pick : Addr} {fd__law_pick : FuncData} {s_law_pick : QSpec} (l__law_pick : k__law_pick ≤ 3) (c__law_pick : Cd P w K mg base T "_law_pick" ["_law_store_here", "_law_row"] k__law_pick [.t, .s] s_law_pick (top 22) f__law_pick fd__law_pick)
    (b_range : mg "range" = none)
    (F : Fun K "_law_text" "_law_text" (top 27) f fd) (pure : ∀ (ds : List D) (R : SV → Prop) (F : Exn → Prop), qz ds R F → ((rSeq (rSet 2 (rCall [] s_law_chars [] rNil)) (rRet (rS1 oJoin (rC (.str "")) (rLc [3] (riR1 (rCons (rCall [.t, .s] s_law_size [] (rCons (rName 0) (rCons (rName 1) rNil))) rNil)) (gN 3) rYes (rCall [.t, .s] s_law_pick [] (rCons (rName 0) (rCons (rName 2) rNil))))))) : RS) (endsF [.t, .s] ds R F) (slots0 [.t, .s] ds ++ List.replicate 2 .no)) :
    FnOk P w K mg base (L2.CX P w) 4 f fd ["_law_store_here", "_law_most"] (spQ K T [.t, .s] qz) := by
  refine q_fn (N := N_law_text) F sc_law_text rfl (fun cdv A outer s H E g hr hT => ?_) pure
  have hN : N_law_text.Nodup := sc_law_text.nd
  have hp := passes_of (X := cxOf (L2.CX P w) P w K mg base N_law_text "_law_text" (defScope (top 27)) f cdv A outer s H E) rfl
  exact (qs_cons (q_set (i := 2) hN rfl (by first | exact Or.inl rfl | exact Or.inr rfl) (q_call0 (fnT hT (c__law_chars.ok.mono (Nat.le_trans l__law_chars (by decide)))) hr rfl c__law_chars.mg c__law_chars.kp c__law_chars.bd .nil (fun _ _ _ => rfl))) (qs_one (q_ret (q_join qs (q_lc rfl hN (own := [("_law_k", 3)]) (qi_range1 rfl b_range (qa_cons (q_call (ms := [.t, .s]) (dd := []) (fnT hT (c__law_size.ok.mono (Nat.le_trans l__law_size (by decide)))) hr rfl c__law_size.mg c__law_size.kp c__law_size.bd .nil (fun _ _ _ => rfl) (qa_cons (qv 0) (qa_cons (qv 1) qa_nil))) qa_nil)) (blkOk_by (by rfl)) (by decide) (fun _ _ _ _ _ => (qg_name (i := 3) hN rfl (by first | exact Or.inl rfl | exact Or.inr rfl) (.inr rfl))) (fun _ _ _ _ _ => qts_nil) (fun _ _ _ _ _ => (q_call (ms := [.t, .s]) (dd := []) (fnT hT (c__law_pick.ok.mono (Nat.le_trans l__law_pick (by decide)))) hr rfl c__law_pick.mg c__law_pick.kp c__law_pick.bd .nil (fun _ _ _ => rfl) (qa_cons (qv 0) (qa_cons (qv 2) qa_nil)))))))))
def N_law_atom : List Str := ["_law_store_here", "_law_choice"]
theorem sc_law_atom : FnScope N_law_atom ["_law_store_here"] (defScope (top 28)) := by refine ⟨?_, ?_, ?_, ?_, ?_, ?_, ?_⟩ <;> first | rfl | decide
theorem fn_law_atom {f : Addr} {fd : FuncData} {qz : QSpec}
    {k__law_take : Nat} {f__law_take : Addr} {fd__law_take : FuncData} {s_law_take : QSpec} (l__law_take : k__law_take ≤ 4) (c__law_take : Cd P w K mg base T "_law_take" ["_law_store_here", "_law_many"] k__law_take [.t, .s] s_law_take (top 19) f__law_take fd__law_take)
    {k__law_text : Nat} {f__law_text : Addr} {fd__law_text : FuncData} {s_law_text : QSpec} (l__law_text : k__law_text ≤ 4) (c__law_text : Cd P w K mg base T "_law_text" ["_law_store_here", "_law_most"] k__law_text [.t, .s] s_law_text (top 27) f__law_text fd__law_text)
    {k__law_large : Nat} {f__law_large : Addr} {fd__law_large : FuncData} {s_law_large : QSpec} (l__law_large : k__law_large ≤ 4) (c__law_large : Cd P w K mg base T "_law_large" ["_law_store_here", "_law_bound"] k__law_large [.t, .s] s_law_large (top 21) f__law_large fd__law_large)
    (F : Fun K "_law_atom" "_law_atom" (top 28) f fd) (pure : ∀ (ds : List D) (R : SV → Prop) (F : Exn → Prop), qz ds R F → ((rSeq (rSet 1 (rCall [.t, .s] s_law_take [] (rCons (rName 0) (rCons (rC (.int 9)) rNil)))) (rSeq (rIf (rB (rOp2 oLt (rName 1) (rC (.int 6)))) (rRet (rOp2 oIx (rLst (rCons (rC .non) (rCons (rC (.bl true)) (rCons (rC (.bl false)) (rCons (rC (.int 0)) (rCons (rC (.int 1)) (rCons (rC (.str "")) rNil))))))) (rName 1))) rNext) (rSeq (rIf (rB (rOp2 (oEq false) (rName 1) (rC (.int 6)))) (rRet (rCall [.t, .s] s_law_text [] (rCons (rName 0) (rCons (rC (.int 6)) rNil)))) rNext) (rSeq (rIf (rB (rOp2 (oEq false) (rName 1) (rC (.int 7)))) (rRet (rCall [.t, .s] s_law_large [] (rCons (rName 0) (rCons (rOp2 oPow (rC (.int 10)) (rC (.int 60))) rNil)))) rNext) (rRet (rOp2 oSub (rC (.int 0)) (rCall [.t, .s] s_law_large [] (rCons (rName 0) (rCons (rOp2 oPow (rC (.int 10)) (rC (.int 60))) rNil))))))))) : RS) (endsF [.t] ds R F) (slots0 [.t] ds ++ List.replicate 1 .no)) :
    FnOk P w K mg base (L2.CX P w) 5 f fd ["_law_store_here"] (spQ K T [.t] qz) := by
  refine q_fn (N := N_law_atom) F sc_law_atom rfl (fun cdv A outer s H E g hr hT => ?_) pure
  have hN : N_law_atom.Nodup := sc_law_atom.nd
  have hp := passes_of (X := cxOf (L2.CX P w) P w K mg base N_law_atom "_law_atom" (defScope (top 28)) f cdv A outer s H E) rfl
  exact (qs_cons (q_set (i := 1) hN rfl (by first | exact Or.inl rfl | exact Or.inr rfl) (q_call (ms := [.t, .s]) (dd := []) (fnT hT (c__law_take.ok.mono (Nat.le_trans l__law_take (by decide)))) hr rfl c__law_take.mg c__law_take.kp c__law_take.bd .nil (fun _ _ _ => rfl) (qa_cons (qv 0) (qa_cons qi qa_nil)))) (qs_cons (q_if (q_cmpT op_lt rd_cmpI (qv 1) qi (nomark _)) (qs_one (q_ret (q_ix (have z := hu_of hr; z) (q_lst (qa_cons qn (qa_cons qb (qa_cons qb (qa_cons qi (qa_cons qi (qa_cons qs qa_nil))))))) (qv 1)))) qs_nil) (qs_cons (q_if (q_cmpT (op_eqQ (have z := uE hr; z)) rd_eq (qv 1) qi (nomark _)) (qs_one (q_ret (q_call (ms := [.t, .s]) (dd := []) (fnT hT (c__law_text.ok.mono (Nat.le_trans l__law_text (by decide)))) hr rfl c__law_text.mg c__law_text.kp c__law_text.bd .nil (fun _ _ _ => rfl) (qa_cons (qv 0) (qa_cons qi qa_nil))))) qs_nil) (qs_cons (q_if (q_cmpT (op_eqQ (have z := uE hr; z)) rd_eq (qv 1) qi (nomark _)) (qs_one (q_ret (q_call (ms := [.t, .s]) (dd := []) (fnT hT (c__law_large.ok.mono (Nat.le_trans l__law_large (by decide)))) hr rfl c__law_large.mg c__law_large.kp c__law_large.bd .nil (fun _ _ _ => rfl) (qa_cons (qv 0) (qa_cons (q_pow qi qi) qa_nil))))) qs_nil) (qs_one (q_ret (q_sub qi (q_call (ms := [.t, .s]) (dd := []) (fnT hT (c__law_large.ok.mono (Nat.le_trans l__law_large (by decide)))) hr rfl c__law_large.mg c__law_large.kp c__law_large.bd .nil (fun _ _ _ => rfl) (qa_cons (qv 0) (qa_cons (q_pow qi qi) qa_nil))))))))))
def N_law_value : List Str := ["_law_store_here", "_law_value_here", "_law_k", "_law_choice", "_law_other"]
theorem sc_law_value : FnScope N_law_value ["_law_store_here"] (defScope (top 29)) := by refine ⟨?_, ?_, ?_, ?_, ?_, ?_, ?_⟩ <;> first | rfl | decide
theorem fn_law_value {f : Addr} {fd : FuncData} {qz : QSpec}
    {k__law_atom : Nat} {f__law_atom : Addr} {fd__law_atom : FuncData} {s_law_atom : QSpec} (l__law_atom : k__law_atom ≤ 5) (c__law_atom : Cd P w K mg base T "_law_atom" ["_law_store_here"] k__law_atom [.t] s_law_atom (top 28) f__law_atom fd__law_atom)
    {k__law_pick : Nat} {f__law_pick : Addr} {fd__law_pick : FuncData} {s_law_pick : QSpec} (l__law_pick : k__law_pick ≤ 5) (c__law_pick : Cd P w K mg base T "_law_pick" ["_law_store_here", "_law_row"] k__law_pick [.t, .s] s_law_pick (top 22) f__law_pick fd__law_pick)
    {k__law_take : Nat} {f__law_take : Addr} {fd__law_take : FuncData} {s_law_take : QSpec} (l__law_take : k__law_take ≤ 5) (c__law_take : Cd P w K mg base T "_law_take" ["_law_store_here", "_law_many"] k__law_take [.t, .s] s_law_take (top 19) f__law_take fd__law_take)
    (b_range : mg "range" = none)
    (F : Fun K "_law_value" "_law_value" (top 29) f fd) (pure : ∀ (ds : List D) (R : SV → Prop) (F : Exn → Prop), qz ds R F → ((rSeq (rSet 1 (rCall [.t] s_law_atom [] (rCons (rName 0) rNil))) (rSeq (rFor (riR1 (rCons (rCall [.t, .s] s_law_pick [] (rCons (rName 0) (rCons (rLst (rCons (rC (.int 0)) (rCons (rC (.int 0)) (rCons (rC (.int 0)) (rCons (rC (.int 1)) (rCons (rC (.int 1)) (rCons (rC (.int 2)) (rCons (rC (.int 3)) (rCons (rC (.int 8)) rNil))))))))) rNil))) rNil)) (gN 2) (rSeq (rSet 3 (rCall [.t, .s] s_law_take [] (rCons (rName 0) (rCons (rC (.int 8)) rNil)))) (rSeq (rSet 4 (rCall [.t] s_law_atom [] (rCons (rName 0) rNil))) (rIf (rB (rOp2 (oEq false) (rName 3) (rC (.int 0)))) (rSet 1 (rLst (rCons (rName 1) rNil))) (rIf (rB (rOp2 (oEq false) (rName 3) (rC (.int 1)))) (rSet 1 (rTup (rCons (rName 1) rNil))) (rIf (rB (rOp2 (oEq false) (rName 3) (rC (.int 2)))) (rSet 1 (rLst (rCons (rName 4) (rCons (rName 1) rNil)))) (rIf (rB (rOp2 (oEq false) (rName 3) (rC (.int 3)))) (rSet 1 (rTup (rCons (rName 1) (rCons (rName 4) rNil)))) (rIf (rB (rOp2 (oEq false) (rName 3) (rC (.int 4)))) (rSet 1 (rDict (rpCons (rC (.str "a")) (rName 1) (rpCons (rC (.int 1)) (rName 4) rpNil)))) (rIf (rB (rOp2 (oEq false) (rName 3) (rC (.int 5)))) (rSet 1 (rLst rNil)) (rIf (rB (rOp2 (oEq false) (rName 3) (rC (.int 6)))) (rSet 1 (rTup rNil)) (rSet 1 rDict0))))))))))) (rRet (rName 1)))) : RS) (endsF [.t] ds R F) (slots0 [.t] ds ++ List.replicate 4 .no)) :
    FnOk P w K mg base (L2.CX P w) 6 f fd ["_law_store_here"] (spQ K T [.t] qz) := by
  refine q_fn (N := N_law_value) F sc_law_value rfl (fun cdv A outer s H E g hr hT => ?_) pure
  have hN : N_law_value.Nodup := sc_law_value.nd
  have hp := passes_of (X := cxOf (L2.CX P w) P w K mg base N_law_value "_law_value" (defScope (top 29)) f cdv A outer s H E) rfl
  exact (qs_cons (q_set (i := 1) hN rfl (by first | exact Or.inl rfl | exact Or.inr rfl) (q_call (ms := [.t]) (dd := []) (fnT hT (c__law_atom.ok.mono (Nat.le_trans l__law_atom (by decide)))) hr rfl c__law_atom.mg c__law_atom.kp c__law_atom.bd .nil (fun _ _ _ => rfl) (qa_cons (qv 0) qa_nil))) (qs_cons (q_for hp rfl (qi_range1 rfl b_range (qa_cons (q_call (ms := [.t, .s]) (dd := []) (fnT hT (c__law_pick.ok.mono (Nat.le_trans l__law_pick (by decide)))) hr rfl c__law_pick.mg c__law_pick.kp c__law_pick.bd .nil (fun _ _ _ => rfl) (qa_cons (qv 0) (qa_cons (q_lst (qa_cons qi (qa_cons qi (qa_cons qi (qa_cons qi (qa_cons qi (qa_cons qi (qa_cons qi (qa_cons qi qa_nil))))))))) qa_nil))) qa_nil)) (qg_name (i := 2) hN rfl (by first | exact Or.inl rfl | exact Or.inr rfl)) (qs_cons (q_set (i := 3) hN rfl (by first | exact Or.inl rfl | exact Or.inr rfl) (q_call (ms := [.t, .s]) (dd := []) (fnT hT (c__law_take.ok.mono (Nat.le_trans l__law_take (by decide)))) hr rfl c__law_take.mg c__law_take.kp c__law_take.bd .nil (fun _ _ _ => rfl) (qa_cons (qv 0) (qa_cons qi qa_nil)))) (qs_cons (q_set (i := 4) hN rfl (by first | exact Or.inl rfl | exact Or.inr rfl) (q_call (ms := [.t]) (dd := []) (fnT hT (c__law_atom.ok.mono (Nat.le_trans l__law_atom (by decide)))) hr rfl c__law_atom.mg c__law_atom.kp c__law_atom.bd .nil (fun _ _ _ => rfl) (qa_cons (qv 0) qa_nil))) (qs_one (q_if (q_cmpT (op_eqQ (have z := uE hr; z)) rd_eq (qv 3) qi (nomark _)) (qs_one (q_set (i := 1) hN rfl (by first | exact Or.inl rfl | exact Or.inr rfl) (q_lst (qa_cons (qv 1) qa_nil)))) (qs_one (q_if (q_cmpT (op_eqQ (have z := uE hr; z)) rd_eq (qv 3) qi (nomark _)) (qs_one (q_set (i := 1) hN rfl (by first | exact Or.inl rfl | exact Or.inr rfl) (q_tup (qa_cons (qv 1) qa_nil)))) (qs_one (q_if (q_cmpT (op_eqQ (have z := uE hr; z)) rd_eq (qv 3) qi (nomark _)) (qs_one (q_set (i := 1) hN rfl (by first | exact Or.inl rfl | exact Or.inr rfl) (q_lst (qa_cons (qv 4) (qa_cons (qv 1) qa_nil))))) (qs_one (q_if (q_cmpT (op_eqQ (have z := uE hr; z)) rd_eq (qv 3) qi (nomark _)) (qs_one (q_set (i := 1) hN rfl (by first | exact Or.inl rfl | exact Or.inr rfl) (q_tup (qa_cons (qv 1) (qa_cons (qv 4) qa_nil))))) (qs_one (q_if (q_cmpT (op_eqQ (have z := uE hr; z)) rd_eq (qv 3) qi (nomark _)) (qs_one (q_set (i := 1) hN rfl (by first | exact Or.inl rfl | exact Or.inr rfl) (q_dict (qpm_cons qs (qv 1) (qpm_cons qi (qv 4) qpm_nil))))) (qs_one (q_if (q_cmpT (op_eqQ (have z := uE hr; z)) rd_eq (qv 3) qi (nomark _)) (qs_one (q_set (i := 1) hN rfl (by first | exact Or.inl rfl | exact Or.inr rfl) (q_lst qa_nil))) (qs_one (q_if (q_cmpT (op_eqQ (have z := uE hr; z)) rd_eq (qv 3) qi (nomark _)) (qs_one (q_set (i := 1) hN rfl (by first | exact Or.inl rfl | exact Or.inr rfl) (q_tup qa_nil))) (qs_one (q_set (i := 1) hN rfl (by first | exact Or.inl rfl | exact Or.inr rfl) q_dict0))))))))))))))))))) (qs_one (q_ret (qv 1)))))
def N_law_is_int : List Str := ["_law_value_here"]
theorem sc_law_is_int : FnScope N_law_is_int ["_law_value_here"] (defScope (top 30)) := by refine ⟨?_, ?_, ?_, ?_, ?_, ?_, ?_⟩ <;> first | rfl | decide
theorem fn_law_is_int {f : Addr} {fd : FuncData} {qz : QSpec}
    (b_isinstance : mg "isinstance" = none)
    (b_int : mg "int" = none)
    (b_bool : mg "bool" = none)
    (F : Fun K "_law_is_int" "_law_is_int" (top 30) f fd) (pure : ∀ (ds : List D) (R : SV → Prop) (F : Exn → Prop), qz ds R F → ((rRet (rAndV (rB1 (oIsa .int) (rName 0)) (rNotV (rB1 (oIsa .bool) (rName 0))))) : RS) (endsF [.s] ds R F) (slots0 [.s] ds ++ List.replicate 0 .no)) :
    FnOk P w K mg base (L2.CX P w) 1 f fd ["_law_value_here"] (spQ K T [.s] qz) := by
  refine q_fn (N := N_law_is_int) F sc_law_is_int rfl (fun cdv A outer s H E g hr hT => ?_) pure
  have hN : N_law_is_int.Nodup := sc_law_is_int.nd
  have hp := passes_of (X := cxOf (L2.CX P w) P w K mg base N_law_is_int "_law_is_int" (defScope (top 30)) f cdv A outer s H E) rfl
  exact (qs_one (q_ret (q_and (q_isa .int rfl b_isinstance rfl b_int (qv 0)) (q_one (q_not (q_isa .bool rfl b_isinstance rfl b_bool (qv 0)))))))
def N_law_same : List Str := ["_law_actual", "_law_due_here", "_law_k", "_law_key"]
theorem sc_law_same : FnScope N_law_same ["_law_actual", "_law_due_here"] (defScope (top 31)) := by refine ⟨?_, ?_, ?_, ?_, ?_, ?_, ?_⟩ <;> first | rfl | decide
theorem fn_law_same {f : Addr} {fd : FuncData} {qz : QSpec}
    {n k__law_same : Nat} {s_law_same : QSpec} (l__law_same : k__law_same ≤ n) (hn : 0 ≤ n) (c__law_same : Cd P w K mg base T "_law_same" ["_law_actual", "_law_due_here"] k__law_same [.s, .s] s_law_same (top 31) f fd)
    (b_isinstance : mg "isinstance" = none)
    (b_bool : mg "bool" = none)
    (b_int : mg "int" = none)
    (b_str : mg "str" = none)
    (b_dict : mg "dict" = none)
    (b_list : mg "list" = none)
    (b_tuple : mg "tuple" = none)
    (b_len : mg "len" = none)
    (b_range : mg "range" = none)
    (F : Fun K "_law_same" "_law_same" (top 31) f fd) (pure : ∀ (ds : List D) (R : SV → Prop) (F : Exn → Prop), qz ds R F → ((rSeq (rIf (rOr (rB (rOp2 (oIs false) (rName 1) (rC .non))) (rB (rOp2 (oIs false) (rName 0) (rC .non)))) (rRet (rAndV (rOp2 (oIs false) (rName 1) (rC .non)) (rOp2 (oIs false) (rName 0) (rC .non)))) rNext) (rSeq (rIf (rOr (rB (rOp2 (oEq true) (rB1 (oIsa .bool) (rName 0)) (rB1 (oIsa .bool) (rName 1)))) (rB (rOp2 (oEq true) (rB1 (oIsa .int) (rName 0)) (rB1 (oIsa .int) (rName 1))))) (rRet (rC (.bl false))) rNext) (rSeq (rIf (rOr (rB (rOp2 (oEq true) (rB1 (oIsa .str) (rName 0)) (rB1 (oIsa .str) (rName 1)))) (rB (rOp2 (oEq true) (rB1 (oIsa .dict) (rName 0)) (rB1 (oIsa .dict) (rName 1))))) (rRet (rC (.bl false))) rNext) (rSeq (rIf (rOr (rB (rOp2 (oEq true) (rB1 (oIsa .list) (rName 0)) (rB1 (oIsa .list) (rName 1)))) (rB (rOp2 (oEq true) (rB1 (oIsa .tuple) (rName 0)) (rB1 (oIsa .tuple) (rName 1))))) (rRet (rC (.bl false))) rNext) (rSeq (rIf (rB (rB1 (oIsas [.bool, .int, .str]) (rName 1))) (rRet (rOp2 (oEq false) (rName 0) (rName 1))) rNext) (rSeq (rIf (rB (rOp2 (oEq true) (rB1 oLen (rName 0)) (rB1 oLen (rName 1)))) (rRet (rC (.bl false))) rNext) (rSeq (rIf (rB (rB1 (oIsa .dict) (rName 1))) (rSeq (rFor (riK (rName 1)) (gN 3) (rIf (rOr (rB (rOp2 (oIn true) (rName 3) (rName 0))) (rNot (rB (rCall [.s, .s] s_law_same [] (rCons (rOp2 oIx (rName 0) (rName 3)) (rCons (rOp2 oIx (rName 1) (rName 3)) rNil)))))) (rRet (rC (.bl false))) rNext)) (rRet (rC (.bl true)))) rNext) (rSeq (rFor (riR1 (rCons (rB1 oLen (rName 1)) rNil)) (gN 2) (rIf (rNot (rB (rCall [.s, .s] s_law_same [] (rCons (rOp2 oIx (rName 0) (rName 2)) (rCons (rOp2 oIx (rName 1) (rName 2)) rNil))))) (rRet (rC (.bl false))) rNext)) (rRet (rC (.bl true))))))))))) : RS) (endsF [.s, .s] ds R F) (slots0 [.s, .s] ds ++ List.replicate 2 .no)) :
    FnOk P w K mg base (L2.CX P w) (n + 1) f fd ["_law_actual", "_law_due_here"] (spQ K T [.s, .s] qz) := by
  refine q_fn (N := N_law_same) F sc_law_same rfl (fun cdv A outer s H E g hr hT => ?_) pure
  have hN : N_law_same.Nodup := sc_law_same.nd
  have hp := passes_of (X := cxOf (L2.CX P w) P w K mg base N_law_same "_law_same" (defScope (top 31)) f cdv A outer s H E) rfl
  exact (qs_cons (q_if (QW.qt (qw_or (q_cmpT op_isF rd_isN (qv 1) qn (nomark _)) (qw_or1 (q_cmpT op_isF rd_isN (qv 0) qn (nomark _))))) (qs_one (q_ret (q_and (q_cmp op_isF rd_isN (qv 1) qn (nomark _)) (q_one (q_cmp op_isF rd_isN (qv 0) qn (nomark _)))))) qs_nil) (qs_cons (q_if (QW.qt (qw_or (q_cmpT (op_neQ (have z := uE hr; z)) rd_ne (q_isa .bool rfl b_isinstance rfl b_bool (qv 0)) (q_isa .bool rfl b_isinstance rfl b_bool (qv 1)) (nomark _)) (qw_or1 (q_cmpT (op_neQ (have z := uE hr; z)) rd_ne (q_isa .int rfl b_isinstance rfl b_int (qv 0)) (q_isa .int rfl b_isinstance rfl b_int (qv 1)) (nomark _))))) (qs_one (q_ret qb)) qs_nil) (qs_cons (q_if (QW.qt (qw_or (q_cmpT (op_neQ (have z := uE hr; z)) rd_ne (q_isa .str rfl b_isinstance rfl b_str (qv 0)) (q_isa .str rfl b_isinstance rfl b_str (qv 1)) (nomark _)) (qw_or1 (q_cmpT (op_neQ (have z := uE hr; z)) rd_ne (q_isa .dict rfl b_isinstance rfl b_dict (qv 0)) (q_isa .dict rfl b_isinstance rfl b_dict (qv 1)) (nomark _))))) (qs_one (q_ret qb)) qs_nil) (qs_cons (q_if (QW.qt (qw_or (q_cmpT (op_neQ (have z := uE hr; z)) rd_ne (q_isa .list rfl b_isinstance rfl b_list (qv 0)) (q_isa .list rfl b_isinstance rfl b_list (qv 1)) (nomark _)) (qw_or1 (q_cmpT (op_neQ (have z := uE hr; z)) rd_ne (q_isa .tuple rfl b_isinstance rfl b_tuple (qv 0)) (q_isa .tuple rfl b_isinstance rfl b_tuple (qv 1)) (nomark _))))) (qs_one (q_ret qb)) qs_nil) (qs_cons (q_if (q_val (q_isas [.bool, .int, .str] rfl b_isinstance (pac_cons (tyname (T := .bool) (by rfl) b_bool) (pac_cons (tyname (T := .int) (by rfl) b_int) (pac_cons (tyname (T := .str) (by rfl) b_str) pac_nil))) (by decide) (qv 1))) (qs_one (q_ret (q_cmp (op_eqQ (have z := uE hr; z)) rd_eq (qv 0) (qv 1) (nomark _)))) qs_nil) (qs_cons (q_if (q_cmpT (op_neQ (have z := uE hr; z)) rd_ne (q_len rfl b_len (qv 0)) (q_len rfl b_len (qv 1)) (nomark _)) (qs_one (q_ret qb)) qs_nil) (qs_cons (q_if (q_val (q_isa .dict rfl b_isinstance rfl b_dict (qv 1))) (qs_cons (q_forK hp rfl (qv 1) (fun _ => (qg_name (i := 3) hN rfl (by first | exact Or.inl rfl | exact Or.inr rfl))) (fun _ => (qs_one (q_if (QW.qt (qw_or (q_cmpT (op_notInQ (have z := uI hr; z)) rd_notIn (qv 3) (qv 0) (by rfl)) (qw_or1 (qt_not (q_val (q_call (ms := [.s, .s]) (dd := []) (fnT hT (c__law_same.ok.mono l__law_same)) hr rfl c__law_same.mg c__law_same.kp c__law_same.bd .nil (fun _ _ _ => rfl) (qa_cons (q_ix (have z := hu_of hr; z) (qv 0) (qv 3)) (qa_cons (q_ix (have z := hu_of hr; z) (qv 1) (qv 3)) qa_nil)))))))) (qs_one (q_ret qb)) qs_nil)))) (qs_one (q_ret qb))) qs_nil) (qs_cons (q_for hp rfl (qi_range1 rfl b_range (qa_cons (q_len rfl b_len (qv 1)) qa_nil)) (qg_name (i := 2) hN rfl (by first | exact Or.inl rfl | exact Or.inr rfl)) (qs_one (q_if (qt_not (q_val (q_call (ms := [.s, .s]) (dd := []) (fnT hT (c__law_same.ok.mono l__law_same)) hr rfl c__law_same.mg c__law_same.kp c__law_same.bd .nil (fun _ _ _ => rfl) (qa_cons (q_ix (have z := hu_of hr; z) (qv 0) (qv 2)) (qa_cons (q_ix (have z := hu_of hr; z) (qv 1) (qv 2)) qa_nil))))) (qs_one (q_ret qb)) qs_nil))) (qs_one (q_ret qb))))))))))
def N_law_copy : List Str := ["_law_value_here", "_law_out", "_law_key", "_law_x"]
theorem sc_law_copy : FnScope N_law_copy ["_law_value_here"] (defScope (top 32)) := by refine ⟨?_, ?_, ?_, ?_, ?_, ?_, ?_⟩ <;> first | rfl | decide
theorem fn_law_copy {f : Addr} {fd : FuncData} {qz : QSpec}
    {n k__law_copy : Nat} {s_law_copy : QSpec} (l__law_copy : k__law_copy ≤ n) (hn : 0 ≤ n) (c__law_copy : Cd P w K mg base T "_law_copy" ["_law_value_here"] k__law_copy [.s] s_law_copy (top 32) f fd)
    (b_isinstance : mg "isinstance" = none)
    (b_list : mg "list" = none)
    (b_tuple : mg "tuple" = none)
    (b_dict : mg "dict" = none)
    (F : Fun K "_law_copy" "_law_copy" (top 32) f fd) (pure : ∀ (ds : List D) (R : SV → Prop) (F : Exn → Prop), qz ds R F → ((rSeq (rIf (rB (rB1 (oIsa .list) (rName 0))) (rRet (rLc [3] (riL (rName 0)) (gN 3) rYes (rCall [.s] s_law_copy [] (rCons (rName 3) rNil)))) rNext) (rSeq (rIf (rB (rB1 (oIsa .tuple) (rName 0))) (rRet (rB1 oTuple (rLc [3] (riT (rName 0)) (gN 3) rYes (rCall [.s] s_law_copy [] (rCons (rName 3) rNil))))) rNext) (rSeq (rIf (rB (rB1 (oIsa .dict) (rName 0))) (rSeq (rSet 1 rDict0) (rSeq (rFor (riK (rName 0)) (gN 2) (rSetIx 1 (rName 2) (rCall [.s] s_law_copy [] (rCons (rOp2 oIx (rName 0) (rName 2)) rNil)))) (rRet (rName 1)))) rNext) (rRet (rName 0))))) : RS) (endsF [.s] ds R F) (slots0 [.s] ds ++ List.replicate 3 .no)) :
    FnOk P w K mg base (L2.CX P w) (n + 1) f fd ["_law_value_here"] (spQ K T [.s] qz) := by
  refine q_fn (N := N_law_copy) F sc_law_copy rfl (fun cdv A outer s H E g hr hT => ?_) pure
  have hN : N_law_copy.Nodup := sc_law_copy.nd
  have hp := passes_of (X := cxOf (L2.CX P w) P w K mg base N_law_copy "_law_copy" (defScope (top 32)) f cdv A outer s H E) rfl
  exact (qs_cons (q_if (q_val (q_isa .list rfl b_isinstance rfl b_list (qv 0))) (qs_one (q_ret (q_lc rfl hN (own := [("_law_x", 3)]) (qi_list (qv 0)) (blkOk_by (by rfl)) (by decide) (fun _ _ _ _ _ => (qg_name (i := 3) hN rfl (by first | exact Or.inl rfl | exact Or.inr rfl) (.inr rfl))) (fun _ _ _ _ _ => qts_nil) (fun _ _ _ _ _ => (q_call (ms := [.s]) (dd := []) (fnT hT (c__law_copy.ok.mono l__law_copy)) hr rfl c__law_copy.mg c__law_copy.kp c__law_copy.bd .nil (fun _ _ _ => rfl) (qa_cons (qv 3) qa_nil)))))) qs_nil) (qs_cons (q_if (q_val (q_isa .tuple rfl b_isinstance rfl b_tuple (qv 0))) (qs_one (q_ret (q_tuple rfl b_tuple (q_lc rfl hN (own := [("_law_x", 3)]) (qi_tup (qv 0)) (blkOk_by (by rfl)) (by decide) (fun _ _ _ _ _ => (qg_name (i := 3) hN rfl (by first | exact Or.inl rfl | exact Or.inr rfl) (.inr rfl))) (fun _ _ _ _ _ => qts_nil) (fun _ _ _ _ _ => (q_call (ms := [.s]) (dd := []) (fnT hT (c__law_copy.ok.mono l__law_copy)) hr rfl c__law_copy.mg c__law_copy.kp c__law_copy.bd .nil (fun _ _ _ => rfl) (qa_cons (qv 3) qa_nil))))))) qs_nil) (qs_cons (q_if (q_val (q_isa .dict rfl b_isinstance rfl b_dict (qv 0))) (qs_cons (q_set (i := 1) hN rfl (by first | exact Or.inl rfl | exact Or.inr rfl) q_dict0) (qs_cons (q_forK hp rfl (qv 0) (fun _ => (qg_name (i := 2) hN rfl (by first | exact Or.inl rfl | exact Or.inr rfl))) (fun _ => (qs_one (q_setIx 1 (have z := hu_of hr; z) rfl (qv 2) (q_call (ms := [.s]) (dd := []) (fnT hT (c__law_copy.ok.mono l__law_copy)) hr rfl c__law_copy.mg c__law_copy.kp c__law_copy.bd .nil (fun _ _ _ => rfl) (qa_cons (q_ix (have z := hu_of hr; z) (qv 0) (qv 2)) qa_nil)))))) (qs_one (q_ret (qv 1))))) qs_nil) (qs_one (q_ret (qv 0))))))
def N_law_steps : List Str := ["_law_store_here", "_law_many", "_law_steps_here", "_law_at", "_law_k", "_law_start", "_law_step", "_law_stop"]
theorem sc_law_steps : FnScope N_law_steps ["_law_store_here", "_law_many"] (defScope (top 33)) := by refine ⟨?_, ?_, ?_, ?_, ?_, ?_, ?_⟩ <;> first | rfl | decide
theorem fn_law_steps {f : Addr} {fd : FuncData} {qz : QSpec}
    {k__law_take : Nat} {f__law_take : Addr} {fd__law_take : FuncData} {s_law_take : QSpec} (l__law_take : k__law_take ≤ 4) (c__law_take : Cd P w K mg base T "_law_take" ["_law_store_here", "_law_many"] k__law_take [.t, .s] s_law_take (top 19) f__law_take fd__law_take)
    {k__law_large : Nat} {f__law_large : Addr} {fd__law_large : FuncData} {s_law_large : QSpec} (l__law_large : k__law_large ≤ 4) (c__law_large : Cd P w K mg base T "_law_large" ["_law_store_here", "_law_bound"] k__law_large [.t, .s] s_law_large (top 21) f__law_large fd__law_large)
    {k__law_size : Nat} {f__law_size : Addr} {fd__law_size : FuncData} {s_law_size : QSpec} (l__law_size : k__law_size ≤ 4) (c__law_size : Cd P w K mg base T "_law_size" ["_law_store_here", "_law_most"] k__law_size [.t, .s] s_law_size (top 20) f__law_size fd__law_size)
    {k__law_odds : Nat} {f__law_odds : Addr} {fd__law_odds : FuncData} {s_law_odds : QSpec} (l__law_odds : k__law_odds ≤ 4) (c__law_odds : Cd P w K mg base T "_law_odds" ["_law_store_here", "_law_parts"] k__law_odds [.t, .s] s_law_odds (top 23) f__law_odds fd__law_odds)
    {k__law_pick : Nat} {f__law_pick : Addr} {fd__law_pick : FuncData} {s_law_pick : QSpec} (l__law_pick : k__law_pick ≤ 4) (c__law_pick : Cd P w K mg base T "_law_pick" ["_law_store_here", "_law_row"] k__law_pick [.t, .s] s_law_pick (top 22) f__law_pick fd__law_pick)
    {k__law_shuffled : Nat} {f__law_shuffled : Addr} {fd__law_shuffled : FuncData} {s_law_shuffled : QSpec} (l__law_shuffled : k__law_shuffled ≤ 4) (c__law_shuffled : Cd P w K mg base T "_law_shuffled" ["_law_store_here", "_law_row"] k__law_shuffled [.t, .s] s_law_shuffled (top 25) f__law_shuffled fd__law_shuffled)
    (b_range : mg "range" = none)
    (b_min : mg "min" = none)
    (b_len : mg "len" = none)
    (F : Fun K "_law_steps" "_law_steps" (top 33) f fd) (pure : ∀ (ds : List D) (R : SV → Prop) (F : Exn → Prop), qz ds R F → ((rSeq (rSet 2 (rLst rNil)) (rSeq (rSet 3 (rC (.int 0))) (rSeq (rIf (rB (rOp2 oGt (rCall [.t, .s] s_law_take [] (rCons (rName 0) (rCons (rC (.int 5)) rNil))) (rC (.int 0)))) (rFor (riR1 (rCons (rName 1) rNil)) (gN 4) (rIf (rB (rOp2 oLt (rName 3) (rName 1))) (rSeq (rSet 7 (rOp2 oAdd (rOp2 oAdd (rName 3) (rC (.int 1))) (rCall [.t, .s] s_law_take [] (rCons (rName 0) (rCons (rOp2 oMin (rOp2 oSub (rName 1) (rName 3)) (rC (.int 9))) rNil))))) (rSeq (rDrop (rMS2 2 moAppend (rCons (rTup (rCons (rName 3) (rCons (rName 7) (rCons (rCall [.t, .s] s_law_large [] (rCons (rName 0) (rCons (rOp2 oPow (rC (.int 10)) (rC (.int 60))) rNil))) rNil)))) rNil))) (rSet 3 (rName 7)))) rNext)) rNext) (rSeq (rFor (riR1 (rCons (rOp2 oMin (rCall [.t, .s] s_law_size [] (rCons (rName 0) (rCons (rC (.int 60)) rNil))) (rOp2 oSub (rC (.int 60)) (rB1 oLen (rName 2)))) rNil)) (gN 4) (rSeq (rSet 5 (rCall [.t, .s] s_law_take [] (rCons (rName 0) (rCons (rName 1) rNil)))) (rIf (rB (rOp2 oLt (rName 5) (rName 1))) (rDrop (rMS2 2 moAppend (rCons (rTup (rCons (rName 5) (rCons (rOp2 oAdd (rOp2 oAdd (rName 5) (rC (.int 1))) (rCall [.t, .s] s_law_take [] (rCons (rName 0) (rCons (rOp2 oSub (rName 1) (rName 5)) rNil)))) (rCons (rCall [.t, .s] s_law_large [] (rCons (rName 0) (rCons (rOp2 oPow (rC (.int 10)) (rC (.int 60))) rNil))) rNil)))) rNil))) rNext))) (rSeq (rIf (rAnd (rB (rOp2 oGt (rB1 oLen (rName 2)) (rC (.int 0)))) (rB (rCall [.t, .s] s_law_odds [] (rCons (rName 0) (rCons (rC (.int 3)) rNil))))) (rSeq (rSet 6 (rLend (rCall [.t, .s] s_law_pick [] (rCons (rName 0) (rCons (rName 2) rNil))))) (rSeq (rDrop (rMS2 2 moAppend (rCons (rName 6) rNil))) (rDrop (rMS2 2 moAppend (rCons (rTup (rCons (rOp2 oIx (rName 6) (rC (.int 0))) (rCons (rOp2 oIx (rName 6) (rC (.int 1))) (rCons (rCall [.t, .s] s_law_large [] (rCons (rName 0) (rCons (rC (.int 12)) rNil))) rNil)))) rNil))))) rNext) (rRet (rCall [.t, .s] s_law_shuffled [] (rCons (rName 0) (rCons (rName 2) rNil))))))))) : RS) (endsF [.t, .s] ds R F) (slots0 [.t, .s] ds ++ List.replicate 6 .no)) :
    FnOk P w K mg base (L2.CX P w) 5 f fd ["_law_store_here", "_law_many"] (spQ K T [.t, .s] qz) := by
  refine q_fn (N := N_law_steps) F sc_law_steps rfl (fun cdv A outer s H E g hr hT => ?_) pure
  have hN : N_law_steps.Nodup := sc_law_steps.nd
  have hp := passes_of (X := cxOf (L2.CX P w) P w K mg base N_law_steps "_law_steps" (defScope (top 33)) f cdv A outer s H E) rfl
  exact (qs_cons (q_set (i := 2) hN rfl (by first | exact Or.inl rfl | exact Or.inr rfl) (q_lst qa_nil)) (qs_cons (q_set (i := 3) hN rfl (by first | exact Or.inl rfl | exact Or.inr rfl) qi) (qs_cons (q_if (q_cmpT op_gt rd_cmpI (q_call (ms := [.t, .s]) (dd := []) (fnT hT (c__law_take.ok.mono (Nat.le_trans l__law_take (by decide)))) hr rfl c__law_take.mg c__law_take.kp c__law_take.bd .nil (fun _ _ _ => rfl) (qa_cons (qv 0) (qa_cons qi qa_nil))) qi (nomark _)) (qs_one (q_for hp rfl (qi_range1 rfl b_range (qa_cons (qv 1) qa_nil)) (qg_name (i := 4) hN rfl (by first | exact Or.inl rfl | exact Or.inr rfl)) (qs_one (q_if (q_cmpT op_lt rd_cmpI (qv 3) (qv 1) (nomark _)) (qs_cons (q_set (i := 7) hN rfl (by first | exact Or.inl rfl | exact Or.inr rfl) (q_add (q_add (qv 3) qi) (q_call (ms := [.t, .s]) (dd := []) (fnT hT (c__law_take.ok.mono (Nat.le_trans l__law_take (by decide)))) hr rfl c__law_take.mg c__law_take.kp c__law_take.bd .nil (fun _ _ _ => rfl) (qa_cons (qv 0) (qa_cons (q_min rfl rfl b_min (q_sub (qv 1) (qv 3)) qi) qa_nil))))) (qs_cons (q_expr (q_append 2 rfl (q_tup (qa_cons (qv 3) (qa_cons (qv 7) (qa_cons (q_call (ms := [.t, .s]) (dd := []) (fnT hT (c__law_large.ok.mono (Nat.le_trans l__law_large (by decide)))) hr rfl c__law_large.mg c__law_large.kp c__law_large.bd .nil (fun _ _ _ => rfl) (qa_cons (qv 0) (qa_cons (q_pow qi qi) qa_nil))) qa_nil)))))) (qs_one (q_set (i := 3) hN rfl (by first | exact Or.inl rfl | exact Or.inr rfl) (qv 7))))) qs_nil)))) qs_nil) (qs_cons (q_for hp rfl (qi_range1 rfl b_range (qa_cons (q_min rfl rfl b_min (q_call (ms := [.t, .s]) (dd := []) (fnT hT (c__law_size.ok.mono (Nat.le_trans l__law_size (by decide)))) hr rfl c__law_size.mg c__law_size.kp c__law_size.bd .nil (fun _ _ _ => rfl) (qa_cons (qv 0) (qa_cons qi qa_nil))) (q_sub qi (q_len rfl b_len (qv 2)))) qa_nil)) (qg_name (i := 4) hN rfl (by first | exact Or.inl rfl | exact Or.inr rfl)) (qs_cons (q_set (i := 5) hN rfl (by first | exact Or.inl rfl | exact Or.inr rfl) (q_call (ms := [.t, .s]) (dd := []) (fnT hT (c__law_take.ok.mono (Nat.le_trans l__law_take (by decide)))) hr rfl c__law_take.mg c__law_take.kp c__law_take.bd .nil (fun _ _ _ => rfl) (qa_cons (qv 0) (qa_cons (qv 1) qa_nil)))) (qs_one (q_if (q_cmpT op_lt rd_cmpI (qv 5) (qv 1) (nomark _)) (qs_one (q_expr (q_append 2 rfl (q_tup (qa_cons (qv 5) (qa_cons (q_add (q_add (qv 5) qi) (q_call (ms := [.t, .s]) (dd := []) (fnT hT (c__law_take.ok.mono (Nat.le_trans l__law_take (by decide)))) hr rfl c__law_take.mg c__law_take.kp c__law_take.bd .nil (fun _ _ _ => rfl) (qa_cons (qv 0) (qa_cons (q_sub (qv 1) (qv 5)) qa_nil)))) (qa_cons (q_call (ms := [.t, .s]) (dd := []) (fnT hT (c__law_large.ok.mono (Nat.le_trans l__law_large (by decide)))) hr rfl c__law_large.mg c__law_large.kp c__law_large.bd .nil (fun _ _ _ => rfl) (qa_cons (qv 0) (qa_cons (q_pow qi qi) qa_nil))) qa_nil))))))) qs_nil)))) (qs_cons (q_if (QW.qt (qw_and (q_cmpT op_gt rd_cmpI (q_len rfl b_len (qv 2)) qi (nomark _)) (qw_and1 (q_val (q_call (ms := [.t, .s]) (dd := []) (fnT hT (c__law_odds.ok.mono (Nat.le_trans l__law_odds (by decide)))) hr rfl c__law_odds.mg c__law_odds.kp c__law_odds.bd .nil (fun _ _ _ => rfl) (qa_cons (qv 0) (qa_cons qi qa_nil))))))) (qs_cons (q_set (i := 6) hN rfl (by first | exact Or.inl rfl | exact Or.inr rfl) (q_lend fun g2 hg2 => have hT := hg2.trans hT; (q_call (ms := [.t, .s]) (dd := []) (fnT hT (c__law_pick.ok.mono (Nat.le_trans l__law_pick (by decide)))) hr rfl c__law_pick.mg c__law_pick.kp c__law_pick.bd .nil (fun _ _ _ => rfl) (qa_cons (qv 0) (qa_cons (qv 2) qa_nil))))) (qs_cons (q_expr (q_append 2 rfl (qv 6))) (qs_one (q_expr (q_append 2 rfl (q_tup (qa_cons (q_ix (have z := hu_of hr; z) (qv 6) qi) (qa_cons (q_ix (have z := hu_of hr; z) (qv 6) qi) (qa_cons (q_call (ms := [.t, .s]) (dd := []) (fnT hT (c__law_large.ok.mono (Nat.le_trans l__law_large (by decide)))) hr rfl c__law_large.mg c__law_large.kp c__law_large.bd .nil (fun _ _ _ => rfl) (qa_cons (qv 0) (qa_cons qi qa_nil))) qa_nil))))))))) qs_nil) (qs_one (q_ret (q_call (ms := [.t, .s]) (dd := []) (fnT hT (c__law_shuffled.ok.mono (Nat.le_trans l__law_shuffled (by decide)))) hr rfl c__law_shuffled.mg c__law_shuffled.kp c__law_shuffled.bd .nil (fun _ _ _ => rfl) (qa_cons (qv 0) (qa_cons (qv 2) qa_nil))))))))))
def N_law_many_steps : List Str := ["_law_store_here", "_law_many", "_law_size_here", "_law_turn", "_law_out", "_law_p", "_law_q"]
theorem sc_law_many_steps : FnScope N_law_many_steps ["_law_store_here", "_law_many"] (defScope (top 34)) := by refine ⟨?_, ?_, ?_, ?_, ?_, ?_, ?_⟩ <;> first | rfl | decide
theorem fn_law_many_steps {f : Addr} {fd : FuncData} {qz : QSpec}
    {k__law_take : Nat} {f__law_take : Addr} {fd__law_take : FuncData} {s_law_take : QSpec} (l__law_take : k__law_take ≤ 2) (c__law_take : Cd P w K mg base T "_law_take" ["_law_store_here", "_law_many"] k__law_take [.t, .s] s_law_take (top 19) f__law_take fd__law_take)
    (b_range : mg "range" = none)
    (b_min : mg "min" = none)
    (b_int : mg "int" = none)
    (F : Fun K "_law_many_steps" "_law_many_steps" (top 34) f fd) (pure : ∀ (ds : List D) (R : SV → Prop) (F : Exn → Prop), qz ds R F → ((rSeq (rSet 2 (rOp2 oAdd (rC (.int 4)) (rCall [.t, .s] s_law_take [] (rCons (rName 0) (rCons (rC (.int 13)) rNil))))) (rSeq (rSet 3 (rCall [.t, .s] s_law_take [] (rCons (rName 0) (rCons (rC (.int 13)) rNil)))) (rSeq (rSet 4 (rLst rNil)) (rSeq (rFor (riR1 (rCons (rName 1) rNil)) (gN 5) (rSet 4 (rOp2 oAdd (rName 4) (rLc [6] (riR2 (rCons (rOp2 oAdd (rName 5) (rC (.int 1))) (rCons (rOp2 oAdd (rOp2 oMin (rName 1) (rOp2 oAdd (rName 5) (rName 2))) (rC (.int 1))) rNil))) (gN 6) rYes (rTup (rCons (rName 5) (rCons (rName 6) (rCons (rOp2 oMod (rB1 oInt1 (rOp2 oAdd (rOp2 oRep (rName 5) (rC (.int 7))) (rOp2 oRep (rName 6) (rName 3)))) (rC (.int 13))) rNil)))))))) (rRet (rName 4)))))) : RS) (endsF [.t, .s] ds R F) (slots0 [.t, .s] ds ++ List.replicate 5 .no)) :
    FnOk P w K mg base (L2.CX P w) 3 f fd ["_law_store_here", "_law_many"] (spQ K T [.t, .s] qz) := by
  refine q_fn (N := N_law_many_steps) F sc_law_many_steps rfl (fun cdv A outer s H E g hr hT => ?_) pure
  have hN : N_law_many_steps.Nodup := sc_law_many_steps.nd
  have hp := passes_of (X := cxOf (L2.CX P w) P w K mg base N_law_many_steps "_law_many_steps" (defScope (top 34)) f cdv A outer s H E) rfl
  exact (qs_cons (q_set (i := 2) hN rfl (by first | exact Or.inl rfl | exact Or.inr rfl) (q_add qi (q_call (ms := [.t, .s]) (dd := []) (fnT hT (c__law_take.ok.mono (Nat.le_trans l__law_take (by decide)))) hr rfl c__law_take.mg c__law_take.kp c__law_take.bd .nil (fun _ _ _ => rfl) (qa_cons (qv 0) (qa_cons qi qa_nil))))) (qs_cons (q_set (i := 3) hN rfl (by first | exact Or.inl rfl | exact Or.inr rfl) (q_call (ms := [.t, .s]) (dd := []) (fnT hT (c__law_take.ok.mono (Nat.le_trans l__law_take (by decide)))) hr rfl c__law_take.mg c__law_take.kp c__law_take.bd .nil (fun _ _ _ => rfl) (qa_cons (qv 0) (qa_cons qi qa_nil)))) (qs_cons (q_set (i := 4) hN rfl (by first | exact Or.inl rfl | exact Or.inr rfl) (q_lst qa_nil)) (qs_cons (q_for hp rfl (qi_range1 rfl b_range (qa_cons (qv 1) qa_nil)) (qg_name (i := 5) hN rfl (by first | exact Or.inl rfl | exact Or.inr rfl)) (qs_one (q_set (i := 4) hN rfl (by first | exact Or.inl rfl | exact Or.inr rfl) (q_add (qv 4) (q_lc rfl hN (own := [("_law_q", 6)]) (qi_range2 rfl b_range (qa_cons (q_add (qv 5) qi) (qa_cons (q_add (q_min rfl rfl b_min (qv 1) (q_add (qv 5) (qv 2))) qi) qa_nil))) (blkOk_by (by rfl)) (by decide) (fun _ _ _ _ _ => (qg_name (i := 6) hN rfl (by first | exact Or.inl rfl | exact Or.inr rfl) (.inr rfl))) (fun _ _ _ _ _ => qts_nil) (fun _ _ _ _ _ => (q_tup (qa_cons (qv 5) (qa_cons (qv 6) (qa_cons (q_mod (q_int1 rfl b_int (q_add (q_rep (qv 5) qi) (q_rep (qv 6) (qv 3)))) qi) qa_nil)))))))))) (qs_one (q_ret (qv 4)))))))
def N_law_least_harms : List Str := ["_law_many", "_law_steps_here", "_law_out", "_law_place", "_law_step", "_law_harm"]
theorem sc_law_least_harms : FnScope N_law_least_harms ["_law_many", "_law_steps_here"] (defScope (top 35)) := by refine ⟨?_, ?_, ?_, ?_, ?_, ?_, ?_⟩ <;> first | rfl | decide
theorem fn_law_least_harms {f : Addr} {fd : FuncData} {qz : QSpec}
    (b_range : mg "range" = none)
    (F : Fun K "_law_least_harms" "_law_least_harms" (top 35) f fd) (pure : ∀ (ds : List D) (R : SV → Prop) (F : Exn → Prop), qz ds R F → ((rSeq (rSet 2 (rOp2 oAdd (rLst (rCons (rC (.int 0)) rNil)) (rOp2 oRep (rLst (rCons (rC .non) rNil)) (rName 0)))) (rSeq (rFor (riR1 (rCons (rName 0) rNil)) (gN 3) (rFor (riL (rName 1)) (gN 4) (rIf (rAnd (rB (rOp2 (oEq false) (rOp2 oIx (rName 4) (rC (.int 0))) (rName 3))) (rB (rOp2 (oIs true) (rOp2 oIx (rName 2) (rName 3)) (rC .non)))) (rSeq (rSet 5 (rOp2 oAdd (rOp2 oIx (rName 2) (rName 3)) (rOp2 oIx (rName 4) (rC (.int 2))))) (rIf (rOr (rB (rOp2 (oIs false) (rOp2 oIx (rName 2) (rOp2 oIx (rName 4) (rC (.int 1)))) (rC .non))) (rB (rOp2 oGt (rOp2 oIx (rName 2) (rOp2 oIx (rName 4) (rC (.int 1)))) (rName 5)))) (rSetIx 2 (rOp2 oIx (rName 4) (rC (.int 1))) (rName 5)) rNext)) rNext))) (rRet (rName 2)))) : RS) (endsF [.s, .s] ds R F) (slots0 [.s, .s] ds ++ List.replicate 4 .no)) :
    FnOk P w K mg base (L2.CX P w) 1 f fd ["_law_many", "_law_steps_here"] (spQ K T [.s, .s] qz) := by
  refine q_fn (N := N_law_least_harms) F sc_law_least_harms rfl (fun cdv A outer s H E g hr hT => ?_) pure
  have hN : N_law_least_harms.Nodup := sc_law_least_harms.nd
  have hp := passes_of (X := cxOf (L2.CX P w) P w K mg base N_law_least_harms "_law_least_harms" (defScope (top 35)) f cdv A outer s H E) rfl
  exact (qs_cons (q_set (i := 2) hN rfl (by first | exact Or.inl rfl | exact Or.inr rfl) (q_add (q_lst (qa_cons qi qa_nil)) (q_rep (q_lst (qa_cons qn qa_nil)) (qv 0)))) (qs_cons (q_for hp rfl (qi_range1 rfl b_range (qa_cons (qv 0) qa_nil)) (qg_name (i := 3) hN rfl (by first | exact Or.inl rfl | exact Or.inr rfl)) (qs_one (q_for hp rfl (qi_list (qv 1)) (qg_name (i := 4) hN rfl (by first | exact Or.inl rfl | exact Or.inr rfl)) (qs_one (q_if (QW.qt (qw_and (q_cmpT (op_eqQ (have z := uE hr; z)) rd_eq (q_ix (have z := hu_of hr; z) (qv 4) qi) (qv 3) (nomark _)) (qw_and1 (q_cmpT op_isT rd_isN (q_ix (have z := hu_of hr; z) (qv 2) (qv 3)) qn (nomark _))))) (qs_cons (q_set (i := 5) hN rfl (by first | exact Or.inl rfl | exact Or.inr rfl) (q_add (q_ix (have z := hu_of hr; z) (qv 2) (qv 3)) (q_ix (have z := hu_of hr; z) (qv 4) qi))) (qs_one (q_if (QW.qt (qw_or (q_cmpT op_isF rd_isN (q_ix (have z := hu_of hr; z) (qv 2) (q_ix (have z := hu_of hr; z) (qv 4) qi)) qn (nomark _)) (qw_or1 (q_cmpT op_gt rd_cmpI (q_ix (have z := hu_of hr; z) (qv 2) (q_ix (have z := hu_of hr; z) (qv 4) qi)) (qv 5) (nomark _))))) (qs_one (q_setIx 2 (have z := hu_of hr; z) rfl (q_ix (have z := hu_of hr; z) (qv 4) qi) (qv 5))) qs_nil))) qs_nil))))) (qs_one (q_ret (qv 2)))))
def N_law_closed : List Str := ["_law_many", "_law_steps_here", "_law_paper", "_law_one", "_law_step"]
theorem sc_law_closed : FnScope N_law_closed ["_law_many", "_law_steps_here", "_law_paper"] (defScope (top 36)) := by refine ⟨?_, ?_, ?_, ?_, ?_, ?_, ?_⟩ <;> first | rfl | decide
theorem fn_law_closed {f : Addr} {fd : FuncData} {qz : QSpec}
    {k__law_is_int : Nat} {f__law_is_int : Addr} {fd__law_is_int : FuncData} {s_law_is_int : QSpec} (l__law_is_int : k__law_is_int ≤ 1) (c__law_is_int : Cd P w K mg base T "_law_is_int" ["_law_value_here"] k__law_is_int [.s] s_law_is_int (top 30) f__law_is_int fd__law_is_int)
    (b_isinstance : mg "isinstance" = none)
    (b_list : mg "list" = none)
    (b_len : mg "len" = none)
    (F : Fun K "_law_closed" "_law_closed" (top 36) f fd) (pure : ∀ (ds : List D) (R : SV → Prop) (F : Exn → Prop), qz ds R F → ((rSeq (rIf (rOr (rNot (rB (rB1 (oIsa .list) (rName 2)))) (rB (rOp2 (oEq true) (rB1 oLen (rName 2)) (rOp2 oAdd (rName 0) (rC (.int 1)))))) (rRet (rC (.bl false))) rNext) (rSeq (rFor (riL (rName 2)) (gN 3) (rIf (rAnd (rB (rOp2 (oIs true) (rName 3) (rC .non))) (rOr (rNot (rB (rCall [.s] s_law_is_int [] (rCons (rName 3) rNil)))) (rB (rOp2 oLt (rName 3) (rC (.int 0)))))) (rRet (rC (.bl false))) rNext)) (rSeq (rIf (rB (rOp2 (oEq true) (rOp2 oIx (rName 2) (rC (.int 0))) (rC (.int 0)))) (rRet (rC (.bl false))) rNext) (rSeq (rFor (riL (rName 1)) (gN 4) (rIf (rB (rOp2 (oIs true) (rOp2 oIx (rName 2) (rOp2 oIx (rName 4) (rC (.int 0)))) (rC .non))) (rIf (rOr (rB (rOp2 (oIs false) (rOp2 oIx (rName 2) (rOp2 oIx (rName 4) (rC (.int 1)))) (rC .non))) (rB (rOp2 oGt (rOp2 oIx (rName 2) (rOp2 oIx (rName 4) (rC (.int 1)))) (rOp2 oAdd (rOp2 oIx (rName 2) (rOp2 oIx (rName 4) (rC (.int 0)))) (rOp2 oIx (rName 4) (rC (.int 2))))))) (rRet (rC (.bl false))) rNext) rNext)) (rRet (rC (.bl true))))))) : RS) (endsF [.s, .s, .s] ds R F) (slots0 [.s, .s, .s] ds ++ List.replicate 2 .no)) :
    FnOk P w K mg base (L2.CX P w) 2 f fd ["_law_many", "_law_steps_here", "_law_paper"] (spQ K T [.s, .s, .s] qz) := by
  refine q_fn (N := N_law_closed) F sc_law_closed rfl (fun cdv A outer s H E g hr hT => ?_) pure
  have hN : N_law_closed.Nodup := sc_law_closed.nd
  have hp := passes_of (X := cxOf (L2.CX P w) P w K mg base N_law_closed "_law_closed" (defScope (top 36)) f cdv A outer s H E) rfl
  exact (qs_cons (q_if (QW.qt (qw_or (qt_not (q_val (q_isa .list rfl b_isinstance rfl b_list (qv 2)))) (qw_or1 (q_cmpT (op_neQ (have z := uE hr; z)) rd_ne (q_len rfl b_len (qv 2)) (q_add (qv 0) qi) (nomark _))))) (qs_one (q_ret qb)) qs_nil) (qs_cons (q_for hp rfl (qi_list (qv 2)) (qg_name (i := 3) hN rfl (by first | exact Or.inl rfl | exact Or.inr rfl)) (qs_one (q_if (QW.qt (qw_and (q_cmpT op_isT rd_isN (qv 3) qn (nomark _)) (qw_and1 (QW.qt (qw_or (qt_not (q_val (q_call (ms := [.s]) (dd := []) (fnT hT (c__law_is_int.ok.mono (Nat.le_trans l__law_is_int (by decide)))) hr rfl c__law_is_int.mg c__law_is_int.kp c__law_is_int.bd .nil (fun _ _ _ => rfl) (qa_cons (qv 3) qa_nil)))) (qw_or1 (q_cmpT op_lt rd_cmpI (qv 3) qi (nomark _)))))))) (qs_one (q_ret qb)) qs_nil))) (qs_cons (q_if (q_cmpT (op_neQ (have z := uE hr; z)) rd_ne (q_ix (have z := hu_of hr; z) (qv 2) qi) qi (nomark _)) (qs_one (q_ret qb)) qs_nil) (qs_cons (q_for hp rfl (qi_list (qv 1)) (qg_name (i := 4) hN rfl (by first | exact Or.inl rfl | exact Or.inr rfl)) (qs_one (q_if (q_cmpT op_isT rd_isN (q_ix (have z := hu_of hr; z) (qv 2) (q_ix (have z := hu_of hr; z) (qv 4) qi)) qn (nomark _)) (qs_one (q_if (QW.qt (qw_or (q_cmpT op_isF rd_isN (q_ix (have z := hu_of hr; z) (qv 2) (q_ix (have z := hu_of hr; z) (qv 4) qi)) qn (nomark _)) (qw_or1 (q_cmpT op_gt rd_cmpI (q_ix (have z := hu_of hr; z) (qv 2) (q_ix (have z := hu_of hr; z) (qv 4) qi)) (q_add (q_ix (have z := hu_of hr; z) (qv 2) (q_ix (have z := hu_of hr; z) (qv 4) qi)) (q_ix (have z := hu_of hr; z) (qv 4) qi)) (nomark _))))) (qs_one (q_ret qb)) qs_nil)) qs_nil))) (qs_one (q_ret qb))))))
def N_law_due : List Str := ["_law_many", "_law_steps_here", "_law_paper", "_law_harm"]
theorem sc_law_due : FnScope N_law_due ["_law_many", "_law_steps_here", "_law_paper", "_law_harm"] (defScope (top 37)) := by refine ⟨?_, ?_, ?_, ?_, ?_, ?_, ?_⟩ <;> first | rfl | decide
theorem fn_law_due {f : Addr} {fd : FuncData} {qz : QSpec}
    {k__law_closed : Nat} {f__law_closed : Addr} {fd__law_closed : FuncData} {s_law_closed : QSpec} (l__law_closed : k__law_closed ≤ 2) (c__law_closed : Cd P w K mg base T "_law_closed" ["_law_many", "_law_steps_here", "_law_paper"] k__law_closed [.s, .s, .s] s_law_closed (top 36) f__law_closed fd__law_closed)
    (F : Fun K "_law_due" "_law_due" (top 37) f fd) (pure : ∀ (ds : List D) (R : SV → Prop) (F : Exn → Prop), qz ds R F → ((rSeq (rIf (rNot (rB (rCall [.s, .s, .s] s_law_closed [] (rCons (rName 0) (rCons (rName 1) (rCons (rName 2) rNil)))))) (rRet (rC (.bl false))) rNext) (rSeq (rIf (rB (rOp2 (oIs false) (rOp2 oIx (rName 2) (rName 0)) (rC .non))) (rRet (rC (.bl true))) rNext) (rRet (rAndV (rOp2 (oIs true) (rName 3) (rC .non)) (rOp2 oGe (rOp2 oIx (rName 2) (rName 0)) (rName 3)))))) : RS) (endsF [.s, .s, .s, .s] ds R F) (slots0 [.s, .s, .s, .s] ds ++ List.replicate 0 .no)) :
    FnOk P w K mg base (L2.CX P w) 3 f fd ["_law_many", "_law_steps_here", "_law_paper", "_law_harm"] (spQ K T [.s, .s, .s, .s] qz) := by
  refine q_fn (N := N_law_due) F sc_law_due rfl (fun cdv A outer s H E g hr hT => ?_) pure
  have hN : N_law_due.Nodup := sc_law_due.nd
  have hp := passes_of (X := cxOf (L2.CX P w) P w K mg base N_law_due "_law_due" (defScope (top 37)) f cdv A outer s H E) rfl
  exact (qs_cons (q_if (qt_not (q_val (q_call (ms := [.s, .s, .s]) (dd := []) (fnT hT (c__law_closed.ok.mono (Nat.le_trans l__law_closed (by decide)))) hr rfl c__law_closed.mg c__law_closed.kp c__law_closed.bd .nil (fun _ _ _ => rfl) (qa_cons (qv 0) (qa_cons (qv 1) (qa_cons (qv 2) qa_nil)))))) (qs_one (q_ret qb)) qs_nil) (qs_cons (q_if (q_cmpT op_isF rd_isN (q_ix (have z := hu_of hr; z) (qv 2) (qv 0)) qn (nomark _)) (qs_one (q_ret qb)) qs_nil) (qs_one (q_ret (q_and (q_cmp op_isT rd_isN (qv 3) qn (nomark _)) (q_one (q_cmp op_ge rd_cmpI (q_ix (have z := hu_of hr; z) (qv 2) (qv 0)) (qv 3) (nomark _))))))))
def N_law_bent : List Str := ["_law_store_here", "_law_paper", "_law_out", "_law_at", "_law_choice", "_law_one"]
theorem sc_law_bent : FnScope N_law_bent ["_law_store_here", "_law_paper"] (defScope (top 38)) := by refine ⟨?_, ?_, ?_, ?_, ?_, ?_, ?_⟩ <;> first | rfl | decide
theorem fn_law_bent {f : Addr} {fd : FuncData} {qz : QSpec}
    {k__law_take : Nat} {f__law_take : Addr} {fd__law_take : FuncData} {s_law_take : QSpec} (l__law_take : k__law_take ≤ 3) (c__law_take : Cd P w K mg base T "_law_take" ["_law_store_here", "_law_many"] k__law_take [.t, .s] s_law_take (top 19) f__law_take fd__law_take)
    {k__law_odds : Nat} {f__law_odds : Addr} {fd__law_odds : FuncData} {s_law_odds : QSpec} (l__law_odds : k__law_odds ≤ 3) (c__law_odds : Cd P w K mg base T "_law_odds" ["_law_store_here", "_law_parts"] k__law_odds [.t, .s] s_law_odds (top 23) f__law_odds fd__law_odds)
    {k__law_large : Nat} {f__law_large : Addr} {fd__law_large : FuncData} {s_law_large : QSpec} (l__law_large : k__law_large ≤ 3) (c__law_large : Cd P w K mg base T "_law_large" ["_law_store_here", "_law_bound"] k__law_large [.t, .s] s_law_large (top 21) f__law_large fd__law_large)
    (b_list : mg "list" = none)
    (b_len : mg "len" = none)
    (b_max : mg "max" = none)
    (F : Fun K "_law_bent" "_law_bent" (top 38) f fd) (pure : ∀ (ds : List D) (R : SV → Prop) (F : Exn → Prop), qz ds R F → ((rSeq (rSet 2 (rB1 oList (rName 1))) (rSeq (rSet 3 (rCall [.t, .s] s_law_take [] (rCons (rName 0) (rCons (rB1 oLen (rName 2)) rNil)))) (rSeq (rIf (rB (rCall [.t, .s] s_law_odds [] (rCons (rName 0) (rCons (rC (.int 4)) rNil)))) (rSet 3 (rOp2 oSub (rB1 oLen (rName 2)) (rC (.int 1)))) rNext) (rSeq (rSet 4 (rCall [.t, .s] s_law_take [] (rCons (rName 0) (rCons (rC (.int 7)) rNil)))) (rSeq (rIf (rB (rOp2 (oEq false) (rName 4) (rC (.int 0)))) (rSet 2 (rLc [5] (riL (rName 2)) (gN 5) rYes (rIfE (rB (rOp2 (oIs true) (rName 5) (rC .non))) (rName 5) (rC (.int 0))))) (rIf (rB (rOp2 (oEq false) (rName 4) (rC (.int 1)))) (rSetIx 2 (rName 3) (rC .non)) (rIf (rB (rOp2 (oEq false) (rName 4) (rC (.int 2)))) (rSetIx 2 (rName 3) (rCall [.t, .s] s_law_large [] (rCons (rName 0) (rCons (rOp2 oPow (rC (.int 10)) (rC (.int 59))) rNil)))) (rIf (rB (rOp2 (oEq false) (rName 4) (rC (.int 3)))) (rSet 2 (rOp2 oAdd (rSl (rName 2) roN (roE (rName 3))) (rLc [5] (riL (rSl (rName 2) (roE (rName 3)) roN)) (gN 5) rYes (rIfE (rB (rOp2 (oIs true) (rName 5) (rC .non))) (rC (.int 0)) (rC .non))))) (rIf (rB (rOp2 (oIs true) (rOp2 oIx (rName 2) (rName 3)) (rC .non))) (rSetIx 2 (rName 3) (rOp2 oIx (rLst (rCons (rOp2 oAdd (rOp2 oIx (rName 2) (rName 3)) (rC (.int 1))) (rCons (rOp2 oMax (rC (.int 0)) (rOp2 oSub (rOp2 oIx (rName 2) (rName 3)) (rC (.int 1)))) (rCons (rC (.int 0)) rNil)))) (rOp2 oSub (rName 4) (rC (.int 4))))) rNext))))) (rRet (rName 2))))))) : RS) (endsF [.t, .s] ds R F) (slots0 [.t, .s] ds ++ List.replicate 4 .no)) :
    FnOk P w K mg base (L2.CX P w) 4 f fd ["_law_store_here", "_law_paper"] (spQ K T [.t, .s] qz) := by
  refine q_fn (N := N_law_bent) F sc_law_bent rfl (fun cdv A outer s H E g hr hT => ?_) pure
  have hN : N_law_bent.Nodup := sc_law_bent.nd
  have hp := passes_of (X := cxOf (L2.CX P w) P w K mg base N_law_bent "_law_bent" (defScope (top 38)) f cdv A outer s H E) rfl
  exact (qs_cons (q_set (i := 2) hN rfl (by first | exact Or.inl rfl | exact Or.inr rfl) (q_list rfl b_list (qv 1))) (qs_cons (q_set (i := 3) hN rfl (by first | exact Or.inl rfl | exact Or.inr rfl) (q_call (ms := [.t, .s]) (dd := []) (fnT hT (c__law_take.ok.mono (Nat.le_trans l__law_take (by decide)))) hr rfl c__law_take.mg c__law_take.kp c__law_take.bd .nil (fun _ _ _ => rfl) (qa_cons (qv 0) (qa_cons (q_len rfl b_len (qv 2)) qa_nil)))) (qs_cons (q_if (q_val (q_call (ms := [.t, .s]) (dd := []) (fnT hT (c__law_odds.ok.mono (Nat.le_trans l__law_odds (by decide)))) hr rfl c__law_odds.mg c__law_odds.kp c__law_odds.bd .nil (fun _ _ _ => rfl) (qa_cons (qv 0) (qa_cons qi qa_nil)))) (qs_one (q_set (i := 3) hN rfl (by first | exact Or.inl rfl | exact Or.inr rfl) (q_sub (q_len rfl b_len (qv 2)) qi))) qs_nil) (qs_cons (q_set (i := 4) hN rfl (by first | exact Or.inl rfl | exact Or.inr rfl) (q_call (ms := [.t, .s]) (dd := []) (fnT hT (c__law_take.ok.mono (Nat.le_trans l__law_take (by decide)))) hr rfl c__law_take.mg c__law_take.kp c__law_take.bd .nil (fun _ _ _ => rfl) (qa_cons (qv 0) (qa_cons qi qa_nil)))) (qs_cons (q_if (q_cmpT (op_eqQ (have z := uE hr; z)) rd_eq (qv 4) qi (nomark _)) (qs_one (q_setLc (i := 2) rfl hN rfl rfl (own := [("_law_one", 5)]) (qi_list (qv 2)) (blkOk_by (by rfl)) (by decide) (fun _ _ _ _ _ => (qg_name (i := 5) hN rfl (by first | exact Or.inl rfl | exact Or.inr rfl) (.inr rfl))) (fun _ _ _ _ _ => qts_nil) (fun _ _ _ _ _ => (q_ifE (q_cmpT op_isT rd_isN (qv 5) qn (nomark _)) (qv 5) qi)))) (qs_one (q_if (q_cmpT (op_eqQ (have z := uE hr; z)) rd_eq (qv 4) qi (nomark _)) (qs_one (q_setIx 2 (have z := hu_of hr; z) rfl (qv 3) qn)) (qs_one (q_if (q_cmpT (op_eqQ (have z := uE hr; z)) rd_eq (qv 4) qi (nomark _)) (qs_one (q_setIx 2 (have z := hu_of hr; z) rfl (qv 3) (q_call (ms := [.t, .s]) (dd := []) (fnT hT (c__law_large.ok.mono (Nat.le_trans l__law_large (by decide)))) hr rfl c__law_large.mg c__law_large.kp c__law_large.bd .nil (fun _ _ _ => rfl) (qa_cons (qv 0) (qa_cons (q_pow qi qi) qa_nil))))) (qs_one (q_if (q_cmpT (op_eqQ (have z := uE hr; z)) rd_eq (qv 4) qi (nomark _)) (qs_one (q_set (i := 2) hN rfl (by first | exact Or.inl rfl | exact Or.inr rfl) (q_add (q_sl (qv 2) qo_n (qo_e (qv 3))) (q_lc rfl hN (own := [("_law_one", 5)]) (qi_list (q_sl (qv 2) (qo_e (qv 3)) qo_n)) (blkOk_by (by rfl)) (by decide) (fun _ _ _ _ _ => (qg_name (i := 5) hN rfl (by first | exact Or.inl rfl | exact Or.inr rfl) (.inr rfl))) (fun _ _ _ _ _ => qts_nil) (fun _ _ _ _ _ => (q_ifE (q_cmpT op_isT rd_isN (qv 5) qn (nomark _)) qi qn)))))) (qs_one (q_if (q_cmpT op_isT rd_isN (q_ix (have z := hu_of hr; z) (qv 2) (qv 3)) qn (nomark _)) (qs_one (q_setIx 2 (have z := hu_of hr; z) rfl (qv 3) (q_ix (have z := hu_of hr; z) (q_lst (qa_cons (q_add (q_ix (have z := hu_of hr; z) (qv 2) (qv 3)) qi) (qa_cons (q_max rfl rfl b_max qi (q_sub (q_ix (have z := hu_of hr; z) (qv 2) (qv 3)) qi)) (qa_cons qi qa_nil)))) (q_sub (qv 4) qi)))) qs_nil))))))))) (qs_one (q_ret (qv 2))))))))
def N_law_broken : List Str := ["_law_store_here", "_law_paper", "_law_choice", "_law_at", "_law_wrong", "_law_row"]
theorem sc_law_broken : FnScope N_law_broken ["_law_store_here", "_law_paper"] (defScope (top 39)) := by refine ⟨?_, ?_, ?_, ?_, ?_, ?_, ?_⟩ <;> first | rfl | decide
theorem fn_law_broken {f : Addr} {fd : FuncData} {qz : QSpec}
    {k__law_take : Nat} {f__law_take : Addr} {fd__law_take : FuncData} {s_law_take : QSpec} (l__law_take : k__law_take ≤ 6) (c__law_take : Cd P w K mg base T "_law_take" ["_law_store_here", "_law_many"] k__law_take [.t, .s] s_law_take (top 19) f__law_take fd__law_take)
    {k__law_value : Nat} {f__law_value : Addr} {fd__law_value : FuncData} {s_law_value : QSpec} (l__law_value : k__law_value ≤ 6) (c__law_value : Cd P w K mg base T "_law_value" ["_law_store_here"] k__law_value [.t] s_law_value (top 29) f__law_value fd__law_value)
    {k__law_pick : Nat} {f__law_pick : Addr} {fd__law_pick : FuncData} {s_law_pick : QSpec} (l__law_pick : k__law_pick ≤ 6) (c__law_pick : Cd P w K mg base T "_law_pick" ["_law_store_here", "_law_row"] k__law_pick [.t, .s] s_law_pick (top 22) f__law_pick fd__law_pick)
    (b_len : mg "len" = none)
    (b_tuple : mg "tuple" = none)
    (F : Fun K "_law_broken" "_law_broken" (top 39) f fd) (pure : ∀ (ds : List D) (R : SV → Prop) (F : Exn → Prop), qz ds R F → ((rSeq (rSet 2 (rCall [.t, .s] s_law_take [] (rCons (rName 0) (rCons (rC (.int 3)) rNil)))) (rSeq (rSet 3 (rCall [.t, .s] s_law_take [] (rCons (rName 0) (rCons (rB1 oLen (rName 1)) rNil)))) (rSeq (rIf (rB (rOp2 (oEq false) (rName 2) (rC (.int 0)))) (rRet (rCall [.t] s_law_value [] (rCons (rName 0) rNil))) rNext) (rSeq (rIf (rB (rOp2 (oEq false) (rName 2) (rC (.int 1)))) (rSeq (rSet 5 (rLst (rCons (rB1 oTuple (rName 1)) (rCons (rSl (rName 1) (roE (rC (.int 1))) roN) (rCons (rSl (rName 1) roN (roE (rB1 oNeg (rC (.int 1))))) (rCons (rOp2 oAdd (rName 1) (rLst (rCons (rC .non) rNil))) (rCons (rOp2 oAdd (rName 1) (rLst (rCons (rC (.int 0)) rNil))) (rCons (rOp2 oAdd (rSl (rName 1) roN (roE (rC (.int 1)))) (rName 1)) (rCons (rLst (rCons (rName 1) rNil)) (rCons (rDict (rpCons (rC (.int 0)) (rC (.int 0)) rpNil)) rNil)))))))))) (rRet (rCall [.t, .s] s_law_pick [] (rCons (rName 0) (rCons (rName 5) rNil))))) rNext) (rSeq (rSet 4 (rCall [.t, .s] s_law_pick [] (rCons (rName 0) (rCons (rLst (rCons (rB1 oNeg (rC (.int 1))) (rCons (rC (.bl true)) (rCons (rC (.bl false)) (rCons (rC (.str "0")) (rCons (rC (.str "")) (rCons (rLst (rCons (rC (.int 0)) rNil)) (rCons (rTup (rCons (rC (.int 0)) rNil)) (rCons rDict0 (rCons (rOp2 oSub (rC (.int 0)) (rOp2 oPow (rC (.int 10)) (rC (.int 59)))) (rCons (rLst (rCons (rC .non) rNil)) rNil))))))))))) rNil)))) (rRet (rOp2 oAdd (rOp2 oAdd (rSl (rName 1) roN (roE (rName 3))) (rLst (rCons (rName 4) rNil))) (rSl (rName 1) (roE (rOp2 oAdd (rName 3) (rC (.int 1)))) roN)))))))) : RS) (endsF [.t, .s] ds R F) (slots0 [.t, .s] ds ++ List.replicate 4 .no)) :
    FnOk P w K mg base (L2.CX P w) 7 f fd ["_law_store_here", "_law_paper"] (spQ K T [.t, .s] qz) := by
  refine q_fn (N := N_law_broken) F sc_law_broken rfl (fun cdv A outer s H E g hr hT => ?_) pure
  have hN : N_law_broken.Nodup := sc_law_broken.nd
  have hp := passes_of (X := cxOf (L2.CX P w) P w K mg base N_law_broken "_law_broken" (defScope (top 39)) f cdv A outer s H E) rfl
  exact (qs_cons (q_set (i := 2) hN rfl (by first | exact Or.inl rfl | exact Or.inr rfl) (q_call (ms := [.t, .s]) (dd := []) (fnT hT (c__law_take.ok.mono (Nat.le_trans l__law_take (by decide)))) hr rfl c__law_take.mg c__law_take.kp c__law_take.bd .nil (fun _ _ _ => rfl) (qa_cons (qv 0) (qa_cons qi qa_nil)))) (qs_cons (q_set (i := 3) hN rfl (by first | exact Or.inl rfl | exact Or.inr rfl) (q_call (ms := [.t, .s]) (dd := []) (fnT hT (c__law_take.ok.mono (Nat.le_trans l__law_take (by decide)))) hr rfl c__law_take.mg c__law_take.kp c__law_take.bd .nil (fun _ _ _ => rfl) (qa_cons (qv 0) (qa_cons (q_len rfl b_len (qv 1)) qa_nil)))) (qs_cons (q_if (q_cmpT (op_eqQ (have z := uE hr; z)) rd_eq (qv 2) qi (nomark _)) (qs_one (q_ret (q_call (ms := [.t]) (dd := []) (fnT hT (c__law_value.ok.mono (Nat.le_trans l__law_value (by decide)))) hr rfl c__law_value.mg c__law_value.kp c__law_value.bd .nil (fun _ _ _ => rfl) (qa_cons (qv 0) qa_nil)))) qs_nil) (qs_cons (q_if (q_cmpT (op_eqQ (have z := uE hr; z)) rd_eq (qv 2) qi (nomark _)) (qs_cons (q_set (i := 5) hN rfl (by first | exact Or.inl rfl | exact Or.inr rfl) (q_lst (qa_cons (q_tuple rfl b_tuple (qv 1)) (qa_cons (q_sl (qv 1) (qo_e qi) qo_n) (qa_cons (q_sl (qv 1) qo_n (qo_e (q_neg qi))) (qa_cons (q_add (qv 1) (q_lst (qa_cons qn qa_nil))) (qa_cons (q_add (qv 1) (q_lst (qa_cons qi qa_nil))) (qa_cons (q_add (q_sl (qv 1) qo_n (qo_e qi)) (qv 1)) (qa_cons (q_lst (qa_cons (qv 1) qa_nil)) (qa_cons (q_dict (qpm_cons qi qi qpm_nil)) qa_nil)))))))))) (qs_one (q_ret (q_call (ms := [.t, .s]) (dd := []) (fnT hT (c__law_pick.ok.mono (Nat.le_trans l__law_pick (by decide)))) hr rfl c__law_pick.mg c__law_pick.kp c__law_pick.bd .nil (fun _ _ _ => rfl) (qa_cons (qv 0) (qa_cons (qv 5) qa_nil)))))) qs_nil) (qs_cons (q_set (i := 4) hN rfl (by first | exact Or.inl rfl | exact Or.inr rfl) (q_call (ms := [.t, .s]) (dd := []) (fnT hT (c__law_pick.ok.mono (Nat.le_trans l__law_pick (by decide)))) hr rfl c__law_pick.mg c__law_pick.kp c__law_pick.bd .nil (fun _ _ _ => rfl) (qa_cons (qv 0) (qa_cons (q_lst (qa_cons (q_neg qi) (qa_cons qb (qa_cons qb (qa_cons qs (qa_cons qs (qa_cons (q_lst (qa_cons qi qa_nil)) (qa_cons (q_tup (qa_cons qi qa_nil)) (qa_cons q_dict0 (qa_cons (q_sub qi (q_pow qi qi)) (qa_cons (q_lst (qa_cons qn qa_nil)) qa_nil))))))))))) qa_nil)))) (qs_one (q_ret (q_add (q_add (q_sl (qv 1) qo_n (qo_e (qv 3))) (q_lst (qa_cons (qv 4) qa_nil))) (q_sl (qv 1) (qo_e (q_add (qv 3) qi)) qo_n)))))))))
def N_law_next_step : List Str := ["_law_store_here", "_law_many", "_law_paper", "_law_start", "_law_stop", "_law_harm", "_law_near"]
theorem sc_law_next_step : FnScope N_law_next_step ["_law_store_here", "_law_many", "_law_paper"] (defScope (top 40)) := by refine ⟨?_, ?_, ?_, ?_, ?_, ?_, ?_⟩ <;> first | rfl | decide
theorem fn_law_next_step {f : Addr} {fd : FuncData} {qz : QSpec}
    {k__law_take : Nat} {f__law_take : Addr} {fd__law_take : FuncData} {s_law_take : QSpec} (l__law_take : k__law_take ≤ 3) (c__law_take : Cd P w K mg base T "_law_take" ["_law_store_here", "_law_many"] k__law_take [.t, .s] s_law_take (top 19) f__law_take fd__law_take)
    {k__law_large : Nat} {f__law_large : Addr} {fd__law_large : FuncData} {s_law_large : QSpec} (l__law_large : k__law_large ≤ 3) (c__law_large : Cd P w K mg base T "_law_large" ["_law_store_here", "_law_bound"] k__law_large [.t, .s] s_law_large (top 21) f__law_large fd__law_large)
    {k__law_is_int : Nat} {f__law_is_int : Addr} {fd__law_is_int : FuncData} {s_law_is_int : QSpec} (l__law_is_int : k__law_is_int ≤ 3) (c__law_is_int : Cd P w K mg base T "_law_is_int" ["_law_value_here"] k__law_is_int [.s] s_law_is_int (top 30) f__law_is_int fd__law_is_int)
    (b_isinstance : mg "isinstance" = none)
    (b_list : mg "list" = none)
    (b_len : mg "len" = none)
    (F : Fun K "_law_next_step" "_law_next_step" (top 40) f fd) (pure : ∀ (ds : List D) (R : SV → Prop) (F : Exn → Prop), qz ds R F → ((rSeq (rSet 3 (rCall [.t, .s] s_law_take [] (rCons (rName 0) (rCons (rName 1) rNil)))) (rSeq (rSet 4 (rOp2 oAdd (rOp2 oAdd (rName 3) (rC (.int 1))) (rCall [.t, .s] s_law_take [] (rCons (rName 0) (rCons (rOp2 oSub (rName 1) (rName 3)) rNil))))) (rSeq (rSet 5 (rCall [.t, .s] s_law_large [] (rCons (rName 0) (rCons (rC (.int 12)) rNil)))) (rSeq (rIf (rAnd (rB (rB1 (oIsa .list) (rName 2))) (rAnd (rB (rOp2 (oEq false) (rB1 oLen (rName 2)) (rOp2 oAdd (rName 1) (rC (.int 1))))) (rAnd (rB (rCall [.s] s_law_is_int [] (rCons (rOp2 oIx (rName 2) (rName 3)) rNil))) (rB (rCall [.s] s_law_is_int [] (rCons (rOp2 oIx (rName 2) (rName 4)) rNil)))))) (rSeq (rSet 6 (rOp2 oSub (rOp2 oSub (rOp2 oIx (rName 2) (rName 4)) (rOp2 oIx (rName 2) (rName 3))) (rCall [.t, .s] s_law_take [] (rCons (rName 0) (rCons (rC (.int 2)) rNil))))) (rIf (rAnd (rB (rOp2 oGt (rCall [.t, .s] s_law_take [] (rCons (rName 0) (rCons (rC (.int 4)) rNil))) (rC (.int 0)))) (rB (rOp2 oGe (rName 6) (rC (.int 0))))) (rSet 5 (rName 6)) rNext)) rNext) (rRet (rTup (rCons (rName 3) (rCons (rName 4) (rCons (rName 5) rNil))))))))) : RS) (endsF [.t, .s, .s] ds R F) (slots0 [.t, .s, .s] ds ++ List.replicate 4 .no)) :
    FnOk P w K mg base (L2.CX P w) 4 f fd ["_law_store_here", "_law_many", "_law_paper"] (spQ K T [.t, .s, .s] qz) := by
  refine q_fn (N := N_law_next_step) F sc_law_next_step rfl (fun cdv A outer s H E g hr hT => ?_) pure
  have hN : N_law_next_step.Nodup := sc_law_next_step.nd
  have hp := passes_of (X := cxOf (L2.CX P w) P w K mg base N_law_next_step "_law_next_step" (defScope (top 40)) f cdv A outer s H E) rfl
  exact (qs_cons (q_set (i := 3) hN rfl (by first | exact Or.inl rfl | exact Or.inr rfl) (q_call (ms := [.t, .s]) (dd := []) (fnT hT (c__law_take.ok.mono (Nat.le_trans l__law_take (by decide)))) hr rfl c__law_take.mg c__law_take.kp c__law_take.bd .nil (fun _ _ _ => rfl) (qa_cons (qv 0) (qa_cons (qv 1) qa_nil)))) (qs_cons (q_set (i := 4) hN rfl (by first | exact Or.inl rfl | exact Or.inr rfl) (q_add (q_add (qv 3) qi) (q_call (ms := [.t, .s]) (dd := []) (fnT hT (c__law_take.ok.mono (Nat.le_trans l__law_take (by decide)))) hr rfl c__law_take.mg c__law_take.kp c__law_take.bd .nil (fun _ _ _ => rfl) (qa_cons (qv 0) (qa_cons (q_sub (qv 1) (qv 3)) qa_nil))))) (qs_cons (q_set (i := 5) hN rfl (by first | exact Or.inl rfl | exact Or.inr rfl) (q_call (ms := [.t, .s]) (dd := []) (fnT hT (c__law_large.ok.mono (Nat.le_trans l__law_large (by decide)))) hr rfl c__law_large.mg c__law_large.kp c__law_large.bd .nil (fun _ _ _ => rfl) (qa_cons (qv 0) (qa_cons qi qa_nil)))) (qs_cons (q_if (QW.qt (qw_and (q_val (q_isa .list rfl b_isinstance rfl b_list (qv 2))) (qw_and (q_cmpT (op_eqQ (have z := uE hr; z)) rd_eq (q_len rfl b_len (qv 2)) (q_add (qv 1) qi) (nomark _)) (qw_and (q_val (q_call (ms := [.s]) (dd := []) (fnT hT (c__law_is_int.ok.mono (Nat.le_trans l__law_is_int (by decide)))) hr rfl c__law_is_int.mg c__law_is_int.kp c__law_is_int.bd .nil (fun _ _ _ => rfl) (qa_cons (q_ix (have z := hu_of hr; z) (qv 2) (qv 3)) qa_nil))) (qw_and1 (q_val (q_call (ms := [.s]) (dd := []) (fnT hT (c__law_is_int.ok.mono (Nat.le_trans l__law_is_int (by decide)))) hr rfl c__law_is_int.mg c__law_is_int.kp c__law_is_int.bd .nil (fun _ _ _ => rfl) (qa_cons (q_ix (have z := hu_of hr; z) (qv 2) (qv 4)) qa_nil)))))))) (qs_cons (q_set (i := 6) hN rfl (by first | exact Or.inl rfl | exact Or.inr rfl) (q_sub (q_sub (q_ix (have z := hu_of hr; z) (qv 2) (qv 4)) (q_ix (have z := hu_of hr; z) (qv 2) (qv 3))) (q_call (ms := [.t, .s]) (dd := []) (fnT hT (c__law_take.ok.mono (Nat.le_trans l__law_take (by decide)))) hr rfl c__law_take.mg c__law_take.kp c__law_take.bd .nil (fun _ _ _ => rfl) (qa_cons (qv 0) (qa_cons qi qa_nil))))) (qs_one (q_if (QW.qt (qw_and (q_cmpT op_gt rd_cmpI (q_call (ms := [.t, .s]) (dd := []) (fnT hT (c__law_take.ok.mono (Nat.le_trans l__law_take (by decide)))) hr rfl c__law_take.mg c__law_take.kp c__law_take.bd .nil (fun _ _ _ => rfl) (qa_cons (qv 0) (qa_cons qi qa_nil))) qi (nomark _)) (qw_and1 (q_cmpT op_ge rd_cmpI (qv 6) qi (nomark _))))) (qs_one (q_set (i := 5) hN rfl (by first | exact Or.inl rfl | exact Or.inr rfl) (qv 6))) qs_nil))) qs_nil) (qs_one (q_ret (q_tup (qa_cons (qv 3) (qa_cons (qv 4) (qa_cons (qv 5) qa_nil))))))))))
def N_law_bad_name : List Str := ["_law_ask", "e", "_law_others"]
theorem sc_law_bad_name : FnScope N_law_bad_name ["_law_ask"] (defScope (top 41)) := by refine ⟨?_, ?_, ?_, ?_, ?_, ?_, ?_⟩ <;> first | rfl | decide
theorem ask_law_bad_name {f : Addr} {fd : FuncData} {qz : AskP → AskP}
    {v_BadValue : V} {u_BadValue : Value} (E_BadValue : EG K mg T "BadValue" .bv v_BadValue u_BadValue)
    {v_Clash : V} {u_Clash : Value} (E_Clash : EG K mg T "Clash" .cl v_Clash u_Clash)
    {v_Taken : V} {u_Taken : Value} (E_Taken : EG K mg T "Taken" .tk v_Taken u_Taken)
    {v_Unknown : V} {u_Unknown : Value} (E_Unknown : EG K mg T "Unknown" .un v_Unknown u_Unknown)
    {v_BadText : V} {u_BadText : Value} (E_BadText : EG K mg T "BadText" .bt v_BadText u_BadText)
    {v_Unfit : V} {u_Unfit : Value} (E_Unfit : EG K mg T "Unfit" .uf v_Unfit u_Unfit)
    {v_Lacking : V} {u_Lacking : Value} (E_Lacking : EG K mg T "Lacking" .lk v_Lacking u_Lacking)
    {v_RoomError : V} {u_RoomError : Value} (E_RoomError : EG K mg T "RoomError" .rm v_RoomError u_RoomError)
    {v_ValueError : V} {u_ValueError : Value} (E_ValueError : EG K mg T "ValueError" .ve v_ValueError u_ValueError)
    (EK : ∀ d : EC, d.own = true → ErrK K (T.ea d))
    (EF_argument : ∀ d : EC, d.own = true → PySem.W.findIn K (.ref (T.ea d)) "argument" = some none)
    (b_isinstance : mg "isinstance" = none)
    (F : Fun K "_law_bad_name" "_law_bad_name" (top 41) f fd) (gl : mg "_law_bad_name" = some (.ref f)) (bd : Binds K fd ["_law_ask"] []) (pure : ∀ (f : Addr) (ask : AskP) (R : SV → Prop) (F : Exn → Prop), qz ask R F → ((rSeq (rTryAs .bv 1 (rDrop (rAct f ask 0)) (fun a y => (rSeq (rSet 2 (rLst (rCons (rIsE a y .bt 1) (rCons (rIsE a y .un 1) (rCons (rIsE a y .tk 1) (rCons (rIsE a y .cl 1) rNil)))))) (rSeq (rSet 2 (rOp2 oAdd (rName 2) (rLst (rCons (rIsE a y .lk 1) (rCons (rIsE a y .uf 1) rNil))))) (rIf (rAnd (rB (rOp2 (oIn true) (rC (.bl true)) (rName 2))) (rAnd (rB (rIsE a y .rm 1)) (rB (rIsE a y .ve 1)))) (rRet (rTup (rCons (rC (.str "BadValue")) (rCons (rXf a y "argument" 1) rNil)))) rNext))))) (rRet (rTup (rCons (rC (.str "other")) rNil)))) : RS) (endsF [.s] [.ref f] R F) (.fr true (.ref f) :: List.replicate 2 .no)) :
    AskD P w K mg base T 0 "_law_bad_name" (top 41) f fd "_law_ask" qz := by
  have hN : N_law_bad_name.Nodup := sc_law_bad_name.nd
  refine ⟨F, gl, bd, N_law_bad_name, fun f ask => (rSeq (rTryAs .bv 1 (rDrop (rAct f ask 0)) (fun a y => (rSeq (rSet 2 (rLst (rCons (rIsE a y .bt 1) (rCons (rIsE a y .un 1) (rCons (rIsE a y .tk 1) (rCons (rIsE a y .cl 1) rNil)))))) (rSeq (rSet 2 (rOp2 oAdd (rName 2) (rLst (rCons (rIsE a y .lk 1) (rCons (rIsE a y .uf 1) rNil))))) (rIf (rAnd (rB (rOp2 (oIn true) (rC (.bl true)) (rName 2))) (rAnd (rB (rIsE a y .rm 1)) (rB (rIsE a y .ve 1)))) (rRet (rTup (rCons (rC (.str "BadValue")) (rCons (rXf a y "argument" 1) rNil)))) rNext))))) (rRet (rTup (rCons (rC (.str "other")) rNil)))), sc_law_bad_name, rfl, (by first | exact Or.inl rfl | exact Or.inr (Or.inl rfl)), by decide, by decide, fun A outer s H E g f ask hr hT act => ?_, pure⟩
  exact (qs0_cons (q_try_as (cx := .bv) (i := 1) rfl rfl hN rfl rfl (E_BadValue.names (by rfl)) (E_BadValue.exT hT) (fun pn xe hp => (qs_one (q_expr (act pn xe _ _)))) (fun a oe y dd fv pn ho hz hf => (qs_cons (q_set (i := 2) hN rfl (by first | exact Or.inl rfl | exact Or.inr rfl) (q_lst (qa_cons (q_isE (ekT hT EK ho) ho hz hf (clT hT E_BadText.cl) (E_BadText.pe (by rfl)) (by rfl) b_isinstance 1) (qa_cons (q_isE (ekT hT EK ho) ho hz hf (clT hT E_Unknown.cl) (E_Unknown.pe (by rfl)) (by rfl) b_isinstance 1) (qa_cons (q_isE (ekT hT EK ho) ho hz hf (clT hT E_Taken.cl) (E_Taken.pe (by rfl)) (by rfl) b_isinstance 1) (qa_cons (q_isE (ekT hT EK ho) ho hz hf (clT hT E_Clash.cl) (E_Clash.pe (by rfl)) (by rfl) b_isinstance 1) qa_nil)))))) (qs_cons (q_set (i := 2) hN rfl (by first | exact Or.inl rfl | exact Or.inr rfl) (q_add (qv 2) (q_lst (qa_cons (q_isE (ekT hT EK ho) ho hz hf (clT hT E_Lacking.cl) (E_Lacking.pe (by rfl)) (by rfl) b_isinstance 1) (qa_cons (q_isE (ekT hT EK ho) ho hz hf (clT hT E_Unfit.cl) (E_Unfit.pe (by rfl)) (by rfl) b_isinstance 1) qa_nil))))) (qs_one (q_if (QW.qt (qw_and (q_cmpT (op_notInQ (have z := uI hr; z)) rd_notIn qb (qv 2) (by rfl)) (qw_and (q_val (q_isE (ekT hT EK ho) ho hz hf (clT hT E_RoomError.cl) (E_RoomError.pe (by rfl)) (by rfl) b_isinstance 1)) (qw_and1 (q_val (q_isE (ekT hT EK ho) ho hz hf (clT hT E_ValueError.cl) (E_ValueError.pe (by rfl)) (by rfl) b_isinstance 1)))))) (qs_one (q_ret (q_tup (qa_cons qs (qa_cons (q_xf (ekT hT EK ho) (noT hT EF_argument ho) hz hf 1) qa_nil))))) qs_nil)))))) (QSs.q0 (qs_one (q_ret (q_tup (qa_cons qs qa_nil))))))
def N_law_refused : List Str := ["_law_store_here", "_law_many", "_law_steps_here", "_law_harm", "_law_paper", "_law_row", "_law_at", "_law_bad", "_law_sizes", "_law_lists", "_law_bads", "_law_args", "_law_first", "_law_k", "_law_told"]
theorem sc_law_refused : FnScope N_law_refused ["_law_store_here", "_law_many", "_law_steps_here", "_law_harm", "_law_paper"] (defScope (top 42)) := by refine ⟨?_, ?_, ?_, ?_, ?_, ?_, ?_⟩ <;> first | rfl | decide
theorem fn_law_refused {f : Addr} {fd : FuncData} {qz : QSpec}
    {k__law_take : Nat} {f__law_take : Addr} {fd__law_take : FuncData} {s_law_take : QSpec} (l__law_take : k__law_take ≤ 20) (c__law_take : Cd P w K mg base T "_law_take" ["_law_store_here", "_law_many"] k__law_take [.t, .s] s_law_take (top 19) f__law_take fd__law_take)
    {k__law_pick : Nat} {f__law_pick : Addr} {fd__law_pick : FuncData} {s_law_pick : QSpec} (l__law_pick : k__law_pick ≤ 20) (c__law_pick : Cd P w K mg base T "_law_pick" ["_law_store_here", "_law_row"] k__law_pick [.t, .s] s_law_pick (top 22) f__law_pick fd__law_pick)
    {k_bars_way : Nat} {f_bars_way : Addr} {fd_bars_way : FuncData} {s_bars_way : QSpec} (l_bars_way : k_bars_way ≤ 4) (c_bars_way : Cd P w K mg base T "bars_way" ["many", "steps", "harm", "paper"] k_bars_way [.s, .s, .s, .s] s_bars_way (top 14) f_bars_way fd_bars_way)
    {k__law_same : Nat} {f__law_same : Addr} {fd__law_same : FuncData} {s_law_same : QSpec} (l__law_same : k__law_same ≤ 20) (c__law_same : Cd P w K mg base T "_law_same" ["_law_actual", "_law_due_here"] k__law_same [.s, .s] s_law_same (top 31) f__law_same fd__law_same)
    (b_str : mg "str" = none)
    (b_len : mg "len" = none)
    (b_min : mg "min" = none)
    (b_tuple : mg "tuple" = none)
    (b_range : mg "range" = none)
    {gA__law_bad_name : Addr} {fdA__law_bad_name : FuncData} {s_law_bad_name : AskP → AskP} (A__law_bad_name : AskD P w K mg base T 5 "_law_bad_name" (top 41) gA__law_bad_name fdA__law_bad_name "_law_ask" s_law_bad_name)
    {c_l P_l : Addr} (tb : LamX.TabB base mg c_l P_l) (hfc : fd.code = .ref c_l) (tm : (P_l, ("_law_refused" ++ ".<locals>." ++ "<lambda>" : Str)) ∈ T.tb) (tu : ∀ p ∈ T.tb, p.1 = P_l → p.2 = ("_law_refused" ++ ".<locals>." ++ "<lambda>" : Str))
    (F : Fun K "_law_refused" "_law_refused" (top 42) f fd) (pure : ∀ (ds : List D) (R : SV → Prop) (F : Exn → Prop), qz ds R F → ((rSeq (rSet 5 (rLst (rCons (rTup (rCons (rC (.int 0)) (rCons (rOp2 oAdd (rName 1) (rC (.int 1))) (rCons (rC (.int 0)) rNil)))) (rCons (rTup (rCons (rName 1) (rCons (rName 1) (rCons (rC (.int 0)) rNil)))) (rCons (rTup (rCons (rName 1) (rCons (rOp2 oSub (rName 1) (rC (.int 1))) (rCons (rC (.int 0)) rNil)))) (rCons (rTup (rCons (rB1 oNeg (rC (.int 1))) (rCons (rC (.int 0)) (rCons (rC (.int 0)) rNil)))) (rCons (rTup (rCons (rC (.int 0)) (rCons (rName 1) (rCons (rB1 oNeg (rC (.int 1))) rNil)))) (rCons (rTup (rCons (rC (.int 0)) (rCons (rName 1) rNil))) (rCons (rLst (rCons (rC (.int 0)) (rCons (rName 1) (rCons (rC (.int 0)) rNil)))) rNil))))))))) (rSeq (rSet 5 (rOp2 oAdd (rName 5) (rLst (rCons (rTup (rCons (rC (.int 0)) (rCons (rName 1) (rCons (rC (.bl true)) rNil)))) (rCons (rTup (rCons (rC (.bl false)) (rCons (rName 1) (rCons (rC (.int 0)) rNil)))) (rCons (rTup (rCons (rC (.int 0)) (rCons (rB1 oStr1 (rName 1)) (rCons (rC (.int 0)) rNil)))) (rCons (rTup (rCons (rC (.int 0)) (rCons (rName 1) (rCons (rC (.int 0)) (rCons (rC (.int 0)) rNil))))) (rCons (rTup (rCons (rC (.int 0)) (rCons (rName 1) (rCons (rC .non) rNil)))) (rCons (rC .non) (rCons (rC (.int 0)) rNil)))))))))) (rSeq (rSet 6 (rCall [.t, .s] s_law_take [] (rCons (rName 0) (rCons (rOp2 oAdd (rB1 oLen (rName 2)) (rC (.int 1))) rNil)))) (rSeq (rSet 7 (rOp2 oAdd (rOp2 oAdd (rSl (rName 2) roN (roE (rName 6))) (rLst (rCons (rCall [.t, .s] s_law_pick [] (rCons (rName 0) (rCons (rName 5) rNil))) rNil))) (rSl (rName 2) (roE (rName 6)) roN))) (rSeq (rSet 8 (rLst (rCons (rB1 oNeg (rC (.int 1))) (rCons (rC (.int 61)) (rCons (rC (.bl true)) (rCons (rC (.str "1")) (rCons (rC .non) (rCons (rLst (rCons (rC (.int 1)) rNil)) (rCons (rOp2 oPow (rC (.int 10)) (rC (.int 59))) rNil))))))))) (rSeq (rSet 9 (rLst (rCons (rName 7) (rCons (rName 7) (rCons (rName 7) (rCons (rB1 oTuple (rName 2)) (rCons (rC .non) (rCons rDict0 (rCons (rC (.int 1)) (rCons (rOp2 oRep (rLst (rCons (rTup (rCons (rC (.int 0)) (rCons (rOp2 oMin (rName 1) (rC (.int 1))) (rCons (rC (.int 0)) rNil)))) rNil)) (rC (.int 1001))) rNil)))))))))) (rSeq (rSet 10 (rLst (rCons (rName 8) (rCons (rName 9) (rCons (rLst (rCons (rB1 oNeg (rC (.int 1))) (rCons (rC (.bl true)) (rCons (rC (.bl false)) (rCons (rC (.str "0")) (rCons (rTup rNil) (rCons (rLst (rCons (rC (.int 0)) rNil)) (rCons rDict0 rNil)))))))) rNil))))) (rSeq (rSet 11 (rLst (rCons (rName 1) (rCons (rName 2) (rCons (rName 3) rNil))))) (rSeq (rSet 12 (rC (.int 3))) (rSeq (rFor (riR1 (rCons (rC (.int 2)) rNil)) (gN 13) (rSeq (rSet 6 (rCall [.t, .s] s_law_take [] (rCons (rName 0) (rCons (rC (.int 3)) rNil)))) (rSeq (rSetIx 11 (rName 6) (rCall [.t, .s] s_law_pick [] (rCons (rName 0) (rCons (rOp2 oIx (rName 10) (rName 6)) rNil)))) (rSet 12 (rOp2 oMin (rName 12) (rName 6)))))) (rSeq (rSet 14 (rLend (rAskCall s_law_bad_name (rCall [.s, .s, .s, .s] s_bars_way [] (rCons (rOp2 oIx (rName 11) (rC (.int 0))) (rCons (rOp2 oIx (rName 11) (rC (.int 1))) (rCons (rOp2 oIx (rName 11) (rC (.int 2))) (rCons (rName 4) rNil)))))))) (rRet (rCall [.s, .s] s_law_same [] (rCons (rName 14) (rCons (rTup (rCons (rC (.str "BadValue")) (rCons (rOp2 oIx (rLst (rCons (rC (.str "many")) (rCons (rC (.str "steps")) (rCons (rC (.str "harm")) rNil)))) (rName 12)) rNil))) rNil))))))))))))))) : RS) (endsF [.t, .s, .s, .s, .s] ds R F) (slots0 [.t, .s, .s, .s, .s] ds ++ List.replicate 10 .no)) :
    FnOk P w K mg base (L2.CX P w) 21 f fd ["_law_store_here", "_law_many", "_law_steps_here", "_law_harm", "_law_paper"] (spQ K T [.t, .s, .s, .s, .s] qz) := by
  refine q_fnC (N := N_law_refused) F sc_law_refused rfl (fun A outer s H E g hr hT => ?_) pure
  have hN : N_law_refused.Nodup := sc_law_refused.nd
  have hp := passes_of (X := cxOf (L2.CX P w) P w K mg base N_law_refused "_law_refused" (defScope (top 42)) f fd.code A outer s H E) rfl
  exact (QSs.q0 (qs_cons (q_set (i := 5) hN rfl (by first | exact Or.inl rfl | exact Or.inr rfl) (q_lst (qa_cons (q_tup (qa_cons qi (qa_cons (q_add (qv 1) qi) (qa_cons qi qa_nil)))) (qa_cons (q_tup (qa_cons (qv 1) (qa_cons (qv 1) (qa_cons qi qa_nil)))) (qa_cons (q_tup (qa_cons (qv 1) (qa_cons (q_sub (qv 1) qi) (qa_cons qi qa_nil)))) (qa_cons (q_tup (qa_cons (q_neg qi) (qa_cons qi (qa_cons qi qa_nil)))) (qa_cons (q_tup (qa_cons qi (qa_cons (qv 1) (qa_cons (q_neg qi) qa_nil)))) (qa_cons (q_tup (qa_cons qi (qa_cons (qv 1) qa_nil))) (qa_cons (q_lst (qa_cons qi (qa_cons (qv 1) (qa_cons qi qa_nil)))) qa_nil))))))))) (qs_cons (q_set (i := 5) hN rfl (by first | exact Or.inl rfl | exact Or.inr rfl) (q_add (qv 5) (q_lst (qa_cons (q_tup (qa_cons qi (qa_cons (qv 1) (qa_cons qb qa_nil)))) (qa_cons (q_tup (qa_cons qb (qa_cons (qv 1) (qa_cons qi qa_nil)))) (qa_cons (q_tup (qa_cons qi (qa_cons (q_str1 rfl b_str (qv 1)) (qa_cons qi qa_nil)))) (qa_cons (q_tup (qa_cons qi (qa_cons (qv 1) (qa_cons qi (qa_cons qi qa_nil))))) (qa_cons (q_tup (qa_cons qi (qa_cons (qv 1) (qa_cons qn qa_nil)))) (qa_cons qn (qa_cons qi qa_nil)))))))))) (qs_cons (q_set (i := 6) hN rfl (by first | exact Or.inl rfl | exact Or.inr rfl) (q_call (ms := [.t, .s]) (dd := []) (fnT hT (c__law_take.ok.mono (Nat.le_trans l__law_take (by decide)))) hr rfl c__law_take.mg c__law_take.kp c__law_take.bd .nil (fun _ _ _ => rfl) (qa_cons (qv 0) (qa_cons (q_add (q_len rfl b_len (qv 2)) qi) qa_nil)))) (qs_cons (q_set (i := 7) hN rfl (by first | exact Or.inl rfl | exact Or.inr rfl) (q_add (q_add (q_sl (qv 2) qo_n (qo_e (qv 6))) (q_lst (qa_cons (q_call (ms := [.t, .s]) (dd := []) (fnT hT (c__law_pick.ok.mono (Nat.le_trans l__law_pick (by decide)))) hr rfl c__law_pick.mg c__law_pick.kp c__law_pick.bd .nil (fun _ _ _ => rfl) (qa_cons (qv 0) (qa_cons (qv 5) qa_nil))) qa_nil))) (q_sl (qv 2) (qo_e (qv 6)) qo_n))) (qs_cons (q_set (i := 8) hN rfl (by first | exact Or.inl rfl | exact Or.inr rfl) (q_lst (qa_cons (q_neg qi) (qa_cons qi (qa_cons qb (qa_cons qs (qa_cons qn (qa_cons (q_lst (qa_cons qi qa_nil)) (qa_cons (q_pow qi qi) qa_nil))))))))) (qs_cons (q_set (i := 9) hN rfl (by first | exact Or.inl rfl | exact Or.inr rfl) (q_lst (qa_cons (qv 7) (qa_cons (qv 7) (qa_cons (qv 7) (qa_cons (q_tuple rfl b_tuple (qv 2)) (qa_cons qn (qa_cons q_dict0 (qa_cons qi (qa_cons (q_rep (q_lst (qa_cons (q_tup (qa_cons qi (qa_cons (q_min rfl rfl b_min (qv 1) qi) (qa_cons qi qa_nil)))) qa_nil)) qi) qa_nil)))))))))) (qs_cons (q_set (i := 10) hN rfl (by first | exact Or.inl rfl | exact Or.inr rfl) (q_lst (qa_cons (qv 8) (qa_cons (qv 9) (qa_cons (q_lst (qa_cons (q_neg qi) (qa_cons qb (qa_cons qb (qa_cons qs (qa_cons (q_tup qa_nil) (qa_cons (q_lst (qa_cons qi qa_nil)) (qa_cons q_dict0 qa_nil)))))))) qa_nil))))) (qs_cons (q_set (i := 11) hN rfl (by first | exact Or.inl rfl | exact Or.inr rfl) (q_lst (qa_cons (qv 1) (qa_cons (qv 2) (qa_cons (qv 3) qa_nil))))) (qs_cons (q_set (i := 12) hN rfl (by first | exact Or.inl rfl | exact Or.inr rfl) qi) (qs_cons (q_for hp rfl (qi_range1 rfl b_range (qa_cons qi qa_nil)) (qg_name (i := 13) hN rfl (by first | exact Or.inl rfl | exact Or.inr rfl)) (qs_cons (q_set (i := 6) hN rfl (by first | exact Or.inl rfl | exact Or.inr rfl) (q_call (ms := [.t, .s]) (dd := []) (fnT hT (c__law_take.ok.mono (Nat.le_trans l__law_take (by decide)))) hr rfl c__law_take.mg c__law_take.kp c__law_take.bd .nil (fun _ _ _ => rfl) (qa_cons (qv 0) (qa_cons qi qa_nil)))) (qs_cons (q_setIx 11 (have z := hu_of hr; z) rfl (qv 6) (q_call (ms := [.t, .s]) (dd := []) (fnT hT (c__law_pick.ok.mono (Nat.le_trans l__law_pick (by decide)))) hr rfl c__law_pick.mg c__law_pick.kp c__law_pick.bd .nil (fun _ _ _ => rfl) (qa_cons (qv 0) (qa_cons (q_ix (have z := hu_of hr; z) (qv 10) (qv 6)) qa_nil)))) (qs_one (q_set (i := 12) hN rfl (by first | exact Or.inl rfl | exact Or.inr rfl) (q_min rfl rfl b_min (qv 12) (qv 6))))))) (qs_cons (q_set (i := 14) hN rfl (by first | exact Or.inl rfl | exact Or.inr rfl) (q_lend fun g2 hg2 => have hT := hg2.trans hT; (q_ask (k := 4) (askT hT A__law_bad_name) rfl tb hfc (tbT hT tm) (tuT hT tu) rfl (hr.mono (by decide)) (LamX.lamS_by (by rfl)) (fun _ _ _ _ _ _ _ gl hgl hr => have hT := hgl.trans hT; (q_call (ms := [.s, .s, .s, .s]) (dd := []) (fnT hT (c_bars_way.ok.mono (Nat.le_trans l_bars_way (by decide)))) hr rfl c_bars_way.mg c_bars_way.kp c_bars_way.bd .nil (fun _ _ _ => rfl) (qa_cons (q_ix (have z := hu_of hr; z) (qv 11) qi) (qa_cons (q_ix (have z := hu_of hr; z) (qv 11) qi) (qa_cons (q_ix (have z := hu_of hr; z) (qv 11) qi) (qa_cons (qv 4) qa_nil))))))))) (qs_one (q_ret (q_call (ms := [.s, .s]) (dd := []) (fnT hT (c__law_same.ok.mono (Nat.le_trans l__law_same (by decide)))) hr rfl c__law_same.mg c__law_same.kp c__law_same.bd .nil (fun _ _ _ => rfl) (qa_cons (qv 14) (qa_cons (q_tup (qa_cons qs (qa_cons (q_ix (have z := hu_of hr; z) (q_lst (qa_cons qs (qa_cons qs (qa_cons qs qa_nil)))) (qv 12)) qa_nil))) qa_nil)))))))))))))))))
def N_law_asked : List Str := ["_law_many", "_law_steps_here", "_law_handed", "_law_harms", "_law_paper", "_law_harm", "_law_passed", "_law_told"]
theorem sc_law_asked : FnScope N_law_asked ["_law_many", "_law_steps_here", "_law_handed", "_law_harms", "_law_paper"] (defScope (top 43)) := by refine ⟨?_, ?_, ?_, ?_, ?_, ?_, ?_⟩ <;> first | rfl | decide
theorem fn_law_asked {f : Addr} {fd : FuncData} {qz : QSpec}
    {k__law_copy : Nat} {f__law_copy : Addr} {fd__law_copy : FuncData} {s_law_copy : QSpec} (l__law_copy : k__law_copy ≤ 20) (c__law_copy : Cd P w K mg base T "_law_copy" ["_law_value_here"] k__law_copy [.s] s_law_copy (top 32) f__law_copy fd__law_copy)
    {k_bars_way : Nat} {f_bars_way : Addr} {fd_bars_way : FuncData} {s_bars_way : QSpec} (l_bars_way : k_bars_way ≤ 20) (c_bars_way : Cd P w K mg base T "bars_way" ["many", "steps", "harm", "paper"] k_bars_way [.s, .s, .s, .s] s_bars_way (top 14) f_bars_way fd_bars_way)
    {k__law_same : Nat} {f__law_same : Addr} {fd__law_same : FuncData} {s_law_same : QSpec} (l__law_same : k__law_same ≤ 20) (c__law_same : Cd P w K mg base T "_law_same" ["_law_actual", "_law_due_here"] k__law_same [.s, .s] s_law_same (top 31) f__law_same fd__law_same)
    {k__law_due : Nat} {f__law_due : Addr} {fd__law_due : FuncData} {s_law_due : QSpec} (l__law_due : k__law_due ≤ 20) (c__law_due : Cd P w K mg base T "_law_due" ["_law_many", "_law_steps_here", "_law_paper", "_law_harm"] k__law_due [.s, .s, .s, .s] s_law_due (top 37) f__law_due fd__law_due)
    (F : Fun K "_law_asked" "_law_asked" (top 43) f fd) (pure : ∀ (ds : List D) (R : SV → Prop) (F : Exn → Prop), qz ds R F → ((rSeq (rFor (riL (rName 3)) (gN 5) (rSeq (rSet 6 (rCall [.s] s_law_copy [] (rCons (rName 4) rNil))) (rSeq (rSet 7 (rLst (rCons (rCall [.s, .s, .s, .s] s_bars_way [] (rCons (rName 0) (rCons (rName 2) (rCons (rName 5) (rCons (rName 6) rNil))))) (rCons (rCallK [.s, .s, .s, .s] s_bars_way 0 [3, 2, 1, 0] rNil (rCons (rName 6) (rCons (rName 5) (rCons (rName 2) (rCons (rName 0) rNil))))) rNil)))) (rSeq (rIf (rNot (rB (rCall [.s, .s] s_law_same [] (rCons (rName 7) (rCons (rOp2 oRep (rLst (rCons (rCall [.s, .s, .s, .s] s_law_due [] (rCons (rName 0) (rCons (rName 1) (rCons (rName 4) (rCons (rName 5) rNil))))) rNil)) (rC (.int 2))) rNil))))) (rRet (rC (.bl false))) rNext) (rIf (rNot (rB (rCall [.s, .s] s_law_same [] (rCons (rName 6) (rCons (rName 4) rNil))))) (rRet (rC (.bl false))) rNext))))) (rRet (rCall [.s, .s] s_law_same [] (rCons (rName 2) (rCons (rName 1) rNil))))) : RS) (endsF [.s, .s, .s, .s, .s] ds R F) (slots0 [.s, .s, .s, .s, .s] ds ++ List.replicate 3 .no)) :
    FnOk P w K mg base (L2.CX P w) 21 f fd ["_law_many", "_law_steps_here", "_law_handed", "_law_harms", "_law_paper"] (spQ K T [.s, .s, .s, .s, .s] qz) := by
  refine q_fn (N := N_law_asked) F sc_law_asked rfl (fun cdv A outer s H E g hr hT => ?_) pure
  have hN : N_law_asked.Nodup := sc_law_asked.nd
  have hp := passes_of (X := cxOf (L2.CX P w) P w K mg base N_law_asked "_law_asked" (defScope (top 43)) f cdv A outer s H E) rfl
  exact (qs_cons (q_for hp rfl (qi_list (qv 3)) (qg_name (i := 5) hN rfl (by first | exact Or.inl rfl | exact Or.inr rfl)) (qs_cons (q_set (i := 6) hN rfl (by first | exact Or.inl rfl | exact Or.inr rfl) (q_call (ms := [.s]) (dd := []) (fnT hT (c__law_copy.ok.mono (Nat.le_trans l__law_copy (by decide)))) hr rfl c__law_copy.mg c__law_copy.kp c__law_copy.bd .nil (fun _ _ _ => rfl) (qa_cons (qv 4) qa_nil))) (qs_cons (q_set (i := 7) hN rfl (by first | exact Or.inl rfl | exact Or.inr rfl) (q_lst (qa_cons (q_call (ms := [.s, .s, .s, .s]) (dd := []) (fnT hT (c_bars_way.ok.mono (Nat.le_trans l_bars_way (by decide)))) hr rfl c_bars_way.mg c_bars_way.kp c_bars_way.bd .nil (fun _ _ _ => rfl) (qa_cons (qv 0) (qa_cons (qv 2) (qa_cons (qv 5) (qa_cons (qv 6) qa_nil))))) (qa_cons (q_callK0 (fnT hT (c_bars_way.ok.mono (Nat.le_trans l_bars_way (by decide)))) hr rfl c_bars_way.mg c_bars_way.kp (kwB (ks := ["paper", "harm", "steps", "many"]) (pm := [3, 2, 1, 0]) 0 (by rfl) c_bars_way.fn fun _ _ _ _ _ _ us ws h1 h2 => match us, ws, h1, h2 with | [], [_, _, _, _], _, _ => rfl) (qk_cons (qv 6) (qk_cons (qv 5) (qk_cons (qv 2) (qk_cons (qv 0) qk_nil))))) qa_nil)))) (qs_cons (q_if (qt_not (q_val (q_call (ms := [.s, .s]) (dd := []) (fnT hT (c__law_same.ok.mono (Nat.le_trans l__law_same (by decide)))) hr rfl c__law_same.mg c__law_same.kp c__law_same.bd .nil (fun _ _ _ => rfl) (qa_cons (qv 7) (qa_cons (q_rep (q_lst (qa_cons (q_call (ms := [.s, .s, .s, .s]) (dd := []) (fnT hT (c__law_due.ok.mono (Nat.le_trans l__law_due (by decide)))) hr rfl c__law_due.mg c__law_due.kp c__law_due.bd .nil (fun _ _ _ => rfl) (qa_cons (qv 0) (qa_cons (qv 1) (qa_cons (qv 4) (qa_cons (qv 5) qa_nil))))) qa_nil)) qi) qa_nil))))) (qs_one (q_ret qb)) qs_nil) (qs_one (q_if (qt_not (q_val (q_call (ms := [.s, .s]) (dd := []) (fnT hT (c__law_same.ok.mono (Nat.le_trans l__law_same (by decide)))) hr rfl c__law_same.mg c__law_same.kp c__law_same.bd .nil (fun _ _ _ => rfl) (qa_cons (qv 6) (qa_cons (qv 4) qa_nil))))) (qs_one (q_ret qb)) qs_nil)))))) (qs_one (q_ret (q_call (ms := [.s, .s]) (dd := []) (fnT hT (c__law_same.ok.mono (Nat.le_trans l__law_same (by decide)))) hr rfl c__law_same.mg c__law_same.kp c__law_same.bd .nil (fun _ _ _ => rfl) (qa_cons (qv 2) (qa_cons (qv 1) qa_nil))))))
def N_law : List Str := ["_law_script", "_law_store_here", "_law_many", "_law_wide", "_law_steps_here", "_law_handed", "_law_paper", "_law_low", "_law_k", "_law_row", "_law_harms", "_law_step"]
theorem sc_law : FnScope N_law ["_law_script"] (defScope (top 44)) := by refine ⟨?_, ?_, ?_, ?_, ?_, ?_, ?_⟩ <;> first | rfl | decide
theorem fn_law {f : Addr} {fd : FuncData} {qz : QSpec}
    {k__law_store : Nat} {f__law_store : Addr} {fd__law_store : FuncData} {s_law_store : QSpec} (l__law_store : k__law_store ≤ 21) (c__law_store : Cd P w K mg base T "_law_store" ["_law_script"] k__law_store [.b] s_law_store (top 16) f__law_store fd__law_store)
    {k__law_size : Nat} {f__law_size : Addr} {fd__law_size : FuncData} {s_law_size : QSpec} (l__law_size : k__law_size ≤ 21) (c__law_size : Cd P w K mg base T "_law_size" ["_law_store_here", "_law_most"] k__law_size [.t, .s] s_law_size (top 20) f__law_size fd__law_size)
    {k__law_odds : Nat} {f__law_odds : Addr} {fd__law_odds : FuncData} {s_law_odds : QSpec} (l__law_odds : k__law_odds ≤ 21) (c__law_odds : Cd P w K mg base T "_law_odds" ["_law_store_here", "_law_parts"] k__law_odds [.t, .s] s_law_odds (top 23) f__law_odds fd__law_odds)
    {k__law_take : Nat} {f__law_take : Addr} {fd__law_take : FuncData} {s_law_take : QSpec} (l__law_take : k__law_take ≤ 21) (c__law_take : Cd P w K mg base T "_law_take" ["_law_store_here", "_law_many"] k__law_take [.t, .s] s_law_take (top 19) f__law_take fd__law_take)
    {k__law_steps : Nat} {f__law_steps : Addr} {fd__law_steps : FuncData} {s_law_steps : QSpec} (l__law_steps : k__law_steps ≤ 21) (c__law_steps : Cd P w K mg base T "_law_steps" ["_law_store_here", "_law_many"] k__law_steps [.t, .s] s_law_steps (top 33) f__law_steps fd__law_steps)
    {k__law_shuffled : Nat} {f__law_shuffled : Addr} {fd__law_shuffled : FuncData} {s_law_shuffled : QSpec} (l__law_shuffled : k__law_shuffled ≤ 21) (c__law_shuffled : Cd P w K mg base T "_law_shuffled" ["_law_store_here", "_law_row"] k__law_shuffled [.t, .s] s_law_shuffled (top 25) f__law_shuffled fd__law_shuffled)
    {k__law_many_steps : Nat} {f__law_many_steps : Addr} {fd__law_many_steps : FuncData} {s_law_many_steps : QSpec} (l__law_many_steps : k__law_many_steps ≤ 21) (c__law_many_steps : Cd P w K mg base T "_law_many_steps" ["_law_store_here", "_law_many"] k__law_many_steps [.t, .s] s_law_many_steps (top 34) f__law_many_steps fd__law_many_steps)
    {k__law_least_harms : Nat} {f__law_least_harms : Addr} {fd__law_least_harms : FuncData} {s_law_least_harms : QSpec} (l__law_least_harms : k__law_least_harms ≤ 21) (c__law_least_harms : Cd P w K mg base T "_law_least_harms" ["_law_many", "_law_steps_here"] k__law_least_harms [.s, .s] s_law_least_harms (top 35) f__law_least_harms fd__law_least_harms)
    {k__law_bent : Nat} {f__law_bent : Addr} {fd__law_bent : FuncData} {s_law_bent : QSpec} (l__law_bent : k__law_bent ≤ 21) (c__law_bent : Cd P w K mg base T "_law_bent" ["_law_store_here", "_law_paper"] k__law_bent [.t, .s] s_law_bent (top 38) f__law_bent fd__law_bent)
    {k__law_broken : Nat} {f__law_broken : Addr} {fd__law_broken : FuncData} {s_law_broken : QSpec} (l__law_broken : k__law_broken ≤ 21) (c__law_broken : Cd P w K mg base T "_law_broken" ["_law_store_here", "_law_paper"] k__law_broken [.t, .s] s_law_broken (top 39) f__law_broken fd__law_broken)
    {k__law_some : Nat} {f__law_some : Addr} {fd__law_some : FuncData} {s_law_some : QSpec} (l__law_some : k__law_some ≤ 21) (c__law_some : Cd P w K mg base T "_law_some" ["_law_store_here", "_law_row", "_law_many"] k__law_some [.t, .s, .s] s_law_some (top 24) f__law_some fd__law_some)
    {k__law_asked : Nat} {f__law_asked : Addr} {fd__law_asked : FuncData} {s_law_asked : QSpec} (l__law_asked : k__law_asked ≤ 21) (c__law_asked : Cd P w K mg base T "_law_asked" ["_law_many", "_law_steps_here", "_law_handed", "_law_harms", "_law_paper"] k__law_asked [.s, .s, .s, .s, .s] s_law_asked (top 43) f__law_asked fd__law_asked)
    {k__law_next_step : Nat} {f__law_next_step : Addr} {fd__law_next_step : FuncData} {s_law_next_step : QSpec} (l__law_next_step : k__law_next_step ≤ 21) (c__law_next_step : Cd P w K mg base T "_law_next_step" ["_law_store_here", "_law_many", "_law_paper"] k__law_next_step [.t, .s, .s] s_law_next_step (top 40) f__law_next_step fd__law_next_step)
    {k__law_refused : Nat} {f__law_refused : Addr} {fd__law_refused : FuncData} {s_law_refused : QSpec} (l__law_refused : k__law_refused ≤ 21) (c__law_refused : Cd P w K mg base T "_law_refused" ["_law_store_here", "_law_many", "_law_steps_here", "_law_harm", "_law_paper"] k__law_refused [.t, .s, .s, .s, .s] s_law_refused (top 42) f__law_refused fd__law_refused)
    {k__law_copy : Nat} {f__law_copy : Addr} {fd__law_copy : FuncData} {s_law_copy : QSpec} (l__law_copy : k__law_copy ≤ 21) (c__law_copy : Cd P w K mg base T "_law_copy" ["_law_value_here"] k__law_copy [.s] s_law_copy (top 32) f__law_copy fd__law_copy)
    (b_int : mg "int" = none)
    (b_list : mg "list" = none)
    (b_range : mg "range" = none)
    (b_max : mg "max" = none)
    (F : Fun K "law" "law" (top 44) f fd) (pure : ∀ (ds : List D) (R : SV → Prop) (F : Exn → Prop), qz ds R F → ((rSeq (rSet 1 (rCall [.b] s_law_store [] (rCons (rName 0) rNil))) (rSeq (rSet 2 (rCall [.t, .s] s_law_size [] (rCons (rName 1) (rCons (rC (.int 60)) rNil)))) (rSeq (rSet 3 (rCall [.t, .s] s_law_odds [] (rCons (rName 1) (rCons (rC (.int 16)) rNil)))) (rSeq (rIf (rB (rName 3)) (rSet 2 (rOp2 oAdd (rC (.int 20)) (rCall [.t, .s] s_law_take [] (rCons (rName 1) (rCons (rC (.int 41)) rNil))))) rNext) (rSeq (rSet 4 (rLc [11] (riL (rCall [.t, .s] s_law_steps [] (rCons (rName 1) (rCons (rName 2) rNil)))) (gN 11) rYes (rTup (rCons (rOp2 oIx (rName 11) (rC (.int 0))) (rCons (rOp2 oIx (rName 11) (rC (.int 1))) (rCons (rOp2 oMod (rB1 oInt1 (rOp2 oIx (rName 11) (rC (.int 2)))) (rOp2 oPow (rC (.int 10)) (rC (.int 57)))) rNil)))))) (rSeq (rIf (rB (rName 3)) (rSet 4 (rCall [.t, .s] s_law_shuffled [] (rCons (rName 1) (rCons (rOp2 oAdd (rName 4) (rCall [.t, .s] s_law_many_steps [] (rCons (rName 1) (rCons (rName 2) rNil)))) rNil)))) rNext) (rSeq (rSet 5 (rB1 oList (rName 4))) (rSeq (rSet 6 (rCall [.s, .s] s_law_least_harms [] (rCons (rName 2) (rCons (rName 4) rNil)))) (rSeq (rSet 7 (rC (.int 0))) (rSeq (rIf (rB (rOp2 (oIs true) (rOp2 oIx (rName 6) (rName 2)) (rC .non))) (rSet 7 (rOp2 oIx (rName 6) (rName 2))) rNext) (rSeq (rFor (riR1 (rCons (rCall [.t, .s] s_law_take [] (rCons (rName 1) (rCons (rC (.int 3)) rNil))) rNil)) (gN 8) (rSet 6 (rCall [.t, .s] s_law_bent [] (rCons (rName 1) (rCons (rName 6) rNil))))) (rSeq (rIf (rB (rCall [.t, .s] s_law_odds [] (rCons (rName 1) (rCons (rC (.int 3)) rNil)))) (rSet 6 (rCall [.t, .s] s_law_broken [] (rCons (rName 1) (rCons (rName 6) rNil)))) rNext) (rSeq (rSet 9 (rLst (rCons (rC (.int 0)) (rCons (rName 7) (rCons (rName 7) (rCons (rOp2 oAdd (rName 7) (rC (.int 1))) (rCons (rOp2 oMax (rC (.int 0)) (rOp2 oSub (rName 7) (rC (.int 1)))) (rCons (rOp2 oPow (rC (.int 10)) (rC (.int 59))) rNil)))))))) (rSeq (rSet 10 (rOp2 oAdd (rOp2 oAdd (rLst (rCons (rC .non) rNil)) (rCall [.t, .s, .s] s_law_some [] (rCons (rName 1) (rCons (rName 9) (rCons (rC (.int 2)) rNil))))) (rLst (rCons (rC .non) rNil)))) (rSeq (rIf (rNot (rB (rLend (rCall [.s, .s, .s, .s, .s] s_law_asked [] (rCons (rName 2) (rCons (rName 4) (rCons (rName 5) (rCons (rName 10) (rCons (rName 6) rNil))))))))) (rRet (rC (.bl false))) rNext) (rSeq (rIf (rB (rOp2 oGt (rName 2) (rC (.int 0)))) (rSeq (rSet 11 (rCall [.t, .s, .s] s_law_next_step [] (rCons (rName 1) (rCons (rName 2) (rCons (rName 6) rNil))))) (rSeq (rDrop (rMS2 5 moAppend (rCons (rName 11) rNil))) (rSeq (rSet 4 (rOp2 oAdd (rName 4) (rLst (rCons (rName 11) rNil)))) (rIf (rNot (rB (rLend (rCall [.s, .s, .s, .s, .s] s_law_asked [] (rCons (rName 2) (rCons (rName 4) (rCons (rName 5) (rCons (rName 10) (rCons (rName 6) rNil))))))))) (rRet (rC (.bl false))) rNext)))) rNext) (rRet (rCall [.t, .s, .s, .s, .s] s_law_refused [] (rCons (rName 1) (rCons (rName 2) (rCons (rName 4) (rCons (rOp2 oIx (rName 10) (rC (.int 1))) (rCons (rCall [.s] s_law_copy [] (rCons (rName 6) rNil)) rNil))))))))))))))))))))))) : RS) (endsF [.s] ds R F) (slots0 [.s] ds ++ List.replicate 11 .no)) :
    FnOk P w K mg base (L2.CX P w) 22 f fd ["_law_script"] (spL K T qz) := by
  refine q_fnL (N := N_law) F sc_law (fun A outer s H E g hr hT => ?_) pure
  have hN : N_law.Nodup := sc_law.nd
  have hp := passes_of (X := cxOf (L2.CX P w) P w K mg base N_law "law" (defScope (top 44)) f fd.code A outer s H E) rfl
  exact (QSs.q0 (qs_cons (q_set (i := 1) hN rfl (by first | exact Or.inl rfl | exact Or.inr rfl) (q_call (ms := [.b]) (dd := []) (fnT hT (c__law_store.ok.mono (Nat.le_trans l__law_store (by decide)))) hr rfl c__law_store.mg c__law_store.kp c__law_store.bd .nil (fun _ _ _ => rfl) (qa_cons (qv 0) qa_nil))) (qs_cons (q_set (i := 2) hN rfl (by first | exact Or.inl rfl | exact Or.inr rfl) (q_call (ms := [.t, .s]) (dd := []) (fnT hT (c__law_size.ok.mono (Nat.le_trans l__law_size (by decide)))) hr rfl c__law_size.mg c__law_size.kp c__law_size.bd .nil (fun _ _ _ => rfl) (qa_cons (qv 1) (qa_cons qi qa_nil)))) (qs_cons (q_set (i := 3) hN rfl (by first | exact Or.inl rfl | exact Or.inr rfl) (q_call (ms := [.t, .s]) (dd := []) (fnT hT (c__law_odds.ok.mono (Nat.le_trans l__law_odds (by decide)))) hr rfl c__law_odds.mg c__law_odds.kp c__law_odds.bd .nil (fun _ _ _ => rfl) (qa_cons (qv 1) (qa_cons qi qa_nil)))) (qs_cons (q_if (q_val (qv 3)) (qs_one (q_set (i := 2) hN rfl (by first | exact Or.inl rfl | exact Or.inr rfl) (q_add qi (q_call (ms := [.t, .s]) (dd := []) (fnT hT (c__law_take.ok.mono (Nat.le_trans l__law_take (by decide)))) hr rfl c__law_take.mg c__law_take.kp c__law_take.bd .nil (fun _ _ _ => rfl) (qa_cons (qv 1) (qa_cons qi qa_nil)))))) qs_nil) (qs_cons (q_setLc (i := 4) rfl hN rfl rfl (own := [("_law_step", 11)]) (qi_list (q_call (ms := [.t, .s]) (dd := []) (fnT hT (c__law_steps.ok.mono (Nat.le_trans l__law_steps (by decide)))) hr rfl c__law_steps.mg c__law_steps.kp c__law_steps.bd .nil (fun _ _ _ => rfl) (qa_cons (qv 1) (qa_cons (qv 2) qa_nil)))) (blkOk_by (by rfl)) (by decide) (fun _ _ _ _ _ => (qg_name (i := 11) hN rfl (by first | exact Or.inl rfl | exact Or.inr rfl) (.inr rfl))) (fun _ _ _ _ _ => qts_nil) (fun _ _ _ _ _ => (q_tup (qa_cons (q_ix (have z := hu_of hr; z) (qv 11) qi) (qa_cons (q_ix (have z := hu_of hr; z) (qv 11) qi) (qa_cons (q_mod (q_int1 rfl b_int (q_ix (have z := hu_of hr; z) (qv 11) qi)) (q_pow qi qi)) qa_nil)))))) (qs_cons (q_if (q_val (qv 3)) (qs_one (q_set (i := 4) hN rfl (by first | exact Or.inl rfl | exact Or.inr rfl) (q_call (ms := [.t, .s]) (dd := []) (fnT hT (c__law_shuffled.ok.mono (Nat.le_trans l__law_shuffled (by decide)))) hr rfl c__law_shuffled.mg c__law_shuffled.kp c__law_shuffled.bd .nil (fun _ _ _ => rfl) (qa_cons (qv 1) (qa_cons (q_add (qv 4) (q_call (ms := [.t, .s]) (dd := []) (fnT hT (c__law_many_steps.ok.mono (Nat.le_trans l__law_many_steps (by decide)))) hr rfl c__law_many_steps.mg c__law_many_steps.kp c__law_many_steps.bd .nil (fun _ _ _ => rfl) (qa_cons (qv 1) (qa_cons (qv 2) qa_nil)))) qa_nil))))) qs_nil) (qs_cons (q_set (i := 5) hN rfl (by first | exact Or.inl rfl | exact Or.inr rfl) (q_list rfl b_list (qv 4))) (qs_cons (q_set (i := 6) hN rfl (by first | exact Or.inl rfl | exact Or.inr rfl) (q_call (ms := [.s, .s]) (dd := []) (fnT hT (c__law_least_harms.ok.mono (Nat.le_trans l__law_least_harms (by decide)))) hr rfl c__law_least_harms.mg c__law_least_harms.kp c__law_least_harms.bd .nil (fun _ _ _ => rfl) (qa_cons (qv 2) (qa_cons (qv 4) qa_nil)))) (qs_cons (q_set (i := 7) hN rfl (by first | exact Or.inl rfl | exact Or.inr rfl) qi) (qs_cons (q_if (q_cmpT op_isT rd_isN (q_ix (have z := hu_of hr; z) (qv 6) (qv 2)) qn (nomark _)) (qs_one (q_set (i := 7) hN rfl (by first | exact Or.inl rfl | exact Or.inr rfl) (q_ix (have z := hu_of hr; z) (qv 6) (qv 2)))) qs_nil) (qs_cons (q_for hp rfl (qi_range1 rfl b_range (qa_cons (q_call (ms := [.t, .s]) (dd := []) (fnT hT (c__law_take.ok.mono (Nat.le_trans l__law_take (by decide)))) hr rfl c__law_take.mg c__law_take.kp c__law_take.bd .nil (fun _ _ _ => rfl) (qa_cons (qv 1) (qa_cons qi qa_nil))) qa_nil)) (qg_name (i := 8) hN rfl (by first | exact Or.inl rfl | exact Or.inr rfl)) (qs_one (q_set (i := 6) hN rfl (by first | exact Or.inl rfl | exact Or.inr rfl) (q_call (ms := [.t, .s]) (dd := []) (fnT hT (c__law_bent.ok.mono (Nat.le_trans l__law_bent (by decide)))) hr rfl c__law_bent.mg c__law_bent.kp c__law_bent.bd .nil (fun _ _ _ => rfl) (qa_cons (qv 1) (qa_cons (qv 6) qa_nil)))))) (qs_cons (q_if (q_val (q_call (ms := [.t, .s]) (dd := []) (fnT hT (c__law_odds.ok.mono (Nat.le_trans l__law_odds (by decide)))) hr rfl c__law_odds.mg c__law_odds.kp c__law_odds.bd .nil (fun _ _ _ => rfl) (qa_cons (qv 1) (qa_cons qi qa_nil)))) (qs_one (q_set (i := 6) hN rfl (by first | exact Or.inl rfl | exact Or.inr rfl) (q_call (ms := [.t, .s]) (dd := []) (fnT hT (c__law_broken.ok.mono (Nat.le_trans l__law_broken (by decide)))) hr rfl c__law_broken.mg c__law_broken.kp c__law_broken.bd .nil (fun _ _ _ => rfl) (qa_cons (qv 1) (qa_cons (qv 6) qa_nil))))) qs_nil) (qs_cons (q_set (i := 9) hN rfl (by first | exact Or.inl rfl | exact Or.inr rfl) (q_lst (qa_cons qi (qa_cons (qv 7) (qa_cons (qv 7) (qa_cons (q_add (qv 7) qi) (qa_cons (q_max rfl rfl b_max qi (q_sub (qv 7) qi)) (qa_cons (q_pow qi qi) qa_nil)))))))) (qs_cons (q_set (i := 10) hN rfl (by first | exact Or.inl rfl | exact Or.inr rfl) (q_add (q_add (q_lst (qa_cons qn qa_nil)) (q_call (ms := [.t, .s, .s]) (dd := []) (fnT hT (c__law_some.ok.mono (Nat.le_trans l__law_some (by decide)))) hr rfl c__law_some.mg c__law_some.kp c__law_some.bd .nil (fun _ _ _ => rfl) (qa_cons (qv 1) (qa_cons (qv 9) (qa_cons qi qa_nil))))) (q_lst (qa_cons qn qa_nil)))) (qs_cons (q_if (qt_not (q_val (q_lend fun g2 hg2 => have hT := hg2.trans hT; (q_call (ms := [.s, .s, .s, .s, .s]) (dd := []) (fnT hT (c__law_asked.ok.mono (Nat.le_trans l__law_asked (by decide)))) hr rfl c__law_asked.mg c__law_asked.kp c__law_asked.bd .nil (fun _ _ _ => rfl) (qa_cons (qv 2) (qa_cons (qv 4) (qa_cons (qv 5) (qa_cons (qv 10) (qa_cons (qv 6) qa_nil))))))))) (qs_one (q_ret qb)) qs_nil) (qs_cons (q_if (q_cmpT op_gt rd_cmpI (qv 2) qi (nomark _)) (qs_cons (q_set (i := 11) hN rfl (by first | exact Or.inl rfl | exact Or.inr rfl) (q_call (ms := [.t, .s, .s]) (dd := []) (fnT hT (c__law_next_step.ok.mono (Nat.le_trans l__law_next_step (by decide)))) hr rfl c__law_next_step.mg c__law_next_step.kp c__law_next_step.bd .nil (fun _ _ _ => rfl) (qa_cons (qv 1) (qa_cons (qv 2) (qa_cons (qv 6) qa_nil))))) (qs_cons (q_expr (q_append 5 rfl (qv 11))) (qs_cons (q_set (i := 4) hN rfl (by first | exact Or.inl rfl | exact Or.inr rfl) (q_add (qv 4) (q_lst (qa_cons (qv 11) qa_nil)))) (qs_one (q_if (qt_not (q_val (q_lend fun g2 hg2 => have hT := hg2.trans hT; (q_call (ms := [.s, .s, .s, .s, .s]) (dd := []) (fnT hT (c__law_asked.ok.mono (Nat.le_trans l__law_asked (by decide)))) hr rfl c__law_asked.mg c__law_asked.kp c__law_asked.bd .nil (fun _ _ _ => rfl) (qa_cons (qv 2) (qa_cons (qv 4) (qa_cons (qv 5) (qa_cons (qv 10) (qa_cons (qv 6) qa_nil))))))))) (qs_one (q_ret qb)) qs_nil))))) qs_nil) (qs_one (q_ret (q_call (ms := [.t, .s, .s, .s, .s]) (dd := []) (fnT hT (c__law_refused.ok.mono (Nat.le_trans l__law_refused (by decide)))) hr rfl c__law_refused.mg c__law_refused.kp c__law_refused.bd .nil (fun _ _ _ => rfl) (qa_cons (qv 1) (qa_cons (qv 2) (qa_cons (qv 4) (qa_cons (q_ix (have z := hu_of hr; z) (qv 10) qi) (qa_cons (q_call (ms := [.s]) (dd := []) (fnT hT (c__law_copy.ok.mono (Nat.le_trans l__law_copy (by decide)))) hr rfl c__law_copy.mg c__law_copy.kp c__law_copy.bd .nil (fun _ _ _ => rfl) (qa_cons (qv 6) qa_nil)) qa_nil)))))))))))))))))))))))))
end
end Z
namespace Z
open PySem PySem.Spec PyProof.Rows L2 Q
set_option maxHeartbeats 0
def hd0 : He.DefD := ⟨("plain_count", none), "plain_count", "plain_count", defArgs (top 10), defBody (top 10), defScope (top 10), [], []⟩
def hd1 : He.DefD := ⟨("good_step", none), "good_step", "good_step", defArgs (top 11), defBody (top 11), defScope (top 11), [], []⟩
def hd2 : He.DefD := ⟨("check_graph", none), "check_graph", "check_graph", defArgs (top 12), defBody (top 12), defScope (top 12), [], []⟩
def hd3 : He.DefD := ⟨("step_kept", none), "step_kept", "step_kept", defArgs (top 13), defBody (top 13), defScope (top 13), [], []⟩
def hd4 : He.DefD := ⟨("bars_way", none), "bars_way", "bars_way", defArgs (top 14), defBody (top 14), defScope (top 14), [], []⟩
def hd5 : He.DefD := ⟨("_law_store", none), "_law_store", "_law_store", defArgs (top 16), defBody (top 16), defScope (top 16), [], []⟩
def hd6 : He.DefD := ⟨("_law_load", none), "_law_load", "_law_load", defArgs (top 17), defBody (top 17), defScope (top 17), [], []⟩
def hd7 : He.DefD := ⟨("_law_mix", none), "_law_mix", "_law_mix", defArgs (top 18), defBody (top 18), defScope (top 18), [], []⟩
def hd8 : He.DefD := ⟨("_law_take", none), "_law_take", "_law_take", defArgs (top 19), defBody (top 19), defScope (top 19), [], []⟩
def hd9 : He.DefD := ⟨("_law_size", none), "_law_size", "_law_size", defArgs (top 20), defBody (top 20), defScope (top 20), [], []⟩
def hd10 : He.DefD := ⟨("_law_large", none), "_law_large", "_law_large", defArgs (top 21), defBody (top 21), defScope (top 21), [], []⟩
def hd11 : He.DefD := ⟨("_law_pick", none), "_law_pick", "_law_pick", defArgs (top 22), defBody (top 22), defScope (top 22), [], []⟩
def hd12 : He.DefD := ⟨("_law_odds", none), "_law_odds", "_law_odds", defArgs (top 23), defBody (top 23), defScope (top 23), [], []⟩
def hd13 : He.DefD := ⟨("_law_some", none), "_law_some", "_law_some", defArgs (top 24), defBody (top 24), defScope (top 24), [], []⟩
def hd14 : He.DefD := ⟨("_law_shuffled", none), "_law_shuffled", "_law_shuffled", defArgs (top 25), defBody (top 25), defScope (top 25), [], []⟩
def hd15 : He.DefD := ⟨("_law_chars", none), "_law_chars", "_law_chars", defArgs (top 26), defBody (top 26), defScope (top 26), [], []⟩
def hd16 : He.DefD := ⟨("_law_text", none), "_law_text", "_law_text", defArgs (top 27), defBody (top 27), defScope (top 27), [], []⟩
def hd17 : He.DefD := ⟨("_law_atom", none), "_law_atom", "_law_atom", defArgs (top 28), defBody (top 28), defScope (top 28), [], []⟩
def hd18 : He.DefD := ⟨("_law_value", none), "_law_value", "_law_value", defArgs (top 29), defBody (top 29), defScope (top 29), [], []⟩
def hd19 : He.DefD := ⟨("_law_is_int", none), "_law_is_int", "_law_is_int", defArgs (top 30), defBody (top 30), defScope (top 30), [], []⟩
def hd20 : He.DefD := ⟨("_law_same", none), "_law_same", "_law_same", defArgs (top 31), defBody (top 31), defScope (top 31), [], []⟩
def hd21 : He.DefD := ⟨("_law_copy", none), "_law_copy", "_law_copy", defArgs (top 32), defBody (top 32), defScope (top 32), [], []⟩
def hd22 : He.DefD := ⟨("_law_steps", none), "_law_steps", "_law_steps", defArgs (top 33), defBody (top 33), defScope (top 33), [], []⟩
def hd23 : He.DefD := ⟨("_law_many_steps", none), "_law_many_steps", "_law_many_steps", defArgs (top 34), defBody (top 34), defScope (top 34), [], []⟩
def hd24 : He.DefD := ⟨("_law_least_harms", none), "_law_least_harms", "_law_least_harms", defArgs (top 35), defBody (top 35), defScope (top 35), [], []⟩
def hd25 : He.DefD := ⟨("_law_closed", none), "_law_closed", "_law_closed", defArgs (top 36), defBody (top 36), defScope (top 36), [], []⟩
def hd26 : He.DefD := ⟨("_law_due", none), "_law_due", "_law_due", defArgs (top 37), defBody (top 37), defScope (top 37), [], []⟩
def hd27 : He.DefD := ⟨("_law_bent", none), "_law_bent", "_law_bent", defArgs (top 38), defBody (top 38), defScope (top 38), [], []⟩
def hd28 : He.DefD := ⟨("_law_broken", none), "_law_broken", "_law_broken", defArgs (top 39), defBody (top 39), defScope (top 39), [], []⟩
def hd29 : He.DefD := ⟨("_law_next_step", none), "_law_next_step", "_law_next_step", defArgs (top 40), defBody (top 40), defScope (top 40), [], []⟩
def hd30 : He.DefD := ⟨("_law_bad_name", none), "_law_bad_name", "_law_bad_name", defArgs (top 41), defBody (top 41), defScope (top 41), [], []⟩
def hd31 : He.DefD := ⟨("_law_refused", none), "_law_refused", "_law_refused", defArgs (top 42), defBody (top 42), defScope (top 42), [], []⟩
def hd32 : He.DefD := ⟨("_law_asked", none), "_law_asked", "_law_asked", defArgs (top 43), defBody (top 43), defScope (top 43), [], []⟩
def hd33 : He.DefD := ⟨("law", none), "law", "law", defArgs (top 44), defBody (top 44), defScope (top 44), [], []⟩
def hfn : List He.DefD := [hd0, hd1, hd2, hd3, hd4, hd5, hd6, hd7, hd8, hd9, hd10, hd11, hd12, hd13, hd14, hd15, hd16, hd17, hd18, hd19, hd20, hd21, hd22, hd23, hd24, hd25, hd26, hd27, hd28, hd29, hd30, hd31, hd32, hd33]
def ini0 : IniD := ⟨"BadValue", inClass (top 2) 0⟩
def hini : List IniD := [ini0]
def hfa0 : List He.Fa := [.glo "RoomError", .glo "BadValue", .glo "BadText", .glo "Unknown", .glo "Taken", .glo "Clash", .glo "Lacking", .glo "Unfit", .glo "plain_count", .glo "good_step", .glo "check_graph", .glo "step_kept", .glo "bars_way", .glo "_law_store", .glo "_law_load", .glo "_law_mix", .glo "_law_take", .glo "_law_size", .glo "_law_large", .glo "_law_pick", .glo "_law_odds", .glo "_law_some", .glo "_law_shuffled", .glo "_law_chars", .glo "_law_text", .glo "_law_atom", .glo "_law_value", .glo "_law_is_int", .glo "_law_same", .glo "_law_copy"]
def hfa1 : List He.Fa := [.glo "_law_steps", .glo "_law_many_steps", .glo "_law_least_harms", .glo "_law_closed", .glo "_law_due", .glo "_law_bent", .glo "_law_broken", .glo "_law_next_step", .glo "_law_bad_name", .glo "_law_refused", .glo "_law_asked", .glo "law", .free "len", .free "isinstance", .free "range", .free "list", .free "int", .free "all", .free "min", .free "max", .free "tuple", .free "str", .free "dict", .free "bool", .free "super", .free "ValueError"]
def hfa : List He.Fa := hfa0 ++ hfa1
def hflds : List Str := ["argument"]
def hcs : List EC := [.bv, .un, .tk, .cl, .lk, .uf, .bt, .rm, .ve]
def htf : List He.Defn := [("_law_refused", none)]
def hex (K : PySem.W.Frag) : Bool := errsB hflds hcs K
def nm0 : List PySem.Str := ["RoomError", "BadValue", "BadText", "Unknown", "Taken", "Clash", "Lacking", "Unfit", "plain_count", "good_step", "check_graph", "step_kept", "bars_way", "_law_store", "_law_load", "_law_mix", "_law_take", "_law_size", "_law_large", "_law_pick", "_law_odds", "_law_some", "_law_shuffled", "_law_chars", "_law_text", "_law_atom", "_law_value", "_law_is_int", "_law_same", "_law_copy"]
def nm1 : List PySem.Str := ["_law_steps", "_law_many_steps", "_law_least_harms", "_law_closed", "_law_due", "_law_bent", "_law_broken", "_law_next_step", "_law_bad_name", "_law_refused", "_law_asked"]
def hnames : List PySem.Str := nm0 ++ nm1
abbrev RRow : PySem.W.OpenRow := PySem.W.OpenLaw.row PySem.Challenge.rw_typeformes_k27_bars_way_conditions
def hfile : Str := PySem.Challenge.pw_typeformes_k27_bars_way_conditions.main.file
abbrev hk : PySem.W.Hook := hookY 5 hfa hfn hini hfile htf hex
def hob (s : PySem.W.SharedT) : AlY := obsY 5 hfa hfn hini hfile htf hex (HandSHeadRun.getT s)
theorem hob_eq (s : PySem.W.SharedT) : hob s = hk.obs s.abs := obsY_eq (HandSHeadRun.getT_eq s)
theorem hrun (w : World) : HandSHeadRun.RunEq RRow (PySem.W.view RRow.prog [44]) hk hob 8000 hnames w := by
  intro os
  kernel_rfl
end Z
namespace Z
open PySem PySem.Spec PyProof.Rows L2 Q He
set_option maxHeartbeats 0
abbrev PP : Program := PySem.Challenge.pw_typeformes_k27_bars_way_conditions
def TT (K : PySem.W.Frag) : TBs := ⟨[((He.cT K ("_law_refused", none)).2, ("_law_refused" ++ ".<locals>." ++ "<lambda>" : Str))], eaOf K⟩
section
variable {w : World} {K : PySem.W.Frag} {mg : Str → Option Value} {h base : Heap}
theorem fa_of {x : He.Fa} (Y : SaysY hfa hfn hini hfile htf hex h K) (i : Nat) (e : hfa[i]? = some x := by rfl) : x.ok K = true := Y.d.fact i e
theorem exc_BadValue (Y : SaysY hfa hfn hini hfile htf hex h K) (KX : K.In base) (G : base.Ns mainGlobals mg) (X1 : ErrsF hflds hcs K) : Exc1 PP w K mg base "BadValue" (He.ga K "BadValue") "argument" 1 okV := by
  have mi : ini0 ∈ hini := List.mem_of_getElem? (i := 0) rfl
  obtain ⟨f1, f2, f3, oc, od, osl, kV, doc, pm, an, cda, ct, cc, lk, hcd, SC⟩ := IniD.facts (P := PP) (d := ini0) (sn := "self") (Y.ini_ mi) (Y.io _ mi) (by decide +kernel) ⟨_, rfl, rfl⟩
  refine ⟨f3, ⟨_, _, ["self", "argument"], f1, f2, fn_init1 (f1 := "argument") (p1 := "argument") lk hcd ?_ SC (X1.noat .bv rfl "argument" (List.mem_of_getElem? (i := 0) rfl)) (free_ok KX G (fa_of Y 54)) (by decide +kernel) (by decide +kernel) (by decide +kernel) (by decide) (by decide) (fun A outer s H E => pe_joined (.cons L2.pe_str (.cons (pe_fmt (L2.pe_var (i := 1) rfl ?_)) (.cons L2.pe_str .nil)))) ?_ ?_ ?_ (pl := ?_) ?_, ?_⟩, (glo_ok KX G (fa_of Y 1))⟩
  · exact NdefX.nscope_by (by decide +kernel)
  · exact .inl rfl
  · exact fun a y H Q hy k => rm_fmt (by decide +kernel) (by decide +kernel) rfl hy k
  · intro L; rfl
  · intro L; rfl
  · exact pure false
  · intro L; rfl
  · exact .all fun us hl => match us, hl with | [_, _], _ => rfl
theorem law_fn {fd : FuncData} (Y : SaysY hfa hfn hini hfile htf hex h K) (KX : K.In base) (G : base.Ns mainGlobals mg) (TBp : ∀ p ∈ htf, LamX.TabB base mg (He.cT K p).1 (He.cT K p).2) (F_law : Fun K "law" "law" (top 44) (He.ga K "law") fd) : FnOk PP w K mg base (L2.CX PP w) 22 (He.ga K "law") fd ["_law_script"] (spL K (TT K) s_law) := by
  have X1 : ErrsF hflds hcs K := errsB_ok Y.more
  have E_BadValue := eg_own (mg := mg) (T := TT K) (c := .bv) X1 rfl (List.mem_of_getElem? (i := 0) rfl) (fun z => nomatch z) (glo_ok KX G (fa_of Y 1))
  have E_Clash := eg_own (mg := mg) (T := TT K) (c := .cl) X1 rfl (List.mem_of_getElem? (i := 3) rfl) (fun z => nomatch z) (glo_ok KX G (fa_of Y 5))
  have E_Taken := eg_own (mg := mg) (T := TT K) (c := .tk) X1 rfl (List.mem_of_getElem? (i := 2) rfl) (fun z => nomatch z) (glo_ok KX G (fa_of Y 4))
  have E_Unknown := eg_own (mg := mg) (T := TT K) (c := .un) X1 rfl (List.mem_of_getElem? (i := 1) rfl) (fun z => nomatch z) (glo_ok KX G (fa_of Y 3))
  have E_BadText := eg_own (mg := mg) (T := TT K) (c := .bt) X1 rfl (List.mem_of_getElem? (i := 6) rfl) (fun z => nomatch z) (glo_ok KX G (fa_of Y 2))
  have E_Unfit := eg_own (mg := mg) (T := TT K) (c := .uf) X1 rfl (List.mem_of_getElem? (i := 5) rfl) (fun z => nomatch z) (glo_ok KX G (fa_of Y 7))
  have E_Lacking := eg_own (mg := mg) (T := TT K) (c := .lk) X1 rfl (List.mem_of_getElem? (i := 4) rfl) (fun z => nomatch z) (glo_ok KX G (fa_of Y 6))
  have E_RoomError := eg_own (mg := mg) (T := TT K) (c := .rm) X1 rfl (List.mem_of_getElem? (i := 7) rfl) (fun z => nomatch z) (glo_ok KX G (fa_of Y 0))
  have E_ValueError := eg_ve (mg := mg) (T := TT K) X1 rfl (List.mem_of_getElem? (i := 8) rfl) (free_ok KX G (fa_of Y 55))
  have e_BadValue := exc_BadValue (w := w) Y KX G X1
  obtain ⟨fd_plain_count, FD_plain_count⟩ := Y.d.def_ 0
  have F_plain_count : Fun K "plain_count" "plain_count" (top 10) (He.ga K "plain_count") fd_plain_count := fun_of FD_plain_count
  have B_plain_count : L2.Binds K fd_plain_count ["value"] [] := F_plain_count.binds fun _ _ _ _ _ _ us hl => match us, hl with | [_], _ => rfl
  have c_plain_count : Cd PP w K mg base (TT K) "plain_count" ["value"] 1 [.s] s_plain_count (top 10) (He.ga K "plain_count") fd_plain_count := ⟨fn_plain_count (b_isinstance := (free_ok KX G (fa_of Y 43))) (b_int := (free_ok KX G (fa_of Y 46))) (b_bool := (free_ok KX G (fa_of Y 53))) F_plain_count p_plain_count, (glo_ok KX G (fa_of Y 8)), F_plain_count.kp, B_plain_count, F_plain_count⟩
  obtain ⟨fd_good_step, FD_good_step⟩ := Y.d.def_ 1
  have F_good_step : Fun K "good_step" "good_step" (top 11) (He.ga K "good_step") fd_good_step := fun_of FD_good_step
  have B_good_step : L2.Binds K fd_good_step ["many", "step"] [] := F_good_step.binds fun _ _ _ _ _ _ us hl => match us, hl with | [_, _], _ => rfl
  have c_good_step : Cd PP w K mg base (TT K) "good_step" ["many", "step"] 2 [.s, .s] s_good_step (top 11) (He.ga K "good_step") fd_good_step := ⟨fn_good_step (l_plain_count := by decide) (c_plain_count := c_plain_count) (b_isinstance := (free_ok KX G (fa_of Y 43))) (b_tuple := (free_ok KX G (fa_of Y 50))) (b_len := (free_ok KX G (fa_of Y 42))) (b_all := (free_ok KX G (fa_of Y 47))) F_good_step p_good_step, (glo_ok KX G (fa_of Y 9)), F_good_step.kp, B_good_step, F_good_step⟩
  obtain ⟨fd_check_graph, FD_check_graph⟩ := Y.d.def_ 2
  have F_check_graph : Fun K "check_graph" "check_graph" (top 12) (He.ga K "check_graph") fd_check_graph := fun_of FD_check_graph
  have B_check_graph : L2.Binds K fd_check_graph ["many", "steps"] [] := F_check_graph.binds fun _ _ _ _ _ _ us hl => match us, hl with | [_, _], _ => rfl
  have c_check_graph : Cd PP w K mg base (TT K) "check_graph" ["many", "steps"] 3 [.s, .s] s_check_graph (top 12) (He.ga K "check_graph") fd_check_graph := ⟨fn_check_graph (l_plain_count := by decide) (c_plain_count := c_plain_count) (l_good_step := by decide) (c_good_step := c_good_step) (e_BadValue := e_BadValue) (a_BadValue := rfl) (b_isinstance := (free_ok KX G (fa_of Y 43))) (b_list := (free_ok KX G (fa_of Y 45))) (b_len := (free_ok KX G (fa_of Y 42))) (b_all := (free_ok KX G (fa_of Y 47))) F_check_graph p_check_graph, (glo_ok KX G (fa_of Y 10)), F_check_graph.kp, B_check_graph, F_check_graph⟩
  obtain ⟨fd_step_kept, FD_step_kept⟩ := Y.d.def_ 3
  have F_step_kept : Fun K "step_kept" "step_kept" (top 13) (He.ga K "step_kept") fd_step_kept := fun_of FD_step_kept
  have B_step_kept : L2.Binds K fd_step_kept ["paper", "step"] [] := F_step_kept.binds fun _ _ _ _ _ _ us hl => match us, hl with | [_, _], _ => rfl
  have c_step_kept : Cd PP w K mg base (TT K) "step_kept" ["paper", "step"] 1 [.s, .s] s_step_kept (top 13) (He.ga K "step_kept") fd_step_kept := ⟨fn_step_kept  F_step_kept p_step_kept, (glo_ok KX G (fa_of Y 11)), F_step_kept.kp, B_step_kept, F_step_kept⟩
  obtain ⟨fd_bars_way, FD_bars_way⟩ := Y.d.def_ 4
  have F_bars_way : Fun K "bars_way" "bars_way" (top 14) (He.ga K "bars_way") fd_bars_way := fun_of FD_bars_way
  have B_bars_way : L2.Binds K fd_bars_way ["many", "steps", "harm", "paper"] [] := F_bars_way.binds fun _ _ _ _ _ _ us hl => match us, hl with | [_, _, _, _], _ => rfl
  have c_bars_way : Cd PP w K mg base (TT K) "bars_way" ["many", "steps", "harm", "paper"] 4 [.s, .s, .s, .s] s_bars_way (top 14) (He.ga K "bars_way") fd_bars_way := ⟨fn_bars_way (l_check_graph := by decide) (c_check_graph := c_check_graph) (l_plain_count := by decide) (c_plain_count := c_plain_count) (l_step_kept := by decide) (c_step_kept := c_step_kept) (e_BadValue := e_BadValue) (a_BadValue := rfl) (b_isinstance := (free_ok KX G (fa_of Y 43))) (b_list := (free_ok KX G (fa_of Y 45))) (b_len := (free_ok KX G (fa_of Y 42))) (b_all := (free_ok KX G (fa_of Y 47))) F_bars_way p_bars_way, (glo_ok KX G (fa_of Y 12)), F_bars_way.kp, B_bars_way, F_bars_way⟩
  obtain ⟨fd__law_store, FD__law_store⟩ := Y.d.def_ 5
  have F__law_store : Fun K "_law_store" "_law_store" (top 16) (He.ga K "_law_store") fd__law_store := fun_of FD__law_store
  have B__law_store : L2.Binds K fd__law_store ["_law_script"] [] := F__law_store.binds fun _ _ _ _ _ _ us hl => match us, hl with | [_], _ => rfl
  have c__law_store : Cd PP w K mg base (TT K) "_law_store" ["_law_script"] 1 [.b] s_law_store (top 16) (He.ga K "_law_store") fd__law_store := ⟨fn_law_store (b_int := (free_ok KX G (fa_of Y 46))) (b_list := (free_ok KX G (fa_of Y 45))) F__law_store p_law_store, (glo_ok KX G (fa_of Y 13)), F__law_store.kp, B__law_store, F__law_store⟩
  obtain ⟨fd__law_load, FD__law_load⟩ := Y.d.def_ 6
  have F__law_load : Fun K "_law_load" "_law_load" (top 17) (He.ga K "_law_load") fd__law_load := fun_of FD__law_load
  have B__law_load : L2.Binds K fd__law_load ["_law_store_here"] [] := F__law_load.binds fun _ _ _ _ _ _ us hl => match us, hl with | [_], _ => rfl
  have c__law_load : Cd PP w K mg base (TT K) "_law_load" ["_law_store_here"] 1 [.t] s_law_load (top 17) (He.ga K "_law_load") fd__law_load := ⟨fn_law_load (b_int := (free_ok KX G (fa_of Y 46))) (b_len := (free_ok KX G (fa_of Y 42))) F__law_load p_law_load, (glo_ok KX G (fa_of Y 14)), F__law_load.kp, B__law_load, F__law_load⟩
  obtain ⟨fd__law_mix, FD__law_mix⟩ := Y.d.def_ 7
  have F__law_mix : Fun K "_law_mix" "_law_mix" (top 18) (He.ga K "_law_mix") fd__law_mix := fun_of FD__law_mix
  have B__law_mix : L2.Binds K fd__law_mix ["_law_number", "_law_turn"] [] := F__law_mix.binds fun _ _ _ _ _ _ us hl => match us, hl with | [_, _], _ => rfl
  have c__law_mix : Cd PP w K mg base (TT K) "_law_mix" ["_law_number", "_law_turn"] 1 [.s, .s] s_law_mix (top 18) (He.ga K "_law_mix") fd__law_mix := ⟨fn_law_mix (b_int := (free_ok KX G (fa_of Y 46))) F__law_mix p_law_mix, (glo_ok KX G (fa_of Y 15)), F__law_mix.kp, B__law_mix, F__law_mix⟩
  obtain ⟨fd__law_take, FD__law_take⟩ := Y.d.def_ 8
  have F__law_take : Fun K "_law_take" "_law_take" (top 19) (He.ga K "_law_take") fd__law_take := fun_of FD__law_take
  have B__law_take : L2.Binds K fd__law_take ["_law_store_here", "_law_many"] [] := F__law_take.binds fun _ _ _ _ _ _ us hl => match us, hl with | [_, _], _ => rfl
  have c__law_take : Cd PP w K mg base (TT K) "_law_take" ["_law_store_here", "_law_many"] 2 [.t, .s] s_law_take (top 19) (He.ga K "_law_take") fd__law_take := ⟨fn_law_take (l__law_load := by decide) (c__law_load := c__law_load) (l__law_mix := by decide) (c__law_mix := c__law_mix) (b_int := (free_ok KX G (fa_of Y 46))) (b_str := (free_ok KX G (fa_of Y 51))) (b_len := (free_ok KX G (fa_of Y 42))) (b_range := (free_ok KX G (fa_of Y 44))) F__law_take p_law_take, (glo_ok KX G (fa_of Y 16)), F__law_take.kp, B__law_take, F__law_take⟩
  obtain ⟨fd__law_size, FD__law_size⟩ := Y.d.def_ 9
  have F__law_size : Fun K "_law_size" "_law_size" (top 20) (He.ga K "_law_size") fd__law_size := fun_of FD__law_size
  have B__law_size : L2.Binds K fd__law_size ["_law_store_here", "_law_most"] [] := F__law_size.binds fun _ _ _ _ _ _ us hl => match us, hl with | [_, _], _ => rfl
  have c__law_size : Cd PP w K mg base (TT K) "_law_size" ["_law_store_here", "_law_most"] 3 [.t, .s] s_law_size (top 20) (He.ga K "_law_size") fd__law_size := ⟨fn_law_size (l__law_take := by decide) (c__law_take := c__law_take) (b_max := (free_ok KX G (fa_of Y 49))) (b_min := (free_ok KX G (fa_of Y 48))) F__law_size p_law_size, (glo_ok KX G (fa_of Y 17)), F__law_size.kp, B__law_size, F__law_size⟩
  obtain ⟨fd__law_large, FD__law_large⟩ := Y.d.def_ 10
  have F__law_large : Fun K "_law_large" "_law_large" (top 21) (He.ga K "_law_large") fd__law_large := fun_of FD__law_large
  have B__law_large : L2.Binds K fd__law_large ["_law_store_here", "_law_bound"] [] := F__law_large.binds fun _ _ _ _ _ _ us hl => match us, hl with | [_, _], _ => rfl
  have c__law_large : Cd PP w K mg base (TT K) "_law_large" ["_law_store_here", "_law_bound"] 3 [.t, .s] s_law_large (top 21) (He.ga K "_law_large") fd__law_large := ⟨fn_law_large (l__law_take := by decide) (c__law_take := c__law_take) (b_min := (free_ok KX G (fa_of Y 48))) (b_max := (free_ok KX G (fa_of Y 49))) F__law_large p_law_large, (glo_ok KX G (fa_of Y 18)), F__law_large.kp, B__law_large, F__law_large⟩
  obtain ⟨fd__law_pick, FD__law_pick⟩ := Y.d.def_ 11
  have F__law_pick : Fun K "_law_pick" "_law_pick" (top 22) (He.ga K "_law_pick") fd__law_pick := fun_of FD__law_pick
  have B__law_pick : L2.Binds K fd__law_pick ["_law_store_here", "_law_row"] [] := F__law_pick.binds fun _ _ _ _ _ _ us hl => match us, hl with | [_, _], _ => rfl
  have c__law_pick : Cd PP w K mg base (TT K) "_law_pick" ["_law_store_here", "_law_row"] 3 [.t, .s] s_law_pick (top 22) (He.ga K "_law_pick") fd__law_pick := ⟨fn_law_pick (l__law_take := by decide) (c__law_take := c__law_take) (b_len := (free_ok KX G (fa_of Y 42))) F__law_pick p_law_pick, (glo_ok KX G (fa_of Y 19)), F__law_pick.kp, B__law_pick, F__law_pick⟩
  obtain ⟨fd__law_odds, FD__law_odds⟩ := Y.d.def_ 12
  have F__law_odds : Fun K "_law_odds" "_law_odds" (top 23) (He.ga K "_law_odds") fd__law_odds := fun_of FD__law_odds
  have B__law_odds : L2.Binds K fd__law_odds ["_law_store_here", "_law_parts"] [] := F__law_odds.binds fun _ _ _ _ _ _ us hl => match us, hl with | [_, _], _ => rfl
  have c__law_odds : Cd PP w K mg base (TT K) "_law_odds" ["_law_store_here", "_law_parts"] 3 [.t, .s] s_law_odds (top 23) (He.ga K "_law_odds") fd__law_odds := ⟨fn_law_odds (l__law_take := by decide) (c__law_take := c__law_take) F__law_odds p_law_odds, (glo_ok KX G (fa_of Y 20)), F__law_odds.kp, B__law_odds, F__law_odds⟩
  obtain ⟨fd__law_some, FD__law_some⟩ := Y.d.def_ 13
  have F__law_some : Fun K "_law_some" "_law_some" (top 24) (He.ga K "_law_some") fd__law_some := fun_of FD__law_some
  have B__law_some : L2.Binds K fd__law_some ["_law_store_here", "_law_row", "_law_many"] [] := F__law_some.binds fun _ _ _ _ _ _ us hl => match us, hl with | [_, _, _], _ => rfl
  have c__law_some : Cd PP w K mg base (TT K) "_law_some" ["_law_store_here", "_law_row", "_law_many"] 3 [.t, .s, .s] s_law_some (top 24) (He.ga K "_law_some") fd__law_some := ⟨fn_law_some (l__law_take := by decide) (c__law_take := c__law_take) (b_list := (free_ok KX G (fa_of Y 45))) (b_len := (free_ok KX G (fa_of Y 42))) (b_min := (free_ok KX G (fa_of Y 48))) (b_range := (free_ok KX G (fa_of Y 44))) F__law_some p_law_some, (glo_ok KX G (fa_of Y 21)), F__law_some.kp, B__law_some, F__law_some⟩
  obtain ⟨fd__law_shuffled, FD__law_shuffled⟩ := Y.d.def_ 14
  have F__law_shuffled : Fun K "_law_shuffled" "_law_shuffled" (top 25) (He.ga K "_law_shuffled") fd__law_shuffled := fun_of FD__law_shuffled
  have B__law_shuffled : L2.Binds K fd__law_shuffled ["_law_store_here", "_law_row"] [] := F__law_shuffled.binds fun _ _ _ _ _ _ us hl => match us, hl with | [_, _], _ => rfl
  have c__law_shuffled : Cd PP w K mg base (TT K) "_law_shuffled" ["_law_store_here", "_law_row"] 4 [.t, .s] s_law_shuffled (top 25) (He.ga K "_law_shuffled") fd__law_shuffled := ⟨fn_law_shuffled (l__law_take := by decide) (c__law_take := c__law_take) (l__law_some := by decide) (c__law_some := c__law_some) (b_list := (free_ok KX G (fa_of Y 45))) (b_len := (free_ok KX G (fa_of Y 42))) (b_range := (free_ok KX G (fa_of Y 44))) F__law_shuffled p_law_shuffled, (glo_ok KX G (fa_of Y 22)), F__law_shuffled.kp, B__law_shuffled, F__law_shuffled⟩
  obtain ⟨fd__law_chars, FD__law_chars⟩ := Y.d.def_ 15
  have F__law_chars : Fun K "_law_chars" "_law_chars" (top 26) (He.ga K "_law_chars") fd__law_chars := fun_of FD__law_chars
  have B__law_chars : L2.Binds K fd__law_chars [] [] := F__law_chars.binds fun _ _ _ _ _ _ us hl => match us, hl with | [], _ => rfl
  have c__law_chars : Cd PP w K mg base (TT K) "_law_chars" [] 1 [] s_law_chars (top 26) (He.ga K "_law_chars") fd__law_chars := ⟨fn_law_chars  F__law_chars p_law_chars, (glo_ok KX G (fa_of Y 23)), F__law_chars.kp, B__law_chars, F__law_chars⟩
  obtain ⟨fd__law_text, FD__law_text⟩ := Y.d.def_ 16
  have F__law_text : Fun K "_law_text" "_law_text" (top 27) (He.ga K "_law_text") fd__law_text := fun_of FD__law_text
  have B__law_text : L2.Binds K fd__law_text ["_law_store_here", "_law_most"] [] := F__law_text.binds fun _ _ _ _ _ _ us hl => match us, hl with | [_, _], _ => rfl
  have c__law_text : Cd PP w K mg base (TT K) "_law_text" ["_law_store_here", "_law_most"] 4 [.t, .s] s_law_text (top 27) (He.ga K "_law_text") fd__law_text := ⟨fn_law_text (l__law_chars := by decide) (c__law_chars := c__law_chars) (l__law_size := by decide) (c__law_size := c__law_size) (l__law_pick := by decide) (c__law_pick := c__law_pick) (b_range := (free_ok KX G (fa_of Y 44))) F__law_text p_law_text, (glo_ok KX G (fa_of Y 24)), F__law_text.kp, B__law_text, F__law_text⟩
  obtain ⟨fd__law_atom, FD__law_atom⟩ := Y.d.def_ 17
  have F__law_atom : Fun K "_law_atom" "_law_atom" (top 28) (He.ga K "_law_atom") fd__law_atom := fun_of FD__law_atom
  have B__law_atom : L2.Binds K fd__law_atom ["_law_store_here"] [] := F__law_atom.binds fun _ _ _ _ _ _ us hl => match us, hl with | [_], _ => rfl
  have c__law_atom : Cd PP w K mg base (TT K) "_law_atom" ["_law_store_here"] 5 [.t] s_law_atom (top 28) (He.ga K "_law_atom") fd__law_atom := ⟨fn_law_atom (l__law_take := by decide) (c__law_take := c__law_take) (l__law_text := by decide) (c__law_text := c__law_text) (l__law_large := by decide) (c__law_large := c__law_large) F__law_atom p_law_atom, (glo_ok KX G (fa_of Y 25)), F__law_atom.kp, B__law_atom, F__law_atom⟩
  obtain ⟨fd__law_value, FD__law_value⟩ := Y.d.def_ 18
  have F__law_value : Fun K "_law_value" "_law_value" (top 29) (He.ga K "_law_value") fd__law_value := fun_of FD__law_value
  have B__law_value : L2.Binds K fd__law_value ["_law_store_here"] [] := F__law_value.binds fun _ _ _ _ _ _ us hl => match us, hl with | [_], _ => rfl
  have c__law_value : Cd PP w K mg base (TT K) "_law_value" ["_law_store_here"] 6 [.t] s_law_value (top 29) (He.ga K "_law_value") fd__law_value := ⟨fn_law_value (l__law_atom := by decide) (c__law_atom := c__law_atom) (l__law_pick := by decide) (c__law_pick := c__law_pick) (l__law_take := by decide) (c__law_take := c__law_take) (b_range := (free_ok KX G (fa_of Y 44))) F__law_value p_law_value, (glo_ok KX G (fa_of Y 26)), F__law_value.kp, B__law_value, F__law_value⟩
  obtain ⟨fd__law_is_int, FD__law_is_int⟩ := Y.d.def_ 19
  have F__law_is_int : Fun K "_law_is_int" "_law_is_int" (top 30) (He.ga K "_law_is_int") fd__law_is_int := fun_of FD__law_is_int
  have B__law_is_int : L2.Binds K fd__law_is_int ["_law_value_here"] [] := F__law_is_int.binds fun _ _ _ _ _ _ us hl => match us, hl with | [_], _ => rfl
  have c__law_is_int : Cd PP w K mg base (TT K) "_law_is_int" ["_law_value_here"] 1 [.s] s_law_is_int (top 30) (He.ga K "_law_is_int") fd__law_is_int := ⟨fn_law_is_int (b_isinstance := (free_ok KX G (fa_of Y 43))) (b_int := (free_ok KX G (fa_of Y 46))) (b_bool := (free_ok KX G (fa_of Y 53))) F__law_is_int p_law_is_int, (glo_ok KX G (fa_of Y 27)), F__law_is_int.kp, B__law_is_int, F__law_is_int⟩
  obtain ⟨fd__law_same, FD__law_same⟩ := Y.d.def_ 20
  have F__law_same : Fun K "_law_same" "_law_same" (top 31) (He.ga K "_law_same") fd__law_same := fun_of FD__law_same
  have B__law_same : L2.Binds K fd__law_same ["_law_actual", "_law_due_here"] [] := F__law_same.binds fun _ _ _ _ _ _ us hl => match us, hl with | [_, _], _ => rfl
  have r__law_same : ∀ n, FnOk PP w K mg base (L2.CX PP w) n (He.ga K "_law_same") fd__law_same ["_law_actual", "_law_due_here"] (spQ K (TT K) [.s, .s] (sI_law_same n)) := fun n => by
    induction n with
    | zero => exact fn_zero fun vs H Q E ⟨_, _, ds, R, F, _, _, _, _, _, _, hq, _⟩ => by obtain ⟨d, _, hz, _⟩ := hq; cases hz
    | succ n ih => exact fn_law_same (T := TT K) (n := n) (l__law_same := Nat.le_refl n) (hn := Nat.zero_le _) (c__law_same := ⟨ih, (glo_ok KX G (fa_of Y 28)), F__law_same.kp, B__law_same, F__law_same⟩) (b_isinstance := (free_ok KX G (fa_of Y 43))) (b_bool := (free_ok KX G (fa_of Y 53))) (b_int := (free_ok KX G (fa_of Y 46))) (b_str := (free_ok KX G (fa_of Y 51))) (b_dict := (free_ok KX G (fa_of Y 52))) (b_list := (free_ok KX G (fa_of Y 45))) (b_tuple := (free_ok KX G (fa_of Y 50))) (b_len := (free_ok KX G (fa_of Y 42))) (b_range := (free_ok KX G (fa_of Y 44))) F__law_same (p_law_same n)
  have c__law_same : Cd PP w K mg base (TT K) "_law_same" ["_law_actual", "_law_due_here"] 20 [.s, .s] s_law_same (top 31) (He.ga K "_law_same") fd__law_same := ⟨r__law_same 20, (glo_ok KX G (fa_of Y 28)), F__law_same.kp, B__law_same, F__law_same⟩
  obtain ⟨fd__law_copy, FD__law_copy⟩ := Y.d.def_ 21
  have F__law_copy : Fun K "_law_copy" "_law_copy" (top 32) (He.ga K "_law_copy") fd__law_copy := fun_of FD__law_copy
  have B__law_copy : L2.Binds K fd__law_copy ["_law_value_here"] [] := F__law_copy.binds fun _ _ _ _ _ _ us hl => match us, hl with | [_], _ => rfl
  have r__law_copy : ∀ n, FnOk PP w K mg base (L2.CX PP w) n (He.ga K "_law_copy") fd__law_copy ["_law_value_here"] (spQ K (TT K) [.s] (sI_law_copy n)) := fun n => by
    induction n with
    | zero => exact fn_zero fun vs H Q E ⟨_, _, ds, R, F, _, _, _, _, _, _, hq, _⟩ => by obtain ⟨d, _, hz, _⟩ := hq; cases hz
    | succ n ih => exact fn_law_copy (T := TT K) (n := n) (l__law_copy := Nat.le_refl n) (hn := Nat.zero_le _) (c__law_copy := ⟨ih, (glo_ok KX G (fa_of Y 29)), F__law_copy.kp, B__law_copy, F__law_copy⟩) (b_isinstance := (free_ok KX G (fa_of Y 43))) (b_list := (free_ok KX G (fa_of Y 45))) (b_tuple := (free_ok KX G (fa_of Y 50))) (b_dict := (free_ok KX G (fa_of Y 52))) F__law_copy (p_law_copy n)
  have c__law_copy : Cd PP w K mg base (TT K) "_law_copy" ["_law_value_here"] 20 [.s] s_law_copy (top 32) (He.ga K "_law_copy") fd__law_copy := ⟨r__law_copy 20, (glo_ok KX G (fa_of Y 29)), F__law_copy.kp, B__law_copy, F__law_copy⟩
  obtain ⟨fd__law_steps, FD__law_steps⟩ := Y.d.def_ 22
  have F__law_steps : Fun K "_law_steps" "_law_steps" (top 33) (He.ga K "_law_steps") fd__law_steps := fun_of FD__law_steps
  have B__law_steps : L2.Binds K fd__law_steps ["_law_store_here", "_law_many"] [] := F__law_steps.binds fun _ _ _ _ _ _ us hl => match us, hl with | [_, _], _ => rfl
  have c__law_steps : Cd PP w K mg base (TT K) "_law_steps" ["_law_store_here", "_law_many"] 5 [.t, .s] s_law_steps (top 33) (He.ga K "_law_steps") fd__law_steps := ⟨fn_law_steps (l__law_take := by decide) (c__law_take := c__law_take) (l__law_large := by decide) (c__law_large := c__law_large) (l__law_size := by decide) (c__law_size := c__law_size) (l__law_odds := by decide) (c__law_odds := c__law_odds) (l__law_pick := by decide) (c__law_pick := c__law_pick) (l__law_shuffled := by decide) (c__law_shuffled := c__law_shuffled) (b_range := (free_ok KX G (fa_of Y 44))) (b_min := (free_ok KX G (fa_of Y 48))) (b_len := (free_ok KX G (fa_of Y 42))) F__law_steps p_law_steps, (glo_ok KX G (fa_of Y 30)), F__law_steps.kp, B__law_steps, F__law_steps⟩
  obtain ⟨fd__law_many_steps, FD__law_many_steps⟩ := Y.d.def_ 23
  have F__law_many_steps : Fun K "_law_many_steps" "_law_many_steps" (top 34) (He.ga K "_law_many_steps") fd__law_many_steps := fun_of FD__law_many_steps
  have B__law_many_steps : L2.Binds K fd__law_many_steps ["_law_store_here", "_law_many"] [] := F__law_many_steps.binds fun _ _ _ _ _ _ us hl => match us, hl with | [_, _], _ => rfl
  have c__law_many_steps : Cd PP w K mg base (TT K) "_law_many_steps" ["_law_store_here", "_law_many"] 3 [.t, .s] s_law_many_steps (top 34) (He.ga K "_law_many_steps") fd__law_many_steps := ⟨fn_law_many_steps (l__law_take := by decide) (c__law_take := c__law_take) (b_range := (free_ok KX G (fa_of Y 44))) (b_min := (free_ok KX G (fa_of Y 48))) (b_int := (free_ok KX G (fa_of Y 46))) F__law_many_steps p_law_many_steps, (glo_ok KX G (fa_of Y 31)), F__law_many_steps.kp, B__law_many_steps, F__law_many_steps⟩
  obtain ⟨fd__law_least_harms, FD__law_least_harms⟩ := Y.d.def_ 24
  have F__law_least_harms : Fun K "_law_least_harms" "_law_least_harms" (top 35) (He.ga K "_law_least_harms") fd__law_least_harms := fun_of FD__law_least_harms
  have B__law_least_harms : L2.Binds K fd__law_least_harms ["_law_many", "_law_steps_here"] [] := F__law_least_harms.binds fun _ _ _ _ _ _ us hl => match us, hl with | [_, _], _ => rfl
  have c__law_least_harms : Cd PP w K mg base (TT K) "_law_least_harms" ["_law_many", "_law_steps_here"] 1 [.s, .s] s_law_least_harms (top 35) (He.ga K "_law_least_harms") fd__law_least_harms := ⟨fn_law_least_harms (b_range := (free_ok KX G (fa_of Y 44))) F__law_least_harms p_law_least_harms, (glo_ok KX G (fa_of Y 32)), F__law_least_harms.kp, B__law_least_harms, F__law_least_harms⟩
  obtain ⟨fd__law_closed, FD__law_closed⟩ := Y.d.def_ 25
  have F__law_closed : Fun K "_law_closed" "_law_closed" (top 36) (He.ga K "_law_closed") fd__law_closed := fun_of FD__law_closed
  have B__law_closed : L2.Binds K fd__law_closed ["_law_many", "_law_steps_here", "_law_paper"] [] := F__law_closed.binds fun _ _ _ _ _ _ us hl => match us, hl with | [_, _, _], _ => rfl
  have c__law_closed : Cd PP w K mg base (TT K) "_law_closed" ["_law_many", "_law_steps_here", "_law_paper"] 2 [.s, .s, .s] s_law_closed (top 36) (He.ga K "_law_closed") fd__law_closed := ⟨fn_law_closed (l__law_is_int := by decide) (c__law_is_int := c__law_is_int) (b_isinstance := (free_ok KX G (fa_of Y 43))) (b_list := (free_ok KX G (fa_of Y 45))) (b_len := (free_ok KX G (fa_of Y 42))) F__law_closed p_law_closed, (glo_ok KX G (fa_of Y 33)), F__law_closed.kp, B__law_closed, F__law_closed⟩
  obtain ⟨fd__law_due, FD__law_due⟩ := Y.d.def_ 26
  have F__law_due : Fun K "_law_due" "_law_due" (top 37) (He.ga K "_law_due") fd__law_due := fun_of FD__law_due
  have B__law_due : L2.Binds K fd__law_due ["_law_many", "_law_steps_here", "_law_paper", "_law_harm"] [] := F__law_due.binds fun _ _ _ _ _ _ us hl => match us, hl with | [_, _, _, _], _ => rfl
  have c__law_due : Cd PP w K mg base (TT K) "_law_due" ["_law_many", "_law_steps_here", "_law_paper", "_law_harm"] 3 [.s, .s, .s, .s] s_law_due (top 37) (He.ga K "_law_due") fd__law_due := ⟨fn_law_due (l__law_closed := by decide) (c__law_closed := c__law_closed) F__law_due p_law_due, (glo_ok KX G (fa_of Y 34)), F__law_due.kp, B__law_due, F__law_due⟩
  obtain ⟨fd__law_bent, FD__law_bent⟩ := Y.d.def_ 27
  have F__law_bent : Fun K "_law_bent" "_law_bent" (top 38) (He.ga K "_law_bent") fd__law_bent := fun_of FD__law_bent
  have B__law_bent : L2.Binds K fd__law_bent ["_law_store_here", "_law_paper"] [] := F__law_bent.binds fun _ _ _ _ _ _ us hl => match us, hl with | [_, _], _ => rfl
  have c__law_bent : Cd PP w K mg base (TT K) "_law_bent" ["_law_store_here", "_law_paper"] 4 [.t, .s] s_law_bent (top 38) (He.ga K "_law_bent") fd__law_bent := ⟨fn_law_bent (l__law_take := by decide) (c__law_take := c__law_take) (l__law_odds := by decide) (c__law_odds := c__law_odds) (l__law_large := by decide) (c__law_large := c__law_large) (b_list := (free_ok KX G (fa_of Y 45))) (b_len := (free_ok KX G (fa_of Y 42))) (b_max := (free_ok KX G (fa_of Y 49))) F__law_bent p_law_bent, (glo_ok KX G (fa_of Y 35)), F__law_bent.kp, B__law_bent, F__law_bent⟩
  obtain ⟨fd__law_broken, FD__law_broken⟩ := Y.d.def_ 28
  have F__law_broken : Fun K "_law_broken" "_law_broken" (top 39) (He.ga K "_law_broken") fd__law_broken := fun_of FD__law_broken
  have B__law_broken : L2.Binds K fd__law_broken ["_law_store_here", "_law_paper"] [] := F__law_broken.binds fun _ _ _ _ _ _ us hl => match us, hl with | [_, _], _ => rfl
  have c__law_broken : Cd PP w K mg base (TT K) "_law_broken" ["_law_store_here", "_law_paper"] 7 [.t, .s] s_law_broken (top 39) (He.ga K "_law_broken") fd__law_broken := ⟨fn_law_broken (l__law_take := by decide) (c__law_take := c__law_take) (l__law_value := by decide) (c__law_value := c__law_value) (l__law_pick := by decide) (c__law_pick := c__law_pick) (b_len := (free_ok KX G (fa_of Y 42))) (b_tuple := (free_ok KX G (fa_of Y 50))) F__law_broken p_law_broken, (glo_ok KX G (fa_of Y 36)), F__law_broken.kp, B__law_broken, F__law_broken⟩
  obtain ⟨fd__law_next_step, FD__law_next_step⟩ := Y.d.def_ 29
  have F__law_next_step : Fun K "_law_next_step" "_law_next_step" (top 40) (He.ga K "_law_next_step") fd__law_next_step := fun_of FD__law_next_step
  have B__law_next_step : L2.Binds K fd__law_next_step ["_law_store_here", "_law_many", "_law_paper"] [] := F__law_next_step.binds fun _ _ _ _ _ _ us hl => match us, hl with | [_, _, _], _ => rfl
  have c__law_next_step : Cd PP w K mg base (TT K) "_law_next_step" ["_law_store_here", "_law_many", "_law_paper"] 4 [.t, .s, .s] s_law_next_step (top 40) (He.ga K "_law_next_step") fd__law_next_step := ⟨fn_law_next_step (l__law_take := by decide) (c__law_take := c__law_take) (l__law_large := by decide) (c__law_large := c__law_large) (l__law_is_int := by decide) (c__law_is_int := c__law_is_int) (b_isinstance := (free_ok KX G (fa_of Y 43))) (b_list := (free_ok KX G (fa_of Y 45))) (b_len := (free_ok KX G (fa_of Y 42))) F__law_next_step p_law_next_step, (glo_ok KX G (fa_of Y 37)), F__law_next_step.kp, B__law_next_step, F__law_next_step⟩
  obtain ⟨fd__law_bad_name, FD__law_bad_name⟩ := Y.d.def_ 30
  have F__law_bad_name : Fun K "_law_bad_name" "_law_bad_name" (top 41) (He.ga K "_law_bad_name") fd__law_bad_name := fun_of FD__law_bad_name
  have B__law_bad_name : L2.Binds K fd__law_bad_name ["_law_ask"] [] := F__law_bad_name.binds fun _ _ _ _ _ _ us hl => match us, hl with | [_], _ => rfl
  have A__law_bad_name := ask_law_bad_name (P := PP) (T := TT K) (w := w) (base := base) (E_BadValue := E_BadValue) (E_Clash := E_Clash) (E_Taken := E_Taken) (E_Unknown := E_Unknown) (E_BadText := E_BadText) (E_Unfit := E_Unfit) (E_Lacking := E_Lacking) (E_RoomError := E_RoomError) (E_ValueError := E_ValueError) (EK := X1.errK) (EF_argument := fun e he => X1.noat e he "argument" (List.mem_of_getElem? (i := 0) rfl)) (b_isinstance := (free_ok KX G (fa_of Y 43))) F__law_bad_name (glo_ok KX G (fa_of Y 38)) B__law_bad_name p_law_bad_name
  obtain ⟨fd__law_refused, FD__law_refused⟩ := Y.d.def_ 31
  have F__law_refused : Fun K "_law_refused" "_law_refused" (top 42) (He.ga K "_law_refused") fd__law_refused := fun_of FD__law_refused
  have B__law_refused : L2.Binds K fd__law_refused ["_law_store_here", "_law_many", "_law_steps_here", "_law_harm", "_law_paper"] [] := F__law_refused.binds fun _ _ _ _ _ _ us hl => match us, hl with | [_, _, _, _, _], _ => rfl
  have c__law_refused : Cd PP w K mg base (TT K) "_law_refused" ["_law_store_here", "_law_many", "_law_steps_here", "_law_harm", "_law_paper"] 21 [.t, .s, .s, .s, .s] s_law_refused (top 42) (He.ga K "_law_refused") fd__law_refused := ⟨fn_law_refused (l__law_take := by decide) (c__law_take := c__law_take) (l__law_pick := by decide) (c__law_pick := c__law_pick) (l_bars_way := by decide) (c_bars_way := c_bars_way) (l__law_same := by decide) (c__law_same := c__law_same) (b_str := (free_ok KX G (fa_of Y 51))) (b_len := (free_ok KX G (fa_of Y 42))) (b_min := (free_ok KX G (fa_of Y 48))) (b_tuple := (free_ok KX G (fa_of Y 50))) (b_range := (free_ok KX G (fa_of Y 44))) (A__law_bad_name := A__law_bad_name.mono (by decide)) (tb := TBp ("_law_refused", none) (List.mem_of_getElem? (i := 0) rfl)) (hfc := code_of (p := ("_law_refused", none)) F__law_refused) (tm := List.mem_of_getElem? (i := 0) rfl) (tu := fun p hp _ => by rw [List.mem_singleton.mp hp]) F__law_refused p_law_refused, (glo_ok KX G (fa_of Y 39)), F__law_refused.kp, B__law_refused, F__law_refused⟩
  obtain ⟨fd__law_asked, FD__law_asked⟩ := Y.d.def_ 32
  have F__law_asked : Fun K "_law_asked" "_law_asked" (top 43) (He.ga K "_law_asked") fd__law_asked := fun_of FD__law_asked
  have B__law_asked : L2.Binds K fd__law_asked ["_law_many", "_law_steps_here", "_law_handed", "_law_harms", "_law_paper"] [] := F__law_asked.binds fun _ _ _ _ _ _ us hl => match us, hl with | [_, _, _, _, _], _ => rfl
  have c__law_asked : Cd PP w K mg base (TT K) "_law_asked" ["_law_many", "_law_steps_here", "_law_handed", "_law_harms", "_law_paper"] 21 [.s, .s, .s, .s, .s] s_law_asked (top 43) (He.ga K "_law_asked") fd__law_asked := ⟨fn_law_asked (l__law_copy := by decide) (c__law_copy := c__law_copy) (l_bars_way := by decide) (c_bars_way := c_bars_way) (l__law_same := by decide) (c__law_same := c__law_same) (l__law_due := by decide) (c__law_due := c__law_due) F__law_asked p_law_asked, (glo_ok KX G (fa_of Y 40)), F__law_asked.kp, B__law_asked, F__law_asked⟩
  exact fn_law (l__law_store := by decide) (c__law_store := c__law_store) (l__law_size := by decide) (c__law_size := c__law_size) (l__law_odds := by decide) (c__law_odds := c__law_odds) (l__law_take := by decide) (c__law_take := c__law_take) (l__law_steps := by decide) (c__law_steps := c__law_steps) (l__law_shuffled := by decide) (c__law_shuffled := c__law_shuffled) (l__law_many_steps := by decide) (c__law_many_steps := c__law_many_steps) (l__law_least_harms := by decide) (c__law_least_harms := c__law_least_harms) (l__law_bent := by decide) (c__law_bent := c__law_bent) (l__law_broken := by decide) (c__law_broken := c__law_broken) (l__law_some := by decide) (c__law_some := c__law_some) (l__law_asked := by decide) (c__law_asked := c__law_asked) (l__law_next_step := by decide) (c__law_next_step := c__law_next_step) (l__law_refused := by decide) (c__law_refused := c__law_refused) (l__law_copy := by decide) (c__law_copy := c__law_copy) (b_int := (free_ok KX G (fa_of Y 46))) (b_list := (free_ok KX G (fa_of Y 45))) (b_range := (free_ok KX G (fa_of Y 44))) (b_max := (free_ok KX G (fa_of Y 49))) F_law p_law
end
theorem law_at (w : World) (mg : Str → Option Value) (fa : Addr) (h : Heap) (Y : hk.says w h) (G : h.Ns mainGlobals mg) (hm : mg "law" = some (.ref fa)) : ∃ K : PySem.W.Frag, K.In h ∧ LamX.LawAtS PySem.Challenge.rw_typeformes_k27_bars_way_conditions w K (L2.CX PP w) 22 63 "_law_script" mg fa h := by
  obtain ⟨K, KX, Y⟩ := Y
  refine ⟨K, KX, ?_⟩
  obtain ⟨fd, FD⟩ := Y.d.def_ 33
  have F : Fun K "law" "law" (top 44) (He.ga K "law") fd := fun_of FD
  have ef : fa = He.ga K "law" := by
    have z := (glo_ok KX G (fa_of Y 41)).symm.trans hm
    cases z
    rfl
  subst ef
  refine ⟨fd, htf.map (He.cT K), spL K (TT K) s_law, fun p hp => ?_, fun p hp => ?_, fun p hp => ?_, fun s u => ?_, fun H a ns hl hn ht hs => ?_, fun base KB GB TB => law_fn Y KB GB (fun p hp => TB _ (List.mem_map_of_mem hp)) F⟩
  · obtain ⟨q, hq, rfl⟩ := List.mem_map.mp hp
    exact Y.empty q hq
  · obtain ⟨q, hq, rfl⟩ := List.mem_map.mp hp
    exact Y.out q hq
  · obtain ⟨q, hq, rfl⟩ := List.mem_map.mp hp
    exact PySem.W.codeHd_of_K KX (Y.hd q hq)
  · exact FD.bindsA (ps := ["_law_script"]) (fun _ _ _ _ _ _ us hl => match us, hl with | [_], _ => rfl) s [u] rfl
  · refine ⟨a, ns, rfl, hs, fun p hp => ?_, ⟨ns, rfl, hl, fun n hn' => ?_, rfl⟩, fun _ => rfl⟩
    · have e : (TT K).tb.map (·.1) = (htf.map (He.cT K)).map (·.2) := rfl
      have hp1 : p.1 ∈ (htf.map (He.cT K)).map (·.2) := e ▸ List.mem_map_of_mem hp
      obtain ⟨q, hq, eq⟩ := List.mem_map.mp hp1
      rw [← eq]
      exact ht q hq
    · exact bits_lt (hn n hn')
end Z
set_option maxHeartbeats 0
open PySem PySem.W PySem.Calls PyProof.Rows
theorem PySem.Challenge.cw_typeformes_k27_bars_way_conditions_holds : PySem.Challenge.rw_typeformes_k27_bars_way_conditions.Holds := by
  w_on; o_law
  refine HandSHeadRun.head_any (r := OpenLaw.row PySem.Challenge.rw_typeformes_k27_bars_way_conditions) (q := view (OpenLaw.row PySem.Challenge.rw_typeformes_k27_bars_way_conditions).prog [44]) (H := Z.hk) (ob := Z.hob) (M := 8000) (loose := Z.hnames) (d := HandSHeadRun.topDef (OpenLaw.row PySem.Challenge.rw_typeformes_k27_bars_way_conditions).prog 44) (kwd := []) Z.hob_eq
    (by kernel_rfl) (fun s => by kernel_rfl) Z.hrun (by kernel_rfl) (by kernel_rfl) (by kernel_rfl) (by rfl) (by first | assumption | decide +kernel) (by decide +kernel) ⟨rfl, rfl, rfl, rfl, rfl, by decide +kernel⟩ ?hw ?hc
  case hw => w_witness2
  case hc => exact LamX.walk_ofTsE (k := 22) (n := 63) (x := "_law_script") (CX := fun w => L2.CX Z.PP w) rfl (by decide +kernel) rfl ⟨rfl, by decide +kernel, by decide +kernel⟩ Z.law_at (fun w H s e s' ⟨_, _, _, _, _, _, _, _, _, _, _, _, z⟩ => z.elim)

