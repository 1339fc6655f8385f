import PyProof.Rows.All
import Wide.All
import OpenK.AllK
import Wide.FinOn
import HandS.ForMost
import HandS.Wide
import HandS.WideBits
import HandS.Deep
import HandS.Conv
import HandS.Zip
import HandS.TupAny
import HandS.IsInst
import HandS.Rev
import PyProof.ListStr
import HandS.EndBits
import HandS.TupSets
import HandS.Exc
import HandS.ExcOwn
import HandS.CallSlots
import HandS.SortRule
import HandS.TupLe
import HandS.More
import KE.KDictWalk
import KE.KDictSum
import PyProof.Rows.SortWalk
import HandS.TupMul
import HandS.TryOnly
import HandS.Iter
import PyProof.WalkInts
import HandS.Style
import PyProof.ReprRoads
import HandS.RaiseMore
import HandS.FStrTup
import HandS.Text
import KE.KDictPairs
import HandS.WordsDict
import HandS.Defaults
import KE.DataMinMax
import HandS.SortKw
import HandS.ExcInit
import HandS.ExcField
import HandS.ExcIs
import HandS.HotCalls
import PySem.Challenge.RW_pairedthrows_k10_refusals
set_option Elab.async false
set_option linter.all false
set_option maxRecDepth 100000
set_option maxHeartbeats 4000000
namespace Pq
open PySem PySem.Spec PyProof.Rows L2
abbrev Da := PyData
/-- what is known of a slot -/
inductive SV where
  | no
  | val (d : Da)
  | own (w : Bool) (d : Da)
  | deal
  | bor (d : Da)
  | res (b : Bool) (d : Da) (ids : List (Nat × Da))
/-- slots that know an object alone -/
def OB : SV → Prop
  | .own _ _ => True
  | .bor _ => True
  | _ => False
abbrev En := List SV
def keyD : Key → Da
  | .inl i => .int i
  | .inr x => .str x
/-- a tuple that has no dict of its own -/
def PlT (K : PySem.W.Frag) (H : Hp) (a : Addr) (xs : List V) : Prop := (∃ o, H a = some (.frz o (.tup xs)) ∧ o.dict = none) ∨
  ∃ (o : Obj) (its : Array Value) (n : Nat), K.lookup a = some o ∧ o.cls = .type "tuple" ∧ o.dict = none ∧ o.data = .seq its n ∧ its.size ≤ sizeLine ∧ Vals xs its.toList
theorem PlT.sq {K : PySem.W.Frag} {H : Hp} {a : Addr} {xs : List V} (h : PlT K H a xs) : SqT K H a xs := by
  rcases h with ⟨o, h, _⟩ | ⟨o, its, n, h1, h2, _, h3⟩
  · exact .inl (.inr ⟨o, h⟩)
  · exact .inr ⟨o, its, n, h1, h2, h3⟩
theorem PlT.up {K : PySem.W.Frag} {S S' : Hp} {a : Addr} {xs : List V} (e : ∀ a o, S a = some o → S' a = some o) (h : PlT K S a xs) : PlT K S' a xs := by
  rcases h with ⟨o, h, d⟩ | h
  · exact .inl ⟨o, e _ _ h, d⟩
  · exact .inr h
/-- dicts whose keys are tuples of ints -/
def tkHash (ks : List Int) : Int := PySem.reduceHash (PySem.Builtin.Tuple.tupleHashOf (ks.map PySem.hashInt))
def tEnt (x : List Int × Addr × Value) : DictEntry := ⟨tkHash x.1, .ref x.2.1, x.2.2⟩
abbrev TKv := List (List Int × Addr × V)
def TPr (p : List Int × Addr × V) (q : List Int × Addr × Value) : Prop := p.1 = q.1 ∧ p.2.1 = q.2.1 ∧ RelV p.2.2 q.2.2
def TDat (h : Heap) (a : Addr) (kvs : TKv) : Prop := kvs.length ≤ sizeLine ∧ (a == sysModules) = false ∧ ∃ xs, Paired TPr kvs xs ∧ ∃ o es ep, h.get? a = some o ∧ o.ExactDict ∧ o.data = .dict es ep ∧ es.toList = xs.map tEnt ∧ (xs.map (·.1)).Nodup
abbrev DAo := Addr × Obj
def dtO (a : DAo) (kvs : TKv) : HO := .ext fun h => h.get? a.1 = some a.2 ∧ TDat h a.1 kvs
/-- an exception that was raised, and caught -/
def xcv (a : Addr) (cls : Value) (d : Option Addr) : HO := .ext fun h => ∃ (oe : Obj) (vs : Array Value), h.get? a = some oe ∧ Zc cls d oe ∧ oe.data = .fields vs
def fkey : Key → Str
  | .inl _ => ""
  | .inr x => x
/-- fields with their names -/
def flds (kvs : List (Key × V)) : List (Str × V) := kvs.map fun p => (fkey p.1, p.2)
/-- the dict of an exception -/
def XcD (H : Hp) (d : Option Addr) (kvs : List (Key × V)) : Prop := (kvs = [] ∧ d = none) ∨ ∃ dd, d = some dd ∧ H dd = some (.xd (flds kvs))
theorem XcD.up {S S' : Hp} {d : Option Addr} {kvs : List (Key × V)} (e : ∀ a o, S a = some o → S' a = some o) (h : XcD S d kvs) : XcD S' d kvs := h.imp id fun ⟨dd, h1, h2⟩ => ⟨dd, h1, e _ _ h2⟩
mutual
/-- a value is a piece of data: none, truths, ints, texts, lists and tuples of such -/
inductive Dq (K : PySem.W.Frag) (H : Hp) : V → Da → Prop
  | non : Dq K H .non .none
  | bl (b : Bool) : Dq K H (.bl b) (.bool b)
  | int (i : Int) : Dq K H (.int i) (.int i)
  | str (x : Str) : Dq K H (.str x) (.str x)
  | lst {a : Addr} {xs : List V} {ds : List Da} : Rd H a (.lst xs) → DqAll K H xs ds → Dq K H (.ref a) (.list ds)
  | tup {a : Addr} {xs : List V} {ds : List Da} : PlT K H a xs → DqAll K H xs ds → Dq K H (.ref a) (.tuple ds)
  | dk {a : Addr} {kvs : List (Key × V)} {ds : List (Da × Da)} : H a = some (.dK kvs) → DqK K H kvs ds → Dq K H (.ref a) (.dict ds)
  | dt {a : Addr} {a' : DAo} {kvs : TKv} {ds : List (Da × Da)} : H a = some (dtO a' kvs) → DqT K H kvs ds → Dq K H (.ref a) (.dict ((.none, .none) :: ds))
  | scr {a : Addr} {ns : List Int} : SqL K H a (ns.map V.int) → Dq K H (.ref a) (.dict [(.bool false, .list (ns.map PyData.int))])
  | pr {a : Addr} {xs : List V} {d : Da} {ds : List (Da × Da)} : SqT K H a xs → DqP K H xs ((.bool true, d) :: ds) → Dq K H (.ref a) (.dict ((.bool true, d) :: ds))
  | exc {a C : Addr} {x : Str} {d : Option Addr} {kvs : List (Key × V)} {ds : List (Da × Da)} : PySem.W.nsIn K mainGlobals x = some (some (.ref C)) → H a = some (xcv a (.ref C) d) → XcD H d kvs → DqK K H kvs ds → Dq K H (.ref a) (.dict ((.bool false, .str x) :: ds))
  | ins {a C dx : Addr} {x : Str} {kvs : List (Key × V)} {ds : List (Da × Da)} : PySem.W.nsIn K mainGlobals x = some (some (.ref C)) → H a = some (.ins C dx (flds kvs)) → DqK K H kvs ds → Dq K H (.ref a) (.dict ((.bool false, .tuple [.str x]) :: ds))
inductive DqP (K : PySem.W.Frag) (H : Hp) : List V → List (Da × Da) → Prop
  | nil : DqP K H [] []
  | cons {v : V} {vs : List V} {d : Da} {ds : List (Da × Da)} : Dq K H v d → DqP K H vs ds → DqP K H (v :: vs) ((.bool true, d) :: ds)
inductive DqAll (K : PySem.W.Frag) (H : Hp) : List V → List Da → Prop
  | nil : DqAll K H [] []
  | cons {v : V} {vs : List V} {d : Da} {ds : List Da} : Dq K H v d → DqAll K H vs ds → DqAll K H (v :: vs) (d :: ds)
inductive DqK (K : PySem.W.Frag) (H : Hp) : List (Key × V) → List (Da × Da) → Prop
  | nil : DqK K H [] []
  | cons {k : Key} {v : V} {vs : List (Key × V)} {d : Da} {ds : List (Da × Da)} : Dq K H v d → DqK K H vs ds → DqK K H ((k, v) :: vs) ((keyD k, d) :: ds)
inductive DqT (K : PySem.W.Frag) (H : Hp) : List (List Int × Addr × V) → List (Da × Da) → Prop
  | nil : DqT K H [] []
  | cons {k : List Int} {b : Addr} {v : V} {vs : List (List Int × Addr × V)} {d : Da} {ds : List (Da × Da)} : PlT K H b (k.map V.int) → Dq K H v d → DqT K H vs ds → DqT K H ((k, b, v) :: vs) ((.tuple (k.map PyData.int), d) :: ds)
end
/-- what an object holds -/
inductive HoD (K : PySem.W.Frag) (S : Hp) : HO → Da → Prop
  | lst {vs : List V} {ds : List Da} : DqAll K S vs ds → HoD K S (.lst vs) (.list ds)
  | dk {kvs : List (Key × V)} {ds : List (Da × Da)} : DqK K S kvs ds → HoD K S (.dK kvs) (.dict ds)
  | dt {a : DAo} {kvs : TKv} {ds : List (Da × Da)} : DqT K S kvs ds → HoD K S (dtO a kvs) (.dict ((.none, .none) :: ds))
  | ins {C dx : Addr} {x : Str} {kvs : List (Key × V)} {ds : List (Da × Da)} : PySem.W.nsIn K mainGlobals x = some (some (.ref C)) → DqK K S kvs ds → HoD K S (.ins C dx (flds kvs)) (.dict ((.bool false, .tuple [.str x]) :: ds))
theorem HoD.dq {K : PySem.W.Frag} {S : Hp} {o : HO} {d : Da} {a : Addr} (h : HoD K S o d) (r : S a = some o) : Dq K S (.ref a) d := by
  cases h with
  | lst h => exact .lst (.inl r) h
  | dk h => exact .dk r h
  | dt h => exact .dt r h
  | ins n h => exact .ins n r h
structure Br where
  S : Hp
  H : Hp
  deal : Option (Addr × Addr)
  bo : Nat → Option Addr
def FP (B : Br) (a : Addr) : Prop := ∃ p l, B.deal = some (p, l) ∧ (a = p ∨ a = l)
def DealAt (H : Hp) (p l : Addr) : Prop := p ≠ l ∧ ∃ (seed num : Int) (left : List Int),
  H p = some (.dK [((Sum.inr "seed" : Key), .int seed), (Sum.inr "number", .int num), (Sum.inr "left", .ref l)]) ∧ H l = some (.lst (left.map V.int)) ∧
  0 ≤ seed ∧ seed < 2 ^ 32 ∧ 0 ≤ num ∧ left.length ≤ 63 ∧ ∀ x ∈ left, 0 ≤ x
structure Wd (B : Br) (S H : Hp) : Prop where
  sub : ∀ a o, S a = some o → H a = some o
  bS : ∀ a o, B.S a = some o → S a = some o
  bH : ∀ a o, ¬ FP B a → B.H a = some o → H a = some o
  bN : ∀ a o, B.H a = some o → B.S a = none → S a = none
  deal : ∀ p l, B.deal = some (p, l) → DealAt H p l ∧ (∃ o, B.H p = some o) ∧ (∃ o, B.H l = some o) ∧ B.S p = none ∧ B.S l = none
def Own (K : PySem.W.Frag) (B : Br) (S H : Hp) (d : Da) (p : Addr) : Prop :=
  B.H p = none ∧ S p = none ∧ ∃ o, H p = some o ∧ HoD K S o d
structure Rel (K : PySem.W.Frag) (B : Br) (env : En) (S : Hp) (σ : L2.St) (H : Hp) : Prop where
  w : Wd B S H
  len : env.length = σ.length
  slot : ∀ (i : Nat) (d : Da), env[i]? = some (.val d) → ∃ v, σ[i]? = some (some v) ∧ Dq K S v d
  dl : ∀ (i : Nat), env[i]? = some .deal → ∃ p l, B.deal = some (p, l) ∧ σ[i]? = some (some (.ref p))
  own : ∀ (i : Nat) (b : Bool) (d : Da), env[i]? = some (.own b d) → ∃ p, σ[i]? = some (some (.ref p)) ∧ Own K B S H d p
  dist : ∀ (i j : Nat) (b c : Bool) (d e : Da) (p : Addr), env[i]? = some (.own b d) → env[j]? = some (.own c e) → σ[i]? = some (some (.ref p)) → σ[j]? = some (some (.ref p)) → i = j
  bor : ∀ (i : Nat) (d : Da), env[i]? = some (.bor d) → ∃ p, B.bo i = some p ∧ σ[i]? = some (some (.ref p)) ∧ Own K B S H d p
  obd : ∀ (i j : Nat) (b : Bool) (d e : Da) (p : Addr), env[i]? = some (.own b d) → env[j]? = some (.bor e) → σ[i]? = some (some (.ref p)) → σ[j]? = some (some (.ref p)) → False
  binj : ∀ (i j : Nat) (p : Addr), B.bo i = some p → B.bo j = some p → i = j
/-! ### exceptions: what is wished of them -/
structure Ex where
  cls : Str
  fs : List (Str × Da)
abbrev XX := Ex → En → Prop
structure ZX where
  K : PySem.W.Frag
  W : WX
  xx : XX
def exD (e : Ex) : Da := .dict ((.bool false, .str e.cls) :: e.fs.map fun p => (.str p.1, p.2))
def ExAt (K : PySem.W.Frag) (S : Hp) (cls : Value) (d : Option Addr) (e : Ex) : Prop :=
  ∃ C kvs, PySem.W.nsIn K mainGlobals e.cls = some (some (.ref C)) ∧ cls = .ref C ∧ XcD S d kvs ∧ DqK K S kvs (e.fs.map fun p => (.str p.1, p.2))
def XOk (Z : ZX) (B : Br) : Prop := ∀ (e : Ex) (env : En) (σ : L2.St) (S H : Hp) (cls : Value) (d : Option Addr), Z.xx e env → Rel Z.K B env S σ H → ExAt Z.K S cls d e → Z.W cls d σ H
/-- a base by which what is wished of exceptions holds -/
structure Bs (Z : ZX) extends Br where
  ok : XOk Z toBr
instance {Z : ZX} : CoeOut (Bs Z) Br := ⟨Bs.toBr⟩
/-- nothing is raised -/
def z0 (K : PySem.W.Frag) : ZX := ⟨K, fun _ _ _ _ => False, fun _ _ => False⟩
def b0 (K : PySem.W.Frag) (B : Br) : Bs (z0 K) := ⟨B, fun _ _ _ _ _ _ _ h => h.elim⟩
theorem Rel.ob {K : PySem.W.Frag} {B : Br} {env : En} {S : Hp} {σ : L2.St} {H : Hp} (R : Rel K B env S σ H) {i : Nat} {sv : SV} (h : env[i]? = some sv) (o : OB sv) : ∃ p d, σ[i]? = some (some (.ref p)) ∧ Own K B S H d p := by
  cases sv with
  | own b d =>
    obtain ⟨p, a, c⟩ := R.own i b d h
    exact ⟨p, d, a, c⟩
  | bor d =>
    obtain ⟨p, _, a, c⟩ := R.bor i d h
    exact ⟨p, d, a, c⟩
  | _ => exact o.elim
/-- what is fresh lies in no slot that knows alone -/
theorem Rel.fresh {K : PySem.W.Frag} {B : Br} {env : En} {S : Hp} {σ : L2.St} {H : Hp} (R : Rel K B env S σ H) {p : Addr} (hp : H p = none) : ∀ (i : Nat) (sv : SV), env[i]? = some sv → OB sv → σ[i]? ≠ some (some (.ref p)) := fun i sv h o z => by
  obtain ⟨p', d, a, _, _, u, c, _⟩ := R.ob h o
  rw [z] at a; cases a
  rw [hp] at c; cases c
/-- a step of an expression -/
def Stp (B : Br) (S H S' H' : Hp) : Prop := (∀ a o, S a = some o → S' a = some o) ∧ ∀ a o, ¬ FP B a → H a = some o → H' a = some o
theorem Stp.refl {B : Br} {S H : Hp} : Stp B S H S H := ⟨fun _ _ h => h, fun _ _ _ h => h⟩
theorem Stp.trans {B : Br} {S H S1 H1 S2 H2 : Hp} (a : Stp B S H S1 H1) (b : Stp B S1 H1 S2 H2) : Stp B S H S2 H2 :=
  ⟨fun x o h => b.1 x o (a.1 x o h), fun x o f h => b.2 x o f (a.2 x o f h)⟩
/-- a step that freezes at most what env owns -/
structure Stq (B : Br) (σ : L2.St) (env : En) (S H : Hp) (env' : En) (S' H' : Hp) : Prop where
  s : Stp B S H S' H'
  ow : ∀ (i : Nat) (sv : SV), env'[i]? = some sv → OB sv → env[i]? = some sv
  fz : ∀ a o, ¬ FP B a → H a = some o → S a = none → S' a = none ∨ ∃ (i : Nat) (d : Da), env[i]? = some (.own true d) ∧ σ[i]? = some (some (.ref a))
theorem Stq.refl {B : Br} {σ : L2.St} {env : En} {S H : Hp} : Stq B σ env S H env S H := ⟨.refl, fun _ _ h _ => h, fun _ _ _ _ h => .inl h⟩
theorem Stq.trans {B : Br} {σ : L2.St} {env env1 env2 : En} {S H S1 H1 S2 H2 : Hp} (a : Stq B σ env S H env1 S1 H1) (b : Stq B σ env1 S1 H1 env2 S2 H2) : Stq B σ env S H env2 S2 H2 :=
  ⟨a.s.trans b.s, fun i sv h o => a.ow i sv (b.ow i sv h o) o, fun x o f e n => by
    rcases a.fz x o f e n with z | z
    · rcases b.fz x o f (a.s.2 x o f e) z with y | ⟨i, d, y1, y2⟩
      · exact .inl y
      · exact .inr ⟨i, d, a.ow i _ y1 trivial, y2⟩
    · exact .inr z⟩
def IsR (K : PySem.W.Frag) (B : Br) (env : En) (S : Hp) (σ : L2.St) (H0 H : Hp) : SV → V → Prop
  | .val d, v => Dq K S v d
  | .own b d, v => b = true ∧ ∃ p, v = .ref p ∧ Own K B S H d p ∧ H0 p = none ∧ ∀ (i : Nat) (sv : SV), env[i]? = some sv → OB sv → σ[i]? ≠ some (some (.ref p))
  | .deal, v => ∃ p l, B.deal = some (p, l) ∧ v = .ref p
  | _, _ => False
/-- looked at -/
def IsP (K : PySem.W.Frag) (B : Br) (S H : Hp) (d : Da) (v : V) : Prop :=
  Dq K S v d ∨ ∃ p o, v = .ref p ∧ ¬ FP B p ∧ H p = some o ∧ HoD K S o d
section
variable {K : PySem.W.Frag} {S S' H H' : Hp}
theorem Rd.up {a : Addr} {u : HO} (e : ∀ a o, S a = some o → S' a = some o) (h : Rd S a u) : Rd S' a u := by
  rcases h with h | ⟨o, h⟩
  · exact .inl (e _ _ h)
  · exact .inr ⟨o, e _ _ h⟩
theorem SqL.up {a : Addr} {xs : List V} (e : ∀ a o, S a = some o → S' a = some o) (h : SqL K S a xs) : SqL K S' a xs := by
  rcases h with (h | ⟨o, h⟩) | h
  · exact .inl (.inl (e _ _ h))
  · exact .inl (.inr ⟨o, e _ _ h⟩)
  · exact .inr h
theorem SqT.up {a : Addr} {xs : List V} (e : ∀ a o, S a = some o → S' a = some o) (h : SqT K S a xs) : SqT K S' a xs := by
  rcases h with (h | ⟨o, h⟩) | h
  · exact .inl (.inl (e _ _ h))
  · exact .inl (.inr ⟨o, e _ _ h⟩)
  · exact .inr h
mutual
theorem Dq.up (e : ∀ a o, S a = some o → S' a = some o) : ∀ (d : Da) (v : V), Dq K S v d → Dq K S' v d
  | .none, _, h => by cases h; exact .non
  | .bool b, _, h => by cases h; exact .bl b
  | .int i, _, h => by cases h; exact .int i
  | .str x, _, h => by cases h; exact .str x
  | .list ds, _, h => by
    cases h with
    | lst hs ha => exact .lst (Rd.up e hs) (DqAll.up e ds _ ha)
  | .tuple ds, _, h => by
    cases h with
    | tup hs ha => exact .tup (PlT.up e hs) (DqAll.up e ds _ ha)
  | .dict ds, _, h => by
    cases h with
    | dk hs ha => exact .dk (e _ _ hs) (DqK.up e ds _ ha)
    | dt hs ha => exact .dt (e _ _ hs) (DqT.up e _ _ ha)
    | scr hs => exact .scr (SqL.up e hs)
    | pr hs ha => exact .pr (SqT.up e hs) (DqP.up e _ _ ha)
    | exc n hs hx ha => exact .exc n (e _ _ hs) (hx.up e) (DqK.up e _ _ ha)
    | ins n hs ha => exact .ins n (e _ _ hs) (DqK.up e _ _ ha)
theorem DqP.up (e : ∀ a o, S a = some o → S' a = some o) : ∀ (ds : List (Da × Da)) (vs : List V), DqP K S vs ds → DqP K S' vs ds
  | [], _, h => by cases h; exact .nil
  | (_, d) :: ds, _, h => by
    cases h with
    | cons h1 h2 => exact .cons (Dq.up e d _ h1) (DqP.up e ds _ h2)
theorem DqAll.up (e : ∀ a o, S a = some o → S' a = some o) : ∀ (ds : List Da) (vs : List V), DqAll K S vs ds → DqAll K S' vs ds
  | [], _, h => by cases h; exact .nil
  | d :: ds, _, h => by
    cases h with
    | cons h1 h2 => exact .cons (Dq.up e d _ h1) (DqAll.up e ds _ h2)
theorem DqK.up (e : ∀ a o, S a = some o → S' a = some o) : ∀ (ds : List (Da × Da)) (vs : List (Key × V)), DqK K S vs ds → DqK K S' vs ds
  | [], _, h => by cases h; exact .nil
  | (_, d) :: ds, _, h => by
    cases h with
    | cons h1 h2 => exact .cons (Dq.up e d _ h1) (DqK.up e ds _ h2)
theorem DqT.up (e : ∀ a o, S a = some o → S' a = some o) : ∀ (ds : List (Da × Da)) (vs : TKv), DqT K S vs ds → DqT K S' vs ds
  | [], _, h => by cases h; exact .nil
  | (_, d) :: ds, _, h => by
    cases h with
    | cons h0 h1 h2 => exact .cons (PlT.up e h0) (Dq.up e d _ h1) (DqT.up e ds _ h2)
end
theorem HoD.up {o : HO} {d : Da} (e : ∀ a o, S a = some o → S' a = some o) (h : HoD K S o d) : HoD K S' o d := by
  cases h with
  | lst h => exact .lst (DqAll.up e _ _ h)
  | dk h => exact .dk (DqK.up e _ _ h)
  | dt h => exact .dt (DqT.up e _ _ h)
  | ins n h => exact .ins n (DqK.up e _ _ h)
mutual
theorem Dq.dp : ∀ (d : Da) (v : V), d.canLay0 = true → Dq K S v d → Dp K S v d
  | .none, _, _, h => by cases h; exact .non
  | .bool b, _, _, h => by cases h; exact .bl b
  | .int i, _, _, h => by cases h; exact .int i
  | .str x, _, _, h => by cases h; exact .str x
  | .list ds, _, c, h => by
    cases h with
    | lst hs ha => exact .lst (.inl hs) (DqAll.dp ds _ (by simpa [PyData.canLay0] using c) ha)
  | .tuple ds, _, c, h => by
    cases h with
    | tup hs ha => exact .tup hs.sq (DqAll.dp ds _ (by simpa [PyData.canLay0] using c) ha)
  | .dict _, _, c, h => by simp [PyData.canLay0] at c
theorem DqAll.dp : ∀ (ds : List Da) (vs : List V), PyData.canLayAll0 ds = true → DqAll K S vs ds → DpAll K S vs ds
  | [], _, _, h => by cases h; exact .nil
  | d :: ds, _, c, h => by
    have c' : d.canLay0 = true ∧ PyData.canLayAll0 ds = true := by simpa [PyData.canLayAll0] using c
    cases h with
    | cons h1 h2 => exact .cons (Dq.dp d _ c'.1 h1) (DqAll.dp ds _ c'.2 h2)
end
theorem DqAll.length : ∀ {ds : List Da} {vs : List V}, DqAll K S vs ds → vs.length = ds.length
  | [], _, h => by cases h; rfl
  | d :: ds, _, h => by
    cases h with
    | cons h1 h2 => rw [List.length_cons, List.length_cons, DqAll.length h2]
theorem DqAll.get : ∀ {ds : List Da} {vs : List V} {i : Nat} {d : Da}, DqAll K S vs ds → ds[i]? = some d → ∃ v, vs[i]? = some v ∧ Dq K S v d
  | [], _, _, _, h, e => by simp at e
  | d :: ds, _, 0, _, h, e => by
    cases h with
    | cons h1 h2 => simp at e; subst e; exact ⟨_, rfl, h1⟩
  | d :: ds, _, i + 1, _, h, e => by
    cases h with
    | cons h1 h2 =>
      obtain ⟨v, a, b⟩ := DqAll.get (i := i) h2 (by simpa using e)
      exact ⟨v, by simpa using a, b⟩
theorem DqAll.app : ∀ {ds es : List Da} {vs us : List V}, DqAll K S vs ds → DqAll K S us es → DqAll K S (vs ++ us) (ds ++ es)
  | [], _, _, _, h, h' => by cases h; exact h'
  | d :: ds, _, _, _, h, h' => by
    cases h with
    | cons h1 h2 => exact .cons h1 (DqAll.app h2 h')
theorem DqAll.drop : ∀ {ds : List Da} {vs : List V} (n : Nat), DqAll K S vs ds → DqAll K S (vs.drop n) (ds.drop n)
  | _, _, 0, h => h
  | [], _, n + 1, h => by cases h; exact .nil
  | d :: ds, _, n + 1, h => by
    cases h with
    | cons h1 h2 => exact DqAll.drop n h2
theorem DqAll.take : ∀ {ds : List Da} {vs : List V} (n : Nat), DqAll K S vs ds → DqAll K S (vs.take n) (ds.take n)
  | _, _, 0, h => .nil
  | [], _, n + 1, h => by cases h; exact .nil
  | d :: ds, _, n + 1, h => by
    cases h with
    | cons h1 h2 => exact .cons h1 (DqAll.take n h2)
theorem DqAll.set : ∀ {ds : List Da} {vs : List V} (n : Nat) {v : V} {d : Da}, DqAll K S vs ds → Dq K S v d → DqAll K S (vs.set n v) (ds.set n d)
  | [], _, n, _, _, h, _ => by cases h; exact .nil
  | d :: ds, _, 0, _, _, h, h' => by
    cases h with
    | cons h1 h2 => exact .cons h' h2
  | d :: ds, _, n + 1, _, _, h, h' => by
    cases h with
    | cons h1 h2 => exact .cons h1 (DqAll.set n h2 h')
theorem IsP.up {B : Br} {d : Da} {v : V} (e : Stp B S H S' H') (h : IsP K B S H d v) : IsP K B S' H' d v := by
  rcases h with h | ⟨p, o, h1, h3, h4, h5⟩
  · exact .inl (Dq.up e.1 _ _ h)
  · exact .inr ⟨p, o, h1, h3, e.2 _ _ h3 h4, h5.up e.1⟩
theorem upd_sub {p : Addr} {o : HO} (h : H p = none) : ∀ a x, H a = some x → upd H p o a = some x := fun a x e => by
  rw [upd_ne (ne_of_none e h)]; exact e
end
section
variable {K : PySem.W.Frag} {B : Br} {env : En} {S H : Hp} {σ : L2.St}
theorem Wd.snone {p : Addr} (w : Wd B S H) (h : H p = none) : S p = none := by
  cases e : S p with
  | none => rfl
  | some o => rw [w.sub _ _ e] at h; cases h
theorem Wd.fp {a : Addr} (w : Wd B S H) (f : FP B a) : (∃ o, B.H a = some o) ∧ B.S a = none ∧ ∃ o, H a = some o := by
  obtain ⟨p, l, e, z⟩ := f
  obtain ⟨⟨_, _, _, _, d1, d2, _⟩, d3, d4, d5, d6⟩ := w.deal p l e
  rcases z with rfl | rfl
  · exact ⟨d3, d5, _, d1⟩
  · exact ⟨d4, d6, _, d2⟩
theorem Wd.bnone {p : Addr} (w : Wd B S H) (h : H p = none) : B.H p = none := by
  cases e : B.H p with
  | none => rfl
  | some o =>
    by_cases f : FP B p
    · obtain ⟨_, _, o, q⟩ := w.fp f
      rw [q] at h; cases h
    · rw [w.bH _ _ f e] at h; cases h
theorem Wd.nfp {p : Addr} (w : Wd B S H) (h : B.H p = none) : ¬ FP B p := fun f => by
  obtain ⟨⟨o, e⟩, _⟩ := w.fp f
  rw [e] at h; cases h
theorem DealAt.up {H' : Hp} {p l : Addr} (d : DealAt H p l) (e1 : H' p = H p) (e2 : H' l = H l) : DealAt H' p l := by
  unfold DealAt at *
  rw [e1, e2]; exact d
/-- a fresh object, not yet stable -/
theorem Wd.alloc {p : Addr} {o : HO} (w : Wd B S H) (h : H p = none) : Wd B S (upd H p o) := by
  refine ⟨fun a x e => upd_sub h a x (w.sub a x e), w.bS, fun a x f e => upd_sub h a x (w.bH a x f e), w.bN, fun q l e => ?_⟩
  obtain ⟨d1, d2⟩ := w.deal q l e
  refine ⟨?_, d2⟩
  obtain ⟨n, _, _, _, a1, a2, _⟩ := id d1
  exact d1.up (upd_ne (ne_of_none a1 h)) (upd_ne (ne_of_none a2 h))
theorem Wd.allocS {p : Addr} {o : HO} (w : Wd B S H) (h : H p = none) : Wd B (upd S p o) (upd H p o) := by
  have w' := w.alloc (o := o) h
  have sp := w.snone h
  have bp := w.bnone h
  refine ⟨fun a x e => ?_, fun a x e => upd_sub sp a x (w.bS a x e), w'.bH, fun a x e e2 => ?_, w'.deal⟩
  · by_cases q : a = p
    · subst q; rw [upd_same] at e ⊢; exact e
    · rw [upd_ne q] at e ⊢; exact w.sub a x e
  · have q : a ≠ p := fun z => by subst z; rw [bp] at e; cases e
    rw [upd_ne q]; exact w.bN a x e e2
theorem stp_alloc {p : Addr} {o : HO} (h : H p = none) : Stp B S H S (upd H p o) := ⟨fun _ _ e => e, fun a x _ e => upd_sub h a x e⟩
theorem stq_alloc {p : Addr} {o : HO} (h : H p = none) : Stq B σ env S H env S (upd H p o) := ⟨stp_alloc h, fun _ _ e _ => e, fun _ _ _ _ e => .inl e⟩
theorem stp_allocS {p : Addr} {o : HO} (w : Wd B S H) (h : H p = none) : Stp B S H (upd S p o) (upd H p o) := ⟨fun a x e => upd_sub (w.snone h) a x e, fun a x _ e => upd_sub h a x e⟩
theorem stq_allocS {p : Addr} {o : HO} (w : Wd B S H) (h : H p = none) : Stq B σ env S H env (upd S p o) (upd H p o) := ⟨stp_allocS w h, fun _ _ e _ => e, fun a u _ e n => .inl (by rw [upd_ne (ne_of_none e h)]; exact n)⟩
theorem IsR.back {env1 env2 : En} {S1 H1 S2 H2 : Hp} {r : SV} {v : V} (w : Wd B S H) (st : Stq B σ env S H env1 S1 H1) (h : IsR K B env2 S2 σ H1 H2 r v) : IsR K B env2 S2 σ H H2 r v := by
  cases r with
  | own b d =>
    obtain ⟨hb, p, e, o, hn, k⟩ := h
    refine ⟨hb, p, e, o, ?_, k⟩
    cases z : H p with
    | none => rfl
    | some u => rw [st.s.2 p u (w.nfp o.1) z] at hn; cases hn
  | _ => exact h
/-- the env stands over a step that keeps what it owns out of S -/
theorem Rel.stp {S' H' : Hp} (R : Rel K B env S σ H) (w : Wd B S' H') (e : Stp B S H S' H') (k : ∀ (i : Nat) (sv : SV) (p : Addr), env[i]? = some sv → OB sv → σ[i]? = some (some (.ref p)) → S' p = none) : Rel K B env S' σ H' := by
  refine ⟨w, R.len, fun i d h => ?_, R.dl, fun i b d h => ?_, R.dist, fun i d h => ?_, R.obd, R.binj⟩
  · obtain ⟨v, a, b⟩ := R.slot i d h
    exact ⟨v, a, Dq.up e.1 _ _ b⟩
  · obtain ⟨p, a, c1, c, o, d2, d3⟩ := R.own i b d h
    exact ⟨p, a, c1, k i _ p h trivial a, o, e.2 _ _ (w.nfp c1) d2, d3.up e.1⟩
  · obtain ⟨p, b, a, c1, c, o, d2, d3⟩ := R.bor i d h
    exact ⟨p, b, a, c1, k i _ p h trivial a, o, e.2 _ _ (w.nfp c1) d2, d3.up e.1⟩
theorem Rel.alloc {p : Addr} {o : HO} (R : Rel K B env S σ H) (h : H p = none) : Rel K B env S σ (upd H p o) :=
  R.stp (R.w.alloc h) (stp_alloc h) fun i sv q a ob b => by
    obtain ⟨p', d, a', b', c', _⟩ := R.ob a ob
    rw [b] at a'; cases a'; exact c'
theorem Rel.allocS {p : Addr} {o : HO} (R : Rel K B env S σ H) (h : H p = none) : Rel K B env (upd S p o) σ (upd H p o) :=
  R.stp (R.w.allocS h) (stp_allocS R.w h) fun i sv q a ob b => by
    obtain ⟨p', d, a', b', c', o', d2, d3⟩ := R.ob a ob
    rw [b] at a'; cases a'
    rw [upd_ne (ne_of_none d2 h)]; exact c'
theorem getElem?_setp {α : Type} {l : List α} {i j : Nat} {x y : α} (h : (l.set i x)[j]? = some y) : (i = j ∧ y = x) ∨ (i ≠ j ∧ l[j]? = some y) := by
  by_cases e : i = j
  · subst e
    by_cases hl : i < l.length
    · rw [List.getElem?_set_self hl] at h; exact .inl ⟨rfl, (Option.some.inj h).symm⟩
    · rw [List.getElem?_eq_none (by simpa using hl)] at h; cases h
  · rw [List.getElem?_set_ne e] at h; exact .inr ⟨e, h⟩
/-- what a slot owns is frozen -/
theorem Rel.frz {i : Nat} {d0 : Da} {o0 : HO} {p : Addr} (R : Rel K B env S σ H) {w : Bool} (h : env[i]? = some (.own w d0)) (hs : σ[i]? = some (some (.ref p))) (hp : H p = some o0) (hd : HoD K S o0 d0) (hB : B.H p = none) (hS : S p = none) :
    Rel K B (env.set i (.val d0)) (upd S p o0) σ H ∧ (w = true → Stq B σ env S H (env.set i (.val d0)) (upd S p o0) H) := by
  have e1 : ∀ a o, S a = some o → upd S p o0 a = some o := upd_sub hS
  have w' : Wd B (upd S p o0) H := by
    refine ⟨fun a o e => ?_, fun a o e => e1 a o (R.w.bS a o e), R.w.bH, fun a o e e2 => ?_, R.w.deal⟩
    · by_cases q : a = p
      · subst q; rw [upd_same] at e; cases e; exact hp
      · rw [upd_ne q] at e; exact R.w.sub a o e
    · have q : a ≠ p := fun z => by subst z; rw [hB] at e; cases e
      rw [upd_ne q]; exact R.w.bN a o e e2
  refine ⟨⟨w', by rw [List.length_set]; exact R.len, fun j d e => ?_, fun j e => ?_, fun j b d e => ?_, fun j k b b' d d' q e e' => ?_, fun j d e => ?_, fun j k b d d' q e e' => ?_, R.binj⟩, fun hw => ⟨⟨e1, fun _ _ _ e => e⟩, fun j sv e o => ?_, fun a o f e n => ?_⟩⟩
  · rcases getElem?_setp e with ⟨e2, e3⟩ | ⟨e2, e3⟩
    · cases e3; subst e2
      exact ⟨.ref p, hs, (hd.up e1).dq upd_same⟩
    · obtain ⟨v, a, b⟩ := R.slot j d e3
      exact ⟨v, a, Dq.up e1 _ _ b⟩
  · rcases getElem?_setp e with ⟨e2, e3⟩ | ⟨e2, e3⟩
    · cases e3
    · exact R.dl j e3
  · rcases getElem?_setp e with ⟨e2, e3⟩ | ⟨e2, e3⟩
    · cases e3
    · obtain ⟨q, a, b', c, o', d2, d3⟩ := R.own j b d e3
      refine ⟨q, a, b', ?_, o', d2, d3.up e1⟩
      have nq : q ≠ p := fun z => by
        subst z
        exact e2 (R.dist i j _ _ _ _ q h e3 hs a)
      rw [upd_ne nq]; exact c
  · rcases getElem?_setp e with ⟨e2, e3⟩ | ⟨e2, e3⟩
    · cases e3
    · rcases getElem?_setp e' with ⟨e2', e3'⟩ | ⟨e2', e3'⟩
      · cases e3'
      · exact R.dist j k b b' d d' q e3 e3'
  · rcases getElem?_setp e with ⟨e2, e3⟩ | ⟨e2, e3⟩
    · cases e3
    · obtain ⟨q, bq, a, b', c, o', d2, d3⟩ := R.bor j d e3
      refine ⟨q, bq, a, b', ?_, o', d2, d3.up e1⟩
      have nq : q ≠ p := fun z => by
        subst z
        exact R.obd i j _ _ _ q h e3 hs a
      rw [upd_ne nq]; exact c
  · rcases getElem?_setp e with ⟨e2, e3⟩ | ⟨e2, e3⟩
    · cases e3
    · rcases getElem?_setp e' with ⟨e2', e3'⟩ | ⟨e2', e3'⟩
      · cases e3'
      · exact R.obd j k b d d' q e3 e3'
  · rcases getElem?_setp e with ⟨e2, e3⟩ | ⟨e2, e3⟩
    · subst e3; exact o.elim
    · exact e3
  · by_cases q : a = p
    · subst q; subst hw; exact .inr ⟨i, _, h, hs⟩
    · rw [upd_ne q]; exact .inl n
theorem Rel.setV {i : Nat} {d : Da} {v : V} (R : Rel K B env S σ H) (h : Dq K S v d) (hi : i < env.length) : Rel K B (env.set i (.val d)) S (σ.set i (some v)) H := by
  have hi' : i < σ.length := by rw [← R.len]; exact hi
  refine ⟨R.w, by rw [List.length_set, List.length_set]; exact R.len, fun j d e => ?_, fun j e => ?_, fun j c d e => ?_, fun j k c c' d d' q e e' a b => ?_, fun j d e => ?_, fun j k c d d' q e e' a b => ?_, R.binj⟩
  · rcases getElem?_setp e with ⟨e2, e3⟩ | ⟨e2, e3⟩
    · cases e3; subst e2
      exact ⟨v, List.getElem?_set_self hi', h⟩
    · rw [List.getElem?_set_ne e2]; exact R.slot j d e3
  · rcases getElem?_setp e with ⟨e2, e3⟩ | ⟨e2, e3⟩
    · cases e3
    · rw [List.getElem?_set_ne e2]; exact R.dl j e3
  · rcases getElem?_setp e with ⟨e2, e3⟩ | ⟨e2, e3⟩
    · cases e3
    · rw [List.getElem?_set_ne e2]; exact R.own j c d e3
  · rcases getElem?_setp e with ⟨e2, e3⟩ | ⟨e2, e3⟩
    · cases e3
    · rcases getElem?_setp e' with ⟨e2', e3'⟩ | ⟨e2', e3'⟩
      · cases e3'
      · rw [List.getElem?_set_ne e2] at a
        rw [List.getElem?_set_ne e2'] at b
        exact R.dist j k c c' d d' q e3 e3' a b
  · rcases getElem?_setp e with ⟨e2, e3⟩ | ⟨e2, e3⟩
    · cases e3
    · rw [List.getElem?_set_ne e2]; exact R.bor j d e3
  · rcases getElem?_setp e with ⟨e2, e3⟩ | ⟨e2, e3⟩
    · cases e3
    · rcases getElem?_setp e' with ⟨e2', e3'⟩ | ⟨e2', e3'⟩
      · cases e3'
      · rw [List.getElem?_set_ne e2] at a
        rw [List.getElem?_set_ne e2'] at b
        exact R.obd j k c d d' q e3 e3' a b
theorem Rel.setN {i : Nat} {x : Option V} (R : Rel K B env S σ H) (hi : i < env.length) : Rel K B (env.set i .no) S (σ.set i x) H := by
  have hi' : i < σ.length := by rw [← R.len]; exact hi
  refine ⟨R.w, by rw [List.length_set, List.length_set]; exact R.len, fun j d e => ?_, fun j e => ?_, fun j c d e => ?_, fun j k c c' d d' q e e' a b => ?_, fun j d e => ?_, fun j k c d d' q e e' a b => ?_, R.binj⟩
  · rcases getElem?_setp e with ⟨e2, e3⟩ | ⟨e2, e3⟩
    · cases e3
    · rw [List.getElem?_set_ne e2]; exact R.slot j d e3
  · rcases getElem?_setp e with ⟨e2, e3⟩ | ⟨e2, e3⟩
    · cases e3
    · rw [List.getElem?_set_ne e2]; exact R.dl j e3
  · rcases getElem?_setp e with ⟨e2, e3⟩ | ⟨e2, e3⟩
    · cases e3
    · rw [List.getElem?_set_ne e2]; exact R.own j c d e3
  · rcases getElem?_setp e with ⟨e2, e3⟩ | ⟨e2, e3⟩
    · cases e3
    · rcases getElem?_setp e' with ⟨e2', e3'⟩ | ⟨e2', e3'⟩
      · cases e3'
      · rw [List.getElem?_set_ne e2] at a
        rw [List.getElem?_set_ne e2'] at b
        exact R.dist j k c c' d d' q e3 e3' a b
  · rcases getElem?_setp e with ⟨e2, e3⟩ | ⟨e2, e3⟩
    · cases e3
    · rw [List.getElem?_set_ne e2]; exact R.bor j d e3
  · rcases getElem?_setp e with ⟨e2, e3⟩ | ⟨e2, e3⟩
    · cases e3
    · rcases getElem?_setp e' with ⟨e2', e3'⟩ | ⟨e2', e3'⟩
      · cases e3'
      · rw [List.getElem?_set_ne e2] at a
        rw [List.getElem?_set_ne e2'] at b
        exact R.obd j k c d d' q e3 e3' a b
theorem Rel.setO {i : Nat} {w : Bool} {d : Da} {p : Addr} (R : Rel K B env S σ H) (h : Own K B S H d p) (hn : ∀ (j : Nat) (sv : SV), env[j]? = some sv → OB sv → σ[j]? ≠ some (some (.ref p))) (hi : i < env.length) : Rel K B (env.set i (.own w d)) S (σ.set i (some (.ref p))) H := by
  have hi' : i < σ.length := by rw [← R.len]; exact hi
  refine ⟨R.w, by rw [List.length_set, List.length_set]; exact R.len, fun j d e => ?_, fun j e => ?_, fun j c d e => ?_, fun j k c c' d d' q e e' a b => ?_, fun j d e => ?_, fun j k c d d' q e e' a b => ?_, R.binj⟩
  · rcases getElem?_setp e with ⟨e2, e3⟩ | ⟨e2, e3⟩
    · cases e3
    · rw [List.getElem?_set_ne e2]; exact R.slot j d e3
  · rcases getElem?_setp e with ⟨e2, e3⟩ | ⟨e2, e3⟩
    · cases e3
    · rw [List.getElem?_set_ne e2]; exact R.dl j e3
  · rcases getElem?_setp e with ⟨e2, e3⟩ | ⟨e2, e3⟩
    · cases e3; subst e2
      exact ⟨p, List.getElem?_set_self hi', h⟩
    · rw [List.getElem?_set_ne e2]; exact R.own j c d e3
  · rcases getElem?_setp e with ⟨e2, e3⟩ | ⟨e2, e3⟩
    · rcases getElem?_setp e' with ⟨e2', e3'⟩ | ⟨e2', e3'⟩
      · rw [← e2, ← e2']
      · subst e2
        rw [List.getElem?_set_self hi'] at a
        rw [List.getElem?_set_ne e2'] at b
        cases a
        exact absurd b (hn k _ e3' trivial)
    · rcases getElem?_setp e' with ⟨e2', e3'⟩ | ⟨e2', e3'⟩
      · subst e2'
        rw [List.getElem?_set_self hi'] at b
        rw [List.getElem?_set_ne e2] at a
        cases b
        exact absurd a (hn j _ e3 trivial)
      · rw [List.getElem?_set_ne e2] at a
        rw [List.getElem?_set_ne e2'] at b
        exact R.dist j k c c' d d' q e3 e3' a b
  · rcases getElem?_setp e with ⟨e2, e3⟩ | ⟨e2, e3⟩
    · cases e3
    · rw [List.getElem?_set_ne e2]; exact R.bor j d e3
  · rcases getElem?_setp e' with ⟨e2', e3'⟩ | ⟨e2', e3'⟩
    · cases e3'
    · rcases getElem?_setp e with ⟨e2, e3⟩ | ⟨e2, e3⟩
      · subst e2
        rw [List.getElem?_set_self hi'] at a
        rw [List.getElem?_set_ne e2'] at b
        cases a
        exact hn k _ e3' trivial b
      · rw [List.getElem?_set_ne e2] at a
        rw [List.getElem?_set_ne e2'] at b
        exact R.obd j k c d d' q e3 e3' a b
/-- the same kind of slot with other data -/
def kin : SV → Da → SV
  | .bor _, d => .bor d
  | .own w _, d => .own w d
  | r, _ => r
end
end Pq
set_option Elab.async false
set_option linter.all false
set_option maxRecDepth 100000
set_option maxHeartbeats 4000000
namespace Pq
open PySem PySem.Spec PyProof.Rows L2
/-! ### results set into the env; freezing -/
section
variable {K : PySem.W.Frag} {B : Br} {env : En} {S H : Hp} {σ : L2.St}
theorem Rel.step {S' H' : Hp} (R : Rel K B env S σ H) (w : Wd B S' H') (e : Stp B S H S' H') (k : ∀ p, H p ≠ none → B.H p = none → S p = none → S' p = none) : Rel K B env S' σ H' :=
  R.stp w e fun i sv p a ob c => by
    obtain ⟨p', d, a', b', c', o', d2, d3⟩ := R.ob a ob
    rw [c] at a'; cases a'
    exact k p (by rw [d2]; exact fun z => nomatch z) b' c'
/-- a result that is owned becomes stable -/
theorem IsR.frz {env' : En} {S' H' : Hp} {b : Bool} {d : Da} {v : V} (st : Stq B σ env S H env' S' H') (R : Rel K B env' S' σ H') (h : IsR K B env' S' σ H H' (.own b d) v) : ∃ S2, Stq B σ env S H env' S2 H' ∧ Rel K B env' S2 σ H' ∧ Dq K S2 v d := by
  obtain ⟨hb, p, rfl, ⟨hB, hS, o0, hp, hd⟩, h0, hn⟩ := h
  have e1 : ∀ a o, S' a = some o → upd S' p o0 a = some o := upd_sub hS
  have w : Wd B (upd S' p o0) H' := by
    refine ⟨fun a o e => ?_, fun a o e => e1 a o (R.w.bS a o e), R.w.bH, fun a o e e2 => ?_, R.w.deal⟩
    · by_cases q : a = p
      · subst q; rw [upd_same] at e; cases e; exact hp
      · rw [upd_ne q] at e; exact R.w.sub a o e
    · have q : a ≠ p := fun z => by subst z; rw [hB] at e; cases e
      rw [upd_ne q]; exact R.w.bN a o e e2
  refine ⟨_, ⟨⟨fun a o e => e1 a o (st.s.1 a o e), st.s.2⟩, st.ow, fun a o f e n => ?_⟩, R.stp w ⟨e1, fun _ _ _ e => e⟩ fun i sv q a ob z => ?_, (hd.up e1).dq upd_same⟩
  · rw [upd_ne (ne_of_none e h0)]; exact st.fz a o f e n
  · have nq : q ≠ p := fun y => by subst y; exact hn i sv a ob z
    rw [upd_ne nq]
    obtain ⟨p', d', a', b', c', _⟩ := R.ob a ob
    rw [z] at a'; cases a'; exact c'
end
/-! ### the modes -/
abbrev ME := En → (SV → En → Prop) → Prop
abbrev MP := En → (Da → En → Prop) → Prop
abbrev MT := En → (Bool → En → Prop) → Prop
abbrev MA := En → (List SV → En → Prop) → Prop
abbrev ML := En → (List Da → En → Prop) → Prop
def AllR (K : PySem.W.Frag) (dl : Option (Addr × Addr)) (S : Hp) : List SV → List V → Prop
  | [], vs => vs = []
  | .val d :: rs, vs => ∃ v r, vs = v :: r ∧ Dq K S v d ∧ AllR K dl S rs r
  | .deal :: rs, vs => ∃ p l r, vs = .ref p :: r ∧ dl = some (p, l) ∧ AllR K dl S rs r
  | _, _ => False
theorem AllR.up {K : PySem.W.Frag} {dl : Option (Addr × Addr)} {S S' : Hp} (e : ∀ a o, S a = some o → S' a = some o) : ∀ {rs : List SV} {vs : List V}, AllR K dl S rs vs → AllR K dl S' rs vs
  | [], _, h => h
  | .val d :: rs, _, h => by
    obtain ⟨v, r, a, b, c⟩ := h
    exact ⟨v, r, a, Dq.up e _ _ b, AllR.up e c⟩
  | .deal :: rs, _, h => by
    obtain ⟨p, l, r, a, b, c⟩ := h
    exact ⟨p, l, r, a, b, AllR.up e c⟩
  | .no :: _, _, h => h.elim
  | .own _ _ :: _, _, h => h.elim
  | .bor _ :: _, _, h => h.elim
  | .res _ _ _ :: _, _, h => h.elim
theorem AllR.length {K : PySem.W.Frag} {dl : Option (Addr × Addr)} {S : Hp} : ∀ {rs : List SV} {vs : List V}, AllR K dl S rs vs → vs.length = rs.length
  | [], _, h => by cases (show _ = [] from h); rfl
  | .val d :: rs, _, h => by
    obtain ⟨v, r, rfl, b, c⟩ := h
    rw [List.length_cons, List.length_cons, AllR.length c]
  | .deal :: rs, _, h => by
    obtain ⟨p, l, r, rfl, b, c⟩ := h
    rw [List.length_cons, List.length_cons, AllR.length c]
  | .no :: _, _, h => h.elim
  | .own _ _ :: _, _, h => h.elim
  | .bor _ :: _, _, h => h.elim
  | .res _ _ _ :: _, _, h => h.elim
def AllP (K : PySem.W.Frag) (B : Br) (S H : Hp) : List Da → List V → Prop
  | [], vs => vs = []
  | d :: ds, vs => ∃ v r, vs = v :: r ∧ IsP K B S H d v ∧ AllP K B S H ds r
theorem AllP.up {K : PySem.W.Frag} {B : Br} {S H S' H' : Hp} (e : Stp B S H S' H') : ∀ {ds : List Da} {vs : List V}, AllP K B S H ds vs → AllP K B S' H' ds vs
  | [], _, h => h
  | d :: ds, _, h => by
    obtain ⟨v, r, a, b, c⟩ := h
    exact ⟨v, r, a, IsP.up e b, AllP.up e c⟩
section
variable (Z : ZX) (K : PySem.W.Frag)
def tE (m : ME) : TE := fun σ H Q => ∃ B : Bs Z, ∃ env S, ∃ Q0 : SV → En → Prop, Rel K B env S σ H ∧ m env Q0 ∧ ∀ r env', Q0 r env' → ∀ v S' H', Stq B σ env S H env' S' H' → Rel K B env' S' σ H' → IsR K B env' S' σ H H' r v → Q v H'
def tP (m : MP) : TE := fun σ H Q => ∃ B : Bs Z, ∃ env S, ∃ Q0 : Da → En → Prop, Rel K B env S σ H ∧ m env Q0 ∧ ∀ d env', Q0 d env' → ∀ v S' H', Stq B σ env S H env' S' H' → Rel K B env' S' σ H' → IsP K B S' H' d v → Q v H'
def tS (m : MP) : TE := fun σ H Q => ∃ B : Bs Z, ∃ env S, ∃ Q0 : Da → En → Prop, Rel K B env S σ H ∧ m env Q0 ∧ ∀ d env', Q0 d env' → ∀ v S' H', Stq B σ env S H env' S' H' → Rel K B env' S' σ H' → Dq K S' v d → Q v H'
def tT (m : MT) : TT := fun σ H Q => ∃ B : Bs Z, ∃ env S, ∃ Q0 : Bool → En → Prop, Rel K B env S σ H ∧ m env Q0 ∧ ∀ b env', Q0 b env' → ∀ S' H', Stq B σ env S H env' S' H' → Rel K B env' S' σ H' → Q b H'
def tAr (m : MA) : TA := fun σ H Q => ∃ B : Bs Z, ∃ env S, ∃ Q0 : List SV → En → Prop, Rel K B env S σ H ∧ m env Q0 ∧ ∀ rs env', Q0 rs env' → ∀ vs S' H', Stq B σ env S H env' S' H' → Rel K B env' S' σ H' → AllR K B.deal S' rs vs → Q vs H'
def tPs (m : ML) : TA := fun σ H Q => ∃ B : Bs Z, ∃ env S, ∃ Q0 : List Da → En → Prop, Rel K B env S σ H ∧ m env Q0 ∧ ∀ ds env', Q0 ds env' → ∀ vs S' H', Stq B σ env S H env' S' H' → Rel K B env' S' σ H' → AllP K B S' H' ds vs → Q vs H'
end
section
variable (Z : ZX) (X : Cx)
abbrev DE (e : Expr) (m : ME) : Prop := PE X e (tE Z X.K m)
abbrev DP (e : Expr) (m : MP) : Prop := PE X e (tP Z X.K m)
abbrev DS (e : Expr) (m : MP) : Prop := PE X e (tS Z X.K m)
abbrev DT (e : Expr) (m : MT) : Prop := PT X e (tT Z X.K m)
abbrev DA (es : List Expr) (m : MA) : Prop := PA X es (tAr Z X.K m)
abbrev DPs (es : List Expr) (m : ML) : Prop := PA X es (tPs Z X.K m)
end
section
variable {X : Cx}
theorem _root_.L2.PE.un {e : Expr} {t' : TE} (h : ∀ σ H Q, t' σ H Q → ∃ t, PE X e t ∧ t σ H Q) : PE X e t' := ⟨fun pins s σ H Q I h' => by
  obtain ⟨t, p, q⟩ := h σ H Q h'
  exact p.run pins s σ H Q I q⟩
theorem _root_.L2.PE.wk {e : Expr} {t t' : TE} (p : PE X e t) (h : ∀ σ H Q, t' σ H Q → t σ H Q) : PE X e t' := ⟨fun pins s σ H Q I h' => p.run pins s σ H Q I (h σ H Q h')⟩
theorem _root_.L2.PT.wk {e : Expr} {t t' : TT} (p : PT X e t) (h : ∀ σ H Q, t' σ H Q → t σ H Q) : PT X e t' := ⟨fun pins s σ H Q I h' => p.run pins s σ H Q I (h σ H Q h')⟩
theorem _root_.L2.PA.wk {es : List Expr} {t t' : TA} (p : PA X es t) (h : ∀ σ H Q, t' σ H Q → t σ H Q) : PA X es t' := ⟨fun ps pins s σ H Q I h' => p.run ps pins s σ H Q I (h σ H Q h')⟩
theorem _root_.L2.PS.wk {st : Stmt} {t t' : TS} (p : PS X st t) (h : ∀ D σ H, t' D σ H → t D σ H) : PS X st t' := ⟨fun pins s σ H D I h' => p.run pins s σ H D I (h D σ H h')⟩
theorem _root_.L2.PSs.wk {st : List Stmt} {t t' : TS} (p : PSs X st t) (h : ∀ D σ H, t' D σ H → t D σ H) : PSs X st t' := ⟨fun pins s σ H D I h' => p.run pins s σ H D I (h D σ H h')⟩
def uR (X : Cx) (g : Value → Value → Sem Value) : R2 := fun x y H Q => ∃ r, OpR X g r ∧ r x y H Q
theorem OpR.un {g : Value → Value → Sem Value} : OpR X g (uR X g) := fun pins s σ H x y v u Q I rx ry h => by
  obtain ⟨r, p, q⟩ := h
  exact p pins s σ H x y v u Q I rx ry q
def uC (X : Cx) (f : Value) : List V → Hp → VK → Prop := fun xs H Q => ∃ r, CallR X f r ∧ r xs H Q
theorem CallR.un {f : Value} : CallR X f (uC X f) := fun pins s σ H xs us Q I rx h => by
  obtain ⟨r, p, q⟩ := h
  exact p pins s σ H xs us Q I rx q
def uI (X : Cx) : R2 := fun x y H Q => ∃ r, IxR X r ∧ r x y H Q
theorem IxR.un : IxR X (uI X) := fun a b pins s σ H x y v u Q I rx ry h => by
  obtain ⟨r, p, q⟩ := h
  exact p a b pins s σ H x y v u Q I rx ry q
def uM (X : Cx) (id : String) : V → List V → Hp → VK → Prop := fun x xs H Q => ∃ r, MtR X id r ∧ r x xs H Q
theorem MtR.un {id : String} : MtR X id (uM X id) := fun pins s σ H x xs v us Q I rx rs h => by
  obtain ⟨r, p, q⟩ := h
  exact p pins s σ H x xs v us Q I rx rs q
def uL (X : Cx) : V → Option Int → Option Int → Hp → VK → Prop := fun x lo hi H Q => ∃ r, SlR X r ∧ r x lo hi H Q
theorem SlR.un : SlR X (uL X) := fun pins s σ H x v vl vu lo hi sl Q I rx hs pl pu h => by
  obtain ⟨r, p, q⟩ := h
  exact p pins s σ H x v vl vu lo hi sl Q I rx hs pl pu q
/-! ### what is left to show of a result -/
def Cl (K : PySem.W.Frag) (B : Br) (env : En) (S : Hp) (σ : L2.St) (H : Hp) (Q : SV → Prop) (Q' : VK) : Prop :=
  ∀ r v S' H', Q r → Stq B σ env S H env S' H' → Rel K B env S' σ H' → IsR K B env S' σ H H' r v → Q' v H'
section
variable {K : PySem.W.Frag} {B : Br} {env : En} {S H : Hp} {σ : L2.St} {Q : SV → Prop} {Q' : VK}
theorem Cl.val {d : Da} {v : V} (c : Cl K B env S σ H Q Q') (R : Rel K B env S σ H) (q : Q (.val d)) (h : Dq K S v d) : Q' v H := c _ v S H q .refl R h
theorem Cl.newT {ds : List Da} {vs : List V} {p : Addr} (c : Cl K B env S σ H Q Q') (R : Rel K B env S σ H) (q : Q (.val (.tuple ds))) (h : DqAll K S vs ds) (hp : H p = none) {o : Obj} (ho : o.dict = none) : Q' (.ref p) (upd H p (.frz o (.tup vs))) :=
  c _ _ _ _ q (stq_allocS R.w hp) (R.allocS hp) (Dq.tup (.inl ⟨o, upd_same, ho⟩) (DqAll.up (upd_sub (R.w.snone hp)) _ _ h))
theorem Cl.newL {ds : List Da} {vs : List V} {p : Addr} (c : Cl K B env S σ H Q Q') (R : Rel K B env S σ H) (q : Q (.own true (.list ds))) (h : DqAll K S vs ds) (hp : H p = none) : Q' (.ref p) (upd H p (.lst vs)) :=
  c _ _ _ _ q (stq_alloc hp) (R.alloc hp) ⟨rfl, p, rfl, ⟨R.w.bnone hp, R.w.snone hp, _, upd_same, .lst h⟩, hp, R.fresh hp⟩
end
/-! ### reading what is looked at -/
section
variable {K : PySem.W.Frag} {B : Br} {S H : Hp} {v : V}
theorem IsP.int {i : Int} (h : IsP K B S H (.int i) v) : v = .int i := by
  rcases h with h | ⟨p, o, _, _, _, e⟩
  · cases h; rfl
  · cases e
theorem IsP.bl {b : Bool} (h : IsP K B S H (.bool b) v) : v = .bl b := by
  rcases h with h | ⟨p, o, _, _, _, e⟩
  · cases h; rfl
  · cases e
theorem IsP.str {x : Str} (h : IsP K B S H (.str x) v) : v = .str x := by
  rcases h with h | ⟨p, o, _, _, _, e⟩
  · cases h; rfl
  · cases e
theorem IsP.non (h : IsP K B S H .none v) : v = .non := by
  rcases h with h | ⟨p, o, _, _, _, e⟩
  · cases h; rfl
  · cases e
theorem IsP.tupP {ds : List Da} (h : IsP K B S H (.tuple ds) v) : ∃ a vs, v = .ref a ∧ PlT K S a vs ∧ DqAll K S vs ds := by
  rcases h with h | ⟨p, o, _, _, _, e⟩
  · cases h with
    | tup a b => exact ⟨_, _, rfl, a, b⟩
  · cases e
theorem IsP.tup {ds : List Da} (h : IsP K B S H (.tuple ds) v) : ∃ a vs, v = .ref a ∧ SqT K S a vs ∧ DqAll K S vs ds := by
  rcases h with h | ⟨p, o, _, _, _, e⟩
  · cases h with
    | tup a b => exact ⟨_, _, rfl, a.sq, b⟩
  · cases e
theorem IsP.lst {ds : List Da} (w : Wd B S H) (h : IsP K B S H (.list ds) v) : ∃ a vs, v = .ref a ∧ Rd H a (.lst vs) ∧ DqAll K S vs ds := by
  rcases h with h | ⟨p, o, e1, _, e3, e⟩
  · cases h with
    | lst a b => exact ⟨_, _, rfl, Rd.up w.sub a, b⟩
  · cases e with
    | lst e4 => exact ⟨p, _, e1, .inl e3, e4⟩
theorem IsP.dq {d : Da} (w : Wd B S H) (h : IsP K B S H d v) : Dq K H v d := by
  rcases h with h | ⟨p, o, rfl, _, e3, e4⟩
  · exact Dq.up w.sub _ _ h
  · exact (e4.up w.sub).dq e3
theorem IsP.dp {d : Da} (w : Wd B S H) (h : IsP K B S H d v) (c : SeqAt.shaped d = true) : Dp K H v d := by
  have c : (d.canLay0 && decide (d.depth ≤ 64)) = true := c
  rw [Bool.and_eq_true] at c
  exact Dq.dp _ _ c.1 (h.dq w)
end
/-! ### modes into modes -/
def toD (m : ME) : MP := fun env Q => m env fun r e => match r with
  | .val d => Q d e
  | .own _ d => Q d e
  | _ => False
def toE (m : MP) : ME := fun env Q => m env fun d e => Q (.val d) e
theorem ds_e {e : Expr} {m : ME} (h : DE Z X e m) : DS Z X e (toD m) := h.wk fun σ H Q ⟨B, env, S, Q0, R, hm, k⟩ => by
  refine ⟨B, env, S, _, R, hm, fun r env' q v S' H' st R' ir => ?_⟩
  cases r with
  | val d => exact k d env' q v S' H' st R' ir
  | own b d =>
    obtain ⟨S2, st2, R2, dp⟩ := IsR.frz st R' ir
    exact k d env' q v S2 H' st2 R2 dp
  | no => exact ir.elim
  | deal => exact q.elim
  | bor d => exact q.elim
  | res b d ids => exact q.elim
theorem dp_s {e : Expr} {m : MP} (h : DS Z X e m) : DP Z X e m := h.wk fun σ H Q ⟨B, env, S, Q0, R, hm, k⟩ =>
  ⟨B, env, S, Q0, R, hm, fun d env' q v S' H' st R' ir => k d env' q v S' H' st R' (.inl ir)⟩
theorem dp_e {e : Expr} {m : ME} (h : DE Z X e m) : DP Z X e (toD m) := dp_s (ds_e h)
theorem de_s {e : Expr} {m : MP} (h : DS Z X e m) : DE Z X e (toE m) := h.wk fun σ H Q ⟨B, env, S, Q0, R, hm, k⟩ =>
  ⟨B, env, S, _, R, hm, fun d env' q v S' H' st R' ir => k _ env' q v S' H' st R' ir⟩
/-! ### names and constants -/
def mVar (i : Nat) : ME := fun env Q => match env[i]? with
  | some (.val d) => Q (.val d) env
  | some (.own true d) => Q (.val d) (env.set i (.val d))
  | some .deal => Q .deal env
  | _ => False
def mPk (i : Nat) : MP := fun env Q => match env[i]? with
  | some (.val d) => Q d env
  | some (.own _ d) => Q d env
  | some (.bor d) => Q d env
  | _ => False
theorem de_var (i : Nat) {x : Str} {pos : Pos} (hN : X.N[i]? = some x := by rfl) (hv : Vis X.env.scope x := by first | exact Or.inl rfl | exact Or.inr (Or.inl rfl) | exact Or.inr (Or.inr rfl)) (hd : (x == ("__debug__" : Str)) = false := by decide)
    (hcd : (x == ("__classdict__" : Str)) = false := by decide) : DE Z X (.Name x pos) (mVar i) := (pe_var hN hv hd hcd).wk fun σ H Q ⟨B, env, S, Q0, R, hm, k⟩ => by
  unfold mVar at hm
  cases e : env[i]? with
  | none => rw [e] at hm; exact hm.elim
  | some sv =>
    rw [e] at hm
    cases sv with
    | no => exact hm.elim
    | val d =>
      obtain ⟨v, a, b⟩ := R.slot i d e
      exact ⟨v, a, k _ _ hm v S H .refl R b⟩
    | own w d =>
      cases w with
      | false => exact hm.elim
      | true =>
        obtain ⟨p, a, hB, hS, o, hp, hd⟩ := R.own i true d e
        obtain ⟨R', st⟩ := R.frz e a hp hd hB hS
        exact ⟨.ref p, a, k _ _ hm _ _ H (st rfl) R' ((hd.up (st rfl).s.1).dq upd_same)⟩
    | deal =>
      obtain ⟨p, l, a, b⟩ := R.dl i e
      exact ⟨.ref p, b, k _ _ hm _ S H .refl R ⟨p, l, a, rfl⟩⟩
    | bor d => exact hm.elim
    | res b d ids => exact hm.elim
theorem dp_var (i : Nat) {x : Str} {pos : Pos} (hN : X.N[i]? = some x := by rfl) (hv : Vis X.env.scope x := by first | exact Or.inl rfl | exact Or.inr (Or.inl rfl) | exact Or.inr (Or.inr rfl)) (hd : (x == ("__debug__" : Str)) = false := by decide)
    (hcd : (x == ("__classdict__" : Str)) = false := by decide) : DP Z X (.Name x pos) (mPk i) := (pe_var hN hv hd hcd).wk fun σ H Q ⟨B, env, S, Q0, R, hm, k⟩ => by
  unfold mPk at hm
  cases e : env[i]? with
  | none => rw [e] at hm; exact hm.elim
  | some sv =>
    rw [e] at hm
    cases sv with
    | no => exact hm.elim
    | val d =>
      obtain ⟨v, a, b⟩ := R.slot i d e
      exact ⟨v, a, k _ _ hm v S H .refl R (.inl b)⟩
    | own w d =>
      obtain ⟨p, a, hB, hS, o, hp, hd⟩ := R.own i w d e
      exact ⟨.ref p, a, k _ _ hm _ S H .refl R (.inr ⟨p, o, rfl, R.w.nfp hB, hp, hd⟩)⟩
    | deal => exact hm.elim
    | bor d =>
      obtain ⟨p, _, a, hB, hS, o, hp, hd⟩ := R.bor i d e
      exact ⟨.ref p, a, k _ _ hm _ S H .refl R (.inr ⟨p, o, rfl, R.w.nfp hB, hp, hd⟩)⟩
    | res b d ids => exact hm.elim
def mC (d : Da) : MP := fun env Q => Q d env
theorem ds_c {e : Expr} {d : Da} {v : V} (h : PE X e (tC v)) (hd : ∀ S, Dq X.K S v d) : DS Z X e (mC d) := h.wk fun σ H Q ⟨B, env, S, Q0, R, hm, k⟩ => k d env hm v S H .refl R (hd S)
theorem ds_int {i j pos} : DS Z X (.Constant (.int i) j pos) (mC (.int i)) := ds_c pe_int fun _ => .int i
theorem ds_bl {b j pos} : DS Z X (.Constant (.bool b) j pos) (mC (.bool b)) := ds_c pe_bl fun _ => .bl b
theorem ds_str {x j pos} : DS Z X (.Constant (.str x) j pos) (mC (.str x)) := ds_c pe_str fun _ => .str x
/-! ### two-place operators -/
def OpD (X : Cx) (g : Value → Value → Sem Value) (f : Da → Da → (SV → Prop) → Prop) : Prop :=
  ∀ (B : Br) (env : En) (S : Hp) (σ : L2.St) (H : Hp) (x y : V) (c d : Da) (Q : SV → Prop) (Q' : VK), Rel X.K B env S σ H → IsP X.K B S H c x → IsP X.K B S H d y → f c d Q → Cl X.K B env S σ H Q Q' → uR X g x y H Q'
def mBin (f : Da → Da → (SV → Prop) → Prop) (ma mb : MP) : ME := fun env Q => ma env fun x e1 => mb e1 fun y e2 => f x y fun r => Q r e2
theorem op_run {g : Value → Value → Sem Value} {f : Da → Da → (SV → Prop) → Prop} (ho : OpD X g f) {ma mb : MP} : ∀ σ H Q, tE Z X.K (mBin f ma mb) σ H Q → tOp (uR X g) (tP Z X.K ma) (tP Z X.K mb) σ H Q := fun σ H Q ⟨B, env, S, Q0, R, hm, k⟩ => by
  refine ⟨B, env, S, _, R, hm, fun c e1 hm1 x S1 H1 st1 R1 p1 => ?_⟩
  refine ⟨B, e1, S1, _, R1, hm1, fun d e2 hm2 y S2 H2 st2 R2 p2 => ?_⟩
  exact ho B e2 S2 σ H2 x y c d _ Q R2 (IsP.up st2.s p1) p2 hm2 fun r v S' H' q st R' ir => k r e2 q v S' H' ((st1.trans st2).trans st) R' (ir.back R.w (st1.trans st2))
theorem de_bin {a b : Expr} {op : Operator} {pos : Pos} {f : Da → Da → (SV → Prop) → Prop} {ma mb : MP} (ho : OpD X (binaryOp op) f) (ha : DP Z X a ma) (hb : DP Z X b mb) : DE Z X (.BinOp a op b pos) (mBin f ma mb) := (pe_op OpR.un ha hb).wk (op_run ho)
theorem de_cmp {a b : Expr} {op : CmpOp} {pos : Pos} {f : Da → Da → (SV → Prop) → Prop} {ma mb : MP} (ho : OpD X (compareOp op) f) (ha : DP Z X a ma) (hb : DP Z X b mb) (hm : behindInMarks op b = false := by rfl) : DE Z X (.Compare a [op] [b] pos) (mBin f ma mb) := (pe_cmpR OpR.un ha hb hm).wk (op_run ho)
end
end Pq
set_option Elab.async false
set_option linter.all false
set_option maxRecDepth 100000
set_option maxHeartbeats 4000000
namespace Pq
open PySem PySem.Spec PyProof.Rows L2
/-! ### dicts whose keys are tuples of ints, at the hand layer -/
def tval (kvs : TKv) (k : List Int) : Option V := (kvs.find? fun p => decide (p.1 = k)).map (·.2.2)
def TObj (H : Hp) (a : Addr) (kvs : TKv) : Prop := (∃ a', H a = some (dtO a' kvs)) ∨ (kvs = [] ∧ Rd H a (.dK []))
def TKeys (K : PySem.W.Frag) (H : Hp) (kvs : TKv) : Prop := ∀ p ∈ kvs, SqT K H p.2.1 (p.1.map V.int)
theorem tPr_val {kvs : TKv} {xs : List (List Int × Addr × Value)} (r : Paired TPr kvs xs) (k : List Int) : RelO (tval kvs k) ((atKey xs k).map (·.2)) := by
  induction r with
  | nil => trivial
  | @cons p q ps qs hq t ih =>
    obtain ⟨e1, e2, e3⟩ := hq
    unfold tval atKey at ih ⊢
    by_cases c : p.1 = k
    · rw [List.find?_cons_of_pos (p := fun p : List Int × Addr × V => decide (p.1 = k)) (decide_eq_true c), List.find?_cons_of_pos (p := fun x : List Int × Addr × Value => decide (x.1 = k)) (by rw [← e1]; exact decide_eq_true c)]
      exact e3
    · rw [List.find?_cons_of_neg (p := fun p : List Int × Addr × V => decide (p.1 = k)) (by rw [decide_eq_false c]; exact Bool.false_ne_true), List.find?_cons_of_neg (p := fun x : List Int × Addr × Value => decide (x.1 = k)) (by rw [← e1, decide_eq_false c]; exact Bool.false_ne_true)]
      exact ih
/-- the description of an object stands at its own place -/
theorem dtO_at' {P : Program} {w : World} {H : Hp} {h : Heap} {a : Addr} {a' : DAo} {kvs : TKv} (x : ObjOk P w H h a (dtO a' kvs)) : a'.1 = a ∧ h.get? a = some a'.2 ∧ TDat h a kvs := by
  obtain ⟨p, ⟨o, e⟩, st⟩ := x
  have ea : a'.1 = a := by
    obtain ⟨G, g1, g2⟩ := L2.restrict h (fun b => decide (b = a))
    have pG := st h G p fun o' e' => by rw [g1 a (decide_eq_true rfl)]; exact e'
    obtain ⟨e2, _⟩ := pG
    by_cases c : a'.1 = a
    · exact c
    · rw [g2 a'.1 (decide_eq_false c)] at e2
      cases e2
  obtain ⟨a1, o1⟩ := a'
  cases ea
  exact ⟨rfl, p⟩
theorem dtO_at {P : Program} {w : World} {H : Hp} {h : Heap} {a : Addr} {a' : DAo} {kvs : TKv} (x : ObjOk P w H h a (dtO a' kvs)) : a'.1 = a ∧ TDat h a kvs := ⟨(dtO_at' x).1, (dtO_at' x).2.2⟩
section
variable {X : Cx} {pins : List (Addr × Obj)} {σ : L2.St} {H : Hp} {s : Shared} {a b : Addr} {kvs : TKv} {k : List Int} {y v d : V} {u r : Value} {o : Option V} {A : Around} {E : Value → Shared → Prop}
theorem tk_at (I : Inv X pins σ H s) (T : TObj H a kvs) (hk : TKeys X.K H kvs) : kvs.length ≤ sizeLine ∧ (a == sysModules) = false ∧ ∃ xs, Paired TPr kvs xs ∧ s.heap.DictOfH (tupleKind (intKind X.prog X.w)) a xs := by
  rcases T with ⟨a', e⟩ | ⟨rfl, e⟩
  · obtain ⟨_, z, y, xs, r, o, es, ep, h1, h2, h3, h4, h5⟩ := dtO_at (I.hok _ _ e)
    refine ⟨z, y, xs, r, o, es, ep, h1, h2, h3, h4, fun x hx => ?_, h5⟩
    have all : ∀ {l : TKv} {m : List (List Int × Addr × Value)}, Paired TPr l m → TKeys X.K H l → ∀ x ∈ m, (tupleKind (intKind X.prog X.w)).is s.heap x.1 x.2.1 := fun {l m} q => by
      induction q with
      | nil => intro _ x hx; exact nomatch hx
      | @cons p q ps qs hq t ih =>
        intro hk x hx
        rcases List.mem_cons.mp hx with e | hx
        · subst e
          rw [← hq.1, ← hq.2.1]
          exact L2.Inv.isT I (hk p List.mem_cons_self)
        · exact ih (fun p hp => hk p (List.mem_cons_of_mem _ hp)) x hx
    exact all r hk x hx
  · obtain ⟨_, hd, vs, rel, o, es, ep, h1, h2, h3, h4⟩ := dk_rd I.hok e
    cases rel
    obtain ⟨_, hp, _⟩ := h4
    have e0 : es.toList = [] := by
      generalize es.toList = l at hp
      cases hp
      rfl
    refine ⟨Nat.zero_le _, hd, [], .nil, o, es, ep, h1, h2, h3, e0, fun x hx => by simp at hx, List.nodup_nil⟩
theorem t_getItem {Q : Value → Shared → Prop} (hu : A.units + 1 < cLine) (I : Inv X pins σ H s) (T : TObj H a kvs) (hk : TKeys X.K H kvs) (eb : SqT X.K H b (k.map V.int)) (l : tval kvs k = some v) (h : ∀ w' s', Inv X pins σ H s' → RelV v w' → Q w' s') :
    wpAny (model X.prog X.w) A (getItem (.ref a) (.ref b)) Q E s := by
  obtain ⟨z, hd, xs, rel, dd⟩ := tk_at I T hk
  obtain ⟨w', hw, rw'⟩ := RelO.some_of (v := v) (o := (atKey xs k).map (·.2)) (by rw [← l]; exact tPr_val rel k)
  obtain ⟨p, hp, hp2⟩ := Option.map_eq_some_iff.mp hw
  refine wpAny_getItem_heap (tupleKind_room_in1 hu) (L2.Inv.isT I eb) dd hp ?_
  rw [hp2]
  exact h w' _ (I.tok _) rw'
/-! ### both sorts of dicts -/
def DGX (K : PySem.W.Frag) (H : Hp) (a : Addr) (y : V) (o : Option V) : Prop := DGet H a y o ∨ ∃ kvs k b, TObj H a kvs ∧ TKeys K H kvs ∧ y = .ref b ∧ SqT K H b (k.map V.int) ∧ o = tval kvs k
def IsDX (K : PySem.W.Frag) (H : Hp) (a : Addr) : Prop := IsD H a ∨ ∃ kvs, TObj H a kvs ∧ TKeys K H kvs
theorem d_getItemX {Q : Value → Shared → Prop} (hu : A.units + 1 < cLine) (I : Inv X pins σ H s) (g : DGX X.K H a y (some v)) (ry : RelV y u) (h : ∀ w' s', Inv X pins σ H s' → RelV v w' → Q w' s') :
    wpAny (model X.prog X.w) A (getItem (.ref a) u) Q E s := by
  rcases g with g | ⟨kvs, k, b, T, hk, rfl, eb, l⟩
  · exact d_getItem hu I g ry h
  · cases (show u = Value.ref b from ry)
    exact t_getItem hu I T hk eb l.symm h
theorem isDX_at (I : Inv X pins σ H s) (d : IsDX X.K H a) : s.TypeIs (.ref a) "dict" ∧ (∀ b, Value.ref a = .ref b → ∃ ob, s.heap.get? b = some ob ∧ ob.dict = none) ∧ (a == sysModules) = false := by
  rcases d with d | ⟨kvs, T, hk⟩
  · exact isD_at I d
  · obtain ⟨_, hd, xs, _, dd⟩ := tk_at I T hk
    refine ⟨dd.typeIs, fun b q => ?_, hd⟩
    cases q
    obtain ⟨ob, _, _, h1, h2, _⟩ := dd
    exact ⟨ob, h1, h2.2.1⟩
theorem dgx_isD (g : DGX X.K H a y o) : IsDX X.K H a := by
  rcases g with g | ⟨kvs, k, b, T, hk, _⟩
  · rcases g with ⟨kvs, k, e, _⟩ | ⟨kvs, k, b, e, _⟩
    · exact .inl (.inl ⟨_, e⟩)
    · exact .inl (.inr ⟨_, e⟩)
  · exact .inr ⟨kvs, T, hk⟩
end
end Pq
set_option Elab.async false
set_option linter.all false
set_option maxRecDepth 100000
set_option maxHeartbeats 4000000
set_option pp.maxSteps 400
/-! ### sorted of tuples of ints -/
namespace Pq
open PySem PySem.Spec PyProof.Rows L2
end Pq
set_option Elab.async false
set_option linter.all false
set_option maxRecDepth 100000
set_option maxHeartbeats 4000000
namespace Pq
open PySem PySem.Spec PyProof.Rows L2
/-! ### dicts as data: the keys are ints and texts -/
def keyO : Da → Option Key
  | .int i => some (.inl i)
  | .str x => some (.inr x)
  | _ => none
def isKy (k : Key) (d : Da) : Bool := match k, d with
  | .inl i, .int j => decide (j = i)
  | .inr x, .str y => decide (y = x)
  | _, _ => false
def isTm : List (Da × Da) → Bool
  | (.none, .none) :: _ => true
  | (.bool _, _) :: _ => true
  | _ => false
def dLook (ds : List (Da × Da)) (k : Key) : Option Da := (ds.find? fun p => isKy k p.1).map (·.2)
/-- marks of pairs and of the script -/
def isPm : List (Da × Da) → Bool
  | (.bool _, _) :: _ => true
  | _ => false
def intsO : List Da → Option (List Int)
  | [] => some []
  | .int i :: r => (intsO r).map (i :: ·)
  | _ => none
def tkO : Da → Option (List Int)
  | .tuple ds => intsO ds
  | _ => none
def tkI (k : List Int) : Da := .tuple (k.map PyData.int)
def tLook (ds : List (Da × Da)) (k : List Int) : Option Da := (ds.find? fun p => decide (tkO p.1 = some k)).map (·.2)
def dGetO (ds : List (Da × Da)) (c : Da) : Option (Option Da) := if isTm ds then (if isPm ds then none else (tkO c).map (tLook ds.tail)) else match keyO c with
  | some k => some (dLook ds k)
  | none => if ds.isEmpty then (tkO c).map (fun _ => none) else none
theorem intsO_map : ∀ k : List Int, intsO (k.map PyData.int) = some k
  | [] => rfl
  | i :: k => by
    show (intsO (k.map PyData.int)).map (i :: ·) = _
    rw [intsO_map k]
    rfl
theorem tkO_I (k : List Int) : tkO (tkI k) = some k := intsO_map k
theorem intsO_eq : ∀ {ds : List Da} {k : List Int}, intsO ds = some k → ds = k.map PyData.int
  | [], k, h => by cases h; rfl
  | d :: ds, k, h => by
    cases d <;> first | cases h; done | skip
    have h : (intsO ds).map _ = some k := h
    cases e : intsO ds with
    | none => rw [e] at h; cases h
    | some j =>
      rw [e] at h
      cases h
      rw [intsO_eq e]
      rfl
theorem tkO_eq {c : Da} {k : List Int} (h : tkO c = some k) : c = tkI k := by
  cases c <;> first | cases h; done | skip
  rw [intsO_eq (show intsO _ = some k from h)]
  rfl
theorem isKy_D (k j : Key) : isKy k (keyD j) = decide (j = k) := by
  cases k <;> cases j <;> simp [isKy, keyD]
section
variable {K : PySem.W.Frag} {S H : Hp}
theorem tm_dk : ∀ {kvs : List (Key × V)} {ds : List (Da × Da)}, DqK K S kvs ds → isTm ds = false
  | [], _, h => by cases h; rfl
  | (k, v) :: _, _, h => by
    cases h with
    | cons h1 h2 => cases k <;> rfl
/-- what a look-up finds -/
def RelO2 (K : PySem.W.Frag) (S : Hp) : Option V → Option Da → Prop
  | some v, some d => Dq K S v d
  | none, none => True
  | _, _ => False
theorem look_dk (k : Key) : ∀ {kvs : List (Key × V)} {ds : List (Da × Da)}, DqK K S kvs ds → RelO2 K S (valV kvs k) (dLook ds k)
  | [], _, h => by cases h; trivial
  | (j, v) :: kvs, _, h => by
    cases h with
    | cons h1 h2 =>
      rename_i d ds
      by_cases e : j = k
      · have e2 : dLook ((keyD j, d) :: ds) k = some d := by
          unfold dLook
          rw [List.find?_cons_of_pos (by rw [isKy_D]; exact decide_eq_true e)]; rfl
        rw [valV_pos (p := (j, v)) e, e2]
        exact h1
      · have e2 : dLook ((keyD j, d) :: ds) k = dLook ds k := by
          unfold dLook
          rw [List.find?_cons_of_neg (by rw [isKy_D, decide_eq_false e]; exact Bool.false_ne_true)]
        rw [valV_neg (p := (j, v)) e, e2]
        exact look_dk k h2
theorem DqK.len : ∀ {kvs : List (Key × V)} {ds : List (Da × Da)}, DqK K S kvs ds → kvs.length = ds.length
  | [], _, h => by cases h; rfl
  | _ :: _, _, h => by
    cases h with
    | cons h1 h2 => rw [List.length_cons, List.length_cons, h2.len]
theorem DqK.any (k : Key) : ∀ {kvs : List (Key × V)} {ds : List (Da × Da)}, DqK K S kvs ds → (kvs.any fun kv => decide (kv.1 = k)) = ds.any fun p => isKy k p.1
  | [], _, h => by cases h; rfl
  | (j, v) :: _, _, h => by
    cases h with
    | cons h1 h2 => rw [List.any_cons, List.any_cons, h2.any k, isKy_D]
theorem Dq.key {c : Da} {k : Key} {v : V} (h : Dq K S v c) (e : keyO c = some k) : v = kV k := by
  cases c <;> cases e <;> cases h <;> rfl
variable {B : Br}
theorem IsP.flatK {c : Da} {k : Key} {v : V} (h : IsP K B S H c v) (e : keyO c = some k) : v = kV k := by
  rcases h with h | ⟨_, _, rfl, _, _, h⟩
  · exact h.key e
  · cases h <;> cases e
theorem ints_vals {K : PySem.W.Frag} {S : Hp} : ∀ {ks : List Int} {vs : List V}, DqAll K S vs (ks.map PyData.int) → vs = ks.map V.int
  | [], _, h => by cases h; rfl
  | k :: ks, _, h => by
    cases h with
    | cons h1 h2 => cases h1; rw [ints_vals h2]; rfl
theorem IsP.tk {k : List Int} {v : V} (h : IsP K B S H (tkI k) v) : ∃ b, v = .ref b ∧ PlT K S b (k.map V.int) := by
  obtain ⟨a, vs, e, p, d⟩ := h.tupP
  rw [ints_vals d] at p
  exact ⟨a, e, p⟩
theorem dqt_keys : ∀ {kvs : TKv} {ds : List (Da × Da)}, DqT K S kvs ds → TKeys K S kvs
  | [], _, _ => fun p hp => by cases hp
  | p :: kvs, _, h => by
    cases h with
    | cons h0 h1 h2 =>
      intro q hq
      rcases List.mem_cons.mp hq with e | hq
      · subst e; exact h0.sq
      · exact dqt_keys h2 q hq
theorem tkeys_up {kvs : TKv} (w : Wd B S H) (h : TKeys K S kvs) : TKeys K H kvs := fun p hp => SqT.up w.sub (h p hp)
theorem look_dt (k : List Int) : ∀ {kvs : TKv} {ds : List (Da × Da)}, DqT K S kvs ds → RelO2 K S (tval kvs k) (tLook ds k)
  | [], _, h => by cases h; trivial
  | (j, b, v) :: kvs, _, h => by
    cases h with
    | cons h0 h1 h2 =>
      rename_i d ds
      have ej : tkO (PyData.tuple (j.map PyData.int)) = some j := tkO_I j
      unfold tval tLook
      by_cases e : j = k
      · rw [List.find?_cons_of_pos (p := fun p : List Int × Addr × V => decide (p.1 = k)) (decide_eq_true e), List.find?_cons_of_pos (p := fun p : Da × Da => decide (tkO p.1 = some k)) (decide_eq_true (by show tkO (PyData.tuple (j.map PyData.int)) = some k; rw [ej, e]))]
        exact h1
      · rw [List.find?_cons_of_neg (p := fun p : List Int × Addr × V => decide (p.1 = k)) (by rw [decide_eq_false e]; exact Bool.false_ne_true), List.find?_cons_of_neg (p := fun p : Da × Da => decide (tkO p.1 = some k)) (by show ¬ decide (tkO (PyData.tuple (j.map PyData.int)) = some k) = true; rw [decide_eq_false (fun z => e (Option.some.inj (ej.symm.trans z)))]; exact Bool.false_ne_true)]
        exact look_dt k h2
theorem DqT.len : ∀ {kvs : TKv} {ds : List (Da × Da)}, DqT K S kvs ds → kvs.length = ds.length
  | [], _, h => by cases h; rfl
  | _ :: _, _, h => by
    cases h with
    | cons h0 h1 h2 => rw [List.length_cons, List.length_cons, h2.len]
theorem tm_tail : ∀ {ds : List (Da × Da)}, isTm ds = true → isPm ds = false → ds = (.none, .none) :: ds.tail
  | (.none, .none) :: _, _, _ => rfl
  | (.bool _, _) :: _, _, h => by cases h
/-- a dict that is looked at: what stands under a key -/
theorem dget_of {ds : List (Da × Da)} {c : Da} {x y : V} {o : Option Da} (w : Wd B S H) (hx : IsP K B S H (.dict ds) x) (hy : IsP K B S H c y) (e : dGetO ds c = some o) : ∃ a ov, x = .ref a ∧ DGX K H a y ov ∧ RelO2 K S ov o ∧ IsDX K H a := by
  unfold dGetO at e
  cases tm : isTm ds with
  | true =>
    rw [tm, if_pos rfl] at e
    cases pm : isPm ds with
    | true => rw [pm] at e; cases e
    | false =>
      rw [pm, if_neg Bool.false_ne_true] at e
      cases ke : tkO c with
      | none => rw [ke] at e; cases e
      | some k =>
        rw [ke] at e
        cases e
        rw [tkO_eq ke] at hy
        obtain ⟨b, rfl, pb⟩ := hy.tk
        have eb := SqT.up w.sub pb.sq
        rw [tm_tail tm pm] at hx
        rcases hx with hx | ⟨a, ob, rfl, _, ha, hd⟩
        · cases hx with
          | dk ha hd => exact nomatch (show true = false from tm_dk hd)
          | dt ha hd => exact ⟨_, _, rfl, .inr ⟨_, k, b, .inl ⟨_, w.sub _ _ ha⟩, tkeys_up w (dqt_keys hd), rfl, eb, rfl⟩, look_dt k hd, .inr ⟨_, .inl ⟨_, w.sub _ _ ha⟩, tkeys_up w (dqt_keys hd)⟩⟩
        · cases hd with
          | dk hd => exact nomatch (show true = false from tm_dk hd)
          | dt hd => exact ⟨_, _, rfl, .inr ⟨_, k, b, .inl ⟨_, ha⟩, tkeys_up w (dqt_keys hd), rfl, eb, rfl⟩, look_dt k hd, .inr ⟨_, .inl ⟨_, ha⟩, tkeys_up w (dqt_keys hd)⟩⟩
  | false =>
    rw [tm, if_neg Bool.false_ne_true] at e
    cases ke : keyO c with
    | none =>
      rw [ke] at e
      dsimp only at e
      cases ds with
      | cons p ds => cases e
      | nil =>
        have e : (tkO c).map (fun _ => none) = some o := e
        cases kt : tkO c with
        | none => rw [kt] at e; cases e
        | some k =>
          rw [kt] at e
          cases e
          rw [tkO_eq kt] at hy
          obtain ⟨b, rfl, pb⟩ := hy.tk
          have eb := SqT.up w.sub pb.sq
          rcases hx with hx | ⟨a, ob, rfl, _, ha, hd⟩
          · cases hx with
            | dk ha hd =>
              cases hd
              exact ⟨_, none, rfl, .inr ⟨[], k, b, .inr ⟨rfl, .inl (w.sub _ _ ha)⟩, (fun p hp => by cases hp), rfl, eb, rfl⟩, trivial, .inl (.inl ⟨_, .inl (w.sub _ _ ha)⟩)⟩
          · cases hd with
            | dk hd =>
              cases hd
              exact ⟨_, none, rfl, .inr ⟨[], k, b, .inr ⟨rfl, .inl ha⟩, (fun p hp => by cases hp), rfl, eb, rfl⟩, trivial, .inl (.inl ⟨_, .inl ha⟩)⟩
    | some k =>
      rw [ke] at e
      cases e
      have ey := hy.flatK ke
      subst ey
      rcases hx with hx | ⟨a, ob, rfl, _, ha, hd⟩
      · cases hx with
        | dk ha hd => exact ⟨_, _, rfl, .inl (DGet.k (w.sub _ _ ha)), look_dk k hd, .inl (.inl ⟨_, .inl (w.sub _ _ ha)⟩)⟩
        | dt ha hd => cases tm
        | scr _ => cases tm
        | pr _ _ => cases tm
        | exc _ _ _ _ => cases tm
        | ins _ _ _ => cases tm
      · cases hd with
        | dk hd => exact ⟨_, _, rfl, .inl (DGet.k ha), look_dk k hd, .inl (.inl ⟨_, .inl ha⟩)⟩
        | dt hd => cases tm
        | ins _ _ => cases tm
/-- the script -/
theorem IsP.scr {x : List Da} {v : V} (h : IsP K B S H (.dict [(.bool false, .list x)]) v) : ∃ a ns, v = .ref a ∧ PyData.list x = .list (List.map PyData.int ns) ∧ SqL K S a (ns.map V.int) := by
  rcases h with h | ⟨_, _, rfl, _, _, h⟩
  · cases h with
    | dk _ z => exact nomatch (show true = false from tm_dk z)
    | scr h => exact ⟨_, _, rfl, rfl, h⟩
  · cases h with
    | dk z => exact nomatch (show true = false from tm_dk z)
end
end Pq
set_option Elab.async false
set_option linter.all false
set_option maxRecDepth 100000
set_option maxHeartbeats 4000000
namespace Pq
open PySem PySem.Spec PyProof.Rows L2
theorem le_sz {n : Nat} (h : n ≤ 1000000) : n ≤ sizeLine := Nat.le_trans h (by decide)
theorem lt_sz {n : Nat} (h : n < 1000000) : n < sizeLine := Nat.lt_of_lt_of_le h (by decide)
theorem hu64 {A : Around} {k : Nat} (hr : Room k A) : A.units + 64 < cLine := by have := hr.un; omega
section
variable {X : Cx}
/-! ### arithmetic -/
theorem op_catR : OpR X (binaryOp .Add) (fun x y H Q => ∃ l b xs zs, x = .ref l ∧ y = .ref b ∧ Rd H l (.lst xs) ∧ Rd H b (.lst zs) ∧ xs.length + zs.length ≤ sizeLine ∧ ∀ p, H p = none → Q (.ref p) (upd H p (.lst (xs ++ zs)))) := by
  intro pins s σ H x y v u Q I rx ry h
  obtain ⟨l, b, xs, zs, rfl, rfl, hH, hB, hz, q⟩ := h
  cases rx
  cases ry
  obtain ⟨z, its, n, r, e⟩ := hH.ok I.hok
  obtain ⟨z2, its2, n2, r2, e2⟩ := hB.ok I.hok
  have hl := r.length
  have hl2 := r2.length
  refine PySem.P.add_list e e2 ?_ (by rw [List.size_toArray, List.size_toArray]; omega)
  have ea : its.toArray ++ its2.toArray = (its ++ its2).toArray := by simp
  rw [ea]
  exact ⟨.ref _, _, I.lnew (t' := s.toks) (r.append r2) (by rw [List.length_append]; omega), rfl, q _ I.fresh⟩
/-- tuples made here are known to have no dict -/
def rCatF (K : PySem.W.Frag) : R2 := fun x y H Q => ∃ a b xs ys, x = .ref a ∧ y = .ref b ∧ SqT K H a xs ∧ SqT K H b ys ∧ xs.length + ys.length ≤ sizeLine ∧
  (xs = [] → Q (.ref b) H) ∧ (xs ≠ [] → ys = [] → Q (.ref a) H) ∧ (xs ≠ [] → ys ≠ [] → ∀ p o, H p = none → o.dict = none → Q (.ref p) (upd H p (.frz o (.tup (xs ++ ys)))))
theorem op_catF : OpR X (binaryOp .Add) (rCatF X.K) := by
  intro pins s σ H x y v u Q I rx ry h
  obtain ⟨a, b, xs, ys, rfl, rfl, ha, hb, hz, q0, q1, q2⟩ := h
  by_cases hx : xs = []
  · exact op_catA pins s σ H _ _ v u Q I rx ry ⟨a, b, xs, ys, rfl, rfl, ha, hb, hz, q0, q1, fun z => absurd hx z⟩
  · cases rx
    cases ry
    obtain ⟨its, r1, p1, _⟩ := I.tuple ha
    obtain ⟨its2, r2, p2, _⟩ := I.tuple hb
    refine HT.cat_tup p1 p2 (fun z => hx (r1.nil_iff.mp z)) (fun z => ⟨.ref a, H, I, rfl, q1 hx (r2.nil_iff.mp z)⟩) (fun z => ?_) (by rw [← r1.length, ← r2.length]; exact hz)
    refine ⟨.ref s.heap.objs.size, _, I.laid (t' := s.toks) (o := .frz _ (.tup (xs ++ ys))) (fun b ob q => Heap.get?_push_of_some _ q) (Nat.le_refl _) ⟨Heap.get?_push_size _ rfl, ?_⟩, rfl, q2 hx (fun w => z (r2.nil_iff.mpr w)) _ _ (I.hok.fresh (Nat.le_refl _)) rfl⟩
    exact ⟨by rw [List.length_append]; exact hz, _, r1.append r2, IsTup.new _ _⟩
def fAdd : Da → Da → (SV → Prop) → Prop
  | .int i, .int j, Q => Q (.val (.int (i + j)))
  | .str x, .str y, Q => x.length + y.length ≤ 1000000 ∧ Q (.val (.str (x ++ y)))
  | .tuple xs, .tuple ys, Q => xs.length + ys.length ≤ 1000000 ∧ Q (.val (.tuple (xs ++ ys)))
  | .list xs, .list ys, Q => xs.length + ys.length ≤ 1000000 ∧ Q (.own true (.list (xs ++ ys)))
  | _, _, _ => False
theorem od_add : OpD X (binaryOp .Add) fAdd := by
  intro B env S σ H x y c d Q Q' R px py h cl
  cases c <;> cases d <;> first | exact h.elim | skip
  · cases px.int; cases py.int
    exact ⟨_, op_add, _, _, rfl, rfl, cl.val R h (.int _)⟩
  · cases px.str; cases py.str
    exact ⟨_, op_add_str, _, _, rfl, rfl, le_sz h.1, cl.val R h.2 (.str _)⟩
  · obtain ⟨a, vs, rfl, ha, da⟩ := px.lst R.w
    obtain ⟨b, us, rfl, hb, db⟩ := py.lst R.w
    exact ⟨_, op_catR, a, b, vs, us, rfl, rfl, ha, hb, by rw [da.length, db.length]; exact le_sz h.1, fun p hp => cl.newL R h.2 (da.app db) hp⟩
  · obtain ⟨a, vs, rfl, ha, da⟩ := px.tupP
    obtain ⟨b, us, rfl, hb, db⟩ := py.tupP
    have up : ∀ {a : Addr} {xs : List V}, SqT X.K S a xs → SqT X.K H a xs := fun h => SqT.up R.w.sub h
    refine ⟨_, op_catF, a, b, vs, us, rfl, rfl, up ha.sq, up hb.sq, by rw [da.length, db.length]; exact le_sz h.1, fun e => ?_, fun _ e => ?_, fun _ _ p o hp ho => cl.newT R h.2 (da.app db) hp ho⟩
    · subst e; cases da
      exact cl.val R h.2 (.tup hb db)
    · subst e; cases db
      refine cl.val R h.2 ?_
      rw [List.append_nil]
      exact .tup ha da
def fSub : Da → Da → (SV → Prop) → Prop
  | .int i, .int j, Q => Q (.val (.int (i - j)))
  | _, _, _ => False
theorem od_sub : OpD X (binaryOp .Sub) fSub := by
  intro B env S σ H x y c d Q Q' R px py h cl
  cases c <;> cases d <;> first | exact h.elim | skip
  cases px.int; cases py.int
  exact ⟨_, op_sub, _, _, rfl, rfl, cl.val R h (.int _)⟩
/-! ### xs * n -/
/-! ### a tuple so many times -/
/-- 10 ** 6: written numbers -/
def fPow : Da → Da → (SV → Prop) → Prop
  | .int i, .int j, Q => 0 ≤ j ∧ j ≤ 1000000 ∧ i.natAbs < 2 ^ 64 ∧ Q (.val (.int (i ^ j.toNat)))
  | _, _, _ => False
theorem od_pow : OpD X (binaryOp .Pow) fPow := by
  intro B env S σ H x y c d Q Q' R px py h cl
  cases c <;> cases d <;> first | exact h.elim | skip
  cases px.int; cases py.int
  exact ⟨_, op_pow, _, _, rfl, rfl, ⟨h.1, h.2.1, h.2.2.1⟩, cl.val R h.2.2.2 (.int _)⟩
/-! ### comparisons -/
def fEq : Da → Da → (SV → Prop) → Prop
  | .int i, .int j, Q => Q (.val (.bool (decide (i = j))))
  | .str i, .str j, Q => Q (.val (.bool (decide (i = j))))
  | .bool i, .bool j, Q => Q (.val (.bool (decide (i = j))))
  | c, d, Q => SeqAt.shaped c = true ∧ SeqAt.shaped d = true ∧ Q (.val (.bool (PyData.eqv c d)))
def fNe : Da → Da → (SV → Prop) → Prop
  | .int i, .int j, Q => Q (.val (.bool (!decide (i = j))))
  | .str i, .str j, Q => Q (.val (.bool (!decide (i = j))))
  | .bool i, .bool j, Q => Q (.val (.bool (!decide (i = j))))
  | c, d, Q => SeqAt.shaped c = true ∧ SeqAt.shaped d = true ∧ Q (.val (.bool (!PyData.eqv c d)))
theorem v_int {i j : Int} : decide (V.int i = V.int j) = decide (i = j) := by simp
theorem v_str {i j : Str} : decide (V.str i = V.str j) = decide (i = j) := by simp
theorem v_bl {i j : Bool} : decide (V.bl i = V.bl j) = decide (i = j) := by simp
theorem od_eq (hu : X.A.units + 64 < cLine) : OpD X (compareOp .Eq) fEq := by
  intro B env S σ H x y c d Q Q' R px py h cl
  have deep : SeqAt.shaped c = true ∧ SeqAt.shaped d = true ∧ Q (.val (.bool (PyData.eqv c d))) → uR X (compareOp .Eq) x y H Q' := fun ⟨h1, h2, h3⟩ =>
    ⟨_, op_eqD hu, c, d, px.dp R.w h1, py.dp R.w h2, h1, h2, cl.val R h3 (.bl _)⟩
  cases c <;> cases d <;> first
    | exact deep h
    | (cases px.int; cases py.int; exact ⟨_, op_eq, rfl, cl.val R (by rw [v_int]; exact h) (.bl _)⟩)
    | (cases px.str; cases py.str; exact ⟨_, op_eq, rfl, cl.val R (by rw [v_str]; exact h) (.bl _)⟩)
    | (cases px.bl; cases py.bl; exact ⟨_, op_eq, rfl, cl.val R (by rw [v_bl]; exact h) (.bl _)⟩)
theorem od_ne (hu : X.A.units + 64 < cLine) : OpD X (compareOp .NotEq) fNe := by
  intro B env S σ H x y c d Q Q' R px py h cl
  have deep : SeqAt.shaped c = true ∧ SeqAt.shaped d = true ∧ Q (.val (.bool (!PyData.eqv c d))) → uR X (compareOp .NotEq) x y H Q' := fun ⟨h1, h2, h3⟩ =>
    ⟨_, op_neD hu, c, d, px.dp R.w h1, py.dp R.w h2, h1, h2, cl.val R h3 (.bl _)⟩
  cases c <;> cases d <;> first
    | exact deep h
    | (cases px.int; cases py.int; exact ⟨_, op_ne, rfl, cl.val R (by rw [v_int]; exact h) (.bl _)⟩)
    | (cases px.str; cases py.str; exact ⟨_, op_ne, rfl, cl.val R (by rw [v_str]; exact h) (.bl _)⟩)
    | (cases px.bl; cases py.bl; exact ⟨_, op_ne, rfl, cl.val R (by rw [v_bl]; exact h) (.bl _)⟩)
/-! ### unary minus, not, and, or, conditional expressions, chains -/
def mTest (m : MP) : MT := fun env Q => m env fun d e => match d with
  | .bool b => Q b e
  | _ => False
/-- a comparison as a test -/
theorem dt_cmp {a b : Expr} {op : CmpOp} {pos : Pos} {f : Da → Da → (SV → Prop) → Prop} {ma mb : MP} (ho : OpD X (compareOp op) f) (ha : DP Z X a ma) (hb : DP Z X b mb) (hm : behindInMarks op b = false := by rfl) : DT Z X (.Compare a [op] [b] pos) (mTest (toD (mBin f ma mb))) :=
  (pt_cmpR OpR.un ha hb hm).wk fun σ H Q ⟨B, env, S, Q0, R, h, k⟩ => by
    refine op_run (X := X) ho σ H _ ⟨B, env, S, _, R, h, fun r e1 q v S' H' st R' ir => ?_⟩
    cases r with
    | val d =>
      cases d <;> first | exact q.elim | skip
      cases ir
      exact ⟨_, rfl, k _ e1 q S' H' st R'⟩
    | own w d =>
      cases d <;> first | exact q.elim | skip
      obtain ⟨_, p, _, ⟨_, _, _, _, z⟩, _⟩ := ir
      cases z
    | no => exact ir.elim
    | deal => exact q.elim
    | bor d => exact q.elim
    | res b d ids => exact q.elim
/-- a call that hands back a truth, as a test -/
theorem dt_val {e : Expr} {m : MP} (h : DS Z X e m) (he : ∀ whole, isTrue e X.env whole = (do let v ← whole; standAt e.pos; holding [v] (truthy v)) := by intro _; rfl) : DT Z X e (mTest m) :=
  (pt_val h he).wk fun σ H Q ⟨B, env, S, Q0, R, h, k⟩ => ⟨B, env, S, _, R, h, fun d e1 q v S' H' st R' ir => by
    cases d <;> first | exact q.elim | skip
    cases ir
    exact ⟨_, rfl, k _ e1 q S' H' st R'⟩⟩
def mNot (m : MT) : MT := fun env Q => m env fun b e => Q (!b) e
theorem dt_not {a : Expr} {pos : Pos} {m : MT} (h : DT Z X a m) : DT Z X (.UnaryOp .Not a pos) (mNot m) := (pt_not h).wk fun σ H Q ⟨B, env, S, Q0, R, h, k⟩ =>
  ⟨B, env, S, _, R, h, fun b e1 q S' H' st R' => k _ e1 q S' H' st R'⟩
def mOr (m n : MT) : MT := fun env Q => m env fun b e => if b = true then Q true e else n e Q
abbrev DW (Z : ZX) (X : Cx) (e : Expr) (m : MT) : Prop := PW X e (tT Z X.K m)
theorem dw_or1 {a : Expr} {pos : Pos} {m : MT} (h : DT Z X a m) : DW Z X (.BoolOp .Or [a] pos) m := pw_or1 h
theorem PW.wk {e : Expr} {t t' : TT} (p : PW X e t) (h : ∀ σ H Q, t' σ H Q → t σ H Q) : PW X e t' := ⟨fun whole pins s σ H Q I h' => p.run whole pins s σ H Q I (h σ H Q h')⟩
theorem dw_or {a b : Expr} {rest : List Expr} {pos : Pos} {m n : MT} (ha : DT Z X a m) (hb : DW Z X (.BoolOp .Or (b :: rest) pos) n) : DW Z X (.BoolOp .Or (a :: b :: rest) pos) (mOr m n) :=
  PW.wk (pw_or ha hb) fun σ H Q ⟨B, env, S, Q0, R, h, k⟩ => ⟨B, env, S, _, R, h, fun b e1 q S' H' st R' => by
    cases b with
    | false =>
      show (if false = true then _ else _)
      rw [if_neg Bool.false_ne_true] at q ⊢
      exact ⟨B, e1, S', _, R', q, fun b e2 q2 S2 H2 st2 R2 => k _ e2 q2 S2 H2 (st.trans st2) R2⟩
    | true =>
      show (if true = true then _ else _)
      rw [if_pos rfl] at q ⊢
      exact k _ e1 q S' H' st R'⟩
end
end Pq
set_option Elab.async false
set_option linter.all false
set_option maxRecDepth 100000
set_option maxHeartbeats 4000000
namespace Pq
open PySem PySem.Spec PyProof.Rows L2
section
variable {X : Cx}
/-! ### argument lists -/
def frz1 : SV → SV
  | .own _ d => .val d
  | r => r
def maNil : MA := fun env Q => Q [] env
def maCons (m : ME) (ma : MA) : MA := fun env Q => m env fun r e1 => ma e1 fun rs e2 => Q (frz1 r :: rs) e2
theorem da_nil : DA Z X [] maNil := pa_nil.wk fun σ H Q ⟨B, env, S, Q0, R, h, k⟩ => k _ _ h _ S H .refl R rfl
theorem da_cons {e : Expr} {es : List Expr} {m : ME} {ma : MA} (h : DE Z X e m) (hr : DA Z X es ma) (hs : starEach (e :: es) X.env = (false, eval e X.env) :: starEach es X.env := by rfl) : DA Z X (e :: es) (maCons m ma) :=
  (pa_cons h hr hs).wk fun σ H Q ⟨B, env, S, Q0, R, h, k⟩ => ⟨B, env, S, _, R, h, fun r e1 q v S1 H1 st1 R1 ir => by
    have fin : ∀ {r' : SV} {S1' : Hp}, Stq B σ env S H e1 S1' H1 → Rel X.K B e1 S1' σ H1 → frz1 r = r' → (∀ {S2 : Hp} {rs : List SV} {vs : List V}, (∀ a o, S1' a = some o → S2 a = some o) → AllR X.K B.deal S2 rs vs → AllR X.K B.deal S2 (r' :: rs) (v :: vs)) → tAr Z X.K ma σ H1 fun xs H2 => Q (v :: xs) H2 := fun {r' S1'} st R' er f =>
      ⟨B, e1, S1', _, R', q, fun rs e2 q2 vs S2 H2 st2 R2 al => k _ e2 q2 _ S2 H2 (st.trans st2) R2 (by rw [er]; exact f st2.s.1 al)⟩
    cases r with
    | val d => exact fin st1 R1 rfl fun e al => ⟨v, _, rfl, Dq.up e _ _ ir, al⟩
    | own b d =>
      obtain ⟨S2, st2, R2, dp⟩ := IsR.frz st1 R1 ir
      exact fin st2 R2 rfl fun e al => ⟨v, _, rfl, Dq.up e _ _ dp, al⟩
    | deal =>
      obtain ⟨p, l, a, rfl⟩ := ir
      exact fin st1 R1 rfl fun e al => ⟨p, l, _, rfl, a, al⟩
    | no => exact ir.elim
    | bor d => exact ir.elim
    | res b d ids => exact ir.elim⟩
def mlNil : ML := fun env Q => Q [] env
def mlCons (m : MP) (ma : ML) : ML := fun env Q => m env fun d e1 => ma e1 fun ds e2 => Q (d :: ds) e2
theorem dps_nil : DPs Z X [] mlNil := pa_nil.wk fun σ H Q ⟨B, env, S, Q0, R, h, k⟩ => k _ _ h _ S H .refl R rfl
theorem dps_cons {e : Expr} {es : List Expr} {m : MP} {ma : ML} (h : DP Z X e m) (hr : DPs Z X es ma) (hs : starEach (e :: es) X.env = (false, eval e X.env) :: starEach es X.env := by rfl) : DPs Z X (e :: es) (mlCons m ma) :=
  (pa_cons h hr hs).wk fun σ H Q ⟨B, env, S, Q0, R, h, k⟩ => ⟨B, env, S, _, R, h, fun d e1 q v S1 H1 st1 R1 ir =>
    ⟨B, e1, S1, _, R1, q, fun ds e2 q2 vs S2 H2 st2 R2 al => k _ e2 q2 _ S2 H2 (st1.trans st2) R2 ⟨v, vs, rfl, ir.up st2.s, al⟩⟩⟩
/-- data alone -/
def dats : List SV → Option (List Da)
  | [] => some []
  | .val d :: rs => (dats rs).map (d :: ·)
  | _ => none
theorem AllR.dats {K : PySem.W.Frag} {dl : Option (Addr × Addr)} {S : Hp} : ∀ {rs : List SV} {vs : List V} {ds : List Da}, AllR K dl S rs vs → Pq.dats rs = some ds → DqAll K S vs ds
  | [], _, _, h, e => by
    cases (show _ = [] from h)
    cases e
    exact .nil
  | .val d :: rs, _, _, h, e => by
    obtain ⟨v, r, rfl, b, c⟩ := h
    unfold Pq.dats at e
    cases z : Pq.dats rs with
    | none => rw [z] at e; cases e
    | some es => rw [z] at e; cases e; exact .cons b (AllR.dats c z)
  | .deal :: rs, _, _, h, e => by cases e
  | .no :: _, _, _, h, _ => h.elim
  | .own _ _ :: _, _, _, h, _ => h.elim
  | .bor _ :: _, _, _, h, _ => h.elim
  | .res _ _ _ :: _, _, _, h, _ => h.elim
def tTupF (t : TA) : TE := fun σ H Q => t σ H fun xs H1 => xs.length ≤ sizeLine ∧ ∀ p o, H1 p = none → o.dict = none → Q (.ref p) (upd H1 p (.frz o (.tup xs)))
theorem pe_tupF {t : TA} {es : List Expr} {pos : Pos} {x1} (h : PA X es t) : PE X (.Tuple es x1 pos) (tTupF t) := by
  refine ⟨fun pins s σ H Q I hq => ?_⟩
  refine wpAny_Tuple_spliced (thn (h.run pos pins s σ H _ I hq) fun us s1 ⟨xs, H1, I1, r, z, q⟩ => ⟨by rw [← r.length]; exact z, ?_⟩)
  have hf : H1 s1.heap.objs.size = none := I1.hok.fresh (Nat.le_refl _)
  refine ⟨.ref s1.heap.objs.size, upd H1 s1.heap.objs.size (.frz _ (.tup xs)), I1.laid (t' := s1.toks) (fun b u e => Heap.get?_push_of_some _ e) (Nat.le_refl _) ⟨Heap.get?_push_size _ rfl, ?_⟩, rfl, q _ _ hf rfl⟩
  exact ⟨z, us, r, ⟨_, Heap.get?_push_size _ rfl, rfl, _, rfl⟩⟩
def mTup (ma : MA) : MP := fun env Q => ma env fun rs e => match dats rs with
  | some ds => ds.length ≤ 1000000 ∧ Q (.tuple ds) e
  | none => False
theorem ds_tup {es : List Expr} {x1} {pos : Pos} {ma : MA} (h : DA Z X es ma) : DS Z X (.Tuple es x1 pos) (mTup ma) := (pe_tupF h).wk fun σ H Q ⟨B, env, S, Q0, R, h, k⟩ =>
  ⟨B, env, S, _, R, h, fun rs e1 q vs S1 H1 st1 R1 al => by
    cases z : dats rs with
    | none => rw [z] at q; exact q.elim
    | some ds =>
      rw [z] at q
      have al := al.dats z
      exact ⟨by rw [al.length]; exact le_sz q.1, fun p o hp ho => k _ e1 q.2 _ _ _ (st1.trans (stq_allocS R1.w hp)) (R1.allocS hp) (.tup (.inl ⟨o, upd_same, ho⟩) (DqAll.up (upd_sub (R1.w.snone hp)) _ _ al))⟩⟩
def mLst (ma : MA) : ME := fun env Q => ma env fun rs e => match dats rs with
  | some ds => ds.length ≤ 1000000 ∧ Q (.own true (.list ds)) e
  | none => False
theorem de_lst {es : List Expr} {pos : Pos} {ma : MA} (h : DA Z X es ma) : DE Z X (.List es pos) (mLst ma) := (pe_lst h).wk fun σ H Q ⟨B, env, S, Q0, R, h, k⟩ =>
  ⟨B, env, S, _, R, h, fun rs e1 q vs S1 H1 st1 R1 al => by
    cases z : dats rs with
    | none => rw [z] at q; exact q.elim
    | some ds =>
      rw [z] at q
      have al := al.dats z
      have c : Cl X.K B e1 S1 σ H1 (fun r => Q0 r e1) Q := fun r v S' H' q st R' ir => k r e1 q v S' H' (st1.trans st) R' (ir.back R.w st1)
      exact ⟨by rw [al.length]; exact le_sz q.1, fun p hp => c.newL R1 q.2 al hp⟩⟩
/-! ### calls of built-ins -/
/-- isinstance(x, T) -/
def isT : String → String → Option Bool
  | "int", "bool" => some false
  | "int", "tuple" => some false
  | "int", "int" => some true
  | "bool", "bool" => some true
  | "bool", "int" => some true
  | "bool", "tuple" => some false
  | "tuple", "tuple" => some true
  | "tuple", "bool" => some false
  | "tuple", "int" => some false
  | "list", "list" => some true
  | "list", "tuple" => some false
  | "str", "str" => some true
  | "str", "int" => some false
  | "str", "bool" => some false
  | "str", "tuple" => some false
  | "tuple", "list" => some false
  | "tuple", "str" => some false
  | "int", "str" => some false
  | "int", "list" => some false
  | "NoneType", "tuple" => some false
  | "NoneType", "int" => some false
  | "NoneType", "bool" => some false
  | _, _ => none
/-! ### subscripts and slices -/
@[irreducible] def fIx : Da → Da → (SV → Prop) → Prop
  | .list ds, .int i, Q => match atI ds i with
    | some d => Q (.val d)
    | none => False
  | .tuple ds, .int i, Q => match atI ds i with
    | some d => Q (.val d)
    | none => False
  | .str z, .int i, Q => z.length ≤ 1000000 ∧ match atI z.cps.toList i with
    | some c => Q (.val (.str ⟨#[c]⟩))
    | none => False
  | .dict ds, c, Q => match dGetO ds c with
    | some (some d) => Q (.val d)
    | _ => False
  | _, _, _ => False
theorem ix_dict (hu : X.A.units + 1 < cLine) : IxR X (fun x y H Q => ∃ a v, x = .ref a ∧ DGX X.K H a y (some v) ∧ Q v H) := by
  intro value slice pins s σ H x y v u Q I rx ry h hs
  obtain ⟨a, w, rfl, g, q⟩ := h
  cases rx
  have ty := (isDX_at I (dgx_isD g)).1
  refine tail_any ty PySem.F.slot_dict_getitem.lookup ?_ hs
  exact d_getItemX hu I g ry fun w' s3 I3 rw' => ⟨w, H, I3, rw', q⟩
theorem atI_dq {K : PySem.W.Frag} {S : Hp} {ds : List Da} {vs : List V} {i : Int} {d : Da} (h : DqAll K S vs ds) (e : atI ds i = some d) : ∃ v, atI vs i = some v ∧ Dq K S v d := by
  unfold atI at e ⊢
  rw [h.length]
  cases z : ixN ds.length i with
  | none => rw [z] at e; cases e
  | some j =>
    rw [z] at e
    obtain ⟨v, a, b⟩ := h.get (show ds[j]? = some d from e)
    exact ⟨v, a, b⟩
theorem de_ix {a b : Expr} {pos : Pos} {ma mb : MP} (hu : X.A.units + 1 < cLine) (ha : DP Z X a ma) (hb : DP Z X b mb) (hs : PlainIx b := by exact fun _ _ => rfl) : DE Z X (.Subscript a b pos) (mBin fIx ma mb) := (pe_ix IxR.un ha hb hs).wk fun σ H Q ⟨B, env, S, Q0, R, hm, k⟩ => by
  refine ⟨B, env, S, _, R, hm, fun c e1 hm1 x S1 H1 st1 R1 p1 => ?_⟩
  refine ⟨B, e1, S1, _, R1, hm1, fun d e2 hm2 y S2 H2 st2 R2 p2 => ?_⟩
  have p1 := p1.up st2.s
  have fin : ∀ {d v}, Q0 (.val d) e2 → Dq X.K S2 v d → Q v H2 := fun q ir => k _ e2 q _ S2 H2 (st1.trans st2) R2 ir
  unfold fIx at hm2
  split at hm2
  · cases p2.int
    obtain ⟨a, us, rfl, ha, da⟩ := p1.lst R2.w
    split at hm2
    · rename_i d e
      obtain ⟨v, a1, a2⟩ := atI_dq da e
      exact ⟨_, ix_list, a, us, _, v, rfl, rfl, .inl ha, a1, fin hm2 a2⟩
    · exact hm2.elim
  · cases p2.int
    obtain ⟨a, us, rfl, ha, da⟩ := p1.tup
    split at hm2
    · rename_i d e
      obtain ⟨v, a1, a2⟩ := atI_dq da e
      exact ⟨_, ix_tup, a, us, _, v, rfl, rfl, SqT.up R2.w.sub ha, a1, fin hm2 a2⟩
    · exact hm2.elim
  · cases p2.int
    cases p1.str
    obtain ⟨hz, hm2⟩ := hm2
    split at hm2
    · rename_i c e
      exact ⟨_, ix_str, _, _, c, rfl, rfl, le_sz hz, e, fin hm2 (.str _)⟩
    · exact hm2.elim
  · split at hm2
    · rename_i e
      obtain ⟨a, ov, rfl, g, ro, _⟩ := dget_of R2.w p1 p2 e
      cases ov with
      | none => exact ro.elim
      | some v => exact ⟨_, ix_dict hu, a, v, rfl, g, fin hm2 ro⟩
    · exact hm2.elim
  · exact hm2.elim
theorem PO.wk {e : Option Expr} {t t' : TO} (p : PO X e t) (h : ∀ σ H Q, t' σ H Q → t σ H Q) : PO X e t' := ⟨fun pins s σ H Q I h' => p.run pins s σ H Q I (h σ H Q h')⟩
/-- list(range(..)) -/
def rgD (a b : Int) : List Da := (List.range (b - a).toNat).map fun i => .int (a + (i : Nat))
end
end Pq
set_option Elab.async false
set_option linter.all false
set_option maxRecDepth 100000
set_option maxHeartbeats 4000000
namespace Pq
open PySem PySem.Spec PyProof.Rows L2
section
variable {X : Cx}
/-! ### what is walked -/
/-- over whatever stable heap: turn i yields the i-th piece of data -/
def Walks (K : PySem.W.Frag) (B : Br) (J : It) (S : Hp) (ds : List Da) : Prop := ∀ S1 H1, (∀ a o, S a = some o → S1 a = some o) → Wd B S1 H1 →
  (∀ i d, ds[i]? = some d → J.go i H1 ∧ ∀ x H2, J.yld i H1 x H2 → ∃ S2, (∀ env σ, Rel K B env S1 σ H1 → Rel K B env S2 σ H2 ∧ Stq B σ env S1 H1 env S2 H2) ∧ (∀ D o, H1 D = some o → S1 D = none → S2 D = none) ∧ Dq K S2 x d) ∧ ∀ i, ds.length ≤ i → J.stop i H1
def tI (Z : ZX) (K : PySem.W.Frag) (m : ML) : TI := fun σ H R => ∃ B : Bs Z, ∃ env S, ∃ Q0 : List Da → En → Prop, Rel K B env S σ H ∧ m env Q0 ∧ ∀ ds env', Q0 ds env' → ∀ S' H' J, Stq B σ env S H env' S' H' → Rel K B env' S' σ H' → Walks K B J S' ds → R J H'
abbrev DI (Z : ZX) (X : Cx) (tg e : Expr) (m : ML) : Prop := PI X tg e (tI Z X.K m)
theorem PI.wk {tg e : Expr} {t t' : TI} (p : PI X tg e t) (h : ∀ σ H R, t' σ H R → t σ H R) : PI X tg e t' := ⟨fun pins s σ H R I h' => p.run pins s σ H R I (h σ H R h')⟩
theorem walks_list {K : PySem.W.Frag} {B : Br} {S : Hp} {a : Addr} {vs : List V} {ds : List Da} (h : Rd S a (.lst vs)) (hd : DqAll K S vs ds) : Walks K B (Itl K a) S ds := fun S1 H1 e w => by
  have h1 : SqL K H1 a vs := .inl (Rd.up w.sub (Rd.up e h))
  refine ⟨fun i d hi => ?_, fun i hi => ⟨vs, h1, by rw [hd.length]; exact hi⟩⟩
  obtain ⟨v, hv, dv⟩ := hd.get hi
  refine ⟨⟨vs, v, h1, hv⟩, fun x H2 y => ?_⟩
  obtain ⟨rfl, y⟩ := y
  have ex := y vs h1
  rw [hv] at ex
  cases ex
  exact ⟨S1, fun _ _ r => ⟨r, .refl⟩, fun _ _ _ z => z, Dq.up e _ _ dv⟩
theorem walks_tup {K : PySem.W.Frag} {B : Br} {S : Hp} {a : Addr} {vs : List V} {ds : List Da} (h : SqT K S a vs) (hd : DqAll K S vs ds) : Walks K B (Itt K a) S ds := fun S1 H1 e w => by
  have h1 : SqT K H1 a vs := SqT.up w.sub (SqT.up e h)
  refine ⟨fun i d hi => ?_, fun i hi => ⟨vs, h1, by rw [hd.length]; exact hi⟩⟩
  obtain ⟨v, hv, dv⟩ := hd.get hi
  refine ⟨⟨vs, v, h1, hv⟩, fun x H2 y => ?_⟩
  obtain ⟨rfl, y⟩ := y
  have ex := y vs h1
  rw [hv] at ex
  cases ex
  exact ⟨S1, fun _ _ r => ⟨r, .refl⟩, fun _ _ _ z => z, Dq.up e _ _ dv⟩
theorem walks_range {K : PySem.W.Frag} {B : Br} {S : Hp} {a b : Int} : Walks K B (Itr a (b - a).toNat) S (rgD a b) := fun S1 H1 e w => by
  have hl : (rgD a b).length = (b - a).toNat := by unfold rgD; rw [List.length_map, List.length_range]
  refine ⟨fun i d hi => ?_, fun i hi => by rw [hl] at hi; exact hi⟩
  have hlt := (List.getElem?_eq_some_iff.mp hi).1
  rw [hl] at hlt
  refine ⟨hlt, fun x H2 y => ?_⟩
  obtain ⟨rfl, rfl⟩ := y
  unfold rgD at hi
  rw [List.getElem?_map, List.getElem?_range hlt] at hi
  cases hi
  exact ⟨S1, fun _ _ r => ⟨r, .refl⟩, fun _ _ _ z => z, .int _⟩
/-- the signs of a text -/
def sgD (z : Str) : List Da := z.cps.toList.map fun c => .str ⟨#[c]⟩
theorem walks_str {K : PySem.W.Frag} {B : Br} {S : Hp} {z : Str} : Walks K B (Its z) S (sgD z) := fun S1 H1 e w => by
  have hl : (sgD z).length = z.cps.size := by unfold sgD; rw [List.length_map, Array.length_toList]
  refine ⟨fun i d hi => ?_, fun i hi => by rw [hl] at hi; exact hi⟩
  have hlt := (List.getElem?_eq_some_iff.mp hi).1
  rw [hl] at hlt
  refine ⟨hlt, fun x H2 y => ?_⟩
  obtain ⟨rfl, c, hc, rfl⟩ := y
  unfold sgD at hi
  rw [List.getElem?_map, Array.getElem?_toList, hc] at hi
  cases hi
  exact ⟨S1, fun _ _ r => ⟨r, .refl⟩, fun _ _ _ z => z, .str _⟩
/-! ### a dict whose keys are tuples, gone through by its keys -/
def Itq (d : Addr) (a' : DAo) (kvs : TKv) : It :=
  ⟨fun i H => H d = some (dtO a' kvs) ∧ i < kvs.length, fun i H x H' => H' = H ∧ ∃ (k : List Int) (b : Addr) (v : V), kvs[i]? = some (k, b, v) ∧ x = .ref b, fun i H => H d = some (dtO a' kvs) ∧ kvs.length ≤ i⟩
theorem dtq_at {X : Cx} {pins : List (Addr × Obj)} {σ : L2.St} {H : Hp} {s : Shared} {d : Addr} {a' : DAo} {kvs : TKv} (I : Inv X pins σ H s) (h : H d = some (dtO a' kvs)) :
    (d == sysModules) = false ∧ s.heap.get? d = some a'.2 ∧ a'.2.ExactDict ∧ ∃ (es : Array DictEntry) (ep : Nat), a'.2.data = .dict es ep ∧ es.size = kvs.length ∧
      ∀ (i : Nat) (k : List Int) (b : Addr) (v : V), kvs[i]? = some (k, b, v) → ∃ (en : DictEntry), es[i]? = some en ∧ en.key = .ref b := by
  obtain ⟨_, g, z, hs, xs, pr, o, es, ep, ho, hx, hdt, he, _⟩ := dtO_at' (I.hok _ _ h)
  rw [g] at ho
  cases ho
  refine ⟨hs, g, hx, es, ep, hdt, ?_, fun i k b v e => ?_⟩
  · have l1 : es.toList.length = (xs.map tEnt).length := by rw [he]
    rw [List.length_map, Array.length_toList] at l1
    have l2 : kvs.length = xs.length := Paired.length pr
    omega
  · obtain ⟨q, hq, e1, e2, _⟩ := L2.paired_get pr e
    refine ⟨tEnt q, ?_, ?_⟩
    · rw [← Array.getElem?_toList, he, List.getElem?_map, hq]; rfl
    · show Value.ref q.2.1 = _
      rw [← e2]
theorem turn_dt {P : Program} {w : World} {K : PySem.W.Frag} {tg : Expr} {d : Addr} {a' : DAo} {es : Array DictEntry} {ep : Nat} {kvs : TKv} (it : Addr) (hod : a'.2.data = .dict es ep) : Turn P w K tg (Itq d a' kvs) [it] it (fun i h => h.IsKeyIter it d i kvs.length ep) where
  mem := by simp
  obj := fun i h st b hb => by
    have e : b = it := by simpa using hb
    subst e
    obtain ⟨oi, e, c, dd⟩ := st
    exact ⟨oi, e, fun v z => by rw [dd] at z; cases z⟩
  keep := fun i h h' st k => st.at fun oi e => k it (by simp) oi e
  item := by
    intro X hP hw hK hc i pins s σ H E I hf st hg
    subst hP hw hK
    obtain ⟨hd, hi⟩ := hg
    obtain ⟨f0, f1, f2, f3, f4, f5⟩ := hf it (by simp)
    obtain ⟨hs, hgd, hx, es', ep', hdt, hsz, ent⟩ := dtq_at I hd
    obtain ⟨rfl, rfl⟩ := dict_ep hod hdt
    obtain ⟨⟨k, b, v⟩, hkv⟩ : ∃ p, kvs[i]? = some p := ⟨kvs[i], List.getElem?_eq_getElem hi⟩
    obtain ⟨en, hen, hkey⟩ := ent i k b v hkv
    refine next_key_item st hgd hdt hsz hen fun h' st' sb => ?_
    have I1 : Inv X pins σ H { s with heap := h' } := I.turned (t' := s.toks) (fun b ob hb e => (sb.2 b hb).trans e) f0 f1 f3 f4 f5
    obtain ⟨oi, e, c, dd⟩ := id st'
    exact ⟨en.key, rfl, go_of (s := { s with heap := h' }) e c dd (by decide) ⟨.ref b, H, I1, hkey, ⟨rfl, k, b, v, hkv, rfl⟩, st', fun b hb => (hf b hb).1⟩⟩
  done := by
    intro X hP hw hK hc i pins s σ H E I hf st hg
    subst hP hw hK
    obtain ⟨hd, hi⟩ := hg
    obtain ⟨f0, f1, f2, f3, f4, f5⟩ := hf it (by simp)
    obtain ⟨hs, hgd, hx, es', ep', hdt, hsz, ent⟩ := dtq_at I hd
    obtain ⟨rfl, rfl⟩ := dict_ep hod hdt
    exact next_key_end (I.ok.hd hc) st hgd hdt hsz hi fun h' eb => ⟨rfl, I.turned (t' := s.toks) (fun b ob hb e => eb b ob hb e) f0 f1 f3 f4 f5⟩
  self := fun A i s Q E st h => by
    refine wpAny_pyIter_slot st.typeIs PySem.F.slot_dict_keyiterator_iter (wpAny_call_entry PySem.F.slot_dict_keyiterator_iter st.typeIs PySem.F.entry_dict_keyiterator_iter ?_ (PySem.F.args_dict_keyiterator_iter_1 _))
    show wpAny _ _ (ret (.ref it)) _ _ s
    exact wpAny_pure ⟨_, rfl, "dict_keyiterator", _, st.typeIs, PySem.F.slot_dict_keyiterator_next.lookup, h⟩
theorem dqt_key {K : PySem.W.Frag} {S : Hp} : ∀ {kvs : TKv} {ds : List (Da × Da)} {i : Nat} {d : Da}, DqT K S kvs ds → (ds.map (·.1))[i]? = some d → ∃ (k : List Int) (b : Addr) (v : V), kvs[i]? = some (k, b, v) ∧ Dq K S (.ref b) d
  | [], _, i, d, h, e => by cases h; simp at e
  | (k, b, v) :: kvs, _, 0, d, h, e => by
    cases h with
    | cons h0 h1 h2 =>
      simp at e
      subst e
      have all : ∀ l : List Int, DqAll K S (l.map V.int) (l.map PyData.int) := fun l => by
        induction l with
        | nil => exact .nil
        | cons x l ih => exact .cons (.int x) ih
      exact ⟨k, b, v, rfl, .tup h0 (all k)⟩
  | (k, b, v) :: kvs, _, i + 1, d, h, e => by
    cases h with
    | cons h0 h1 h2 =>
      obtain ⟨k', b', v', e1, e2⟩ := dqt_key (i := i) h2 (by simpa using e)
      exact ⟨k', b', v', by simpa using e1, e2⟩
theorem dk_nn {K : PySem.W.Frag} {S : Hp} {kvs : List (L2.Key × V)} {e : Da} {r : List (Da × Da)} : DqK K S kvs ((PyData.none, e) :: r) → False := by
  generalize h : (PyData.none, e) :: r = l
  intro q
  cases q with
  | nil => cases h
  | @cons k v vs d ds h1 h2 =>
    injection h with a b
    injection a with a1 a2
    cases k <;> cases a1
theorem dqt_lenK {K : PySem.W.Frag} {S : Hp} : ∀ {kvs : TKv} {ds : List (Da × Da)}, DqT K S kvs ds → kvs.length = ds.length
  | [], _, h => by cases h; rfl
  | _ :: _, _, h => by cases h with | cons h0 h1 h2 => rw [List.length_cons, List.length_cons, dqt_lenK h2]
theorem walks_dt {K : PySem.W.Frag} {B : Br} {S : Hp} {a : Addr} {a' : DAo} {kvs : TKv} {ds : List (Da × Da)} (h : S a = some (dtO a' kvs)) (hd : DqT K S kvs ds) : Walks K B (Itq a a' kvs) S (ds.map (·.1)) := fun S1 H1 e w => by
  have h1 : H1 a = some (dtO a' kvs) := w.sub _ _ (e _ _ h)
  refine ⟨fun i d hi => ?_, fun i hi => ⟨h1, by rw [dqt_lenK hd]; simpa using hi⟩⟩
  obtain ⟨k, b, v, hv, dv⟩ := dqt_key hd hi
  refine ⟨⟨h1, (List.getElem?_eq_some_iff.mp hv).1⟩, fun x H2 y => ?_⟩
  obtain ⟨rfl, k', b', v', y1, rfl⟩ := y
  rw [hv] at y1
  cases y1
  exact ⟨S1, fun _ _ r => ⟨r, .refl⟩, fun _ _ _ z => z, Dq.up e _ _ dv⟩
/-- a list, a tuple, a text, or a dict whose keys are tuples -/
theorem pi_anyT {tg l : Expr} {tl : TE} (hl : PE X l tl) : PI X tg l (fun σ H R => tl σ H fun x H1 => (∃ a, x = .ref a ∧ ((((∃ xs, SqL X.K H1 a xs) ∧ R (Itl X.K a) H1) ∨ ((∃ xs, SqT X.K H1 a xs) ∧ R (Itt X.K a) H1)) ∨ ∃ a' kvs, H1 a = some (dtO a' kvs) ∧ R (Itq a a' kvs) H1)) ∨ ∃ z, x = .str z ∧ R (Its z) H1) := by
  refine ⟨fun pins s σ H R I h => ?_⟩
  refine thn (hl.run pins s σ H _ I h) fun v s1 ⟨x, H1, I1, r1, q1⟩ => ?_
  rcases q1 with ⟨a, rfl, (⟨⟨xs, hq⟩, q⟩ | ⟨⟨xs, hq⟩, q⟩) | ⟨a', kvs, hd, q⟩⟩ | ⟨z, rfl, q⟩
  · cases r1
    obtain ⟨its, rv, p, hz⟩ := I1.list hq
    refine wpAny_pyIter_list p.isList ?_
    refine ⟨s1.heap.objs.size, [s1.heap.objs.size], _, _, H1, rfl, I1.kept (t' := s1.toks) fun b o e => Heap.get?_push_of_some _ e, turn_list a _, ⟨_, Heap.get?_push_size _ rfl, rfl, rfl⟩, fun b hb => ?_, q⟩
    have e : b = s1.heap.objs.size := by simpa using hb
    subst e
    exact I1.fpOk (Nat.le_refl _) (I1.hok.fresh (Nat.le_refl _))
  · cases r1
    obtain ⟨its, rv, p, hz⟩ := I1.tuple hq
    refine wpAny_pyIter_tuple (show s1.heap.IsTuple a its.toArray from p) ?_
    refine ⟨s1.heap.objs.size, [s1.heap.objs.size], _, _, H1, rfl, I1.kept (t' := s1.toks) fun b o e => Heap.get?_push_of_some _ e, turn_tuple a _, ⟨_, Heap.get?_push_size _ rfl, rfl, rfl⟩, fun b hb => ?_, q⟩
    have e : b = s1.heap.objs.size := by simpa using hb
    subst e
    exact I1.fpOk (Nat.le_refl _) (I1.hok.fresh (Nat.le_refl _))
  · cases r1
    obtain ⟨hs, hgd, hx, es, ep, hdt, hsz, ent⟩ := dtq_at I1 hd
    refine iter_keys hs hgd hx hdt (pi_one (tk := s1.toks) I1 _ (turn_dt _ hdt) ⟨_, Heap.get?_push_size _ rfl, rfl, ?_⟩ q)
    rw [hsz] <;> rfl
  · obtain ⟨t, rfl⟩ := r1
    cases ha : z.cps.all (· < 128)
    · exact wpAny_pyIter_wide ha (pi_one (tk := s1.toks) I1 _ (turn_str _ z t "str_iterator" (.inr rfl)) ⟨_, Heap.get?_push_size _ rfl, rfl, rfl⟩ q)
    · exact wpAny_pyIter_ascii ha (pi_one (tk := s1.toks) I1 _ (turn_str _ z t "str_ascii_iterator" (.inl rfl)) ⟨_, Heap.get?_push_size _ rfl, rfl, rfl⟩ q)
def mItems (m : MP) : ML := fun env Q => m env fun d e => match d with
  | .list ds => Q ds e
  | .tuple ds => Q ds e
  | .str z => Q (sgD z) e
  | .dict ((.none, .none) :: ds) => Q (ds.map (·.1)) e
  | _ => False
theorem di_any {tg l : Expr} {m : MP} (h : DS Z X l m) : DI Z X tg l (mItems m) := PI.wk (pi_anyT h) fun σ H R ⟨B, env, S, Q0, hR, hm, k⟩ => ⟨B, env, S, _, hR, hm, fun d e1 q v S1 H1 st R1 dv => by
  split at q
  · cases dv with
    | lst ha da => exact .inl ⟨_, rfl, .inl (.inl ⟨⟨_, .inl (Rd.up R1.w.sub ha)⟩, k _ e1 q S1 H1 _ st R1 (walks_list ha da)⟩)⟩
  · cases dv with
    | tup ha da =>
      have ha := ha.sq
      exact .inl ⟨_, rfl, .inl (.inr ⟨⟨_, SqT.up R1.w.sub ha⟩, k _ e1 q S1 H1 _ st R1 (walks_tup ha da)⟩)⟩
  · cases dv
    exact .inr ⟨_, rfl, k _ e1 q S1 H1 _ st R1 walks_str⟩
  · cases dv with
    | dk ha hd => exact (dk_nn hd).elim
    | dt ha hd => exact .inl ⟨_, rfl, .inr ⟨_, _, R1.w.sub _ _ ha, k _ e1 q S1 H1 _ st R1 (walks_dt ha hd)⟩⟩
  · exact q.elim⟩
def mRg1 (ma : ML) : ML := fun env Q => ma env fun ds e => match ds with
  | [.int b] => (-1000000 ≤ b ∧ b ≤ 1000000) ∧ Q (rgD 0 b) e
  | _ => False
theorem di_rg1 {tg a : Expr} {p pos : Pos} {ma : ML} (hg : Gl X "range") (hm : X.mg "range" = none) (ha : DPs Z X [a] ma) (hs : starEach [a] X.env = [(false, eval a X.env)] := by rfl) : DI Z X tg (.Call (.Name "range" p) [a] [] pos) (mRg1 ma) :=
  PI.wk (pi_range1 hg hm ha hs) fun σ H R ⟨B, env, S, Q0, hR, hm, k⟩ => ⟨B, env, S, _, hR, hm, fun ds e1 q vs S1 H1 st R1 al => by
    split at q
    · obtain ⟨v, r, rfl, p1, r2⟩ := al
      cases (show r = [] from r2)
      cases p1.int
      rename_i b
      refine ⟨_, rfl, by omega, by omega, k _ e1 q.2 S1 H1 _ st R1 ?_⟩
      have w := walks_range (K := X.K) (B := B) (S := S1) (a := 0) (b := b)
      rw [Int.sub_zero] at w
      exact w
    · exact q.elim⟩
/-! ### targets -/
abbrev MG := Da → En → (En → Prop) → Prop
def Off (is : List Nat) (σ σ' : L2.St) : Prop := σ'.length = σ.length ∧ ∀ j : Nat, j ∉ is → σ'[j]? = σ[j]?
def tG (Z : ZX) (K : PySem.W.Frag) (is : List Nat) (g : MG) : TG := fun v σ H Q => ∃ B : Bs Z, ∃ env S d, ∃ Q0 : En → Prop, Rel K B env S σ H ∧ Dq K S v d ∧ g d env Q0 ∧ ∀ env', Q0 env' → ∀ σ', Rel K B env' S σ' H → Off is σ σ' → (∀ (i : Nat) (b : Bool) (d : Da), env'[i]? = some (.own b d) → env[i]? = some (.own b d)) → Q σ' H
abbrev DG (Z : ZX) (X : Cx) (tg : Expr) (is : List Nat) (g : MG) : Prop := PG X tg (tG Z X.K is g)
theorem PG.wk {tg : Expr} {t t' : TG} (p : PG X tg t) (h : ∀ v σ H Q, t' v σ H Q → t v σ H Q) : PG X tg t' := ⟨fun pins s σ H v u Q I r h' => p.run pins s σ H v u Q I r (h v σ H Q h')⟩
theorem PGs.wk {tg : List Expr} {t t' : TGs} (p : PGs X tg t) (h : ∀ v σ H Q, t' v σ H Q → t v σ H Q) : PGs X tg t' := ⟨fun pins s σ H v u Q I r h' => p.run pins s σ H v u Q I r (h v σ H Q h')⟩
def mgName (i : Nat) : MG := fun d env Q => i < env.length ∧ Q (env.set i (.val d))
theorem dg_name {i : Nat} {x : Str} {pos : Pos} (hN : X.N.Nodup) (hi : X.N[i]? = some x := by rfl) (hx : Loc X.env.scope x := by first | exact Or.inl rfl | exact Or.inr rfl) (hf : X.fn x = true ∨ X.env.scope.names.lookup x = some .local := by first | exact .inl rfl | exact .inr rfl | assumption) : DG Z X (.Name x pos) [i] (mgName i) :=
  PG.wk (pg_name hN hi hx hf) fun v σ H Q ⟨B, env, S, d, Q0, R, hd, hm, k⟩ => k _ hm.2 _ (R.setV hd hm.1) ⟨by rw [List.length_set], fun j hj => List.getElem?_set_ne fun z => hj (by rw [z]; exact List.mem_singleton_self j)⟩ fun j b e h => by
    rcases getElem?_setp h with ⟨e2, e3⟩ | ⟨e2, e3⟩
    · cases e3
    · exact e3
/-! ### list comprehensions -/
def hide1 : SV → SV
  | .own _ d => .own false d
  | r => r
def wipeE (env : En) : List Nat → En
  | [] => env.map hide1
  | v :: vs => (wipeE env vs).set v .no
theorem Rel.hide {K : PySem.W.Frag} {B : Br} {env : En} {S H : Hp} {σ : L2.St} (R : Rel K B env S σ H) : Rel K B (env.map hide1) S σ H := by
  have o : ∀ {i : Nat} {b : Bool} {d : Da}, (env.map hide1)[i]? = some (.own b d) → ∃ c, env[i]? = some (.own c d) := fun {i b d} h => by
    rw [List.getElem?_map] at h
    cases e : env[i]? with
    | none => rw [e] at h; cases h
    | some sv =>
      rw [e] at h
      cases sv <;> cases h
      exact ⟨_, rfl⟩
  have ob : ∀ {i : Nat} {d : Da}, (env.map hide1)[i]? = some (.bor d) → env[i]? = some (.bor d) := fun {i d} h => by
    rw [List.getElem?_map] at h
    cases e : env[i]? with
    | none => rw [e] at h; cases h
    | some sv =>
      rw [e] at h
      cases sv <;> cases h
      rfl
  refine ⟨R.w, by rw [List.length_map]; exact R.len, fun i d h => ?_, fun i h => ?_, fun i b d h => ?_, fun i j b c d e p h1 h2 h3 h4 => ?_, fun i d h => R.bor i d (ob h), fun i j b d e p h1 h2 h3 h4 => ?_, R.binj⟩
  · rw [List.getElem?_map] at h
    cases e : env[i]? with
    | none => rw [e] at h; cases h
    | some sv =>
      rw [e] at h
      cases sv <;> cases h
      exact R.slot i d e
  · rw [List.getElem?_map] at h
    cases e : env[i]? with
    | none => rw [e] at h; cases h
    | some sv =>
      rw [e] at h
      cases sv <;> cases h
      exact R.dl i e
  · obtain ⟨c, e⟩ := o h
    exact R.own i c d e
  · obtain ⟨b', e1⟩ := o h1
    obtain ⟨c', e2⟩ := o h2
    exact R.dist i j b' c' d e p e1 e2 h3 h4
  · obtain ⟨b', e1⟩ := o h1
    exact R.obd i j b' d e p e1 (ob h2) h3 h4
theorem Rel.wipe {K : PySem.W.Frag} {B : Br} {env : En} {S H : Hp} {σ : L2.St} (R : Rel K B env S σ H) : ∀ vs : List Nat, Rel K B (wipeE env vs) S (wipe σ vs) H
  | [] => R.hide
  | v :: vs => by
    have ih := Rel.wipe R vs
    show Rel K B ((wipeE env vs).set v .no) S ((L2.wipe σ vs).set v none) H
    by_cases h : v < (wipeE env vs).length
    · exact ih.setN h
    · rw [List.set_eq_of_length_le (by omega), List.set_eq_of_length_le (by rw [← ih.len]; omega)]
      exact ih
theorem wipe_get (σ : L2.St) : ∀ (vs : List Nat) (j : Nat), (L2.wipe σ vs)[j]? = if j ∈ vs then (if j < σ.length then some none else none) else σ[j]?
  | [], j => by simp [L2.wipe]
  | v :: vs, j => by
    unfold L2.wipe
    by_cases e : v = j
    · subst e
      by_cases h : v < σ.length
      · rw [List.getElem?_set_self (by rw [wipe_length]; exact h)]; simp [h]
      · rw [List.getElem?_eq_none (by rw [List.length_set, wipe_length]; omega)]; simp [h]
    · rw [List.getElem?_set_ne e, wipe_get σ vs j]
      have : (j ∈ v :: vs) ↔ j ∈ vs := by simp [Ne.symm e]
      simp only [this]
theorem wipe_off {σ σ2 : L2.St} {vs is : List Nat} (h : Off is (wipe σ vs) σ2) (hi : ∀ i ∈ is, i ∈ vs) : wipe σ2 vs = wipe σ vs := by
  apply List.ext_getElem?
  intro j
  have hl : σ2.length = σ.length := by rw [h.1, wipe_length]
  rw [wipe_get, wipe_get, hl]
  by_cases hj : j ∈ vs
  · rw [if_pos hj, if_pos hj]
  · rw [if_neg hj, if_neg hj, h.2 j (fun z => hj (hi j z)), wipe_get, if_neg hj]
def lcGo (env : En) (g : MG) (mt : MT) (me : ME) : List Da → List Da → (List Da → Prop) → Prop
  | [], acc, Q => Q acc
  | d :: ds, acc, Q => g d env fun e2 => mt e2 fun b e3 => if b = true then me e3 fun r _ => (match r with
      | .val x => lcGo env g mt me ds (acc ++ [x]) Q
      | .own _ x => lcGo env g mt me ds (acc ++ [x]) Q
      | _ => False) else lcGo env g mt me ds acc Q
def noOwn (env : En) (vs : List Nat) : Prop := ∀ i ∈ vs, match env[i]? with
  | some (.own _ _) => False
  | _ => True
def mLc (vs : List Nat) (mi : ML) (g : MG) (mt : MT) (me : ME) : ME := fun env Q => mi env fun ds e1 => (ds.length ≤ 1000000 ∧ noOwn e1 vs) ∧ lcGo (wipeE e1 vs) g mt me ds [] fun acc => Q (.own true (.list acc)) e1
def mYes : MT := fun env Q => Q true env
abbrev DTs (Z : ZX) (X : Cx) (ifs : List Expr) (m : MT) : Prop := PTs X ifs (tT Z X.K m)
theorem PTs.wk {ifs : List Expr} {t t' : TT} (p : PTs X ifs t) (h : ∀ σ H Q, t' σ H Q → t σ H Q) : PTs X ifs t' := ⟨fun pins s σ H Q I h' => p.run pins s σ H Q I (h σ H Q h')⟩
theorem dts_nil : DTs Z X [] mYes := PTs.wk pts_nil fun σ H Q ⟨B, env, S, Q0, R, h, k⟩ => k _ _ h S H .refl R
/-- an object that no slot owns is changed -/
theorem Rel.other {K : PySem.W.Frag} {B : Br} {env : En} {S H : Hp} {σ : L2.St} {D : Addr} {o : HO} (R : Rel K B env S σ H) (hB : B.H D = none) (hS : S D = none) (hn : ∀ (i : Nat) (sv : SV), env[i]? = some sv → OB sv → σ[i]? ≠ some (some (.ref D))) : Rel K B env S σ (upd H D o) := by
  have nfp : ¬ FP B D := R.w.nfp hB
  have w : Wd B S (upd H D o) := by
    refine ⟨fun a x e => ?_, R.w.bS, fun a x f e => ?_, R.w.bN, fun q l e => ?_⟩
    · have q : a ≠ D := fun z => by subst z; rw [hS] at e; cases e
      rw [upd_ne q]; exact R.w.sub a x e
    · have q : a ≠ D := fun z => by subst z; rw [hB] at e; cases e
      rw [upd_ne q]; exact R.w.bH a x f e
    · obtain ⟨d1, d2⟩ := R.w.deal q l e
      exact ⟨d1.up (upd_ne fun z => nfp ⟨q, l, e, .inl z.symm⟩) (upd_ne fun z => nfp ⟨q, l, e, .inr z.symm⟩), d2⟩
  refine ⟨w, R.len, R.slot, R.dl, fun i b d h => ?_, R.dist, fun i d h => ?_, R.obd, R.binj⟩
  · obtain ⟨p, a, b', c, o', d2, d3⟩ := R.own i b d h
    have nq : p ≠ D := fun z => by subst z; exact hn i _ h trivial a
    exact ⟨p, a, b', c, o', by rw [upd_ne nq]; exact d2, d3⟩
  · obtain ⟨p, q, a, b', c, o', d2, d3⟩ := R.bor i d h
    have nq : p ≠ D := fun z => by subst z; exact hn i _ h trivial a
    exact ⟨p, q, a, b', c, o', by rw [upd_ne nq]; exact d2, d3⟩
theorem wipeE_own {env : En} : ∀ {vs : List Nat} {i : Nat} {b : Bool} {d : Da}, (wipeE env vs)[i]? = some (.own b d) → b = false
  | [], i, b, d, h => by
    unfold wipeE at h
    rw [List.getElem?_map] at h
    cases e : env[i]? with
    | none => rw [e] at h; cases h
    | some sv =>
      rw [e] at h
      cases sv <;> cases h
      rfl
  | v :: vs, i, b, d, h => by
    unfold wipeE at h
    rcases getElem?_setp h with ⟨e2, e3⟩ | ⟨e2, e3⟩
    · cases e3
    · exact wipeE_own e3
/-- what is kept through a comprehension's turns -/
structure LcI (K : PySem.W.Frag) (B : Br) (e1 : En) (S1 H1 : Hp) (σ : L2.St) (D : Addr) (acc : List Da) (S' H' : Hp) : Prop where
  r1 : Rel K B e1 S' σ H'
  up : ∀ a o, S1 a = some o → S' a = some o
  fr : ∀ a o, ¬ FP B a → H1 a = some o → H' a = some o
  fz : ∀ a o, ¬ FP B a → H1 a = some o → S1 a = none → S' a = none
  dn : S' D = none
  dd : ∃ us, H' D = some (.lst us) ∧ DqAll K S' us acc
/-- nothing is frozen -/
def Nf (B : Br) (S H S' : Hp) : Prop := ∀ a o, ¬ FP B a → H a = some o → S a = none → S' a = none
theorem LcI.go {K : PySem.W.Frag} {B : Br} {e1 : En} {S1 H1 : Hp} {σ : L2.St} {D : Addr} {acc : List Da} {S' H' S2 H2 : Hp} (I : LcI K B e1 S1 H1 σ D acc S' H') (hBD : B.H D = none) (w : Wd B S2 H2) (st : Stp B S' H' S2 H2) (nf : Nf B S' H' S2) : LcI K B e1 S1 H1 σ D acc S2 H2 := by
  obtain ⟨us, hu, du⟩ := I.dd
  have nD : ¬ FP B D := w.nfp hBD
  refine ⟨I.r1.stp w st fun i sv p a ob c => ?_, fun a o e => st.1 a o (I.up a o e), fun a o f e => st.2 a o f (I.fr a o f e), fun a o f e n => nf a o f (I.fr a o f e) (I.fz a o f e n), nf D _ nD hu I.dn, us, st.2 _ _ nD hu, DqAll.up st.1 _ _ du⟩
  obtain ⟨p', d, a', b', c', _, d2, _⟩ := I.r1.ob a ob
  rw [c] at a'; cases a'
  exact nf p _ (w.nfp b') d2 c'
theorem nf_of {B : Br} {σ : L2.St} {env env' : En} {S H S' H' : Hp} (h : ∀ (i : Nat) (d : Da), env[i]? ≠ some (.own true d)) (st : Stq B σ env S H env' S' H') : Nf B S H S' := fun a o f e n => by
  rcases st.fz a o f e n with z | ⟨i, d, z, _⟩
  · exact z
  · exact absurd z (h i d)
theorem lc_run {own : List (Str × Nat)} {is : List Nat} {mi : ML} {g : MG} {mt : MT} {me : ME} (his : ∀ i ∈ is, i ∈ own.map (·.2)) : ∀ σ H Q, tE Z X.K (mLc (own.map (·.2)) mi g mt me) σ H Q → tLc (tI Z X.K mi) (tG Z X.K is g) (tT Z X.K mt) (tE Z X.K me) (own.map (·.2)) σ H Q := fun σ H Q ⟨B, env, S, Q0, R, hm, k⟩ => by
  refine ⟨B, env, S, _, R, hm, fun ds e1 q1 S1 H1 J st1 R1 wk => ?_⟩
  obtain ⟨⟨hlen, no⟩, q⟩ := q1
  intro D hD
  have hBD := R1.w.bnone hD
  have hSD := R1.w.snone hD
  have hnD : ∀ (i : Nat) (sv : SV), e1[i]? = some sv → OB sv → σ[i]? ≠ some (some (.ref D)) := R1.fresh hD
  have nD : ¬ FP B D := R1.w.nfp hBD
  refine ⟨fun i m H' => m = ds.length - i ∧ i ≤ ds.length ∧ ∃ acc S', acc.length ≤ i ∧ LcI X.K B e1 S1 H1 σ D acc S' H' ∧ lcGo (wipeE e1 (own.map (·.2))) g mt me (ds.drop i) acc fun acc => Q0 (.own true (.list acc)) e1,
    ⟨ds.length, rfl, Nat.zero_le _, [], S1, Nat.le_refl _, ⟨R1.alloc hD, fun _ _ z => z, fun a o _ z => upd_sub hD a o z, fun _ _ _ _ z => z, hSD, [], upd_same, .nil⟩, q⟩, ?_⟩
  rintro i m H' ⟨rfl, hil, acc, S', ha, I, go⟩
  by_cases hlt : i < ds.length
  · refine .inr ?_
    have hd : ds[i]? = some ds[i] := List.getElem?_eq_getElem hlt
    have ed : ds.drop i = ds[i] :: ds.drop (i + 1) := List.drop_eq_getElem_cons hlt
    rw [ed, lcGo] at go
    obtain ⟨wg, _⟩ := wk S' H' I.up I.r1.w
    obtain ⟨g1, g2⟩ := wg i _ hd
    refine ⟨g1, fun H'' => ∃ acc S'', acc.length ≤ i + 1 ∧ LcI X.K B e1 S1 H1 σ D acc S'' H'' ∧ lcGo (wipeE e1 (own.map (·.2))) g mt me (ds.drop (i + 1)) acc fun acc => Q0 (.own true (.list acc)) e1,
      fun H'' z => ⟨ds.length - (i + 1), by omega, rfl, hlt, z⟩, fun x H2 y => ?_⟩
    obtain ⟨S2, r2, kd, dx⟩ := g2 x H2 y
    have Rb : Rel X.K B (wipeE e1 (own.map (·.2))) S' (wipe σ (own.map (·.2))) H' := I.r1.wipe _
    obtain ⟨Rb2, stb2⟩ := r2 _ _ Rb
    have I2 := I.go hBD Rb2.w stb2.s fun a o _ e n => kd a o e n
    refine ⟨B, wipeE e1 (own.map (·.2)), S2, _, _, Rb2, dx, go, fun e2 q2 σ2 R2 off ow => ⟨wipe_off off his, ?_⟩⟩
    have n2 : ∀ (i : Nat) (d : Da), e2[i]? ≠ some (.own true d) := fun i d z => by cases wipeE_own (ow i true d z)
    refine ⟨B, e2, S2, _, R2, q2, fun b e3 q3 S3 H3 st3 R3 => ?_⟩
    have I3 := I2.go hBD R3.w st3.s (nf_of n2 st3)
    have n3 : ∀ (i : Nat) (d : Da), e3[i]? ≠ some (.own true d) := fun i d z => n2 i d (st3.ow i _ z trivial)
    cases b with
    | false =>
      rw [if_neg Bool.false_ne_true] at q3
      refine iteF ?_
      exact ⟨acc, S3, by omega, I3, q3⟩
    | true =>
      rw [if_pos rfl] at q3
      refine iteT ?_
      refine ⟨B, e3, S3, _, R3, q3, fun r e4 q4 v S4 H4 st4 R4 ir => ?_⟩
      have fin : ∀ {S5 : Hp} {y : Da}, Stq B σ2 e3 S3 H3 e4 S5 H4 → Rel X.K B e4 S5 σ2 H4 → Dq X.K S5 v y → lcGo (wipeE e1 (own.map (·.2))) g mt me (ds.drop (i + 1)) (acc ++ [y]) (fun acc => Q0 (.own true (.list acc)) e1) →
          ∃ acc_1, H4 D = some (.lst acc_1) ∧ acc_1.length < sizeLine ∧ ∃ acc S'', acc.length ≤ i + 1 ∧ LcI X.K B e1 S1 H1 σ D acc S'' (upd H4 D (.lst (acc_1 ++ [v]))) ∧ lcGo (wipeE e1 (own.map (·.2))) g mt me (ds.drop (i + 1)) acc fun acc => Q0 (.own true (.list acc)) e1 := fun {S5 y} st5 R5 dy g5 => by
        have I5 := I3.go hBD R5.w st5.s (nf_of n3 st5)
        obtain ⟨us, hu, du⟩ := I5.dd
        refine ⟨us, hu, by rw [du.length]; exact lt_sz (by omega), acc ++ [y], S5, by rw [List.length_append]; exact Nat.succ_le_succ ha, ⟨I5.r1.other hBD I5.dn hnD, I5.up, fun a o f e => ?_, I5.fz, I5.dn, us ++ [v], upd_same, du.app (.cons dy .nil)⟩, g5⟩
        rw [upd_ne (ne_of_none e hD)]
        exact I5.fr a o f e
      cases r with
      | val y => exact fin st4 R4 ir q4
      | own bb y =>
        obtain ⟨S5, st5, R5, dp⟩ := IsR.frz st4 R4 ir
        exact fin st5 R5 dp q4
      | no => exact ir.elim
      | deal => exact q4.elim
      | bor d => exact q4.elim
      | res b d ids => exact q4.elim
  · have e : i = ds.length := by omega
    subst e
    rw [List.drop_length, lcGo] at go
    obtain ⟨us, hu, du⟩ := I.dd
    refine .inl ⟨(wk S' H' I.up I.r1.w).2 _ (Nat.le_refl _), ?_⟩
    have st : Stq B σ e1 S1 H1 e1 S' H' := ⟨⟨I.up, I.fr⟩, fun _ _ z _ => z, fun a o f e n => .inl (I.fz a o f e n)⟩
    refine k _ e1 go (.ref D) S' H' (st1.trans st) I.r1 (IsR.back R.w st1 ?_)
    exact ⟨rfl, D, rfl, ⟨hBD, I.dn, _, hu, .lst du⟩, hD, hnD⟩
end
end Pq
set_option Elab.async false
set_option linter.all false
set_option maxRecDepth 100000
set_option maxHeartbeats 4000000
namespace Pq
open PySem PySem.Spec PyProof.Rows L2
/-! ### a def's promise where no repr is under way: what repr(x) asks -/
/-- room for k calls, and no repr under way -/
structure RmG (k : Nat) (A : Around) : Prop where
  rm : Room k A
  gd : A.guards = some []
theorem RmG.mono {j k : Nat} {A : Around} (r : RmG k A) (h : j ≤ k) : RmG j A := ⟨r.rm.mono h, r.gd⟩
theorem RmG.u1 {k : Nat} {A : Around} (r : RmG k A) : A.units + 1 < cLine := by have := r.rm.un; omega
theorem RmG.units {k : Nat} {A : Around} (r : RmG k A) : A.units + 64 < cLine := r.rm.units
structure FnG (P : Program) (w : World) (K : PySem.W.Frag) (mg : Str → Option Value) (base : Heap) (CX : CXT) (k : Nat) (f : Addr) (fd : FuncData) (ps : List Str) (sp : Sp) : Prop where
  len : ∀ (vs : List V) (H : Hp) (Q : VK) (E : XK), sp vs H Q E → vs.length = ps.length
  run : ∀ (A : Around) (outs : List Env) (sh : Shared) (H : Hp) (ags : Args) (us : List Value) (vs : List V) (Q : VK) (E : XK), RmG k A → Env0 P w K mg base A outs sh H → BindsTo sh fd ags (ps.zip us) → Vals vs us → sp vs H Q E →
    codeAny (model P w) A (.call (.ref f) ags) (CR CX outs P w H sh Q E) sh
theorem fn_g {CX : CXT} {P : Program} {w : World} {K : PySem.W.Frag} {mg : Str → Option Value} {base : Heap} {k : Nat} {f : Addr} {fd : FuncData} {ps : List Str} {sp : Sp} (F : FnOk P w K mg base CX k f fd ps sp) : FnG P w K mg base CX k f fd ps sp :=
  ⟨F.len, fun A outs sh H ags us vs Q E rg => F.run A outs sh H ags us vs Q E rg.rm⟩
theorem FnG.mono {CX : CXT} {P : Program} {w : World} {K : PySem.W.Frag} {mg : Str → Option Value} {base : Heap} {j k : Nat} {f : Addr} {fd : FuncData} {ps : List Str} {sp : Sp} (F : FnG P w K mg base CX j f fd ps sp) (h : j ≤ k) : FnG P w K mg base CX k f fd ps sp :=
  ⟨F.len, fun A outs sh H ags us vs Q E rg => F.run A outs sh H ags us vs Q E (rg.mono h)⟩
/-- by its body -/
theorem fun_g {P : Program} {w : World} {K : PySem.W.Frag} {mg : Str → Option Value} {base : Heap} {x qual : Str} {st : Stmt} {f : Addr} {fd : FuncData} {N ps : List Str} {k : Nat} {sp : Sp} (Fu : Fun K x qual st f fd) (sc : FnScope N ps (defScope st)) (len : ∀ (vs : List V) (H : Hp) (Q : VK) (E : XK), sp vs H Q E → vs.length = ps.length)
    (body : ∀ (cdv : Value) (A : Around) (outs : List Env) (sh : Shared) (H : Hp) (vs : List V) (Q : VK) (E : XK), RmG k (A.deeper (envOfC qual (defScope st) sh.heap.objs.size f cdv)) → sp vs H Q E →
      ∃ t, PSs (cxOf CX0 P w K mg base N qual (defScope st) f cdv A outs sh H E).nox (defBody st) t ∧ t { nx := fun _ H' => Q .non H', rt := Q } (L2.start N vs) H) : FnG P w K mg base CX0 (k + 1) f fd ps sp := by
  obtain ⟨oc, od, kV, dc, pm, an, cdv, ct, sl, rfl, look, code⟩ := Fu.ex
  refine ⟨len, fun A outs sh H ags us vs Q E rg env0 bnd rel hyp => ?_⟩
  have lenV := len _ _ _ _ hyp
  have kin : K.In sh.heap := env0.mod.kin.keeps fun b o e => (env0.bs b o e).1
  have noLim : sh.heap.NoLimit := env0.mod.nolimit.keeps fun b o e => (env0.bs b o e).1
  have kinds : ∀ y ∈ ps.zip us, (defScope st).names.lookup y.1 = some .local ∨ ((defScope st).names.lookup y.1 = some .cell ∧ ((cellsFrom (sh.heap.objs.size + 1) (defScope st).names []).lookup y.1).isSome = true) := by
    rintro ⟨nm, val⟩ hy
    rcases sc.par nm (List.of_mem_zip hy).1 with z | z
    · exact Or.inl z
    · exact Or.inr ⟨z, PySem.W.cellsFrom_some _ _ _ (Or.inl z)⟩
  refine codeAny_call_function rg.rm.depth (kin _ _ look) rfl sc.co sc.gen rfl (PySem.W.codeRec_of kin code) (bnd _ _ _ _ ?_)
  refine wpAny_newFunctionEnv_cells sc.kind kinds fun env eqn s2 step => ?_
  subst eqn
  refine ⟨noLim.keeps step.toInCall.keep, codeAny_func ?_⟩
  obtain ⟨t, walk, holds⟩ := body cdv A outs sh H vs Q E ⟨rg.rm.deeper _, rg.gd⟩ hyp
  have inv : Inv (cxOf CX0 P w K mg base N qual (defScope st) f cdv A outs sh H E) [] (L2.start N vs) H s2 := inv_start sc rg.rm.hd env0 lenV rel step
  refine wpAny_mono (walk.nox.run [] s2 (L2.start N vs) H _ inv holds) (fun flow s3 done => ?_) fun e s3 done => done
  have leave : ∀ {σ3 : L2.St} {H3 : Hp} {v : V} {u : Value}, Inv (cxOf CX0 P w K mg base N qual (defScope st) f cdv A outs sh H E) [] σ3 H3 s3 → RelV v u → Q v H3 → CE outs P w H sh Q u s3 := fun {σ3 H3 v u} I3 rv z => ⟨v, H3, I3.os, I3.bare, I3.base, I3.hok, rv, z⟩
  cases flow with
  | ret u =>
    obtain ⟨v, σ3, H3, I3, rv, z⟩ := done
    exact leave I3 rv z
  | next =>
    obtain ⟨σ3, H3, I3, z⟩ := done
    exact leave (v := .non) (u := .none) I3 rfl z
  | brk =>
    obtain ⟨_, _, _, z⟩ := done
    exact z.elim
  | cont =>
    obtain ⟨_, _, _, z⟩ := done
    exact z.elim
section
variable {X : Cx}
/-- f(e, ..) -/
theorem pe_callG {k : Nat} {f : Addr} {fd : FuncData} {ps : List Str} {sp : Sp} {x : Str} {e : Expr} {es : List Expr} {p pos : Pos} {t : TA} (F : FnG X.prog X.w X.K X.mg X.base CX0 k f fd ps sp) (rg : RmG k X.A) (gl : Gl X x) (mx : X.mg x = some (.ref f)) (kp : PySem.W.keepIn X.K (.ref f) = true) (bd : Binds X.K fd ps [])
    (ar : PA X (e :: es) t) (hdb : (x == ("__debug__" : Str)) = false := by decide) (he : starEach (e :: es) X.env = (false, eval e X.env) :: starEach es X.env := by rfl) (hpl : (backTo pos (starEach es X.env)).any (·.1) = false := by rfl) :
    PE X (.Call (.Name x p) (e :: es) [] pos) (fun σ H Q => t σ H fun vs H1 => sp vs H1 Q E0) := by
  refine ⟨fun pins sh σ H Q I wish => wpAny_Call_Name_kw (ld_glob I gl mx ?_ hdb)⟩
  refine PySem.W.callWith_K (h₀ := X.base) I.ok.mod.kin kp (thn (ar.run pos pins sh σ H _ I wish) fun us s2 ⟨vs, H2, I2, rel, z⟩ => ⟨I2.kIn, ?_⟩) he hpl
  have lenU : (us ++ []).length = ps.length := by rw [List.append_nil, ← rel.length]; exact F.len _ _ _ _ z
  have bnd := bd s2 us I2.kIn lenU
  rw [List.append_nil] at bnd
  refine wpAny_call (codeAny_mono (F.run X.A X.stack s2 H2 ⟨us, []⟩ us vs Q E0 rg I2.env0 bnd rel z) fun res s3 done => ?_)
  cases res with
  | error e => exact pass0 pins σ H2 s2 e s3 I2 done
  | ok flow =>
    cases flow with
    | ret u => exact I2.after done
    | next => exact done.elim
    | brk => exact done.elim
    | cont => exact done.elim
end
/-! ### the head -/
theorem law_g {P : Program} {w : World} {K : PySem.W.Frag} {mg mb : Str → Option Value} {k : Nat} {fa a : Addr} {fd : FuncData} {x : Str} {sp : Sp} {s0 : Shared} {us : List Value} {ns : List Int}
    (kin : K.In s0.heap) (top : s0.heap.Ns mainGlobals mg) (bi : s0.heap.Ns builtinsNs mb) (boot : ∀ x : Str, x ≠ "__name__" → mb x = bootBuiltins x) (noLim : s0.heap.NoLimit) (gens : s0.gens = #[])
    (at_a : s0.heap.get? a = some { cls := .type "list", data := .seq us.toArray }) (ivs : IntsAre us ns) (few : ns.length ≤ sizeLine) (rg : RmG k callerA)
    (F : ∀ base : Heap, K.In base → base.Ns mainGlobals mg → FnG P w K mg base CX0 k fa fd [x] sp) (bnd : ∀ (sh : Shared) (u : Value), BindsTo sh fd ⟨[u], []⟩ [(x, u)])
    (wish : ∀ H : Hp, Only H → SqL K H a (ns.map V.int) → sp [.ref a] H (fun v _ => v = .bl true) fun _ _ _ => False) :
    codeAny (model P w) callerA (.call (.ref fa) ⟨[.ref a], []⟩) (fun r s2 => r = .ok (.ret (.bool true)) ∧ OldK s0.heap s2.heap ∧ s2.os = s0.os ∧ AllBare s2.gens) s0 := by
  have rels := vals_ints ivs
  have lenU := ivs.length
  have main : ∀ H : Hp, Only H → SqL K H a (ns.map V.int) → HOk P w H s0.heap → (∀ b, H b ≠ none → b = a) → (H a ≠ none → K.lookup a = none) →
      codeAny (model P w) callerA (.call (.ref fa) ⟨[.ref a], []⟩) (fun r s2 => r = .ok (.ret (.bool true)) ∧ OldK s0.heap s2.heap ∧ s2.os = s0.os ∧ AllBare s2.gens) s0 := by
    intro H only seq hok onlyA notK
    have toBase : ∀ {b : Addr} {o : Obj}, s0.heap.get? b = some o → H b = none → (hidT s0.heap H).get? b = some o := fun e n => hidT_get e n
    have noDict : ∀ {b : Addr} {o : Obj} {es : Array DictEntry} {ep : Nat}, s0.heap.get? b = some o → o.data = .dict es ep → H b = none := by
      intro b o es ep e d
      cases q : H b with
      | none => rfl
      | some u =>
        have same : b = a := onlyA b (by rw [q]; simp)
        subst same
        rw [at_a] at e
        cases e
        have d2 : Data.seq us.toArray _ = Data.dict es ep := d
        cases d2
    have nsB : ∀ {b : Addr} {m : Str → Option Value}, s0.heap.Ns b m → (hidT s0.heap H).Ns b m := fun {b m} ⟨o, es, ep, e, d, r⟩ => ⟨o, es, ep, toBase e (noDict e d), d, r⟩
    have kinB : K.In (hidT s0.heap H) := by
      intro b o e
      refine toBase (kin b o e) ?_
      cases q : H b with
      | none => rfl
      | some u =>
        have same : b = a := onlyA b (by rw [q]; simp)
        subst same
        rw [notK (by rw [q]; simp)] at e
        cases e
    have md : Mod K mg (hidT s0.heap H) := ⟨kinB, nsB top, ⟨mb, nsB bi, boot⟩, let ⟨mc, h1, h2⟩ := noLim; ⟨mc, nsB h1, h2⟩⟩
    have env0 : Env0 P w K mg (hidT s0.heap H) callerA [] s0 H := ⟨rfl, md, fun b o e => of_hidT e, Nat.le_of_eq (hidT_size _ _), trivial, fun b hb => absurd (show b ∈ ([] : List Addr) from hb) (by simp), hok, .of_eq gens⟩
    refine codeAny_mono ((F _ kinB (nsB top)).run callerA [] s0 H ⟨[.ref a], []⟩ [.ref a] [.ref a] _ _ rg env0 (bnd s0 (.ref a)) (.cons rfl .nil) (wish H only seq)) fun res s2 done => ?_
    cases res with
    | error e => exact (show False from done).elim
    | ok flow =>
      cases flow with
      | next => exact done.elim
      | brk => exact done.elim
      | cont => exact done.elim
      | ret u =>
        obtain ⟨v, H2, os, bare, un, hok2, rv, z⟩ := done
        have z : v = .bl true := z
        subst z
        obtain rfl : u = Value.bool true := rv
        refine ⟨rfl, OldK.of_keep fun b o e => ?_, os, bare⟩
        cases q : H b with
        | none => exact un.keep b o e q (by intro z; exact absurd (show b ∈ ([] : List Addr) from z) (by simp)) (by simp)
        | some u =>
          rcases only b with z | ⟨ob, xs, z⟩
          · rw [q] at z
            cases z
          · have z2 := un.frzs b ob _ z
            obtain ⟨e1, _⟩ := hok b _ z
            obtain ⟨e2, _⟩ := hok2 b _ z2
            rw [e] at e1
            cases e1
            exact e2
  cases look : K.lookup a with
  | some o =>
    have e := kin a o look
    rw [at_a] at e
    cases e
    refine main (fun _ => none) (fun _ => Or.inl rfl) (Or.inr ⟨_, us.toArray, _, look, rfl, rfl, rfl, by rw [List.size_toArray, lenU]; exact few, by simpa using rels⟩) (fun b u z => by have z2 : (none : Option HO) = some u := z; cases z2) (fun b z => absurd rfl z) fun z => absurd rfl z
  | none =>
    refine main (fun b => if b = a then some (.frz { cls := .type "list", data := .seq us.toArray } (.lst (ns.map V.int))) else none) (fun b => ?_) (Or.inl (Or.inr ⟨{ cls := .type "list", data := .seq us.toArray }, if_pos rfl⟩)) (fun b u z => ?_) (fun b z => ?_) fun _ => look
    · by_cases hb : b = a
      · exact Or.inr ⟨_, _, if_pos hb⟩
      · exact Or.inl (if_neg hb)
    · by_cases hb : b = a
      · have z2 := (if_pos hb).symm.trans z
        cases z2
        subst hb
        exact ⟨at_a, by rw [List.length_map]; exact few, us, _, rels, at_a⟩
      · have z2 := (if_neg hb).symm.trans z
        cases z2
    · by_cases hb : b = a
      · exact hb
      · exact absurd (if_neg hb) z
theorem walk_g {l : PySem.W.OpenLaw} {n k : Nat} {q : Program} {loose : List Str} {XP : (Str → Option Value) → Heap → Prop} {YP : World → Heap → Prop} {d : DefRec} {K : Params → PySem.W.Frag} {sp : World → Sp} {x : Str}
    (most : l.most = some n) (few : n ≤ sizeLine) (plain : d.params.defaults = []) (rg : RmG k callerA) (inK : ∀ (w : World) (h : Heap), YP w h → (K w.params).In h)
    (F : ∀ (w : World) (mg : Str → Option Value) (fa : Addr) (h : Heap), (K w.params).In h → h.Ns mainGlobals mg → mg d.name = some (.ref fa) →
      ∃ fd : FuncData, (∀ (sh : Shared) (u : Value), BindsTo sh fd ⟨[u], []⟩ [(x, u)]) ∧ ∀ base : Heap, (K w.params).In base → base.Ns mainGlobals mg → FnG l.prog w (K w.params) mg base CX0 k fa fd [x] (sp w))
    (wish : ∀ (w : World) (H : Hp) (a : Addr) (ns : List Int), ns.length ≤ n → Only H → SqL (K w.params) H a (ns.map V.int) → sp w [.ref a] H (fun v _ => v = .bl true) fun _ _ _ => False) : PySem.W.WalkO q loose XP YP l.row.toRowW d [] (fun f vs => PySem.call f vs) := by
  refine Att.attach_call most plain fun w s9 s0 mg mb fa o pm cd dc a us ns G Y ho hd hcd named obj ivs len gens => ?_
  have kin := inK w _ Y
  obtain ⟨fd, bnd, hF⟩ := F w mg fa _ kin G.T.g named
  exact law_g kin G.T.g G.T.b G.T.builtins G.T.nolimit gens obj ivs (Nat.le_trans len few) rg hF bnd fun H only seq => wish w H a ns len only seq
end Pq
set_option Elab.async false
set_option linter.all false
set_option maxRecDepth 100000
set_option maxHeartbeats 4000000
namespace Pq
open PySem PySem.Spec PyProof.Rows L2
/-- what is wanted behind a statement -/
structure EM where
  nx : En → Prop
  rt : SV → Prop
  bk : En → Prop
  ct : En → Prop
abbrev MS := En → EM → Prop
def IsRet (K : PySem.W.Frag) (B : Br) (S H : Hp) : SV → V → Prop
  | .val d, v => Dq K S v d
  | .own b d, v => b = true ∧ ∃ p, v = .ref p ∧ Own K B S H d p
  | .res b d ids, v => ids ≠ [] ∧ (if b = true then ∃ p, v = .ref p ∧ Own K B S H d p ∧ ∀ x ∈ ids, B.bo x.1 ≠ some p else Dq K S v d) ∧ ∀ x ∈ ids, ∃ q, B.bo x.1 = some q ∧ Own K B S H x.2 q
  | _, _ => False
abbrev Up (S S' : Hp) : Prop := ∀ a o, S a = some o → S' a = some o
def Nx (K : PySem.W.Frag) (B : Br) (S : Hp) (P : En → Prop) (Q : L2.St → Hp → Prop) : Prop := ∀ env' σ' S' H', P env' → Rel K B env' S' σ' H' → Up S S' → Q σ' H'
def Rt (K : PySem.W.Frag) (B : Br) (P : SV → Prop) (Q : VK) : Prop := ∀ r v S' H', P r → Wd B S' H' → IsRet K B S' H' r v → Q v H'
structure Eok (K : PySem.W.Frag) (B : Br) (S : Hp) (E : EM) (D : Ends) : Prop where
  nx : Nx K B S E.nx D.nx
  rt : Rt K B E.rt D.rt
  bk : Nx K B S E.bk D.bk
  ct : Nx K B S E.ct D.ct
theorem Nx.up {K : PySem.W.Frag} {B : Br} {S S' : Hp} {P : En → Prop} {Q : L2.St → Hp → Prop} (u : Up S S') (h : Nx K B S P Q) : Nx K B S' P Q := fun e σ S2 H p R w => h e σ S2 H p R fun a o z => w a o (u a o z)
theorem Eok.up {K : PySem.W.Frag} {B : Br} {S S' : Hp} {E : EM} {D : Ends} (u : Up S S') (h : Eok K B S E D) : Eok K B S' E D := ⟨h.nx.up u, h.rt, h.bk.up u, h.ct.up u⟩
def tSt (Z : ZX) (K : PySem.W.Frag) (m : MS) : TS := fun D σ H => ∃ B : Bs Z, ∃ env S E, Rel K B env S σ H ∧ m env E ∧ Eok K B S E D
section
variable {X : Cx}
abbrev DSt (Z : ZX) (X : Cx) (st : Stmt) (m : MS) : Prop := PS X st (tSt Z X.K m)
abbrev DSs (Z : ZX) (X : Cx) (sts : List Stmt) (m : MS) : Prop := PSs X sts (tSt Z X.K m)
def msNext : MS := fun env E => E.nx env
def msSeq (m n : MS) : MS := fun env E => m env { E with nx := fun e => n e E }
theorem dss_nil : DSs Z X [] msNext := pss_nil.wk fun D σ H ⟨B, env, S, E, R, h, k⟩ => k.nx _ σ S H h R fun _ _ z => z
theorem dss_cons {st : Stmt} {rest : List Stmt} {m n : MS} (h1 : DSt Z X st m) (h2 : DSs Z X rest n) : DSs Z X (st :: rest) (msSeq m n) := (pss_cons h1 h2).wk fun D σ H ⟨B, env, S, E, R, h, k⟩ =>
  ⟨B, env, S, _, R, h, ⟨fun e σ' S' H' p R' u => ⟨B, e, S', E, R', p, k.up u⟩, k.rt, k.bk, k.ct⟩⟩
theorem dss_one {st : Stmt} {m : MS} (h : DSt Z X st m) : DSs Z X [st] m := pss_one h
/-! ### stores -/
def putR (i : Nat) (r : SV) (e : En) (Q : En → Prop) : Prop := match r with
  | .val d => i < e.length ∧ Q (e.set i (.val d))
  | .own b d => i < e.length ∧ Q (e.set i (.own b d))
  | _ => False
def msSet (i : Nat) (m : ME) : MS := fun env E => m env fun r e => putR i r e E.nx
theorem set_run {i : Nat} {m : ME} {te : TE} (hr : ∀ σ H Q, tE Z X.K m σ H Q → te σ H Q) : ∀ D σ H, tSt Z X.K (msSet i m) D σ H → tAsg te (gName i) D σ H := fun D σ H ⟨B, env, S, E, R, h, k⟩ =>
  hr σ H _ ⟨B, env, S, _, R, h, fun r e1 q v S1 H1 st R1 ir => by
    cases r with
    | val d => exact k.nx _ _ S1 H1 q.2 (R1.setV ir q.1) st.s.1
    | own b d =>
      obtain ⟨hb, p, rfl, o, _, hn⟩ := ir
      subst hb
      exact k.nx _ _ S1 H1 q.2 (R1.setO o hn q.1) st.s.1
    | no => exact q.elim
    | deal => exact q.elim
    | bor d => exact q.elim
    | res b d ids => exact q.elim⟩
theorem dst_set {i : Nat} {x : Str} {e : Expr} {m : ME} {pos' pos : Pos} (hN : X.N.Nodup) (he : DE Z X e m) (hi : X.N[i]? = some x := by rfl) (hx : Loc X.env.scope x := by first | exact Or.inl rfl | exact Or.inr rfl) (hs : swapsWith e (some (.Name x pos')) pos.line X.env = pure false := by rfl) (hf : X.fn x = true ∨ X.env.scope.names.lookup x = some .local := by first | exact .inl rfl | exact .inr rfl | assumption) :
    DSt Z X (.Assign [.Name x pos'] e pos) (msSet i m) := (ps_set hN hi hx he hs hf).wk (set_run fun _ _ _ z => z)
theorem dst_setLc {i : Nat} {y : Str} {py : Pos} {elt tg iter : Expr} {ifs : List Expr} {scope : Scope} {own : List (Str × Nat)} {is : List Nat} {pos spos : Pos} {mi : ML} {g : MG} {mt : MT} {me : ME} (hc : X.calm = true) (hN : X.N.Nodup) (hi : DI Z X tg iter mi) (ok : BlkOk X.N X.env.scope scope own)
    (hg : ∀ (s : Shared) (H : Hp) (C : Addr) (cl : List (Str × Addr)) (fp : List Addr), DG Z (X.blk s H scope (compEnvC scope cl C X.env) fp) tg is g)
    (ht : ∀ (s : Shared) (H : Hp) (C : Addr) (cl : List (Str × Addr)) (fp : List Addr), DTs Z (X.blk s H scope (compEnvC scope cl C X.env) fp) ifs mt)
    (he : ∀ (s : Shared) (H : Hp) (C : Addr) (cl : List (Str × Addr)) (fp : List Addr), DE Z (X.blk s H scope (compEnvC scope cl C X.env) fp) elt me)
    (hsw : swapsWith (.ListComp elt [⟨tg, iter, ifs, 0⟩] scope pos) (some (.Name y py)) spos.line X.env = pure true)
    (hy : X.N[i]? = some y := by rfl) (hyl : X.env.scope.names.lookup y = some .local := by rfl) (his : ∀ i ∈ is, i ∈ own.map (·.2) := by decide) (hs : ∀ x, foldedSetIterable iter X.env x = pure x := by intro _; rfl) :
    DSt Z X (.Assign [.Name y py] (.ListComp elt [⟨tg, iter, ifs, 0⟩] scope pos) spos) (msSet i (mLc (own.map (·.2)) mi g mt me)) :=
  (ps_setLc (wi := tI Z X.K mi) (g := tG Z X.K is g) (tt := tT Z X.K mt) (te := tE Z X.K me) hc hN hy hyl hsw hi ok hg ht he hs).wk (set_run (lc_run his))
def retR (r : SV) (Q : SV → Prop) : Prop := match r with
  | .val d => Q (.val d)
  | .own b d => Q (.own b d)
  | _ => False
def msRet (m : ME) : MS := fun env E => m env fun r _ => retR r E.rt
theorem dst_ret {e : Expr} {m : ME} {pos : Pos} (he : DE Z X e m) : DSt Z X (.Return (some e) pos) (msRet m) := (ps_ret he).wk fun D σ H ⟨B, env, S, E, R, h, k⟩ =>
  ⟨B, env, S, _, R, h, fun r e1 q v S1 H1 st R1 ir => by
    cases r with
    | val d => exact k.rt _ v S1 H1 q R1.w ir
    | own b d =>
      obtain ⟨hb, p, rfl, o, _, hn⟩ := ir
      exact k.rt _ _ S1 H1 q R1.w ⟨hb, p, rfl, o⟩
    | no => exact ir.elim
    | deal => exact q.elim
    | bor d => exact q.elim
    | res b d ids => exact q.elim⟩
/-! ### lists changed in place -/
def msIf (c : MT) (m n : MS) : MS := fun env E => c env fun b e => if b = true then m e E else n e E
theorem dst_if {c : Expr} {a b : List Stmt} {mc : MT} {m n : MS} {pos : Pos} (hc : DT Z X c mc) (ha : DSs Z X a m) (hb : DSs Z X b n) : DSt Z X (.If c a b pos) (msIf mc m n) := (ps_if hc ha hb).wk fun D σ H ⟨B, env, S, E, R, h, k⟩ =>
  ⟨B, env, S, _, R, h, fun b e1 q S1 H1 st R1 => by
    cases b with
    | true =>
      rw [if_pos rfl] at q
      exact iteT ⟨B, e1, S1, E, R1, q, k.up st.s.1⟩
    | false =>
      rw [if_neg Bool.false_ne_true] at q
      exact iteF ⟨B, e1, S1, E, R1, q, k.up st.s.1⟩⟩
/-! ### loops -/
def forGo (g : MG) (body : MS) : List Da → En → EM → Prop
  | [], env, E => E.nx env
  | d :: ds, env, E => g d env fun e2 => body e2 ⟨fun e => forGo g body ds e E, E.rt, E.nx, fun e => forGo g body ds e E⟩
def msFor (mi : ML) (g : MG) (body : MS) : MS := fun env E => mi env fun ds e1 => forGo g body ds e1 E
theorem dst_for {tg iter : Expr} {body : List Stmt} {is : List Nat} {mi : ML} {g : MG} {mb : MS} {pos : Pos} (hp : PassesOwn (model X.prog X.w) X.A X.env X.xe) (hc : X.calm = true) (hi : DI Z X tg iter mi) (hg : DG Z X tg is g) (hb : DSs Z X body mb)
    (hs : ∀ x, foldedSetIterable iter X.env x = pure x := by intro _; rfl) : DSt Z X (.For tg iter body [] pos) (msFor mi g mb) := (ps_for hp hc hi hg hb hs).wk fun D σ H ⟨B, env, S, E, R, h, k⟩ => by
  refine ⟨B, env, S, _, R, h, fun ds e1 q S1 H1 J st R1 wk => ?_⟩
  refine ⟨fun i m σ' H' => m = ds.length - i ∧ i ≤ ds.length ∧ ∃ env' S', Rel X.K B env' S' σ' H' ∧ Up S1 S' ∧ forGo g mb (ds.drop i) env' E, ⟨ds.length, rfl, Nat.zero_le _, e1, S1, R1, fun _ _ z => z, q⟩, ?_⟩
  rintro i m σ' H' ⟨rfl, hil, env', S', R', u, go⟩
  have k' : Eok X.K B S' E D := (k.up st.s.1).up u
  by_cases hlt : i < ds.length
  · refine .inr ?_
    have hd : ds[i]? = some ds[i] := List.getElem?_eq_getElem hlt
    have ed : ds.drop i = ds[i] :: ds.drop (i + 1) := List.drop_eq_getElem_cons hlt
    rw [ed, forGo] at go
    obtain ⟨wg, _⟩ := wk S' H' u R'.w
    obtain ⟨g1, g2⟩ := wg i _ hd
    refine ⟨g1, fun σ2 H2 => ∃ env' S', Rel X.K B env' S' σ2 H2 ∧ Up S1 S' ∧ forGo g mb (ds.drop (i + 1)) env' E, fun σ2 H2 z => ⟨ds.length - (i + 1), by omega, rfl, hlt, z⟩, fun x H2 y => ?_⟩
    obtain ⟨S2, r2, _, dx⟩ := g2 x H2 y
    obtain ⟨R2, st2⟩ := r2 _ _ R'
    refine ⟨B, env', S2, _, _, R2, dx, go, fun e2 q2 σ2 R3 _ _ => ⟨B, e2, S2, _, R3, q2, ?_⟩⟩
    have k2 := k'.up st2.s.1
    have u2 : Up S1 S2 := fun a o z => st2.s.1 a o (u a o z)
    exact ⟨fun e σ3 S3 H3 p R4 w => ⟨e, S3, R4, fun a o z => w a o (u2 a o z), p⟩, k2.rt, k2.nx, fun e σ3 S3 H3 p R4 w => ⟨e, S3, R4, fun a o z => w a o (u2 a o z), p⟩⟩
  · have e : i = ds.length := by omega
    subst e
    rw [List.drop_length, forGo] at go
    exact .inl ⟨(wk S' H' u R'.w).2 _ (Nat.le_refl _), k'.nx _ _ S' H' go R' fun _ _ z => z⟩
end
/-! ### defs -/
theorem AllR.get {K : PySem.W.Frag} {dl : Option (Addr × Addr)} {S : Hp} : ∀ {rs : List SV} {vs : List V} {i : Nat} {r : SV}, AllR K dl S rs vs → rs[i]? = some r → ∃ v, vs[i]? = some v ∧ match r with
    | .val d => Dq K S v d
    | .deal => ∃ p l, dl = some (p, l) ∧ v = .ref p
    | _ => False
  | [], _, _, _, _, e => by simp at e
  | .val d :: rs, _, 0, r, h, e => by
    obtain ⟨v, r', rfl, b, c⟩ := h
    simp at e; subst e
    exact ⟨v, rfl, b⟩
  | .val d :: rs, _, i + 1, r, h, e => by
    obtain ⟨v, r', rfl, b, c⟩ := h
    obtain ⟨v', x, y⟩ := AllR.get (i := i) c (by simpa using e)
    exact ⟨v', by simpa using x, y⟩
  | .deal :: rs, _, 0, r, h, e => by
    obtain ⟨p, l, r', rfl, b, c⟩ := h
    simp at e; subst e
    exact ⟨_, rfl, p, l, b, rfl⟩
  | .deal :: rs, _, i + 1, r, h, e => by
    obtain ⟨p, l, r', rfl, b, c⟩ := h
    obtain ⟨v', x, y⟩ := AllR.get (i := i) c (by simpa using e)
    exact ⟨v', by simpa using x, y⟩
  | .no :: _, _, _, _, h, _ => h.elim
  | .own _ _ :: _, _, _, _, h, _ => h.elim
  | .bor _ :: _, _, _, _, h, _ => h.elim
  | .res _ _ _ :: _, _, _, _, h, _ => h.elim
abbrev FS := List SV → (SV → Prop) → Prop
/-- the promise of a def that answers by data -/
def spD (K : PySem.W.Frag) (n : Nat) (F : FS) : Sp := fun vs H Q _ => ∃ S dl rs, ∃ Q0 : SV → Prop, Up S H ∧ (∀ p l, dl = some (p, l) → DealAt H p l ∧ S p = none ∧ S l = none) ∧ AllR K dl S rs vs ∧ rs.length = n ∧ F rs Q0 ∧
  ∀ r v S' H', Q0 r → Wd ⟨S, H, dl, fun _ => none⟩ S' H' → IsRet K ⟨S, H, dl, fun _ => none⟩ S' H' r v → Q v H'
def fnD (N n : Nat) (m : MS) : FS := fun rs Q => m (rs ++ List.replicate (N - n) SV.no) ⟨fun _ => Q (.val .none), Q, fun _ => False, fun _ => False⟩
/-- the env at a def's begin -/
theorem start_rel {K : PySem.W.Frag} {N ps : List Str} {S H : Hp} {dl : Option (Addr × Addr)} {rs : List SV} {vs : List V} (hN : ps.length ≤ N.length) (up : Up S H) (dk : ∀ p l, dl = some (p, l) → DealAt H p l ∧ S p = none ∧ S l = none) (al : AllR K dl S rs vs) (hl : rs.length = ps.length) :
    Rel K ⟨S, H, dl, fun _ => none⟩ (rs ++ List.replicate (N.length - ps.length) SV.no) S (L2.start N vs) H := by
  have hv : vs.length = ps.length := by rw [al.length, hl]
  have lft : ∀ {i : Nat} {r : SV}, (rs ++ List.replicate (N.length - ps.length) SV.no)[i]? = some r → r = .no ∨ (rs[i]? = some r) := fun {i r} h => by
    by_cases hi : i < rs.length
    · rw [List.getElem?_append_left hi] at h; exact .inr h
    · rw [List.getElem?_append_right (by omega)] at h
      exact .inl (List.eq_of_mem_replicate (List.mem_of_getElem? h))
  have stv : ∀ {i : Nat} {v : V}, vs[i]? = some v → (L2.start N vs)[i]? = some (some v) := fun {i v} h => by
    have hi := (List.getElem?_eq_some_iff.mp h).1
    unfold L2.start
    rw [List.getElem?_append_left (by rw [List.length_map]; exact hi), List.getElem?_map, h]
    rfl
  refine ⟨⟨up, fun _ _ z => z, fun _ _ _ z => z, fun _ _ _ z => z, fun p l e => ?_⟩, ?_, fun i d h => ?_, fun i h => ?_, fun i b d h => ?_, fun i j b c d e p h => ?_, fun i d h => ?_, fun i j b d e p h => ?_, fun i j p h => nomatch h⟩
  · obtain ⟨d1, d2, d3⟩ := dk p l e
    obtain ⟨_, _, _, _, a1, a2, _⟩ := id d1
    exact ⟨d1, ⟨_, a1⟩, ⟨_, a2⟩, d2, d3⟩
  · unfold L2.start
    rw [List.length_append, List.length_append, List.length_map, List.length_replicate, List.length_replicate, hl, hv]
  · rcases lft h with z | z
    · cases z
    · obtain ⟨v, a, b⟩ := al.get z
      exact ⟨v, stv a, b⟩
  · rcases lft h with z | z
    · cases z
    · obtain ⟨v, a, p, l, b, rfl⟩ := al.get z
      exact ⟨p, l, b, stv a⟩
  · rcases lft h with z | z
    · cases z
    · obtain ⟨v, a, b⟩ := al.get z
      exact b.elim
  · rcases lft h with z | z
    · cases z
    · obtain ⟨v, a, b⟩ := al.get z
      exact b.elim
  · rcases lft h with z | z
    · cases z
    · obtain ⟨v, a, b⟩ := al.get z
      exact b.elim
  · rcases lft h with z | z
    · cases z
    · obtain ⟨v, a, b⟩ := al.get z
      exact b.elim
theorem sc_few {N ps : List Str} {sc : Scope} (h : FnScope N ps sc) : ps.length ≤ N.length := by
  have := congrArg List.length h.pre
  rw [List.length_take] at this
  omega
theorem fn_d {P : Program} {w : World} {K : PySem.W.Frag} {mg : Str → Option Value} {base : Heap} {x qual : Str} {st : Stmt} {f : Addr} {fd : FuncData} {N ps : List Str} {k : Nat} {m : MS} (Fu : Fun K x qual st f fd) (sc : FnScope N ps (defScope st))
    (hb : ∀ (cdv : Value) (A : Around) (outer : List Env) (s : Shared) (H : Hp) (E : XK), RmG k (A.deeper (envOfC qual (defScope st) s.heap.objs.size f cdv)) → DSs (z0 K) (cxOf CX0 P w K mg base N qual (defScope st) f cdv A outer s H E).nox (defBody st) m) :
    FnG P w K mg base CX0 (k + 1) f fd ps (spD K ps.length (fnD N.length ps.length m)) := by
  refine fun_g Fu sc (fun vs H Q E h => ?_) (fun cdv A outer s H vs Q E hr h => ?_)
  · obtain ⟨S, dl, rs, Q0, _, _, al, hl, _⟩ := h
    rw [al.length, hl]
  · refine ⟨_, hb cdv A outer s H E hr, ?_⟩
    obtain ⟨S, dl, rs, Q0, up, dk, al, hl, hF, q⟩ := h
    exact ⟨b0 K ⟨S, H, dl, fun _ => none⟩, rs ++ List.replicate (N.length - ps.length) SV.no, S, ⟨fun _ => Q0 (.val .none), Q0, fun _ => False, fun _ => False⟩, start_rel (sc_few sc) up dk al hl, hF,
      ⟨fun e σ' S' H' p R' _ => q _ _ S' H' p R'.w .non, fun r v S' H' p w' ir => q r v S' H' p w' ir, fun _ _ _ _ z => z.elim, fun _ _ _ _ z => z.elim⟩⟩
/-- behind a call that changed nothing of what stood -/
theorem call_back {K : PySem.W.Frag} {B : Br} {e1 : En} {S1 H1 S' H' : Hp} {σ : L2.St} (R1 : Rel K B e1 S1 σ H1) (w' : Wd ⟨S1, H1, B.deal, fun _ => none⟩ S' H') : Stq B σ e1 S1 H1 e1 S' H' ∧ Rel K B e1 S' σ H' := by
  have hst : Stq B σ e1 S1 H1 e1 S' H' := ⟨⟨w'.bS, fun a o f e => w'.bH a o f e⟩, fun _ _ z _ => z, fun a o f e n => .inl (w'.bN a o e n)⟩
  have hw : Wd B S' H' := by
    refine ⟨w'.sub, fun a o e => w'.bS a o (R1.w.bS a o e), fun a o f e => w'.bH a o f (R1.w.bH a o f e), fun a o e n => ?_, fun p l e => ?_⟩
    · by_cases f : FP B a
      · obtain ⟨_, n2, o2, h2⟩ := R1.w.fp f
        exact w'.bN a o2 h2 (R1.w.bN a o e n)
      · exact w'.bN a o (R1.w.bH a o f e) (R1.w.bN a o e n)
    · obtain ⟨d1, d2⟩ := R1.w.deal p l e
      exact ⟨(w'.deal p l e).1, d2⟩
  exact ⟨hst, R1.stp hw hst.s fun i sv p a ob c => by
    obtain ⟨p', d, a', b', c', _, d2, _⟩ := R1.ob a ob
    rw [c] at a'; cases a'
    exact w'.bN p _ d2 c'⟩
theorem call_deal {K : PySem.W.Frag} {B : Br} {e1 : En} {S1 H1 : Hp} {σ : L2.St} (R1 : Rel K B e1 S1 σ H1) : ∀ p l, B.deal = some (p, l) → DealAt H1 p l ∧ S1 p = none ∧ S1 l = none := fun p l e => by
  obtain ⟨d1, d2, d3, d4, d5⟩ := R1.w.deal p l e
  obtain ⟨⟨o, b1⟩, ⟨o', b2⟩⟩ := And.intro d2 d3
  exact ⟨d1, R1.w.bN p o b1 d4, R1.w.bN l o' b2 d5⟩
theorem call_res {K : PySem.W.Frag} {B : Br} {env e1 : En} {S H S1 H1 S' H' : Hp} {σ : L2.St} {r : SV} {v : V} (R : Rel K B env S σ H) (st : Stq B σ env S H e1 S1 H1) (R1 : Rel K B e1 S1 σ H1) (ir : IsRet K ⟨S1, H1, B.deal, fun _ => none⟩ S' H' r v) : IsR K B e1 S' σ H H' r v := by
  cases r with
  | val d => exact ir
  | own b d =>
    obtain ⟨hb, p, rfl, o1, o2, o, o3, o4⟩ := ir
    exact IsR.back R.w st ⟨hb, p, rfl, ⟨R1.w.bnone o1, o2, o, o3, o4⟩, o1, R1.fresh o1⟩
  | no => exact ir.elim
  | deal => exact ir.elim
  | bor d => exact ir.elim
  | res b d ids =>
    obtain ⟨ne, _, h⟩ := ir
    cases ids with
    | nil => exact absurd rfl ne
    | cons x ids =>
      obtain ⟨q, e, _⟩ := h x List.mem_cons_self
      exact nomatch e
section
variable {X : Cx}
def mCall (n : Nat) (F : FS) (ma : MA) : ME := fun env Q => ma env fun rs e1 => rs.length = n ∧ F rs fun r => Q r e1
theorem de_call {k : Nat} {f : Addr} {fd : FuncData} {ps : List Str} {n : Nat} {F : FS} {x : Str} {e : Expr} {es : List Expr} {p pos : Pos} {ma : MA} (Fk : FnG X.prog X.w X.K X.mg X.base CX0 k f fd ps (spD X.K n F)) (hr : RmG k X.A) (hg : Gl X x) (hm : X.mg x = some (.ref f)) (hk : PySem.W.keepIn X.K (.ref f) = true) (hb : Binds X.K fd ps [])
    (ha : DA Z X (e :: es) ma) (hdb : (x == ("__debug__" : Str)) = false := by decide) (he : starEach (e :: es) X.env = (false, eval e X.env) :: starEach es X.env := by rfl) (hpl : (backTo pos (starEach es X.env)).any (·.1) = false := by rfl) :
    DE Z X (.Call (.Name x p) (e :: es) [] pos) (mCall n F ma) := (pe_callG Fk hr hg hm hk hb ha hdb he hpl).wk fun σ H Q ⟨B, env, S, Q0, R, h, k⟩ => by
  refine ⟨B, env, S, _, R, h, fun rs e1 q vs S1 H1 st R1 al => ?_⟩
  show spD X.K n F vs H1 Q E0
  refine ⟨S1, B.deal, rs, _, R1.w.sub, call_deal R1, al, q.1, q.2, fun r v S' H' q2 w' ir => ?_⟩
  obtain ⟨hst, R'⟩ := call_back R1 w'
  exact k r e1 q2 v S' H' (st.trans hst) R' (call_res R st R1 ir)
end
end Pq
set_option Elab.async false
set_option linter.all false
set_option maxRecDepth 100000
set_option maxHeartbeats 4000000
namespace Pq
open PySem PySem.Spec PyProof.Rows L2 RT
section
variable {prog : Program} {w : World} {A : Around} {E : Value → Shared → Prop} {s : Shared}
theorem extend_rev {R : Result → Shared → Prop} {it l : Addr} {items : Array Value} (hh : A.handled = none) (hit : s.heap.IsRevIter it l ((items.size : Int) - 1)) (hl : s.heap.IsList l items) (hne : l ≠ it) (hn : items.size ≤ sizeLine) (S : Addr) (res : Value) (c0 : Nat) (hSi : S ≠ it) (hSl : S ≠ l)
    (hS : s.heap.get? S = some { cls := .type "list", data := .seq #[] c0 })
    (hR : ∀ h' tk acc' c', (∀ b o, b ≠ S → b ≠ it → s.heap.get? b = some o → h'.get? b = some o) → h'.get? S = some { cls := .type "list", dict := none, data := .seq acc' c', slots := #[] } →
      ItemsOf (fun i v => items[items.size - 1 - i]? = some v) acc' items.size → R (.ok (.ret res)) { s with heap := h', toks := tk }) :
    wpAny (model prog w) A.in1 (Builtin.List.listExtendWith (.ref S) (.ref it) res)
      (fun fin s' => match fin with | .done f => R (.ok f) s' | .again c' => c'.quiet = true ∧ codeAny (model prog w) A c' R s') (fun e s' => R (.error e) s') s := by
  have W := (Walks.listRev (prog := prog) (w := w) (A := A.in1) hh it l hne items).toS
  have hSf : S ∉ [it, l] := by simp only [List.mem_cons, List.not_mem_nil, or_false, not_or]; exact ⟨hSi, hSl⟩
  have hT : s.TypeIs (.ref it) "list_reverseiterator" := hit.typeIs
  have h1 : Builtin.List.listSameRef (.ref S) (.ref it) = false := by simp [Builtin.List.listSameRef, hSi]
  have h2 : (Value.type "list_reverseiterator" == Value.type "list") = false := by decide
  have h3 : (Value.type "list_reverseiterator" == Value.type "tuple") = false := by decide
  unfold Builtin.List.listExtendWith
  refine wpAny_bind (wpAny_typeOf hT ?_)
  simp only [h1, h2, h3, Bool.or_false, Bool.false_eq_true, if_false]
  refine wpAny_bind (wpAny_pyIter_revIter hit ?_)
  refine wpAny_bind (wpAny_holding ?_)
  unfold Builtin.List.listLengthHint
  refine wpAny_bind (wpAny_specialOf hT nolen_lri ?_)
  show wpAny _ A.in1 (specialOf (Value.ref it) (Str.ofString "__length_hint__") >>= _) _ _ _
  refine wpAny_bind (wpAny_specialOf hT hint_lri ?_)
  generalize hid : ("list_reverseiterator.__length_hint__" : String) = id0
  wp_delta
  rw [show splitId id0 = some ("list_reverseiterator", "__length_hint__") from by subst hid; decide +kernel]
  subst hid
  refine wpAny_bind (wpAny_isInstance (b := true) hT (by rw [isSubtype_type]; kernel_rfl) ?_)
  refine wpAny_pure ?_
  rw [if_neg (by decide)]
  have e0 : ((items.size : Nat) : Int) - 1 - ((0 : Nat) : Int) = (items.size : Int) - 1 := by omega
  refine wpAny_pure ⟨plainId_quiet F.plain_extend_loop _, codeAny_extend_loopS W hn _ hSf _ items.size 0 _ _ _ rfl (Nat.zero_le _) ⟨Nat.zero_le _, by rw [e0]; exact hit, hl⟩ hS (ItemsOf.nil _) fun s' acc' c' hm hS' hacc => ?_⟩
  rw [Moved.eq_with hm]
  refine hR s'.heap s'.toks acc' c' (fun b o hb hb2 e => hm.heap b o (fun hmem => ?_) e) hS' hacc
  rcases List.mem_cons.mp hmem with e' | hmem
  · exact hb e'
  · exact hb2 (List.mem_singleton.mp hmem)
theorem init_rev {R : Result → Shared → Prop} {it l : Addr} {items : Array Value} (hh : A.handled = none) (hit : s.heap.IsRevIter it l ((items.size : Int) - 1)) (hl : s.heap.IsList l items) (hne : l ≠ it) (hn : items.size ≤ sizeLine) (S : Addr) (hSi : S ≠ it) (hSl : S ≠ l)
    (hS : s.heap.get? S = some { cls := .type "list", data := .seq #[] })
    (hR : ∀ h' tk acc' c', (∀ b o, b ≠ S → b ≠ it → s.heap.get? b = some o → h'.get? b = some o) → h'.get? S = some { cls := .type "list", dict := none, data := .seq acc' c', slots := #[] } →
      ItemsOf (fun i v => items[items.size - 1 - i]? = some v) acc' items.size → R (.ok (.ret .none)) { s with heap := h', toks := tk }) :
    wpAny (model prog w) A.in1 (Builtin.«list.__init__» ⟨[.ref S, .ref it], []⟩)
      (fun fin s' => match fin with | .done f => R (.ok f) s' | .again c' => c'.quiet = true ∧ codeAny (model prog w) A c' R s') (fun e s' => R (.error e) s') s := by
  show wpAny _ _ (do let old ← Builtin.List.listItems (.ref S); Builtin.List.listUpdate (.ref S) (fun _ => #[]); letGo old.toList.reverse; Builtin.List.listExtendWith (.ref S) (.ref it) .none) _ _ s
  refine wpAny_bind ?_
  unfold Builtin.List.listItems
  refine wpAny_bind (wpAny_seqItems hS rfl (wpAny_pure ?_))
  show wpAny _ _ (updateSeq S (fun _ => #[]) >>= fun _ => letGo (#[] : Array Value).toList.reverse >>= fun _ => Builtin.List.listExtendWith (.ref S) (.ref it) .none) _ _ s
  refine wpAny_bind (wpAny_updateSeq hS rfl ?_)
  have hS₂ := Heap.get?_update_self (Obj.mapSeq (fun _ => (#[] : Array Value))) hS rfl
  have oth : ∀ b o, b ≠ S → s.heap.get? b = some o → (s.heap.update S (Obj.mapSeq (fun _ => (#[] : Array Value)))).get? b = some o :=
    fun b o hb e => (Heap.get?_update_other _ _ (Ne.symm hb)).trans e
  refine wpAny_bind (wpAny_letGo ?_)
  refine extend_rev hh (hit.at fun o e => oth it o (Ne.symm hSi) e) ?_ hne hn S .none _ hSi hSl hS₂ fun h' tk acc' c' hk hS' hacc => ?_
  · obtain ⟨o, ho, r⟩ := hl
    exact ⟨o, oth l o (Ne.symm hSl) ho, r⟩
  · exact hR h' tk acc' c' (fun b o hb hb2 e => hk b o hb hb2 (oth b o hb e)) hS' hacc
theorem call_list_rev {it l : Addr} {items : Array Value} {Q : Value → Shared → Prop} (hh : A.handled = none) (hit : s.heap.IsRevIter it l ((items.size : Int) - 1)) (hl : s.heap.IsList l items) (hne : l ≠ it) (hn : items.size ≤ sizeLine)
    (hQ : ∀ h' tk acc' c', (∀ b o, b ≠ it → s.heap.get? b = some o → h'.get? b = some o) →
      h'.get? s.heap.objs.size = some { cls := .type "list", dict := none, data := .seq acc' c', slots := #[] } → ItemsOf (fun i v => items[items.size - 1 - i]? = some v) acc' items.size → Q (.ref s.heap.objs.size) { s with heap := h', toks := tk }) :
    wpAny (model prog w) A (call (.type "list") [.ref it]) Q E s := by
  obtain ⟨oi, hoi, _⟩ := id hit
  obtain ⟨ol, hol, _⟩ := id hl
  have hSi : s.heap.objs.size ≠ it := Nat.ne_of_gt (Heap.lt_size hoi)
  have hSl : s.heap.objs.size ≠ l := Nat.ne_of_gt (Heap.lt_size hol)
  refine callType_codes (Q₁ := fun obj s₁ => obj = .ref s.heap.objs.size ∧ s₁ = { s with heap := s.heap.push { cls := .type "list", data := .seq #[] } }) PySem.F.called_list (PySem.F.typeCall_list_1 _) PySem.F.entry_list_init
    (code_list_new _ ⟨rfl, rfl⟩) fun obj s₁ h₁ => ?_
  obtain ⟨rfl, rfl⟩ := h₁
  have hS : (s.heap.push { cls := .type "list", data := .seq #[] }).get? s.heap.objs.size = some { cls := .type "list", data := .seq #[] } := Heap.get?_push_size _ rfl
  refine ⟨⟨_, hS, rfl⟩, PySem.F.args_list_init_2 _ _, init_rev (A := A.in1) hh (hit.at fun o e => Heap.get?_push_of_some _ e) (hl.push _) hne hn _ hSi hSl hS fun h' tk acc' c' hk hS' hacc => ?_⟩
  exact ⟨rfl, hQ h' tk acc' c' (fun b o hb e => hk b o (Nat.ne_of_lt (Heap.lt_size e)) hb (Heap.get?_push_of_some _ e)) hS' hacc⟩
end
/-- list(reversed(xs)) -/
def tLstRev (te : TE) : TE := fun σ H Q => te σ H fun v H1 => ∃ (a : Addr) (xs : List V), v = .ref a ∧ Rd H1 a (.lst xs) ∧ ∀ q, H1 q = none → Q (.ref q) (upd H1 q (.lst xs.reverse))
section
variable {X : Cx}
theorem pe_lstRev {e : Expr} {te : TE} {p p2 pos pos2 : Pos} (hc : X.calm = true) (hg : Gl X "list") (hm : X.mg "list" = none) (hg2 : Gl X "reversed") (hm2 : X.mg "reversed" = none) (he : PE X e te)
    (hs : starEach [e] X.env = (false, eval e X.env) :: starEach [] X.env := by rfl)
    (hs2 : starEach [.Call (.Name "reversed" p2) [e] [] pos2] X.env = (false, eval (.Call (.Name "reversed" p2) [e] [] pos2) X.env) :: starEach [] X.env := by rfl) :
    PE X (.Call (.Name "list" p) [.Call (.Name "reversed" p2) [e] [] pos2] [] pos) (tLstRev te) := by
  refine ⟨fun pins s σ H Q I h => ?_⟩
  refine Call_ (ld_blt I hg hm boot_list (PyProof.Rows.callWith_type1 (args_cons (Call_ (ld_blt I hg2 hm2 PyProof.Rows.boot_reversed (PyProof.Rows.callWith_type1 (args_cons (thn (he.run pins s σ H _ I h) fun u s1 ⟨v, H1, I1, r1, q1⟩ => args_nil ?_) hs) hs rfl))) hs2) hs2 rfl))
  obtain ⟨a, xs, ev, hq, q⟩ := q1
  subst ev
  obtain rfl : u = Value.ref a := r1
  obtain ⟨its, rv, p', hz⟩ := I1.list (.inl hq)
  refine call_reversed_list p'.isList (args_nil ?_)
  have k0 : ∀ b o, s1.heap.get? b = some o → (s1.heap.push (revObj a ((its.toArray.size : Int) - 1))).get? b = some o := fun b o e => Heap.get?_push_of_some _ e
  have I2 : Inv X pins σ H1 { s1 with heap := s1.heap.push (revObj a ((its.toArray.size : Int) - 1)) } := I1.kept (t' := s1.toks) k0
  obtain ⟨f0, f1, f2, f3, f4, f5⟩ := I1.fpOk (H' := H1) (b := s1.heap.objs.size) (Nat.le_refl _) (I1.hok.fresh (Nat.le_refl _))
  have hl := p'.isList
  obtain ⟨ol, hol, _⟩ := id hl
  have hne : a ≠ s1.heap.objs.size := Nat.ne_of_lt (Heap.lt_size hol)
  have hn : its.toArray.size ≤ sizeLine := by rw [List.size_toArray, ← rv.length]; exact hz
  have hS0 : H1 (s1.heap.push (revObj a ((its.toArray.size : Int) - 1))).objs.size = none := I1.hok.fresh (by rw [Heap.size_push]; exact Nat.le_succ _)
  refine call_list_rev (s := { s1 with heap := s1.heap.push (revObj a ((its.toArray.size : Int) - 1)) }) (I1.ok.hd hc) ⟨_, Heap.get?_push_size _ rfl, rfl, rfl⟩ (hl.push _) hne hn fun h' tk acc c' hk hS' hi => ?_
  have I3 : Inv X pins σ H1 { s1 with heap := h', toks := tk } := I2.turned (t' := tk) (fun b o hb e => hk b o hb e) f0 f1 f3 f4 f5
  have up1 : ∀ (b : Addr) (o : HO), H1 b = some o → upd H1 (s1.heap.push (revObj a ((its.toArray.size : Int) - 1))).objs.size (.lst xs.reverse) b = some o := fun b o e => by rw [upd_ne (ne_of_none e hS0)]; exact e
  have hokS : HOk X.prog X.w (upd H1 (s1.heap.push (revObj a ((its.toArray.size : Int) - 1))).objs.size (.lst xs.reverse)) h' := fun b u e => by
    by_cases hb : b = (s1.heap.push (revObj a ((its.toArray.size : Int) - 1))).objs.size
    · subst hb
      rw [upd_same] at e; cases e
      exact ⟨by rw [List.length_reverse]; exact hz, acc.toList, c', vals_rev rv hi, by rw [Array.toArray_toList]; exact hS'⟩
    · rw [upd_ne hb] at e
      exact (I3.hok b u e).stay (fun c v _ q => q) (fun c q => up1 c _ q) fun c ys q => up1 c _ q
  have J : L2.Inv X pins σ (upd H1 (s1.heap.push (revObj a ((its.toArray.size : Int) - 1))).objs.size (.lst xs.reverse)) { s1 with heap := h', toks := tk } := by
    refine Inv.step (s := { s1 with heap := s1.heap.push (revObj a ((its.toArray.size : Int) - 1)) }) (h' := h') I2 (g' := s1.gens) (d' := s1.drawn) (t' := tk) (ch := [s1.heap.objs.size]) (fun b hb => ?_) (fun b o _ _ hc e _ => hk b o (fun z => hc (by simp [z])) e) (fun b o _ _ hc e _ => ⟨o.slots, hk b o (fun z => hc (by simp [z])) e⟩) (fun b o _ e n => ?_)
      (fun b o hc e => ⟨o, hk b o (fun z => hc (by simp [z])) e⟩) (fun b ys e => up1 b _ e) (fun b o u e => up1 b _ e) (fun b ps e => ⟨#[], by rw [up1 b _ e]; simp⟩) (fun m hm => ?_) hokS I2.bare
    · have e : b = s1.heap.objs.size := by simpa using hb
      subst e
      exact ⟨f3, f1, f4, f5⟩
    · have nb : b ≠ (s1.heap.push (revObj a ((its.toArray.size : Int) - 1))).objs.size := Nat.ne_of_lt (Heap.lt_size e)
      rw [upd_ne nb]; exact n
    · obtain ⟨o, es, ep, ho, r⟩ := hm
      exact ⟨o, es, ep, hk _ o (Ne.symm f1) ho, r⟩
  exact ⟨.ref _, _, J, rfl, q _ hS0⟩
end
end Pq
set_option Elab.async false
set_option linter.all false
set_option maxRecDepth 100000
set_option maxHeartbeats 4000000
namespace Pq
open PySem PySem.Spec PyProof.Rows L2
/-! ### the deal: a dict of three -/
abbrev kSeed : Key := Sum.inr "seed"
abbrev kNum : Key := Sum.inr "number"
abbrev kLeft : Key := Sum.inr "left"
def dk3 (s n l : V) : List (Key × V) := [(kSeed, s), (kNum, n), (kLeft, l)]
theorem ne_sn : ¬ (Str.ofString "seed" = Str.ofString "number") := by decide +kernel
theorem ne_sl : ¬ (Str.ofString "seed" = Str.ofString "left") := by decide +kernel
theorem ne_nl : ¬ (Str.ofString "number" = Str.ofString "left") := by decide +kernel
theorem ne_ns : ¬ (Str.ofString "number" = Str.ofString "seed") := by decide +kernel
theorem ne_ls : ¬ (Str.ofString "left" = Str.ofString "seed") := by decide +kernel
theorem ne_ln : ¬ (Str.ofString "left" = Str.ofString "number") := by decide +kernel
theorem get_seed (s n l : V) : valV (dk3 s n l) kSeed = some s := by simp [valV, dk3]
theorem get_num (s n l : V) : valV (dk3 s n l) kNum = some n := by simp [valV, dk3, ne_sn]
theorem get_left (s n l : V) : valV (dk3 s n l) kLeft = some l := by simp [valV, dk3, ne_sl, ne_nl]
theorem put_num (s n l v : V) : putK (dk3 s n l) kNum v = dk3 s v l := by simp [putK, dk3, ne_sn, ne_ln]
theorem put_seed (s n l v : V) : putK (dk3 s n l) kSeed v = dk3 v n l := by simp [putK, dk3, ne_ns, ne_ls]
theorem merge3 (s n l : V) : mergeK [] [(kSeed, s), (kNum, n), (kLeft, l)] = dk3 s n l := by
  simp [mergeK, putK, dk3, ne_sn, ne_sl, ne_nl]
/-- the deal while it is drawn from -/
structure Dl (H : Hp) (p l : Addr) (seed num : Int) (left : List Int) (H' : Hp) : Prop where
  ne : p ≠ l
  hp : H' p = some (.dK (dk3 (.int seed) (.int num) (.ref l)))
  hl : H' l = some (.lst (left.map V.int))
  s0 : 0 ≤ seed
  s1 : seed < 2 ^ 32
  n0 : 0 ≤ num
  few : left.length ≤ 63
  pos : ∀ x ∈ left, 0 ≤ x
  off : ∀ a, a ≠ p → a ≠ l → H' a = H a
theorem Dl.at {H H' : Hp} {p l : Addr} {seed num : Int} {left : List Int} (d : Dl H p l seed num left H') : DealAt H' p l := ⟨d.ne, seed, num, left, d.hp, d.hl, d.s0, d.s1, d.n0, d.few, d.pos⟩
theorem Dl.start {H : Hp} {p l : Addr} (d : DealAt H p l) : ∃ seed num left, Dl H p l seed num left H := by
  obtain ⟨ne, seed, num, left, a, b, c, e, f, g, h⟩ := d
  exact ⟨seed, num, left, ne, a, b, c, e, f, g, h, fun _ _ _ => rfl⟩
theorem Dl.num {H H' : Hp} {p l : Addr} {seed num x : Int} {left : List Int} (d : Dl H p l seed num left H') (hx : 0 ≤ x) : Dl H p l seed x left (upd H' p (.dK (putK (dk3 (.int seed) (.int num) (.ref l)) kNum (.int x)))) :=
  ⟨d.ne, by rw [upd_same, put_num], by rw [upd_ne d.ne.symm]; exact d.hl, d.s0, d.s1, hx, d.few, d.pos, fun a h1 h2 => by rw [upd_ne h1]; exact d.off a h1 h2⟩
theorem Dl.seed {H H' : Hp} {p l : Addr} {seed num x : Int} {left : List Int} (d : Dl H p l seed num left H') (hx : 0 ≤ x) (hx1 : x < 2 ^ 32) : Dl H p l x num left (upd H' p (.dK (putK (dk3 (.int seed) (.int num) (.ref l)) kSeed (.int x)))) :=
  ⟨d.ne, by rw [upd_same, put_seed], by rw [upd_ne d.ne.symm]; exact d.hl, hx, hx1, d.n0, d.few, d.pos, fun a h1 h2 => by rw [upd_ne h1]; exact d.off a h1 h2⟩
theorem Dl.left {H H' : Hp} {p l : Addr} {seed num : Int} {left left' : List Int} (d : Dl H p l seed num left H') (h1 : left'.length ≤ 63) (h2 : ∀ x ∈ left', 0 ≤ x) : Dl H p l seed num left' (upd H' l (.lst (left'.map V.int))) :=
  ⟨d.ne, by rw [upd_ne d.ne]; exact d.hp, upd_same, d.s0, d.s1, d.n0, h1, h2, fun a e1 e2 => by rw [upd_ne e2]; exact d.off a e1 e2⟩
theorem Dl.gnum {H H' : Hp} {p l : Addr} {seed num : Int} {left : List Int} (d : Dl H p l seed num left H') : DGet H' p (.str "number") (some (.int num)) := by
  have h := DGet.k (k := kNum) d.hp
  rw [get_num] at h
  exact h
theorem Dl.gseed {H H' : Hp} {p l : Addr} {seed num : Int} {left : List Int} (d : Dl H p l seed num left H') : DGet H' p (.str "seed") (some (.int seed)) := by
  have h := DGet.k (k := kSeed) d.hp
  rw [get_seed] at h
  exact h
theorem Dl.gleft {H H' : Hp} {p l : Addr} {seed num : Int} {left : List Int} (d : Dl H p l seed num left H') : DGet H' p (.str "left") (some (.ref l)) := by
  have h := DGet.k (k := kLeft) d.hp
  rw [get_left] at h
  exact h
theorem Dl.pnum {H H' : Hp} {p l : Addr} {seed num x : Int} {left : List Int} (d : Dl H p l seed num left H') : DPut H' p (.str "number") (.int x) (upd H' p (.dK (putK (dk3 (.int seed) (.int num) (.ref l)) kNum (.int x)))) :=
  DPut.k (k := kNum) d.hp (by show 3 < sizeLine; decide)
theorem Dl.pseed {H H' : Hp} {p l : Addr} {seed num x : Int} {left : List Int} (d : Dl H p l seed num left H') : DPut H' p (.str "seed") (.int x) (upd H' p (.dK (putK (dk3 (.int seed) (.int num) (.ref l)) kSeed (.int x)))) :=
  DPut.k (k := kSeed) d.hp (by show 3 < sizeLine; decide)
/-- a draw: any number below many -/
def fDraw : FS := fun rs Q => match rs with
  | [.deal, .val (.int many)] => (0 < many ∧ many < 2 ^ 64) ∧ ∀ r, 0 ≤ r → r < many → Q (.val (.int r))
  | _ => False
theorem draw_spec {K : PySem.W.Frag} {vs : List V} {H : Hp} {Q : VK} {E : XK} (h : spD K 2 fDraw vs H Q E) : ∃ p l many, vs = [.ref p, .int many] ∧ DealAt H p l ∧ 0 < many ∧ many < 2 ^ 64 ∧
    ∀ r H' seed num left, 0 ≤ r → r < many → Dl H p l seed num left H' → Q (.int r) H' := by
  obtain ⟨S, dl, rs, Q0, up, dk, al, hl, hF, q⟩ := h
  unfold fDraw at hF
  split at hF
  · rename_i many
    obtain ⟨p, l, r', rfl, e, al2⟩ := al
    obtain ⟨v, r2, rfl, dv, al3⟩ := al2
    cases (show r2 = [] from al3)
    cases dv
    obtain ⟨d1, d2, d3⟩ := dk p l e
    obtain ⟨_, _, _, _, b1, b2, _⟩ := id d1
    refine ⟨p, l, many, rfl, d1, hF.1.1, hF.1.2, fun r H' seed num left h0 h1 d => q _ _ S H' (hF.2 r h0 h1) ⟨fun a o x => ?_, fun _ _ z => z, fun a o f x => ?_, fun _ _ _ z => z, fun p' l' e' => ?_⟩ (.int r)⟩
    · have na : a ≠ p := fun z => by subst z; rw [d2] at x; cases x
      have nl : a ≠ l := fun z => by subst z; rw [d3] at x; cases x
      rw [d.off a na nl]; exact up a o x
    · have na : a ≠ p := fun z => f ⟨p, l, e, .inl z⟩
      have nl : a ≠ l := fun z => f ⟨p, l, e, .inr z⟩
      rw [d.off a na nl]; exact x
    · have e' : dl = some (p', l') := e'
      rw [e] at e'; cases e'
      exact ⟨d.at, ⟨_, b1⟩, ⟨_, b2⟩, d2, d3⟩
  · exact hF.elim
theorem spD_len {K : PySem.W.Frag} {n : Nat} {F : FS} {vs : List V} {H : Hp} {Q : VK} {E : XK} (h : spD K n F vs H Q E) : vs.length = n := by
  obtain ⟨S, dl, rs, Q0, _, _, al, hl, _⟩ := h
  rw [al.length, hl]
/-- a def that may be called by its name -/
structure Cal (P : Program) (w : World) (K : PySem.W.Frag) (mg : Str → Option Value) (base : Heap) (x : Str) (k n : Nat) (F : FS) : Prop where
  ex : ∃ (f : Addr) (fd : FuncData) (ps : List Str), FnG P w K mg base CX0 k f fd ps (spD K n F) ∧ Binds K fd ps [] ∧ mg x = some (.ref f) ∧ PySem.W.keepIn K (.ref f) = true
theorem de_callC {X : Cx} {k j n : Nat} {F : FS} {x : Str} {e : Expr} {es : List Expr} {p pos : Pos} {ma : MA} (C : Cal X.prog X.w X.K X.mg X.base x k n F) (hr : RmG j X.A) (hkj : k ≤ j) (hg : Gl X x)
    (ha : DA Z X (e :: es) ma) (hdb : (x == ("__debug__" : Str)) = false := by decide) (he : starEach (e :: es) X.env = (false, eval e X.env) :: starEach es X.env := by rfl) (hpl : (backTo pos (starEach es X.env)).any (·.1) = false := by rfl) :
    DE Z X (.Call (.Name x p) (e :: es) [] pos) (mCall n F ma) := by
  obtain ⟨f, fd, ps, G, b, m, kp⟩ := C.ex
  exact de_call G (hr.mono hkj) hg m kp b ha hdb he hpl
theorem pz (n : Nat) (h : 0 < n) : (0 : Int) < (n : Int) := by omega
/-- the deal's promise -/
def spDeal (K : PySem.W.Frag) : Sp := fun vs H Q _ => ∃ (a : Addr) (ns : List Int) (b : Int), vs = [.ref a, .int b] ∧ SqL K H a (ns.map V.int) ∧ ns.length ≤ 63 ∧ 0 ≤ b ∧ b ≤ 63 ∧
  ∀ p l H', Same H H' → H p = none → H l = none → DealAt H' p l → Q (.ref p) H'
theorem cut_ints (ns : List Int) (lo hi : Option Int) : ∃ ms : List Int, cutV (ns.map V.int) lo hi = ms.map V.int ∧ ms.length ≤ ns.length := by
  refine ⟨((ns.drop (HT.sIx (ns.map V.int).length 0 lo)).take (HT.sIx (ns.map V.int).length (ns.map V.int).length hi - HT.sIx (ns.map V.int).length 0 lo)), ?_, ?_⟩
  · unfold cutV
    rw [List.map_take, List.map_drop]
  · rw [List.length_take, List.length_drop]
    omega
theorem same_new {H : Hp} {p : Addr} {o : HO} (h : H p = none) : Same H (upd H p o) := fun b x e => by
  rw [upd_ne (ne_of_none e h)]
  exact e
theorem map_at {ms : List Int} {i : Nat} {x : V} (h : (ms.map V.int)[i]? = some x) : ∃ z, ms[i]? = some z ∧ x = .int z := by
  rw [List.getElem?_map] at h
  cases e : ms[i]? with
  | none => rw [e] at h; cases h
  | some z => rw [e] at h; exact ⟨z, rfl, (Option.some.inj h).symm⟩
/-- law's promise: whatever the script, True -/
def spLaw (K : PySem.W.Frag) : Sp := fun vs H Q _ => ∃ (a : Addr) (ns : List Int), vs = [.ref a] ∧ SqL K H a (ns.map V.int) ∧ ns.length ≤ 63 ∧ ∀ H', Q (.bl true) H'
def eTrue : EM := ⟨fun _ => False, fun r => r = .val (.bool true), fun _ => False, fun _ => False⟩
theorem law_read {X : Cx} {N : List Str} {m : Nat} {M : MS} {a : Addr} {ns : List Int} {H : Hp} {Q : VK} (hN : N.length = m + 2) (hM : M (.no :: .deal :: List.replicate m .no) eTrue) (hS : SqL X.K H a (ns.map V.int)) (hlen : ns.length ≤ 63) (q : ∀ H', Q (.bl true) H') :
    tSeq (tAsg (tCall (spDeal X.K) [] E0 (tCons (tVar 0) (tCons (tC (.int 0)) tNil))) (gName 1)) (tSt (z0 X.K) X.K M) { nx := fun _ H' => Q .non H', rt := Q } (L2.start N [.ref a]) H := by
  have e0 : L2.start N [V.ref a] = some (V.ref a) :: none :: List.replicate m none := by
    unfold L2.start
    rw [hN]
    show some (V.ref a) :: List.replicate (m + 2 - 1) none = _
    rw [show m + 2 - 1 = m + 1 by omega, List.replicate_succ]
  rw [e0]
  refine ⟨.ref a, rfl, a, ns, 0, rfl, hS, hlen, Int.le_refl 0, by decide, fun p l H' same np nl dl => ?_⟩
  obtain ⟨_, _, _, _, b1, b2, _⟩ := id dl
  refine ⟨b0 X.K ⟨H, H', some (p, l), fun _ => none⟩, .no :: .deal :: List.replicate m .no, H, eTrue, ⟨⟨same, fun _ _ z => z, fun _ _ _ z => z, fun _ _ _ z => z, fun p' l' e => ?_⟩, ?_, fun i d h => ?_, fun i h => ?_, fun i b d h => ?_, fun i j b c d e p h => ?_, fun i d h => ?_, fun i j b d e p h => ?_, fun i j p h => nomatch h⟩, hM, ⟨fun _ _ _ _ z => z.elim, fun r v S' H' z _ ir => ?_, fun _ _ _ _ z => z.elim, fun _ _ _ _ z => z.elim⟩⟩
  · have e : some (p, l) = some (p', l') := e
    cases e
    exact ⟨dl, ⟨_, b1⟩, ⟨_, b2⟩, np, nl⟩
  · simp
  · match i, h with
    | 0, h => cases h
    | 1, h => cases h
    | i + 2, h => cases List.eq_of_mem_replicate (List.mem_of_getElem? (show (List.replicate m SV.no)[i]? = some _ from h))
  · match i, h with
    | 0, h => cases h
    | 1, h => exact ⟨p, l, rfl, rfl⟩
    | i + 2, h => cases List.eq_of_mem_replicate (List.mem_of_getElem? (show (List.replicate m SV.no)[i]? = some _ from h))
  · match i, h with
    | 0, h => cases h
    | 1, h => cases h
    | i + 2, h => cases List.eq_of_mem_replicate (List.mem_of_getElem? (show (List.replicate m SV.no)[i]? = some _ from h))
  · match i, h with
    | 0, h => cases h
    | 1, h => cases h
    | i + 2, h => cases List.eq_of_mem_replicate (List.mem_of_getElem? (show (List.replicate m SV.no)[i]? = some _ from h))
  · match i, h with
    | 0, h => cases h
    | 1, h => cases h
    | i + 2, h => cases List.eq_of_mem_replicate (List.mem_of_getElem? (show (List.replicate m SV.no)[i]? = some _ from h))
  · match i, h with
    | 0, h => cases h
    | 1, h => cases h
    | i + 2, h => cases List.eq_of_mem_replicate (List.mem_of_getElem? (show (List.replicate m SV.no)[i]? = some _ from h))
  · subst z
    cases ir
    exact q H'
theorem walk_law {l : PySem.W.OpenLaw} {q : Program} {loose : List Str} {XP : (Str → Option Value) → Heap → Prop} {YP : World → Heap → Prop} {d : DefRec} {K : Params → PySem.W.Frag} {k : Nat} (hn : l.most = some 63) (hdf : d.params.defaults = []) (hr : RmG k callerA)
    (hY : ∀ (w : World) (h : Heap), YP w h → (K w.params).In h)
    (F : ∀ (w : World) (mg : Str → Option Value) (fa : Addr) (h : Heap), (K w.params).In h → h.Ns mainGlobals mg → mg d.name = some (.ref fa) →
      ∃ fd : FuncData, (∀ (s : Shared) (u : Value), BindsTo s fd ⟨[u], []⟩ [("_law_script", u)]) ∧ ∀ base : Heap, (K w.params).In base → base.Ns mainGlobals mg → FnG l.prog w (K w.params) mg base CX0 k fa fd ["_law_script"] (spLaw (K w.params))) :
    PySem.W.WalkO q loose XP YP l.row.toRowW d [] (fun f vs => PySem.call f vs) :=
  walk_g (n := 63) (k := k) (x := "_law_script") (sp := fun w => spLaw (K w.params)) hn (by decide) hdf hr hY F fun _ _ a ns hl _ hS => ⟨a, ns, rfl, hS, hl, fun _ => rfl⟩
end Pq
set_option Elab.async false
set_option linter.all false
set_option maxRecDepth 100000
set_option maxHeartbeats 4000000
namespace Pq
open PySem PySem.Spec PyProof.Rows L2
/-- a for loop by its invariant -/
theorem for_inv {g : MG} {body : MS} {E : EM} (I : List Da → En → Prop) : ∀ (ds : List Da) (env : En), I ds env →
    (∀ d r e, I (d :: r) e → ∀ N : En → Prop, (∀ e', I r e' → N e') → g d e fun e2 => body e2 ⟨N, E.rt, E.nx, N⟩) → (∀ e, I [] e → E.nx e) → forGo g body ds env E
  | [], env, h, _, q => by
    rw [forGo]
    exact q env h
  | d :: ds, env, h, st, q => by
    rw [forGo]
    exact st d ds env h _ fun e' i => for_inv I ds e' i st q
mutual
theorem eqv_refl : ∀ d : Da, d.canLay0 = true → PyData.eqv d d = true
  | .none, _ => by simp [PyData.eqv]
  | .bool b, _ => by simp [PyData.eqv]
  | .int i, _ => by simp [PyData.eqv]
  | .str x, _ => by simp [PyData.eqv]
  | .list ds, h => by
    have h1 : PyData.canLayAll0 ds = true := by simpa [PyData.canLay0] using h
    simp only [PyData.eqv]
    exact eqvAll_refl ds h1
  | .tuple ds, h => by
    have h1 : PyData.canLayAll0 ds = true := by simpa [PyData.canLay0] using h
    simp only [PyData.eqv]
    exact eqvAll_refl ds h1
  | .dict kvs, h => by simp [PyData.canLay0] at h
theorem eqvAll_refl : ∀ ds : List Da, PyData.canLayAll0 ds = true → PyData.eqvAll ds ds = true
  | [], _ => by simp [PyData.eqvAll]
  | d :: ds, h => by
    have h' : d.canLay0 = true ∧ PyData.canLayAll0 ds = true := by simpa [PyData.canLayAll0] using h
    simp only [PyData.eqvAll, eqv_refl d h'.1, eqvAll_refl ds h'.2, Bool.and_self]
end
/-- data that may be compared, of at most such a depth -/
def Lay (n : Nat) (d : Da) : Prop := d.canLay0 = true ∧ d.depth ≤ n
theorem Lay.shaped {n : Nat} {d : Da} (h : Lay n d) (hn : n ≤ 64) : SeqAt.shaped d = true := by
  unfold SeqAt.shaped
  rw [h.1, Bool.true_and]
  exact decide_eq_true (Nat.le_trans h.2 hn)
theorem lay_int {n : Nat} {i : Int} : Lay n (.int i) := ⟨by simp [PyData.canLay0], by simp [PyData.depth]⟩
theorem lay_bool {n : Nat} {i : Bool} : Lay n (.bool i) := ⟨by simp [PyData.canLay0], by simp [PyData.depth]⟩
theorem layAll {n : Nat} : ∀ {ds : List Da}, (∀ d ∈ ds, Lay n d) → PyData.canLayAll0 ds = true ∧ PyData.depthAll ds ≤ n
  | [], _ => ⟨by simp [PyData.canLayAll0], by simp [PyData.depthAll]⟩
  | d :: ds, h => by
    obtain ⟨a, b⟩ := layAll (ds := ds) fun x hx => h x (List.mem_cons_of_mem _ hx)
    obtain ⟨c, e⟩ := h d List.mem_cons_self
    refine ⟨by simp [PyData.canLayAll0, a, c], ?_⟩
    simp only [PyData.depthAll]
    omega
theorem lay_lst {n : Nat} {ds : List Da} (h : ∀ d ∈ ds, Lay n d) : Lay (n + 1) (.list ds) := by
  obtain ⟨a, b⟩ := layAll h
  exact ⟨by simp [PyData.canLay0, a], by simp only [PyData.depth]; omega⟩
theorem Lay.up {n m : Nat} {d : Da} (h : Lay n d) (hm : n ≤ m) : Lay m d := ⟨h.1, Nat.le_trans h.2 hm⟩
theorem Lay.refl {n : Nat} {d : Da} (h : Lay n d) : PyData.eqv d d = true := eqv_refl d h.1
/-! ### ranges -/
def rgI (a b : Int) : List Int := (List.range (b - a).toNat).map fun i => a + (i : Nat)
theorem rgD_I (a b : Int) : rgD a b = (rgI a b).map .int := by unfold rgD rgI; rw [List.map_map]; rfl
theorem mem_rgI {a b x : Int} : x ∈ rgI a b ↔ a ≤ x ∧ x < b := by
  unfold rgI
  rw [List.mem_map]
  constructor
  · rintro ⟨i, hi, rfl⟩
    rw [List.mem_range] at hi
    omega
  · rintro ⟨h1, h2⟩
    exact ⟨(x - a).toNat, by rw [List.mem_range]; omega, by omega⟩
end Pq
set_option Elab.async false
set_option linter.all false
set_option maxRecDepth 100000
set_option maxHeartbeats 4000000
namespace Pq
open PySem PySem.Spec PyProof.Rows L2
/-! ### max, min of one list or tuple of ints -/
/-! ### a, b = x, y and a, b, c = x, y, z with plain local names -/
end Pq
set_option Elab.async false
set_option linter.all false
set_option maxRecDepth 100000
set_option maxHeartbeats 4000000
namespace Pq
open PySem PySem.Spec PyProof.Rows L2
/-! ### repr -/
section
variable {X : Cx}
/-- may be shown, in at most n signs -/
def Tx (n : Nat) (d : Da) : Prop := d.showable = true ∧ d.shown.length ≤ n
end
theorem Tx.mono {n m : Nat} {d : Da} (h : Tx n d) (hm : n ≤ m) : Tx m d := ⟨h.1, Nat.le_trans h.2 hm⟩
/-! ### dicts -/
end Pq
set_option Elab.async false
set_option linter.all false
set_option maxRecDepth 100000
set_option maxHeartbeats 4000000
namespace Pq
open PySem PySem.Spec PyProof.Rows L2
/-! ### methods of texts -/
end Pq
set_option Elab.async false
set_option linter.all false
set_option maxRecDepth 100000
set_option maxHeartbeats 4000000
namespace Pq
open PySem PySem.Spec PyProof.Rows L2
/-! ### xs[k] += e, d[k] += e -/
end Pq
set_option Elab.async false
set_option linter.all false
set_option maxRecDepth 100000
set_option maxHeartbeats 4000000
namespace Pq
open PySem PySem.Spec PyProof.Rows L2
/-! ### dict(xs) of pairs: keys ints and texts -/
end Pq
set_option Elab.async false
set_option linter.all false
set_option maxRecDepth 100000
set_option maxHeartbeats 4000000
namespace Pq
open PySem PySem.Spec PyProof.Rows L2
end Pq
set_option Elab.async false
set_option linter.all false
set_option maxRecDepth 100000
set_option maxHeartbeats 4000000
namespace Pq
open PySem PySem.Spec PyProof.Rows L2
end Pq
set_option Elab.async false
set_option linter.all false
set_option maxRecDepth 100000
set_option maxHeartbeats 4000000
namespace Lb
open PySem PySem.Spec PyProof.Rows L2 Pq
abbrev F_law_draw : FS := fDraw
abbrev iv (i : Int) : SV := .val (.int i)
theorem atI_mem {ds : List Da} {i : Int} (h0 : 0 ≤ i) (h1 : i < ds.length) : ∃ d, d ∈ ds ∧ atI ds i = some d := by
  have hi : i.toNat < ds.length := by omega
  refine ⟨ds[i.toNat], List.getElem_mem hi, ?_⟩
  unfold atI ixN
  rw [if_pos h0, if_pos h1]
  exact List.getElem?_eq_getElem hi
/-- xs[i] -/
def ixD : Da → Int → Option Da
  | .list ds, i => atI ds i
  | .tuple ds, i => atI ds i
  | _, _ => none
theorem ix {c d : Da} {i : Int} {Q : SV → Prop} (e : ixD c i = some d) (h : Q (.val d)) : fIx c (.int i) Q := by
  unfold fIx
  cases c <;> first | (cases e; done) | skip
  · have e : atI _ i = some d := e
    dsimp only
    rw [e]; exact h
  · have e : atI _ i = some d := e
    dsimp only
    rw [e]; exact h
theorem w_ix {ds : List Da} {i : Int} (h0 : 0 ≤ i) (h1 : i < ds.length) (Q : SV → Prop) (h : ∀ d ∈ ds, Q (.val d)) : fIx (.list ds) (.int i) Q := by
  obtain ⟨d, hd, e⟩ := atI_mem h0 h1
  exact ix e (h d hd)
/-! ### fractions -/
def fr (q : Rat) : Da := .tuple [.int q.num, .int (q.den : Int)]
/-- numbers below 2 ^ n -/
def Sz (n : Nat) (q : Rat) : Prop := q.num.natAbs < 2 ^ n ∧ q.den < 2 ^ n
theorem pow_le {n m : Nat} (h : n ≤ m) : 2 ^ n ≤ 2 ^ m := Nat.pow_le_pow_right (by decide) h
theorem Sz.mono {n m : Nat} {q : Rat} (s : Sz n q) (h : n ≤ m) : Sz m q := ⟨Nat.lt_of_lt_of_le s.1 (pow_le h), Nat.lt_of_lt_of_le s.2 (pow_le h)⟩
theorem num_div_den (q : Rat) : (q.num : Rat) / ((q.den : Int) : Rat) = q := by
  rw [← Rat.divInt_eq_div]; exact Rat.num_divInt_den q
/-! ### the functions of fractions -/
end Lb
set_option Elab.async false
set_option linter.all false
set_option maxRecDepth 100000
set_option maxHeartbeats 4000000
set_option pp.maxSteps 600
namespace Lb
open PySem PySem.Spec PyProof.Rows L2 Pq
/-! ### the laws' own fractions -/
/-! ### steepnesses, shares, tails -/
/-- a steepness: top and bottom below 16 -/
structure St (a : Rat) : Prop where
  p0 : 0 < a
  l1 : a < 1
  n4 : a.num < 16
  d4 : a.den < 16
theorem St.num {a : Rat} (s : St a) : 0 < a.num := by
  have h := Rat.num_nonneg.mpr (Rat.le_of_lt s.p0)
  have : a.num ≠ 0 := fun z => by
    have := Rat.num_eq_zero.mp z
    rw [this] at s
    exact absurd s.p0 (by decide)
  omega
theorem St.lt {a : Rat} (s : St a) : a.num < a.den := by
  have h := (Rat.lt_iff a 1).mp s.l1
  simpa using h
theorem St.eq {a : Rat} : a = (a.num : Rat) / ((a.den : Int) : Rat) := (num_div_den a).symm
theorem St.sub {a : Rat} (s : St a) : 0 < (a.den : Int) - a.num ∧ ((a.den : Int) - a.num).natAbs < 2 ^ 5 ∧ 0 < (a.den : Int) + a.num ∧ ((a.den : Int) + a.num).natAbs < 2 ^ 5 := by
  have := s.num; have := s.lt; have := s.n4; have := s.d4
  have : (2 : Nat) ^ 5 = 32 := by decide
  refine ⟨by omega, by omega, by omega, by omega⟩
end Lb
set_option Elab.async false
set_option linter.all false
set_option maxRecDepth 100000
set_option maxHeartbeats 4000000
set_option pp.maxSteps 600
namespace Lb
open PySem PySem.Spec PyProof.Rows L2 Pq
/-! ### dicts from ints to fractions -/
abbrev Pr := List (Int × Rat)
def en (p : Int × Rat) : Da := .tuple [.int p.1, fr p.2]
def sumAt : Pr → Int → Rat
  | [], _ => 0
  | p :: r, y => (if p.1 = y then p.2 else 0) + sumAt r y
def look : Pr → Int → Option Rat
  | [], _ => none
  | p :: r, y => if p.1 = y then some p.2 else look r y
def putI : Pr → Int → Rat → Pr
  | [], y, q => [(y, q)]
  | p :: r, y, q => if p.1 = y then (y, q) :: r else p :: putI r y q
theorem sumAt_snoc : ∀ (L : Pr) (z : Int) (q : Rat) (y : Int), sumAt (L ++ [(z, q)]) y = sumAt L y + if z = y then q else 0
  | [], z, q, y => by
    show (if z = y then q else 0) + 0 = 0 + _
    rw [Rat.add_zero, Rat.zero_add]
  | p :: r, z, q, y => by
    show (if p.1 = y then p.2 else 0) + sumAt (r ++ [(z, q)]) y = _
    rw [sumAt_snoc r z q y, ← Rat.add_assoc]
    rfl
theorem look_put (y : Int) (q : Rat) (x : Int) : ∀ D : Pr, look (putI D y q) x = if y = x then some q else look D x
  | [] => by
    show (if y = x then some q else none) = _
    rfl
  | p :: r => by
    rw [putI]
    by_cases c : p.1 = y
    · rw [if_pos c]
      show (if y = x then some q else look r x) = _
      by_cases e : y = x
      · rw [if_pos e, if_pos e]
      · rw [if_neg e, if_neg e, look, if_neg (by rw [c]; exact e)]
    · rw [if_neg c]
      show (if p.1 = x then some p.2 else look (putI r y q) x) = _
      rw [look_put y q x r, look]
      by_cases e : p.1 = x
      · rw [if_pos e, if_pos e, if_neg (fun z => c (e.trans z.symm))]
      · rw [if_neg e, if_neg e]
theorem keys_put (y : Int) (q : Rat) : ∀ D : Pr, (D.map (·.1)).Nodup → ((putI D y q).map (·.1)).Nodup ∧ ∀ x, x ∈ (putI D y q).map (·.1) ↔ x = y ∨ x ∈ D.map (·.1)
  | [], _ => by simp [putI]
  | p :: r, nd => by
    rw [List.map_cons, List.nodup_cons] at nd
    rw [putI]
    by_cases c : p.1 = y
    · rw [if_pos c, List.map_cons, List.nodup_cons]
      refine ⟨⟨by rw [← c]; exact nd.1, nd.2⟩, fun x => ?_⟩
      rw [List.map_cons, List.mem_cons, List.mem_cons, c]
      exact ⟨fun h => .inr h, fun h => h.elim .inl id⟩
    · obtain ⟨a, b⟩ := keys_put y q r nd.2
      rw [if_neg c, List.map_cons, List.nodup_cons]
      refine ⟨⟨fun z => ((b _).mp z).elim c nd.1, a⟩, fun x => ?_⟩
      rw [List.mem_cons, List.map_cons, List.mem_cons, b x]
      exact ⟨fun h => h.elim (fun z => .inr (.inl z)) fun z => z.elim .inl fun z => .inr (.inr z), fun h => h.elim (fun z => .inr (.inl z)) fun z => z.elim .inl fun z => .inr (.inr z)⟩
theorem len_put (y : Int) (q : Rat) : ∀ D : Pr, (putI D y q).length ≤ D.length + 1
  | [] => Nat.le_refl _
  | p :: r => by
    rw [putI]
    by_cases c : p.1 = y
    · rw [if_pos c, List.length_cons, List.length_cons]; omega
    · rw [if_neg c, List.length_cons, List.length_cons]
      have := len_put y q r
      omega
/-- what the dict holds when done is merged -/
structure MgI (D done : Pr) : Prop where
  nd : (D.map (·.1)).Nodup
  lk : ∀ y, look D y = if y ∈ done.map (·.1) then some (sumAt done y) else none
  ln : D.length ≤ done.length
theorem MgI.nil : MgI [] [] := ⟨List.nodup_nil, fun y => rfl, Nat.le_refl _⟩
theorem sumAt_none (y : Int) : ∀ L : Pr, y ∉ L.map (·.1) → sumAt L y = 0
  | [], _ => rfl
  | p :: r, h => by
    rw [List.map_cons, List.mem_cons, not_or] at h
    rw [sumAt, if_neg (fun e => h.1 e.symm), sumAt_none y r h.2, Rat.zero_add]
theorem MgI.get {D done : Pr} (h : MgI D done) (y : Int) : ((look D y).map fr).getD (.tuple [.int 0, .int 1]) = fr (sumAt done y) := by
  rw [h.lk y]
  by_cases c : y ∈ done.map (·.1)
  · rw [if_pos c]; rfl
  · rw [if_neg c, sumAt_none y done c]; rfl
theorem MgI.step {D done : Pr} (h : MgI D done) (y : Int) (q : Rat) : MgI (putI D y (sumAt done y + q)) (done ++ [(y, q)]) := by
  obtain ⟨k1, k2⟩ := keys_put y (sumAt done y + q) D h.nd
  refine ⟨k1, fun x => ?_, ?_⟩
  · rw [look_put, h.lk x, sumAt_snoc, List.map_append, List.map_cons, List.map_nil]
    by_cases e : y = x
    · subst e
      rw [if_pos rfl, if_pos (List.mem_append_right _ List.mem_cons_self), if_pos rfl]
    · rw [if_neg e, if_neg e, Rat.add_zero]
      by_cases c : x ∈ done.map (·.1)
      · rw [if_pos c, if_pos (List.mem_append_left _ c)]
      · rw [if_neg c, if_neg (fun z => (List.mem_append.mp z).elim c fun w => e (List.mem_singleton.mp w).symm)]
  · have := len_put y (sumAt done y + q) D
    rw [List.length_append]
    have := h.ln
    show _ ≤ done.length + 1
    omega
end Lb
set_option Elab.async false
set_option linter.all false
set_option maxRecDepth 100000
set_option maxHeartbeats 4000000
set_option pp.maxSteps 600
namespace Lb
open PySem PySem.Spec PyProof.Rows L2 Pq
end Lb
set_option Elab.async false
set_option linter.all false
set_option maxRecDepth 100000
set_option maxHeartbeats 4000000
set_option pp.maxSteps 600
namespace Lb
open PySem PySem.Spec PyProof.Rows L2 Pq
def prods (cs ws : List Int) : List Int := List.zipWith (· * ·) cs ws
def dot (cs ws : List Int) : Int := (prods cs ws).sum
def num (cs : List Int) (lo hi : Int) (ws : List Int) : Int := max lo (min hi (dot cs ws))
/-! ### rows -/
/-! ### ladders -/
end Lb
set_option Elab.async false
set_option linter.all false
set_option maxRecDepth 100000
set_option maxHeartbeats 4000000
set_option pp.maxSteps 600
namespace Lb
open PySem PySem.Spec PyProof.Rows L2 Pq
end Lb
set_option Elab.async false
set_option linter.all false
set_option maxRecDepth 100000
set_option maxHeartbeats 4000000
set_option pp.maxSteps 600
namespace Lb
open PySem PySem.Spec PyProof.Rows L2 Pq
/-! ### texts -/
end Lb
set_option Elab.async false
set_option linter.all false
set_option maxRecDepth 100000
set_option maxHeartbeats 4000000
set_option pp.maxSteps 600
namespace Lb
open PySem PySem.Spec PyProof.Rows L2 Pq
/-- the law's own share, over (q + p) q ** wide -/
def shI (a : Rat) (n lo hi y : Int) : Int := a.num ^ (y - n).natAbs * (a.den : Int) ^ ((hi - lo).toNat - (y - n).natAbs) * (if y = lo ∨ y = hi then (a.den : Int) else (a.den : Int) - a.num)
def btI (a : Rat) (lo hi : Int) : Int := ((a.den : Int) + a.num) * (a.den : Int) ^ (hi - lo).toNat
end Lb
set_option Elab.async false
set_option linter.all false
set_option maxRecDepth 100000
set_option maxHeartbeats 4000000
set_option pp.maxSteps 600
namespace Lb
open PySem PySem.Spec PyProof.Rows L2 Pq
/-! ### the laws' own table, noughts left out -/
/-! ### flat throws -/
end Lb
set_option Elab.async false
set_option linter.all false
set_option maxRecDepth 100000
set_option maxHeartbeats 4000000
set_option pp.maxSteps 600
namespace Lb
open PySem PySem.Spec PyProof.Rows L2 Pq
/-! ### choosing -/
end Lb
set_option Elab.async false
set_option linter.all false
set_option maxRecDepth 100000
set_option maxHeartbeats 4000000
set_option pp.maxSteps 600
namespace Lb
open PySem PySem.Spec PyProof.Rows L2 Pq
end Lb
set_option Elab.async false
set_option linter.all false
set_option maxRecDepth 100000
set_option maxHeartbeats 4000000
set_option pp.maxSteps 600
namespace Lb
open PySem PySem.Spec PyProof.Rows L2 Pq
/-! ### the laws' own throws -/
end Lb
set_option Elab.async false
set_option linter.all false
set_option maxRecDepth 100000
set_option maxHeartbeats 4000000
set_option pp.maxSteps 600
namespace Lb
open PySem PySem.Spec PyProof.Rows L2 Pq
/-! ### rungs, their whole -/
def rgS (a : Rat) (n lo hi y : Int) : Int := if lo = hi then 1 else shI a n lo hi y
def rgB (a : Rat) (lo hi : Int) : Int := if lo = hi then 1 else btI a lo hi
/-! the whole is one -/
def qsum : List Rat → Rat
  | [] => 0
  | q :: r => q + qsum r
end Lb
set_option Elab.async false
set_option linter.all false
set_option maxRecDepth 100000
set_option maxHeartbeats 4000000
set_option pp.maxSteps 600
namespace Lb
open PySem PySem.Spec PyProof.Rows L2 Pq
/-! ### firsts -/
def up (b : Rat) (n lo h m : Int) : Int := ((rgI m (h + 1)).map (rgS b n lo h)).sum
def dn (b : Rat) (n lo h m : Int) : Int := ((rgI lo m).map (rgS b n lo h)).sum
end Lb
set_option Elab.async false
set_option linter.all false
set_option maxRecDepth 100000
set_option maxHeartbeats 4000000
set_option pp.maxSteps 600
namespace Lb
open PySem PySem.Spec PyProof.Rows L2 Pq
/-- what one rung of the mark tells, over A B ** (how many sums) -/
def fz (b : Rat) (lo h m : Int) : List Int → Int → Int → List (Int × Int)
  | [], j, l => [(j, l)]
  | n :: r, j, l => (j, l * up b n lo h m * rgB b lo h ^ r.length) :: fz b lo h m r (j + 1) (l * dn b n lo h m)
end Lb
set_option Elab.async false
set_option linter.all false
set_option maxRecDepth 100000
set_option maxHeartbeats 4000000
set_option pp.maxSteps 600
namespace Lb
open PySem PySem.Spec PyProof.Rows L2 Pq
end Lb
set_option Elab.async false
set_option linter.all false
set_option maxRecDepth 100000
set_option maxHeartbeats 4000000
set_option pp.maxSteps 600
namespace Lb
open PySem PySem.Spec PyProof.Rows L2 Pq
end Lb
set_option Elab.async false
set_option linter.all false
set_option maxRecDepth 100000
set_option maxHeartbeats 4000000
set_option pp.maxSteps 600
namespace Lb
open PySem PySem.Spec PyProof.Rows L2 Pq
/-! ### tables as functions, what is above -/
def posR (q : Rat) : Rat := if 0 < q then q else 0
/-- the table of f, noughts left out -/
def tb (lo hi : Int) (f : Int → Rat) : Pr := ((rgI lo hi).filter fun y => decide (0 < f y)).map fun y => (y, f y)
/-- what is above F g -/
def exc (lo hi : Int) (F : Rat) (f g : Int → Rat) : Rat := qsum ((rgI lo hi).map fun y => posR (f y - F * g y))
/-! ### ladders with one member more -/
end Lb
set_option Elab.async false
set_option linter.all false
set_option maxRecDepth 100000
set_option maxHeartbeats 4000000
set_option pp.maxSteps 600
namespace Lb
open PySem PySem.Spec PyProof.Rows L2 Pq
/-! ### chooses -/
/-! ### flats -/
end Lb
set_option Elab.async false
set_option linter.all false
set_option maxRecDepth 100000
set_option maxHeartbeats 4000000
set_option pp.maxSteps 600
namespace Lb
open PySem PySem.Spec PyProof.Rows L2 Pq
end Lb
set_option Elab.async false
set_option linter.all false
set_option maxRecDepth 100000
set_option maxHeartbeats 4000000
set_option pp.maxSteps 600
namespace Lb
open PySem PySem.Spec PyProof.Rows L2 Pq
/-! ### tails -/
end Lb
set_option Elab.async false
set_option linter.all false
set_option maxRecDepth 100000
set_option maxHeartbeats 4000000
set_option pp.maxSteps 600
namespace Lb
open PySem PySem.Spec PyProof.Rows L2 Pq
/-! ### firsts as sums over the mark's rungs -/
end Lb
set_option Elab.async false
set_option linter.all false
set_option maxRecDepth 100000
set_option maxHeartbeats 4000000
set_option pp.maxSteps 600
namespace Lb
open PySem PySem.Spec PyProof.Rows L2 Pq
inductive A2 (R : Int → Int → Prop) : List Int → List Int → Prop
  | nil : A2 R [] []
  | cons {n m : Int} {ns ms : List Int} : R n m → A2 R ns ms → A2 R (n :: ns) (m :: ms)
theorem A2.mono {R T : Int → Int → Prop} (h : ∀ n m, R n m → T n m) : ∀ {ns ms : List Int}, A2 R ns ms → A2 T ns ms
  | _, _, .nil => .nil
  | _, _, .cons a b => .cons (h _ _ a) (b.mono h)
theorem A2.len {R : Int → Int → Prop} : ∀ {ns ms : List Int}, A2 R ns ms → ns.length = ms.length
  | _, _, .nil => rfl
  | _, _, .cons _ b => by rw [List.length_cons, List.length_cons, b.len]
end Lb
set_option Elab.async false
set_option linter.all false
set_option maxRecDepth 100000
set_option maxHeartbeats 4000000
set_option pp.maxSteps 600
namespace Lb
open PySem PySem.Spec PyProof.Rows L2 Pq
end Lb
set_option Elab.async false
set_option linter.all false
set_option maxRecDepth 100000
set_option maxHeartbeats 4000000
set_option pp.maxSteps 600
namespace Lb
open PySem PySem.Spec PyProof.Rows L2 Pq
/-! ### merged, of more pairs than answers -/
end Lb
set_option Elab.async false
set_option linter.all false
set_option maxRecDepth 100000
set_option maxHeartbeats 4000000
set_option pp.maxSteps 600
namespace Lb
open PySem PySem.Spec PyProof.Rows L2 Pq
/-! ### thrown again: a table by rows -/
def app (lo hi : Int) (f : Int → Rat) (R : Int → Int → Rat) (z : Int) : Rat := qsum ((rgI lo hi).map fun y => f y * R y z)
end Lb
set_option Elab.async false
set_option linter.all false
set_option maxRecDepth 100000
set_option maxHeartbeats 4000000
set_option pp.maxSteps 600
namespace Lb
open PySem PySem.Spec PyProof.Rows L2 Pq
/-! ### rows between ladders -/
end Lb
set_option Elab.async false
set_option linter.all false
set_option maxRecDepth 100000
set_option maxHeartbeats 4000000
set_option pp.maxSteps 600
namespace Lb
open PySem PySem.Spec PyProof.Rows L2 Pq
end Lb
set_option Elab.async false
set_option linter.all false
set_option maxRecDepth 100000
set_option maxHeartbeats 4000000
set_option pp.maxSteps 600
namespace Lb
open PySem PySem.Spec PyProof.Rows L2 Pq
/-! ### dicts from ints to anything -/
section
variable {α : Type}
theorem for_L {g : MG} {body : MS} {E : EM} (v : α → Da) (I : List α → En → Prop) (L : List α) (env : En) (h0 : I [] env)
    (st : ∀ (done : List α) (x : α) (rest : List α), L = done ++ x :: rest → ∀ e, I done e → ∀ N : En → Prop, (∀ e', I (done ++ [x]) e' → N e') → g (v x) e fun e2 => body e2 ⟨N, E.rt, E.nx, N⟩) (fin : ∀ e, I L e → E.nx e) : forGo g body (L.map v) env E := by
  refine for_inv (fun R e => ∃ done rest, L = done ++ rest ∧ R = rest.map v ∧ I done e) _ _ ⟨[], L, rfl, rfl, h0⟩ ?_ ?_
  · rintro d R e ⟨done, rest, hL, hR, hI⟩ N hN
    cases rest with
    | nil => cases hR
    | cons x rest =>
      rw [List.map_cons] at hR
      injection hR with e1 e2
      subst e1 e2
      exact st done x rest hL e hI N fun e' hi => hN e' ⟨done ++ [x], rest, by rw [hL, List.append_assoc]; rfl, rfl, hi⟩
  · rintro e ⟨done, rest, hL, hR, hI⟩
    have hr : rest = [] := List.map_eq_nil_iff.mp hR.symm
    subst hr
    rw [List.append_nil] at hL
    subst hL
    exact fin e hI
theorem lcL {env : En} {g : MG} {me : ME} (g1 f : α → Da) : ∀ (L : List α) (acc : List Da) (Q : List Da → Prop),
    (∀ x ∈ L, ∀ (K : Da → Prop), K (f x) → g (g1 x) env fun e2 => me e2 fun r _ => (match r with
      | .val x => K x
      | .own _ x => K x
      | _ => False)) → Q (acc ++ L.map f) → lcGo env g mYes me (L.map g1) acc Q
  | [], acc, Q, _, q => by
    show Q acc
    rw [List.map_nil, List.append_nil] at q
    exact q
  | x :: L, acc, Q, h, q => by
    rw [List.map_cons, lcGo]
    refine h x List.mem_cons_self (fun y => lcGo env g mYes me (L.map g1) (acc ++ [y]) Q) ?_
    refine lcL g1 f L _ Q (fun d hd => h d (List.mem_cons_of_mem _ hd)) ?_
    rw [List.append_assoc]
    exact q
end
end Lb
set_option Elab.async false
set_option linter.all false
set_option maxRecDepth 100000
set_option maxHeartbeats 4000000
set_option pp.maxSteps 600
namespace Lb
open PySem PySem.Spec PyProof.Rows L2 Pq
/-! ### tables of answers: whole numbers or tuples of such -/
end Lb
set_option Elab.async false
set_option linter.all false
set_option maxRecDepth 100000
set_option maxHeartbeats 4000000
namespace Pq
open PySem PySem.Spec PyProof.Rows L2
/-! ### expressions that may change what slots know alone -/
def IsRw (K : PySem.W.Frag) (B : Br) (env : En) (S : Hp) (σ : L2.St) (H : Hp) : SV → V → Prop
  | .val d, v => Dq K S v d
  | .own b d, v => b = true ∧ ∃ p, v = .ref p ∧ Own K B S H d p ∧ ∀ (i : Nat) (sv : SV), env[i]? = some sv → OB sv → σ[i]? ≠ some (some (.ref p))
  | .deal, v => ∃ p l, B.deal = some (p, l) ∧ v = .ref p
  | _, _ => False
theorem IsR.w {K : PySem.W.Frag} {B : Br} {env : En} {S : Hp} {σ : L2.St} {H0 H : Hp} {r : SV} {v : V} (h : IsR K B env S σ H0 H r v) : IsRw K B env S σ H r v := by
  cases r with
  | own b d =>
    obtain ⟨hb, p, e, o, _, n⟩ := h
    exact ⟨hb, p, e, o, n⟩
  | val d => exact h
  | deal => exact h
  | _ => exact h.elim
/-- what a result knows alone becomes stable -/
theorem IsRw.frz {K : PySem.W.Frag} {B : Br} {env : En} {S : Hp} {σ : L2.St} {H : Hp} {b : Bool} {d : Da} {v : V} (R : Rel K B env S σ H) (h : IsRw K B env S σ H (.own b d) v) : ∃ S2, Up S S2 ∧ Rel K B env S2 σ H ∧ Dq K S2 v d := by
  obtain ⟨hb, p, rfl, ⟨hB, hS, o0, hp, hd⟩, hn⟩ := h
  have e1 : ∀ a o, S a = some o → upd S p o0 a = some o := upd_sub hS
  have w : Wd B (upd S p o0) H := by
    refine ⟨fun a o e => ?_, fun a o e => e1 a o (R.w.bS a o e), R.w.bH, fun a o e e2 => ?_, R.w.deal⟩
    · by_cases q : a = p
      · subst q; rw [upd_same] at e; cases e; exact hp
      · rw [upd_ne q] at e; exact R.w.sub a o e
    · have q : a ≠ p := fun z => by subst z; rw [hB] at e; cases e
      rw [upd_ne q]; exact R.w.bN a o e e2
  refine ⟨_, e1, R.stp w ⟨e1, fun _ _ _ e => e⟩ fun i sv q a ob z => ?_, (hd.up e1).dq upd_same⟩
  have nq : q ≠ p := fun y => by subst y; exact hn i sv a ob z
  rw [upd_ne nq]
  obtain ⟨p', d', a', b', c', _⟩ := R.ob a ob
  rw [z] at a'; cases a'; exact c'
end Pq
set_option Elab.async false
set_option linter.all false
set_option maxRecDepth 100000
set_option maxHeartbeats 4000000
namespace Pq
open PySem PySem.Spec PyProof.Rows L2
/-! ### defs that change what they are handed -/
def AllB (K : PySem.W.Frag) (dl : Option (Addr × Addr)) (bo : Nat → Option Addr) (S H : Hp) : Nat → List SV → List V → Prop
  | _, [], vs => vs = []
  | j, .val d :: rs, vs => ∃ v r, vs = v :: r ∧ Dq K S v d ∧ AllB K dl bo S H (j + 1) rs r
  | j, .deal :: rs, vs => ∃ p l r, vs = .ref p :: r ∧ dl = some (p, l) ∧ AllB K dl bo S H (j + 1) rs r
  | j, .bor d :: rs, vs => ∃ p r, vs = .ref p :: r ∧ bo j = some p ∧ S p = none ∧ (∃ o, H p = some o ∧ HoD K S o d) ∧ AllB K dl bo S H (j + 1) rs r
  | _, _, _ => False
theorem AllB.get {K : PySem.W.Frag} {dl : Option (Addr × Addr)} {bo : Nat → Option Addr} {S H : Hp} : ∀ {rs : List SV} {vs : List V} {k i : Nat} {r : SV}, AllB K dl bo S H k rs vs → rs[i]? = some r → ∃ v, vs[i]? = some v ∧ match r with
    | .val d => Dq K S v d
    | .deal => ∃ p l, dl = some (p, l) ∧ v = .ref p
    | .bor d => ∃ p, bo (k + i) = some p ∧ v = .ref p ∧ S p = none ∧ ∃ o, H p = some o ∧ HoD K S o d
    | _ => False
  | [], _, _, _, _, _, e => by simp at e
  | .val d :: rs, _, k, 0, r, h, e => by
    obtain ⟨v, r', rfl, b, c⟩ := h
    simp at e; subst e
    exact ⟨v, rfl, b⟩
  | .val d :: rs, _, k, i + 1, r, h, e => by
    obtain ⟨v, r', rfl, b, c⟩ := h
    obtain ⟨v', x, y⟩ := AllB.get (i := i) c (by simpa using e)
    rw [show k + 1 + i = k + (i + 1) by omega] at y
    exact ⟨v', by simpa using x, y⟩
  | .deal :: rs, _, k, 0, r, h, e => by
    obtain ⟨p, l, r', rfl, b, c⟩ := h
    simp at e; subst e
    exact ⟨_, rfl, p, l, b, rfl⟩
  | .deal :: rs, _, k, i + 1, r, h, e => by
    obtain ⟨p, l, r', rfl, b, c⟩ := h
    obtain ⟨v', x, y⟩ := AllB.get (i := i) c (by simpa using e)
    rw [show k + 1 + i = k + (i + 1) by omega] at y
    exact ⟨v', by simpa using x, y⟩
  | .bor d :: rs, _, k, 0, r, h, e => by
    obtain ⟨p, r', rfl, b, s, o, c⟩ := h
    simp at e; subst e
    exact ⟨_, rfl, p, b, rfl, s, o⟩
  | .bor d :: rs, _, k, i + 1, r, h, e => by
    obtain ⟨p, r', rfl, b, s, o, c⟩ := h
    obtain ⟨v', x, y⟩ := AllB.get (i := i) c (by simpa using e)
    rw [show k + 1 + i = k + (i + 1) by omega] at y
    exact ⟨v', by simpa using x, y⟩
  | .no :: _, _, _, _, _, h, _ => h.elim
  | .own _ _ :: _, _, _, _, _, h, _ => h.elim
  | .res _ _ _ :: _, _, _, _, _, h, _ => h.elim
theorem AllB.length {K : PySem.W.Frag} {dl : Option (Addr × Addr)} {bo : Nat → Option Addr} {S H : Hp} : ∀ {rs : List SV} {vs : List V} {k : Nat}, AllB K dl bo S H k rs vs → vs.length = rs.length
  | [], _, _, h => by cases (show _ = [] from h); rfl
  | .val d :: rs, _, k, h => by
    obtain ⟨v, r, rfl, b, c⟩ := h
    rw [List.length_cons, List.length_cons, AllB.length c]
  | .deal :: rs, _, k, h => by
    obtain ⟨p, l, r, rfl, b, c⟩ := h
    rw [List.length_cons, List.length_cons, AllB.length c]
  | .bor d :: rs, _, k, h => by
    obtain ⟨p, r, rfl, _, _, _, c⟩ := h
    rw [List.length_cons, List.length_cons, AllB.length c]
  | .no :: _, _, _, h => h.elim
  | .own _ _ :: _, _, _, h => h.elim
  | .res _ _ _ :: _, _, _, h => h.elim
/-! ### arguments, some of them borrowed -/
end Pq
set_option Elab.async false
set_option linter.all false
set_option maxRecDepth 100000
set_option maxHeartbeats 4000000
namespace Pq
open PySem PySem.Spec PyProof.Rows L2
end Pq
set_option Elab.async false
set_option linter.all false
set_option maxRecDepth 100000
set_option maxHeartbeats 4000000
namespace Pq
open PySem PySem.Spec PyProof.Rows L2
/-! ### dicts written out, with texts and numbers as keys -/
section
variable {X : Cx}
inductive DKs (Z : ZX) (X : Cx) (pos : Pos) : List (Option Expr) → List Expr → List (Key × MP) → Prop
  | nil : DKs Z X pos [] [] []
  | cons {k v : Expr} {ks : List (Option Expr)} {vs : List Expr} {key : Key} {m : MP} {l : List (Key × MP)} : PE X k (tC (kV key)) → DS Z X v m → DKs Z X pos ks vs l → DKs Z X pos (some k :: ks) (v :: vs) ((key, m) :: l)
theorem DKs.all {pos : Pos} {ks : List (Option Expr)} {vs : List Expr} {l : List (Key × MP)} (h : DKs Z X pos ks vs l) : ks.all (·.isSome) = true ∧ ks.length = vs.length := by
  induction h with
  | nil => exact ⟨rfl, rfl⟩
  | cons _ _ _ ih => exact ⟨by rw [List.all_cons, ih.1]; rfl, by rw [List.length_cons, List.length_cons, ih.2]⟩
end
/-! ### d.update(e) -/
end Pq
set_option Elab.async false
set_option linter.all false
set_option maxRecDepth 100000
set_option maxHeartbeats 4000000
namespace Pq
open PySem PySem.Spec PyProof.Rows L2
/-! ### sorted(set(xs)), texts or numbers -/
def kOf (e : Int × Value) : L2.Key := match e.2 with
  | .int i _ => .inl i
  | .str x _ => .inr x
  | _ => .inl 0
section
variable {P : Program} {w : World}
def GoodK (P : Program) (w : World) (e : Int × Value) : Prop := keyIs (kOf e) e.2 = true ∧ e.1 = (mixKind P w).hash (kOf e) ∧ e.2.scannable = true
/-- a set, the keys put in so far -/
def SKR (P : Program) (w : World) (h : Heap) (a : Addr) (L : List L2.Key) : Prop :=
  ∃ ob rows ep tb, h.get? a = some ob ∧ ob.ExactSet ∧ ob.data = .set rows ep tb ∧ (∀ e ∈ rows.toList, GoodK P w e) ∧ (rows.toList.map kOf).Nodup ∧ (∀ k, k ∈ L ↔ k ∈ rows.toList.map kOf) ∧
    rows.size ≤ L.length ∧ tb.fits rows.size = true ∧ L2.Ris tb.place.toList ∧ (w.params.followText "set-order" = true ∨ tb.led = true)
theorem SKR.keep {h h' : Heap} {a : Addr} {L : List L2.Key} (R : SKR P w h a L) (k : ∀ o, h.get? a = some o → h'.get? a = some o) : SKR P w h' a L := by
  obtain ⟨ob, rows, ep, tb, ho, r⟩ := R
  exact ⟨ob, rows, ep, tb, k ob ho, r⟩
variable {A : Around} {E : Value → Shared → Prop} {s : Shared} {a : Addr} {L : List L2.Key}
end
end Pq
namespace Pq
open PySem PySem.Spec PyProof.Rows L2
end Pq
set_option Elab.async false
set_option linter.all false
set_option maxRecDepth 100000
set_option maxHeartbeats 4000000
namespace Pq
open PySem PySem.Spec PyProof.Rows L2
/-! ### what a slot knows alone is made stable ahead of a statement -/
end Pq
set_option Elab.async false
set_option linter.all false
set_option maxRecDepth 100000
set_option maxHeartbeats 4000000
namespace Pq
open PySem PySem.Spec PyProof.Rows L2
/-! ### a value that is dropped -/
/-! ### defs with defaults -/
theorem AllR.vals {K : PySem.W.Frag} {dl : Option (Addr × Addr)} {S : Hp} : ∀ {dd : List Da} {dvs : List V}, DqAll K S dvs dd → AllR K dl S (dd.map .val) dvs
  | [], _, h => by cases h; rfl
  | d :: dd, _, h => by
    cases h with
    | cons h1 h2 => exact ⟨_, _, rfl, h1, AllR.vals h2⟩
theorem AllR.app {K : PySem.W.Frag} {dl : Option (Addr × Addr)} {S : Hp} {dd : List Da} {dvs : List V} (hd : DqAll K S dvs dd) : ∀ {rs : List SV} {vs : List V}, AllR K dl S rs vs → AllR K dl S (rs ++ dd.map .val) (vs ++ dvs)
  | [], vs, h => by
    cases (show vs = [] from h)
    show AllR K dl S (dd.map .val) dvs
    exact AllR.vals hd
  | .val d :: rs, _, h => by
    obtain ⟨v, r, rfl, b, c⟩ := h
    exact ⟨v, r ++ dvs, rfl, b, AllR.app hd c⟩
  | .deal :: rs, _, h => by
    obtain ⟨p, l, r, rfl, b, c⟩ := h
    exact ⟨p, l, r ++ dvs, rfl, b, AllR.app hd c⟩
  | .no :: _, _, h => h.elim
  | .own _ _ :: _, _, h => h.elim
  | .bor _ :: _, _, h => h.elim
  | .res _ _ _ :: _, _, h => h.elim
/-! ### how defaults are told -/
section
variable {K : PySem.W.Frag} {x qual : Str} {params : Arguments} {body : List Stmt} {scope : Scope} {dvs : List V} {f : Addr} {fd : FuncData} {ps : List Str}
theorem FunD.all (F : FunD K x qual params body scope dvs [] f fd) (n j : Nat) (hj : dvs.drop j = []) (hd : dvs ≠ []) (hn : n + (dvs.length - j) = ps.length)
    (h : ∀ (T : Addr) (kV doc pm : Value) (an : Option Addr) (cdv ct : Value) (us its : List Value), us.length = n → its.length = dvs.length →
      ∃ k, bindArgs (PySem.W.fnOf x qual params body scope (.ref T) kV doc pm an cdv ct) ⟨us, []⟩ = seqItems? (.ref T) >>= k ∧ k (some its.toArray) = pure (ps.zip (us ++ its.drop j))) : Binds K fd ps [] := by
  obtain ⟨ds, hv, hb⟩ := F.binds1 n j hd hn h
  rw [hj] at hv
  cases hv
  exact hb
end
end Pq
set_option Elab.async false
set_option linter.all false
set_option maxRecDepth 100000
set_option maxHeartbeats 4000000
set_option pp.maxSteps 600
namespace Pq
open PySem PySem.Spec PyProof.Rows L2
/-! ### max(xs, default=k) of ints -/
end Pq
set_option Elab.async false
set_option linter.all false
set_option maxRecDepth 100000
set_option maxHeartbeats 4000000
set_option pp.maxSteps 600
namespace Pq
open PySem PySem.Spec PyProof.Rows L2
/-! ### defs that may raise -/
end Pq
set_option Elab.async false
set_option linter.all false
set_option maxRecDepth 100000
set_option maxHeartbeats 4000000
set_option pp.maxSteps 600
namespace Pq
open PySem PySem.Spec PyProof.Rows L2
/-! ### raise -/
/-- __init__ of an exception that keeps its arguments in fields -/
def spInit (C : Addr) (fns : List Str) : Sp := fun vs H Q _ => ∃ (a : Addr) (ws : List V), vs = .ref a :: ws ∧ ws.length = fns.length ∧ H a = some (exo a C none) ∧
  ∀ d, H d = none → d ≠ a → Q .non (upd (upd H d (exd d (fns.zip ws).reverse)) a (exo a C (some d)))
theorem init_len {C : Addr} {fns : List Str} {vs : List V} {H : Hp} {Q : VK} {E : XK} (h : spInit C fns vs H Q E) : vs.length = fns.length + 1 := by
  obtain ⟨a, ws, rfl, hl, _⟩ := h
  rw [List.length_cons, hl]
theorem init1_read {K : PySem.W.Frag} {C : Addr} {f : Str} {N : List Str} (hN : N.length = 2) (O : OexC K C) (nf : PySem.W.findIn K (.ref C) f = some none) {vs : List V} {H : Hp} {Q : VK} {E : XK} (h : spInit C [f] vs H Q E) : tOst K f (tVar 0) (tVar 1) { nx := fun _ H' => Q .non H', rt := Q } (L2.start N vs) H := by
  obtain ⟨a, ws, rfl, hl, ha, q⟩ := h
  match ws, hl with
  | [w], _ =>
    have e : L2.start N [.ref a, w] = [some (.ref a), some w] := by
      unfold L2.start
      rw [hN]; rfl
    rw [e]
    exact ⟨w, rfl, .ref a, rfl, a, C, rfl, O, nf, .inl ⟨ha, fun d hd ne => q d hd ne⟩⟩
theorem init2_read {K : PySem.W.Frag} {C : Addr} {f g : Str} {N : List Str} (hN : N.length = 3) (O : OexC K C) (nf : PySem.W.findIn K (.ref C) f = some none) (ng : PySem.W.findIn K (.ref C) g = some none) {vs : List V} {H : Hp} {Q : VK} {E : XK} (h : spInit C [f, g] vs H Q E) :
    tSeq (tOst K f (tVar 0) (tVar 1)) (tOst K g (tVar 0) (tVar 2)) { nx := fun _ H' => Q .non H', rt := Q } (L2.start N vs) H := by
  obtain ⟨a, ws, rfl, hl, ha, q⟩ := h
  match ws, hl with
  | [w, u], _ =>
    have e : L2.start N [.ref a, w, u] = [some (.ref a), some w, some u] := by
      unfold L2.start
      rw [hN]; rfl
    rw [e]
    refine ⟨w, rfl, .ref a, rfl, a, C, rfl, O, nf, .inl ⟨ha, fun d hd ne => ?_⟩⟩
    refine ⟨u, rfl, .ref a, rfl, a, C, rfl, O, ng, .inr ⟨d, [(f, w)], upd_same, by rw [upd_ne ne, upd_same], (show 1 ≤ 900 by decide), ?_⟩⟩
    have z := q d hd ne
    have e : upd (upd H d (exd d ([f, g].zip [w, u]).reverse)) a (exo a C (some d)) = upd (upd (upd H d (exd d [(f, w)])) a (exo a C (some d))) d (exd d ((g, u) :: [(f, w)])) := by
      funext b
      by_cases h1 : b = a
      · subst h1
        rw [upd_same, upd_ne (Ne.symm ne), upd_same]
      · rw [upd_ne h1]
        by_cases h2 : b = d
        · subst h2
          rw [upd_same, upd_same]; rfl
        · rw [upd_ne h2, upd_ne h2, upd_ne h1, upd_ne h2]
    rw [e] at z
    exact z
def kp (p : Str × V) : Key × V := (.inr p.1, p.2)
def spr (p : Str × Da) : Da × Da := (.str p.1, p.2)
theorem flds_kp (l : List (Str × V)) : flds (l.map kp) = l := by
  unfold flds
  rw [List.map_map]
  exact List.map_id' l
theorem dqk_app {K : PySem.W.Frag} {S : Hp} : ∀ {a : List (Key × V)} {b : List (Da × Da)} {c : List (Key × V)} {d : List (Da × Da)}, DqK K S a b → DqK K S c d → DqK K S (a ++ c) (b ++ d)
  | [], _, _, _, h, k => by cases h; exact k
  | x :: a, _, _, _, h, k => by
    cases h with
    | cons h1 h2 => exact .cons h1 (dqk_app h2 k)
theorem dqk_zipR {K : PySem.W.Frag} {S : Hp} : ∀ {fns : List Str} {ws : List V} {ds : List Da}, DqAll K S ws ds → ws.length = fns.length → DqK K S ((fns.zip ws).reverse.map kp) ((fns.zip ds).reverse.map spr)
  | [], ws, ds, h, l => by
    rw [List.length_eq_zero_iff.mp l] at h
    cases h
    exact .nil
  | f :: fns, [], ds, h, l => nomatch l
  | f :: fns, w :: ws, _, h, l => by
    cases h with
    | cons h1 h2 =>
      rw [List.zip_cons_cons, List.zip_cons_cons, List.reverse_cons, List.reverse_cons, List.map_append, List.map_append]
      exact dqk_app (dqk_zipR h2 (Nat.succ.inj l)) (.cons (k := .inr f) h1 .nil)
/-- an exception class with its own __init__ -/
structure Exn (P : Program) (w : World) (K : PySem.W.Frag) (mg : Str → Option Value) (base : Heap) (x : Str) (fns : List Str) : Prop where
  ex : ∃ (C fI : Addr) (fd : FuncData) (ps : List Str), mg x = some (.ref C) ∧ PySem.W.nsIn K mainGlobals x = some (some (.ref C)) ∧ OexC K C ∧ PySem.W.findIn K (.ref C) "__init__" = some (some (.ref fI)) ∧ PySem.W.typeIn K (.ref fI) = some (.type "function") ∧
    FnOk P w K mg base CX0 1 fI fd ps (spInit C fns) ∧ Binds K fd ps []
/-- an exception class without __init__, without arguments -/
structure Exn0 (K : PySem.W.Frag) (mg : Str → Option Value) (x : Str) : Prop where
  ex : ∃ (C : Addr) (bmB : List Value) (B newId initId : String), mg x = some (.ref C) ∧ PySem.W.nsIn K mainGlobals x = some (some (.ref C)) ∧ ExcBaseFacts B newId initId bmB ∧ PySem.W.excIn K C bmB newId = true ∧ PySem.W.keepIn K (.ref C) = true ∧
    PySem.W.subIn K (.ref C) (.type "BaseException") = some true ∧ PySem.W.typeIn K (.ref C) = some (.type "type")
end Pq
set_option Elab.async false
set_option linter.all false
set_option maxRecDepth 100000
set_option maxHeartbeats 4000000
set_option pp.maxSteps 600
namespace Pq
open PySem PySem.Spec PyProof.Rows L2
/-! ### try: what is caught becomes a value -/
section
variable {X : Cx} {pins : List (Addr × Obj)} {σ : L2.St} {H : Hp} {s sI : Shared}
/-- an object that is new since sI is tracked -/
theorem inv_track {a : Addr} {o : HO} (hx : X.ex = []) (I : Inv X pins σ H sI) (J : Inv X pins σ H s) (ni : sI.heap.get? a = none) (na : H a = none) (new : ObjOk X.prog X.w (upd H a o) s.heap a o) : Inv X pins σ (upd H a o) s := by
  have n0 : X.s_0.heap.get? a = none := by
    cases e : X.s_0.heap.get? a with
    | none => rfl
    | some u =>
      obtain ⟨u', z⟩ := I.base.there a u e (by rw [hx]; exact fun z => nomatch z)
      rw [ni] at z; cases z
  have ne0 : ∀ b u, X.s_0.heap.get? b = some u → b ≠ a := fun b u e z => by rw [z, n0] at e; cases e
  have neI : ∀ b u, sI.heap.get? b = some u → b ≠ a := fun b u e z => by rw [z, ni] at e; cases e
  obtain ⟨m, ⟨oL, es, ep, hoL, _⟩, _⟩ := id I.loc
  refine ⟨J.ok, J.os, J.bare, ⟨J.base.keep, J.base.slot, fun b u e n hq => ?_, J.base.there, fun b xs e => ?_, fun b u v e => ?_, fun b ps e => ?_⟩, J.loc, J.cell, ?_, fun x c e => ?_, fun p hp => ?_, fun b u e => ?_, J.len⟩
  · rw [upd_ne (ne0 b u e)]; exact J.base.free b u e n hq
  · have q := J.base.tups b xs e
    rw [upd_ne (ne_of_none q na)]; exact q
  · have q := J.base.frzs b u v e
    rw [upd_ne (ne_of_none q na)]; exact q
  · obtain ⟨m, q⟩ := J.base.tbls b ps e
    exact ⟨m, by rw [upd_ne (ne_of_none q na)]; exact q⟩
  · rw [upd_ne (neI _ _ hoL)]; exact J.free
  · obtain ⟨v, oc, hc, _⟩ := I.cell x c e
    rw [upd_ne (neI _ _ hc)]; exact J.freeC x c e
  · obtain ⟨e, n, r⟩ := J.pin p hp
    obtain ⟨e', _⟩ := I.pin p hp
    exact ⟨e, by rw [upd_ne (neI _ _ e')]; exact n, r⟩
  · by_cases hb : b = a
    · subst hb
      rw [upd_same] at e
      cases e
      exact new
    · rw [upd_ne hb] at e
      exact (J.hok b u e).stay (fun c v _ q => q) (fun c q => by rw [upd_ne (ne_of_none q na)]; exact q) fun c xs q => by rw [upd_ne (ne_of_none q na)]; exact q
theorem xcv_ok {P : Program} {w : World} {H : Hp} {h : Heap} {a : Addr} {cls : Value} {d : Option Addr} {oe : Obj} {vs : Array Value} (e : h.get? a = some oe) (z : Zc cls d oe) (hd : oe.data = .fields vs) : ObjOk P w H h a (xcv a cls d) :=
  ⟨⟨oe, vs, e, z, hd⟩, ⟨oe, e⟩, fun _ _ ⟨o, v, q, r⟩ k => ⟨o, v, k o q, r⟩⟩
end
/-! ### the same over data -/
/-- the base from here on -/
def Br.at (B : Br) (S : Hp) : Br := ⟨S, B.H, B.deal, B.bo⟩
theorem Wd.at {B : Br} {S H : Hp} (w : Wd B S H) : Wd (B.at S) S H := ⟨w.sub, fun _ _ z => z, w.bH, fun _ _ _ z => z, fun p l e => by
  obtain ⟨d1, ⟨o, d2⟩, ⟨o', d3⟩, d4, d5⟩ := w.deal p l e
  exact ⟨d1, ⟨o, d2⟩, ⟨o', d3⟩, w.bN p o d2 d4, w.bN l o' d3 d5⟩⟩
theorem Wd.un {B : Br} {S H S' H' : Hp} (w : Wd B S H) (w' : Wd (B.at S) S' H') : Wd B S' H' := ⟨w'.sub, fun a o z => w'.bS a o (w.bS a o z), w'.bH, fun a o e n => w'.bN a o e (w.bN a o e n), fun p l e => by
  obtain ⟨_, d⟩ := w.deal p l e
  exact ⟨(w'.deal p l e).1, d⟩⟩
section
variable {K : PySem.W.Frag} {B : Br} {env env' : En} {S H S' H' : Hp} {σ σ' : L2.St}
theorem Rel.at (R : Rel K B env S σ H) : Rel K (B.at S) env S σ H := ⟨R.w.at, R.len, R.slot, R.dl, R.own, R.dist, R.bor, R.obd, R.binj⟩
theorem Rel.un (w : Wd B S H) (R : Rel K (B.at S) env' S' σ' H') : Rel K B env' S' σ' H' := ⟨w.un R.w, R.len, R.slot, R.dl, R.own, R.dist, R.bor, R.obd, R.binj⟩
theorem Eok.at {E : EM} {D : Ends} (w : Wd B S H) (k : Eok K B S E D) : Eok K (B.at S) S E D :=
  ⟨fun e σ' S' H' p R u => k.nx e σ' S' H' p (R.un w) u, fun r v S' H' p w' ir => k.rt r v S' H' p (w.un w') ir, fun e σ' S' H' p R u => k.bk e σ' S' H' p (R.un w) u, fun e σ' S' H' p R u => k.ct e σ' S' H' p (R.un w) u⟩
theorem Rel.gone {i : Nat} (R : Rel K B env S σ H) : Rel K B (env.set i .no) S (σ.set i none) H := by
  by_cases h : i < env.length
  · exact R.setN h
  · rw [List.set_eq_of_length_le (by omega), List.set_eq_of_length_le (by have := R.len; omega)]
    exact R
end
end Pq
set_option Elab.async false
set_option linter.all false
set_option maxRecDepth 100000
set_option maxHeartbeats 4000000
set_option pp.maxSteps 600
namespace PySem.W
open PySem PySem.Spec PySem.Calls PyProof.Rows
section
variable {prog : Program} {w : World} {A : Around} {E : Value → Shared → Prop} {s : Shared} {K : Frag} {x D : Addr} {ox : Obj} {od : Option Obj}
theorem findObj_dataO {C : Addr} {name : Str} {a g : Value} (hc : (clsIn K C).isSome = true) (ha : findIn K (.ref C) name = some (some a)) (hg : specialIn K a "__get__" = some (some g)) (ht : takesIn K a = some true) : findObj K C od name = some (.bind g a) := by
  obtain ⟨cd, hc⟩ := Option.isSome_iff_exists.mp hc
  unfold findObj
  rw [hc, Option.bind_some, ha, Option.bind_some]
  simp [hg, ht]
theorem kin_classO {Q : Option Value → Shared → Prop} (hga : findIn K (.ref D) "__getattribute__" = some (some (.builtin "BaseException.__getattribute__"))) (hgt : findIn K (.ref D) "__getattr__" = some none) (hsub : subIn K (.ref D) (.type "BaseException") = some true)
    (hdct : hasDictIn K D = true) (ha : findIn K (.ref D) "__class__" = some (some (.builtin "object.__class__")))
    (hn : specialIn K (.builtin "object.__class__") "__get__" = some (some (.builtin "getset_descriptor.__get__"))) (htk : takesIn K (.builtin "object.__class__") = some true) (hm : mroIn K D (.type "object") = some true)
    (X : K.In s.heap) (I : InstAt s.heap x ox D od) (h : Q (some (.ref D)) { s with toks := s.toks + 1 }) : wpAny (model prog w) A (getAttr? (.ref x) "__class__") Q E s := by
  have hf : findObj K D od "__class__" = some (.bind (.builtin "getset_descriptor.__get__") (.builtin "object.__class__")) := findObj_dataO (by obtain ⟨cd, hc, _⟩ := any_some hdct; rw [hc]; rfl) ha hn htk
  obtain ⟨hp, g, d, t, os⟩ := s
  have L0 := I.type (M := model prog w)
  have L1 := looks_findIn (M := model prog w) X hga
  have L2 := looks_findIn (M := model prog w) X hgt
  have L3 := looks_find (M := model prog w) X I hf
  have sub : Looks (model prog w) hp (isInstance (.ref x) (.type "BaseException")) true := L0.andThen (looks_subIn X hsub)
  have hx0 : (false && onTheHeap (Value.builtin "BaseException.__getattribute__")) = false := rfl
  have hx2 : (Value.builtin "BaseException.__getattribute__" == Value.builtin "object.__getattribute__") = false := by decide +kernel
  have hx1 : (onTheHeap (Value.ref D) && Value.builtin "BaseException.__getattribute__" == Value.builtin "object.__getattribute__") = false := by rw [hx2]; rfl
  unfold getAttr? getAttrBy? getAttrBy
  refine wpAny_bind (wpAny_mkText (wpAny_bind (wpAny_attempt (wpAny_holding (wpAny_bind (L0.at (wpAny_bind (L1.at ?_))))))))
  show wpAny _ _ (if (onTheHeap (Value.ref D) && Value.builtin "BaseException.__getattribute__" == Value.builtin "object.__getattribute__") = true then _ else _) _ _ _
  rw [hx1, if_neg Bool.false_ne_true]
  unfold getAttrByItsOwn hookBefore
  refine wpAny_bind ?_
  rw [if_pos (show onTheHeap (Value.ref D) = true from rfl)]
  refine L2.at ?_
  refine wpAny_bind (wpAny_attempt (wpAny_holding ?_))
  unfold callGetattribute
  rw [hx0, if_neg Bool.false_ne_true]
  unfold boundAndCalled
  rw [PySem.F.excAttr_ValueError.ga.bind (.ref x)]
  refine wpAny_bind (wpAny_pure ?_)
  show wpAny _ _ (call (.builtin "BaseException.__getattribute__") [.ref x, .str "__class__" t]) _ _ _
  refine wpAny_call (codeAny_call_builtin PySem.F.excAttr_ValueError.ga.plain PySem.F.entry_bexc_ga ?_)
  refine @check_slot (model prog w) _ _ ⟨hp, g, d, t + 1, os⟩ "BaseException.__getattribute__" "BaseException" "__getattribute__" (.ref x) [.str "__class__" t] [] _ (by decide +kernel) (by decide +kernel) sub (PySem.F.args_bexc_ga (.ref x) (.str "__class__" t)) ?_
  unfold Builtin.«object.__getattribute__»
  refine wpAny_bind (wpAny_of_eq (a := ((Value.ref x : Value), [Value.str "__class__" t])) (by first | rfl | (simp only [slotArgs]; rfl)) ?_)
  refine wpAny_bind (wpAny_pure (wpAny_bind (L0.at (wpAny_bind (L3.at ?_)))))
  show wpAny _ _ (holding [Value.builtin "object.__class__"] (call (.builtin "getset_descriptor.__get__") [.builtin "object.__class__", .ref x, .ref D]) >>= ret) _ _ _
  refine wpAny_bind (wpAny_holding (wpAny_call (class_get (s := ⟨hp, g, d, t + 1, os⟩) (ox := ox) (od := od) X I hm ?_)))
  refine wpAny_pure ?_
  show wpAny _ _ (handedOut (.ref D)) _ _ _
  rw [handedOut_of (v := .ref D) rfl]
  first
    | exact wpAny_pure (wpAny_pure h)
    | exact wpAny_pure h
    | exact wpAny_pure (wpAny_bind (wpAny_pure (wpAny_pure h)))
theorem kitx_excO (hga : findIn K (.ref D) "__getattribute__" = some (some (.builtin "BaseException.__getattribute__"))) (hgt : findIn K (.ref D) "__getattr__" = some none) (hsub : subIn K (.ref D) (.type "BaseException") = some true) (hdct : hasDictIn K D = true) (ha : findIn K (.ref D) "__class__" = some (some (.builtin "object.__class__")))
    (hn : specialIn K (.builtin "object.__class__") "__get__" = some (some (.builtin "getset_descriptor.__get__"))) (htk : takesIn K (.builtin "object.__class__") = some true) (hm : mroIn K D (.type "object") = some true) :
    KitX K (.ref x) (.ref D) (fun h => InstAt h x ox D od) where
  ty := fun _ _ _ I => I.type
  it := fun _ _ X _ => by
    obtain ⟨cdD, hcD, _⟩ := any_some hdct
    unfold clsIn at hcD
    split at hcD
    · rename_i c' d' cd' sl' ho
      intro A' Q' E' s' k q
      unfold isType loadHead
      exact wpAny_bind (wpAny_loadPart (k _ _ (X _ _ ho)) (wpAny_pure q))
    · cases hcD
  ne := fun h tp dd its n sl X htp => by
    obtain ⟨cdD, hcD, _⟩ := any_some hdct
    refine Bool.eq_false_iff.mpr fun q => ?_
    have e : D = tp := Value.ref.inj (beq_iff_eq.mp q)
    subst e
    unfold clsIn at hcD
    split at hcD
    · rename_i c' d' cd' sl' ho
      have z := (X _ _ ho).symm.trans htp
      cases z
    · cases hcD
  ca := fun X I k => kin_classO hga hgt hsub hdct ha hn htk hm X I k
end
end PySem.W
namespace Pq
open PySem PySem.Spec PyProof.Rows L2
/-! ### caught exceptions looked at -/
/-- what is known of a class, its instances being caught -/
structure XcF (K : PySem.W.Frag) (x : Str) (fns : List Str) : Prop where
  c : ∀ C, PySem.W.nsIn K mainGlobals x = some (some (.ref C)) → ExcC K C
  n : ∀ C, PySem.W.nsIn K mainGlobals x = some (some (.ref C)) → ∀ f ∈ fns, PySem.W.findIn K (.ref C) f = some none
section
variable {X : Cx} {pins : List (Addr × Obj)} {σ : L2.St} {H : Hp} {s : Shared}
theorem inst_xc {a C : Addr} {d : Option Addr} {kvs : List (Key × V)} (I : Inv X pins σ H s) (ha : H a = some (xcv a (.ref C) d)) (hd : XcD H d kvs) : ∃ oe od, PySem.W.InstAt s.heap a oe C od ∧ (kvs ≠ [] → ∃ (o : Obj) (dd : Addr) (mA : Str → Option Value), d = some dd ∧ od = some o ∧ (∀ f, RelO ((flds kvs).lookup f) (mA f)) ∧ ∀ n, PySem.W.lookIn n o = some (mA n)) := by
  obtain ⟨⟨oe, vs, e, hz, hv⟩, _⟩ := (show ObjOk X.prog X.w H s.heap a (xcv a (.ref C) d) from I.hok a _ ha)
  rcases hd with ⟨rfl, rfl⟩ | ⟨dd, rfl, hdd⟩
  · refine ⟨oe, none, ⟨e, hz.1, by unfold PySem.W.notCls; rw [hv] <;> rfl, by rw [hz.2]; trivial⟩, fun z => absurd rfl z⟩
  · obtain ⟨mA, hns, hr⟩ := (show ObjOk X.prog X.w H s.heap dd (.xd (flds kvs)) from I.hok dd _ hdd)
    obtain ⟨od, ho, hl⟩ := lookIn_ns hns
    exact ⟨oe, some od, ⟨e, hz.1, by unfold PySem.W.notCls; rw [hv] <;> rfl, by rw [hz.2]; exact ho⟩, fun _ => ⟨od, dd, mA, rfl, rfl, hr, fun n => hl n⟩⟩
end
/-- e.f of a caught exception -/
def tXfT (K : PySem.W.Frag) (f : Str) (te : TE) : TE := fun σ H Q => te σ H fun x H1 => ∃ a C d kvs v, x = .ref a ∧ H1 a = some (xcv a (.ref C) d) ∧ XcD H1 d kvs ∧ ExcC K C ∧ PySem.W.findIn K (.ref C) f = some none ∧ (flds kvs).lookup f = some v ∧ Q v H1
section
variable {X : Cx}
theorem pe_xfT {e : Expr} {te : TE} {pos : Pos} {n : Str} (he : PE X e te) (hb : attributeBase e n X.env (eval e X.env) = eval e X.env := by rfl) : PE X (.Attribute e n pos) (tXfT X.K n te) := by
  refine ⟨fun pins s σ H Q I h => ?_⟩
  refine attr_of hb (thn (he.run pins s σ H _ I h) fun u s1 hh => ?_)
  obtain ⟨x, H1, I1, rx, a, C, d, kvs, v, ex, ha, hd, T, hno, l, q⟩ := hh
  subst ex
  obtain rfl : u = Value.ref a := rx
  have ne : kvs ≠ [] := fun z => by rw [z] at l; cases l
  obtain ⟨oe, od, J, k⟩ := inst_xc I1 ha hd
  obtain ⟨o, dd, mA, _, rfl, hr, hl⟩ := k ne
  obtain ⟨u, hu, ru⟩ := RelO.some_of (v := v) (o := mA n) (by rw [← l]; exact hr n)
  exact HandSPX.exc_get I1.kIn J T.hg T.hk T.hs (PySem.W.findObj_own T.hd hno rfl (by rw [hl, hu])) (handed_of ru) ⟨v, H1, I1.tok _, ru, q⟩
/-- isinstance of a caught exception -/
def rIsXc (K : PySem.W.Frag) : List V → Hp → VK → Prop := fun xs H Q => ∃ (a C : Addr) (d : Option Addr) (kvs : List (Key × V)) (c : V) (cv : Value) (b : Bool), xs = [.ref a, c] ∧ H a = some (xcv a (.ref C) d) ∧ XcD H d kvs ∧ ExcC K C ∧ ClsV c cv ∧ PySem.W.kitOne K (.ref C) cv = some b ∧ Q (.bl b) H
theorem call_isXc : CallR X (.builtin "isinstance") (rIsXc X.K) := by
  intro pins s σ H xs us Q I r h
  obtain ⟨a, C, d, kvs, c, cv, b, rfl, ha, hd, T, k, e, q⟩ := h
  obtain ⟨u1, u2, rfl, r1, r2⟩ := vals2 r
  have e2 := k.eq r2
  subst e2
  cases (show u1 = Value.ref a from r1)
  obtain ⟨oe, od, J, _⟩ := inst_xc I ha hd
  exact PySem.W.kia_one (PySem.W.kitx_excO T.hg T.hk T.hs T.hd T.ha T.hn T.ht T.hm) I.kIn J e (fun z => nomatch z) fun tk => ⟨.bl b, H, I.tok tk, rfl, q⟩
/-! ### the same over data -/
/-- which class an exception has -/
def xcls : Da → Option Str
  | .dict ((.bool false, .str x) :: _) => some x
  | _ => none
def xflds : Da → List (Da × Da)
  | .dict (_ :: ds) => ds
  | _ => []
theorem IsP.xc {K : PySem.W.Frag} {B : Br} {S H : Hp} {d : Da} {v : V} {x : Str} (w : Wd B S H) (p : IsP K B S H d v) (e : xcls d = some x) : ∃ a C dd kvs, v = .ref a ∧ PySem.W.nsIn K mainGlobals x = some (some (.ref C)) ∧ S a = some (xcv a (.ref C) dd) ∧ XcD S dd kvs ∧ DqK K S kvs (xflds d) := by
  unfold xcls at e
  split at e
  · rename_i y ds
    cases e
    rcases p with p | ⟨_, _, _, _, _, p⟩
    · cases p with
      | exc n h1 h2 h3 => exact ⟨_, _, _, _, rfl, n, h1, h2, h3⟩
      | dk _ z => exact nomatch (show true = false from tm_dk z)
    · cases p with
      | dk z => exact nomatch (show true = false from tm_dk z)
  · cases e
/-- e.f -/
def mXf (L : List Str) (f : Str) (m : MP) : MP := fun env Q => m env fun d e1 => ∃ x, xcls d = some x ∧ x ∈ L ∧ match dLook (xflds d) (.inr f) with
  | some c => Q c e1
  | none => False
theorem dqk_look {K : PySem.W.Frag} {S : Hp} {f : Str} (hf : f ≠ "") : ∀ {kvs : List (Key × V)} {ds : List (Da × Da)} {c : Da}, DqK K S kvs ds → dLook ds (.inr f) = some c → ∃ v, (flds kvs).lookup f = some v ∧ Dq K S v c
  | [], _, _, h, e => by cases h; cases e
  | (k, v) :: kvs, _, c, h, e => by
    cases h with
    | @cons _ _ _ d ds h1 h2 =>
      unfold dLook at e
      rw [List.find?_cons] at e
      dsimp only at e
      cases z : isKy (.inr f) (keyD k) with
      | true =>
        rw [z] at e
        cases e
        cases k with
        | inl i => cases z
        | inr g =>
          have : g = f := of_decide_eq_true z
          subst this
          exact ⟨v, by show List.lookup g ((g, v) :: flds kvs) = _; simp [List.lookup], h1⟩
      | false =>
        rw [z] at e
        obtain ⟨u, a, b⟩ := dqk_look hf (c := c) h2 e
        refine ⟨u, ?_, b⟩
        have ne : (f == fkey k) = false := by
          cases k with
          | inl i => simpa [fkey] using hf
          | inr g =>
            have : ¬ g = f := of_decide_eq_false z
            simpa [fkey] using Ne.symm this
        show List.lookup f ((fkey k, v) :: flds kvs) = _
        simp [List.lookup, ne, a]
theorem dp_xf {Z : ZX} {L fns : List Str} {e : Expr} {m : MP} {pos : Pos} {n : Str} (hL : ∀ x ∈ L, XcF X.K x fns) (hn : n ∈ fns) (he : DP Z X e m) (hf : n ≠ "" := by decide) (hb : attributeBase e n X.env (eval e X.env) = eval e X.env := by rfl) : DS Z X (.Attribute e n pos) (mXf L n m) :=
  (pe_xfT he hb).wk fun σ H Q ⟨B, env, S, Q0, R, h, k⟩ => by
    refine ⟨B, env, S, _, R, h, fun d e1 q v S1 H1 st1 R1 ip => ?_⟩
    obtain ⟨x, hx, hl, q⟩ := q
    obtain ⟨a, C, dd, kvs, rfl, nC, ha, hd, dk⟩ := ip.xc R1.w hx
    have F := hL x hl
    cases z : dLook (xflds d) (.inr n) with
    | none => rw [z] at q; exact q.elim
    | some c =>
      rw [z] at q
      obtain ⟨u, l, dc⟩ := dqk_look hf dk z
      exact ⟨a, C, dd, kvs, u, rfl, R1.w.sub _ _ ha, hd.up R1.w.sub, F.c C nC, F.n C nC n hn, l, k c e1 q u S1 H1 st1 R1 dc⟩
/-- isinstance(e, y) -/
def mIsX (tab : List (Str × Bool)) (m : MP) : MP := fun env Q => m env fun d e1 => match xcls d with
  | some x => match tab.lookup x with
    | some b => Q (.bool b) e1
    | none => False
  | none => False
/-- what the class y says of exceptions -/
structure IsX (K : PySem.W.Frag) (mg : Str → Option Value) (y : Str) (tab : List (Str × Bool)) : Prop where
  ex : ∃ D, mg y = some (.ref D) ∧ ∀ p ∈ tab, ∀ C, PySem.W.nsIn K mainGlobals p.1 = some (some (.ref C)) → PySem.W.kitOne K (.ref C) (.ref D) = some p.2 ∧ ExcC K C
theorem lookup_mem {tab : List (Str × Bool)} {x : Str} {b : Bool} (h : tab.lookup x = some b) : (x, b) ∈ tab := by
  induction tab with
  | nil => cases h
  | cons p r ih =>
    obtain ⟨y, c⟩ := p
    rw [List.lookup_cons] at h
    by_cases z : x = y
    · subst z
      simp at h
      subst h
      exact List.mem_cons_self
    · have : (x == y) = false := by simpa using z
      rw [this] at h
      exact List.mem_cons_of_mem _ (ih h)
theorem ds_isx {Z : ZX} {tab : List (Str × Bool)} {a : Expr} {y : Str} {p p2 pos : Pos} {m : MP} (hg : Gl X "isinstance") (hm : X.mg "isinstance" = none) (hg2 : Gl X y) (I : IsX X.K X.mg y tab) (ha : DP Z X a m) (hv : bootBuiltins "isinstance" = some (.builtin "isinstance") := by decide +kernel) (hdb : (y == ("__debug__" : Str)) = false := by decide)
    (he : starEach [a, .Name y p2] X.env = (false, eval a X.env) :: starEach [.Name y p2] X.env := by rfl) (he2 : starEach [.Name y p2] X.env = (false, eval (.Name y p2) X.env) :: starEach [] X.env := by rfl) (hpl : (backTo pos (starEach [.Name y p2] X.env)).any (·.1) = false := by rfl) :
    DS Z X (.Call (.Name "isinstance" p) [a, .Name y p2] [] pos) (mIsX tab m) := by
  obtain ⟨D, gD, hD⟩ := I.ex
  refine (pe_callB call_isXc hg hm hv (pa_cons ha (pa_cons (pe_glob (v := .ref D) hg2 gD rfl hdb) pa_nil he2) he) (by decide) (by decide) he hpl).wk fun σ H Q ⟨B, env, S, Q0, R, h, k⟩ => ?_
  refine ⟨B, env, S, _, R, h, fun d e1 q v S1 H1 st1 R1 ip => ?_⟩
  cases zx : xcls d with
  | none => rw [zx] at q; exact q.elim
  | some x =>
    rw [zx] at q
    dsimp only at q
    cases z : tab.lookup x with
    | none => rw [z] at q; exact q.elim
    | some b =>
      rw [z] at q
      obtain ⟨a, C, dd, kvs, rfl, nC, ha, hd, dk⟩ := ip.xc R1.w zx
      obtain ⟨k1, T⟩ := hD _ (lookup_mem z) C nC
      exact ⟨a, C, dd, kvs, .ref D, .ref D, b, rfl, R1.w.sub _ _ ha, hd.up R1.w.sub, T, .own D, k1, k _ e1 q _ S1 H1 st1 R1 (.bl b)⟩
/-- isinstance(e, ValueError) -/
structure IsXB (K : PySem.W.Frag) (T : String) (tab : List (Str × Bool)) : Prop where
  ex : ∀ p ∈ tab, ∀ C, PySem.W.nsIn K mainGlobals p.1 = some (some (.ref C)) → PySem.W.kitOne K (.ref C) (.type T) = some p.2 ∧ ExcC K C
theorem ds_isxB {Z : ZX} {tab : List (Str × Bool)} {T : String} {a : Expr} {y : Str} {p p2 pos : Pos} {m : MP} (hg : Gl X "isinstance") (hm : X.mg "isinstance" = none) (hg2 : Gl X y) (hm2 : X.mg y = none) (hv2 : bootBuiltins y = some (.type T)) (I : IsXB X.K T tab) (ha : DP Z X a m) (hv : bootBuiltins "isinstance" = some (.builtin "isinstance") := by decide +kernel) (hn : y ≠ "__name__" := by decide) (hdb : (y == ("__debug__" : Str)) = false := by decide)
    (he : starEach [a, .Name y p2] X.env = (false, eval a X.env) :: starEach [.Name y p2] X.env := by rfl) (he2 : starEach [.Name y p2] X.env = (false, eval (.Name y p2) X.env) :: starEach [] X.env := by rfl) (hpl : (backTo pos (starEach [.Name y p2] X.env)).any (·.1) = false := by rfl) :
    DS Z X (.Call (.Name "isinstance" p) [a, .Name y p2] [] pos) (mIsX tab m) := by
  refine (pe_callB call_isXc hg hm hv (pa_cons ha (pa_cons (pe_bltn (v := .ty T) hg2 hm2 hv2 rfl hn hdb) pa_nil he2) he) (by decide) (by decide) he hpl).wk fun σ H Q ⟨B, env, S, Q0, R, h, k⟩ => ?_
  refine ⟨B, env, S, _, R, h, fun d e1 q v S1 H1 st1 R1 ip => ?_⟩
  cases zx : xcls d with
  | none => rw [zx] at q; exact q.elim
  | some x =>
    rw [zx] at q
    dsimp only at q
    cases z : tab.lookup x with
    | none => rw [z] at q; exact q.elim
    | some b =>
      rw [z] at q
      obtain ⟨a, C, dd, kvs, rfl, nC, ha, hd, dk⟩ := ip.xc R1.w zx
      obtain ⟨k1, T'⟩ := I.ex _ (lookup_mem z) C nC
      exact ⟨a, C, dd, kvs, .ty T, .type T, b, rfl, R1.w.sub _ _ ha, hd.up R1.w.sub, T', .ty T, k1, k _ e1 q _ S1 H1 st1 R1 (.bl b)⟩
end
end Pq
set_option Elab.async false
set_option linter.all false
set_option maxRecDepth 100000
set_option maxHeartbeats 4000000
set_option pp.maxSteps 600
namespace Pq
open PySem PySem.Spec PyProof.Rows L2
/-! ### what the top has written of exceptions -/
/-- the statements of a class -/
def clsB : Stmt → List Stmt
  | .ClassDef _ _ _ b _ _ _ _ _ _ _ => b
  | _ => []
def clsS (s : Stmt) (i : Nat) : Stmt := (clsB s).getD i (.Pass ⟨0, 0, 0, 0⟩)
def AllT {α : Type} (P : α → Prop) : List α → Prop
  | [] => True
  | a :: r => P a ∧ AllT P r
theorem AllT.at {α : Type} {P : α → Prop} : ∀ {l : List α}, AllT P l → ∀ a ∈ l, P a
  | _ :: _, h, a, hm => (List.mem_cons.mp hm).elim (fun e => by rw [e]; exact h.1) fun m => h.2.at a m
section
variable {K : PySem.W.Frag} {mg : Str → Option Value}
theorem ns_one {x : Str} {C C' : Addr} (h : PySem.W.nsIn K mainGlobals x = some (some (.ref C))) (h' : PySem.W.nsIn K mainGlobals x = some (some (.ref C'))) : C' = C := by
  rw [h] at h'
  cases h'
  rfl
/-- what isinstance asks of a class -/
abbrev TabP (K : PySem.W.Frag) (cv : Value) (p : Str × Bool) : Prop := ∃ C, PySem.W.nsIn K mainGlobals p.1 = some (some (.ref C)) ∧ PySem.W.kitOne K (.ref C) cv = some p.2 ∧ ExcC K C
theorem isx_mk {y : Str} {D : Addr} {tab : List (Str × Bool)} (gD : mg y = some (.ref D)) (h : AllT (TabP K (.ref D)) tab) : IsX K mg y tab := ⟨D, gD, fun p hp C nC => by
  obtain ⟨C', n', k, e⟩ := h.at p hp
  rw [ns_one n' nC]
  exact ⟨k, e⟩⟩
theorem isxB_mk {T : String} {tab : List (Str × Bool)} (h : AllT (TabP K (.type T)) tab) : IsXB K T tab := ⟨fun p hp C nC => by
  obtain ⟨C', n', k, e⟩ := h.at p hp
  rw [ns_one n' nC]
  exact ⟨k, e⟩⟩
theorem xcf_mk {x : Str} {C : Addr} {fns : List Str} (nC : PySem.W.nsIn K mainGlobals x = some (some (.ref C))) (e : ExcC K C) (h : AllT (fun f => PySem.W.findIn K (.ref C) f = some none) fns) : XcF K x fns :=
  ⟨fun C' n' => by rw [ns_one nC n']; exact e, fun C' n' f hf => by rw [ns_one nC n']; exact h.at f hf⟩
end
end Pq
set_option Elab.async false
set_option linter.all false
set_option maxRecDepth 100000
set_option maxHeartbeats 4000000
namespace Pq
open PySem PySem.Spec PyProof.Rows L2
/-! ### defs that may raise, that are handed what they may change -/
end Pq
namespace Pq
open PySem PySem.Spec PyProof.Rows L2
theorem kit_mk {K : PySem.W.Frag} {t : Value} {C : Addr} {b : Bool} (h1 : PySem.W.isClsIn K C = true) (h2 : PySem.W.typeIn K (.ref C) = some (.type "type")) (h3 : PySem.W.subIn K t (.ref C) = some b) (hb : (t == .ref C) = true → b = true) : PySem.W.kitOne K t (.ref C) = some b := by
  unfold PySem.W.kitOne
  by_cases c : (t == .ref C) = true
  · rw [if_pos c, hb c]
  · rw [if_neg c]
    have h1' : (PySem.W.clsIn K C).isSome = true := h1
    have e2 : ((PySem.W.clsIn K C).isSome && PySem.W.typeIn K (.ref C) == some (.type "type")) = true := by rw [h1', h2] <;> rfl
    show (if ((PySem.W.clsIn K C).isSome && PySem.W.typeIn K (.ref C) == some (.type "type")) = true then PySem.W.subIn K t (.ref C) else none) = some b
    rw [if_pos e2]
    exact h3
theorem kit_ne {x y : Addr} {b : Bool} (h : decide (x = y) = false) : (Value.ref x == .ref y) = true → b = true := fun z => by
  have e : Value.ref x = .ref y := beq_iff_eq.mp z
  cases e
  rw [decide_eq_true rfl] at h
  cases h
theorem kit_tyx {K : PySem.W.Frag} {E : Addr} {T : String} {b : Bool} (hm : PySem.W.kitMeta T = true) (h3 : PySem.W.subIn K (.ref E) (.type T) = some b) : PySem.W.kitOne K (.ref E) (.type T) = some b := by
  unfold PySem.W.kitOne
  have n : ¬ (Value.ref E == .type T) = true := fun z => by
    have e : Value.ref E = .type T := beq_iff_eq.mp z
    cases e
  rw [if_neg n]
  show (if PySem.W.kitMeta T = true then PySem.W.subIn K (.ref E) (.type T) else none) = some b
  rw [if_pos hm]
  exact h3
end Pq
set_option Elab.async false
set_option linter.all false
set_option maxRecDepth 100000
set_option maxHeartbeats 4000000
namespace Pq
open PySem PySem.Spec PyProof.Rows L2
/-! ### defs that are called within an except suite -/
/-- room for k calls, whatever is handled -/
structure RmQ (k : Nat) (A : Around) : Prop where
  rm : L2H.RoomH k A
theorem RmQ.mono {j k : Nat} {A : Around} (r : RmQ k A) (h : j ≤ k) : RmQ j A := ⟨r.rm.mono h⟩
theorem RmQ.u1 {k : Nat} {A : Around} (r : RmQ k A) : A.units + 1 < cLine := by have := r.rm.un; omega
structure FnQ (P : Program) (w : World) (K : PySem.W.Frag) (mg : Str → Option Value) (base : Heap) (k : Nat) (f : Addr) (fd : FuncData) (ps : List Str) (sp : Sp) : Prop where
  len : ∀ (vs : List V) (H : Hp) (Q : VK) (E : XK), sp vs H Q E → vs.length = ps.length
  run : ∀ (A : Around) (outs : List Env) (sh : Shared) (H : Hp) (ags : Args) (us : List Value) (vs : List V) (Q : VK) (E : XK), RmQ k A → Env0 P w K mg base A outs sh H → BindsTo sh fd ags (ps.zip us) → Vals vs us → sp vs H Q E →
    codeAny (model P w) A (.call (.ref f) ags) (CR CX0 outs P w H sh Q E) sh
theorem FnQ.mono {P : Program} {w : World} {K : PySem.W.Frag} {mg : Str → Option Value} {base : Heap} {j k : Nat} {f : Addr} {fd : FuncData} {ps : List Str} {sp : Sp} (F : FnQ P w K mg base j f fd ps sp) (h : j ≤ k) : FnQ P w K mg base k f fd ps sp :=
  ⟨F.len, fun A outs sh H ags us vs Q E rg => F.run A outs sh H ags us vs Q E (rg.mono h)⟩
end Pq
set_option Elab.async false
set_option linter.all false
set_option maxRecDepth 100000
set_option maxHeartbeats 4000000
set_option pp.maxSteps 700
namespace Pq
open PySem PySem.Spec PyProof.Rows L2
/-! ### exceptions made without arguments; exceptions as values -/
section
variable {X : Cx}
theorem pmk_own0 {C : Addr} {bmB : List Value} {B newId initId : String} {x : Str} {p pos : Pos} (F : ExcBaseFacts B newId initId bmB) (q : PySem.W.excIn X.K C bmB newId = true) (gC : X.mg x = some (.ref C)) (kC : PySem.W.keepIn X.K (.ref C) = true) (r : Raises X (.ref C)) (hg : Gl X x)
    (hdb : (x == ("__debug__" : Str)) = false := by decide) : PMk X (.Call (.Name x p) [] [] pos) (fun _ H Q => Q (.ref C) none H) := by
  intro pins s σ H Q I h
  refine wpAny_Call_Name_kw (ld_glob I hg gC ?_ hdb)
  refine PySem.W.callWith_K0 I.kIn kC ?_
  show wpAny _ _ (call (.ref C) []) _ _ _
  obtain ⟨bm, N, nm, qn, bs, hdct, sn, sub, ab, col, dd, k0, k1, k2, k3, k5, mN, hC, hN, hni, T⟩ := exc_obj I.kIn q
  refine wpAny_call_exc_subT F T hC hN hni (fun h' e hm => ?_) (Nat.zero_le _)
  exact mk_of I hm r h (I.hok.gone hm.new)
/-- a made exception is tracked -/
theorem pe_mk {e : Expr} {t : L2.St → Hp → XK → Prop} (hx : X.ex = []) (he : PMk X e t) : PE X e (fun σ H Q => t σ H fun cls d H' => ∀ a, H' a = none → Q (.ref a) (upd H' a (xcv a cls d))) := by
  refine ⟨fun pins s σ H Q I h => wpAny_mono (he pins s σ H _ I h) (fun u s1 hu => ?_) fun _ _ z => z⟩
  obtain ⟨a, oe, vs, sI, H', cls, d, rfl, J, k, hne, ha, hz, hd, h1, na, os, ag, r, q⟩ := hu
  have J1 := J.kept (h' := s1.heap) (t' := s1.toks) k
  have J2 : Inv X pins σ H' s1 := ⟨J1.ok, os.trans J1.os, ag, J1.base, J1.loc, J1.cell, J1.free, J1.freeC, J1.pin, J1.hok, J1.len⟩
  have J3 := inv_track hx J J2 hne na (xcv_ok ha hz hd)
  exact ⟨.ref a, _, J3, rfl, q a na⟩
def mMk (x : Str) (fns : List Str) (ma : MA) : ME := fun env Q => ma env fun rs e1 => match dats rs with
  | some ds => ds.length = fns.length ∧ ds.length ≤ 1000 ∧ Q (.val (exD ⟨x, (fns.zip ds).reverse⟩)) e1
  | none => False
def mMk0 (x : Str) : ME := fun env Q => Q (.val (exD ⟨x, []⟩)) env
theorem de_mk0 {Z : ZX} {x : Str} {p pos : Pos} (N : Exn0 X.K X.mg x) (hx : X.ex = []) (hg : Gl X x) (hdb : (x == ("__debug__" : Str)) = false := by decide) :
    DE Z X (.Call (.Name x p) [] [] pos) (mMk0 x) := by
  obtain ⟨C, bmB, Bn, newId, initId, gC, nC, F, q, kC, sC, tC⟩ := N.ex
  refine (pe_mk hx (pmk_own0 F q gC kC (raises_own sC tC) hg hdb)).wk fun σ H Q ⟨B, env, S, Q0, R, h, k⟩ => ?_
  intro a na
  exact k _ env h _ _ _ (stq_allocS R.w na) (R.allocS na) (Dq.exc nC upd_same (.inl ⟨rfl, rfl⟩) .nil)
theorem de_mk {Z : ZX} {x : Str} {fns : List Str} {e : Expr} {es : List Expr} {p pos : Pos} {ma : MA} {k : Nat} (N : Exn X.prog X.w X.K X.mg X.base x fns) (hx : X.ex = []) (hr : RmG k X.A) (hk : 2 ≤ k) (hg : Gl X x) (ha : DA Z X (e :: es) ma)
    (hdb : (x == ("__debug__" : Str)) = false := by decide) (he : starEach (e :: es) X.env = (false, eval e X.env) :: starEach es X.env := by rfl) (hpl : (backTo pos (starEach es X.env)).any (·.1) = false := by rfl) :
    DE Z X (.Call (.Name x p) (e :: es) [] pos) (mMk x fns ma) := by
  obtain ⟨C, fI, fd, ps, gC, nC, T, iC, tI, F1, b⟩ := N.ex
  refine (pe_mk hx (pmk_oex (dvs := []) T iC tI F1 (hr.rm.mono hk) b .nil pass0 hg gC ha hdb he hpl)).wk fun σ H Q ⟨B, env, S, Q0, R, h, k⟩ => ?_
  refine ⟨B, env, S, _, R, h, fun rs e1 q vs S1 H1 st R1 al => ?_⟩
  cases z : dats rs with
  | none => rw [z] at q; exact q.elim
  | some ds =>
    rw [z] at q
    obtain ⟨ql, q1, q⟩ := q
    have da := al.dats z
    refine ⟨by rw [da.length]; exact q1, fun a hna => ?_⟩
    rw [List.append_nil]
    refine ⟨a, vs, rfl, by rw [da.length, ql], upd_same, fun d hd ne => ?_⟩
    have hd1 : H1 d = none := by rw [upd_ne ne] at hd; exact hd
    refine ⟨rfl, d, (fns.zip vs).reverse, upd_same, by rw [upd_ne ne, upd_same], hd1, ?_⟩
    have eh : upd (L2.del (upd (upd (upd H1 a (exo a C none)) d (exd d (fns.zip vs).reverse)) a (exo a C (some d))) a) d (.xd (fns.zip vs).reverse) = upd H1 d (.xd (fns.zip vs).reverse) := by
      funext b
      by_cases h2 : b = d
      · subst h2; rw [upd_same, upd_same]
      · rw [upd_ne h2, upd_ne h2]
        by_cases h1 : b = a
        · subst h1; rw [del_same, hna]
        · rw [del_ne h1, upd_ne h1, upd_ne h2, upd_ne h1]
    rw [eh]
    intro a' na'
    have R2 := R1.allocS (o := .xd (fns.zip vs).reverse) hd1
    have st2 := st.trans (stq_allocS (o := .xd (fns.zip vs).reverse) R1.w hd1)
    have up2 : Up S1 (upd S1 d (.xd (fns.zip vs).reverse)) := upd_sub (R1.w.snone hd1)
    have ne' : d ≠ a' := fun z => by rw [← z, upd_same] at na'; cases na'
    refine k _ e1 q _ _ _ (st2.trans (stq_allocS R2.w na')) (R2.allocS na') ?_
    have up3 := upd_sub (o := xcv a' (.ref C) (some d)) (R2.w.snone na')
    refine Dq.exc (kvs := (fns.zip vs).reverse.map kp) nC upd_same (.inr ⟨d, rfl, by rw [upd_ne ne', upd_same, flds_kp]⟩) ?_
    exact DqK.up up3 _ _ (DqK.up up2 _ _ (dqk_zipR da (by rw [da.length, ql])))
end
end Pq
set_option Elab.async false
set_option linter.all false
set_option maxRecDepth 100000
set_option maxHeartbeats 4000000
namespace K10
open PySem PySem.Spec PyProof.Rows L2 Pq Lb
def top (i : Nat) : Stmt := PySem.Challenge.pw_pairedthrows_k10_refusals.main.body.getD i (.Pass ⟨0, 0, 0, 0⟩)
abbrev s_law_deal : Stmt := top 10
abbrev N_law_deal : List Str := ["_law_script", "_law_base", "_law_cell", "_law_cells", "_law_number"]
theorem sc_law_deal : FnScope N_law_deal ["_law_script", "_law_base"] (defScope s_law_deal) := ⟨rfl, rfl, rfl, by decide +kernel, rfl, by decide +kernel, by decide +kernel⟩
abbrev s_law_draw : Stmt := top 11
abbrev N_law_draw : List Str := ["_law_deal_here", "_law_many", "_law_number", "_law_one", "_law_other"]
theorem sc_law_draw : FnScope N_law_draw ["_law_deal_here", "_law_many"] (defScope s_law_draw) := ⟨rfl, rfl, rfl, by decide +kernel, rfl, by decide +kernel, by decide +kernel⟩
abbrev s_law_made : Stmt := top 12
abbrev N_law_made : List Str := ["_law_n", "_law_word"]
theorem sc_law_made : FnScope N_law_made ["_law_n", "_law_word"] (defScope s_law_made) := ⟨rfl, rfl, rfl, by decide +kernel, rfl, by decide +kernel, by decide +kernel⟩
def M_law_made : MS := (msRet (mLst (maCons (mMk "NoText" ["row"] (maCons (mVar 0) maNil)) (maCons (mMk "NoProgram" ["word", "row"] (maCons (mVar 1) (maCons (mVar 0) maNil))) (maCons (mMk "TooMany" ["most"] (maCons (mVar 0) maNil)) (maCons (mMk0 "NoRows") (maCons (mMk "NoPaper" ["at"] (maCons (mVar 0) maNil)) (maCons (mMk0 "NoFit") (maCons (mMk0 "NoRow") maNil)))))))))
abbrev F_law_made : FS := fnD 2 2 M_law_made
abbrev s_law_fields : Stmt := top 13
abbrev N_law_fields : List Str := ["_law_made_here"]
theorem sc_law_fields : FnScope N_law_fields ["_law_made_here"] (defScope s_law_fields) := ⟨rfl, rfl, rfl, by decide +kernel, rfl, by decide +kernel, by decide +kernel⟩
def M_law_fields : MS := (msRet (mLst (maCons (toE (mXf ["NoText", "NoProgram"] "row" (toD (mBin fIx (mPk 0) (mC (.int 0)))))) (maCons (toE (mXf ["NoProgram"] "word" (toD (mBin fIx (mPk 0) (mC (.int 1)))))) (maCons (toE (mXf ["NoText", "NoProgram"] "row" (toD (mBin fIx (mPk 0) (mC (.int 1)))))) (maCons (toE (mXf ["TooMany"] "most" (toD (mBin fIx (mPk 0) (mC (.int 2)))))) (maCons (toE (mXf ["NoPaper"] "at" (toD (mBin fIx (mPk 0) (mC (.int 4)))))) maNil)))))))
abbrev F_law_fields : FS := fnD 1 1 M_law_fields
abbrev s_law_sorts : Stmt := top 14
abbrev N_law_sorts : List Str := ["_law_e", "_law_some"]
theorem sc_law_sorts : FnScope N_law_sorts ["_law_e"] (defScope s_law_sorts) := ⟨rfl, rfl, rfl, by decide +kernel, rfl, by decide +kernel, by decide +kernel⟩
def M_law_sorts : MS := (msSeq (msSet 1 (mLst (maCons (toE (mIsX [("NoText", true), ("NoProgram", false), ("TooMany", false), ("NoRows", false), ("NoPaper", false), ("NoFit", false), ("NoRow", false)] (mPk 0))) (maCons (toE (mIsX [("NoText", false), ("NoProgram", true), ("TooMany", false), ("NoRows", false), ("NoPaper", false), ("NoFit", false), ("NoRow", false)] (mPk 0))) (maCons (toE (mIsX [("NoText", false), ("NoProgram", false), ("TooMany", true), ("NoRows", false), ("NoPaper", false), ("NoFit", false), ("NoRow", false)] (mPk 0))) (maCons (toE (mIsX [("NoText", false), ("NoProgram", false), ("TooMany", false), ("NoRows", true), ("NoPaper", false), ("NoFit", false), ("NoRow", false)] (mPk 0))) maNil))))))
    (msRet (mBin fAdd (mPk 1) (toD (mLst (maCons (toE (mIsX [("NoText", false), ("NoProgram", false), ("TooMany", false), ("NoRows", false), ("NoPaper", true), ("NoFit", false), ("NoRow", false)] (mPk 0))) (maCons (toE (mIsX [("NoText", false), ("NoProgram", false), ("TooMany", false), ("NoRows", false), ("NoPaper", false), ("NoFit", true), ("NoRow", false)] (mPk 0))) (maCons (toE (mIsX [("NoText", false), ("NoProgram", false), ("TooMany", false), ("NoRows", false), ("NoPaper", false), ("NoFit", false), ("NoRow", true)] (mPk 0))) maNil))))))))
abbrev F_law_sorts : FS := fnD 2 1 M_law_sorts
abbrev s_law : Stmt := top 15
abbrev N_law : List Str := ["_law_script", "_law_deal_here", "_law_n", "_law_word", "_law_made_here", "_law_others", "_law_k", "_law_due", "_law_e", "_law_j"]
theorem sc_law : FnScope N_law ["_law_script"] (defScope s_law) := ⟨rfl, rfl, rfl, by decide +kernel, rfl, by decide +kernel, by decide +kernel⟩
def M_law : MS := (msSeq (msSet 2 (mBin fSub (toD (mCall 2 F_law_draw (maCons (mVar 1) (maCons (mBin fIx (toD (mLst (maCons (toE (mC (.int 10))) (maCons (mBin fPow (mC (.int 10)) (mC (.int 9))) maNil)))) (toD (mCall 2 F_law_draw (maCons (mVar 1) (maCons (toE (mC (.int 2))) maNil))))) maNil)))) (mC (.int 1))))
    (msSeq (msSet 3 (mBin fIx (toD (mLst (maCons (toE (mC (.str "kinds"))) (maCons (toE (mC (.str "twice"))) (maCons (toE (mC (.str "range"))) (maCons (toE (mC (.str "unknown"))) (maCons (toE (mC (.str "tells"))) maNil))))))) (toD (mCall 2 F_law_draw (maCons (mVar 1) (maCons (toE (mC (.int 5))) maNil))))))
    (msSeq (msSet 4 (mCall 2 F_law_made (maCons (mVar 2) (maCons (mVar 3) maNil))))
    (msSeq (msSet 5 (mCall 2 F_law_made (maCons (mBin fAdd (mPk 2) (mC (.int 1))) (maCons (toE (mC (.str "silent"))) maNil))))
    (msSeq (msFor (mRg1 (mlCons (mC (.int 7)) mlNil)) (mgName 6) (msSeq (msSet 7 (mLc [9] (mRg1 (mlCons (mC (.int 7)) mlNil)) (mgName 9) mYes (mBin fEq (mPk 9) (mPk 6))))
    (msFor (mItems (mTup (maCons (mBin fIx (mPk 4) (mPk 6)) (maCons (mBin fIx (mPk 5) (mPk 6)) maNil)))) (mgName 8) (msIf (mOr (mNot (mTest (mIsX [("NoText", true), ("NoProgram", true), ("TooMany", true), ("NoRows", true), ("NoPaper", true), ("NoFit", true), ("NoRow", true)] (mPk 8)))) (mOr (mNot (mTest (mIsX [("NoText", true), ("NoProgram", true), ("TooMany", true), ("NoRows", true), ("NoPaper", true), ("NoFit", true), ("NoRow", true)] (mPk 8)))) (mTest (toD (mBin fNe (toD (mCall 1 F_law_sorts (maCons (mVar 8) maNil))) (mPk 7)))))) (msRet (toE (mC (.bool false)))) msNext))))
    (msSeq (msIf (mTest (toD (mBin fNe (toD (mCall 1 F_law_fields (maCons (mVar 5) maNil))) (toD (mLst (maCons (mBin fAdd (mPk 2) (mC (.int 1))) (maCons (toE (mC (.str "silent"))) (maCons (mBin fAdd (mPk 2) (mC (.int 1))) (maCons (mBin fAdd (mPk 2) (mC (.int 1))) (maCons (mBin fAdd (mPk 2) (mC (.int 1))) maNil)))))))))) (msRet (toE (mC (.bool false)))) msNext)
    (msRet (mBin fEq (toD (mCall 1 F_law_fields (maCons (mVar 4) maNil))) (toD (mLst (maCons (mVar 2) (maCons (mVar 3) (maCons (mVar 2) (maCons (mVar 2) (maCons (mVar 2) maNil)))))))))))))))
structure Tx (K : PySem.W.Frag) (mg : Str → Option Value) : Prop where
  b_ValueError : mg "ValueError" = none
  b_isinstance : mg "isinstance" = none
  b_len : mg "len" = none
  b_list : mg "list" = none
  b_max : mg "max" = none
  b_range : mg "range" = none
  b_reversed : mg "reversed" = none
  ix_NoRows : IsX K mg "NoRows" [("NoText", false), ("NoProgram", false), ("TooMany", false), ("NoRows", true), ("NoPaper", false), ("NoFit", false), ("NoRow", false)]
  ix_TooMany : IsX K mg "TooMany" [("NoText", false), ("NoProgram", false), ("TooMany", true), ("NoRows", false), ("NoPaper", false), ("NoFit", false), ("NoRow", false)]
  ix_NoProgram : IsX K mg "NoProgram" [("NoText", false), ("NoProgram", true), ("TooMany", false), ("NoRows", false), ("NoPaper", false), ("NoFit", false), ("NoRow", false)]
  ix_NoText : IsX K mg "NoText" [("NoText", true), ("NoProgram", false), ("TooMany", false), ("NoRows", false), ("NoPaper", false), ("NoFit", false), ("NoRow", false)]
  ix_NoRow : IsX K mg "NoRow" [("NoText", false), ("NoProgram", false), ("TooMany", false), ("NoRows", false), ("NoPaper", false), ("NoFit", false), ("NoRow", true)]
  ix_NoFit : IsX K mg "NoFit" [("NoText", false), ("NoProgram", false), ("TooMany", false), ("NoRows", false), ("NoPaper", false), ("NoFit", true), ("NoRow", false)]
  ix_NoPaper : IsX K mg "NoPaper" [("NoText", false), ("NoProgram", false), ("TooMany", false), ("NoRows", false), ("NoPaper", true), ("NoFit", false), ("NoRow", false)]
  ix_ThrowError : IsX K mg "ThrowError" [("NoText", true), ("NoProgram", true), ("TooMany", true), ("NoRows", true), ("NoPaper", true), ("NoFit", true), ("NoRow", true)]
  ib_ValueError : IsXB K "ValueError" [("NoText", true), ("NoProgram", true), ("TooMany", true), ("NoRows", true), ("NoPaper", true), ("NoFit", true), ("NoRow", true)]
  xf_at : ∀ x ∈ (["NoPaper"] : List Str), XcF K x ["at"]
  xf_most : ∀ x ∈ (["TooMany"] : List Str), XcF K x ["most"]
  xf_row : ∀ x ∈ (["NoText", "NoProgram"] : List Str), XcF K x ["row"]
  xf_word : ∀ x ∈ (["NoProgram"] : List Str), XcF K x ["word"]
section
variable {P : Program} {w : World} {K : PySem.W.Frag} {mg : Str → Option Value} {base : Heap}
theorem ok_law_made (T : Tx K mg) (N_NoRow : Exn0 K mg "NoRow") (N_NoFit : Exn0 K mg "NoFit") (N_NoPaper : Exn P w K mg base "NoPaper" ["at"]) (N_NoRows : Exn0 K mg "NoRows") (N_TooMany : Exn P w K mg base "TooMany" ["most"]) (N_NoProgram : Exn P w K mg base "NoProgram" ["word", "row"]) (N_NoText : Exn P w K mg base "NoText" ["row"]) {f : Addr} {fd : FuncData} (Fu : Fun K "_law_made" "_law_made" s_law_made f fd) (mf : mg "_law_made" = some (.ref f)) (bf : Binds K fd ["_law_n", "_law_word"] []) : Cal P w K mg base "_law_made" 3 2 F_law_made :=
  ⟨f, fd, _, fn_d Fu sc_law_made fun cdv A outer s H E hr =>
  (dss_one (dst_ret (de_lst (da_cons (de_mk N_NoText rfl hr (by decide) (by rfl) (da_cons (de_var 0) da_nil)) (da_cons (de_mk N_NoProgram rfl hr (by decide) (by rfl) (da_cons (de_var 1) (da_cons (de_var 0) da_nil))) (da_cons (de_mk N_TooMany rfl hr (by decide) (by rfl) (da_cons (de_var 0) da_nil)) (da_cons (de_mk0 N_NoRows rfl (by rfl)) (da_cons (de_mk N_NoPaper rfl hr (by decide) (by rfl) (da_cons (de_var 0) da_nil)) (da_cons (de_mk0 N_NoFit rfl (by rfl)) (da_cons (de_mk0 N_NoRow rfl (by rfl)) da_nil)))))))))), bf, mf, Fu.kp⟩
theorem ok_law_fields (T : Tx K mg)  {f : Addr} {fd : FuncData} (Fu : Fun K "_law_fields" "_law_fields" s_law_fields f fd) (mf : mg "_law_fields" = some (.ref f)) (bf : Binds K fd ["_law_made_here"] []) : Cal P w K mg base "_law_fields" 1 1 F_law_fields :=
  ⟨f, fd, _, fn_d Fu sc_law_fields fun cdv A outer s H E hr =>
  (dss_one (dst_ret (de_lst (da_cons (de_s (dp_xf (fns := ["row"]) T.xf_row (by decide) (dp_e (de_ix hr.u1 (dp_var 0) (dp_s ds_int))))) (da_cons (de_s (dp_xf (fns := ["word"]) T.xf_word (by decide) (dp_e (de_ix hr.u1 (dp_var 0) (dp_s ds_int))))) (da_cons (de_s (dp_xf (fns := ["row"]) T.xf_row (by decide) (dp_e (de_ix hr.u1 (dp_var 0) (dp_s ds_int))))) (da_cons (de_s (dp_xf (fns := ["most"]) T.xf_most (by decide) (dp_e (de_ix hr.u1 (dp_var 0) (dp_s ds_int))))) (da_cons (de_s (dp_xf (fns := ["at"]) T.xf_at (by decide) (dp_e (de_ix hr.u1 (dp_var 0) (dp_s ds_int))))) da_nil)))))))), bf, mf, Fu.kp⟩
theorem ok_law_sorts (T : Tx K mg)  {f : Addr} {fd : FuncData} (Fu : Fun K "_law_sorts" "_law_sorts" s_law_sorts f fd) (mf : mg "_law_sorts" = some (.ref f)) (bf : Binds K fd ["_law_e"] []) : Cal P w K mg base "_law_sorts" 1 1 F_law_sorts :=
  ⟨f, fd, _, fn_d Fu sc_law_sorts fun cdv A outer s H E hr =>
  (dss_cons (dst_set sc_law_sorts.nd (de_lst (da_cons (de_s (ds_isx (by rfl) T.b_isinstance (by rfl) T.ix_NoText (dp_var 0))) (da_cons (de_s (ds_isx (by rfl) T.b_isinstance (by rfl) T.ix_NoProgram (dp_var 0))) (da_cons (de_s (ds_isx (by rfl) T.b_isinstance (by rfl) T.ix_TooMany (dp_var 0))) (da_cons (de_s (ds_isx (by rfl) T.b_isinstance (by rfl) T.ix_NoRows (dp_var 0))) da_nil))))))
    (dss_one (dst_ret (de_bin od_add (dp_var 1) (dp_e (de_lst (da_cons (de_s (ds_isx (by rfl) T.b_isinstance (by rfl) T.ix_NoPaper (dp_var 0))) (da_cons (de_s (ds_isx (by rfl) T.b_isinstance (by rfl) T.ix_NoFit (dp_var 0))) (da_cons (de_s (ds_isx (by rfl) T.b_isinstance (by rfl) T.ix_NoRow (dp_var 0))) da_nil))))))))), bf, mf, Fu.kp⟩
theorem body_law (T : Tx K mg) (C_law_draw : Cal P w K mg base "_law_draw" 2 2 F_law_draw) (C_law_made : Cal P w K mg base "_law_made" 3 2 F_law_made) (C_law_sorts : Cal P w K mg base "_law_sorts" 1 1 F_law_sorts) (C_law_fields : Cal P w K mg base "_law_fields" 1 1 F_law_fields) {f : Addr} (cdv : Value) (A : Around) (outer : List Env) (s : Shared) (H : Hp) (E : XK) (hr : RmG 3 (A.deeper (envOfC "law" (defScope s_law) s.heap.objs.size f cdv))) : DSs (z0 K) (cxOf CX0 P w K mg base N_law "law" (defScope s_law) f cdv A outer s H E).nox (defBody s_law).tail M_law :=
  (dss_cons (dst_set sc_law.nd (de_bin od_sub (dp_e (de_callC C_law_draw hr (by decide) (by rfl) (da_cons (de_var 1) (da_cons (de_ix hr.u1 (dp_e (de_lst (da_cons (de_s ds_int) (da_cons (de_bin od_pow (dp_s ds_int) (dp_s ds_int)) da_nil)))) (dp_e (de_callC C_law_draw hr (by decide) (by rfl) (da_cons (de_var 1) (da_cons (de_s ds_int) da_nil))))) da_nil)))) (dp_s ds_int)))
    (dss_cons (dst_set sc_law.nd (de_ix hr.u1 (dp_e (de_lst (da_cons (de_s ds_str) (da_cons (de_s ds_str) (da_cons (de_s ds_str) (da_cons (de_s ds_str) (da_cons (de_s ds_str) da_nil))))))) (dp_e (de_callC C_law_draw hr (by decide) (by rfl) (da_cons (de_var 1) (da_cons (de_s ds_int) da_nil))))))
    (dss_cons (dst_set sc_law.nd (de_callC C_law_made hr (by decide) (by rfl) (da_cons (de_var 2) (da_cons (de_var 3) da_nil))))
    (dss_cons (dst_set sc_law.nd (de_callC C_law_made hr (by decide) (by rfl) (da_cons (de_bin od_add (dp_var 2) (dp_s ds_int)) (da_cons (de_s ds_str) da_nil))))
    (dss_cons (dst_for PassesOwn.never rfl (di_rg1 (by rfl) T.b_range (dps_cons (dp_s ds_int) dps_nil)) (dg_name sc_law.nd) (dss_cons (dst_setLc (own := [("_law_j", 9)]) rfl sc_law.nd (di_rg1 (by rfl) T.b_range (dps_cons (dp_s ds_int) dps_nil)) (blkOk_by (N := N_law) (sc := defScope s_law) (by decide +kernel)) (fun _ _ _ _ _ => (dg_name sc_law.nd)) (fun _ _ _ _ _ => dts_nil) (fun _ _ _ _ _ => (de_cmp (od_eq (hu64 hr.rm)) (dp_var 9) (dp_var 6))) (sw_true rfl rfl rfl (by decide +kernel)))
    (dss_one (dst_for PassesOwn.never rfl (di_any (ds_tup (da_cons (de_ix hr.u1 (dp_var 4) (dp_var 6)) (da_cons (de_ix hr.u1 (dp_var 5) (dp_var 6)) da_nil)))) (dg_name sc_law.nd) (dss_one (dst_if (PW.pt (dw_or (dt_not (dt_val (ds_isx (by rfl) T.b_isinstance (by rfl) T.ix_ThrowError (dp_var 8)))) (dw_or (dt_not (dt_val (ds_isxB (by rfl) T.b_isinstance (by rfl) T.b_ValueError (by decide +kernel) T.ib_ValueError (dp_var 8)))) (dw_or1 (dt_cmp (od_ne (hu64 hr.rm)) (dp_e (de_callC C_law_sorts hr (by decide) (by rfl) (da_cons (de_var 8) da_nil))) (dp_var 7)))))) (dss_one (dst_ret (de_s ds_bl))) dss_nil))))))
    (dss_cons (dst_if (dt_cmp (od_ne (hu64 hr.rm)) (dp_e (de_callC C_law_fields hr (by decide) (by rfl) (da_cons (de_var 5) da_nil))) (dp_e (de_lst (da_cons (de_bin od_add (dp_var 2) (dp_s ds_int)) (da_cons (de_s ds_str) (da_cons (de_bin od_add (dp_var 2) (dp_s ds_int)) (da_cons (de_bin od_add (dp_var 2) (dp_s ds_int)) (da_cons (de_bin od_add (dp_var 2) (dp_s ds_int)) da_nil)))))))) (dss_one (dst_ret (de_s ds_bl))) dss_nil)
    (dss_one (dst_ret (de_cmp (od_eq (hu64 hr.rm)) (dp_e (de_callC C_law_fields hr (by decide) (by rfl) (da_cons (de_var 4) da_nil))) (dp_e (de_lst (da_cons (de_var 2) (da_cons (de_var 3) (da_cons (de_var 2) (da_cons (de_var 2) (da_cons (de_var 2) da_nil))))))))))))))))
end
end K10
set_option Elab.async false
set_option linter.all false
set_option maxRecDepth 100000
set_option maxHeartbeats 4000000
namespace K10
open PySem PySem.Spec PyProof.Rows L2 Pq Lb
section
variable {P : Program} {w : World} {K : PySem.W.Frag} {mg : Str → Option Value} {base : Heap}
theorem ok_law_draw (T : Tx K mg) {f : Addr} {fd : FuncData} (Fu : Fun K "_law_draw" "_law_draw" s_law_draw f fd) (mf : mg "_law_draw" = some (.ref f)) (bf : Binds K fd ["_law_deal_here", "_law_many"] []) : Cal P w K mg base "_law_draw" 2 2 fDraw := by
  refine ⟨f, fd, _, fn_g (Fu.ok sc_law_draw (fun vs H Q E h => ?_) (fun cdv A outer s H vs Q E hr h => ?_)), bf, mf, Fu.kp⟩
  · rw [spD_len h]
    rfl
  · obtain ⟨p, l, many, rfl, dl, m0, m1, fin⟩ := draw_spec h
    have hu := hu_of hr
    obtain ⟨seed, num, left, D⟩ := Dl.start dl
    refine ⟨_, pss_cons (ps_while PassesOwn.never
        (PW.pt (pw_and (pt_cmpR op_eq (pe_dget hu (pv 0) pe_str (fun _ _ => rfl)) pe_int (nomark _)) (pw_and1 (pt_cmpR op_gt (pe_callB call_len_seq (by rfl) T.b_len PySem.boot_len (pa_cons (pe_dget hu (pv 0) pe_str (fun _ _ => rfl)) pa_nil)) pe_int (nomark _)))))
        (pss_one (ps_dput hu (pv 0) pe_str (pe_bm0 PySem.F.plainAttrs_list PySem.F.slot_list_pop PySem.F.type_list_pop mt_pop (pe_dget hu (pv 0) pe_str (fun _ _ => rfl))) rfl)))
      (pss_cons (ps_set (i := 2) sc_law_draw.nd rfl (Or.inl rfl) (pe_dget hu (pv 0) pe_str (fun _ _ => rfl)))
      (pss_cons (ps_if (pt_cmpR op_gt (pv 2) pe_int (nomark _))
        (pss_cons (ps_dput hu (pv 0) pe_str (pe_op op_fdivW (pv 2) (pv 1)) rfl) (pss_one (ps_ret (pe_op op_mod (pv 2) (pv 1))))) pss_nil)
      (pss_cons (ps_set (i := 3) sc_law_draw.nd rfl (Or.inl rfl) (pe_op op_mod (pe_op op_add (pe_op op_mul (pe_dget hu (pv 0) pe_str (fun _ _ => rfl)) pe_int) pe_int) pe_int))
      (pss_cons (ps_dput hu (pv 0) pe_str (pe_op op_mod (pe_op op_add (pe_op op_mul (pv 3) pe_int) pe_int) pe_int) rfl)
      (pss_cons (ps_set (i := 4) sc_law_draw.nd rfl (Or.inl rfl) (pe_op op_mod (pe_op op_mul (pe_dget hu (pv 0) pe_str (fun _ _ => rfl)) (pe_dget hu (pv 0) pe_str (fun _ _ => rfl))) pe_int))
      (pss_one (ps_ret (pe_op op_mod (pe_op op_add (pe_op op_mul (pe_op op_mod (pe_op op_mul (pv 3) (pv 3)) pe_int) pe_int) (pv 4)) (pv 1))))))))), ?_⟩
    -- while number == 0 and len(left) > 0
    refine ⟨fun m σ H' => σ = [some (.ref p), some (.int many), none, none, none] ∧ ∃ num left, Dl H p l seed num left H' ∧ left.length = m, ⟨left.length, rfl, num, left, D, rfl⟩, ?_⟩
    rintro m σ H1 ⟨rfl, num, left, D, rfl⟩
    refine ⟨.ref p, rfl, p, .int num, rfl, D.gnum, rfl, _, rfl, ite2 (fun e => ?_) (fun e => ?_)⟩
    · refine ⟨.ref p, rfl, p, .ref l, rfl, D.gleft, l, _, rfl, .inl (.inl (.inl D.hl)), _, _, rfl, rfl, _, rfl, ite2 (fun e2 => ?_) (fun e2 => ?_)⟩
      · -- number = left.pop()
        have hne : left ≠ [] := fun z => by
          subst z
          exact absurd (of_decide_eq_true e2) (by decide)
        have hx : (left.map V.int)[(left.map V.int).length - 1]? = some (.int (left.getLast hne)) := by
          rw [List.length_map, List.getElem?_map, ← List.getLast?_eq_getElem?, List.getLast?_eq_some_getLast hne]
          rfl
        have hlen : left.dropLast.length < left.length := by
          rw [List.length_dropLast]
          have : 0 < left.length := List.length_pos_iff.mpr hne
          omega
        have D2 := D.left (left' := left.dropLast) (by have := D.few; omega) fun x hx => D.pos x ((List.dropLast_sublist left).subset hx)
        have D3 := D2.num (x := left.getLast hne) (D.pos _ (List.getLast_mem hne))
        refine ⟨fun σ' H' => σ' = [some (.ref p), some (.int many), none, none, none] ∧ ∃ num left', Dl H p l seed num left' H' ∧ left'.length < left.length, fun σ' H' ⟨h1, num', left', h2, h3⟩ => ⟨left'.length, h3, h1, num', left', h2, rfl⟩, ?_⟩
        refine ⟨.ref p, rfl, p, .ref l, rfl, D.gleft, .inl ⟨rfl, _, .inl (.inl D.hl)⟩, l, _, _, rfl, rfl, D.hl, hx, .ref p, rfl, p, _, rfl, ?_, rfl, _, _, D3, hlen⟩
        rw [← List.map_dropLast]
        exact D2.pnum
      · refine ⟨.ref p, rfl, p, .int num, rfl, D.gnum, _, rfl, _, _, rfl, rfl, _, rfl, ite2 (fun e => ?_) (fun e => ?_)⟩
        · exact ⟨_, rfl, _, rfl, _, _, rfl, rfl, wide_div (b := 64) m0 (by omega) (by decide) (by decide), _, rfl, p, _, rfl, D.pnum, _, rfl, _, rfl, _, _, rfl, rfl, m0, fin _ _ seed _ left (Int.emod_nonneg _ (by omega)) (Int.emod_lt_of_pos _ m0) (D.num (Int.ediv_nonneg D.n0 (by omega)))⟩
        · have D' := D.seed (x := ((seed * 48271 + 7919) % 2147483647 * 40692 + 104729) % 2147483399) (Int.emod_nonneg _ (by decide)) (by have := Int.emod_lt_of_pos ((seed * 48271 + 7919) % 2147483647 * 40692 + 104729) (show (0 : Int) < 2147483399 by decide); omega)
          have b1 := Int.emod_nonneg (seed * 48271 + 7919) (show (2147483647 : Int) ≠ 0 by decide)
          have b2 := Int.emod_lt_of_pos (seed * 48271 + 7919) (show (0 : Int) < 2147483647 by decide)
          have c1 := D'.s0
          have c2 := D'.s1
          exact ⟨_, rfl, p, _, rfl, D.gseed, _, _, rfl, rfl, .inr ⟨by decide, by decide⟩, _, _, rfl, rfl, _, _, rfl, rfl, (pz _ (by decide)),
            _, rfl, _, _, rfl, rfl, .inr ⟨by decide, by decide⟩, _, _, rfl, rfl, _, _, rfl, rfl, (pz _ (by decide)), _, rfl, p, _, rfl, D.pseed,
            _, rfl, p, _, rfl, D'.gseed, _, rfl, p, _, rfl, D'.gseed, _, _, rfl, rfl, .inl ⟨by omega, by omega⟩, _, _, rfl, rfl, (pz _ (by decide)),
            _, rfl, _, rfl, _, _, rfl, rfl, .inl ⟨by omega, by omega⟩, _, _, rfl, rfl, (pz _ (by decide)), _, _, rfl, rfl, .inr ⟨by decide, by decide⟩, _, rfl, _, _, rfl, rfl, _, rfl, _, _, rfl, rfl, m0, fin _ _ _ _ left (Int.emod_nonneg _ (by omega)) (Int.emod_lt_of_pos _ m0) D'⟩
    · refine iteF ?_
      refine ⟨.ref p, rfl, p, .int num, rfl, D.gnum, _, rfl, _, _, rfl, rfl, _, rfl, ite2 (fun e => ?_) (fun e => ?_)⟩
      · exact ⟨_, rfl, _, rfl, _, _, rfl, rfl, wide_div (b := 64) m0 (by omega) (by decide) (by decide), _, rfl, p, _, rfl, D.pnum, _, rfl, _, rfl, _, _, rfl, rfl, m0, fin _ _ seed _ left (Int.emod_nonneg _ (by omega)) (Int.emod_lt_of_pos _ m0) (D.num (Int.ediv_nonneg D.n0 (by omega)))⟩
      · have D' := D.seed (x := ((seed * 48271 + 7919) % 2147483647 * 40692 + 104729) % 2147483399) (Int.emod_nonneg _ (by decide)) (by have := Int.emod_lt_of_pos ((seed * 48271 + 7919) % 2147483647 * 40692 + 104729) (show (0 : Int) < 2147483399 by decide); omega)
        have b1 := Int.emod_nonneg (seed * 48271 + 7919) (show (2147483647 : Int) ≠ 0 by decide)
        have b2 := Int.emod_lt_of_pos (seed * 48271 + 7919) (show (0 : Int) < 2147483647 by decide)
        have c1 := D'.s0
        have c2 := D'.s1
        exact ⟨_, rfl, p, _, rfl, D.gseed, _, _, rfl, rfl, .inr ⟨by decide, by decide⟩, _, _, rfl, rfl, _, _, rfl, rfl, (pz _ (by decide)),
          _, rfl, _, _, rfl, rfl, .inr ⟨by decide, by decide⟩, _, _, rfl, rfl, _, _, rfl, rfl, (pz _ (by decide)), _, rfl, p, _, rfl, D.pseed,
          _, rfl, p, _, rfl, D'.gseed, _, rfl, p, _, rfl, D'.gseed, _, _, rfl, rfl, .inl ⟨by omega, by omega⟩, _, _, rfl, rfl, (pz _ (by decide)),
          _, rfl, _, rfl, _, _, rfl, rfl, .inl ⟨by omega, by omega⟩, _, _, rfl, rfl, (pz _ (by decide)), _, _, rfl, rfl, .inr ⟨by decide, by decide⟩, _, rfl, _, _, rfl, rfl, _, rfl, _, _, rfl, rfl, m0, fin _ _ _ _ left (Int.emod_nonneg _ (by omega)) (Int.emod_lt_of_pos _ m0) D'⟩
end
section
variable {P : Program} {w : World} {K : PySem.W.Frag} {mg : Str → Option Value} {base : Heap}
theorem ok_law_deal (T : Tx K mg) {f : Addr} {fd : FuncData} (Fu : Fun K "_law_deal" "_law_deal" s_law_deal f fd) : FnOk P w K mg base CX0 2 f fd ["_law_script", "_law_base"] (spDeal K) := by
  refine Fu.ok sc_law_deal (fun vs H Q E h => ?_) (fun cdv A outer s H vs Q E hr h => ?_)
  · obtain ⟨a, ns, b, rfl, _⟩ := h
    rfl
  · obtain ⟨a, ns, b, rfl, hS, hlen, b0, b1, fin⟩ := h
    have hu := hu_of hr
    refine ⟨_, pss_cons (ps_setLc (i := 3) (own := [("_law_cell", 2)]) rfl sc_law_deal.nd rfl rfl (sw_true rfl rfl rfl (by decide +kernel)) (pi_list (pe_slice sl_list (pv 0) (po_some (pv 1)) (po_some pe_int)))
        (blkOk_by (N := N_law_deal) (sc := defScope s_law_deal) (by decide +kernel)) (fun _ _ _ _ _ => pg_name (i := 2) sc_law_deal.nd rfl (Or.inl rfl)) (fun _ _ _ _ _ => pts_nil)
        (fun _ _ _ _ _ => pe_callB (call_max2 rfl) (by rfl) T.b_max (by decide +kernel) (pa_cons (pv 2) (pa_cons (pe_op op_sub pe_int (pv 2)) pa_nil))))
      (pss_cons (ps_set (i := 4) sc_law_deal.nd rfl (Or.inl rfl) (pe_op op_add pe_int (pv 1)))
      (pss_cons (ps_for PassesOwn.never rfl (pi_list (pv 3)) (pg_name (i := 2) sc_law_deal.nd rfl (Or.inl rfl))
        (pss_one (ps_set (i := 4) sc_law_deal.nd rfl (Or.inl rfl) (pe_op op_mod (pe_op op_add (pe_op op_mul (pv 4) pe_int) (pe_op op_mod (pv 2) pe_int)) pe_int))))
      (pss_one (ps_ret (pe_disp (pps_cons pe_str (pv 4) (pps_cons pe_str pe_int (pps_cons pe_str (pe_lstRev rfl (by rfl) T.b_list (by rfl) T.b_reversed
        (pe_lc (own := [("_law_cell", 2)]) rfl sc_law_deal.nd (pi_list (pv 3)) (blkOk_by (N := N_law_deal) (sc := defScope s_law_deal) (by decide +kernel)) (fun _ _ _ _ _ => pg_name (i := 2) sc_law_deal.nd rfl (Or.inl rfl))
          (fun _ _ _ _ _ => pts_one (pt_cmpR op_ge (pv 2) (pe_op op_pow pe_int pe_int) (nomark _))) (fun _ _ _ _ _ => pv 2))) pps_nil))) (by rfl) (by rfl) (by simp) (by decide)))))), ?_⟩
    obtain ⟨ms, em, hm⟩ := cut_ints ns (some b) (some 63)
    -- _law_script[_law_base:63]
    refine ⟨.ref a, rfl, .int b, rfl, b, rfl, 63, rfl, a, _, rfl, hS, fun c nc => ?_⟩
    refine ⟨c, rfl, ⟨_, .inl (.inl upd_same)⟩, fun D hD => ?_⟩
    have s1 : Same H (upd H c (.lst (cutV (ns.map V.int) (some b) (some 63)))) := same_new nc
    rw [em] at *
    refine lc_list (xs := ms.map V.int) (fun i H' => ∃ acc : List Int, H' D = some (.lst (acc.map V.int)) ∧ acc.length = i ∧ (∀ x ∈ acc, 0 ≤ x) ∧ Same (upd H c (.lst (ms.map V.int))) H') ⟨[], upd_same, rfl, (fun _ z => by cases z), same_new hD⟩
      (fun i H' _ ⟨_, _, _, _, s2⟩ => .inl (.inl (s2 _ _ upd_same))) (fun i x H' hx ⟨acc, h1, h2, h3, s2⟩ => ?_) (fun H' ⟨acc, h1, h2, h3, s2⟩ => ?_)
    · obtain ⟨z, hz, rfl⟩ := map_at hx
      refine ⟨rfl, ?_⟩
      unfold tYes
      dsimp only
      rw [if_pos rfl]
      refine ⟨_, rfl, _, rfl, 0, z, rfl, rfl, z, 0 - z, rfl, _, h1, ?_, acc ++ [if 0 - z > z then 0 - z else z], ?_, ?_, ?_, ?_⟩
      · rw [List.length_map, h2]
        have := (List.getElem?_eq_some_iff.mp hz).1
        exact small1000 (by omega)
      · rw [upd_same, List.map_append]; rfl
      · rw [List.length_append, h2]; rfl
      · intro x hx
        rcases List.mem_append.mp hx with q | q
        · exact h3 x q
        · have : x = if 0 - z > z then 0 - z else z := by simpa using q
          rw [this]; split <;> omega
      · intro q o e
        have nq : q ≠ D := fun y => by subst y; rw [hD] at e; cases e
        rw [upd_ne nq]; exact s2 q o e
    · rw [List.length_map] at h2
      have s3 : Same H H' := s1.trans s2
      have hDn : H D = none := s1.free hD
      -- _law_number = ..
      refine ⟨_, rfl, _, _, rfl, rfl, ?_⟩
      -- for _law_cell in _law_cells
      refine ⟨.ref D, rfl, D, rfl, ⟨_, .inl (.inl h1)⟩, for_list (K := K) (a := D) (xs := acc.map V.int) (fun i σ H2 => ∃ z y, σ = [some (.ref a), some (.int b), y, some (.ref D), some (.int z)] ∧ H2 = H' ∧ 0 ≤ z ∧ z < 2 ^ 32)
        ⟨_, _, rfl, rfl, by omega, by omega⟩ (fun i σ H2 _ ⟨_, _, _, e, _⟩ => by subst e; exact .inl (.inl h1)) ?_ ?_⟩
      · rintro i x σ H2 hx ⟨z, y, rfl, rfl, z0, z1⟩
        obtain ⟨c1, _, rfl⟩ := map_at hx
        refine ⟨_, rfl, _, _, rfl, rfl, .inr ⟨by decide, by decide⟩, _, rfl, _, _, rfl, rfl, pz _ (by decide), _, _, rfl, rfl, _, _, rfl, rfl, pz _ (by decide), _, _, rfl, rfl, Int.emod_nonneg _ (by decide), ?_⟩
        have := Int.emod_lt_of_pos (z * 48271 + c1 % 2147483629) (show (0 : Int) < 2147483647 by decide)
        omega
      · rintro σ H2 ⟨z, y, rfl, rfl, z0, z1⟩
        -- the dict
        intro p hp
        have s4 : Same H2 (upd H2 p (.dK [])) := same_new hp
        refine ⟨_, rfl, .ref D, rfl, D, rfl, ⟨_, .inl (.inl (s4 _ _ h1))⟩, fun D2 hD2 => ?_⟩
        have pD2 : p ≠ D2 := fun y => by subst y; rw [upd_same] at hD2; cases hD2
        refine lc_list (xs := acc.map V.int) (fun i H3 => ∃ acc2 : List Int, H3 D2 = some (.lst (acc2.map V.int)) ∧ acc2.length ≤ i ∧ (∀ x ∈ acc2, 0 ≤ x) ∧ Same (upd H2 p (.dK [])) H3) ⟨[], upd_same, Nat.le_refl _, (fun _ z => by cases z), same_new hD2⟩
          (fun i H3 _ ⟨_, _, _, _, s5⟩ => .inl (.inl (s5 _ _ (s4 _ _ h1)))) (fun i x H3 hx ⟨acc2, g1, g2, g3, s5⟩ => ?_) (fun H3 ⟨acc2, g1, g2, g3, s5⟩ => ?_)
        · obtain ⟨c1, hc1, rfl⟩ := map_at hx
          have hc0 : 0 ≤ c1 := h3 c1 (List.mem_of_getElem? hc1)
          refine ⟨rfl, _, rfl, _, _, rfl, rfl, ⟨by decide, by decide, by decide⟩, _, _, rfl, rfl, _, rfl, ite2 (fun _ => ?_) (fun _ => ⟨acc2, g1, by omega, g3, s5⟩)⟩
          refine ⟨_, rfl, _, g1, ?_, acc2 ++ [c1], ?_, ?_, ?_, ?_⟩
          · rw [List.length_map]
            have := (List.getElem?_eq_some_iff.mp hc1).1
            exact small1000 (by omega)
          · rw [upd_same, List.map_append]; rfl
          · rw [List.length_append]; exact Nat.succ_le_succ g2
          · intro x hx
            rcases List.mem_append.mp hx with q | q
            · exact g3 x q
            · have : x = c1 := by simpa using q
              rw [this]; exact hc0
          · intro q o e
            have nq : q ≠ D2 := fun y => by subst y; rw [hD2] at e; cases e
            rw [upd_ne nq]; exact s5 q o e
        · rw [List.length_map] at g2
          refine ⟨D2, _, rfl, .inl g1, fun q hq => ?_⟩
          have hp3 : H3 p = some (.dK []) := s5 _ _ upd_same
          have pq : p ≠ q := fun y => by subst y; rw [hp3] at hq; cases hq
          refine ⟨by rw [upd_ne pq]; exact hp3, [(kSeed, .int z), (kNum, .int 0), (kLeft, .ref q)], rfl, by show 3 ≤ 15; decide, ?_⟩
          have s6 : Same H H3 := s3.trans (s4.trans s5)
          refine fin p q _ (fun x o e => ?_) (s3.free hp) (s6.free hq) ⟨pq, z, 0, acc2.reverse, by rw [upd_same, merge3]; rfl, by rw [upd_ne pq.symm, upd_same, List.map_reverse], z0, z1, Int.le_refl 0, by rw [List.length_reverse]; omega, fun x hx => g3 x (List.mem_reverse.mp hx)⟩
          have nx : x ≠ p := fun y => by subst y; rw [s3.free hp] at e; cases e
          rw [upd_ne nx, upd_ne (ne_of_none (s6 x o e) hq)]
          exact s6 x o e
end
end K10
set_option Elab.async false
set_option linter.all false
set_option maxRecDepth 100000
set_option maxHeartbeats 4000000
set_option pp.maxSteps 700
namespace K10
open PySem PySem.Spec PyProof.Rows L2 Pq Lb
def cl : Int → Str
  | 0 => "NoText"
  | 1 => "NoProgram"
  | 2 => "TooMany"
  | 3 => "NoRows"
  | 4 => "NoPaper"
  | 5 => "NoFit"
  | _ => "NoRow"
def exL (n : Int) (w : Str) : List Da := [exD ⟨"NoText", [("row", .int n)]⟩, exD ⟨"NoProgram", [("row", .int n), ("word", .str w)]⟩, exD ⟨"TooMany", [("most", .int n)]⟩, exD ⟨"NoRows", []⟩, exD ⟨"NoPaper", [("at", .int n)]⟩, exD ⟨"NoFit", []⟩, exD ⟨"NoRow", []⟩]
theorem w_made (n : Int) (w : Str) (Q : SV → Prop) (q : Q (.own true (.list (exL n w)))) : F_law_made [iv n, .val (.str w)] Q :=
  ⟨rfl, show 1 ≤ 1000 by decide, rfl, show 2 ≤ 1000 by decide, rfl, show 1 ≤ 1000 by decide, rfl, show 1 ≤ 1000 by decide, show 7 ≤ 1000000 by decide, q⟩
theorem w_xf {L : List Str} {f x : Str} {fs : List (Str × Da)} {m : MP} {env : En} {c : Da} {Q : Da → En → Prop} (hx : x ∈ L) (hf : dLook (fs.map fun p => (.str p.1, p.2)) (.inr f) = some c) (hm : ∀ K : Da → En → Prop, K (exD ⟨x, fs⟩) env → m env K) (q : Q c env) : mXf L f m env Q := by
  unfold mXf
  refine hm _ ⟨x, rfl, hx, ?_⟩
  show match dLook (fs.map fun p => (PyData.str p.1, p.2)) (.inr f) with
    | some c => Q c env
    | none => False
  rw [hf]
  exact q
def fsL (n : Int) (w : Str) : Da := .list [.int n, .str w, .int n, .int n, .int n]
theorem w_fields (n : Int) (w : Str) (Q : SV → Prop) (q : Q (.own true (fsL n w))) : F_law_fields [.val (.list (exL n w))] Q := by
  show M_law_fields [.val (.list (exL n w))] ⟨fun _ => Q (.val .none), Q, fun _ => False, fun _ => False⟩
  unfold M_law_fields
  refine w_xf (x := "NoText") (fs := [("row", .int n)]) (c := .int n) (by decide) rfl (fun K k => ix rfl k) ?_
  refine w_xf (x := "NoProgram") (fs := [("row", .int n), ("word", .str w)]) (c := .str w) (by decide) rfl (fun K k => ix rfl k) ?_
  refine w_xf (x := "NoProgram") (fs := [("row", .int n), ("word", .str w)]) (c := .int n) (by decide) rfl (fun K k => ix rfl k) ?_
  refine w_xf (x := "TooMany") (fs := [("most", .int n)]) (c := .int n) (by decide) rfl (fun K k => ix rfl k) ?_
  refine w_xf (x := "NoPaper") (fs := [("at", .int n)]) (c := .int n) (by decide) rfl (fun K k => ix rfl k) ?_
  exact ⟨show 5 ≤ 1000000 by decide, q⟩
theorem w_is {tab : List (Str × Bool)} {x : Str} {fs : List (Str × Da)} {i : Nat} {env : En} {b : Bool} {Q : Da → En → Prop} (hi : env[i]? = some (.val (exD ⟨x, fs⟩))) (hb : tab.lookup x = some b) (q : Q (.bool b) env) : mIsX tab (mPk i) env Q := by
  unfold mIsX mPk
  rw [hi]
  show match tab.lookup x with
    | some b => Q (.bool b) env
    | none => False
  rw [hb]
  exact q
def srt (k : Int) : Da := .list ((rgI 0 7).map fun j => .bool (decide (j = k)))
theorem pk_own {i : Nat} {env : En} {d : Da} {w : Bool} {Q : Da → En → Prop} (h : env[i]? = some (.own w d)) (q : Q d env) : mPk i env Q := by
  unfold mPk
  rw [h]
  exact q
theorem w_sorts' {x : Str} (fs : List (Str × Da)) {b0 b1 b2 b3 b4 b5 b6 : Bool} (h0 : List.lookup x [(("NoText" : Str), true), (("NoProgram" : Str), false), (("TooMany" : Str), false), (("NoRows" : Str), false), (("NoPaper" : Str), false), (("NoFit" : Str), false), (("NoRow" : Str), false)] = some b0) (h1 : List.lookup x [(("NoText" : Str), false), (("NoProgram" : Str), true), (("TooMany" : Str), false), (("NoRows" : Str), false), (("NoPaper" : Str), false), (("NoFit" : Str), false), (("NoRow" : Str), false)] = some b1) (h2 : List.lookup x [(("NoText" : Str), false), (("NoProgram" : Str), false), (("TooMany" : Str), true), (("NoRows" : Str), false), (("NoPaper" : Str), false), (("NoFit" : Str), false), (("NoRow" : Str), false)] = some b2) (h3 : List.lookup x [(("NoText" : Str), false), (("NoProgram" : Str), false), (("TooMany" : Str), false), (("NoRows" : Str), true), (("NoPaper" : Str), false), (("NoFit" : Str), false), (("NoRow" : Str), false)] = some b3) (h4 : List.lookup x [(("NoText" : Str), false), (("NoProgram" : Str), false), (("TooMany" : Str), false), (("NoRows" : Str), false), (("NoPaper" : Str), true), (("NoFit" : Str), false), (("NoRow" : Str), false)] = some b4) (h5 : List.lookup x [(("NoText" : Str), false), (("NoProgram" : Str), false), (("TooMany" : Str), false), (("NoRows" : Str), false), (("NoPaper" : Str), false), (("NoFit" : Str), true), (("NoRow" : Str), false)] = some b5) (h6 : List.lookup x [(("NoText" : Str), false), (("NoProgram" : Str), false), (("TooMany" : Str), false), (("NoRows" : Str), false), (("NoPaper" : Str), false), (("NoFit" : Str), false), (("NoRow" : Str), true)] = some b6) (Q : SV → Prop) (q : Q (.own true (.list [.bool b0, .bool b1, .bool b2, .bool b3, .bool b4, .bool b5, .bool b6]))) : F_law_sorts [.val (exD ⟨x, fs⟩)] Q := by
  show M_law_sorts [.val (exD ⟨x, fs⟩), .no] ⟨fun _ => Q (.val .none), Q, fun _ => False, fun _ => False⟩
  unfold M_law_sorts
  dsimp only [msSeq, msSet, mLst, maCons, maNil, toE]
  refine w_is (i := 0) (env := [.val (exD ⟨x, fs⟩), .no]) (x := x) (fs := fs) rfl h0 ?_
  refine w_is (i := 0) (env := [.val (exD ⟨x, fs⟩), .no]) (x := x) (fs := fs) rfl h1 ?_
  refine w_is (i := 0) (env := [.val (exD ⟨x, fs⟩), .no]) (x := x) (fs := fs) rfl h2 ?_
  refine w_is (i := 0) (env := [.val (exD ⟨x, fs⟩), .no]) (x := x) (fs := fs) rfl h3 ?_
  refine ⟨show 4 ≤ 1000000 by decide, show 1 < 2 by decide, ?_⟩
  dsimp only [msRet, mBin, toD, List.set_cons_succ, List.set_cons_zero]
  refine pk_own rfl ?_
  dsimp only [mLst, maCons, maNil, toE]
  refine w_is (i := 0) (env := [.val (exD ⟨x, fs⟩), .own true (.list [.bool b0, .bool b1, .bool b2, .bool b3])]) (x := x) (fs := fs) rfl h4 ?_
  refine w_is (i := 0) (env := [.val (exD ⟨x, fs⟩), .own true (.list [.bool b0, .bool b1, .bool b2, .bool b3])]) (x := x) (fs := fs) rfl h5 ?_
  refine w_is (i := 0) (env := [.val (exD ⟨x, fs⟩), .own true (.list [.bool b0, .bool b1, .bool b2, .bool b3])]) (x := x) (fs := fs) rfl h6 ?_
  exact ⟨show 3 ≤ 1000000 by decide, show 4 + 3 ≤ 1000000 by decide, q⟩
theorem w_sorts {k : Int} (h0 : 0 ≤ k) (h7 : k < 7) (fs : List (Str × Da)) (Q : SV → Prop) (q : Q (.own true (srt k))) : F_law_sorts [.val (exD ⟨cl k, fs⟩)] Q := by
  have hk : k = 0 ∨ k = 1 ∨ k = 2 ∨ k = 3 ∨ k = 4 ∨ k = 5 ∨ k = 6 := by omega
  rcases hk with rfl | rfl | rfl | rfl | rfl | rfl | rfl
  · exact w_sorts' (x := "NoText") fs (b0 := true) (b1 := false) (b2 := false) (b3 := false) (b4 := false) (b5 := false) (b6 := false) (by decide) (by decide) (by decide) (by decide) (by decide) (by decide) (by decide) Q q
  · exact w_sorts' (x := "NoProgram") fs (b0 := false) (b1 := true) (b2 := false) (b3 := false) (b4 := false) (b5 := false) (b6 := false) (by decide) (by decide) (by decide) (by decide) (by decide) (by decide) (by decide) Q q
  · exact w_sorts' (x := "TooMany") fs (b0 := false) (b1 := false) (b2 := true) (b3 := false) (b4 := false) (b5 := false) (b6 := false) (by decide) (by decide) (by decide) (by decide) (by decide) (by decide) (by decide) Q q
  · exact w_sorts' (x := "NoRows") fs (b0 := false) (b1 := false) (b2 := false) (b3 := true) (b4 := false) (b5 := false) (b6 := false) (by decide) (by decide) (by decide) (by decide) (by decide) (by decide) (by decide) Q q
  · exact w_sorts' (x := "NoPaper") fs (b0 := false) (b1 := false) (b2 := false) (b3 := false) (b4 := true) (b5 := false) (b6 := false) (by decide) (by decide) (by decide) (by decide) (by decide) (by decide) (by decide) Q q
  · exact w_sorts' (x := "NoFit") fs (b0 := false) (b1 := false) (b2 := false) (b3 := false) (b4 := false) (b5 := true) (b6 := false) (by decide) (by decide) (by decide) (by decide) (by decide) (by decide) (by decide) Q q
  · exact w_sorts' (x := "NoRow") fs (b0 := false) (b1 := false) (b2 := false) (b3 := false) (b4 := false) (b5 := false) (b6 := true) (by decide) (by decide) (by decide) (by decide) (by decide) (by decide) (by decide) Q q
end K10
set_option Elab.async false
set_option linter.all false
set_option maxRecDepth 100000
set_option maxHeartbeats 4000000
set_option pp.maxSteps 900
namespace K10
open PySem PySem.Spec PyProof.Rows L2 Pq Lb
theorem for_c {g : MG} {m : MS} {d : Da} {ds : List Da} {env : En} {E : EM} (h : g d env fun e2 => m e2 ⟨fun e => forGo g m ds e E, E.rt, E.nx, fun e => forGo g m ds e E⟩) : forGo g m (d :: ds) env E := h
theorem ifl_b {b : Bool} {c : MT} {m : MS} {env : En} {E : EM} (h : ∀ Q : Bool → En → Prop, Q b env → c env Q) (k1 : b = true → m env E) (k2 : b = false → E.nx env) : msIf c m msNext env E := h _ (by
  cases b with
  | true => rw [if_pos rfl]; exact k1 rfl
  | false => rw [if_neg Bool.false_ne_true]; exact k2 rfl)
theorem or_b {b1 b2 : Bool} {c1 c2 : MT} {env : En} (h : ∀ Q : Bool → En → Prop, Q b1 env → c1 env Q) (k : ∀ Q : Bool → En → Prop, Q b2 env → c2 env Q) : ∀ Q : Bool → En → Prop, Q (b1 || b2) env → mOr c1 c2 env Q := fun Q q => h _ (by
  cases b1 with
  | true => rw [if_pos rfl]; exact q
  | false => rw [if_neg Bool.false_ne_true]; exact k _ q)
theorem ifl_c {b : Bool} {c : MT} {m B : MS} {env env' : En} {E : EM} (h : ∀ Q : Bool → En → Prop, Q false env' → c env Q) (k : B env' E) : msSeq (msIf c m msNext) B env E := h _ (by rw [if_neg Bool.false_ne_true]; exact k)
theorem at_k (n : Int) (w : Str) {k : Int} (h0 : 0 ≤ k) (h7 : k < 7) : ∃ fs, ixD (.list (exL n w)) k = some (exD ⟨cl k, fs⟩) := by
  have hk : k = 0 ∨ k = 1 ∨ k = 2 ∨ k = 3 ∨ k = 4 ∨ k = 5 ∨ k = 6 := by omega
  rcases hk with rfl | rfl | rfl | rfl | rfl | rfl | rfl <;> exact ⟨_, rfl⟩
theorem all_t {k : Int} (h0 : 0 ≤ k) (h7 : k < 7) : List.lookup (cl k) [(("NoText" : Str), true), ("NoProgram", true), ("TooMany", true), ("NoRows", true), ("NoPaper", true), ("NoFit", true), ("NoRow", true)] = some true := by
  have hk : k = 0 ∨ k = 1 ∨ k = 2 ∨ k = 3 ∨ k = 4 ∨ k = 5 ∨ k = 6 := by omega
  rcases hk with rfl | rfl | rfl | rfl | rfl | rfl | rfl <;> decide
theorem lay_srt (k : Int) : Lay 1 (srt k) := lay_lst fun d hd => by
  obtain ⟨j, _, rfl⟩ := List.mem_map.mp hd
  exact lay_bool
theorem lay_fs (n : Int) {w : Str} (hw : Lay 0 (.str w)) : Lay 1 (fsL n w) := lay_lst fun d hd => by
  simp only [List.mem_cons, List.not_mem_nil, or_false] at hd
  rcases hd with rfl | rfl | rfl | rfl | rfl
  · exact lay_int
  · exact hw
  · exact lay_int
  · exact lay_int
  · exact lay_int
theorem w_law : M_law (.no :: .deal :: List.replicate 8 .no) eTrue := by
  have hm := w_made
  have hf := w_fields
  have hs := @w_sorts
  show M_law [.no, .deal, .no, .no, .no, .no, .no, .no, .no, .no] eTrue
  unfold M_law
  generalize F_law_made = F1 at hm ⊢
  generalize F_law_fields = F2 at hf ⊢
  generalize F_law_sorts = F3 at hs ⊢
  refine ⟨by decide, by decide, by decide, show 2 ≤ 1000000 by decide, rfl, ⟨by decide, by decide⟩, fun j j0 j1 => ?_⟩
  refine w_ix (ds := [.int 10, .int (10 ^ 9)]) j0 (by show j < 2; exact j1) _ fun d hd => ?_
  have hd : ∃ m : Int, d = .int m ∧ 0 < m ∧ m < 2 ^ 64 := by
    simp only [List.mem_cons, List.not_mem_nil, or_false] at hd
    rcases hd with rfl | rfl
    · exact ⟨10, rfl, by decide, by decide⟩
    · exact ⟨10 ^ 9, rfl, by decide, by decide⟩
  obtain ⟨m, rfl, m0, m1⟩ := hd
  refine ⟨rfl, ⟨m0, m1⟩, fun z z0 z1 => ⟨show 2 < 10 by decide, show 5 ≤ 1000000 by decide, rfl, ⟨by decide, by decide⟩, fun j j0 j1 => ?_⟩⟩
  generalize z - 1 = n
  refine w_ix (ds := [.str "kinds", .str "twice", .str "range", .str "unknown", .str "tells"]) j0 (by show j < 5; exact j1) _ fun d hd => ?_
  have hd : ∃ w : Str, d = .str w ∧ Lay 0 (.str w) := by
    simp only [List.mem_cons, List.not_mem_nil, or_false] at hd
    rcases hd with rfl | rfl | rfl | rfl | rfl <;> exact ⟨_, rfl, by refine ⟨?_, ?_⟩ <;> first | decide | decide +kernel | rfl⟩
  obtain ⟨w, rfl, lw⟩ := hd
  have ls : Lay 0 (.str "silent") := by refine ⟨?_, ?_⟩ <;> first | decide | decide +kernel | rfl
  refine ⟨show 3 < 10 by decide, ?_⟩
  refine ⟨rfl, hm n w _ ⟨show 4 < 10 by decide, rfl, hm (n + 1) "silent" _ ⟨show 5 < 10 by decide, ⟨by decide, by decide⟩, ?_⟩⟩⟩
  show forGo _ _ (rgD 0 7) _ _
  rw [rgD_I]
  refine for_L .int (fun done e => ∃ a b c, e = [.no, .deal, iv n, .val (.str w), .own true (.list (exL n w)), .own true (.list (exL (n + 1) "silent")), a, b, c, .no]) (rgI 0 7) _ ⟨.no, .no, .no, rfl⟩ ?_ ?_
  · rintro done k rest hL e ⟨a, b, c, rfl⟩ N hN
    obtain ⟨k0, k7⟩ := mem_rgI.mp (show k ∈ rgI 0 7 by rw [hL]; exact List.mem_append_right _ List.mem_cons_self)
    obtain ⟨f1, i1⟩ := at_k n w k0 k7
    obtain ⟨f2, i2⟩ := at_k (n + 1) "silent" k0 k7
    have tt := all_t k0 k7
    have ss := fun fs => hs k0 k7 fs
    have ln : (rgD 0 7).length = 7 := rfl
    refine ⟨show 6 < 10 by decide, ⟨by decide, by decide⟩, ⟨by decide, fun i hi => by rw [List.mem_singleton.mp hi]; trivial⟩, ?_⟩
    show lcGo _ _ _ _ (rgD 0 7) [] _
    rw [rgD_I]
    refine lcL .int (fun j => PyData.bool (decide (j = k))) (rgI 0 7) [] _ (fun j hj K hK => ⟨show 9 < 10 by decide, hK⟩) ?_
    refine ⟨show 7 < 10 by decide, ?_⟩
    dsimp only [List.set_cons_succ, List.set_cons_zero]
    refine ix i1 (ix i2 ⟨show 2 ≤ 1000000 by decide, ?_⟩)
    have step : ∀ (fs : List (Str × Da)) (c0 : SV) (E : EM), E.nx [.no, .deal, iv n, .val (.str w), .own true (.list (exL n w)), .own true (.list (exL (n + 1) "silent")), iv k, .own true (srt k), .val (exD ⟨cl k, fs⟩), .no] →
        mgName 8 (exD ⟨cl k, fs⟩) [.no, .deal, iv n, .val (.str w), .own true (.list (exL n w)), .own true (.list (exL (n + 1) "silent")), iv k, .own true (srt k), c0, .no] fun e2 =>
          msIf (mOr (mNot (mTest (mIsX [("NoText", true), ("NoProgram", true), ("TooMany", true), ("NoRows", true), ("NoPaper", true), ("NoFit", true), ("NoRow", true)] (mPk 8)))) (mOr (mNot (mTest (mIsX [("NoText", true), ("NoProgram", true), ("TooMany", true), ("NoRows", true), ("NoPaper", true), ("NoFit", true), ("NoRow", true)] (mPk 8)))) (mTest (toD (mBin fNe (toD (mCall 1 F3 (maCons (mVar 8) maNil))) (mPk 7)))))) (msRet (toE (mC (.bool false)))) msNext e2 E := fun fs c0 E hE => by
      refine ⟨show 8 < 10 by decide, ?_⟩
      dsimp only [List.set_cons_succ, List.set_cons_zero]
      refine ifl_b (b := !true || (!true || !true)) (fun Q q => ?_) (fun z => absurd z (by decide)) fun _ => hE
      refine or_b (b1 := !true) (b2 := !true || !true) (fun Q q => ?_) (fun Q q => ?_) Q q
      · unfold mNot mTest
        exact w_is (fs := fs) rfl tt q
      refine or_b (b1 := !true) (b2 := !true) (fun Q q => ?_) (fun Q q => ?_) Q q
      · unfold mNot mTest
        exact w_is (fs := fs) rfl tt q
      refine ⟨rfl, ss fs _ ⟨(lay_srt k).shaped (by decide), (lay_srt k).shaped (by decide), ?_⟩⟩
      rw [(lay_srt k).refl]
      exact q
    refine for_c (step f1 c _ ?_)
    refine for_c (step f2 _ _ ?_)
    exact hN _ ⟨_, _, _, rfl⟩
  · rintro e ⟨a, b, c, rfl⟩
    dsimp only
    refine ifl_c (b := true) (env' := [.no, .deal, iv n, .val (.str w), .own true (.list (exL n w)), .val (.list (exL (n + 1) "silent")), a, b, c, .no]) (fun Q q => ⟨rfl, hf (n + 1) "silent" _ ⟨show 5 ≤ 1000000 by decide, (lay_fs (n + 1) ls).shaped (by decide), (lay_fs (n + 1) ls).shaped (by decide), ?_⟩⟩) ?_
    · show Q (!PyData.eqv (fsL (n + 1) "silent") (fsL (n + 1) "silent")) _
      rw [(lay_fs (n + 1) ls).refl]
      exact q
    refine ⟨rfl, hf n w _ ⟨show 5 ≤ 1000000 by decide, (lay_fs n lw).shaped (by decide), (lay_fs n lw).shaped (by decide), ?_⟩⟩
    show SV.val (.bool (PyData.eqv (fsL n w) (fsL n w))) = _
    rw [(lay_fs n lw).refl]
end K10
set_option Elab.async false
set_option linter.all false
set_option maxRecDepth 100000
set_option maxHeartbeats 4000000
namespace K10
open PySem PySem.Spec PyProof.Rows L2 Pq Lb
abbrev si_NoText : Stmt := clsS (top 2) 0
theorem sci_NoText : FnScope ["self", "row"] ["self", "row"] (defScope si_NoText) := ⟨rfl, rfl, rfl, by decide +kernel, rfl, by decide +kernel, by decide +kernel⟩
theorem oki_NoText {P : Program} {w : World} {K : PySem.W.Frag} {mg : Str → Option Value} {base : Heap} {C f : Addr} {fd : FuncData} (Fu : Fun K "__init__" "NoText.__init__" si_NoText f fd) (O : OexC K C) (nf0 : PySem.W.findIn K (.ref C) "row" = some none) : FnOk P w K mg base CX0 1 f fd ["self", "row"] (spInit C ["row"]) :=
  Fu.ok sci_NoText (fun vs H Q E h => init_len h) (fun cdv A outer s H vs Q E hr h => ⟨_, pss_one (ps_ost (pv 0) (pv 1)), init1_read rfl O nf0 h⟩)
abbrev si_NoProgram : Stmt := clsS (top 3) 0
theorem sci_NoProgram : FnScope ["self", "word", "row"] ["self", "word", "row"] (defScope si_NoProgram) := ⟨rfl, rfl, rfl, by decide +kernel, rfl, by decide +kernel, by decide +kernel⟩
theorem oki_NoProgram {P : Program} {w : World} {K : PySem.W.Frag} {mg : Str → Option Value} {base : Heap} {C f : Addr} {fd : FuncData} (Fu : Fun K "__init__" "NoProgram.__init__" si_NoProgram f fd) (O : OexC K C) (nf0 : PySem.W.findIn K (.ref C) "word" = some none) (nf1 : PySem.W.findIn K (.ref C) "row" = some none) : FnOk P w K mg base CX0 1 f fd ["self", "word", "row"] (spInit C ["word", "row"]) :=
  Fu.ok sci_NoProgram (fun vs H Q E h => init_len h) (fun cdv A outer s H vs Q E hr h => ⟨_, pss_cons (ps_ost (pv 0) (pv 1)) (pss_one (ps_ost (pv 0) (pv 2))), init2_read rfl O nf0 nf1 h⟩)
abbrev si_TooMany : Stmt := clsS (top 4) 0
theorem sci_TooMany : FnScope ["self", "most"] ["self", "most"] (defScope si_TooMany) := ⟨rfl, rfl, rfl, by decide +kernel, rfl, by decide +kernel, by decide +kernel⟩
theorem oki_TooMany {P : Program} {w : World} {K : PySem.W.Frag} {mg : Str → Option Value} {base : Heap} {C f : Addr} {fd : FuncData} (Fu : Fun K "__init__" "TooMany.__init__" si_TooMany f fd) (O : OexC K C) (nf0 : PySem.W.findIn K (.ref C) "most" = some none) : FnOk P w K mg base CX0 1 f fd ["self", "most"] (spInit C ["most"]) :=
  Fu.ok sci_TooMany (fun vs H Q E h => init_len h) (fun cdv A outer s H vs Q E hr h => ⟨_, pss_one (ps_ost (pv 0) (pv 1)), init1_read rfl O nf0 h⟩)
abbrev si_NoPaper : Stmt := clsS (top 6) 0
theorem sci_NoPaper : FnScope ["self", "at"] ["self", "at"] (defScope si_NoPaper) := ⟨rfl, rfl, rfl, by decide +kernel, rfl, by decide +kernel, by decide +kernel⟩
theorem oki_NoPaper {P : Program} {w : World} {K : PySem.W.Frag} {mg : Str → Option Value} {base : Heap} {C f : Addr} {fd : FuncData} (Fu : Fun K "__init__" "NoPaper.__init__" si_NoPaper f fd) (O : OexC K C) (nf0 : PySem.W.findIn K (.ref C) "at" = some none) : FnOk P w K mg base CX0 1 f fd ["self", "at"] (spInit C ["at"]) :=
  Fu.ok sci_NoPaper (fun vs H Q E h => init_len h) (fun cdv A outer s H vs Q E hr h => ⟨_, pss_one (ps_ost (pv 0) (pv 1)), init1_read rfl O nf0 h⟩)
section
variable {P : Program} {w : World} {K : PySem.W.Frag} {mg : Str → Option Value} {base : Heap}
theorem ok_law (T : Tx K mg) (C_law_draw : Cal P w K mg base "_law_draw" 2 2 F_law_draw) (C_law_made : Cal P w K mg base "_law_made" 3 2 F_law_made) (C_law_sorts : Cal P w K mg base "_law_sorts" 1 1 F_law_sorts) (C_law_fields : Cal P w K mg base "_law_fields" 1 1 F_law_fields) {f fde : Addr} {fd fdd : FuncData} (Fu : Fun K "law" "law" s_law f fd) (G : FnOk P w K mg base CX0 2 fde fdd ["_law_script", "_law_base"] (spDeal K)) (md : mg "_law_deal" = some (.ref fde)) (kd : PySem.W.keepIn K (.ref fde) = true) (bd : Binds K fdd ["_law_script", "_law_base"] []) : FnG P w K mg base CX0 4 f fd ["_law_script"] (spLaw K) := by
  refine fun_g Fu sc_law (fun vs H Q E h => ?_) (fun cdv A outer s H vs Q E hr h => ?_)
  · obtain ⟨a, ns, rfl, _⟩ := h
    rfl
  · obtain ⟨a, ns, rfl, hS, hl, q⟩ := h
    refine ⟨_, pss_cons (ps_set (i := 1) sc_law.nd rfl (by first | exact Or.inl rfl | exact Or.inr rfl) (pe_call (dvs := []) G (hr.rm.mono (by decide)) (by rfl) md kd bd .nil pass0 (pa_cons (pv 0) (pa_cons pe_int pa_nil)))) (body_law T C_law_draw C_law_made C_law_sorts C_law_fields cdv A outer s H E hr), ?_⟩
    exact law_read (X := (cxOf CX0 P w K mg base N_law "law" (defScope s_law) f cdv A outer s H E).nox) (N := N_law) (m := 8) rfl w_law hS hl q
end
theorem all_mk {l : PySem.W.OpenLaw} {w : World} {K : PySem.W.Frag} {h : Heap} {mg : Str → Option Value} {fa f1 f2 f3 f4 f5 f6 : Addr} (X : K.In h) (G : h.Ns mainGlobals mg) (hfa : mg "law" = some (.ref fa))
    {od1 an1 : Option Addr} {sl1 : Array (Option Value)} {oc1 kV1 dc1 pm1 cd1 ct1 : Value}
    (a1 : PySem.W.nsIn K mainGlobals "_law_deal" = some (some (.ref f1))) (l1 : K.lookup f1 = some ⟨oc1, od1, .func (PySem.W.fnOf "_law_deal" "_law_deal" (defArgs s_law_deal) (defBody s_law_deal) (defScope s_law_deal) .none kV1 dc1 pm1 an1 cd1 ct1), sl1⟩) (c1 : PySem.W.codeIn K cd1 "_law_deal" = true) (k1 : PySem.W.keepIn K (.ref f1) = true)
    {od2 an2 : Option Addr} {sl2 : Array (Option Value)} {oc2 kV2 dc2 pm2 cd2 ct2 : Value}
    (a2 : PySem.W.nsIn K mainGlobals "_law_made" = some (some (.ref f2))) (l2 : K.lookup f2 = some ⟨oc2, od2, .func (PySem.W.fnOf "_law_made" "_law_made" (defArgs s_law_made) (defBody s_law_made) (defScope s_law_made) .none kV2 dc2 pm2 an2 cd2 ct2), sl2⟩) (c2 : PySem.W.codeIn K cd2 "_law_made" = true) (k2 : PySem.W.keepIn K (.ref f2) = true)
    {od3 an3 : Option Addr} {sl3 : Array (Option Value)} {oc3 kV3 dc3 pm3 cd3 ct3 : Value}
    (a3 : PySem.W.nsIn K mainGlobals "_law_draw" = some (some (.ref f3))) (l3 : K.lookup f3 = some ⟨oc3, od3, .func (PySem.W.fnOf "_law_draw" "_law_draw" (defArgs s_law_draw) (defBody s_law_draw) (defScope s_law_draw) .none kV3 dc3 pm3 an3 cd3 ct3), sl3⟩) (c3 : PySem.W.codeIn K cd3 "_law_draw" = true) (k3 : PySem.W.keepIn K (.ref f3) = true)
    {od4 an4 : Option Addr} {sl4 : Array (Option Value)} {oc4 kV4 dc4 pm4 cd4 ct4 : Value}
    (a4 : PySem.W.nsIn K mainGlobals "_law_fields" = some (some (.ref f4))) (l4 : K.lookup f4 = some ⟨oc4, od4, .func (PySem.W.fnOf "_law_fields" "_law_fields" (defArgs s_law_fields) (defBody s_law_fields) (defScope s_law_fields) .none kV4 dc4 pm4 an4 cd4 ct4), sl4⟩) (c4 : PySem.W.codeIn K cd4 "_law_fields" = true) (k4 : PySem.W.keepIn K (.ref f4) = true)
    {od5 an5 : Option Addr} {sl5 : Array (Option Value)} {oc5 kV5 dc5 pm5 cd5 ct5 : Value}
    (a5 : PySem.W.nsIn K mainGlobals "_law_sorts" = some (some (.ref f5))) (l5 : K.lookup f5 = some ⟨oc5, od5, .func (PySem.W.fnOf "_law_sorts" "_law_sorts" (defArgs s_law_sorts) (defBody s_law_sorts) (defScope s_law_sorts) .none kV5 dc5 pm5 an5 cd5 ct5), sl5⟩) (c5 : PySem.W.codeIn K cd5 "_law_sorts" = true) (k5 : PySem.W.keepIn K (.ref f5) = true)
    {od6 an6 : Option Addr} {sl6 : Array (Option Value)} {oc6 kV6 dc6 pm6 cd6 ct6 : Value}
    (a6 : PySem.W.nsIn K mainGlobals "law" = some (some (.ref f6))) (l6 : K.lookup f6 = some ⟨oc6, od6, .func (PySem.W.fnOf "law" "law" (defArgs s_law) (defBody s_law) (defScope s_law) .none kV6 dc6 pm6 an6 cd6 ct6), sl6⟩) (c6 : PySem.W.codeIn K cd6 "law" = true) (k6 : PySem.W.keepIn K (.ref f6) = true)
    (z0 : PySem.W.nsIn K mainGlobals "ValueError" = some none)
    (z1 : PySem.W.nsIn K mainGlobals "isinstance" = some none)
    (z2 : PySem.W.nsIn K mainGlobals "len" = some none)
    (z3 : PySem.W.nsIn K mainGlobals "list" = some none)
    (z4 : PySem.W.nsIn K mainGlobals "max" = some none)
    (z5 : PySem.W.nsIn K mainGlobals "range" = some none)
    (z6 : PySem.W.nsIn K mainGlobals "reversed" = some none)
    {E_NoText : Addr}
    (n_NoText : PySem.W.nsIn K mainGlobals "NoText" = some (some (.ref E_NoText)))
    {E_ThrowError : Addr}
    (n_ThrowError : PySem.W.nsIn K mainGlobals "ThrowError" = some (some (.ref E_ThrowError)))
    {E_NoProgram : Addr}
    (n_NoProgram : PySem.W.nsIn K mainGlobals "NoProgram" = some (some (.ref E_NoProgram)))
    {E_TooMany : Addr}
    (n_TooMany : PySem.W.nsIn K mainGlobals "TooMany" = some (some (.ref E_TooMany)))
    {E_NoRows : Addr}
    (n_NoRows : PySem.W.nsIn K mainGlobals "NoRows" = some (some (.ref E_NoRows)))
    {E_NoPaper : Addr}
    (n_NoPaper : PySem.W.nsIn K mainGlobals "NoPaper" = some (some (.ref E_NoPaper)))
    {E_NoFit : Addr}
    (n_NoFit : PySem.W.nsIn K mainGlobals "NoFit" = some (some (.ref E_NoFit)))
    {E_NoRow : Addr}
    (n_NoRow : PySem.W.nsIn K mainGlobals "NoRow" = some (some (.ref E_NoRow)))
    {nm_NoText q_NoText : Str}
    {Nn_NoText : Addr}
    {bs_NoText : List Value}
    {sn_NoText : List Str}
    {sub_NoText : List Value}
    {ab_NoText : Bool}
    {col_NoText : Option Bool}
    {dd_NoText : Option Addr}
    {m0_NoText m1_NoText m2_NoText m3_NoText m5_NoText : Option Value}
    (xL_NoText : K.lookup E_NoText = some (excClassObj nm_NoText q_NoText E_NoText Nn_NoText bs_NoText [.ref E_ThrowError, .type "ValueError", .type "Exception", .type "BaseException", .type "object"] true sn_NoText sub_NoText ab_NoText col_NoText dd_NoText m0_NoText m1_NoText m2_NoText m3_NoText m5_NoText "ValueError.__new__"))
    (sa_NoText : PySem.W.findIn K (.ref E_NoText) "__setattr__" = some (some (.builtin "object.__setattr__")))
    (eC_NoText : PySem.W.subIn K (.ref E_NoText) (.type "BaseException") = some true)
    (tC_NoText : PySem.W.typeIn K (.ref E_NoText) = some (.type "type"))
    (kC_NoText : PySem.W.keepIn K (.ref E_NoText) = true)
    (hg_NoText : PySem.W.findIn K (.ref E_NoText) "__getattribute__" = some (some (.builtin "BaseException.__getattribute__")))
    (hk_NoText : PySem.W.findIn K (.ref E_NoText) "__getattr__" = some none)
    (hd_NoText : PySem.W.hasDictIn K E_NoText = true)
    (ha_NoText : PySem.W.findIn K (.ref E_NoText) "__class__" = some (some (.builtin "object.__class__")))
    (hm_NoText : PySem.W.mroIn K E_NoText (.type "object") = some true)
    {fi_NoText : Addr}
    {oi_NoText ki2_NoText ci2_NoText pi_NoText cdi_NoText cti_NoText : Value}
    {odi_NoText ani_NoText : Option Addr}
    {sli_NoText : Array (Option Value)}
    (i_NoText : PySem.W.findIn K (.ref E_NoText) "__init__" = some (some (.ref fi_NoText)))
    (ti_NoText : PySem.W.typeIn K (.ref fi_NoText) = some (.type "function"))
    (li_NoText : K.lookup fi_NoText = some ⟨oi_NoText, odi_NoText, .func (PySem.W.fnOf "__init__" "NoText.__init__" (defArgs si_NoText) (defBody si_NoText) (defScope si_NoText) .none ki2_NoText ci2_NoText pi_NoText ani_NoText cdi_NoText cti_NoText), sli_NoText⟩)
    (ci_NoText : PySem.W.codeIn K cdi_NoText "NoText.__init__" = true)
    (ki_NoText : PySem.W.keepIn K (.ref fi_NoText) = true)
    (nf_NoText_row : PySem.W.findIn K (.ref E_NoText) "row" = some none)
    {nm_NoProgram q_NoProgram : Str}
    {Nn_NoProgram : Addr}
    {bs_NoProgram : List Value}
    {sn_NoProgram : List Str}
    {sub_NoProgram : List Value}
    {ab_NoProgram : Bool}
    {col_NoProgram : Option Bool}
    {dd_NoProgram : Option Addr}
    {m0_NoProgram m1_NoProgram m2_NoProgram m3_NoProgram m5_NoProgram : Option Value}
    (xL_NoProgram : K.lookup E_NoProgram = some (excClassObj nm_NoProgram q_NoProgram E_NoProgram Nn_NoProgram bs_NoProgram [.ref E_ThrowError, .type "ValueError", .type "Exception", .type "BaseException", .type "object"] true sn_NoProgram sub_NoProgram ab_NoProgram col_NoProgram dd_NoProgram m0_NoProgram m1_NoProgram m2_NoProgram m3_NoProgram m5_NoProgram "ValueError.__new__"))
    (sa_NoProgram : PySem.W.findIn K (.ref E_NoProgram) "__setattr__" = some (some (.builtin "object.__setattr__")))
    (eC_NoProgram : PySem.W.subIn K (.ref E_NoProgram) (.type "BaseException") = some true)
    (tC_NoProgram : PySem.W.typeIn K (.ref E_NoProgram) = some (.type "type"))
    (kC_NoProgram : PySem.W.keepIn K (.ref E_NoProgram) = true)
    (hg_NoProgram : PySem.W.findIn K (.ref E_NoProgram) "__getattribute__" = some (some (.builtin "BaseException.__getattribute__")))
    (hk_NoProgram : PySem.W.findIn K (.ref E_NoProgram) "__getattr__" = some none)
    (hd_NoProgram : PySem.W.hasDictIn K E_NoProgram = true)
    (ha_NoProgram : PySem.W.findIn K (.ref E_NoProgram) "__class__" = some (some (.builtin "object.__class__")))
    (hm_NoProgram : PySem.W.mroIn K E_NoProgram (.type "object") = some true)
    {fi_NoProgram : Addr}
    {oi_NoProgram ki2_NoProgram ci2_NoProgram pi_NoProgram cdi_NoProgram cti_NoProgram : Value}
    {odi_NoProgram ani_NoProgram : Option Addr}
    {sli_NoProgram : Array (Option Value)}
    (i_NoProgram : PySem.W.findIn K (.ref E_NoProgram) "__init__" = some (some (.ref fi_NoProgram)))
    (ti_NoProgram : PySem.W.typeIn K (.ref fi_NoProgram) = some (.type "function"))
    (li_NoProgram : K.lookup fi_NoProgram = some ⟨oi_NoProgram, odi_NoProgram, .func (PySem.W.fnOf "__init__" "NoProgram.__init__" (defArgs si_NoProgram) (defBody si_NoProgram) (defScope si_NoProgram) .none ki2_NoProgram ci2_NoProgram pi_NoProgram ani_NoProgram cdi_NoProgram cti_NoProgram), sli_NoProgram⟩)
    (ci_NoProgram : PySem.W.codeIn K cdi_NoProgram "NoProgram.__init__" = true)
    (ki_NoProgram : PySem.W.keepIn K (.ref fi_NoProgram) = true)
    (nf_NoProgram_word : PySem.W.findIn K (.ref E_NoProgram) "word" = some none)
    (nf_NoProgram_row : PySem.W.findIn K (.ref E_NoProgram) "row" = some none)
    {nm_TooMany q_TooMany : Str}
    {Nn_TooMany : Addr}
    {bs_TooMany : List Value}
    {sn_TooMany : List Str}
    {sub_TooMany : List Value}
    {ab_TooMany : Bool}
    {col_TooMany : Option Bool}
    {dd_TooMany : Option Addr}
    {m0_TooMany m1_TooMany m2_TooMany m3_TooMany m5_TooMany : Option Value}
    (xL_TooMany : K.lookup E_TooMany = some (excClassObj nm_TooMany q_TooMany E_TooMany Nn_TooMany bs_TooMany [.ref E_ThrowError, .type "ValueError", .type "Exception", .type "BaseException", .type "object"] true sn_TooMany sub_TooMany ab_TooMany col_TooMany dd_TooMany m0_TooMany m1_TooMany m2_TooMany m3_TooMany m5_TooMany "ValueError.__new__"))
    (sa_TooMany : PySem.W.findIn K (.ref E_TooMany) "__setattr__" = some (some (.builtin "object.__setattr__")))
    (eC_TooMany : PySem.W.subIn K (.ref E_TooMany) (.type "BaseException") = some true)
    (tC_TooMany : PySem.W.typeIn K (.ref E_TooMany) = some (.type "type"))
    (kC_TooMany : PySem.W.keepIn K (.ref E_TooMany) = true)
    (hg_TooMany : PySem.W.findIn K (.ref E_TooMany) "__getattribute__" = some (some (.builtin "BaseException.__getattribute__")))
    (hk_TooMany : PySem.W.findIn K (.ref E_TooMany) "__getattr__" = some none)
    (hd_TooMany : PySem.W.hasDictIn K E_TooMany = true)
    (ha_TooMany : PySem.W.findIn K (.ref E_TooMany) "__class__" = some (some (.builtin "object.__class__")))
    (hm_TooMany : PySem.W.mroIn K E_TooMany (.type "object") = some true)
    {fi_TooMany : Addr}
    {oi_TooMany ki2_TooMany ci2_TooMany pi_TooMany cdi_TooMany cti_TooMany : Value}
    {odi_TooMany ani_TooMany : Option Addr}
    {sli_TooMany : Array (Option Value)}
    (i_TooMany : PySem.W.findIn K (.ref E_TooMany) "__init__" = some (some (.ref fi_TooMany)))
    (ti_TooMany : PySem.W.typeIn K (.ref fi_TooMany) = some (.type "function"))
    (li_TooMany : K.lookup fi_TooMany = some ⟨oi_TooMany, odi_TooMany, .func (PySem.W.fnOf "__init__" "TooMany.__init__" (defArgs si_TooMany) (defBody si_TooMany) (defScope si_TooMany) .none ki2_TooMany ci2_TooMany pi_TooMany ani_TooMany cdi_TooMany cti_TooMany), sli_TooMany⟩)
    (ci_TooMany : PySem.W.codeIn K cdi_TooMany "TooMany.__init__" = true)
    (ki_TooMany : PySem.W.keepIn K (.ref fi_TooMany) = true)
    (nf_TooMany_most : PySem.W.findIn K (.ref E_TooMany) "most" = some none)
    (xE_NoRows : PySem.W.excIn K E_NoRows [.type "ValueError", .type "Exception", .type "BaseException", .type "object"] "ValueError.__new__" = true)
    (eC_NoRows : PySem.W.subIn K (.ref E_NoRows) (.type "BaseException") = some true)
    (tC_NoRows : PySem.W.typeIn K (.ref E_NoRows) = some (.type "type"))
    (kC_NoRows : PySem.W.keepIn K (.ref E_NoRows) = true)
    (hg_NoRows : PySem.W.findIn K (.ref E_NoRows) "__getattribute__" = some (some (.builtin "BaseException.__getattribute__")))
    (hk_NoRows : PySem.W.findIn K (.ref E_NoRows) "__getattr__" = some none)
    (hd_NoRows : PySem.W.hasDictIn K E_NoRows = true)
    (ha_NoRows : PySem.W.findIn K (.ref E_NoRows) "__class__" = some (some (.builtin "object.__class__")))
    (hm_NoRows : PySem.W.mroIn K E_NoRows (.type "object") = some true)
    {nm_NoPaper q_NoPaper : Str}
    {Nn_NoPaper : Addr}
    {bs_NoPaper : List Value}
    {sn_NoPaper : List Str}
    {sub_NoPaper : List Value}
    {ab_NoPaper : Bool}
    {col_NoPaper : Option Bool}
    {dd_NoPaper : Option Addr}
    {m0_NoPaper m1_NoPaper m2_NoPaper m3_NoPaper m5_NoPaper : Option Value}
    (xL_NoPaper : K.lookup E_NoPaper = some (excClassObj nm_NoPaper q_NoPaper E_NoPaper Nn_NoPaper bs_NoPaper [.ref E_ThrowError, .type "ValueError", .type "Exception", .type "BaseException", .type "object"] true sn_NoPaper sub_NoPaper ab_NoPaper col_NoPaper dd_NoPaper m0_NoPaper m1_NoPaper m2_NoPaper m3_NoPaper m5_NoPaper "ValueError.__new__"))
    (sa_NoPaper : PySem.W.findIn K (.ref E_NoPaper) "__setattr__" = some (some (.builtin "object.__setattr__")))
    (eC_NoPaper : PySem.W.subIn K (.ref E_NoPaper) (.type "BaseException") = some true)
    (tC_NoPaper : PySem.W.typeIn K (.ref E_NoPaper) = some (.type "type"))
    (kC_NoPaper : PySem.W.keepIn K (.ref E_NoPaper) = true)
    (hg_NoPaper : PySem.W.findIn K (.ref E_NoPaper) "__getattribute__" = some (some (.builtin "BaseException.__getattribute__")))
    (hk_NoPaper : PySem.W.findIn K (.ref E_NoPaper) "__getattr__" = some none)
    (hd_NoPaper : PySem.W.hasDictIn K E_NoPaper = true)
    (ha_NoPaper : PySem.W.findIn K (.ref E_NoPaper) "__class__" = some (some (.builtin "object.__class__")))
    (hm_NoPaper : PySem.W.mroIn K E_NoPaper (.type "object") = some true)
    {fi_NoPaper : Addr}
    {oi_NoPaper ki2_NoPaper ci2_NoPaper pi_NoPaper cdi_NoPaper cti_NoPaper : Value}
    {odi_NoPaper ani_NoPaper : Option Addr}
    {sli_NoPaper : Array (Option Value)}
    (i_NoPaper : PySem.W.findIn K (.ref E_NoPaper) "__init__" = some (some (.ref fi_NoPaper)))
    (ti_NoPaper : PySem.W.typeIn K (.ref fi_NoPaper) = some (.type "function"))
    (li_NoPaper : K.lookup fi_NoPaper = some ⟨oi_NoPaper, odi_NoPaper, .func (PySem.W.fnOf "__init__" "NoPaper.__init__" (defArgs si_NoPaper) (defBody si_NoPaper) (defScope si_NoPaper) .none ki2_NoPaper ci2_NoPaper pi_NoPaper ani_NoPaper cdi_NoPaper cti_NoPaper), sli_NoPaper⟩)
    (ci_NoPaper : PySem.W.codeIn K cdi_NoPaper "NoPaper.__init__" = true)
    (ki_NoPaper : PySem.W.keepIn K (.ref fi_NoPaper) = true)
    (nf_NoPaper_at : PySem.W.findIn K (.ref E_NoPaper) "at" = some none)
    (xE_NoFit : PySem.W.excIn K E_NoFit [.type "ValueError", .type "Exception", .type "BaseException", .type "object"] "ValueError.__new__" = true)
    (eC_NoFit : PySem.W.subIn K (.ref E_NoFit) (.type "BaseException") = some true)
    (tC_NoFit : PySem.W.typeIn K (.ref E_NoFit) = some (.type "type"))
    (kC_NoFit : PySem.W.keepIn K (.ref E_NoFit) = true)
    (hg_NoFit : PySem.W.findIn K (.ref E_NoFit) "__getattribute__" = some (some (.builtin "BaseException.__getattribute__")))
    (hk_NoFit : PySem.W.findIn K (.ref E_NoFit) "__getattr__" = some none)
    (hd_NoFit : PySem.W.hasDictIn K E_NoFit = true)
    (ha_NoFit : PySem.W.findIn K (.ref E_NoFit) "__class__" = some (some (.builtin "object.__class__")))
    (hm_NoFit : PySem.W.mroIn K E_NoFit (.type "object") = some true)
    (xE_NoRow : PySem.W.excIn K E_NoRow [.type "ValueError", .type "Exception", .type "BaseException", .type "object"] "ValueError.__new__" = true)
    (eC_NoRow : PySem.W.subIn K (.ref E_NoRow) (.type "BaseException") = some true)
    (tC_NoRow : PySem.W.typeIn K (.ref E_NoRow) = some (.type "type"))
    (kC_NoRow : PySem.W.keepIn K (.ref E_NoRow) = true)
    (hg_NoRow : PySem.W.findIn K (.ref E_NoRow) "__getattribute__" = some (some (.builtin "BaseException.__getattribute__")))
    (hk_NoRow : PySem.W.findIn K (.ref E_NoRow) "__getattr__" = some none)
    (hd_NoRow : PySem.W.hasDictIn K E_NoRow = true)
    (ha_NoRow : PySem.W.findIn K (.ref E_NoRow) "__class__" = some (some (.builtin "object.__class__")))
    (hm_NoRow : PySem.W.mroIn K E_NoRow (.type "object") = some true)
    (hn_ : PySem.W.specialIn K (.builtin "object.__class__") "__get__" = some (some (.builtin "getset_descriptor.__get__")))
    (ht_ : PySem.W.takesIn K (.builtin "object.__class__") = some true)
    (iY_NoRows : PySem.W.isClsIn K E_NoRows = true)
    (tY_NoRows : PySem.W.typeIn K (.ref E_NoRows) = some (.type "type"))
    (s_NoText_NoRows : PySem.W.subIn K (.ref E_NoText) (.ref E_NoRows) = some false)
    (ne_NoText_NoRows : decide (E_NoText = E_NoRows) = false)
    (s_NoProgram_NoRows : PySem.W.subIn K (.ref E_NoProgram) (.ref E_NoRows) = some false)
    (ne_NoProgram_NoRows : decide (E_NoProgram = E_NoRows) = false)
    (s_TooMany_NoRows : PySem.W.subIn K (.ref E_TooMany) (.ref E_NoRows) = some false)
    (ne_TooMany_NoRows : decide (E_TooMany = E_NoRows) = false)
    (s_NoRows_NoRows : PySem.W.subIn K (.ref E_NoRows) (.ref E_NoRows) = some true)
    (s_NoPaper_NoRows : PySem.W.subIn K (.ref E_NoPaper) (.ref E_NoRows) = some false)
    (ne_NoPaper_NoRows : decide (E_NoPaper = E_NoRows) = false)
    (s_NoFit_NoRows : PySem.W.subIn K (.ref E_NoFit) (.ref E_NoRows) = some false)
    (ne_NoFit_NoRows : decide (E_NoFit = E_NoRows) = false)
    (s_NoRow_NoRows : PySem.W.subIn K (.ref E_NoRow) (.ref E_NoRows) = some false)
    (ne_NoRow_NoRows : decide (E_NoRow = E_NoRows) = false)
    (iY_TooMany : PySem.W.isClsIn K E_TooMany = true)
    (tY_TooMany : PySem.W.typeIn K (.ref E_TooMany) = some (.type "type"))
    (s_NoText_TooMany : PySem.W.subIn K (.ref E_NoText) (.ref E_TooMany) = some false)
    (ne_NoText_TooMany : decide (E_NoText = E_TooMany) = false)
    (s_NoProgram_TooMany : PySem.W.subIn K (.ref E_NoProgram) (.ref E_TooMany) = some false)
    (ne_NoProgram_TooMany : decide (E_NoProgram = E_TooMany) = false)
    (s_TooMany_TooMany : PySem.W.subIn K (.ref E_TooMany) (.ref E_TooMany) = some true)
    (s_NoRows_TooMany : PySem.W.subIn K (.ref E_NoRows) (.ref E_TooMany) = some false)
    (ne_NoRows_TooMany : decide (E_NoRows = E_TooMany) = false)
    (s_NoPaper_TooMany : PySem.W.subIn K (.ref E_NoPaper) (.ref E_TooMany) = some false)
    (ne_NoPaper_TooMany : decide (E_NoPaper = E_TooMany) = false)
    (s_NoFit_TooMany : PySem.W.subIn K (.ref E_NoFit) (.ref E_TooMany) = some false)
    (ne_NoFit_TooMany : decide (E_NoFit = E_TooMany) = false)
    (s_NoRow_TooMany : PySem.W.subIn K (.ref E_NoRow) (.ref E_TooMany) = some false)
    (ne_NoRow_TooMany : decide (E_NoRow = E_TooMany) = false)
    (iY_NoProgram : PySem.W.isClsIn K E_NoProgram = true)
    (tY_NoProgram : PySem.W.typeIn K (.ref E_NoProgram) = some (.type "type"))
    (s_NoText_NoProgram : PySem.W.subIn K (.ref E_NoText) (.ref E_NoProgram) = some false)
    (ne_NoText_NoProgram : decide (E_NoText = E_NoProgram) = false)
    (s_NoProgram_NoProgram : PySem.W.subIn K (.ref E_NoProgram) (.ref E_NoProgram) = some true)
    (s_TooMany_NoProgram : PySem.W.subIn K (.ref E_TooMany) (.ref E_NoProgram) = some false)
    (ne_TooMany_NoProgram : decide (E_TooMany = E_NoProgram) = false)
    (s_NoRows_NoProgram : PySem.W.subIn K (.ref E_NoRows) (.ref E_NoProgram) = some false)
    (ne_NoRows_NoProgram : decide (E_NoRows = E_NoProgram) = false)
    (s_NoPaper_NoProgram : PySem.W.subIn K (.ref E_NoPaper) (.ref E_NoProgram) = some false)
    (ne_NoPaper_NoProgram : decide (E_NoPaper = E_NoProgram) = false)
    (s_NoFit_NoProgram : PySem.W.subIn K (.ref E_NoFit) (.ref E_NoProgram) = some false)
    (ne_NoFit_NoProgram : decide (E_NoFit = E_NoProgram) = false)
    (s_NoRow_NoProgram : PySem.W.subIn K (.ref E_NoRow) (.ref E_NoProgram) = some false)
    (ne_NoRow_NoProgram : decide (E_NoRow = E_NoProgram) = false)
    (iY_NoText : PySem.W.isClsIn K E_NoText = true)
    (tY_NoText : PySem.W.typeIn K (.ref E_NoText) = some (.type "type"))
    (s_NoText_NoText : PySem.W.subIn K (.ref E_NoText) (.ref E_NoText) = some true)
    (s_NoProgram_NoText : PySem.W.subIn K (.ref E_NoProgram) (.ref E_NoText) = some false)
    (ne_NoProgram_NoText : decide (E_NoProgram = E_NoText) = false)
    (s_TooMany_NoText : PySem.W.subIn K (.ref E_TooMany) (.ref E_NoText) = some false)
    (ne_TooMany_NoText : decide (E_TooMany = E_NoText) = false)
    (s_NoRows_NoText : PySem.W.subIn K (.ref E_NoRows) (.ref E_NoText) = some false)
    (ne_NoRows_NoText : decide (E_NoRows = E_NoText) = false)
    (s_NoPaper_NoText : PySem.W.subIn K (.ref E_NoPaper) (.ref E_NoText) = some false)
    (ne_NoPaper_NoText : decide (E_NoPaper = E_NoText) = false)
    (s_NoFit_NoText : PySem.W.subIn K (.ref E_NoFit) (.ref E_NoText) = some false)
    (ne_NoFit_NoText : decide (E_NoFit = E_NoText) = false)
    (s_NoRow_NoText : PySem.W.subIn K (.ref E_NoRow) (.ref E_NoText) = some false)
    (ne_NoRow_NoText : decide (E_NoRow = E_NoText) = false)
    (iY_NoRow : PySem.W.isClsIn K E_NoRow = true)
    (tY_NoRow : PySem.W.typeIn K (.ref E_NoRow) = some (.type "type"))
    (s_NoText_NoRow : PySem.W.subIn K (.ref E_NoText) (.ref E_NoRow) = some false)
    (ne_NoText_NoRow : decide (E_NoText = E_NoRow) = false)
    (s_NoProgram_NoRow : PySem.W.subIn K (.ref E_NoProgram) (.ref E_NoRow) = some false)
    (ne_NoProgram_NoRow : decide (E_NoProgram = E_NoRow) = false)
    (s_TooMany_NoRow : PySem.W.subIn K (.ref E_TooMany) (.ref E_NoRow) = some false)
    (ne_TooMany_NoRow : decide (E_TooMany = E_NoRow) = false)
    (s_NoRows_NoRow : PySem.W.subIn K (.ref E_NoRows) (.ref E_NoRow) = some false)
    (ne_NoRows_NoRow : decide (E_NoRows = E_NoRow) = false)
    (s_NoPaper_NoRow : PySem.W.subIn K (.ref E_NoPaper) (.ref E_NoRow) = some false)
    (ne_NoPaper_NoRow : decide (E_NoPaper = E_NoRow) = false)
    (s_NoFit_NoRow : PySem.W.subIn K (.ref E_NoFit) (.ref E_NoRow) = some false)
    (ne_NoFit_NoRow : decide (E_NoFit = E_NoRow) = false)
    (s_NoRow_NoRow : PySem.W.subIn K (.ref E_NoRow) (.ref E_NoRow) = some true)
    (iY_NoFit : PySem.W.isClsIn K E_NoFit = true)
    (tY_NoFit : PySem.W.typeIn K (.ref E_NoFit) = some (.type "type"))
    (s_NoText_NoFit : PySem.W.subIn K (.ref E_NoText) (.ref E_NoFit) = some false)
    (ne_NoText_NoFit : decide (E_NoText = E_NoFit) = false)
    (s_NoProgram_NoFit : PySem.W.subIn K (.ref E_NoProgram) (.ref E_NoFit) = some false)
    (ne_NoProgram_NoFit : decide (E_NoProgram = E_NoFit) = false)
    (s_TooMany_NoFit : PySem.W.subIn K (.ref E_TooMany) (.ref E_NoFit) = some false)
    (ne_TooMany_NoFit : decide (E_TooMany = E_NoFit) = false)
    (s_NoRows_NoFit : PySem.W.subIn K (.ref E_NoRows) (.ref E_NoFit) = some false)
    (ne_NoRows_NoFit : decide (E_NoRows = E_NoFit) = false)
    (s_NoPaper_NoFit : PySem.W.subIn K (.ref E_NoPaper) (.ref E_NoFit) = some false)
    (ne_NoPaper_NoFit : decide (E_NoPaper = E_NoFit) = false)
    (s_NoFit_NoFit : PySem.W.subIn K (.ref E_NoFit) (.ref E_NoFit) = some true)
    (s_NoRow_NoFit : PySem.W.subIn K (.ref E_NoRow) (.ref E_NoFit) = some false)
    (ne_NoRow_NoFit : decide (E_NoRow = E_NoFit) = false)
    (iY_NoPaper : PySem.W.isClsIn K E_NoPaper = true)
    (tY_NoPaper : PySem.W.typeIn K (.ref E_NoPaper) = some (.type "type"))
    (s_NoText_NoPaper : PySem.W.subIn K (.ref E_NoText) (.ref E_NoPaper) = some false)
    (ne_NoText_NoPaper : decide (E_NoText = E_NoPaper) = false)
    (s_NoProgram_NoPaper : PySem.W.subIn K (.ref E_NoProgram) (.ref E_NoPaper) = some false)
    (ne_NoProgram_NoPaper : decide (E_NoProgram = E_NoPaper) = false)
    (s_TooMany_NoPaper : PySem.W.subIn K (.ref E_TooMany) (.ref E_NoPaper) = some false)
    (ne_TooMany_NoPaper : decide (E_TooMany = E_NoPaper) = false)
    (s_NoRows_NoPaper : PySem.W.subIn K (.ref E_NoRows) (.ref E_NoPaper) = some false)
    (ne_NoRows_NoPaper : decide (E_NoRows = E_NoPaper) = false)
    (s_NoPaper_NoPaper : PySem.W.subIn K (.ref E_NoPaper) (.ref E_NoPaper) = some true)
    (s_NoFit_NoPaper : PySem.W.subIn K (.ref E_NoFit) (.ref E_NoPaper) = some false)
    (ne_NoFit_NoPaper : decide (E_NoFit = E_NoPaper) = false)
    (s_NoRow_NoPaper : PySem.W.subIn K (.ref E_NoRow) (.ref E_NoPaper) = some false)
    (ne_NoRow_NoPaper : decide (E_NoRow = E_NoPaper) = false)
    (iY_ThrowError : PySem.W.isClsIn K E_ThrowError = true)
    (tY_ThrowError : PySem.W.typeIn K (.ref E_ThrowError) = some (.type "type"))
    (s_NoText_ThrowError : PySem.W.subIn K (.ref E_NoText) (.ref E_ThrowError) = some true)
    (s_NoProgram_ThrowError : PySem.W.subIn K (.ref E_NoProgram) (.ref E_ThrowError) = some true)
    (s_TooMany_ThrowError : PySem.W.subIn K (.ref E_TooMany) (.ref E_ThrowError) = some true)
    (s_NoRows_ThrowError : PySem.W.subIn K (.ref E_NoRows) (.ref E_ThrowError) = some true)
    (s_NoPaper_ThrowError : PySem.W.subIn K (.ref E_NoPaper) (.ref E_ThrowError) = some true)
    (s_NoFit_ThrowError : PySem.W.subIn K (.ref E_NoFit) (.ref E_ThrowError) = some true)
    (s_NoRow_ThrowError : PySem.W.subIn K (.ref E_NoRow) (.ref E_ThrowError) = some true)
    (ob_NoText_ValueError : PySem.W.subIn K (.ref E_NoText) (.type "ValueError") = some true)
    (ob_NoProgram_ValueError : PySem.W.subIn K (.ref E_NoProgram) (.type "ValueError") = some true)
    (ob_TooMany_ValueError : PySem.W.subIn K (.ref E_TooMany) (.type "ValueError") = some true)
    (ob_NoRows_ValueError : PySem.W.subIn K (.ref E_NoRows) (.type "ValueError") = some true)
    (ob_NoPaper_ValueError : PySem.W.subIn K (.ref E_NoPaper) (.type "ValueError") = some true)
    (ob_NoFit_ValueError : PySem.W.subIn K (.ref E_NoFit) (.type "ValueError") = some true)
    (ob_NoRow_ValueError : PySem.W.subIn K (.ref E_NoRow) (.type "ValueError") = some true)
    : ∃ fd : FuncData, (∀ (s : Shared) (v : Value), BindsTo s fd ⟨[v], []⟩ [("_law_script", v)]) ∧ ∀ base : Heap, K.In base → base.Ns mainGlobals mg → FnG l.prog w K mg base CX0 4 fa fd ["_law_script"] (spLaw K) := by
  have e := hfa.symm.trans (PySem.W.mg_of X G a6)
  cases e
  have XC_NoText : ExcC K E_NoText := ⟨hg_NoText, hk_NoText, eC_NoText, hd_NoText, ha_NoText, hn_, ht_, hm_NoText⟩
  have XC_NoProgram : ExcC K E_NoProgram := ⟨hg_NoProgram, hk_NoProgram, eC_NoProgram, hd_NoProgram, ha_NoProgram, hn_, ht_, hm_NoProgram⟩
  have XC_TooMany : ExcC K E_TooMany := ⟨hg_TooMany, hk_TooMany, eC_TooMany, hd_TooMany, ha_TooMany, hn_, ht_, hm_TooMany⟩
  have XC_NoRows : ExcC K E_NoRows := ⟨hg_NoRows, hk_NoRows, eC_NoRows, hd_NoRows, ha_NoRows, hn_, ht_, hm_NoRows⟩
  have XC_NoPaper : ExcC K E_NoPaper := ⟨hg_NoPaper, hk_NoPaper, eC_NoPaper, hd_NoPaper, ha_NoPaper, hn_, ht_, hm_NoPaper⟩
  have XC_NoFit : ExcC K E_NoFit := ⟨hg_NoFit, hk_NoFit, eC_NoFit, hd_NoFit, ha_NoFit, hn_, ht_, hm_NoFit⟩
  have XC_NoRow : ExcC K E_NoRow := ⟨hg_NoRow, hk_NoRow, eC_NoRow, hd_NoRow, ha_NoRow, hn_, ht_, hm_NoRow⟩
  have T : Tx K mg := ⟨PySem.W.mg_none_of X G z0, PySem.W.mg_none_of X G z1, PySem.W.mg_none_of X G z2, PySem.W.mg_none_of X G z3, PySem.W.mg_none_of X G z4, PySem.W.mg_none_of X G z5, PySem.W.mg_none_of X G z6, isx_mk (PySem.W.mg_of X G n_NoRows) (And.intro (⟨E_NoText, n_NoText, (kit_mk iY_NoRows tY_NoRows s_NoText_NoRows (kit_ne ne_NoText_NoRows)), XC_NoText⟩) (And.intro (⟨E_NoProgram, n_NoProgram, (kit_mk iY_NoRows tY_NoRows s_NoProgram_NoRows (kit_ne ne_NoProgram_NoRows)), XC_NoProgram⟩) (And.intro (⟨E_TooMany, n_TooMany, (kit_mk iY_NoRows tY_NoRows s_TooMany_NoRows (kit_ne ne_TooMany_NoRows)), XC_TooMany⟩) (And.intro (⟨E_NoRows, n_NoRows, (kit_mk iY_NoRows tY_NoRows s_NoRows_NoRows fun _ => rfl), XC_NoRows⟩) (And.intro (⟨E_NoPaper, n_NoPaper, (kit_mk iY_NoRows tY_NoRows s_NoPaper_NoRows (kit_ne ne_NoPaper_NoRows)), XC_NoPaper⟩) (And.intro (⟨E_NoFit, n_NoFit, (kit_mk iY_NoRows tY_NoRows s_NoFit_NoRows (kit_ne ne_NoFit_NoRows)), XC_NoFit⟩) (And.intro (⟨E_NoRow, n_NoRow, (kit_mk iY_NoRows tY_NoRows s_NoRow_NoRows (kit_ne ne_NoRow_NoRows)), XC_NoRow⟩) trivial))))))), isx_mk (PySem.W.mg_of X G n_TooMany) (And.intro (⟨E_NoText, n_NoText, (kit_mk iY_TooMany tY_TooMany s_NoText_TooMany (kit_ne ne_NoText_TooMany)), XC_NoText⟩) (And.intro (⟨E_NoProgram, n_NoProgram, (kit_mk iY_TooMany tY_TooMany s_NoProgram_TooMany (kit_ne ne_NoProgram_TooMany)), XC_NoProgram⟩) (And.intro (⟨E_TooMany, n_TooMany, (kit_mk iY_TooMany tY_TooMany s_TooMany_TooMany fun _ => rfl), XC_TooMany⟩) (And.intro (⟨E_NoRows, n_NoRows, (kit_mk iY_TooMany tY_TooMany s_NoRows_TooMany (kit_ne ne_NoRows_TooMany)), XC_NoRows⟩) (And.intro (⟨E_NoPaper, n_NoPaper, (kit_mk iY_TooMany tY_TooMany s_NoPaper_TooMany (kit_ne ne_NoPaper_TooMany)), XC_NoPaper⟩) (And.intro (⟨E_NoFit, n_NoFit, (kit_mk iY_TooMany tY_TooMany s_NoFit_TooMany (kit_ne ne_NoFit_TooMany)), XC_NoFit⟩) (And.intro (⟨E_NoRow, n_NoRow, (kit_mk iY_TooMany tY_TooMany s_NoRow_TooMany (kit_ne ne_NoRow_TooMany)), XC_NoRow⟩) trivial))))))), isx_mk (PySem.W.mg_of X G n_NoProgram) (And.intro (⟨E_NoText, n_NoText, (kit_mk iY_NoProgram tY_NoProgram s_NoText_NoProgram (kit_ne ne_NoText_NoProgram)), XC_NoText⟩) (And.intro (⟨E_NoProgram, n_NoProgram, (kit_mk iY_NoProgram tY_NoProgram s_NoProgram_NoProgram fun _ => rfl), XC_NoProgram⟩) (And.intro (⟨E_TooMany, n_TooMany, (kit_mk iY_NoProgram tY_NoProgram s_TooMany_NoProgram (kit_ne ne_TooMany_NoProgram)), XC_TooMany⟩) (And.intro (⟨E_NoRows, n_NoRows, (kit_mk iY_NoProgram tY_NoProgram s_NoRows_NoProgram (kit_ne ne_NoRows_NoProgram)), XC_NoRows⟩) (And.intro (⟨E_NoPaper, n_NoPaper, (kit_mk iY_NoProgram tY_NoProgram s_NoPaper_NoProgram (kit_ne ne_NoPaper_NoProgram)), XC_NoPaper⟩) (And.intro (⟨E_NoFit, n_NoFit, (kit_mk iY_NoProgram tY_NoProgram s_NoFit_NoProgram (kit_ne ne_NoFit_NoProgram)), XC_NoFit⟩) (And.intro (⟨E_NoRow, n_NoRow, (kit_mk iY_NoProgram tY_NoProgram s_NoRow_NoProgram (kit_ne ne_NoRow_NoProgram)), XC_NoRow⟩) trivial))))))), isx_mk (PySem.W.mg_of X G n_NoText) (And.intro (⟨E_NoText, n_NoText, (kit_mk iY_NoText tY_NoText s_NoText_NoText fun _ => rfl), XC_NoText⟩) (And.intro (⟨E_NoProgram, n_NoProgram, (kit_mk iY_NoText tY_NoText s_NoProgram_NoText (kit_ne ne_NoProgram_NoText)), XC_NoProgram⟩) (And.intro (⟨E_TooMany, n_TooMany, (kit_mk iY_NoText tY_NoText s_TooMany_NoText (kit_ne ne_TooMany_NoText)), XC_TooMany⟩) (And.intro (⟨E_NoRows, n_NoRows, (kit_mk iY_NoText tY_NoText s_NoRows_NoText (kit_ne ne_NoRows_NoText)), XC_NoRows⟩) (And.intro (⟨E_NoPaper, n_NoPaper, (kit_mk iY_NoText tY_NoText s_NoPaper_NoText (kit_ne ne_NoPaper_NoText)), XC_NoPaper⟩) (And.intro (⟨E_NoFit, n_NoFit, (kit_mk iY_NoText tY_NoText s_NoFit_NoText (kit_ne ne_NoFit_NoText)), XC_NoFit⟩) (And.intro (⟨E_NoRow, n_NoRow, (kit_mk iY_NoText tY_NoText s_NoRow_NoText (kit_ne ne_NoRow_NoText)), XC_NoRow⟩) trivial))))))), isx_mk (PySem.W.mg_of X G n_NoRow) (And.intro (⟨E_NoText, n_NoText, (kit_mk iY_NoRow tY_NoRow s_NoText_NoRow (kit_ne ne_NoText_NoRow)), XC_NoText⟩) (And.intro (⟨E_NoProgram, n_NoProgram, (kit_mk iY_NoRow tY_NoRow s_NoProgram_NoRow (kit_ne ne_NoProgram_NoRow)), XC_NoProgram⟩) (And.intro (⟨E_TooMany, n_TooMany, (kit_mk iY_NoRow tY_NoRow s_TooMany_NoRow (kit_ne ne_TooMany_NoRow)), XC_TooMany⟩) (And.intro (⟨E_NoRows, n_NoRows, (kit_mk iY_NoRow tY_NoRow s_NoRows_NoRow (kit_ne ne_NoRows_NoRow)), XC_NoRows⟩) (And.intro (⟨E_NoPaper, n_NoPaper, (kit_mk iY_NoRow tY_NoRow s_NoPaper_NoRow (kit_ne ne_NoPaper_NoRow)), XC_NoPaper⟩) (And.intro (⟨E_NoFit, n_NoFit, (kit_mk iY_NoRow tY_NoRow s_NoFit_NoRow (kit_ne ne_NoFit_NoRow)), XC_NoFit⟩) (And.intro (⟨E_NoRow, n_NoRow, (kit_mk iY_NoRow tY_NoRow s_NoRow_NoRow fun _ => rfl), XC_NoRow⟩) trivial))))))), isx_mk (PySem.W.mg_of X G n_NoFit) (And.intro (⟨E_NoText, n_NoText, (kit_mk iY_NoFit tY_NoFit s_NoText_NoFit (kit_ne ne_NoText_NoFit)), XC_NoText⟩) (And.intro (⟨E_NoProgram, n_NoProgram, (kit_mk iY_NoFit tY_NoFit s_NoProgram_NoFit (kit_ne ne_NoProgram_NoFit)), XC_NoProgram⟩) (And.intro (⟨E_TooMany, n_TooMany, (kit_mk iY_NoFit tY_NoFit s_TooMany_NoFit (kit_ne ne_TooMany_NoFit)), XC_TooMany⟩) (And.intro (⟨E_NoRows, n_NoRows, (kit_mk iY_NoFit tY_NoFit s_NoRows_NoFit (kit_ne ne_NoRows_NoFit)), XC_NoRows⟩) (And.intro (⟨E_NoPaper, n_NoPaper, (kit_mk iY_NoFit tY_NoFit s_NoPaper_NoFit (kit_ne ne_NoPaper_NoFit)), XC_NoPaper⟩) (And.intro (⟨E_NoFit, n_NoFit, (kit_mk iY_NoFit tY_NoFit s_NoFit_NoFit fun _ => rfl), XC_NoFit⟩) (And.intro (⟨E_NoRow, n_NoRow, (kit_mk iY_NoFit tY_NoFit s_NoRow_NoFit (kit_ne ne_NoRow_NoFit)), XC_NoRow⟩) trivial))))))), isx_mk (PySem.W.mg_of X G n_NoPaper) (And.intro (⟨E_NoText, n_NoText, (kit_mk iY_NoPaper tY_NoPaper s_NoText_NoPaper (kit_ne ne_NoText_NoPaper)), XC_NoText⟩) (And.intro (⟨E_NoProgram, n_NoProgram, (kit_mk iY_NoPaper tY_NoPaper s_NoProgram_NoPaper (kit_ne ne_NoProgram_NoPaper)), XC_NoProgram⟩) (And.intro (⟨E_TooMany, n_TooMany, (kit_mk iY_NoPaper tY_NoPaper s_TooMany_NoPaper (kit_ne ne_TooMany_NoPaper)), XC_TooMany⟩) (And.intro (⟨E_NoRows, n_NoRows, (kit_mk iY_NoPaper tY_NoPaper s_NoRows_NoPaper (kit_ne ne_NoRows_NoPaper)), XC_NoRows⟩) (And.intro (⟨E_NoPaper, n_NoPaper, (kit_mk iY_NoPaper tY_NoPaper s_NoPaper_NoPaper fun _ => rfl), XC_NoPaper⟩) (And.intro (⟨E_NoFit, n_NoFit, (kit_mk iY_NoPaper tY_NoPaper s_NoFit_NoPaper (kit_ne ne_NoFit_NoPaper)), XC_NoFit⟩) (And.intro (⟨E_NoRow, n_NoRow, (kit_mk iY_NoPaper tY_NoPaper s_NoRow_NoPaper (kit_ne ne_NoRow_NoPaper)), XC_NoRow⟩) trivial))))))), isx_mk (PySem.W.mg_of X G n_ThrowError) (And.intro (⟨E_NoText, n_NoText, (kit_mk iY_ThrowError tY_ThrowError s_NoText_ThrowError fun _ => rfl), XC_NoText⟩) (And.intro (⟨E_NoProgram, n_NoProgram, (kit_mk iY_ThrowError tY_ThrowError s_NoProgram_ThrowError fun _ => rfl), XC_NoProgram⟩) (And.intro (⟨E_TooMany, n_TooMany, (kit_mk iY_ThrowError tY_ThrowError s_TooMany_ThrowError fun _ => rfl), XC_TooMany⟩) (And.intro (⟨E_NoRows, n_NoRows, (kit_mk iY_ThrowError tY_ThrowError s_NoRows_ThrowError fun _ => rfl), XC_NoRows⟩) (And.intro (⟨E_NoPaper, n_NoPaper, (kit_mk iY_ThrowError tY_ThrowError s_NoPaper_ThrowError fun _ => rfl), XC_NoPaper⟩) (And.intro (⟨E_NoFit, n_NoFit, (kit_mk iY_ThrowError tY_ThrowError s_NoFit_ThrowError fun _ => rfl), XC_NoFit⟩) (And.intro (⟨E_NoRow, n_NoRow, (kit_mk iY_ThrowError tY_ThrowError s_NoRow_ThrowError fun _ => rfl), XC_NoRow⟩) trivial))))))), isxB_mk (And.intro (⟨E_NoText, n_NoText, kit_tyx (by decide +kernel) ob_NoText_ValueError, XC_NoText⟩) (And.intro (⟨E_NoProgram, n_NoProgram, kit_tyx (by decide +kernel) ob_NoProgram_ValueError, XC_NoProgram⟩) (And.intro (⟨E_TooMany, n_TooMany, kit_tyx (by decide +kernel) ob_TooMany_ValueError, XC_TooMany⟩) (And.intro (⟨E_NoRows, n_NoRows, kit_tyx (by decide +kernel) ob_NoRows_ValueError, XC_NoRows⟩) (And.intro (⟨E_NoPaper, n_NoPaper, kit_tyx (by decide +kernel) ob_NoPaper_ValueError, XC_NoPaper⟩) (And.intro (⟨E_NoFit, n_NoFit, kit_tyx (by decide +kernel) ob_NoFit_ValueError, XC_NoFit⟩) (And.intro (⟨E_NoRow, n_NoRow, kit_tyx (by decide +kernel) ob_NoRow_ValueError, XC_NoRow⟩) trivial))))))), fun x hx => by
    simp only [List.mem_cons, List.not_mem_nil, or_false] at hx
    rcases hx with rfl
    · exact xcf_mk n_NoPaper XC_NoPaper (And.intro nf_NoPaper_at trivial), fun x hx => by
    simp only [List.mem_cons, List.not_mem_nil, or_false] at hx
    rcases hx with rfl
    · exact xcf_mk n_TooMany XC_TooMany (And.intro nf_TooMany_most trivial), fun x hx => by
    simp only [List.mem_cons, List.not_mem_nil, or_false] at hx
    rcases hx with rfl | rfl
    · exact xcf_mk n_NoText XC_NoText (And.intro nf_NoText_row trivial)
    · exact xcf_mk n_NoProgram XC_NoProgram (And.intro nf_NoProgram_row trivial), fun x hx => by
    simp only [List.mem_cons, List.not_mem_nil, or_false] at hx
    rcases hx with rfl
    · exact xcf_mk n_NoProgram XC_NoProgram (And.intro nf_NoProgram_word trivial)⟩
  have F1 := fun_mk (st := s_law_deal) l1 c1 k1
  have b1 := F1.binds (ps := ["_law_script", "_law_base"]) fun _ _ _ _ _ _ us hl => match us, hl with | [_, _], _ => rfl
  have m1 := PySem.W.mg_of X G a1
  have F2 := fun_mk (st := s_law_made) l2 c2 k2
  have b2 := F2.binds (ps := ["_law_n", "_law_word"]) fun _ _ _ _ _ _ us hl => match us, hl with | [_, _], _ => rfl
  have m2 := PySem.W.mg_of X G a2
  have F3 := fun_mk (st := s_law_draw) l3 c3 k3
  have b3 := F3.binds (ps := ["_law_deal_here", "_law_many"]) fun _ _ _ _ _ _ us hl => match us, hl with | [_, _], _ => rfl
  have m3 := PySem.W.mg_of X G a3
  have F4 := fun_mk (st := s_law_fields) l4 c4 k4
  have b4 := F4.binds (ps := ["_law_made_here"]) fun _ _ _ _ _ _ us hl => match us, hl with | [_], _ => rfl
  have m4 := PySem.W.mg_of X G a4
  have F5 := fun_mk (st := s_law_sorts) l5 c5 k5
  have b5 := F5.binds (ps := ["_law_e"]) fun _ _ _ _ _ _ us hl => match us, hl with | [_], _ => rfl
  have m5 := PySem.W.mg_of X G a5
  have F6 := fun_mk (st := s_law) l6 c6 k6
  refine ⟨PySem.W.fnOf "law" "law" (defArgs s_law) (defBody s_law) (defScope s_law) .none kV6 dc6 pm6 an6 cd6 ct6, fun s v => .of_eq rfl, fun base _ _ => ?_⟩
  have O_NoText : OexC K E_NoText := ⟨⟨_, _, _, _, _, _, _, _, _, _, _, _, _, _, _, xL_NoText, show PySem.HandSPX.refsVE [.type "ValueError", .type "Exception", .type "BaseException", .type "object"] = true by decide +kernel⟩, sa_NoText, eC_NoText, tC_NoText, kC_NoText⟩
  have Fi_NoText := fun_mk (st := si_NoText) li_NoText ci_NoText ki_NoText
  have bi_NoText := Fi_NoText.binds (ps := ["self", "row"]) fun _ _ _ _ _ _ us hl => match us, hl with | [_, _], _ => rfl
  have N_NoText : Exn l.prog w K mg base "NoText" ["row"] := ⟨⟨E_NoText, fi_NoText, _, _, PySem.W.mg_of X G n_NoText, n_NoText, O_NoText, i_NoText, ti_NoText, oki_NoText Fi_NoText O_NoText nf_NoText_row, bi_NoText⟩⟩
  have O_NoProgram : OexC K E_NoProgram := ⟨⟨_, _, _, _, _, _, _, _, _, _, _, _, _, _, _, xL_NoProgram, show PySem.HandSPX.refsVE [.type "ValueError", .type "Exception", .type "BaseException", .type "object"] = true by decide +kernel⟩, sa_NoProgram, eC_NoProgram, tC_NoProgram, kC_NoProgram⟩
  have Fi_NoProgram := fun_mk (st := si_NoProgram) li_NoProgram ci_NoProgram ki_NoProgram
  have bi_NoProgram := Fi_NoProgram.binds (ps := ["self", "word", "row"]) fun _ _ _ _ _ _ us hl => match us, hl with | [_, _, _], _ => rfl
  have N_NoProgram : Exn l.prog w K mg base "NoProgram" ["word", "row"] := ⟨⟨E_NoProgram, fi_NoProgram, _, _, PySem.W.mg_of X G n_NoProgram, n_NoProgram, O_NoProgram, i_NoProgram, ti_NoProgram, oki_NoProgram Fi_NoProgram O_NoProgram nf_NoProgram_word nf_NoProgram_row, bi_NoProgram⟩⟩
  have O_TooMany : OexC K E_TooMany := ⟨⟨_, _, _, _, _, _, _, _, _, _, _, _, _, _, _, xL_TooMany, show PySem.HandSPX.refsVE [.type "ValueError", .type "Exception", .type "BaseException", .type "object"] = true by decide +kernel⟩, sa_TooMany, eC_TooMany, tC_TooMany, kC_TooMany⟩
  have Fi_TooMany := fun_mk (st := si_TooMany) li_TooMany ci_TooMany ki_TooMany
  have bi_TooMany := Fi_TooMany.binds (ps := ["self", "most"]) fun _ _ _ _ _ _ us hl => match us, hl with | [_, _], _ => rfl
  have N_TooMany : Exn l.prog w K mg base "TooMany" ["most"] := ⟨⟨E_TooMany, fi_TooMany, _, _, PySem.W.mg_of X G n_TooMany, n_TooMany, O_TooMany, i_TooMany, ti_TooMany, oki_TooMany Fi_TooMany O_TooMany nf_TooMany_most, bi_TooMany⟩⟩
  have N_NoRows : Exn0 K mg "NoRows" := ⟨⟨E_NoRows, _, _, _, _, PySem.W.mg_of X G n_NoRows, n_NoRows, PySem.F.excBase_ValueError, xE_NoRows, kC_NoRows, eC_NoRows, tC_NoRows⟩⟩
  have O_NoPaper : OexC K E_NoPaper := ⟨⟨_, _, _, _, _, _, _, _, _, _, _, _, _, _, _, xL_NoPaper, show PySem.HandSPX.refsVE [.type "ValueError", .type "Exception", .type "BaseException", .type "object"] = true by decide +kernel⟩, sa_NoPaper, eC_NoPaper, tC_NoPaper, kC_NoPaper⟩
  have Fi_NoPaper := fun_mk (st := si_NoPaper) li_NoPaper ci_NoPaper ki_NoPaper
  have bi_NoPaper := Fi_NoPaper.binds (ps := ["self", "at"]) fun _ _ _ _ _ _ us hl => match us, hl with | [_, _], _ => rfl
  have N_NoPaper : Exn l.prog w K mg base "NoPaper" ["at"] := ⟨⟨E_NoPaper, fi_NoPaper, _, _, PySem.W.mg_of X G n_NoPaper, n_NoPaper, O_NoPaper, i_NoPaper, ti_NoPaper, oki_NoPaper Fi_NoPaper O_NoPaper nf_NoPaper_at, bi_NoPaper⟩⟩
  have N_NoFit : Exn0 K mg "NoFit" := ⟨⟨E_NoFit, _, _, _, _, PySem.W.mg_of X G n_NoFit, n_NoFit, PySem.F.excBase_ValueError, xE_NoFit, kC_NoFit, eC_NoFit, tC_NoFit⟩⟩
  have N_NoRow : Exn0 K mg "NoRow" := ⟨⟨E_NoRow, _, _, _, _, PySem.W.mg_of X G n_NoRow, n_NoRow, PySem.F.excBase_ValueError, xE_NoRow, kC_NoRow, eC_NoRow, tC_NoRow⟩⟩
  have C_law_made := ok_law_made (P := l.prog) (w := w) (base := base) T N_NoRow N_NoFit N_NoPaper N_NoRows N_TooMany N_NoProgram N_NoText F2 m2 b2
  have C_law_draw := ok_law_draw (P := l.prog) (w := w) (base := base) T  F3 m3 b3
  have C_law_fields := ok_law_fields (P := l.prog) (w := w) (base := base) T  F4 m4 b4
  have C_law_sorts := ok_law_sorts (P := l.prog) (w := w) (base := base) T  F5 m5 b5
  exact ok_law T C_law_draw C_law_made C_law_sorts C_law_fields F6 (ok_law_deal T F1) m1 F1.kp b1
end K10
open PySem PySem.W PyProof.Rows
set_option maxRecDepth 100000 in
set_option maxHeartbeats 0 in
theorem PySem.Challenge.cw_pairedthrows_k10_refusals_holds : PySem.Challenge.rw_pairedthrows_k10_refusals.Holds := by
  w_on; o_law; k_head; (case hw => w_witness2)
  k_fill
  refine Pq.walk_law (l := PySem.Challenge.rw_pairedthrows_k10_refusals) (k := 4) rfl rfl ⟨⟨rfl, by decide, by decide⟩, rfl⟩ (fun w h Y => PySem.W.kIn_of Y) ?F
  case F =>
    intro w mg fa h KX G hmg
    refine' K10.all_mk KX G hmg ?a1 ?l1 ?c1 ?k1 ?a2 ?l2 ?c2 ?k2 ?a3 ?l3 ?c3 ?k3 ?a4 ?l4 ?c4 ?k4 ?a5 ?l5 ?c5 ?k5 ?a6 ?l6 ?c6 ?k6 ?z0 ?z1 ?z2 ?z3 ?z4 ?z5 ?z6 ?n_NoText ?n_ThrowError ?n_NoProgram ?n_TooMany ?n_NoRows ?n_NoPaper ?n_NoFit ?n_NoRow ?xL_NoText ?sa_NoText ?eC_NoText ?tC_NoText ?kC_NoText ?hg_NoText ?hk_NoText ?hd_NoText ?ha_NoText ?hm_NoText ?i_NoText ?ti_NoText ?li_NoText ?ci_NoText ?ki_NoText ?nf_NoText_row ?xL_NoProgram ?sa_NoProgram ?eC_NoProgram ?tC_NoProgram ?kC_NoProgram ?hg_NoProgram ?hk_NoProgram ?hd_NoProgram ?ha_NoProgram ?hm_NoProgram ?i_NoProgram ?ti_NoProgram ?li_NoProgram ?ci_NoProgram ?ki_NoProgram ?nf_NoProgram_word ?nf_NoProgram_row ?xL_TooMany ?sa_TooMany ?eC_TooMany ?tC_TooMany ?kC_TooMany ?hg_TooMany ?hk_TooMany ?hd_TooMany ?ha_TooMany ?hm_TooMany ?i_TooMany ?ti_TooMany ?li_TooMany ?ci_TooMany ?ki_TooMany ?nf_TooMany_most ?xE_NoRows ?eC_NoRows ?tC_NoRows ?kC_NoRows ?hg_NoRows ?hk_NoRows ?hd_NoRows ?ha_NoRows ?hm_NoRows ?xL_NoPaper ?sa_NoPaper ?eC_NoPaper ?tC_NoPaper ?kC_NoPaper ?hg_NoPaper ?hk_NoPaper ?hd_NoPaper ?ha_NoPaper ?hm_NoPaper ?i_NoPaper ?ti_NoPaper ?li_NoPaper ?ci_NoPaper ?ki_NoPaper ?nf_NoPaper_at ?xE_NoFit ?eC_NoFit ?tC_NoFit ?kC_NoFit ?hg_NoFit ?hk_NoFit ?hd_NoFit ?ha_NoFit ?hm_NoFit ?xE_NoRow ?eC_NoRow ?tC_NoRow ?kC_NoRow ?hg_NoRow ?hk_NoRow ?hd_NoRow ?ha_NoRow ?hm_NoRow ?hn_ ?ht_ ?iY_NoRows ?tY_NoRows ?s_NoText_NoRows ?ne_NoText_NoRows ?s_NoProgram_NoRows ?ne_NoProgram_NoRows ?s_TooMany_NoRows ?ne_TooMany_NoRows ?s_NoRows_NoRows ?s_NoPaper_NoRows ?ne_NoPaper_NoRows ?s_NoFit_NoRows ?ne_NoFit_NoRows ?s_NoRow_NoRows ?ne_NoRow_NoRows ?iY_TooMany ?tY_TooMany ?s_NoText_TooMany ?ne_NoText_TooMany ?s_NoProgram_TooMany ?ne_NoProgram_TooMany ?s_TooMany_TooMany ?s_NoRows_TooMany ?ne_NoRows_TooMany ?s_NoPaper_TooMany ?ne_NoPaper_TooMany ?s_NoFit_TooMany ?ne_NoFit_TooMany ?s_NoRow_TooMany ?ne_NoRow_TooMany ?iY_NoProgram ?tY_NoProgram ?s_NoText_NoProgram ?ne_NoText_NoProgram ?s_NoProgram_NoProgram ?s_TooMany_NoProgram ?ne_TooMany_NoProgram ?s_NoRows_NoProgram ?ne_NoRows_NoProgram ?s_NoPaper_NoProgram ?ne_NoPaper_NoProgram ?s_NoFit_NoProgram ?ne_NoFit_NoProgram ?s_NoRow_NoProgram ?ne_NoRow_NoProgram ?iY_NoText ?tY_NoText ?s_NoText_NoText ?s_NoProgram_NoText ?ne_NoProgram_NoText ?s_TooMany_NoText ?ne_TooMany_NoText ?s_NoRows_NoText ?ne_NoRows_NoText ?s_NoPaper_NoText ?ne_NoPaper_NoText ?s_NoFit_NoText ?ne_NoFit_NoText ?s_NoRow_NoText ?ne_NoRow_NoText ?iY_NoRow ?tY_NoRow ?s_NoText_NoRow ?ne_NoText_NoRow ?s_NoProgram_NoRow ?ne_NoProgram_NoRow ?s_TooMany_NoRow ?ne_TooMany_NoRow ?s_NoRows_NoRow ?ne_NoRows_NoRow ?s_NoPaper_NoRow ?ne_NoPaper_NoRow ?s_NoFit_NoRow ?ne_NoFit_NoRow ?s_NoRow_NoRow ?iY_NoFit ?tY_NoFit ?s_NoText_NoFit ?ne_NoText_NoFit ?s_NoProgram_NoFit ?ne_NoProgram_NoFit ?s_TooMany_NoFit ?ne_TooMany_NoFit ?s_NoRows_NoFit ?ne_NoRows_NoFit ?s_NoPaper_NoFit ?ne_NoPaper_NoFit ?s_NoFit_NoFit ?s_NoRow_NoFit ?ne_NoRow_NoFit ?iY_NoPaper ?tY_NoPaper ?s_NoText_NoPaper ?ne_NoText_NoPaper ?s_NoProgram_NoPaper ?ne_NoProgram_NoPaper ?s_TooMany_NoPaper ?ne_TooMany_NoPaper ?s_NoRows_NoPaper ?ne_NoRows_NoPaper ?s_NoPaper_NoPaper ?s_NoFit_NoPaper ?ne_NoFit_NoPaper ?s_NoRow_NoPaper ?ne_NoRow_NoPaper ?iY_ThrowError ?tY_ThrowError ?s_NoText_ThrowError ?s_NoProgram_ThrowError ?s_TooMany_ThrowError ?s_NoRows_ThrowError ?s_NoPaper_ThrowError ?s_NoFit_ThrowError ?s_NoRow_ThrowError ?ob_NoText_ValueError ?ob_NoProgram_ValueError ?ob_TooMany_ValueError ?ob_NoRows_ValueError ?ob_NoPaper_ValueError ?ob_NoFit_ValueError ?ob_NoRow_ValueError
    (case a1 => k_is); (case l1 => k_is); (case c1 => k_is); (case k1 => k_is); (case a2 => k_is); (case l2 => k_is)
    (case c2 => k_is); (case k2 => k_is); (case a3 => k_is); (case l3 => k_is); (case c3 => k_is); (case k3 => k_is)
    (case a4 => k_is); (case l4 => k_is); (case c4 => k_is); (case k4 => k_is); (case a5 => k_is); (case l5 => k_is)
    (case c5 => k_is); (case k5 => k_is); (case a6 => k_is); (case l6 => k_is); (case c6 => k_is); (case k6 => k_is)
    (case z0 => k_is); (case z1 => k_is); (case z2 => k_is); (case z3 => k_is); (case z4 => k_is); (case z5 => k_is)
    (case z6 => k_is); (case n_NoText => k_is); (case n_ThrowError => k_is); (case n_NoProgram => k_is); (case n_TooMany => k_is); (case n_NoRows => k_is)
    (case n_NoPaper => k_is); (case n_NoFit => k_is); (case n_NoRow => k_is); (case xL_NoText => k_is); (case sa_NoText => k_is); (case eC_NoText => k_is)
    (case tC_NoText => k_is); (case kC_NoText => k_is); (case hg_NoText => k_is); (case hk_NoText => k_is); (case hd_NoText => k_is); (case ha_NoText => k_is)
    (case hm_NoText => k_is); (case i_NoText => k_is); (case ti_NoText => k_is); (case li_NoText => k_is); (case ci_NoText => k_is); (case ki_NoText => k_is)
    (case nf_NoText_row => k_is); (case xL_NoProgram => k_is); (case sa_NoProgram => k_is); (case eC_NoProgram => k_is); (case tC_NoProgram => k_is); (case kC_NoProgram => k_is)
    (case hg_NoProgram => k_is); (case hk_NoProgram => k_is); (case hd_NoProgram => k_is); (case ha_NoProgram => k_is); (case hm_NoProgram => k_is); (case i_NoProgram => k_is)
    (case ti_NoProgram => k_is); (case li_NoProgram => k_is); (case ci_NoProgram => k_is); (case ki_NoProgram => k_is); (case nf_NoProgram_word => k_is); (case nf_NoProgram_row => k_is)
    (case xL_TooMany => k_is); (case sa_TooMany => k_is); (case eC_TooMany => k_is); (case tC_TooMany => k_is); (case kC_TooMany => k_is); (case hg_TooMany => k_is)
    (case hk_TooMany => k_is); (case hd_TooMany => k_is); (case ha_TooMany => k_is); (case hm_TooMany => k_is); (case i_TooMany => k_is); (case ti_TooMany => k_is)
    (case li_TooMany => k_is); (case ci_TooMany => k_is); (case ki_TooMany => k_is); (case nf_TooMany_most => k_is); (case xE_NoRows => k_exc); (case eC_NoRows => k_is)
    (case tC_NoRows => k_is); (case kC_NoRows => k_is); (case hg_NoRows => k_is); (case hk_NoRows => k_is); (case hd_NoRows => k_is); (case ha_NoRows => k_is)
    (case hm_NoRows => k_is); (case xL_NoPaper => k_is); (case sa_NoPaper => k_is); (case eC_NoPaper => k_is); (case tC_NoPaper => k_is); (case kC_NoPaper => k_is)
    (case hg_NoPaper => k_is); (case hk_NoPaper => k_is); (case hd_NoPaper => k_is); (case ha_NoPaper => k_is); (case hm_NoPaper => k_is); (case i_NoPaper => k_is)
    (case ti_NoPaper => k_is); (case li_NoPaper => k_is); (case ci_NoPaper => k_is); (case ki_NoPaper => k_is); (case nf_NoPaper_at => k_is); (case xE_NoFit => k_exc)
    (case eC_NoFit => k_is); (case tC_NoFit => k_is); (case kC_NoFit => k_is); (case hg_NoFit => k_is); (case hk_NoFit => k_is); (case hd_NoFit => k_is)
    (case ha_NoFit => k_is); (case hm_NoFit => k_is); (case xE_NoRow => k_exc); (case eC_NoRow => k_is); (case tC_NoRow => k_is); (case kC_NoRow => k_is)
    (case hg_NoRow => k_is); (case hk_NoRow => k_is); (case hd_NoRow => k_is); (case ha_NoRow => k_is); (case hm_NoRow => k_is); (case hn_ => k_is)
    (case ht_ => k_is); (case iY_NoRows => k_is); (case tY_NoRows => k_is); (case s_NoText_NoRows => k_is); (case ne_NoText_NoRows => decide); (case s_NoProgram_NoRows => k_is)
    (case ne_NoProgram_NoRows => decide); (case s_TooMany_NoRows => k_is); (case ne_TooMany_NoRows => decide); (case s_NoRows_NoRows => k_is); (case s_NoPaper_NoRows => k_is); (case ne_NoPaper_NoRows => decide)
    (case s_NoFit_NoRows => k_is); (case ne_NoFit_NoRows => decide); (case s_NoRow_NoRows => k_is); (case ne_NoRow_NoRows => decide); (case iY_TooMany => k_is); (case tY_TooMany => k_is)
    (case s_NoText_TooMany => k_is); (case ne_NoText_TooMany => decide); (case s_NoProgram_TooMany => k_is); (case ne_NoProgram_TooMany => decide); (case s_TooMany_TooMany => k_is); (case s_NoRows_TooMany => k_is)
    (case ne_NoRows_TooMany => decide); (case s_NoPaper_TooMany => k_is); (case ne_NoPaper_TooMany => decide); (case s_NoFit_TooMany => k_is); (case ne_NoFit_TooMany => decide); (case s_NoRow_TooMany => k_is)
    (case ne_NoRow_TooMany => decide); (case iY_NoProgram => k_is); (case tY_NoProgram => k_is); (case s_NoText_NoProgram => k_is); (case ne_NoText_NoProgram => decide); (case s_NoProgram_NoProgram => k_is)
    (case s_TooMany_NoProgram => k_is); (case ne_TooMany_NoProgram => decide); (case s_NoRows_NoProgram => k_is); (case ne_NoRows_NoProgram => decide); (case s_NoPaper_NoProgram => k_is); (case ne_NoPaper_NoProgram => decide)
    (case s_NoFit_NoProgram => k_is); (case ne_NoFit_NoProgram => decide); (case s_NoRow_NoProgram => k_is); (case ne_NoRow_NoProgram => decide); (case iY_NoText => k_is); (case tY_NoText => k_is)
    (case s_NoText_NoText => k_is); (case s_NoProgram_NoText => k_is); (case ne_NoProgram_NoText => decide); (case s_TooMany_NoText => k_is); (case ne_TooMany_NoText => decide); (case s_NoRows_NoText => k_is)
    (case ne_NoRows_NoText => decide); (case s_NoPaper_NoText => k_is); (case ne_NoPaper_NoText => decide); (case s_NoFit_NoText => k_is); (case ne_NoFit_NoText => decide); (case s_NoRow_NoText => k_is)
    (case ne_NoRow_NoText => decide); (case iY_NoRow => k_is); (case tY_NoRow => k_is); (case s_NoText_NoRow => k_is); (case ne_NoText_NoRow => decide); (case s_NoProgram_NoRow => k_is)
    (case ne_NoProgram_NoRow => decide); (case s_TooMany_NoRow => k_is); (case ne_TooMany_NoRow => decide); (case s_NoRows_NoRow => k_is); (case ne_NoRows_NoRow => decide); (case s_NoPaper_NoRow => k_is)
    (case ne_NoPaper_NoRow => decide); (case s_NoFit_NoRow => k_is); (case ne_NoFit_NoRow => decide); (case s_NoRow_NoRow => k_is); (case iY_NoFit => k_is); (case tY_NoFit => k_is)
    (case s_NoText_NoFit => k_is); (case ne_NoText_NoFit => decide); (case s_NoProgram_NoFit => k_is); (case ne_NoProgram_NoFit => decide); (case s_TooMany_NoFit => k_is); (case ne_TooMany_NoFit => decide)
    (case s_NoRows_NoFit => k_is); (case ne_NoRows_NoFit => decide); (case s_NoPaper_NoFit => k_is); (case ne_NoPaper_NoFit => decide); (case s_NoFit_NoFit => k_is); (case s_NoRow_NoFit => k_is)
    (case ne_NoRow_NoFit => decide); (case iY_NoPaper => k_is); (case tY_NoPaper => k_is); (case s_NoText_NoPaper => k_is); (case ne_NoText_NoPaper => decide); (case s_NoProgram_NoPaper => k_is)
    (case ne_NoProgram_NoPaper => decide); (case s_TooMany_NoPaper => k_is); (case ne_TooMany_NoPaper => decide); (case s_NoRows_NoPaper => k_is); (case ne_NoRows_NoPaper => decide); (case s_NoPaper_NoPaper => k_is)
    (case s_NoFit_NoPaper => k_is); (case ne_NoFit_NoPaper => decide); (case s_NoRow_NoPaper => k_is); (case ne_NoRow_NoPaper => decide); (case iY_ThrowError => k_is); (case tY_ThrowError => k_is)
    (case s_NoText_ThrowError => k_is); (case s_NoProgram_ThrowError => k_is); (case s_TooMany_ThrowError => k_is); (case s_NoRows_ThrowError => k_is); (case s_NoPaper_ThrowError => k_is); (case s_NoFit_ThrowError => k_is)
    (case s_NoRow_ThrowError => k_is); (case ob_NoText_ValueError => k_is); (case ob_NoProgram_ValueError => k_is); (case ob_TooMany_ValueError => k_is); (case ob_NoRows_ValueError => k_is); (case ob_NoPaper_ValueError => k_is)
    (case ob_NoFit_ValueError => k_is); (case ob_NoRow_ValueError => k_is)
