import PyProof.Rows.All
import Wide.All
import OpenK.AllK
import Wide.FinOn
import HandS.ForMost
import HandS.Wide
import HandS.WideBits
import HandS.Deep
import HandS.Conv
import HandS.Zip
import HandS.TupAny
import HandS.IsInst
import HandS.Rev
import PyProof.ListStr
import HandS.EndBits
import HandS.TupSets
import HandS.Exc
import HandS.ExcOwn
import HandS.CallSlots
import HandS.SortRule
import HandS.TupLe
import HandS.More
import KE.KDictWalk
import KE.KDictSum
import PyProof.Rows.SortWalk
import HandS.TupMul
import HandS.TryOnly
import HandS.Iter
import PyProof.WalkInts
import HandS.Style
import PyProof.ReprRoads
import HandS.RaiseMore
import HandS.FStrTup
import HandS.Text
import KE.KDictPairs
import HandS.WordsDict
import HandS.Defaults
import KE.DataMinMax
import HandS.SortKw
import HandS.ExcInit
import HandS.ExcField
import HandS.ExcIs
import HandS.HotCalls
import PyProof.EnumMake
import PyProof.Draws
import KE.GoesMore
import PySem.Challenge.RW_pairedthrows_k34_rows_between_ladders
set_option Elab.async false
set_option linter.all false
set_option maxRecDepth 100000
set_option maxHeartbeats 4000000
namespace Pq
open PySem PySem.Spec PyProof.Rows L2
abbrev Da := PyData
/-- what is known of a slot -/
inductive SV where
  | no
  | val (d : Da)
  | own (w : Bool) (d : Da)
  | deal
  | bor (d : Da)
  | res (b : Bool) (d : Da) (ids : List (Nat × Da))
/-- slots that know an object alone -/
def OB : SV → Prop
  | .own _ _ => True
  | .bor _ => True
  | _ => False
abbrev En := List SV
def keyD : Key → Da
  | .inl i => .int i
  | .inr x => .str x
/-- a tuple that has no dict of its own -/
def PlT (K : PySem.W.Frag) (H : Hp) (a : Addr) (xs : List V) : Prop := (∃ o, H a = some (.frz o (.tup xs)) ∧ o.dict = none) ∨
  ∃ (o : Obj) (its : Array Value) (n : Nat), K.lookup a = some o ∧ o.cls = .type "tuple" ∧ o.dict = none ∧ o.data = .seq its n ∧ its.size ≤ sizeLine ∧ Vals xs its.toList
theorem PlT.sq {K : PySem.W.Frag} {H : Hp} {a : Addr} {xs : List V} (h : PlT K H a xs) : SqT K H a xs := by
  rcases h with ⟨o, h, _⟩ | ⟨o, its, n, h1, h2, _, h3⟩
  · exact .inl (.inr ⟨o, h⟩)
  · exact .inr ⟨o, its, n, h1, h2, h3⟩
theorem PlT.up {K : PySem.W.Frag} {S S' : Hp} {a : Addr} {xs : List V} (e : ∀ a o, S a = some o → S' a = some o) (h : PlT K S a xs) : PlT K S' a xs := by
  rcases h with ⟨o, h, d⟩ | h
  · exact .inl ⟨o, e _ _ h, d⟩
  · exact .inr h
/-- dicts whose keys are tuples of ints -/
def tkHash (ks : List Int) : Int := PySem.reduceHash (PySem.Builtin.Tuple.tupleHashOf (ks.map PySem.hashInt))
def tEnt (x : List Int × Addr × Value) : DictEntry := ⟨tkHash x.1, .ref x.2.1, x.2.2⟩
abbrev TKv := List (List Int × Addr × V)
def TPr (p : List Int × Addr × V) (q : List Int × Addr × Value) : Prop := p.1 = q.1 ∧ p.2.1 = q.2.1 ∧ RelV p.2.2 q.2.2
def TDat (h : Heap) (a : Addr) (kvs : TKv) : Prop := kvs.length ≤ sizeLine ∧ (a == sysModules) = false ∧ ∃ xs, Paired TPr kvs xs ∧ ∃ o es ep, h.get? a = some o ∧ o.ExactDict ∧ o.data = .dict es ep ∧ es.toList = xs.map tEnt ∧ (xs.map (·.1)).Nodup
abbrev DAo := Addr × Obj
def dtO (a : DAo) (kvs : TKv) : HO := .ext fun h => h.get? a.1 = some a.2 ∧ TDat h a.1 kvs
/-- an exception that was raised, and caught -/
def xcv (a : Addr) (cls : Value) (d : Option Addr) : HO := .ext fun h => ∃ (oe : Obj) (vs : Array Value), h.get? a = some oe ∧ Zc cls d oe ∧ oe.data = .fields vs
def fkey : Key → Str
  | .inl _ => ""
  | .inr x => x
/-- fields with their names -/
def flds (kvs : List (Key × V)) : List (Str × V) := kvs.map fun p => (fkey p.1, p.2)
/-- the dict of an exception -/
def XcD (H : Hp) (d : Option Addr) (kvs : List (Key × V)) : Prop := (kvs = [] ∧ d = none) ∨ ∃ dd, d = some dd ∧ H dd = some (.xd (flds kvs))
theorem XcD.up {S S' : Hp} {d : Option Addr} {kvs : List (Key × V)} (e : ∀ a o, S a = some o → S' a = some o) (h : XcD S d kvs) : XcD S' d kvs := h.imp id fun ⟨dd, h1, h2⟩ => ⟨dd, h1, e _ _ h2⟩
mutual
/-- a value is a piece of data: none, truths, ints, texts, lists and tuples of such -/
inductive Dq (K : PySem.W.Frag) (H : Hp) : V → Da → Prop
  | non : Dq K H .non .none
  | bl (b : Bool) : Dq K H (.bl b) (.bool b)
  | int (i : Int) : Dq K H (.int i) (.int i)
  | str (x : Str) : Dq K H (.str x) (.str x)
  | lst {a : Addr} {xs : List V} {ds : List Da} : Rd H a (.lst xs) → DqAll K H xs ds → Dq K H (.ref a) (.list ds)
  | tup {a : Addr} {xs : List V} {ds : List Da} : PlT K H a xs → DqAll K H xs ds → Dq K H (.ref a) (.tuple ds)
  | dk {a : Addr} {kvs : List (Key × V)} {ds : List (Da × Da)} : H a = some (.dK kvs) → DqK K H kvs ds → Dq K H (.ref a) (.dict ds)
  | dt {a : Addr} {a' : DAo} {kvs : TKv} {ds : List (Da × Da)} : H a = some (dtO a' kvs) → DqT K H kvs ds → Dq K H (.ref a) (.dict ((.none, .none) :: ds))
  | scr {a : Addr} {ns : List Int} : SqL K H a (ns.map V.int) → Dq K H (.ref a) (.dict [(.bool false, .list (ns.map PyData.int))])
  | pr {a : Addr} {xs : List V} {d : Da} {ds : List (Da × Da)} : SqT K H a xs → DqP K H xs ((.bool true, d) :: ds) → Dq K H (.ref a) (.dict ((.bool true, d) :: ds))
  | exc {a C : Addr} {x : Str} {d : Option Addr} {kvs : List (Key × V)} {ds : List (Da × Da)} : PySem.W.nsIn K mainGlobals x = some (some (.ref C)) → H a = some (xcv a (.ref C) d) → XcD H d kvs → DqK K H kvs ds → Dq K H (.ref a) (.dict ((.bool false, .str x) :: ds))
  | ins {a C dx : Addr} {x : Str} {kvs : List (Key × V)} {ds : List (Da × Da)} : PySem.W.nsIn K mainGlobals x = some (some (.ref C)) → H a = some (.ins C dx (flds kvs)) → DqK K H kvs ds → Dq K H (.ref a) (.dict ((.bool false, .tuple [.str x]) :: ds))
inductive DqP (K : PySem.W.Frag) (H : Hp) : List V → List (Da × Da) → Prop
  | nil : DqP K H [] []
  | cons {v : V} {vs : List V} {d : Da} {ds : List (Da × Da)} : Dq K H v d → DqP K H vs ds → DqP K H (v :: vs) ((.bool true, d) :: ds)
inductive DqAll (K : PySem.W.Frag) (H : Hp) : List V → List Da → Prop
  | nil : DqAll K H [] []
  | cons {v : V} {vs : List V} {d : Da} {ds : List Da} : Dq K H v d → DqAll K H vs ds → DqAll K H (v :: vs) (d :: ds)
inductive DqK (K : PySem.W.Frag) (H : Hp) : List (Key × V) → List (Da × Da) → Prop
  | nil : DqK K H [] []
  | cons {k : Key} {v : V} {vs : List (Key × V)} {d : Da} {ds : List (Da × Da)} : Dq K H v d → DqK K H vs ds → DqK K H ((k, v) :: vs) ((keyD k, d) :: ds)
inductive DqT (K : PySem.W.Frag) (H : Hp) : List (List Int × Addr × V) → List (Da × Da) → Prop
  | nil : DqT K H [] []
  | cons {k : List Int} {b : Addr} {v : V} {vs : List (List Int × Addr × V)} {d : Da} {ds : List (Da × Da)} : PlT K H b (k.map V.int) → Dq K H v d → DqT K H vs ds → DqT K H ((k, b, v) :: vs) ((.tuple (k.map PyData.int), d) :: ds)
end
/-- what an object holds -/
inductive HoD (K : PySem.W.Frag) (S : Hp) : HO → Da → Prop
  | lst {vs : List V} {ds : List Da} : DqAll K S vs ds → HoD K S (.lst vs) (.list ds)
  | dk {kvs : List (Key × V)} {ds : List (Da × Da)} : DqK K S kvs ds → HoD K S (.dK kvs) (.dict ds)
  | dt {a : DAo} {kvs : TKv} {ds : List (Da × Da)} : DqT K S kvs ds → HoD K S (dtO a kvs) (.dict ((.none, .none) :: ds))
  | ins {C dx : Addr} {x : Str} {kvs : List (Key × V)} {ds : List (Da × Da)} : PySem.W.nsIn K mainGlobals x = some (some (.ref C)) → DqK K S kvs ds → HoD K S (.ins C dx (flds kvs)) (.dict ((.bool false, .tuple [.str x]) :: ds))
theorem HoD.dq {K : PySem.W.Frag} {S : Hp} {o : HO} {d : Da} {a : Addr} (h : HoD K S o d) (r : S a = some o) : Dq K S (.ref a) d := by
  cases h with
  | lst h => exact .lst (.inl r) h
  | dk h => exact .dk r h
  | dt h => exact .dt r h
  | ins n h => exact .ins n r h
structure Br where
  S : Hp
  H : Hp
  deal : Option (Addr × Addr)
  bo : Nat → Option Addr
def FP (B : Br) (a : Addr) : Prop := ∃ p l, B.deal = some (p, l) ∧ (a = p ∨ a = l)
def DealAt (H : Hp) (p l : Addr) : Prop := p ≠ l ∧ ∃ (seed num : Int) (left : List Int),
  H p = some (.dK [((Sum.inr "seed" : Key), .int seed), (Sum.inr "number", .int num), (Sum.inr "left", .ref l)]) ∧ H l = some (.lst (left.map V.int)) ∧
  0 ≤ seed ∧ seed < 2 ^ 32 ∧ 0 ≤ num ∧ left.length ≤ 63 ∧ ∀ x ∈ left, 0 ≤ x
structure Wd (B : Br) (S H : Hp) : Prop where
  sub : ∀ a o, S a = some o → H a = some o
  bS : ∀ a o, B.S a = some o → S a = some o
  bH : ∀ a o, ¬ FP B a → B.H a = some o → H a = some o
  bN : ∀ a o, B.H a = some o → B.S a = none → S a = none
  deal : ∀ p l, B.deal = some (p, l) → DealAt H p l ∧ (∃ o, B.H p = some o) ∧ (∃ o, B.H l = some o) ∧ B.S p = none ∧ B.S l = none
def Own (K : PySem.W.Frag) (B : Br) (S H : Hp) (d : Da) (p : Addr) : Prop :=
  B.H p = none ∧ S p = none ∧ ∃ o, H p = some o ∧ HoD K S o d
structure Rel (K : PySem.W.Frag) (B : Br) (env : En) (S : Hp) (σ : L2.St) (H : Hp) : Prop where
  w : Wd B S H
  len : env.length = σ.length
  slot : ∀ (i : Nat) (d : Da), env[i]? = some (.val d) → ∃ v, σ[i]? = some (some v) ∧ Dq K S v d
  dl : ∀ (i : Nat), env[i]? = some .deal → ∃ p l, B.deal = some (p, l) ∧ σ[i]? = some (some (.ref p))
  own : ∀ (i : Nat) (b : Bool) (d : Da), env[i]? = some (.own b d) → ∃ p, σ[i]? = some (some (.ref p)) ∧ Own K B S H d p
  dist : ∀ (i j : Nat) (b c : Bool) (d e : Da) (p : Addr), env[i]? = some (.own b d) → env[j]? = some (.own c e) → σ[i]? = some (some (.ref p)) → σ[j]? = some (some (.ref p)) → i = j
  bor : ∀ (i : Nat) (d : Da), env[i]? = some (.bor d) → ∃ p, B.bo i = some p ∧ σ[i]? = some (some (.ref p)) ∧ Own K B S H d p
  obd : ∀ (i j : Nat) (b : Bool) (d e : Da) (p : Addr), env[i]? = some (.own b d) → env[j]? = some (.bor e) → σ[i]? = some (some (.ref p)) → σ[j]? = some (some (.ref p)) → False
  binj : ∀ (i j : Nat) (p : Addr), B.bo i = some p → B.bo j = some p → i = j
/-! ### exceptions: what is wished of them -/
structure Ex where
  cls : Str
  fs : List (Str × Da)
abbrev XX := Ex → En → Prop
structure ZX where
  K : PySem.W.Frag
  W : WX
  xx : XX
def exD (e : Ex) : Da := .dict ((.bool false, .str e.cls) :: e.fs.map fun p => (.str p.1, p.2))
def ExAt (K : PySem.W.Frag) (S : Hp) (cls : Value) (d : Option Addr) (e : Ex) : Prop :=
  ∃ C kvs, PySem.W.nsIn K mainGlobals e.cls = some (some (.ref C)) ∧ cls = .ref C ∧ XcD S d kvs ∧ DqK K S kvs (e.fs.map fun p => (.str p.1, p.2))
def XOk (Z : ZX) (B : Br) : Prop := ∀ (e : Ex) (env : En) (σ : L2.St) (S H : Hp) (cls : Value) (d : Option Addr), Z.xx e env → Rel Z.K B env S σ H → ExAt Z.K S cls d e → Z.W cls d σ H
/-- a base by which what is wished of exceptions holds -/
structure Bs (Z : ZX) extends Br where
  ok : XOk Z toBr
instance {Z : ZX} : CoeOut (Bs Z) Br := ⟨Bs.toBr⟩
/-- nothing is raised -/
def z0 (K : PySem.W.Frag) : ZX := ⟨K, fun _ _ _ _ => False, fun _ _ => False⟩
def b0 (K : PySem.W.Frag) (B : Br) : Bs (z0 K) := ⟨B, fun _ _ _ _ _ _ _ h => h.elim⟩
theorem Rel.ob {K : PySem.W.Frag} {B : Br} {env : En} {S : Hp} {σ : L2.St} {H : Hp} (R : Rel K B env S σ H) {i : Nat} {sv : SV} (h : env[i]? = some sv) (o : OB sv) : ∃ p d, σ[i]? = some (some (.ref p)) ∧ Own K B S H d p := by
  cases sv with
  | own b d =>
    obtain ⟨p, a, c⟩ := R.own i b d h
    exact ⟨p, d, a, c⟩
  | bor d =>
    obtain ⟨p, _, a, c⟩ := R.bor i d h
    exact ⟨p, d, a, c⟩
  | _ => exact o.elim
/-- what is fresh lies in no slot that knows alone -/
theorem Rel.fresh {K : PySem.W.Frag} {B : Br} {env : En} {S : Hp} {σ : L2.St} {H : Hp} (R : Rel K B env S σ H) {p : Addr} (hp : H p = none) : ∀ (i : Nat) (sv : SV), env[i]? = some sv → OB sv → σ[i]? ≠ some (some (.ref p)) := fun i sv h o z => by
  obtain ⟨p', d, a, _, _, u, c, _⟩ := R.ob h o
  rw [z] at a; cases a
  rw [hp] at c; cases c
/-- a step of an expression -/
def Stp (B : Br) (S H S' H' : Hp) : Prop := (∀ a o, S a = some o → S' a = some o) ∧ ∀ a o, ¬ FP B a → H a = some o → H' a = some o
theorem Stp.refl {B : Br} {S H : Hp} : Stp B S H S H := ⟨fun _ _ h => h, fun _ _ _ h => h⟩
theorem Stp.trans {B : Br} {S H S1 H1 S2 H2 : Hp} (a : Stp B S H S1 H1) (b : Stp B S1 H1 S2 H2) : Stp B S H S2 H2 :=
  ⟨fun x o h => b.1 x o (a.1 x o h), fun x o f h => b.2 x o f (a.2 x o f h)⟩
/-- a step that freezes at most what env owns -/
structure Stq (B : Br) (σ : L2.St) (env : En) (S H : Hp) (env' : En) (S' H' : Hp) : Prop where
  s : Stp B S H S' H'
  ow : ∀ (i : Nat) (sv : SV), env'[i]? = some sv → OB sv → env[i]? = some sv
  fz : ∀ a o, ¬ FP B a → H a = some o → S a = none → S' a = none ∨ ∃ (i : Nat) (d : Da), env[i]? = some (.own true d) ∧ σ[i]? = some (some (.ref a))
theorem Stq.refl {B : Br} {σ : L2.St} {env : En} {S H : Hp} : Stq B σ env S H env S H := ⟨.refl, fun _ _ h _ => h, fun _ _ _ _ h => .inl h⟩
theorem Stq.trans {B : Br} {σ : L2.St} {env env1 env2 : En} {S H S1 H1 S2 H2 : Hp} (a : Stq B σ env S H env1 S1 H1) (b : Stq B σ env1 S1 H1 env2 S2 H2) : Stq B σ env S H env2 S2 H2 :=
  ⟨a.s.trans b.s, fun i sv h o => a.ow i sv (b.ow i sv h o) o, fun x o f e n => by
    rcases a.fz x o f e n with z | z
    · rcases b.fz x o f (a.s.2 x o f e) z with y | ⟨i, d, y1, y2⟩
      · exact .inl y
      · exact .inr ⟨i, d, a.ow i _ y1 trivial, y2⟩
    · exact .inr z⟩
def IsR (K : PySem.W.Frag) (B : Br) (env : En) (S : Hp) (σ : L2.St) (H0 H : Hp) : SV → V → Prop
  | .val d, v => Dq K S v d
  | .own b d, v => b = true ∧ ∃ p, v = .ref p ∧ Own K B S H d p ∧ H0 p = none ∧ ∀ (i : Nat) (sv : SV), env[i]? = some sv → OB sv → σ[i]? ≠ some (some (.ref p))
  | .deal, v => ∃ p l, B.deal = some (p, l) ∧ v = .ref p
  | _, _ => False
/-- looked at -/
def IsP (K : PySem.W.Frag) (B : Br) (S H : Hp) (d : Da) (v : V) : Prop :=
  Dq K S v d ∨ ∃ p o, v = .ref p ∧ ¬ FP B p ∧ H p = some o ∧ HoD K S o d
section
variable {K : PySem.W.Frag} {S S' H H' : Hp}
theorem Rd.up {a : Addr} {u : HO} (e : ∀ a o, S a = some o → S' a = some o) (h : Rd S a u) : Rd S' a u := by
  rcases h with h | ⟨o, h⟩
  · exact .inl (e _ _ h)
  · exact .inr ⟨o, e _ _ h⟩
theorem SqL.up {a : Addr} {xs : List V} (e : ∀ a o, S a = some o → S' a = some o) (h : SqL K S a xs) : SqL K S' a xs := by
  rcases h with (h | ⟨o, h⟩) | h
  · exact .inl (.inl (e _ _ h))
  · exact .inl (.inr ⟨o, e _ _ h⟩)
  · exact .inr h
theorem SqT.up {a : Addr} {xs : List V} (e : ∀ a o, S a = some o → S' a = some o) (h : SqT K S a xs) : SqT K S' a xs := by
  rcases h with (h | ⟨o, h⟩) | h
  · exact .inl (.inl (e _ _ h))
  · exact .inl (.inr ⟨o, e _ _ h⟩)
  · exact .inr h
mutual
theorem Dq.up (e : ∀ a o, S a = some o → S' a = some o) : ∀ (d : Da) (v : V), Dq K S v d → Dq K S' v d
  | .none, _, h => by cases h; exact .non
  | .bool b, _, h => by cases h; exact .bl b
  | .int i, _, h => by cases h; exact .int i
  | .str x, _, h => by cases h; exact .str x
  | .list ds, _, h => by
    cases h with
    | lst hs ha => exact .lst (Rd.up e hs) (DqAll.up e ds _ ha)
  | .tuple ds, _, h => by
    cases h with
    | tup hs ha => exact .tup (PlT.up e hs) (DqAll.up e ds _ ha)
  | .dict ds, _, h => by
    cases h with
    | dk hs ha => exact .dk (e _ _ hs) (DqK.up e ds _ ha)
    | dt hs ha => exact .dt (e _ _ hs) (DqT.up e _ _ ha)
    | scr hs => exact .scr (SqL.up e hs)
    | pr hs ha => exact .pr (SqT.up e hs) (DqP.up e _ _ ha)
    | exc n hs hx ha => exact .exc n (e _ _ hs) (hx.up e) (DqK.up e _ _ ha)
    | ins n hs ha => exact .ins n (e _ _ hs) (DqK.up e _ _ ha)
theorem DqP.up (e : ∀ a o, S a = some o → S' a = some o) : ∀ (ds : List (Da × Da)) (vs : List V), DqP K S vs ds → DqP K S' vs ds
  | [], _, h => by cases h; exact .nil
  | (_, d) :: ds, _, h => by
    cases h with
    | cons h1 h2 => exact .cons (Dq.up e d _ h1) (DqP.up e ds _ h2)
theorem DqAll.up (e : ∀ a o, S a = some o → S' a = some o) : ∀ (ds : List Da) (vs : List V), DqAll K S vs ds → DqAll K S' vs ds
  | [], _, h => by cases h; exact .nil
  | d :: ds, _, h => by
    cases h with
    | cons h1 h2 => exact .cons (Dq.up e d _ h1) (DqAll.up e ds _ h2)
theorem DqK.up (e : ∀ a o, S a = some o → S' a = some o) : ∀ (ds : List (Da × Da)) (vs : List (Key × V)), DqK K S vs ds → DqK K S' vs ds
  | [], _, h => by cases h; exact .nil
  | (_, d) :: ds, _, h => by
    cases h with
    | cons h1 h2 => exact .cons (Dq.up e d _ h1) (DqK.up e ds _ h2)
theorem DqT.up (e : ∀ a o, S a = some o → S' a = some o) : ∀ (ds : List (Da × Da)) (vs : TKv), DqT K S vs ds → DqT K S' vs ds
  | [], _, h => by cases h; exact .nil
  | (_, d) :: ds, _, h => by
    cases h with
    | cons h0 h1 h2 => exact .cons (PlT.up e h0) (Dq.up e d _ h1) (DqT.up e ds _ h2)
end
theorem HoD.up {o : HO} {d : Da} (e : ∀ a o, S a = some o → S' a = some o) (h : HoD K S o d) : HoD K S' o d := by
  cases h with
  | lst h => exact .lst (DqAll.up e _ _ h)
  | dk h => exact .dk (DqK.up e _ _ h)
  | dt h => exact .dt (DqT.up e _ _ h)
  | ins n h => exact .ins n (DqK.up e _ _ h)
mutual
theorem Dq.dp : ∀ (d : Da) (v : V), d.canLay0 = true → Dq K S v d → Dp K S v d
  | .none, _, _, h => by cases h; exact .non
  | .bool b, _, _, h => by cases h; exact .bl b
  | .int i, _, _, h => by cases h; exact .int i
  | .str x, _, _, h => by cases h; exact .str x
  | .list ds, _, c, h => by
    cases h with
    | lst hs ha => exact .lst (.inl hs) (DqAll.dp ds _ (by simpa [PyData.canLay0] using c) ha)
  | .tuple ds, _, c, h => by
    cases h with
    | tup hs ha => exact .tup hs.sq (DqAll.dp ds _ (by simpa [PyData.canLay0] using c) ha)
  | .dict _, _, c, h => by simp [PyData.canLay0] at c
theorem DqAll.dp : ∀ (ds : List Da) (vs : List V), PyData.canLayAll0 ds = true → DqAll K S vs ds → DpAll K S vs ds
  | [], _, _, h => by cases h; exact .nil
  | d :: ds, _, c, h => by
    have c' : d.canLay0 = true ∧ PyData.canLayAll0 ds = true := by simpa [PyData.canLayAll0] using c
    cases h with
    | cons h1 h2 => exact .cons (Dq.dp d _ c'.1 h1) (DqAll.dp ds _ c'.2 h2)
end
theorem DqAll.length : ∀ {ds : List Da} {vs : List V}, DqAll K S vs ds → vs.length = ds.length
  | [], _, h => by cases h; rfl
  | d :: ds, _, h => by
    cases h with
    | cons h1 h2 => rw [List.length_cons, List.length_cons, DqAll.length h2]
theorem DqAll.get : ∀ {ds : List Da} {vs : List V} {i : Nat} {d : Da}, DqAll K S vs ds → ds[i]? = some d → ∃ v, vs[i]? = some v ∧ Dq K S v d
  | [], _, _, _, h, e => by simp at e
  | d :: ds, _, 0, _, h, e => by
    cases h with
    | cons h1 h2 => simp at e; subst e; exact ⟨_, rfl, h1⟩
  | d :: ds, _, i + 1, _, h, e => by
    cases h with
    | cons h1 h2 =>
      obtain ⟨v, a, b⟩ := DqAll.get (i := i) h2 (by simpa using e)
      exact ⟨v, by simpa using a, b⟩
theorem DqAll.app : ∀ {ds es : List Da} {vs us : List V}, DqAll K S vs ds → DqAll K S us es → DqAll K S (vs ++ us) (ds ++ es)
  | [], _, _, _, h, h' => by cases h; exact h'
  | d :: ds, _, _, _, h, h' => by
    cases h with
    | cons h1 h2 => exact .cons h1 (DqAll.app h2 h')
theorem DqAll.drop : ∀ {ds : List Da} {vs : List V} (n : Nat), DqAll K S vs ds → DqAll K S (vs.drop n) (ds.drop n)
  | _, _, 0, h => h
  | [], _, n + 1, h => by cases h; exact .nil
  | d :: ds, _, n + 1, h => by
    cases h with
    | cons h1 h2 => exact DqAll.drop n h2
theorem DqAll.take : ∀ {ds : List Da} {vs : List V} (n : Nat), DqAll K S vs ds → DqAll K S (vs.take n) (ds.take n)
  | _, _, 0, h => .nil
  | [], _, n + 1, h => by cases h; exact .nil
  | d :: ds, _, n + 1, h => by
    cases h with
    | cons h1 h2 => exact .cons h1 (DqAll.take n h2)
theorem DqAll.set : ∀ {ds : List Da} {vs : List V} (n : Nat) {v : V} {d : Da}, DqAll K S vs ds → Dq K S v d → DqAll K S (vs.set n v) (ds.set n d)
  | [], _, n, _, _, h, _ => by cases h; exact .nil
  | d :: ds, _, 0, _, _, h, h' => by
    cases h with
    | cons h1 h2 => exact .cons h' h2
  | d :: ds, _, n + 1, _, _, h, h' => by
    cases h with
    | cons h1 h2 => exact .cons h1 (DqAll.set n h2 h')
theorem IsP.up {B : Br} {d : Da} {v : V} (e : Stp B S H S' H') (h : IsP K B S H d v) : IsP K B S' H' d v := by
  rcases h with h | ⟨p, o, h1, h3, h4, h5⟩
  · exact .inl (Dq.up e.1 _ _ h)
  · exact .inr ⟨p, o, h1, h3, e.2 _ _ h3 h4, h5.up e.1⟩
theorem upd_sub {p : Addr} {o : HO} (h : H p = none) : ∀ a x, H a = some x → upd H p o a = some x := fun a x e => by
  rw [upd_ne (ne_of_none e h)]; exact e
end
section
variable {K : PySem.W.Frag} {B : Br} {env : En} {S H : Hp} {σ : L2.St}
theorem Wd.snone {p : Addr} (w : Wd B S H) (h : H p = none) : S p = none := by
  cases e : S p with
  | none => rfl
  | some o => rw [w.sub _ _ e] at h; cases h
theorem Wd.fp {a : Addr} (w : Wd B S H) (f : FP B a) : (∃ o, B.H a = some o) ∧ B.S a = none ∧ ∃ o, H a = some o := by
  obtain ⟨p, l, e, z⟩ := f
  obtain ⟨⟨_, _, _, _, d1, d2, _⟩, d3, d4, d5, d6⟩ := w.deal p l e
  rcases z with rfl | rfl
  · exact ⟨d3, d5, _, d1⟩
  · exact ⟨d4, d6, _, d2⟩
theorem Wd.bnone {p : Addr} (w : Wd B S H) (h : H p = none) : B.H p = none := by
  cases e : B.H p with
  | none => rfl
  | some o =>
    by_cases f : FP B p
    · obtain ⟨_, _, o, q⟩ := w.fp f
      rw [q] at h; cases h
    · rw [w.bH _ _ f e] at h; cases h
theorem Wd.nfp {p : Addr} (w : Wd B S H) (h : B.H p = none) : ¬ FP B p := fun f => by
  obtain ⟨⟨o, e⟩, _⟩ := w.fp f
  rw [e] at h; cases h
theorem DealAt.up {H' : Hp} {p l : Addr} (d : DealAt H p l) (e1 : H' p = H p) (e2 : H' l = H l) : DealAt H' p l := by
  unfold DealAt at *
  rw [e1, e2]; exact d
/-- a fresh object, not yet stable -/
theorem Wd.alloc {p : Addr} {o : HO} (w : Wd B S H) (h : H p = none) : Wd B S (upd H p o) := by
  refine ⟨fun a x e => upd_sub h a x (w.sub a x e), w.bS, fun a x f e => upd_sub h a x (w.bH a x f e), w.bN, fun q l e => ?_⟩
  obtain ⟨d1, d2⟩ := w.deal q l e
  refine ⟨?_, d2⟩
  obtain ⟨n, _, _, _, a1, a2, _⟩ := id d1
  exact d1.up (upd_ne (ne_of_none a1 h)) (upd_ne (ne_of_none a2 h))
theorem Wd.allocS {p : Addr} {o : HO} (w : Wd B S H) (h : H p = none) : Wd B (upd S p o) (upd H p o) := by
  have w' := w.alloc (o := o) h
  have sp := w.snone h
  have bp := w.bnone h
  refine ⟨fun a x e => ?_, fun a x e => upd_sub sp a x (w.bS a x e), w'.bH, fun a x e e2 => ?_, w'.deal⟩
  · by_cases q : a = p
    · subst q; rw [upd_same] at e ⊢; exact e
    · rw [upd_ne q] at e ⊢; exact w.sub a x e
  · have q : a ≠ p := fun z => by subst z; rw [bp] at e; cases e
    rw [upd_ne q]; exact w.bN a x e e2
theorem stp_alloc {p : Addr} {o : HO} (h : H p = none) : Stp B S H S (upd H p o) := ⟨fun _ _ e => e, fun a x _ e => upd_sub h a x e⟩
theorem stq_alloc {p : Addr} {o : HO} (h : H p = none) : Stq B σ env S H env S (upd H p o) := ⟨stp_alloc h, fun _ _ e _ => e, fun _ _ _ _ e => .inl e⟩
theorem stp_allocS {p : Addr} {o : HO} (w : Wd B S H) (h : H p = none) : Stp B S H (upd S p o) (upd H p o) := ⟨fun a x e => upd_sub (w.snone h) a x e, fun a x _ e => upd_sub h a x e⟩
theorem stq_allocS {p : Addr} {o : HO} (w : Wd B S H) (h : H p = none) : Stq B σ env S H env (upd S p o) (upd H p o) := ⟨stp_allocS w h, fun _ _ e _ => e, fun a u _ e n => .inl (by rw [upd_ne (ne_of_none e h)]; exact n)⟩
theorem IsR.back {env1 env2 : En} {S1 H1 S2 H2 : Hp} {r : SV} {v : V} (w : Wd B S H) (st : Stq B σ env S H env1 S1 H1) (h : IsR K B env2 S2 σ H1 H2 r v) : IsR K B env2 S2 σ H H2 r v := by
  cases r with
  | own b d =>
    obtain ⟨hb, p, e, o, hn, k⟩ := h
    refine ⟨hb, p, e, o, ?_, k⟩
    cases z : H p with
    | none => rfl
    | some u => rw [st.s.2 p u (w.nfp o.1) z] at hn; cases hn
  | _ => exact h
/-- the env stands over a step that keeps what it owns out of S -/
theorem Rel.stp {S' H' : Hp} (R : Rel K B env S σ H) (w : Wd B S' H') (e : Stp B S H S' H') (k : ∀ (i : Nat) (sv : SV) (p : Addr), env[i]? = some sv → OB sv → σ[i]? = some (some (.ref p)) → S' p = none) : Rel K B env S' σ H' := by
  refine ⟨w, R.len, fun i d h => ?_, R.dl, fun i b d h => ?_, R.dist, fun i d h => ?_, R.obd, R.binj⟩
  · obtain ⟨v, a, b⟩ := R.slot i d h
    exact ⟨v, a, Dq.up e.1 _ _ b⟩
  · obtain ⟨p, a, c1, c, o, d2, d3⟩ := R.own i b d h
    exact ⟨p, a, c1, k i _ p h trivial a, o, e.2 _ _ (w.nfp c1) d2, d3.up e.1⟩
  · obtain ⟨p, b, a, c1, c, o, d2, d3⟩ := R.bor i d h
    exact ⟨p, b, a, c1, k i _ p h trivial a, o, e.2 _ _ (w.nfp c1) d2, d3.up e.1⟩
theorem Rel.alloc {p : Addr} {o : HO} (R : Rel K B env S σ H) (h : H p = none) : Rel K B env S σ (upd H p o) :=
  R.stp (R.w.alloc h) (stp_alloc h) fun i sv q a ob b => by
    obtain ⟨p', d, a', b', c', _⟩ := R.ob a ob
    rw [b] at a'; cases a'; exact c'
theorem Rel.allocS {p : Addr} {o : HO} (R : Rel K B env S σ H) (h : H p = none) : Rel K B env (upd S p o) σ (upd H p o) :=
  R.stp (R.w.allocS h) (stp_allocS R.w h) fun i sv q a ob b => by
    obtain ⟨p', d, a', b', c', o', d2, d3⟩ := R.ob a ob
    rw [b] at a'; cases a'
    rw [upd_ne (ne_of_none d2 h)]; exact c'
theorem getElem?_setp {α : Type} {l : List α} {i j : Nat} {x y : α} (h : (l.set i x)[j]? = some y) : (i = j ∧ y = x) ∨ (i ≠ j ∧ l[j]? = some y) := by
  by_cases e : i = j
  · subst e
    by_cases hl : i < l.length
    · rw [List.getElem?_set_self hl] at h; exact .inl ⟨rfl, (Option.some.inj h).symm⟩
    · rw [List.getElem?_eq_none (by simpa using hl)] at h; cases h
  · rw [List.getElem?_set_ne e] at h; exact .inr ⟨e, h⟩
/-- what a slot owns is frozen -/
theorem Rel.frz {i : Nat} {d0 : Da} {o0 : HO} {p : Addr} (R : Rel K B env S σ H) {w : Bool} (h : env[i]? = some (.own w d0)) (hs : σ[i]? = some (some (.ref p))) (hp : H p = some o0) (hd : HoD K S o0 d0) (hB : B.H p = none) (hS : S p = none) :
    Rel K B (env.set i (.val d0)) (upd S p o0) σ H ∧ (w = true → Stq B σ env S H (env.set i (.val d0)) (upd S p o0) H) := by
  have e1 : ∀ a o, S a = some o → upd S p o0 a = some o := upd_sub hS
  have w' : Wd B (upd S p o0) H := by
    refine ⟨fun a o e => ?_, fun a o e => e1 a o (R.w.bS a o e), R.w.bH, fun a o e e2 => ?_, R.w.deal⟩
    · by_cases q : a = p
      · subst q; rw [upd_same] at e; cases e; exact hp
      · rw [upd_ne q] at e; exact R.w.sub a o e
    · have q : a ≠ p := fun z => by subst z; rw [hB] at e; cases e
      rw [upd_ne q]; exact R.w.bN a o e e2
  refine ⟨⟨w', by rw [List.length_set]; exact R.len, fun j d e => ?_, fun j e => ?_, fun j b d e => ?_, fun j k b b' d d' q e e' => ?_, fun j d e => ?_, fun j k b d d' q e e' => ?_, R.binj⟩, fun hw => ⟨⟨e1, fun _ _ _ e => e⟩, fun j sv e o => ?_, fun a o f e n => ?_⟩⟩
  · rcases getElem?_setp e with ⟨e2, e3⟩ | ⟨e2, e3⟩
    · cases e3; subst e2
      exact ⟨.ref p, hs, (hd.up e1).dq upd_same⟩
    · obtain ⟨v, a, b⟩ := R.slot j d e3
      exact ⟨v, a, Dq.up e1 _ _ b⟩
  · rcases getElem?_setp e with ⟨e2, e3⟩ | ⟨e2, e3⟩
    · cases e3
    · exact R.dl j e3
  · rcases getElem?_setp e with ⟨e2, e3⟩ | ⟨e2, e3⟩
    · cases e3
    · obtain ⟨q, a, b', c, o', d2, d3⟩ := R.own j b d e3
      refine ⟨q, a, b', ?_, o', d2, d3.up e1⟩
      have nq : q ≠ p := fun z => by
        subst z
        exact e2 (R.dist i j _ _ _ _ q h e3 hs a)
      rw [upd_ne nq]; exact c
  · rcases getElem?_setp e with ⟨e2, e3⟩ | ⟨e2, e3⟩
    · cases e3
    · rcases getElem?_setp e' with ⟨e2', e3'⟩ | ⟨e2', e3'⟩
      · cases e3'
      · exact R.dist j k b b' d d' q e3 e3'
  · rcases getElem?_setp e with ⟨e2, e3⟩ | ⟨e2, e3⟩
    · cases e3
    · obtain ⟨q, bq, a, b', c, o', d2, d3⟩ := R.bor j d e3
      refine ⟨q, bq, a, b', ?_, o', d2, d3.up e1⟩
      have nq : q ≠ p := fun z => by
        subst z
        exact R.obd i j _ _ _ q h e3 hs a
      rw [upd_ne nq]; exact c
  · rcases getElem?_setp e with ⟨e2, e3⟩ | ⟨e2, e3⟩
    · cases e3
    · rcases getElem?_setp e' with ⟨e2', e3'⟩ | ⟨e2', e3'⟩
      · cases e3'
      · exact R.obd j k b d d' q e3 e3'
  · rcases getElem?_setp e with ⟨e2, e3⟩ | ⟨e2, e3⟩
    · subst e3; exact o.elim
    · exact e3
  · by_cases q : a = p
    · subst q; subst hw; exact .inr ⟨i, _, h, hs⟩
    · rw [upd_ne q]; exact .inl n
theorem Rel.setV {i : Nat} {d : Da} {v : V} (R : Rel K B env S σ H) (h : Dq K S v d) (hi : i < env.length) : Rel K B (env.set i (.val d)) S (σ.set i (some v)) H := by
  have hi' : i < σ.length := by rw [← R.len]; exact hi
  refine ⟨R.w, by rw [List.length_set, List.length_set]; exact R.len, fun j d e => ?_, fun j e => ?_, fun j c d e => ?_, fun j k c c' d d' q e e' a b => ?_, fun j d e => ?_, fun j k c d d' q e e' a b => ?_, R.binj⟩
  · rcases getElem?_setp e with ⟨e2, e3⟩ | ⟨e2, e3⟩
    · cases e3; subst e2
      exact ⟨v, List.getElem?_set_self hi', h⟩
    · rw [List.getElem?_set_ne e2]; exact R.slot j d e3
  · rcases getElem?_setp e with ⟨e2, e3⟩ | ⟨e2, e3⟩
    · cases e3
    · rw [List.getElem?_set_ne e2]; exact R.dl j e3
  · rcases getElem?_setp e with ⟨e2, e3⟩ | ⟨e2, e3⟩
    · cases e3
    · rw [List.getElem?_set_ne e2]; exact R.own j c d e3
  · rcases getElem?_setp e with ⟨e2, e3⟩ | ⟨e2, e3⟩
    · cases e3
    · rcases getElem?_setp e' with ⟨e2', e3'⟩ | ⟨e2', e3'⟩
      · cases e3'
      · rw [List.getElem?_set_ne e2] at a
        rw [List.getElem?_set_ne e2'] at b
        exact R.dist j k c c' d d' q e3 e3' a b
  · rcases getElem?_setp e with ⟨e2, e3⟩ | ⟨e2, e3⟩
    · cases e3
    · rw [List.getElem?_set_ne e2]; exact R.bor j d e3
  · rcases getElem?_setp e with ⟨e2, e3⟩ | ⟨e2, e3⟩
    · cases e3
    · rcases getElem?_setp e' with ⟨e2', e3'⟩ | ⟨e2', e3'⟩
      · cases e3'
      · rw [List.getElem?_set_ne e2] at a
        rw [List.getElem?_set_ne e2'] at b
        exact R.obd j k c d d' q e3 e3' a b
theorem Rel.setN {i : Nat} {x : Option V} (R : Rel K B env S σ H) (hi : i < env.length) : Rel K B (env.set i .no) S (σ.set i x) H := by
  have hi' : i < σ.length := by rw [← R.len]; exact hi
  refine ⟨R.w, by rw [List.length_set, List.length_set]; exact R.len, fun j d e => ?_, fun j e => ?_, fun j c d e => ?_, fun j k c c' d d' q e e' a b => ?_, fun j d e => ?_, fun j k c d d' q e e' a b => ?_, R.binj⟩
  · rcases getElem?_setp e with ⟨e2, e3⟩ | ⟨e2, e3⟩
    · cases e3
    · rw [List.getElem?_set_ne e2]; exact R.slot j d e3
  · rcases getElem?_setp e with ⟨e2, e3⟩ | ⟨e2, e3⟩
    · cases e3
    · rw [List.getElem?_set_ne e2]; exact R.dl j e3
  · rcases getElem?_setp e with ⟨e2, e3⟩ | ⟨e2, e3⟩
    · cases e3
    · rw [List.getElem?_set_ne e2]; exact R.own j c d e3
  · rcases getElem?_setp e with ⟨e2, e3⟩ | ⟨e2, e3⟩
    · cases e3
    · rcases getElem?_setp e' with ⟨e2', e3'⟩ | ⟨e2', e3'⟩
      · cases e3'
      · rw [List.getElem?_set_ne e2] at a
        rw [List.getElem?_set_ne e2'] at b
        exact R.dist j k c c' d d' q e3 e3' a b
  · rcases getElem?_setp e with ⟨e2, e3⟩ | ⟨e2, e3⟩
    · cases e3
    · rw [List.getElem?_set_ne e2]; exact R.bor j d e3
  · rcases getElem?_setp e with ⟨e2, e3⟩ | ⟨e2, e3⟩
    · cases e3
    · rcases getElem?_setp e' with ⟨e2', e3'⟩ | ⟨e2', e3'⟩
      · cases e3'
      · rw [List.getElem?_set_ne e2] at a
        rw [List.getElem?_set_ne e2'] at b
        exact R.obd j k c d d' q e3 e3' a b
theorem Rel.setO {i : Nat} {w : Bool} {d : Da} {p : Addr} (R : Rel K B env S σ H) (h : Own K B S H d p) (hn : ∀ (j : Nat) (sv : SV), env[j]? = some sv → OB sv → σ[j]? ≠ some (some (.ref p))) (hi : i < env.length) : Rel K B (env.set i (.own w d)) S (σ.set i (some (.ref p))) H := by
  have hi' : i < σ.length := by rw [← R.len]; exact hi
  refine ⟨R.w, by rw [List.length_set, List.length_set]; exact R.len, fun j d e => ?_, fun j e => ?_, fun j c d e => ?_, fun j k c c' d d' q e e' a b => ?_, fun j d e => ?_, fun j k c d d' q e e' a b => ?_, R.binj⟩
  · rcases getElem?_setp e with ⟨e2, e3⟩ | ⟨e2, e3⟩
    · cases e3
    · rw [List.getElem?_set_ne e2]; exact R.slot j d e3
  · rcases getElem?_setp e with ⟨e2, e3⟩ | ⟨e2, e3⟩
    · cases e3
    · rw [List.getElem?_set_ne e2]; exact R.dl j e3
  · rcases getElem?_setp e with ⟨e2, e3⟩ | ⟨e2, e3⟩
    · cases e3; subst e2
      exact ⟨p, List.getElem?_set_self hi', h⟩
    · rw [List.getElem?_set_ne e2]; exact R.own j c d e3
  · rcases getElem?_setp e with ⟨e2, e3⟩ | ⟨e2, e3⟩
    · rcases getElem?_setp e' with ⟨e2', e3'⟩ | ⟨e2', e3'⟩
      · rw [← e2, ← e2']
      · subst e2
        rw [List.getElem?_set_self hi'] at a
        rw [List.getElem?_set_ne e2'] at b
        cases a
        exact absurd b (hn k _ e3' trivial)
    · rcases getElem?_setp e' with ⟨e2', e3'⟩ | ⟨e2', e3'⟩
      · subst e2'
        rw [List.getElem?_set_self hi'] at b
        rw [List.getElem?_set_ne e2] at a
        cases b
        exact absurd a (hn j _ e3 trivial)
      · rw [List.getElem?_set_ne e2] at a
        rw [List.getElem?_set_ne e2'] at b
        exact R.dist j k c c' d d' q e3 e3' a b
  · rcases getElem?_setp e with ⟨e2, e3⟩ | ⟨e2, e3⟩
    · cases e3
    · rw [List.getElem?_set_ne e2]; exact R.bor j d e3
  · rcases getElem?_setp e' with ⟨e2', e3'⟩ | ⟨e2', e3'⟩
    · cases e3'
    · rcases getElem?_setp e with ⟨e2, e3⟩ | ⟨e2, e3⟩
      · subst e2
        rw [List.getElem?_set_self hi'] at a
        rw [List.getElem?_set_ne e2'] at b
        cases a
        exact hn k _ e3' trivial b
      · rw [List.getElem?_set_ne e2] at a
        rw [List.getElem?_set_ne e2'] at b
        exact R.obd j k c d d' q e3 e3' a b
/-- the same kind of slot with other data -/
def kin : SV → Da → SV
  | .bor _, d => .bor d
  | .own w _, d => .own w d
  | r, _ => r
theorem Rel.chgK {i : Nat} {sv : SV} {d0 : Da} {o0 : HO} {p : Addr} (R : Rel K B env S σ H) (ob : OB sv) (h : env[i]? = some sv) (hs : σ[i]? = some (some (.ref p))) (hB : B.H p = none) (hS : S p = none) (hd : HoD K S o0 d0) :
    Rel K B (env.set i (kin sv d0)) S σ (upd H p o0) := by
  have nfp : ¬ FP B p := R.w.nfp hB
  have hi : i < env.length := (List.getElem?_eq_some_iff.mp h).1
  have w : Wd B S (upd H p o0) := by
    refine ⟨fun a o e => ?_, R.w.bS, fun a o f e => ?_, R.w.bN, fun q l e => ?_⟩
    · have q : a ≠ p := fun z => by subst z; rw [hS] at e; cases e
      rw [upd_ne q]; exact R.w.sub a o e
    · have q : a ≠ p := fun z => by subst z; rw [hB] at e; cases e
      rw [upd_ne q]; exact R.w.bH a o f e
    · obtain ⟨d1, d2⟩ := R.w.deal q l e
      exact ⟨d1.up (upd_ne fun z => nfp ⟨q, l, e, .inl z.symm⟩) (upd_ne fun z => nfp ⟨q, l, e, .inr z.symm⟩), d2⟩
  have kv : ∀ {d : Da}, kin sv d0 ≠ .val d := fun {d} z => by cases sv <;> first | exact False.elim ob | cases z
  have kd : kin sv d0 ≠ .deal := fun z => by cases sv <;> first | exact False.elim ob | cases z
  have ko : ∀ {b : Bool} {d : Da}, kin sv d0 = .own b d → d = d0 ∧ ∃ d', sv = .own b d' := fun {b d} z => by
    cases sv <;> first | cases z | skip
    exact ⟨rfl, _, rfl⟩
  have kb : ∀ {d : Da}, kin sv d0 = .bor d → d = d0 ∧ ∃ d', sv = .bor d' := fun {d} z => by
    cases sv <;> first | cases z | skip
    exact ⟨rfl, _, rfl⟩
  have oth : ∀ {j : Nat} {q : Addr} {sv' : SV}, i ≠ j → env[j]? = some sv' → OB sv' → σ[j]? = some (some (.ref q)) → q ≠ p := fun {j q sv'} ne e o a z => by
    subst z
    cases sv with
    | own b d =>
      cases sv' with
      | own c e' => exact ne (R.dist i j _ _ _ _ q h e hs a)
      | bor e' => exact R.obd i j _ _ _ q h e hs a
      | _ => exact o
    | bor d =>
      cases sv' with
      | own c e' => exact R.obd j i _ _ _ q e h a hs
      | bor e' =>
        obtain ⟨p1, b1, a1, _⟩ := R.bor i d h
        obtain ⟨p2, b2, a2, _⟩ := R.bor j e' e
        rw [hs] at a1; cases a1
        rw [a] at a2; cases a2
        exact ne (R.binj i j _ b1 b2)
      | _ => exact o
    | _ => exact ob
  have same : Own K B S (upd H p o0) d0 p := ⟨hB, hS, o0, upd_same, hd⟩
  refine ⟨w, by rw [List.length_set]; exact R.len, fun j d e => ?_, fun j e => ?_, fun j c d' e => ?_, fun j k c c' d1 d2 q e e' a b => ?_, fun j d' e => ?_, fun j k c d1 d2 q e e' a b => ?_, R.binj⟩
  · rcases getElem?_setp e with ⟨e2, e3⟩ | ⟨e2, e3⟩
    · exact absurd e3.symm kv
    · exact R.slot j d e3
  · rcases getElem?_setp e with ⟨e2, e3⟩ | ⟨e2, e3⟩
    · exact absurd e3.symm kd
    · exact R.dl j e3
  · rcases getElem?_setp e with ⟨e2, e3⟩ | ⟨e2, e3⟩
    · obtain ⟨rfl, _⟩ := ko e3.symm
      subst e2
      exact ⟨p, hs, same⟩
    · obtain ⟨q, a, b', c1, o', d2, d3⟩ := R.own j c d' e3
      exact ⟨q, a, b', c1, o', by rw [upd_ne (oth e2 e3 trivial a)]; exact d2, d3⟩
  · have f : ∀ {m : Nat} {c : Bool} {x : Da}, (env.set i (kin sv d0))[m]? = some (.own c x) → ∃ c' y, env[m]? = some (.own c' y) := fun {m c x} z => by
      rcases getElem?_setp z with ⟨z2, z3⟩ | ⟨z2, z3⟩
      · obtain ⟨_, d', rfl⟩ := ko z3.symm
        subst z2; exact ⟨_, _, h⟩
      · exact ⟨_, _, z3⟩
    obtain ⟨c1, y1, f1⟩ := f e
    obtain ⟨c2, y2, f2⟩ := f e'
    exact R.dist j k c1 c2 y1 y2 q f1 f2 a b
  · rcases getElem?_setp e with ⟨e2, e3⟩ | ⟨e2, e3⟩
    · obtain ⟨rfl, d'', rfl⟩ := kb e3.symm
      subst e2
      obtain ⟨p1, b1, a1, _⟩ := R.bor i d'' h
      rw [hs] at a1; cases a1
      exact ⟨p, b1, hs, same⟩
    · obtain ⟨q, bq, a, b', c1, o', d2, d3⟩ := R.bor j d' e3
      exact ⟨q, bq, a, b', c1, o', by rw [upd_ne (oth e2 e3 trivial a)]; exact d2, d3⟩
  · have f : ∃ c' y, env[j]? = some (.own c' y) := by
      rcases getElem?_setp e with ⟨z2, z3⟩ | ⟨z2, z3⟩
      · obtain ⟨_, d', rfl⟩ := ko z3.symm
        subst z2; exact ⟨_, _, h⟩
      · exact ⟨_, _, z3⟩
    have g : ∃ y, env[k]? = some (.bor y) := by
      rcases getElem?_setp e' with ⟨z2, z3⟩ | ⟨z2, z3⟩
      · obtain ⟨_, d', rfl⟩ := kb z3.symm
        subst z2; exact ⟨_, h⟩
      · exact ⟨_, z3⟩
    obtain ⟨c1, y1, f1⟩ := f
    obtain ⟨y2, f2⟩ := g
    exact R.obd j k c1 y1 y2 q f1 f2 a b
end
end Pq
set_option Elab.async false
set_option linter.all false
set_option maxRecDepth 100000
set_option maxHeartbeats 4000000
namespace Pq
open PySem PySem.Spec PyProof.Rows L2
/-! ### results set into the env; freezing -/
section
variable {K : PySem.W.Frag} {B : Br} {env : En} {S H : Hp} {σ : L2.St}
theorem Rel.step {S' H' : Hp} (R : Rel K B env S σ H) (w : Wd B S' H') (e : Stp B S H S' H') (k : ∀ p, H p ≠ none → B.H p = none → S p = none → S' p = none) : Rel K B env S' σ H' :=
  R.stp w e fun i sv p a ob c => by
    obtain ⟨p', d, a', b', c', o', d2, d3⟩ := R.ob a ob
    rw [c] at a'; cases a'
    exact k p (by rw [d2]; exact fun z => nomatch z) b' c'
/-- a result that is owned becomes stable -/
theorem IsR.frz {env' : En} {S' H' : Hp} {b : Bool} {d : Da} {v : V} (st : Stq B σ env S H env' S' H') (R : Rel K B env' S' σ H') (h : IsR K B env' S' σ H H' (.own b d) v) : ∃ S2, Stq B σ env S H env' S2 H' ∧ Rel K B env' S2 σ H' ∧ Dq K S2 v d := by
  obtain ⟨hb, p, rfl, ⟨hB, hS, o0, hp, hd⟩, h0, hn⟩ := h
  have e1 : ∀ a o, S' a = some o → upd S' p o0 a = some o := upd_sub hS
  have w : Wd B (upd S' p o0) H' := by
    refine ⟨fun a o e => ?_, fun a o e => e1 a o (R.w.bS a o e), R.w.bH, fun a o e e2 => ?_, R.w.deal⟩
    · by_cases q : a = p
      · subst q; rw [upd_same] at e; cases e; exact hp
      · rw [upd_ne q] at e; exact R.w.sub a o e
    · have q : a ≠ p := fun z => by subst z; rw [hB] at e; cases e
      rw [upd_ne q]; exact R.w.bN a o e e2
  refine ⟨_, ⟨⟨fun a o e => e1 a o (st.s.1 a o e), st.s.2⟩, st.ow, fun a o f e n => ?_⟩, R.stp w ⟨e1, fun _ _ _ e => e⟩ fun i sv q a ob z => ?_, (hd.up e1).dq upd_same⟩
  · rw [upd_ne (ne_of_none e h0)]; exact st.fz a o f e n
  · have nq : q ≠ p := fun y => by subst y; exact hn i sv a ob z
    rw [upd_ne nq]
    obtain ⟨p', d', a', b', c', _⟩ := R.ob a ob
    rw [z] at a'; cases a'; exact c'
end
/-! ### the modes -/
abbrev ME := En → (SV → En → Prop) → Prop
abbrev MP := En → (Da → En → Prop) → Prop
abbrev MT := En → (Bool → En → Prop) → Prop
abbrev MA := En → (List SV → En → Prop) → Prop
abbrev ML := En → (List Da → En → Prop) → Prop
def AllR (K : PySem.W.Frag) (dl : Option (Addr × Addr)) (S : Hp) : List SV → List V → Prop
  | [], vs => vs = []
  | .val d :: rs, vs => ∃ v r, vs = v :: r ∧ Dq K S v d ∧ AllR K dl S rs r
  | .deal :: rs, vs => ∃ p l r, vs = .ref p :: r ∧ dl = some (p, l) ∧ AllR K dl S rs r
  | _, _ => False
theorem AllR.up {K : PySem.W.Frag} {dl : Option (Addr × Addr)} {S S' : Hp} (e : ∀ a o, S a = some o → S' a = some o) : ∀ {rs : List SV} {vs : List V}, AllR K dl S rs vs → AllR K dl S' rs vs
  | [], _, h => h
  | .val d :: rs, _, h => by
    obtain ⟨v, r, a, b, c⟩ := h
    exact ⟨v, r, a, Dq.up e _ _ b, AllR.up e c⟩
  | .deal :: rs, _, h => by
    obtain ⟨p, l, r, a, b, c⟩ := h
    exact ⟨p, l, r, a, b, AllR.up e c⟩
  | .no :: _, _, h => h.elim
  | .own _ _ :: _, _, h => h.elim
  | .bor _ :: _, _, h => h.elim
  | .res _ _ _ :: _, _, h => h.elim
theorem AllR.length {K : PySem.W.Frag} {dl : Option (Addr × Addr)} {S : Hp} : ∀ {rs : List SV} {vs : List V}, AllR K dl S rs vs → vs.length = rs.length
  | [], _, h => by cases (show _ = [] from h); rfl
  | .val d :: rs, _, h => by
    obtain ⟨v, r, rfl, b, c⟩ := h
    rw [List.length_cons, List.length_cons, AllR.length c]
  | .deal :: rs, _, h => by
    obtain ⟨p, l, r, rfl, b, c⟩ := h
    rw [List.length_cons, List.length_cons, AllR.length c]
  | .no :: _, _, h => h.elim
  | .own _ _ :: _, _, h => h.elim
  | .bor _ :: _, _, h => h.elim
  | .res _ _ _ :: _, _, h => h.elim
def AllP (K : PySem.W.Frag) (B : Br) (S H : Hp) : List Da → List V → Prop
  | [], vs => vs = []
  | d :: ds, vs => ∃ v r, vs = v :: r ∧ IsP K B S H d v ∧ AllP K B S H ds r
theorem AllP.up {K : PySem.W.Frag} {B : Br} {S H S' H' : Hp} (e : Stp B S H S' H') : ∀ {ds : List Da} {vs : List V}, AllP K B S H ds vs → AllP K B S' H' ds vs
  | [], _, h => h
  | d :: ds, _, h => by
    obtain ⟨v, r, a, b, c⟩ := h
    exact ⟨v, r, a, IsP.up e b, AllP.up e c⟩
section
variable (Z : ZX) (K : PySem.W.Frag)
def tE (m : ME) : TE := fun σ H Q => ∃ B : Bs Z, ∃ env S, ∃ Q0 : SV → En → Prop, Rel K B env S σ H ∧ m env Q0 ∧ ∀ r env', Q0 r env' → ∀ v S' H', Stq B σ env S H env' S' H' → Rel K B env' S' σ H' → IsR K B env' S' σ H H' r v → Q v H'
def tP (m : MP) : TE := fun σ H Q => ∃ B : Bs Z, ∃ env S, ∃ Q0 : Da → En → Prop, Rel K B env S σ H ∧ m env Q0 ∧ ∀ d env', Q0 d env' → ∀ v S' H', Stq B σ env S H env' S' H' → Rel K B env' S' σ H' → IsP K B S' H' d v → Q v H'
def tS (m : MP) : TE := fun σ H Q => ∃ B : Bs Z, ∃ env S, ∃ Q0 : Da → En → Prop, Rel K B env S σ H ∧ m env Q0 ∧ ∀ d env', Q0 d env' → ∀ v S' H', Stq B σ env S H env' S' H' → Rel K B env' S' σ H' → Dq K S' v d → Q v H'
def tT (m : MT) : TT := fun σ H Q => ∃ B : Bs Z, ∃ env S, ∃ Q0 : Bool → En → Prop, Rel K B env S σ H ∧ m env Q0 ∧ ∀ b env', Q0 b env' → ∀ S' H', Stq B σ env S H env' S' H' → Rel K B env' S' σ H' → Q b H'
def tAr (m : MA) : TA := fun σ H Q => ∃ B : Bs Z, ∃ env S, ∃ Q0 : List SV → En → Prop, Rel K B env S σ H ∧ m env Q0 ∧ ∀ rs env', Q0 rs env' → ∀ vs S' H', Stq B σ env S H env' S' H' → Rel K B env' S' σ H' → AllR K B.deal S' rs vs → Q vs H'
def tPs (m : ML) : TA := fun σ H Q => ∃ B : Bs Z, ∃ env S, ∃ Q0 : List Da → En → Prop, Rel K B env S σ H ∧ m env Q0 ∧ ∀ ds env', Q0 ds env' → ∀ vs S' H', Stq B σ env S H env' S' H' → Rel K B env' S' σ H' → AllP K B S' H' ds vs → Q vs H'
end
section
variable (Z : ZX) (X : Cx)
abbrev DE (e : Expr) (m : ME) : Prop := PE X e (tE Z X.K m)
abbrev DP (e : Expr) (m : MP) : Prop := PE X e (tP Z X.K m)
abbrev DS (e : Expr) (m : MP) : Prop := PE X e (tS Z X.K m)
abbrev DT (e : Expr) (m : MT) : Prop := PT X e (tT Z X.K m)
abbrev DA (es : List Expr) (m : MA) : Prop := PA X es (tAr Z X.K m)
abbrev DPs (es : List Expr) (m : ML) : Prop := PA X es (tPs Z X.K m)
end
section
variable {X : Cx}
theorem _root_.L2.PE.un {e : Expr} {t' : TE} (h : ∀ σ H Q, t' σ H Q → ∃ t, PE X e t ∧ t σ H Q) : PE X e t' := ⟨fun pins s σ H Q I h' => by
  obtain ⟨t, p, q⟩ := h σ H Q h'
  exact p.run pins s σ H Q I q⟩
theorem _root_.L2.PE.wk {e : Expr} {t t' : TE} (p : PE X e t) (h : ∀ σ H Q, t' σ H Q → t σ H Q) : PE X e t' := ⟨fun pins s σ H Q I h' => p.run pins s σ H Q I (h σ H Q h')⟩
theorem _root_.L2.PT.wk {e : Expr} {t t' : TT} (p : PT X e t) (h : ∀ σ H Q, t' σ H Q → t σ H Q) : PT X e t' := ⟨fun pins s σ H Q I h' => p.run pins s σ H Q I (h σ H Q h')⟩
theorem _root_.L2.PA.wk {es : List Expr} {t t' : TA} (p : PA X es t) (h : ∀ σ H Q, t' σ H Q → t σ H Q) : PA X es t' := ⟨fun ps pins s σ H Q I h' => p.run ps pins s σ H Q I (h σ H Q h')⟩
theorem _root_.L2.PS.wk {st : Stmt} {t t' : TS} (p : PS X st t) (h : ∀ D σ H, t' D σ H → t D σ H) : PS X st t' := ⟨fun pins s σ H D I h' => p.run pins s σ H D I (h D σ H h')⟩
theorem _root_.L2.PSs.wk {st : List Stmt} {t t' : TS} (p : PSs X st t) (h : ∀ D σ H, t' D σ H → t D σ H) : PSs X st t' := ⟨fun pins s σ H D I h' => p.run pins s σ H D I (h D σ H h')⟩
def uR (X : Cx) (g : Value → Value → Sem Value) : R2 := fun x y H Q => ∃ r, OpR X g r ∧ r x y H Q
theorem OpR.un {g : Value → Value → Sem Value} : OpR X g (uR X g) := fun pins s σ H x y v u Q I rx ry h => by
  obtain ⟨r, p, q⟩ := h
  exact p pins s σ H x y v u Q I rx ry q
def uC (X : Cx) (f : Value) : List V → Hp → VK → Prop := fun xs H Q => ∃ r, CallR X f r ∧ r xs H Q
theorem CallR.un {f : Value} : CallR X f (uC X f) := fun pins s σ H xs us Q I rx h => by
  obtain ⟨r, p, q⟩ := h
  exact p pins s σ H xs us Q I rx q
def uI (X : Cx) : R2 := fun x y H Q => ∃ r, IxR X r ∧ r x y H Q
theorem IxR.un : IxR X (uI X) := fun a b pins s σ H x y v u Q I rx ry h => by
  obtain ⟨r, p, q⟩ := h
  exact p a b pins s σ H x y v u Q I rx ry q
def uM (X : Cx) (id : String) : V → List V → Hp → VK → Prop := fun x xs H Q => ∃ r, MtR X id r ∧ r x xs H Q
theorem MtR.un {id : String} : MtR X id (uM X id) := fun pins s σ H x xs v us Q I rx rs h => by
  obtain ⟨r, p, q⟩ := h
  exact p pins s σ H x xs v us Q I rx rs q
def uL (X : Cx) : V → Option Int → Option Int → Hp → VK → Prop := fun x lo hi H Q => ∃ r, SlR X r ∧ r x lo hi H Q
theorem SlR.un : SlR X (uL X) := fun pins s σ H x v vl vu lo hi sl Q I rx hs pl pu h => by
  obtain ⟨r, p, q⟩ := h
  exact p pins s σ H x v vl vu lo hi sl Q I rx hs pl pu q
/-! ### what is left to show of a result -/
def Cl (K : PySem.W.Frag) (B : Br) (env : En) (S : Hp) (σ : L2.St) (H : Hp) (Q : SV → Prop) (Q' : VK) : Prop :=
  ∀ r v S' H', Q r → Stq B σ env S H env S' H' → Rel K B env S' σ H' → IsR K B env S' σ H H' r v → Q' v H'
section
variable {K : PySem.W.Frag} {B : Br} {env : En} {S H : Hp} {σ : L2.St} {Q : SV → Prop} {Q' : VK}
theorem Cl.val {d : Da} {v : V} (c : Cl K B env S σ H Q Q') (R : Rel K B env S σ H) (q : Q (.val d)) (h : Dq K S v d) : Q' v H := c _ v S H q .refl R h
theorem Cl.newT {ds : List Da} {vs : List V} {p : Addr} (c : Cl K B env S σ H Q Q') (R : Rel K B env S σ H) (q : Q (.val (.tuple ds))) (h : DqAll K S vs ds) (hp : H p = none) {o : Obj} (ho : o.dict = none) : Q' (.ref p) (upd H p (.frz o (.tup vs))) :=
  c _ _ _ _ q (stq_allocS R.w hp) (R.allocS hp) (Dq.tup (.inl ⟨o, upd_same, ho⟩) (DqAll.up (upd_sub (R.w.snone hp)) _ _ h))
theorem Cl.newL {ds : List Da} {vs : List V} {p : Addr} (c : Cl K B env S σ H Q Q') (R : Rel K B env S σ H) (q : Q (.own true (.list ds))) (h : DqAll K S vs ds) (hp : H p = none) : Q' (.ref p) (upd H p (.lst vs)) :=
  c _ _ _ _ q (stq_alloc hp) (R.alloc hp) ⟨rfl, p, rfl, ⟨R.w.bnone hp, R.w.snone hp, _, upd_same, .lst h⟩, hp, R.fresh hp⟩
end
/-! ### reading what is looked at -/
section
variable {K : PySem.W.Frag} {B : Br} {S H : Hp} {v : V}
theorem IsP.int {i : Int} (h : IsP K B S H (.int i) v) : v = .int i := by
  rcases h with h | ⟨p, o, _, _, _, e⟩
  · cases h; rfl
  · cases e
theorem IsP.bl {b : Bool} (h : IsP K B S H (.bool b) v) : v = .bl b := by
  rcases h with h | ⟨p, o, _, _, _, e⟩
  · cases h; rfl
  · cases e
theorem IsP.str {x : Str} (h : IsP K B S H (.str x) v) : v = .str x := by
  rcases h with h | ⟨p, o, _, _, _, e⟩
  · cases h; rfl
  · cases e
theorem IsP.non (h : IsP K B S H .none v) : v = .non := by
  rcases h with h | ⟨p, o, _, _, _, e⟩
  · cases h; rfl
  · cases e
theorem IsP.tupP {ds : List Da} (h : IsP K B S H (.tuple ds) v) : ∃ a vs, v = .ref a ∧ PlT K S a vs ∧ DqAll K S vs ds := by
  rcases h with h | ⟨p, o, _, _, _, e⟩
  · cases h with
    | tup a b => exact ⟨_, _, rfl, a, b⟩
  · cases e
theorem IsP.tup {ds : List Da} (h : IsP K B S H (.tuple ds) v) : ∃ a vs, v = .ref a ∧ SqT K S a vs ∧ DqAll K S vs ds := by
  rcases h with h | ⟨p, o, _, _, _, e⟩
  · cases h with
    | tup a b => exact ⟨_, _, rfl, a.sq, b⟩
  · cases e
theorem IsP.lst {ds : List Da} (w : Wd B S H) (h : IsP K B S H (.list ds) v) : ∃ a vs, v = .ref a ∧ Rd H a (.lst vs) ∧ DqAll K S vs ds := by
  rcases h with h | ⟨p, o, e1, _, e3, e⟩
  · cases h with
    | lst a b => exact ⟨_, _, rfl, Rd.up w.sub a, b⟩
  · cases e with
    | lst e4 => exact ⟨p, _, e1, .inl e3, e4⟩
theorem IsP.dq {d : Da} (w : Wd B S H) (h : IsP K B S H d v) : Dq K H v d := by
  rcases h with h | ⟨p, o, rfl, _, e3, e4⟩
  · exact Dq.up w.sub _ _ h
  · exact (e4.up w.sub).dq e3
theorem IsP.dp {d : Da} (w : Wd B S H) (h : IsP K B S H d v) (c : SeqAt.shaped d = true) : Dp K H v d := by
  have c : (d.canLay0 && decide (d.depth ≤ 64)) = true := c
  rw [Bool.and_eq_true] at c
  exact Dq.dp _ _ c.1 (h.dq w)
end
/-! ### modes into modes -/
def toD (m : ME) : MP := fun env Q => m env fun r e => match r with
  | .val d => Q d e
  | .own _ d => Q d e
  | _ => False
def toE (m : MP) : ME := fun env Q => m env fun d e => Q (.val d) e
theorem ds_e {e : Expr} {m : ME} (h : DE Z X e m) : DS Z X e (toD m) := h.wk fun σ H Q ⟨B, env, S, Q0, R, hm, k⟩ => by
  refine ⟨B, env, S, _, R, hm, fun r env' q v S' H' st R' ir => ?_⟩
  cases r with
  | val d => exact k d env' q v S' H' st R' ir
  | own b d =>
    obtain ⟨S2, st2, R2, dp⟩ := IsR.frz st R' ir
    exact k d env' q v S2 H' st2 R2 dp
  | no => exact ir.elim
  | deal => exact q.elim
  | bor d => exact q.elim
  | res b d ids => exact q.elim
theorem dp_s {e : Expr} {m : MP} (h : DS Z X e m) : DP Z X e m := h.wk fun σ H Q ⟨B, env, S, Q0, R, hm, k⟩ =>
  ⟨B, env, S, Q0, R, hm, fun d env' q v S' H' st R' ir => k d env' q v S' H' st R' (.inl ir)⟩
theorem dp_e {e : Expr} {m : ME} (h : DE Z X e m) : DP Z X e (toD m) := dp_s (ds_e h)
theorem de_s {e : Expr} {m : MP} (h : DS Z X e m) : DE Z X e (toE m) := h.wk fun σ H Q ⟨B, env, S, Q0, R, hm, k⟩ =>
  ⟨B, env, S, _, R, hm, fun d env' q v S' H' st R' ir => k _ env' q v S' H' st R' ir⟩
/-! ### names and constants -/
def mVar (i : Nat) : ME := fun env Q => match env[i]? with
  | some (.val d) => Q (.val d) env
  | some (.own true d) => Q (.val d) (env.set i (.val d))
  | some .deal => Q .deal env
  | _ => False
def mPk (i : Nat) : MP := fun env Q => match env[i]? with
  | some (.val d) => Q d env
  | some (.own _ d) => Q d env
  | some (.bor d) => Q d env
  | _ => False
theorem de_var (i : Nat) {x : Str} {pos : Pos} (hN : X.N[i]? = some x := by rfl) (hv : Vis X.env.scope x := by first | exact Or.inl rfl | exact Or.inr (Or.inl rfl) | exact Or.inr (Or.inr rfl)) (hd : (x == ("__debug__" : Str)) = false := by decide)
    (hcd : (x == ("__classdict__" : Str)) = false := by decide) : DE Z X (.Name x pos) (mVar i) := (pe_var hN hv hd hcd).wk fun σ H Q ⟨B, env, S, Q0, R, hm, k⟩ => by
  unfold mVar at hm
  cases e : env[i]? with
  | none => rw [e] at hm; exact hm.elim
  | some sv =>
    rw [e] at hm
    cases sv with
    | no => exact hm.elim
    | val d =>
      obtain ⟨v, a, b⟩ := R.slot i d e
      exact ⟨v, a, k _ _ hm v S H .refl R b⟩
    | own w d =>
      cases w with
      | false => exact hm.elim
      | true =>
        obtain ⟨p, a, hB, hS, o, hp, hd⟩ := R.own i true d e
        obtain ⟨R', st⟩ := R.frz e a hp hd hB hS
        exact ⟨.ref p, a, k _ _ hm _ _ H (st rfl) R' ((hd.up (st rfl).s.1).dq upd_same)⟩
    | deal =>
      obtain ⟨p, l, a, b⟩ := R.dl i e
      exact ⟨.ref p, b, k _ _ hm _ S H .refl R ⟨p, l, a, rfl⟩⟩
    | bor d => exact hm.elim
    | res b d ids => exact hm.elim
theorem dp_var (i : Nat) {x : Str} {pos : Pos} (hN : X.N[i]? = some x := by rfl) (hv : Vis X.env.scope x := by first | exact Or.inl rfl | exact Or.inr (Or.inl rfl) | exact Or.inr (Or.inr rfl)) (hd : (x == ("__debug__" : Str)) = false := by decide)
    (hcd : (x == ("__classdict__" : Str)) = false := by decide) : DP Z X (.Name x pos) (mPk i) := (pe_var hN hv hd hcd).wk fun σ H Q ⟨B, env, S, Q0, R, hm, k⟩ => by
  unfold mPk at hm
  cases e : env[i]? with
  | none => rw [e] at hm; exact hm.elim
  | some sv =>
    rw [e] at hm
    cases sv with
    | no => exact hm.elim
    | val d =>
      obtain ⟨v, a, b⟩ := R.slot i d e
      exact ⟨v, a, k _ _ hm v S H .refl R (.inl b)⟩
    | own w d =>
      obtain ⟨p, a, hB, hS, o, hp, hd⟩ := R.own i w d e
      exact ⟨.ref p, a, k _ _ hm _ S H .refl R (.inr ⟨p, o, rfl, R.w.nfp hB, hp, hd⟩)⟩
    | deal => exact hm.elim
    | bor d =>
      obtain ⟨p, _, a, hB, hS, o, hp, hd⟩ := R.bor i d e
      exact ⟨.ref p, a, k _ _ hm _ S H .refl R (.inr ⟨p, o, rfl, R.w.nfp hB, hp, hd⟩)⟩
    | res b d ids => exact hm.elim
def mC (d : Da) : MP := fun env Q => Q d env
theorem ds_c {e : Expr} {d : Da} {v : V} (h : PE X e (tC v)) (hd : ∀ S, Dq X.K S v d) : DS Z X e (mC d) := h.wk fun σ H Q ⟨B, env, S, Q0, R, hm, k⟩ => k d env hm v S H .refl R (hd S)
theorem ds_int {i j pos} : DS Z X (.Constant (.int i) j pos) (mC (.int i)) := ds_c pe_int fun _ => .int i
theorem ds_bl {b j pos} : DS Z X (.Constant (.bool b) j pos) (mC (.bool b)) := ds_c pe_bl fun _ => .bl b
theorem ds_str {x j pos} : DS Z X (.Constant (.str x) j pos) (mC (.str x)) := ds_c pe_str fun _ => .str x
/-! ### two-place operators -/
def OpD (X : Cx) (g : Value → Value → Sem Value) (f : Da → Da → (SV → Prop) → Prop) : Prop :=
  ∀ (B : Br) (env : En) (S : Hp) (σ : L2.St) (H : Hp) (x y : V) (c d : Da) (Q : SV → Prop) (Q' : VK), Rel X.K B env S σ H → IsP X.K B S H c x → IsP X.K B S H d y → f c d Q → Cl X.K B env S σ H Q Q' → uR X g x y H Q'
def mBin (f : Da → Da → (SV → Prop) → Prop) (ma mb : MP) : ME := fun env Q => ma env fun x e1 => mb e1 fun y e2 => f x y fun r => Q r e2
theorem op_run {g : Value → Value → Sem Value} {f : Da → Da → (SV → Prop) → Prop} (ho : OpD X g f) {ma mb : MP} : ∀ σ H Q, tE Z X.K (mBin f ma mb) σ H Q → tOp (uR X g) (tP Z X.K ma) (tP Z X.K mb) σ H Q := fun σ H Q ⟨B, env, S, Q0, R, hm, k⟩ => by
  refine ⟨B, env, S, _, R, hm, fun c e1 hm1 x S1 H1 st1 R1 p1 => ?_⟩
  refine ⟨B, e1, S1, _, R1, hm1, fun d e2 hm2 y S2 H2 st2 R2 p2 => ?_⟩
  exact ho B e2 S2 σ H2 x y c d _ Q R2 (IsP.up st2.s p1) p2 hm2 fun r v S' H' q st R' ir => k r e2 q v S' H' ((st1.trans st2).trans st) R' (ir.back R.w (st1.trans st2))
theorem de_bin {a b : Expr} {op : Operator} {pos : Pos} {f : Da → Da → (SV → Prop) → Prop} {ma mb : MP} (ho : OpD X (binaryOp op) f) (ha : DP Z X a ma) (hb : DP Z X b mb) : DE Z X (.BinOp a op b pos) (mBin f ma mb) := (pe_op OpR.un ha hb).wk (op_run ho)
theorem de_cmp {a b : Expr} {op : CmpOp} {pos : Pos} {f : Da → Da → (SV → Prop) → Prop} {ma mb : MP} (ho : OpD X (compareOp op) f) (ha : DP Z X a ma) (hb : DP Z X b mb) (hm : behindInMarks op b = false := by rfl) : DE Z X (.Compare a [op] [b] pos) (mBin f ma mb) := (pe_cmpR OpR.un ha hb hm).wk (op_run ho)
end
end Pq
set_option Elab.async false
set_option linter.all false
set_option maxRecDepth 100000
set_option maxHeartbeats 4000000
namespace Pq
open PySem PySem.Spec PyProof.Rows L2
/-! ### dicts whose keys are tuples of ints, at the hand layer -/
def tval (kvs : TKv) (k : List Int) : Option V := (kvs.find? fun p => decide (p.1 = k)).map (·.2.2)
def tput (kvs : TKv) (k : List Int) (b : Addr) (v : V) : TKv := if (tval kvs k).isSome then kvs.map (fun p => if p.1 = k then (p.1, p.2.1, v) else p) else kvs ++ [(k, b, v)]
def TObj (H : Hp) (a : Addr) (kvs : TKv) : Prop := (∃ a', H a = some (dtO a' kvs)) ∨ (kvs = [] ∧ Rd H a (.dK []))
def TKeys (K : PySem.W.Frag) (H : Hp) (kvs : TKv) : Prop := ∀ p ∈ kvs, SqT K H p.2.1 (p.1.map V.int)
theorem tPr_val {kvs : TKv} {xs : List (List Int × Addr × Value)} (r : Paired TPr kvs xs) (k : List Int) : RelO (tval kvs k) ((atKey xs k).map (·.2)) := by
  induction r with
  | nil => trivial
  | @cons p q ps qs hq t ih =>
    obtain ⟨e1, e2, e3⟩ := hq
    unfold tval atKey at ih ⊢
    by_cases c : p.1 = k
    · rw [List.find?_cons_of_pos (p := fun p : List Int × Addr × V => decide (p.1 = k)) (decide_eq_true c), List.find?_cons_of_pos (p := fun x : List Int × Addr × Value => decide (x.1 = k)) (by rw [← e1]; exact decide_eq_true c)]
      exact e3
    · rw [List.find?_cons_of_neg (p := fun p : List Int × Addr × V => decide (p.1 = k)) (by rw [decide_eq_false c]; exact Bool.false_ne_true), List.find?_cons_of_neg (p := fun x : List Int × Addr × Value => decide (x.1 = k)) (by rw [← e1, decide_eq_false c]; exact Bool.false_ne_true)]
      exact ih
theorem tPr_len {kvs : TKv} {xs : List (List Int × Addr × Value)} (r : Paired TPr kvs xs) : kvs.length = xs.length := Paired.length r
theorem relO_isSome {o : Option V} {u : Option Value} (r : RelO o u) : o.isSome = u.isSome := RelO.isSome_eq r
theorem tPr_put {kvs : TKv} {xs : List (List Int × Addr × Value)} (r : Paired TPr kvs xs) (k : List Int) (b : Addr) {v : V} {u : Value} (rv : RelV v u) : Paired TPr (tput kvs k b v) (storedH xs k b u) := by
  have e := relO_isSome (tPr_val r k)
  rw [Option.isSome_map] at e
  unfold tput storedH
  rw [e]
  cases z : (atKey xs k).isSome with
  | true =>
    rw [if_pos rfl, if_pos rfl]
    clear e z
    induction r with
    | nil => exact .nil
    | @cons p q ps qs hq t ih =>
      obtain ⟨e1, e2, e3⟩ := hq
      rw [List.map_cons, List.map_cons]
      refine .cons ?_ ih
      unfold putAt
      by_cases c : p.1 = k
      · rw [if_pos c, if_pos (by rw [← e1]; exact c)]
        exact ⟨e1, e2, rv⟩
      · rw [if_neg c, if_neg (by rw [← e1]; exact c)]
        exact ⟨e1, e2, e3⟩
  | false =>
    rw [if_neg Bool.false_ne_true, if_neg Bool.false_ne_true]
    clear e z
    induction r with
    | nil => exact .cons ⟨rfl, rfl, rv⟩ .nil
    | cons hq t ih => exact .cons hq ih
theorem tput_len (kvs : TKv) (k : List Int) (b : Addr) (v : V) : (tput kvs k b v).length ≤ kvs.length + 1 := by
  unfold tput
  split
  · rw [List.length_map]; omega
  · rw [List.length_append]; exact Nat.le_refl _
/-- the description of an object stands at its own place -/
theorem dtO_at' {P : Program} {w : World} {H : Hp} {h : Heap} {a : Addr} {a' : DAo} {kvs : TKv} (x : ObjOk P w H h a (dtO a' kvs)) : a'.1 = a ∧ h.get? a = some a'.2 ∧ TDat h a kvs := by
  obtain ⟨p, ⟨o, e⟩, st⟩ := x
  have ea : a'.1 = a := by
    obtain ⟨G, g1, g2⟩ := L2.restrict h (fun b => decide (b = a))
    have pG := st h G p fun o' e' => by rw [g1 a (decide_eq_true rfl)]; exact e'
    obtain ⟨e2, _⟩ := pG
    by_cases c : a'.1 = a
    · exact c
    · rw [g2 a'.1 (decide_eq_false c)] at e2
      cases e2
  obtain ⟨a1, o1⟩ := a'
  cases ea
  exact ⟨rfl, p⟩
theorem dtO_at {P : Program} {w : World} {H : Hp} {h : Heap} {a : Addr} {a' : DAo} {kvs : TKv} (x : ObjOk P w H h a (dtO a' kvs)) : a'.1 = a ∧ TDat h a kvs := ⟨(dtO_at' x).1, (dtO_at' x).2.2⟩
theorem dtO_new {P : Program} {w : World} {H : Hp} {h : Heap} {a : Addr} {kvs : TKv} {o : Obj} (g : h.get? a = some o) (x : TDat h a kvs) : ObjOk P w H h a (dtO (a, o) kvs) := by
  refine ⟨⟨g, x⟩, ⟨o, g⟩, fun h1 h2 p st => ?_⟩
  obtain ⟨g1, z, y, xs, r, o, es, ep, e, k⟩ := p
  exact ⟨st _ g1, z, y, xs, r, o, es, ep, st o e, k⟩
section
variable {X : Cx} {pins : List (Addr × Obj)} {σ : L2.St} {H : Hp} {s : Shared} {a b : Addr} {kvs : TKv} {k : List Int} {y v d : V} {u r : Value} {o : Option V} {A : Around} {E : Value → Shared → Prop}
theorem tk_at (I : Inv X pins σ H s) (T : TObj H a kvs) (hk : TKeys X.K H kvs) : kvs.length ≤ sizeLine ∧ (a == sysModules) = false ∧ ∃ xs, Paired TPr kvs xs ∧ s.heap.DictOfH (tupleKind (intKind X.prog X.w)) a xs := by
  rcases T with ⟨a', e⟩ | ⟨rfl, e⟩
  · obtain ⟨_, z, y, xs, r, o, es, ep, h1, h2, h3, h4, h5⟩ := dtO_at (I.hok _ _ e)
    refine ⟨z, y, xs, r, o, es, ep, h1, h2, h3, h4, fun x hx => ?_, h5⟩
    have all : ∀ {l : TKv} {m : List (List Int × Addr × Value)}, Paired TPr l m → TKeys X.K H l → ∀ x ∈ m, (tupleKind (intKind X.prog X.w)).is s.heap x.1 x.2.1 := fun {l m} q => by
      induction q with
      | nil => intro _ x hx; exact nomatch hx
      | @cons p q ps qs hq t ih =>
        intro hk x hx
        rcases List.mem_cons.mp hx with e | hx
        · subst e
          rw [← hq.1, ← hq.2.1]
          exact L2.Inv.isT I (hk p List.mem_cons_self)
        · exact ih (fun p hp => hk p (List.mem_cons_of_mem _ hp)) x hx
    exact all r hk x hx
  · obtain ⟨_, hd, vs, rel, o, es, ep, h1, h2, h3, h4⟩ := dk_rd I.hok e
    cases rel
    obtain ⟨_, hp, _⟩ := h4
    have e0 : es.toList = [] := by
      generalize es.toList = l at hp
      cases hp
      rfl
    refine ⟨Nat.zero_le _, hd, [], .nil, o, es, ep, h1, h2, h3, e0, fun x hx => by simp at hx, List.nodup_nil⟩
theorem t_getItem {Q : Value → Shared → Prop} (hu : A.units + 1 < cLine) (I : Inv X pins σ H s) (T : TObj H a kvs) (hk : TKeys X.K H kvs) (eb : SqT X.K H b (k.map V.int)) (l : tval kvs k = some v) (h : ∀ w' s', Inv X pins σ H s' → RelV v w' → Q w' s') :
    wpAny (model X.prog X.w) A (getItem (.ref a) (.ref b)) Q E s := by
  obtain ⟨z, hd, xs, rel, dd⟩ := tk_at I T hk
  obtain ⟨w', hw, rw'⟩ := RelO.some_of (v := v) (o := (atKey xs k).map (·.2)) (by rw [← l]; exact tPr_val rel k)
  obtain ⟨p, hp, hp2⟩ := Option.map_eq_some_iff.mp hw
  refine wpAny_getItem_heap (tupleKind_room_in1 hu) (L2.Inv.isT I eb) dd hp ?_
  rw [hp2]
  exact h w' _ (I.tok _) rw'
theorem t_in {Q : Value → Shared → Prop} (hu : A.units + 1 < cLine) (I : Inv X pins σ H s) (T : TObj H a kvs) (hk : TKeys X.K H kvs) (eb : SqT X.K H b (k.map V.int)) (h : ∀ s', Inv X pins σ H s' → Q (.bool (tval kvs k).isSome) s') :
    wpAny (model X.prog X.w) A (compareOp .In (.ref b) (.ref a)) Q E s := by
  obtain ⟨z, hd, xs, rel, dd⟩ := tk_at I T hk
  refine wpAny_in_heap (tupleKind_room_in1 hu) (L2.Inv.isT I eb) hd dd ?_
  have q := relO_isSome (tPr_val rel k)
  rw [Option.isSome_map] at q
  rw [← q]
  exact h _ (I.tok _)
theorem t_notIn {Q : Value → Shared → Prop} (hu : A.units + 1 < cLine) (I : Inv X pins σ H s) (T : TObj H a kvs) (hk : TKeys X.K H kvs) (eb : SqT X.K H b (k.map V.int)) (h : ∀ s', Inv X pins σ H s' → Q (.bool (!(tval kvs k).isSome)) s') :
    wpAny (model X.prog X.w) A (compareOp .NotIn (.ref b) (.ref a)) Q E s := by
  obtain ⟨z, hd, xs, rel, dd⟩ := tk_at I T hk
  refine wpAny_notIn_heap (tupleKind_room_in1 hu) (L2.Inv.isT I eb) hd dd ?_
  have q := relO_isSome (tPr_val rel k)
  rw [Option.isSome_map] at q
  rw [← q]
  exact h _ (I.tok _)
theorem t_get2 {Q : Value → Shared → Prop} (hu : A.units + 1 < cLine) (I : Inv X pins σ H s) (T : TObj H a kvs) (hk : TKeys X.K H kvs) (eb : SqT X.K H b (k.map V.int)) (rd : RelV d r) (h : ∀ w' s', Inv X pins σ H s' → RelV ((tval kvs k).getD d) w' → Q w' s') :
    wpAny (model X.prog X.w) A (call (.builtin "dict.get") [.ref a, .ref b, r]) Q E s := by
  obtain ⟨z, hd, xs, rel, dd⟩ := tk_at I T hk
  refine call_meetsIn PySem.F.slot_dict_get dd.typeIs PySem.F.entry_dict_get (PySem.F.args_dict_get_3 _ _ _) (meetsH_dict_get_default (tupleKind (intKind X.prog X.w)) a b hd r) ⟨tupleKind_room_in1 hu, k, xs, L2.Inv.isT I eb, dd, h _ _ (I.tok _) ?_⟩
  exact (tPr_val rel k).getD rd
theorem t_setItem {Q : Unit → Shared → Prop} (hu : A.units + 1 < cLine) (I : Inv X pins σ H s) (T : (∃ a', H a = some (dtO a' kvs)) ∨ (kvs = [] ∧ H a = some (.dK []))) (hk : TKeys X.K H kvs) (hl : kvs.length < sizeLine) (eb : SqT X.K H b (k.map V.int)) (rv : RelV v r)
    (h : ∀ o s', Inv X pins σ (upd H a (dtO (a, o) (tput kvs k b v))) s' → Q () s') : wpAny (model X.prog X.w) A (setItem (.ref a) (.ref b) r) Q E s := by
  have T' : TObj H a kvs := T.elim .inl fun z => .inr ⟨z.1, .inl z.2⟩
  have mu : Mut (H a) := by
    rcases T with ⟨a', e⟩ | ⟨_, e⟩
    · rw [e]; exact True.intro
    · rw [e]; exact True.intro
  obtain ⟨z, hd, xs, rel, dd⟩ := tk_at I T' hk
  have hz : xs.length ≤ sizeLine := by rw [← tPr_len rel]; exact z
  have hl2 : (tput kvs k b v).length ≤ sizeLine := by have := tput_len kvs k b v; omega
  refine wpAny_setItem_heap (hsz := hz) (tupleKind_room_in1 hu) (L2.Inv.isT I eb) dd fun h' dd' hs => ?_
  obtain ⟨q, es, ep, hq, h2, h3, h4, _, h5⟩ := dd'
  refine h q _ ?_
  exact d_write I mu hs ⟨q, hq⟩ (dtO_new hq ⟨hl2, hd, _, tPr_put rel k b rv, q, es, ep, hq, h2, h3, h4, h5⟩)
/-! ### both sorts of dicts -/
def DGX (K : PySem.W.Frag) (H : Hp) (a : Addr) (y : V) (o : Option V) : Prop := DGet H a y o ∨ ∃ kvs k b, TObj H a kvs ∧ TKeys K H kvs ∧ y = .ref b ∧ SqT K H b (k.map V.int) ∧ o = tval kvs k
def IsDX (K : PySem.W.Frag) (H : Hp) (a : Addr) : Prop := IsD H a ∨ ∃ kvs, TObj H a kvs ∧ TKeys K H kvs
theorem d_getItemX {Q : Value → Shared → Prop} (hu : A.units + 1 < cLine) (I : Inv X pins σ H s) (g : DGX X.K H a y (some v)) (ry : RelV y u) (h : ∀ w' s', Inv X pins σ H s' → RelV v w' → Q w' s') :
    wpAny (model X.prog X.w) A (getItem (.ref a) u) Q E s := by
  rcases g with g | ⟨kvs, k, b, T, hk, rfl, eb, l⟩
  · exact d_getItem hu I g ry h
  · cases (show u = Value.ref b from ry)
    exact t_getItem hu I T hk eb l.symm h
theorem d_inX {Q : Value → Shared → Prop} (hu : A.units + 1 < cLine) (I : Inv X pins σ H s) (g : DGX X.K H a y o) (ry : RelV y u) (h : ∀ s', Inv X pins σ H s' → Q (.bool o.isSome) s') :
    wpAny (model X.prog X.w) A (compareOp .In u (.ref a)) Q E s := by
  rcases g with g | ⟨kvs, k, b, T, hk, rfl, eb, l⟩
  · exact d_in hu I g ry h
  · cases (show u = Value.ref b from ry)
    subst l
    exact t_in hu I T hk eb h
theorem d_notInX {Q : Value → Shared → Prop} (hu : A.units + 1 < cLine) (I : Inv X pins σ H s) (g : DGX X.K H a y o) (ry : RelV y u) (h : ∀ s', Inv X pins σ H s' → Q (.bool (!o.isSome)) s') :
    wpAny (model X.prog X.w) A (compareOp .NotIn u (.ref a)) Q E s := by
  rcases g with g | ⟨kvs, k, b, T, hk, rfl, eb, l⟩
  · exact d_notIn hu I g ry h
  · cases (show u = Value.ref b from ry)
    subst l
    exact t_notIn hu I T hk eb h
theorem d_get2X {Q : Value → Shared → Prop} (hu : A.units + 1 < cLine) (I : Inv X pins σ H s) (g : DGX X.K H a y o) (ry : RelV y u) (rd : RelV d r) (h : ∀ w' s', Inv X pins σ H s' → RelV (o.getD d) w' → Q w' s') :
    wpAny (model X.prog X.w) A (call (.builtin "dict.get") [.ref a, u, r]) Q E s := by
  rcases g with g | ⟨kvs, k, b, T, hk, rfl, eb, l⟩
  · exact d_get2 hu I g ry rd h
  · cases (show u = Value.ref b from ry)
    subst l
    exact t_get2 hu I T hk eb rd h
theorem isDX_at (I : Inv X pins σ H s) (d : IsDX X.K H a) : s.TypeIs (.ref a) "dict" ∧ (∀ b, Value.ref a = .ref b → ∃ ob, s.heap.get? b = some ob ∧ ob.dict = none) ∧ (a == sysModules) = false := by
  rcases d with d | ⟨kvs, T, hk⟩
  · exact isD_at I d
  · obtain ⟨_, hd, xs, _, dd⟩ := tk_at I T hk
    refine ⟨dd.typeIs, fun b q => ?_, hd⟩
    cases q
    obtain ⟨ob, _, _, h1, h2, _⟩ := dd
    exact ⟨ob, h1, h2.2.1⟩
theorem dgx_isD (g : DGX X.K H a y o) : IsDX X.K H a := by
  rcases g with g | ⟨kvs, k, b, T, hk, _⟩
  · rcases g with ⟨kvs, k, e, _⟩ | ⟨kvs, k, b, e, _⟩
    · exact .inl (.inl ⟨_, e⟩)
    · exact .inl (.inr ⟨_, e⟩)
  · exact .inr ⟨kvs, T, hk⟩
end
def tDGet2X (K : PySem.W.Frag) (td ty tx : TE) : TE := fun σ H Q => td σ H fun x H1 => ∃ a, x = .ref a ∧ IsDX K H1 a ∧ ty σ H1 fun y H2 => tx σ H2 fun z H3 => ∃ o, DGX K H3 a y o ∧ Q (o.getD z) H3
theorem pe_dget2X {X : Cx} {o e f : Expr} {apos cpos : Pos} {td ty tx : TE} (hu : X.A.units + 1 < cLine) (ho : PE X o td) (he : PE X e ty) (hf : PE X f tx) (m : M2 X o "get" apos e f cpos) : PE X (.Call (.Attribute o "get" apos) [e, f] [] cpos) (tDGet2X X.K td ty tx) := by
  refine ⟨fun pins s σ H Q I h => ?_⟩
  refine wpAny_Call_method m.base m.few m.line PySem.F.plainAttrs_dict PySem.F.slot_dict_get PySem.F.type_dict_get (thn (ho.run pins s σ H _ I h) fun u s1 ⟨x, H1, I1, rx, a, ex, d, q1⟩ => ?_)
  subst ex
  obtain rfl : u = Value.ref a := rx
  obtain ⟨t1, t2, _⟩ := isDX_at I1 d
  refine ⟨t1, t2, ?_⟩
  rw [m.trees]
  refine Calls.callWith_builtin rfl (Calls.evalArgs_plain (Calls.spliced_cons (thn (he.run pins s1 σ H1 _ I1 q1) fun iv s2 ⟨y, H2, I2, ry, q2⟩ =>
    Calls.spliced_cons (thn (hf.run pins s2 σ H2 _ I2 q2) fun fv s3 ⟨z, H3, I3, rz, ov, g, q3⟩ => Calls.spliced_nil ?_))))
  exact d_get2X hu I3 g ry rz fun w' s4 I4 rw' => ⟨_, H3, I4, rw', q3⟩
end Pq
set_option Elab.async false
set_option linter.all false
set_option maxRecDepth 100000
set_option maxHeartbeats 4000000
set_option pp.maxSteps 400
/-! ### sorted of tuples of ints -/
namespace SrtT
open PySem PyProof.Rows Srt SrtO
def lexL : List Int → List Int → Bool
  | [], [] => false
  | [], _ :: _ => true
  | _ :: _, [] => false
  | x :: xs, y :: ys => if x = y then lexL xs ys else decide (x < y)
theorem lexL_asym : ∀ xs ys : List Int, lexL xs ys = true → lexL ys xs = false
  | [], [], _ => rfl
  | [], _ :: _, _ => rfl
  | _ :: _, [], h => by cases h
  | x :: xs, y :: ys, h => by
    rw [lexL] at h ⊢
    by_cases e : x = y
    · rw [if_pos e] at h
      rw [if_pos e.symm]
      exact lexL_asym xs ys h
    · rw [if_neg e] at h
      rw [if_neg (Ne.symm e)]
      have := of_decide_eq_true h
      exact decide_eq_false (by omega)
theorem lexL_tr : ∀ xs ys zs : List Int, lexL ys xs = false → lexL zs ys = false → lexL zs xs = false
  | [], ys, zs, h1, h2 => by cases zs <;> first | rfl | (cases ys <;> first | (cases h2; done) | (cases h1; done) | rfl)
  | x :: xs, [], zs, h1, _ => by cases h1
  | x :: xs, y :: ys, [], _, h2 => by cases h2
  | x :: xs, y :: ys, z :: zs, h1, h2 => by
    rw [lexL] at h1 h2 ⊢
    by_cases e1 : y = x
    · rw [if_pos e1] at h1
      by_cases e2 : z = y
      · rw [if_pos e2] at h2
        rw [if_pos (e2.trans e1)]
        exact lexL_tr xs ys zs h1 h2
      · rw [if_neg e2] at h2
        rw [if_neg (by rw [← e1]; exact e2)]
        have := of_decide_eq_false h2
        exact decide_eq_false (by omega)
    · rw [if_neg e1] at h1
      have a := of_decide_eq_false h1
      by_cases e2 : z = y
      · rw [if_neg (by rw [e2]; exact e1)]
        exact decide_eq_false (by omega)
      · rw [if_neg e2] at h2
        have b := of_decide_eq_false h2
        rw [if_neg (by omega)]
        exact decide_eq_false (by omega)
theorem swo_L (k : Value → List Int) : Swo fun v u => lexL (k v) (k u) := ⟨fun x y h => lexL_asym _ _ h, fun x y z h1 h2 => lexL_tr _ _ _ h1 h2⟩
theorem lexAt_L (ns ms : List Int) : ∀ (n i : Nat), min ns.length ms.length - i = n → i ≤ min ns.length ms.length →
    Ob.lexAt (fun j => decide (ns.getD j 0 = ms.getD j 0)) (fun j => decide (ns.getD j 0 < ms.getD j 0)) (decide (ns.length < ms.length)) i n = lexL (ns.drop i) (ms.drop i)
  | 0, i, e, hi => by
    rw [Ob.lexAt_zero]
    rcases Nat.le_total ns.length ms.length with c | c
    · have : ns.drop i = [] := List.drop_eq_nil_of_le (by omega)
      rw [this]
      cases z : ms.drop i with
      | nil =>
        have := List.drop_eq_nil_iff.mp z
        exact decide_eq_false (by omega)
      | cons y ys =>
        have l : (ms.drop i).length = ys.length + 1 := by rw [z]; rfl
        rw [List.length_drop] at l
        exact decide_eq_true (by omega)
    · have : ms.drop i = [] := List.drop_eq_nil_of_le (by omega)
      rw [this]
      rw [decide_eq_false (show ¬ ns.length < ms.length by omega)]
      cases ns.drop i <;> rfl
  | n + 1, i, e, hi => by
    have h1 : i < ns.length := by omega
    have h2 : i < ms.length := by omega
    rw [Ob.lexAt_succ, lexAt_L ns ms n (i + 1) (by omega) (by omega), List.drop_eq_getElem_cons h1, List.drop_eq_getElem_cons h2, lexL]
    have g1 : ns.getD i 0 = ns[i] := by rw [List.getD_eq_getElem?_getD, List.getElem?_eq_getElem h1]; rfl
    have g2 : ms.getD i 0 = ms[i] := by rw [List.getD_eq_getElem?_getD, List.getElem?_eq_getElem h2]; rfl
    rw [g1, g2]
    by_cases c : ns[i] = ms[i]
    · rw [if_pos (decide_eq_true c), if_pos c]
    · rw [if_neg (by rw [decide_eq_false c]; exact Bool.false_ne_true), if_neg c]
section
variable {prog : Program} {w : World} {A : Around} {E : Value → Shared → Prop} {s : Shared}
theorem items_at {h : Heap} {v : Value} {ns : List Int} (x : TS.TupInts h v ns) : ∃ a o its n, v = .ref a ∧ h.get? a = some o ∧ o.cls = .type "tuple" ∧ o.data = .seq its n ∧ IntsAre its.toList ns := by
  obtain ⟨a, xs, e, ⟨o, ho, hc, n, hd⟩, hi⟩ := x
  exact ⟨a, o, xs, n, e, ho, hc, hd, hi⟩
theorem katLex_L {b : Bool} {R : Bool} : ∀ {xs ys : List Value} {ns ms : List Int} {fin : Bool} {i : Nat}, IntsAre xs ns → IntsAre ys ms → (i = 0 → b = true ∨ b = false) → fin = decide (ns.length < ms.length) → R = lexL ns ms →
    PySem.W.KatLex prog w A b fin (fun r s' => s' = s ∧ r = R) (xs.zip ys) i s
  | [], ys, ns, ms, fin, i, hx, hy, _, hf, hR => by
    cases hx
    refine PySem.W.kat_nil ⟨rfl, ?_⟩
    rw [hf, hR]
    cases ms <;> rfl
  | x :: xs, [], ns, ms, fin, i, hx, hy, _, hf, hR => by
    cases hy
    cases hx
    refine PySem.W.kat_nil ⟨rfl, ?_⟩
    rw [hf, hR]
    rfl
  | x :: xs, y :: ys, ns, ms, fin, i, hx, hy, _, hf, hR => by
    cases hx with
    | @cons n t _ ns' h1 =>
      cases hy with
      | @cons m u _ ms' h2 =>
        refine PySem.W.kat_cons (SeqAt.EqAt.int_int n t m u prog w _ _ ?_)
        refine PySem.W.kat_go (fun e1 => ?_) (fun e1 => ?_)
        · have ex : n = m := by simpa using e1
          refine PySem.W.kat_yes (katLex_L h1 h2 (fun z => by omega) ?_ ?_)
          · rw [hf, List.length_cons, List.length_cons]
            exact decide_eq_decide.mpr (by omega)
          · rw [hR, lexL, if_pos ex]
        · have ex : ¬ n = m := by simpa using e1
          have eR : R = decide (n < m) := by rw [hR, lexL, if_neg ex]
          cases hb : (b && i == 0) with
          | true =>
            refine PySem.W.kat_no ?_
            rw [hb]
            exact oneLt_int ⟨rfl, eR.symm⟩
          | false =>
            refine PySem.W.kat_no ?_
            rw [hb]
            refine PySem.W.kat_one _ _ (PyProof.Rows.lt_int ?_)
            exact ⟨rfl, eR.symm⟩
theorem rc_L {x y : Value} {ns ms : List Int} (hx : TS.TupInts s.heap x ns) (hy : TS.TupInts s.heap y ms) (hu : A.units < cLine) : ∃ a b, x = .ref a ∧ y = .ref b ∧ (∃ items items2 n n2 dd dd2 sl sl2, s.heap.get? a = some { cls := .type "tuple", dict := dd, data := .seq items n, slots := sl } ∧
    s.heap.get? b = some { cls := .type "tuple", dict := dd2, data := .seq items2 n2, slots := sl2 } ∧ items.size = ns.length ∧ items2.size = ms.length ∧
    (∀ (A : Around) j (h1 : j < items.size) (h2 : j < items2.size), SeqAt.EqAt A s items[j] items2[j] (decide (ns.getD j 0 = ms.getD j 0))) ∧
    (∀ (A : Around) j (h1 : j < items.size) (h2 : j < items2.size), Ob.RcOp .Lt A s items[j] items2[j] (decide (ns.getD j 0 < ms.getD j 0)))) := by
  obtain ⟨a, ⟨cls, dd, data, sl⟩, its, n, rfl, ho, hc, hd, i1⟩ := items_at hx
  obtain ⟨b, ⟨cls2, dd2, data2, sl2⟩, its2, n2, rfl, ho2, hc2, hd2, i2⟩ := items_at hy
  simp only at hc hd hc2 hd2
  subst hc hd hc2 hd2
  have e1 : its.size = ns.length := by rw [← i1.length]; simp
  have e2 : its2.size = ms.length := by rw [← i2.length]; simp
  have at1 : ∀ j (h1 : j < its.size), ∃ t, its[j] = .int (ns.getD j 0) t := fun j h1 => PyProof.Rows.IntsAre.int_at i1 _ _ (by simp [h1])
  have at2 : ∀ j (h1 : j < its2.size), ∃ t, its2[j] = .int (ms.getD j 0) t := fun j h1 => PyProof.Rows.IntsAre.int_at i2 _ _ (by simp [h1])
  refine ⟨a, b, rfl, rfl, its, its2, n, n2, dd, dd2, sl, sl2, ho, ho2, e1, e2, fun A j h1 h2 => ?_, fun A j h1 h2 => ?_⟩
  · obtain ⟨t, et⟩ := at1 j h1
    obtain ⟨t', et'⟩ := at2 j h2
    rw [et, et']
    have z : (ns.getD j 0 == ms.getD j 0) = decide (ns.getD j 0 = ms.getD j 0) := by
      by_cases q : ns.getD j 0 = ms.getD j 0
      · rw [decide_eq_true q]; exact beq_iff_eq.mpr q
      · rw [decide_eq_false q]; exact beq_eq_false_iff_ne.mpr q
    rw [← z]
    exact SeqAt.EqAt.int_int _ _ _ _
  · obtain ⟨t, et⟩ := at1 j h1
    obtain ⟨t', et'⟩ := at2 j h2
    rw [et, et']
    exact Ob.RcOp.lt_int _ _ _ _
theorem oneLt_L {c : Bool} {x y : Value} {ns ms : List Int} (hx : TS.TupInts s.heap x ns) (hy : TS.TupInts s.heap y ms) (hu : A.units < cLine) {Q : Bool → Shared → Prop} (h : Q (lexL ns ms) s) : wpAny (model prog w) A (oneLt' c x y) Q E s := by
  obtain ⟨a, b, rfl, rfl, its, its2, n, n2, dd, dd2, sl, sl2, ho, ho2, e1, e2, he, hr⟩ := rc_L hx hy hu
  have eL := lexAt_L ns ms (min ns.length ms.length) 0 (by omega) (by omega)
  rw [List.drop_zero, List.drop_zero] at eL
  have at' := Ob.tuple_ltAt a b its its2 n n2 dd dd2 sl sl2 (fun j => decide (ns.getD j 0 = ms.getD j 0)) (fun j => decide (ns.getD j 0 < ms.getD j 0))
  have eL' : Ob.lexAt (fun j => decide (ns.getD j 0 = ms.getD j 0)) (fun j => decide (ns.getD j 0 < ms.getD j 0)) (decide (its.size < its2.size)) 0 (min its.size its2.size) = lexL ns ms := by rw [e1, e2]; exact eL
  cases c with
  | true =>
    rw [oneLt'_eq]
    simp only [if_true]
    refine wpAny_bind (wpAny_cRoomFor hu ?_)
    refine wpAny_bind (wpAny_callSpecialIfBound?_slot ⟨_, ho, rfl⟩ F.slot_tuple_lt (call_meets F.slot_tuple_lt ⟨_, ho, rfl⟩ F.entry_tuple_lt (F.args_tuple_lt_2 _ _) at' ⟨ho, ho2, he _, fun j h1 h2 _ => hr _ j h1 h2, ?_⟩))
    rw [eL']
    exact wpAny_truthy_bool h
  | false =>
    refine PySem.W.kat_one _ _ ?_
    exact richCompare_meets_room (op := .Lt) ⟨_, ho, rfl⟩ ⟨_, ho2, rfl⟩ F.slot_tuple_lt F.entry_tuple_lt (F.args_tuple_lt_2 _ _) at' ⟨ho, ho2, he _, fun j h1 h2 _ => hr _ j h1 h2, ⟨(fun x => nomatch x), (by show Q _ s; rw [eL']; exact h)⟩⟩ hu
theorem tups_cmp {κ : SortKind} (hκ : κ = tuples' true ∨ κ = general' ∨ κ = oneType') {vs : List Value} {k : Value → List Int} (hu : A.units < cLine) (hp : ∀ v ∈ vs, TS.TupInts s.heap v (k v)) : Cmp prog w A s κ (fun p => p.1 ∈ vs) (lt2 fun v u => lexL (k v) (k u)) := by
  intro p q hm hm'
  have h1 := hp _ hm
  have h2 := hp _ hm'
  show wpAny (model prog w) A (keyLt' κ p.1 q.1) (fun r s' => s' = s ∧ r = lexL (k p.1) (k q.1)) (fun _ _ => False) s
  rcases hκ with rfl | rfl | rfl
  · obtain ⟨a, o, its, n, e, ho, hc, hd, i1⟩ := items_at h1
    obtain ⟨a', o', its', n', e', ho', hc', hd', i2⟩ := items_at h2
    rw [e, e']
    refine PySem.W.kat_lt ho hd ho' hd' ?_
    refine katLex_L i1 i2 (fun _ => .inl rfl) ?_ (by rw [e, e'])
    rw [← i1.length, ← i2.length]
    simp
  · exact oneLt_L (c := false) h1 h2 hu ⟨rfl, rfl⟩
  · exact oneLt_L (c := true) h1 h2 hu ⟨rfl, rfl⟩
theorem firsts_L : ∀ {vs : List Value} {k : Value → List Int}, (∀ v ∈ vs, TS.TupInts s.heap v (k v)) → ∃ fs : List (Option Value), fs.length = vs.length ∧ (∀ i : Nat, (fs[i]?.bind id).isSome = ((vs[i]?.map k).bind List.head?).isSome) ∧ ∀ (M : Model) (A : Around) (E : Value → Shared → Prop) (Q : List (Option Value) → Shared → Prop), Q fs s → wpAny M A (vs.mapM firstOfTuple') Q E s
  | [], _, _ => ⟨[], rfl, fun i => rfl, fun M A E Q h => by rw [List.mapM_nil]; exact wpAny_pure h⟩
  | v :: vs, k, hp => by
    obtain ⟨fs, l, f, g⟩ := firsts_L (vs := vs) fun v' hm => hp v' (List.mem_cons_of_mem _ hm)
    obtain ⟨a, o, its, n, e, ho, hc, hd, i1⟩ := items_at (hp v List.mem_cons_self)
    refine ⟨its[0]? :: fs, by rw [List.length_cons, List.length_cons, l], fun i => ?_, fun M A E Q h => ?_⟩
    · cases i with
      | zero =>
        show (its[0]?).isSome = (k v).head?.isSome
        rw [← Array.getElem?_toList]
        generalize k v = ns at i1 ⊢
        generalize its.toList = L at i1 ⊢
        cases i1 <;> rfl
      | succ i => simpa using f i
    · rw [List.mapM_cons, PySem.W.kas_first_eq]
      subst e
      refine wpAny_bind (wpAny_bind (PySem.W.Looks.here (show PySem.W.Looks M s.heap (typeOf (.ref a)) o.cls from (PySem.W.Looks.ld ho).andThen .now) ?_))
      rw [hc, if_neg (by first | decide | simp)]
      refine wpAny_bind (listItems_at ho hd (wpAny_pure ?_))
      exact wpAny_bind (g M A E _ (wpAny_pure h))
theorem katTups_L {h : Heap} : ∀ {vs : List Value} {k : Value → List Int}, (∀ v ∈ vs, TS.TupInts h v (k v)) → (∀ v ∈ vs, k v ≠ []) → ∃ fs : List Value, PySem.W.KatTups h vs fs ∧ fs.length = vs.length ∧ ∀ f ∈ fs, ∃ i t, f = Value.int i t
  | [], _, _, _ => ⟨[], PySem.W.KatTups.nil, rfl, fun _ hm => by simp at hm⟩
  | v :: vs, k, hp, hn => by
    obtain ⟨fs, h1, h2, h3⟩ := katTups_L (vs := vs) (fun v' hm => hp v' (List.mem_cons_of_mem _ hm)) fun v' hm => hn v' (List.mem_cons_of_mem _ hm)
    obtain ⟨a, o, its, n, e, ho, hc, hd, i1⟩ := items_at (hp v List.mem_cons_self)
    have ne := hn v List.mem_cons_self
    have : ∃ i t, its[0]? = some (Value.int i t) := by
      rw [← Array.getElem?_toList]
      generalize its.toList = L at i1 ⊢
      generalize k v = ns at i1 ne ⊢
      cases i1 with
      | nil => exact absurd rfl ne
      | cons n t h => exact ⟨n, t, rfl⟩
    obtain ⟨i, t, ei⟩ := this
    subst e
    refine ⟨.int i t :: fs, PySem.W.KatTups.cons ho hc hd ei h1, by rw [List.length_cons, List.length_cons, h2], fun f hm => ?_⟩
    rcases List.mem_cons.mp hm with rfl | hm
    · exact ⟨i, t, rfl⟩
    · exact h3 f hm
theorem perm_map {α β : Type} {f : α → β} : ∀ {xs : List α} {out : List β}, out.Perm (xs.map f) → ∃ ys : List α, ys.Perm xs ∧ out = ys.map f
  | [], out, p => ⟨[], List.Perm.refl _, List.perm_nil.mp p⟩
  | x :: xs, out, p => by
    have hm : f x ∈ out := p.mem_iff.mpr List.mem_cons_self
    obtain ⟨A, B, rfl⟩ := List.append_of_mem hm
    have p2 : (A ++ B).Perm (xs.map f) := by
      have := (List.perm_middle (a := f x) (l₁ := A) (l₂ := B)).symm.trans p
      exact this.cons_inv
    obtain ⟨ys, py, ey⟩ := perm_map p2
    obtain ⟨y1, y2, rfl, e1, e2⟩ := List.append_eq_map_iff.mp ey
    subst e1 e2
    exact ⟨y1 ++ x :: y2, List.perm_middle.trans (py.cons x), by rw [List.map_append, List.map_cons]⟩
theorem tups_kind {vs : List Value} {k : Value → List Int} (h2 : 2 ≤ vs.length) (hp : ∀ v ∈ vs, TS.TupInts s.heap v (k v)) : ∃ κ, (κ = tuples' true ∨ κ = general' ∨ κ = oneType') ∧ ∀ (Q : SortKind → Shared → Prop) (E : Value → Shared → Prop), Q κ s → wpAny (model prog w) A (keyKind' vs.toArray) Q E s := by
  by_cases hall : ∀ v ∈ vs, k v ≠ []
  · obtain ⟨fs, h1, l, h3⟩ := katTups_L hp hall
    refine ⟨tuples' true, .inl rfl, fun Q E hq => ?_⟩
    refine PySem.W.kat_kind (T := .type "int") h1 (by omega) (fun f hm => ?_) (by rfl) ?_
    · obtain ⟨x, t, rfl⟩ := h3 f hm
      exact PySem.W.Looks.now
    · have e : (Value.type "int" != Value.type "tuple") = true := by first | decide +kernel | rfl | decide
      rw [e]
      exact hq
  · obtain ⟨fs, l, f, g⟩ := firsts_L hp
    have hno : ¬ (fs.toArray.all fun x => x.isSome) = true := fun z => hall fun v hv e => by
      obtain ⟨i, hi⟩ := List.mem_iff_getElem?.mp hv
      have fi := f i
      rw [hi] at fi
      have e1 : ((some v).map k).bind List.head? = none := by
        show (k v).head? = none
        rw [e]; rfl
      rw [e1] at fi
      have hl : i < fs.length := by rw [l]; exact (List.getElem?_eq_some_iff.mp hi).1
      rw [List.getElem?_eq_getElem hl] at fi
      simp only [List.all_toArray, List.all_eq_true] at z
      have := z fs[i] (List.getElem_mem hl)
      have fi : (fs[i]).isSome = false := by simpa using fi
      rw [fi] at this
      cases this
    have run : ∀ κ, (∀ (Q : SortKind → Shared → Prop) (E : Value → Shared → Prop), Q κ s → wpAny (model prog w) A (do
        if ((fs.toArray[0]?).bind id).isSome then return general'
        return if (← oneTypeOnly' vs.toArray).isSome then oneType' else general') Q E s) → ∀ (Q : SortKind → Shared → Prop) (E : Value → Shared → Prop), Q κ s → wpAny (model prog w) A (keyKind' vs.toArray) Q E s := fun κ h Q E hq => by
      rw [PyProof.Rows.kat_kind_eq, List.mapM_toArray, map_eq_pure_bind]
      refine wpAny_bind (wpAny_bind (g _ _ _ _ (wpAny_pure ?_)))
      rw [if_neg hno]
      exact h Q E hq
    cases h0 : ((fs.toArray[0]?).bind id).isSome with
    | true =>
      refine ⟨general', .inr (.inl rfl), run _ fun Q E hq => ?_⟩
      rw [h0, if_pos rfl]
      exact wpAny_pure hq
    | false =>
      refine ⟨oneType', .inr (.inr rfl), run _ fun Q E hq => ?_⟩
      rw [h0, if_neg Bool.false_ne_true]
      rw [oneTypeOnly'_eq, List.mapM_toArray, map_eq_pure_bind]
      refine wpAny_bind (wpAny_bind (wpAny_bind (PySem.W.kas_mapM (r := Value.type "tuple") _ (fun v hv Q' hq => ?_) (wpAny_pure ?_))))
      · obtain ⟨a, o, its, n, e, ho, hc, hd, i1⟩ := items_at (hp v hv)
        subst e
        exact wpAny_typeOf_ref ho (by rw [hc]; exact hq)
      · obtain ⟨v₁, v₂, rest, rfl⟩ : ∃ v₁ v₂ rest, vs = v₁ :: v₂ :: rest := by
          match vs, h2 with
          | [], h2 => simp at h2
          | [_], h2 => simp at h2
          | v₁ :: v₂ :: rest, _ => exact ⟨v₁, v₂, rest, rfl⟩
        have hall : ((List.map (fun _ => Value.type "tuple") (v₁ :: v₂ :: rest)).toArray.all fun x => x == Value.type "tuple") = true := by
          simp only [List.all_toArray, List.all_map, List.all_eq_true]
          intro _ _
          rfl
        have h0 : (List.map (fun _ => Value.type "tuple") (v₁ :: v₂ :: rest)).toArray[0]? = some (Value.type "tuple") := by simp
        rw [h0]
        simp only [hall, if_true]
        exact wpAny_pure (wpAny_pure hq)
theorem tups_sortable {a : Addr} {vs : List Value} {k : Value → List Int} (hu : A.units < cLine) (h2 : 2 ≤ vs.length) (hp : ∀ v ∈ vs, TS.TupInts s.heap v (k v)) (ha : ∀ o, s.heap.get? a = some o → o.cls ≠ .type "tuple") : SortableO prog w A s a vs fun v u => lexL (k v) (k u) := by
  intro h' keep
  have hp' : ∀ v ∈ vs, TS.TupInts h' v (k v) := fun v hm => (hp v hm).keeps fun b o e c => keep b o (fun z => by subst z; exact ha o e c) e
  obtain ⟨κ, hκ, hq⟩ := tups_kind (prog := prog) (w := w) (A := A) (s := { s with heap := h' }) h2 hp'
  exact ⟨κ, fun Q E h => hq Q E h, tups_cmp (s := { s with heap := h' }) hκ hu hp'⟩
theorem sorted_tupsL {l : Addr} {vs : List Value} {k : Value → List Int} {Q : Value → Shared → Prop} (hu : A.units + 2 < cLine) (hl : s.heap.IsList l vs.toArray) (hz : vs.length ≤ sizeLine) (hp : ∀ v ∈ vs, TS.TupInts s.heap v (k v))
    (h : ∀ (h' : Heap) (d : Addr) (out : List Value), Srtd (fun v u => lexL (k v) (k u)) out → Stb (fun v u => lexL (k v) (k u)) out vs → (∀ b o, s.heap.get? b = some o → h'.get? b = some o) → s.heap.objs.size ≤ d → (∃ n, h'.get? d = some (seqObj "list" out.toArray n)) → Q (.ref d) { s with heap := h' }) :
    wpAny (model prog w) A (call (.builtin "sorted") [.ref l]) Q E s := by
  refine sorted_ord (swo_L k) hl hz (fun h2 h₁ a ha kk => ?_) fun out hs hb => ?_
  · refine tups_sortable (s := { s with heap := h₁ }) hu h2 (fun v hm => (hp v hm).keeps fun b o e _ => (kk b o e).2) fun o e => ?_
    have e' : some o = some (seqObj "list" vs.toArray 0) := e.symm.trans ha
    cases e'
    intro c
    exact absurd (Value.type.inj c) (by decide)
  · exact h _ _ out hs hb (fun b o e => sortedAll_old e) (Nat.le_succ _) (sortedAll_at s.heap vs out.toArray)
/-- the keys of a dict, whatever they are -/
theorem kdl_raw {d : Addr} {es : Array DictEntry} {ep : Nat} {K : Type} {xs : List (K × Addr × Value)} (lo : (d == sysModules) = false) (hx : ∀ i (hi : i < es.size), ∃ y, xs[i]? = some y ∧ es[i].key = .ref y.2.1 ∧ es[i].val = y.2.2) :
    PySem.W.KdlSrc prog w "dict" d d es.size (fun i v => ∃ y, xs[i]? = some y ∧ v = .ref y.2.1) (fun h => h.DictRaw d es ep) where
  type := fun _ hm => hm.typeIs
  there := fun _ ⟨_, ho, _⟩ => ⟨Heap.lt_size ho, Heap.lt_size ho⟩
  keep := fun _ _ hm hk => hm.at fun o e => hk d (.inl rfl) o e
  notList := by decide
  notTuple := by decide
  hint := fun _ _ _ _ hm hq => PySem.W.kdl_hint_dict hm.typeIs hq
  iter := fun _ s hh hm => ⟨_, _, (fun _ _ hq => wpAny_pyIter_dict_raw lo hm hq), Walks.keysH hh _ d (fun z => by
    obtain ⟨_, ho, _⟩ := hm
    have := Heap.lt_size ho
    rw [z] at this
    exact absurd this (Nat.lt_irrefl _)) es ep hx, ⟨⟨_, Heap.get?_push_size _ rfl, rfl, rfl⟩, hm.at fun _ e => Heap.get?_push_of_some _ e⟩⟩
theorem sorted_tupsD {d : Addr} {xs : List (List Int × Addr × Value)} {Q : Value → Shared → Prop} (hh : A.handled = none) (hu : A.units + 2 < cLine) (lo : (d == sysModules) = false) (dd : s.heap.DictOfH (tupleKind (intKind prog w)) d xs) (hz : xs.length ≤ sizeLine)
    (h : ∀ (h1 h' : Heap) (tk : Nat) (out : List (List Int × Addr × Value)), out.Perm xs → out.Pairwise (fun x y => lexL y.1 x.1 = false) → (∀ b o, s.heap.get? b = some o → h1.get? b = some o) → (∀ b o, h1.get? b = some o → h'.get? b = some o) → (∃ n, h'.get? h1.objs.size = some (seqObj "list" (out.map fun x => Value.ref x.2.1).toArray n)) → Q (.ref h1.objs.size) { s with heap := h', toks := tk }) :
    wpAny (model prog w) A (call (.builtin "sorted") [.ref d]) Q E s := by
  obtain ⟨es, ep, hraw, hsz, hget⟩ := dd.raw
  refine Calls.call_function_entry PyProof.Rows.kind_sorted PyProof.Rows.plain_sorted PyProof.Rows.entry_sorted (PyProof.Rows.args_sorted1 _) ?_
  unfold Builtin.«sorted»
  refine wpAny_bind (m := checkCount "sorted" 1 1 _) (wpAny_pure ?_)
  refine wpAny_bind (PySem.W.kdu_collect (A := A.in1) (kdl_raw (xs := xs) lo fun i hi => by obtain ⟨y, a, b, c, _⟩ := hget i hi; exact ⟨y, a, b, c⟩) hh hraw (by rw [hsz]; exact hz) fun h' tk acc hk hacc => ?_)
  have eacc : acc.toList = xs.map fun x => Value.ref x.2.1 := by
    apply List.ext_getElem?
    intro i
    rw [List.getElem?_map]
    by_cases c : i < acc.toList.length
    · obtain ⟨y, a, b⟩ := hacc.2 i acc.toList[i] (by rw [← Array.getElem?_toList, List.getElem?_eq_getElem c])
      rw [List.getElem?_eq_getElem c, a, b]
      rfl
    · have : acc.toList.length = xs.length := by rw [Array.length_toList, hacc.1, hsz]
      rw [List.getElem?_eq_none (by omega), List.getElem?_eq_none (by omega)]
      rfl
  rw [eacc]
  refine wpAny_bind (wpAny_newList ?_ (by rw [List.length_map]; exact hz))
  have hoL : (h'.push (seqObj "list" (xs.map fun x => Value.ref x.2.1).toArray 0)).get? h'.objs.size = some (seqObj "list" (xs.map fun x => Value.ref x.2.1).toArray 0) := Heap.get?_push_size _ rfl
  show wpAny _ _ _ _ _ { s with heap := h'.push (seqObj "list" (xs.map fun x => Value.ref x.2.1).toArray 0), toks := tk }
  have ty : ∀ x ∈ xs, TS.TupInts (h'.push (seqObj "list" (xs.map fun x => Value.ref x.2.1).toArray 0)) (.ref x.2.1) x.1 := fun x hx => by
    obtain ⟨_, _, _, _, _, _, _, hk2, _⟩ := dd
    exact (L2.tupInts_of (P := prog) (w := w) (hk2 x hx)).keeps fun b o e _ => Heap.get?_push_of_some _ (hk b o e)
  obtain ⟨kf, hkf⟩ : ∃ kf : Value → List Int, ∀ x ∈ xs, kf (.ref x.2.1) = x.1 := by
    refine ⟨fun v => TS.intsOf (h'.push (seqObj "list" (xs.map fun x => Value.ref x.2.1).toArray 0)) v, fun x hx => (ty x hx).ints⟩
  have hp : ∀ v ∈ xs.map (fun x => Value.ref x.2.1), TS.TupInts (h'.push (seqObj "list" (xs.map fun x => Value.ref x.2.1).toArray 0)) v (kf v) := fun v hv => by
    obtain ⟨x, hx, rfl⟩ := List.mem_map.mp hv
    rw [hkf x hx]
    exact ty x hx
  refine wpAny_bind (wpAny_holding (wpAny_call_entry PyProof.Rows.slot_list_sort ⟨_, hoL, rfl⟩ PyProof.Rows.entry_list_sort
    (list_sort_ord (s := { s with heap := h'.push (seqObj "list" (xs.map fun x => Value.ref x.2.1).toArray 0), toks := tk }) (swo_L kf) hoL (by rw [List.length_map]; exact hz) (fun h2 => tups_sortable (s := { s with heap := h'.push (seqObj "list" (xs.map fun x => Value.ref x.2.1).toArray 0), toks := tk }) hu h2 hp fun o e => ?_) fun out h1 h2 => ⟨_, rfl, ?_⟩) (PyProof.Rows.args_list_sort _)))
  · have e' : some o = some (seqObj "list" (xs.map fun x => Value.ref x.2.1).toArray 0) := e.symm.trans hoL
    cases e'
    intro c
    exact absurd (Value.type.inj c) (by decide)
  · obtain ⟨e', he'⟩ := PyProof.Rows.sortedHeap_at (vs := xs.map fun x => Value.ref x.2.1) (out := out.toArray) hoL
    obtain ⟨ys, py, ey⟩ : ∃ ys : List (List Int × Addr × Value), ys.Perm xs ∧ out = ys.map fun x => Value.ref x.2.1 := by
      have := h2.perm
      clear h1 h2 he' e'
      exact perm_map this
    subst ey
    refine wpAny_pure ⟨_, rfl, h h' _ tk ys py ?_ hk (fun b o e => ?_) ⟨e', he'⟩⟩
    · have h1 : (ys.map fun x => Value.ref x.2.1).Pairwise (fun v u => lexL (kf u) (kf v) = false) := h1
      rw [List.pairwise_map] at h1
      exact h1.imp_of_mem fun {a b} ha hb h => by rw [hkf a (py.mem_iff.mp ha), hkf b (py.mem_iff.mp hb)] at h; exact h
    · have hb : b < h'.objs.size := Heap.lt_size e
      rw [PyProof.Rows.sortedHeap_old (Nat.ne_of_lt hb) (by rw [size_push']; exact Nat.lt_succ_of_lt hb)]
      exact Heap.get?_push_of_some _ e
end
end SrtT
namespace Pq
open PySem PySem.Spec PyProof.Rows L2
section
variable {X : Cx}
theorem cr_sortedTL (hu : X.A.units + 2 < cLine) : CallR X (.builtin "sorted") (fun vs H Q => ∃ (a : Addr) (ps : List (List Int × Addr)), vs = [V.ref a] ∧ SqL X.K H a (ps.map fun p => V.ref p.2) ∧ (∀ p ∈ ps, SqT X.K H p.2 (p.1.map V.int)) ∧
    ∀ (ys : List (List Int × Addr)) (l : Addr), ys.Perm ps → ys.Pairwise (fun x y => SrtT.lexL y.1 x.1 = false) → H l = none → Q (.ref l) (upd H l (.lst (ys.map fun p => V.ref p.2)))) := by
  intro pins s σ H vs us Q I r h
  obtain ⟨a, ps, rfl, hs, hx, q⟩ := h
  obtain ⟨its, rv, hl, hz⟩ := I.list hs
  obtain ⟨u, rfl, ru⟩ := vals1 r
  obtain rfl : u = Value.ref a := ru
  have ei : its = ps.map fun p => Value.ref p.2 := by
    have := refs_at (ps := ps.map (·.2)) (us := its) (by rw [List.map_map]; exact rv)
    rw [this, List.map_map]
    rfl
  subst ei
  have ty : ∀ p ∈ ps, TS.TupInts s.heap (.ref p.2) p.1 := fun p hp => L2.tupInts_of (P := X.prog) (w := X.w) (L2.Inv.isT I (hx p hp))
  have hk : ∀ p ∈ ps, TS.intsOf s.heap (.ref p.2) = p.1 := fun p hp => (ty p hp).ints
  rw [List.length_map] at hz
  refine SrtT.sorted_tupsL (k := fun v => TS.intsOf s.heap v) hu hl.isList (by rw [List.length_map]; exact hz) (fun v hv => ?_) fun h' d out h1 h2 kp hd hn => ?_
  · obtain ⟨p, hp, rfl⟩ := List.mem_map.mp hv
    rw [hk p hp]
    exact ty p hp
  · obtain ⟨ys, py, ey⟩ := SrtT.perm_map h2.perm
    subst ey
    obtain ⟨n, hn⟩ := hn
    have h1 : (ys.map fun p : List Int × Addr => Value.ref p.2).Pairwise (fun v u => SrtT.lexL (TS.intsOf s.heap u) (TS.intsOf s.heap v) = false) := h1
    rw [List.pairwise_map] at h1
    have h1 : ys.Pairwise (fun x y => SrtT.lexL y.1 x.1 = false) := h1.imp_of_mem fun {a b} ha hb h => by rw [hk a (py.mem_iff.mp ha), hk b (py.mem_iff.mp hb)] at h; exact h
    have rvl : ∀ ys : List (List Int × Addr), Vals (ys.map fun p => V.ref p.2) (ys.map fun p => Value.ref p.2) := fun ys => by
      induction ys with
      | nil => exact .nil
      | cons p ys ih => exact .cons rfl ih
    refine ⟨.ref d, upd H d (.lst (ys.map fun p => V.ref p.2)), I.laid (t' := s.toks) kp hd ⟨?_, _, n, rvl ys, hn⟩, rfl, q ys d py h1 (I.hok.fresh hd)⟩
    rw [List.length_map, py.length_eq]
    exact hz
theorem cr_sortedTD (hc : X.calm = true) (hu : X.A.units + 2 < cLine) : CallR X (.builtin "sorted") (fun vs H Q => ∃ (a : Addr) (kvs : TKv), vs = [V.ref a] ∧ TObj H a kvs ∧ TKeys X.K H kvs ∧
    ∀ (ys : TKv) (l : Addr), ys.Perm kvs → ys.Pairwise (fun x y => SrtT.lexL y.1 x.1 = false) → H l = none → Q (.ref l) (upd H l (.lst (ys.map fun p => V.ref p.2.1)))) := by
  intro pins s σ H vs us Q I r h
  obtain ⟨a, kvs, rfl, T, hk, q⟩ := h
  obtain ⟨u, rfl, ru⟩ := vals1 r
  obtain rfl : u = Value.ref a := ru
  obtain ⟨z, lo, xs, rel, dd⟩ := tk_at I T hk
  refine SrtT.sorted_tupsD (I.ok.hd hc) hu lo dd (by rw [← tPr_len rel]; exact z) fun h1 h' tk out py hs k1 k2 hn => ?_
  have I1 : Inv X pins σ H { s with heap := h1, toks := tk } := I.kept k1
  have back : ∀ {kvs : TKv} {xs : List (List Int × Addr × Value)}, Paired TPr kvs xs → ∀ {out : List (List Int × Addr × Value)}, out.Perm xs → ∃ ys : TKv, ys.Perm kvs ∧ Paired TPr ys out := fun {kvs xs} r {out} p => by
    have e1 : out.Perm (List.map (fun x => x.2) (kvs.zip xs)) := by
      rw [List.map_snd_zip (Nat.le_of_eq (tPr_len r).symm)]
      exact p
    obtain ⟨zs, pz, ez⟩ := SrtT.perm_map e1
    have all : ∀ z ∈ zs, TPr z.1 z.2 := fun z hz => by
      have hz := pz.mem_iff.mp hz
      clear p e1 pz ez
      induction r with
      | nil => simp at hz
      | cons hq t ih =>
        rw [List.zip_cons_cons] at hz
        rcases List.mem_cons.mp hz with e | hz
        · subst e; exact hq
        · exact ih hz
    refine ⟨zs.map (·.1), ?_, ?_⟩
    · have := pz.map (·.1)
      rw [List.map_fst_zip (Nat.le_of_eq (tPr_len r))] at this
      exact this
    · subst ez
      clear pz e1 p
      induction zs with
      | nil => exact .nil
      | cons z zs ih => exact .cons (all z List.mem_cons_self) (ih fun z hz => all z (List.mem_cons_of_mem _ hz))
  obtain ⟨ys, pys, rys⟩ := back rel py
  obtain ⟨n, hn⟩ := hn
  have rvl : ∀ {ys : TKv} {out : List (List Int × Addr × Value)}, Paired TPr ys out → Vals (ys.map fun p => V.ref p.2.1) (out.map fun x => Value.ref x.2.1) := fun {ys out} r => by
    induction r with
    | nil => exact .nil
    | cons hq t ih => exact .cons (by dsimp only; rw [hq.2.1]; rfl) ih
  have hs2 : ∀ {ys : TKv} {out : List (List Int × Addr × Value)}, Paired TPr ys out → out.Pairwise (fun x y => SrtT.lexL y.1 x.1 = false) → ys.Pairwise (fun x y => SrtT.lexL y.1 x.1 = false) := fun {ys out} r => by
    induction r with
    | nil => intro _; exact .nil
    | @cons p q ps qs hq t ih =>
      intro h
      rw [List.pairwise_cons] at h ⊢
      refine ⟨fun y hy => ?_, ih h.2⟩
      have mem : ∀ {ps : TKv} {qs : List (List Int × Addr × Value)}, Paired TPr ps qs → ∀ y ∈ ps, ∃ x ∈ qs, x.1 = y.1 := fun {ps qs} r => by
        induction r with
        | nil => intro y hy; simp at hy
        | @cons p q ps qs hq t ih =>
          intro y hy
          rcases List.mem_cons.mp hy with e | hy
          · subst e; exact ⟨q, List.mem_cons_self, hq.1.symm⟩
          · obtain ⟨x, hx, e⟩ := ih y hy
            exact ⟨x, List.mem_cons_of_mem _ hx, e⟩
      obtain ⟨x, hx, e⟩ := mem t y hy
      have := h.1 x hx
      rw [e, ← hq.1] at this
      exact this
  refine ⟨.ref h1.objs.size, upd H h1.objs.size (.lst (ys.map fun p => V.ref p.2.1)), I1.laid (t' := tk) k2 (Nat.le_refl _) ⟨?_, _, n, rvl rys, hn⟩, rfl, q ys _ pys (hs2 rys hs) (I1.hok.fresh (Nat.le_refl _))⟩
  rw [List.length_map, pys.length_eq]
  exact z
end
end Pq
set_option Elab.async false
set_option linter.all false
set_option maxRecDepth 100000
set_option maxHeartbeats 4000000
namespace Pq
open PySem PySem.Spec PyProof.Rows L2
/-! ### dicts as data: the keys are ints and texts -/
def keyO : Da → Option Key
  | .int i => some (.inl i)
  | .str x => some (.inr x)
  | _ => none
def isKy (k : Key) (d : Da) : Bool := match k, d with
  | .inl i, .int j => decide (j = i)
  | .inr x, .str y => decide (y = x)
  | _, _ => false
def isTm : List (Da × Da) → Bool
  | (.none, .none) :: _ => true
  | (.bool _, _) :: _ => true
  | _ => false
def dLook (ds : List (Da × Da)) (k : Key) : Option Da := (ds.find? fun p => isKy k p.1).map (·.2)
def dPut (ds : List (Da × Da)) (k : Key) (d : Da) : List (Da × Da) := if ds.any (fun p => isKy k p.1) then ds.map (fun p => if isKy k p.1 then (p.1, d) else p) else ds ++ [(keyD k, d)]
/-- marks of pairs and of the script -/
def isPm : List (Da × Da) → Bool
  | (.bool _, _) :: _ => true
  | _ => false
def intsO : List Da → Option (List Int)
  | [] => some []
  | .int i :: r => (intsO r).map (i :: ·)
  | _ => none
def tkO : Da → Option (List Int)
  | .tuple ds => intsO ds
  | _ => none
def tkI (k : List Int) : Da := .tuple (k.map PyData.int)
def tLook (ds : List (Da × Da)) (k : List Int) : Option Da := (ds.find? fun p => decide (tkO p.1 = some k)).map (·.2)
def tPut (ds : List (Da × Da)) (k : List Int) (d : Da) : List (Da × Da) := if (tLook ds k).isSome then ds.map (fun p => if tkO p.1 = some k then (p.1, d) else p) else ds ++ [(tkI k, d)]
def dGetO (ds : List (Da × Da)) (c : Da) : Option (Option Da) := if isTm ds then (if isPm ds then none else (tkO c).map (tLook ds.tail)) else match keyO c with
  | some k => some (dLook ds k)
  | none => if ds.isEmpty then (tkO c).map (fun _ => none) else none
theorem intsO_map : ∀ k : List Int, intsO (k.map PyData.int) = some k
  | [] => rfl
  | i :: k => by
    show (intsO (k.map PyData.int)).map (i :: ·) = _
    rw [intsO_map k]
    rfl
theorem tkO_I (k : List Int) : tkO (tkI k) = some k := intsO_map k
theorem intsO_eq : ∀ {ds : List Da} {k : List Int}, intsO ds = some k → ds = k.map PyData.int
  | [], k, h => by cases h; rfl
  | d :: ds, k, h => by
    cases d <;> first | cases h; done | skip
    have h : (intsO ds).map _ = some k := h
    cases e : intsO ds with
    | none => rw [e] at h; cases h
    | some j =>
      rw [e] at h
      cases h
      rw [intsO_eq e]
      rfl
theorem tkO_eq {c : Da} {k : List Int} (h : tkO c = some k) : c = tkI k := by
  cases c <;> first | cases h; done | skip
  rw [intsO_eq (show intsO _ = some k from h)]
  rfl
theorem isKy_D (k j : Key) : isKy k (keyD j) = decide (j = k) := by
  cases k <;> cases j <;> simp [isKy, keyD]
section
variable {K : PySem.W.Frag} {S H : Hp}
theorem tm_dk : ∀ {kvs : List (Key × V)} {ds : List (Da × Da)}, DqK K S kvs ds → isTm ds = false
  | [], _, h => by cases h; rfl
  | (k, v) :: _, _, h => by
    cases h with
    | cons h1 h2 => cases k <;> rfl
/-- what a look-up finds -/
def RelO2 (K : PySem.W.Frag) (S : Hp) : Option V → Option Da → Prop
  | some v, some d => Dq K S v d
  | none, none => True
  | _, _ => False
theorem look_dk (k : Key) : ∀ {kvs : List (Key × V)} {ds : List (Da × Da)}, DqK K S kvs ds → RelO2 K S (valV kvs k) (dLook ds k)
  | [], _, h => by cases h; trivial
  | (j, v) :: kvs, _, h => by
    cases h with
    | cons h1 h2 =>
      rename_i d ds
      by_cases e : j = k
      · have e2 : dLook ((keyD j, d) :: ds) k = some d := by
          unfold dLook
          rw [List.find?_cons_of_pos (by rw [isKy_D]; exact decide_eq_true e)]; rfl
        rw [valV_pos (p := (j, v)) e, e2]
        exact h1
      · have e2 : dLook ((keyD j, d) :: ds) k = dLook ds k := by
          unfold dLook
          rw [List.find?_cons_of_neg (by rw [isKy_D, decide_eq_false e]; exact Bool.false_ne_true)]
        rw [valV_neg (p := (j, v)) e, e2]
        exact look_dk k h2
theorem DqK.len : ∀ {kvs : List (Key × V)} {ds : List (Da × Da)}, DqK K S kvs ds → kvs.length = ds.length
  | [], _, h => by cases h; rfl
  | _ :: _, _, h => by
    cases h with
    | cons h1 h2 => rw [List.length_cons, List.length_cons, h2.len]
theorem DqK.any (k : Key) : ∀ {kvs : List (Key × V)} {ds : List (Da × Da)}, DqK K S kvs ds → (kvs.any fun kv => decide (kv.1 = k)) = ds.any fun p => isKy k p.1
  | [], _, h => by cases h; rfl
  | (j, v) :: _, _, h => by
    cases h with
    | cons h1 h2 => rw [List.any_cons, List.any_cons, h2.any k, isKy_D]
theorem DqK.repl (k : Key) {u : V} {d : Da} (hd : Dq K S u d) : ∀ {kvs : List (Key × V)} {ds : List (Da × Da)}, DqK K S kvs ds → DqK K S (kvs.map fun kv => if kv.1 = k then (kv.1, u) else kv) (ds.map fun p => if isKy k p.1 then (p.1, d) else p)
  | [], _, h => by cases h; exact .nil
  | (j, v) :: _, _, h => by
    cases h with
    | cons h1 h2 =>
      rw [List.map_cons, List.map_cons]
      by_cases e : j = k
      · rw [if_pos e, if_pos (by rw [isKy_D]; exact decide_eq_true e)]
        exact .cons hd (h2.repl k hd)
      · rw [if_neg e, if_neg (by rw [isKy_D, decide_eq_false e]; exact Bool.false_ne_true)]
        exact .cons h1 (h2.repl k hd)
theorem DqK.snoc {k : Key} {u : V} {d : Da} (hd : Dq K S u d) : ∀ {kvs : List (Key × V)} {ds : List (Da × Da)}, DqK K S kvs ds → DqK K S (kvs ++ [(k, u)]) (ds ++ [(keyD k, d)])
  | [], _, h => by cases h; exact .cons hd .nil
  | (j, v) :: _, _, h => by
    cases h with
    | cons h1 h2 => exact .cons h1 (h2.snoc hd)
theorem DqK.put {k : Key} {u : V} {d : Da} {kvs : List (Key × V)} {ds : List (Da × Da)} (h : DqK K S kvs ds) (hd : Dq K S u d) : DqK K S (putK kvs k u) (dPut ds k d) := by
  unfold putK dPut
  rw [← h.any k]
  cases e : kvs.any fun kv => decide (kv.1 = k) with
  | true => rw [if_pos rfl, if_pos rfl]; exact h.repl k hd
  | false => rw [if_neg Bool.false_ne_true, if_neg Bool.false_ne_true]; exact h.snoc hd
theorem Dq.key {c : Da} {k : Key} {v : V} (h : Dq K S v c) (e : keyO c = some k) : v = kV k := by
  cases c <;> cases e <;> cases h <;> rfl
variable {B : Br}
theorem IsP.flatK {c : Da} {k : Key} {v : V} (h : IsP K B S H c v) (e : keyO c = some k) : v = kV k := by
  rcases h with h | ⟨_, _, rfl, _, _, h⟩
  · exact h.key e
  · cases h <;> cases e
theorem ints_vals {K : PySem.W.Frag} {S : Hp} : ∀ {ks : List Int} {vs : List V}, DqAll K S vs (ks.map PyData.int) → vs = ks.map V.int
  | [], _, h => by cases h; rfl
  | k :: ks, _, h => by
    cases h with
    | cons h1 h2 => cases h1; rw [ints_vals h2]; rfl
theorem IsP.tk {k : List Int} {v : V} (h : IsP K B S H (tkI k) v) : ∃ b, v = .ref b ∧ PlT K S b (k.map V.int) := by
  obtain ⟨a, vs, e, p, d⟩ := h.tupP
  rw [ints_vals d] at p
  exact ⟨a, e, p⟩
theorem dqt_keys : ∀ {kvs : TKv} {ds : List (Da × Da)}, DqT K S kvs ds → TKeys K S kvs
  | [], _, _ => fun p hp => by cases hp
  | p :: kvs, _, h => by
    cases h with
    | cons h0 h1 h2 =>
      intro q hq
      rcases List.mem_cons.mp hq with e | hq
      · subst e; exact h0.sq
      · exact dqt_keys h2 q hq
theorem tkeys_up {kvs : TKv} (w : Wd B S H) (h : TKeys K S kvs) : TKeys K H kvs := fun p hp => SqT.up w.sub (h p hp)
theorem look_dt (k : List Int) : ∀ {kvs : TKv} {ds : List (Da × Da)}, DqT K S kvs ds → RelO2 K S (tval kvs k) (tLook ds k)
  | [], _, h => by cases h; trivial
  | (j, b, v) :: kvs, _, h => by
    cases h with
    | cons h0 h1 h2 =>
      rename_i d ds
      have ej : tkO (PyData.tuple (j.map PyData.int)) = some j := tkO_I j
      unfold tval tLook
      by_cases e : j = k
      · rw [List.find?_cons_of_pos (p := fun p : List Int × Addr × V => decide (p.1 = k)) (decide_eq_true e), List.find?_cons_of_pos (p := fun p : Da × Da => decide (tkO p.1 = some k)) (decide_eq_true (by show tkO (PyData.tuple (j.map PyData.int)) = some k; rw [ej, e]))]
        exact h1
      · rw [List.find?_cons_of_neg (p := fun p : List Int × Addr × V => decide (p.1 = k)) (by rw [decide_eq_false e]; exact Bool.false_ne_true), List.find?_cons_of_neg (p := fun p : Da × Da => decide (tkO p.1 = some k)) (by show ¬ decide (tkO (PyData.tuple (j.map PyData.int)) = some k) = true; rw [decide_eq_false (fun z => e (Option.some.inj (ej.symm.trans z)))]; exact Bool.false_ne_true)]
        exact look_dt k h2
theorem DqT.len : ∀ {kvs : TKv} {ds : List (Da × Da)}, DqT K S kvs ds → kvs.length = ds.length
  | [], _, h => by cases h; rfl
  | _ :: _, _, h => by
    cases h with
    | cons h0 h1 h2 => rw [List.length_cons, List.length_cons, h2.len]
theorem DqT.put {k : List Int} {b : Addr} {u : V} {d : Da} {kvs : TKv} {ds : List (Da × Da)} (h : DqT K S kvs ds) (hb : PlT K S b (k.map V.int)) (hd : Dq K S u d) : DqT K S (tput kvs k b u) (tPut ds k d) := by
  have e := look_dt k h
  have e : (tval kvs k).isSome = (tLook ds k).isSome := by
    generalize tval kvs k = x at e
    generalize tLook ds k = y at e
    cases x <;> cases y <;> first | rfl | exact e.elim
  unfold tput tPut
  rw [e]
  cases (tLook ds k).isSome with
  | true =>
    rw [if_pos rfl, if_pos rfl]
    clear e
    have gen : ∀ {kvs : TKv} {ds : List (Da × Da)}, DqT K S kvs ds → DqT K S (kvs.map fun p => if p.1 = k then (p.1, p.2.1, u) else p) (ds.map fun p => if tkO p.1 = some k then (p.1, d) else p) := fun {kvs} => by
      induction kvs with
      | nil => intro ds h; cases h; exact .nil
      | cons p kvs ih =>
        intro ds h
        cases h with
        | @cons j b' v _ d' ds h0 h1 h2 =>
          have ej : tkO (PyData.tuple (j.map PyData.int)) = some j := tkO_I j
          rw [List.map_cons, List.map_cons]
          dsimp only
          by_cases c : j = k
          · rw [if_pos c, if_pos (show tkO (PyData.tuple (j.map PyData.int)) = some k by rw [ej, c])]
            exact .cons h0 hd (ih h2)
          · rw [if_neg c, if_neg (show ¬ tkO (PyData.tuple (j.map PyData.int)) = some k from fun z => c (Option.some.inj (ej.symm.trans z)))]
            exact .cons h0 h1 (ih h2)
    exact gen h
  | false =>
    rw [if_neg Bool.false_ne_true, if_neg Bool.false_ne_true]
    clear e
    have gen : ∀ {kvs : TKv} {ds : List (Da × Da)}, DqT K S kvs ds → DqT K S (kvs ++ [(k, b, u)]) (ds ++ [(tkI k, d)]) := fun {kvs} => by
      induction kvs with
      | nil => intro ds h; cases h; exact .cons hb hd .nil
      | cons p kvs ih =>
        intro ds h
        cases h with
        | cons h0 h1 h2 => exact .cons h0 h1 (ih h2)
    exact gen h
theorem tm_tail : ∀ {ds : List (Da × Da)}, isTm ds = true → isPm ds = false → ds = (.none, .none) :: ds.tail
  | (.none, .none) :: _, _, _ => rfl
  | (.bool _, _) :: _, _, h => by cases h
/-- a dict that is looked at: what stands under a key -/
theorem dget_of {ds : List (Da × Da)} {c : Da} {x y : V} {o : Option Da} (w : Wd B S H) (hx : IsP K B S H (.dict ds) x) (hy : IsP K B S H c y) (e : dGetO ds c = some o) : ∃ a ov, x = .ref a ∧ DGX K H a y ov ∧ RelO2 K S ov o ∧ IsDX K H a := by
  unfold dGetO at e
  cases tm : isTm ds with
  | true =>
    rw [tm, if_pos rfl] at e
    cases pm : isPm ds with
    | true => rw [pm] at e; cases e
    | false =>
      rw [pm, if_neg Bool.false_ne_true] at e
      cases ke : tkO c with
      | none => rw [ke] at e; cases e
      | some k =>
        rw [ke] at e
        cases e
        rw [tkO_eq ke] at hy
        obtain ⟨b, rfl, pb⟩ := hy.tk
        have eb := SqT.up w.sub pb.sq
        rw [tm_tail tm pm] at hx
        rcases hx with hx | ⟨a, ob, rfl, _, ha, hd⟩
        · cases hx with
          | dk ha hd => exact nomatch (show true = false from tm_dk hd)
          | dt ha hd => exact ⟨_, _, rfl, .inr ⟨_, k, b, .inl ⟨_, w.sub _ _ ha⟩, tkeys_up w (dqt_keys hd), rfl, eb, rfl⟩, look_dt k hd, .inr ⟨_, .inl ⟨_, w.sub _ _ ha⟩, tkeys_up w (dqt_keys hd)⟩⟩
        · cases hd with
          | dk hd => exact nomatch (show true = false from tm_dk hd)
          | dt hd => exact ⟨_, _, rfl, .inr ⟨_, k, b, .inl ⟨_, ha⟩, tkeys_up w (dqt_keys hd), rfl, eb, rfl⟩, look_dt k hd, .inr ⟨_, .inl ⟨_, ha⟩, tkeys_up w (dqt_keys hd)⟩⟩
  | false =>
    rw [tm, if_neg Bool.false_ne_true] at e
    cases ke : keyO c with
    | none =>
      rw [ke] at e
      dsimp only at e
      cases ds with
      | cons p ds => cases e
      | nil =>
        have e : (tkO c).map (fun _ => none) = some o := e
        cases kt : tkO c with
        | none => rw [kt] at e; cases e
        | some k =>
          rw [kt] at e
          cases e
          rw [tkO_eq kt] at hy
          obtain ⟨b, rfl, pb⟩ := hy.tk
          have eb := SqT.up w.sub pb.sq
          rcases hx with hx | ⟨a, ob, rfl, _, ha, hd⟩
          · cases hx with
            | dk ha hd =>
              cases hd
              exact ⟨_, none, rfl, .inr ⟨[], k, b, .inr ⟨rfl, .inl (w.sub _ _ ha)⟩, (fun p hp => by cases hp), rfl, eb, rfl⟩, trivial, .inl (.inl ⟨_, .inl (w.sub _ _ ha)⟩)⟩
          · cases hd with
            | dk hd =>
              cases hd
              exact ⟨_, none, rfl, .inr ⟨[], k, b, .inr ⟨rfl, .inl ha⟩, (fun p hp => by cases hp), rfl, eb, rfl⟩, trivial, .inl (.inl ⟨_, .inl ha⟩)⟩
    | some k =>
      rw [ke] at e
      cases e
      have ey := hy.flatK ke
      subst ey
      rcases hx with hx | ⟨a, ob, rfl, _, ha, hd⟩
      · cases hx with
        | dk ha hd => exact ⟨_, _, rfl, .inl (DGet.k (w.sub _ _ ha)), look_dk k hd, .inl (.inl ⟨_, .inl (w.sub _ _ ha)⟩)⟩
        | dt ha hd => cases tm
        | scr _ => cases tm
        | pr _ _ => cases tm
        | exc _ _ _ _ => cases tm
        | ins _ _ _ => cases tm
      · cases hd with
        | dk hd => exact ⟨_, _, rfl, .inl (DGet.k ha), look_dk k hd, .inl (.inl ⟨_, .inl ha⟩)⟩
        | dt hd => cases tm
        | ins _ _ => cases tm
/-- the script -/
theorem IsP.scr {x : List Da} {v : V} (h : IsP K B S H (.dict [(.bool false, .list x)]) v) : ∃ a ns, v = .ref a ∧ PyData.list x = .list (List.map PyData.int ns) ∧ SqL K S a (ns.map V.int) := by
  rcases h with h | ⟨_, _, rfl, _, _, h⟩
  · cases h with
    | dk _ z => exact nomatch (show true = false from tm_dk z)
    | scr h => exact ⟨_, _, rfl, rfl, h⟩
  · cases h with
    | dk z => exact nomatch (show true = false from tm_dk z)
end
theorem dq_ints {K : PySem.W.Frag} {S : Hp} : ∀ ys : List Int, DqAll K S (ys.map V.int) (ys.map .int)
  | [] => .nil
  | y :: ys => .cons (.int y) (dq_ints ys)
end Pq
set_option Elab.async false
set_option linter.all false
set_option maxRecDepth 100000
set_option maxHeartbeats 4000000
namespace Pq
open PySem PySem.Spec PyProof.Rows L2
theorem le_sz {n : Nat} (h : n ≤ 1000000) : n ≤ sizeLine := Nat.le_trans h (by decide)
theorem lt_sz {n : Nat} (h : n < 1000000) : n < sizeLine := Nat.lt_of_lt_of_le h (by decide)
theorem hu64 {A : Around} {k : Nat} (hr : Room k A) : A.units + 64 < cLine := by have := hr.un; omega
section
variable {X : Cx}
/-! ### arithmetic -/
theorem op_catR : OpR X (binaryOp .Add) (fun x y H Q => ∃ l b xs zs, x = .ref l ∧ y = .ref b ∧ Rd H l (.lst xs) ∧ Rd H b (.lst zs) ∧ xs.length + zs.length ≤ sizeLine ∧ ∀ p, H p = none → Q (.ref p) (upd H p (.lst (xs ++ zs)))) := by
  intro pins s σ H x y v u Q I rx ry h
  obtain ⟨l, b, xs, zs, rfl, rfl, hH, hB, hz, q⟩ := h
  cases rx
  cases ry
  obtain ⟨z, its, n, r, e⟩ := hH.ok I.hok
  obtain ⟨z2, its2, n2, r2, e2⟩ := hB.ok I.hok
  have hl := r.length
  have hl2 := r2.length
  refine PySem.P.add_list e e2 ?_ (by rw [List.size_toArray, List.size_toArray]; omega)
  have ea : its.toArray ++ its2.toArray = (its ++ its2).toArray := by simp
  rw [ea]
  exact ⟨.ref _, _, I.lnew (t' := s.toks) (r.append r2) (by rw [List.length_append]; omega), rfl, q _ I.fresh⟩
/-- sizes that products may have -/
def Sm (i : Int) : Prop := ∃ n, n ≤ 60000000 ∧ i.natAbs < 2 ^ n
def Dv (i j : Int) : Prop := Builtin.divisionGoesByPylong i j = false
theorem op_fdivV : OpR X (binaryOp .FloorDiv) (rI (fun i j => 0 < j ∧ Dv i j) fun i j => .int (i / j)) := opI fun i j _ _ _ _ _ hc q => by
  have h1 : (0 : Int) < j := hc.1
  exact floordiv_int (by omega) (by rw [Int.fdiv_eq_ediv_of_nonneg i (by omega)]; exact q) (.inl hc.2)
/-- tuples made here are known to have no dict -/
def rCatF (K : PySem.W.Frag) : R2 := fun x y H Q => ∃ a b xs ys, x = .ref a ∧ y = .ref b ∧ SqT K H a xs ∧ SqT K H b ys ∧ xs.length + ys.length ≤ sizeLine ∧
  (xs = [] → Q (.ref b) H) ∧ (xs ≠ [] → ys = [] → Q (.ref a) H) ∧ (xs ≠ [] → ys ≠ [] → ∀ p o, H p = none → o.dict = none → Q (.ref p) (upd H p (.frz o (.tup (xs ++ ys)))))
theorem op_catF : OpR X (binaryOp .Add) (rCatF X.K) := by
  intro pins s σ H x y v u Q I rx ry h
  obtain ⟨a, b, xs, ys, rfl, rfl, ha, hb, hz, q0, q1, q2⟩ := h
  by_cases hx : xs = []
  · exact op_catA pins s σ H _ _ v u Q I rx ry ⟨a, b, xs, ys, rfl, rfl, ha, hb, hz, q0, q1, fun z => absurd hx z⟩
  · cases rx
    cases ry
    obtain ⟨its, r1, p1, _⟩ := I.tuple ha
    obtain ⟨its2, r2, p2, _⟩ := I.tuple hb
    refine HT.cat_tup p1 p2 (fun z => hx (r1.nil_iff.mp z)) (fun z => ⟨.ref a, H, I, rfl, q1 hx (r2.nil_iff.mp z)⟩) (fun z => ?_) (by rw [← r1.length, ← r2.length]; exact hz)
    refine ⟨.ref s.heap.objs.size, _, I.laid (t' := s.toks) (o := .frz _ (.tup (xs ++ ys))) (fun b ob q => Heap.get?_push_of_some _ q) (Nat.le_refl _) ⟨Heap.get?_push_size _ rfl, ?_⟩, rfl, q2 hx (fun w => z (r2.nil_iff.mpr w)) _ _ (I.hok.fresh (Nat.le_refl _)) rfl⟩
    exact ⟨by rw [List.length_append]; exact hz, _, r1.append r2, IsTup.new _ _⟩
def fAdd : Da → Da → (SV → Prop) → Prop
  | .int i, .int j, Q => Q (.val (.int (i + j)))
  | .str x, .str y, Q => x.length + y.length ≤ 1000000 ∧ Q (.val (.str (x ++ y)))
  | .tuple xs, .tuple ys, Q => xs.length + ys.length ≤ 1000000 ∧ Q (.val (.tuple (xs ++ ys)))
  | .list xs, .list ys, Q => xs.length + ys.length ≤ 1000000 ∧ Q (.own true (.list (xs ++ ys)))
  | _, _, _ => False
theorem od_add : OpD X (binaryOp .Add) fAdd := by
  intro B env S σ H x y c d Q Q' R px py h cl
  cases c <;> cases d <;> first | exact h.elim | skip
  · cases px.int; cases py.int
    exact ⟨_, op_add, _, _, rfl, rfl, cl.val R h (.int _)⟩
  · cases px.str; cases py.str
    exact ⟨_, op_add_str, _, _, rfl, rfl, le_sz h.1, cl.val R h.2 (.str _)⟩
  · obtain ⟨a, vs, rfl, ha, da⟩ := px.lst R.w
    obtain ⟨b, us, rfl, hb, db⟩ := py.lst R.w
    exact ⟨_, op_catR, a, b, vs, us, rfl, rfl, ha, hb, by rw [da.length, db.length]; exact le_sz h.1, fun p hp => cl.newL R h.2 (da.app db) hp⟩
  · obtain ⟨a, vs, rfl, ha, da⟩ := px.tupP
    obtain ⟨b, us, rfl, hb, db⟩ := py.tupP
    have up : ∀ {a : Addr} {xs : List V}, SqT X.K S a xs → SqT X.K H a xs := fun h => SqT.up R.w.sub h
    refine ⟨_, op_catF, a, b, vs, us, rfl, rfl, up ha.sq, up hb.sq, by rw [da.length, db.length]; exact le_sz h.1, fun e => ?_, fun _ e => ?_, fun _ _ p o hp ho => cl.newT R h.2 (da.app db) hp ho⟩
    · subst e; cases da
      exact cl.val R h.2 (.tup hb db)
    · subst e; cases db
      refine cl.val R h.2 ?_
      rw [List.append_nil]
      exact .tup ha da
def fSub : Da → Da → (SV → Prop) → Prop
  | .int i, .int j, Q => Q (.val (.int (i - j)))
  | _, _, _ => False
theorem od_sub : OpD X (binaryOp .Sub) fSub := by
  intro B env S σ H x y c d Q Q' R px py h cl
  cases c <;> cases d <;> first | exact h.elim | skip
  cases px.int; cases py.int
  exact ⟨_, op_sub, _, _, rfl, rfl, cl.val R h (.int _)⟩
/-! ### xs * n -/
theorem op_repR : OpR X (binaryOp .Mult) (fun x y H Q => ∃ l k xs, x = .ref l ∧ y = .int k ∧ Rd H l (.lst xs) ∧ -(2 ^ 63) ≤ k ∧ k < 2 ^ 63 ∧ xs.length * k.toNat ≤ sizeLine ∧ ∀ p, H p = none → Q (.ref p) (upd H p (.lst (List.replicate k.toNat xs).flatten))) := by
  intro pins s σ H x y v u Q I rx ry wish
  obtain ⟨l, k, xs, rfl, rfl, rd, k1, k2, few, wish⟩ := wish
  cases rx
  obtain ⟨t, rfl⟩ := ry
  obtain ⟨_, its, n, rel, e⟩ := rd.ok I.hok
  have hl := rel.length
  have size : its.toArray.size * k.toNat ≤ sizeLine := by rw [List.size_toArray, ← hl]; exact few
  have cap : ¬ its.toArray.size * k.toNat > (2 ^ 63 - 1) / 8 := by
    have big : (sizeLine : Nat) ≤ (2 ^ 63 - 1) / 8 := by decide
    omega
  have fits : ¬ (!Builtin.List.listFitsIndex k) = true := by rw [fitsIndex_both k1 k2]; exact Bool.false_ne_true
  have short : ¬ Builtin.List.listTooLong (its.toArray.size * k.toNat) = true := by rw [notLongL size]; exact Bool.false_ne_true
  have made : List.foldl (fun x1 x2 => x1 ++ x2) #[] (List.replicate (if its.toArray.isEmpty = true then 0 else k.toNat) its.toArray) = (List.replicate k.toNat its).flatten.toArray := by
    have all : ∀ m : Nat, List.foldl (fun x1 x2 => x1 ++ x2) #[] (List.replicate m its.toArray) = (List.replicate m its).flatten.toArray := fun m => by simpa using foldl_rep its m []
    rw [all]
    cases its with
    | nil => simp
    | cons b r => rw [if_neg (by simp)]
  refine wpAny_binaryOp_repeat_ref (T := "list") (U := "int") (by decide) ⟨_, e, rfl⟩ (fun s2 => typeIs_int s2 k t) noFill_list_mul F.fills_int_mul F.slot_int_rmul repeat_list F.slot_int_index.lookup ?_
  refine call_meets F.slot_int_rmul (typeIs_int s k t) F.entry_int_rmul (F.args_int_rmul_2 _ _) (int___rmul___int_list k t l its.toArray n) ⟨e, rfl, ⟨_, e, rfl⟩, ?_⟩
  refine call_meets F.slot_list_mul ⟨_, e, rfl⟩ F.entry_list_mul (F.args_list_mul_2 _ _) (AutoListH.list___mul___list_int_3 l its.toArray n k t fits cap short) ⟨e, ?_⟩
  rw [made]
  exact ⟨.ref _, _, I.lnew (t' := s.toks) (rel.rep k.toNat) (by rw [PyProof.Rows.lm_len_rep_flat, Nat.mul_comm]; exact few), rfl, wish _ I.fresh⟩
theorem DqAll.rep {K : PySem.W.Frag} {S : Hp} {ds : List Da} {vs : List V} (h : DqAll K S vs ds) : ∀ n : Nat, DqAll K S (List.replicate n vs).flatten (List.replicate n ds).flatten
  | 0 => .nil
  | n + 1 => by
    rw [List.replicate_succ, List.replicate_succ, List.flatten_cons, List.flatten_cons]
    exact h.app (h.rep n)
/-- a text many times -/
def strRep (x : Str) (n : Int) : Str := ⟨(List.replicate n.toNat x.cps).foldl (· ++ ·) #[]⟩
theorem op_strRep : OpR X (binaryOp .Mult) (fun x y H Q => ∃ a n, x = .str a ∧ y = .int n ∧ (n < 100000 ∧ -100000 < n ∧ a.length ≤ 100 ∧ a.length * n.toNat ≤ 100000) ∧ Q (.str (strRep a n)) H) := by
  intro pins s σ H x y v u Q I rx ry h
  obtain ⟨a, n, rfl, rfl, ⟨h1, h2, h3, h4⟩, q⟩ := h
  obtain ⟨t, rfl⟩ := rx
  obtain ⟨t', rfl⟩ := ry
  refine PySem.P.mul_str (by rw [decide_eq_false (by omega), decide_eq_false (by omega)]; rfl) (fun c _ => ?_) (fun _ _ => ?_) ?_
  · have : (2 ^ 63 - 1) / n ≥ 100 := by
      have n0 : 0 < n := by omega
      have := Int.mul_ediv_self_le (x := (2 ^ 63 - 1 : Int)) (k := n) (by omega)
      have e := Int.emod_lt_of_pos (2 ^ 63 - 1 : Int) n0
      have d := Int.emod_add_mul_ediv (2 ^ 63 - 1 : Int) n
      rcases Int.lt_or_le ((2 ^ 63 - 1) / n) 100 with z | z
      · have m : n * ((2 ^ 63 - 1) / n) ≤ n * 100 := Int.mul_le_mul_of_nonneg_left (by omega) (by omega)
        omega
      · exact z
    have l : (a.length : Int) ≤ 100 := by omega
    omega
  · unfold Builtin.Str.tooLong
    exact decide_eq_false (by rw [sizeLine_eq]; omega)
  · by_cases c : n < 1
    · rw [if_pos c]
      have e : strRep a n = Str.empty := by
        unfold strRep
        rw [show n.toNat = 0 by omega]
        rfl
      rw [e] at q
      exact ⟨by decide, .str _, H, I.tok _, ⟨_, rfl⟩, q⟩
    · rw [if_neg c]
      cases b : (n == 1 || a.length == 0) with
      | true =>
        rw [if_pos rfl]
        have e : strRep a n = a := by
          rcases Bool.or_eq_true _ _ |>.mp b with z | z
          · have z : n = 1 := by simpa using z
            subst z
            unfold strRep
            simp
          · have z : a.length = 0 := by simpa using z
            have ec : a.cps = #[] := Array.eq_empty_of_size_eq_zero z
            unfold strRep
            have rp : ∀ m : Nat, (List.replicate m a.cps).foldl (· ++ ·) #[] = #[] := fun m => by
              rw [ec]
              induction m with
              | zero => rfl
              | succ m ih => rw [List.replicate_succ, List.foldl_cons, Array.empty_append]; exact ih
            rw [rp]
            cases a
            simp at ec
            rw [ec]
        rw [e] at q
        exact ⟨.str a, H, I, ⟨t, rfl⟩, q⟩
      | false =>
        rw [if_neg Bool.false_ne_true]
        refine ⟨?_, .str _, H, I.tok _, ⟨_, rfl⟩, q⟩
        have len : ∀ (m : Nat) (acc : Array Nat), ((List.replicate m a.cps).foldl (· ++ ·) acc).size = acc.size + m * a.cps.size := fun m => by
          induction m with
          | zero => intro acc; simp
          | succ m ih =>
            intro acc
            rw [List.replicate_succ, List.foldl_cons, ih, Array.size_append, Nat.succ_mul]
            omega
        show ((List.replicate n.toNat a.cps).foldl (· ++ ·) #[]).size ≤ sizeLine
        rw [len, sizeLine_eq]
        have : a.cps.size * n.toNat ≤ 100000 := h4
        rw [Nat.mul_comm n.toNat]
        simp
        omega
/-! ### a tuple so many times -/
theorem tuple_mulS (l : Addr) (items : Array Value) (n : Nat) (dd : Option Addr) (sl : Array (Option Value)) (x : Int) (u : Tok) (c0 : (decide (x < -(2 ^ 63)) || decide (x ≥ 2 ^ 63)) = false) (c1 : (items.isEmpty || x == 1) = true) :
    Meets (Builtin.«tuple.__mul__» ⟨[.ref l, .int x u], []⟩) (fun _ R s => s.heap.get? l = some { cls := .type "tuple", dict := dd, data := .seq items n, slots := sl } ∧ R (.ok (.ret (Value.ref l))) s) :=
  .of_wp fun prog w A R s h => by
    obtain ⟨hp, g, d, tk, os⟩ := s
    obtain ⟨hl, h⟩ := h
    have f1 := AutoSeq1.idx_int
    wp_walk using wpAny_loadPart' hl
    repeat (first
      | (refine wpAny_ite_false (decide_eq_false (by rw [c0]; exact Bool.false_ne_true)) ?_; wp_walk using wpAny_loadPart' hl)
      | (refine wpAny_ite_true (decide_eq_true c1) ?_; wp_walk using wpAny_loadPart' hl))
    exact ⟨_, rfl, h⟩
theorem tuple_mul0 (l : Addr) (items : Array Value) (n : Nat) (dd : Option Addr) (sl : Array (Option Value)) (x : Int) (u : Tok) (c0 : (decide (x < -(2 ^ 63)) || decide (x ≥ 2 ^ 63)) = false) (c1 : (items.isEmpty || x == 1) = false) (c2 : (decide (x ≤ 0) || items.isEmpty) = true) :
    Meets (Builtin.«tuple.__mul__» ⟨[.ref l, .int x u], []⟩) (fun _ R s => s.heap.get? l = some { cls := .type "tuple", dict := dd, data := .seq items n, slots := sl } ∧
      R (.ok (.ret (Value.ref s.heap.objs.size))) { s with heap := s.heap.push { cls := Value.type "tuple", data := Data.seq #[] }, toks := s.toks }) :=
  .of_wp fun prog w A R s h => by
    obtain ⟨hp, g, d, tk, os⟩ := s
    obtain ⟨hl, h⟩ := h
    have f1 := AutoSeq1.idx_int
    wp_walk using wpAny_loadPart' hl
    repeat (first
      | (refine wpAny_ite_false (decide_eq_false (by rw [c0]; exact Bool.false_ne_true)) ?_; wp_walk using wpAny_loadPart' hl)
      | (refine wpAny_ite_false (decide_eq_false (by rw [c1]; exact Bool.false_ne_true)) ?_; wp_walk using wpAny_loadPart' hl)
      | (refine wpAny_ite_true (decide_eq_true c2) ?_; wp_walk using wpAny_loadPart' hl))
    exact ⟨_, rfl, h⟩
theorem op_repF : OpR X (binaryOp .Mult) (fun x y H Q => ∃ l k xs, x = .ref l ∧ y = .int k ∧ SqT X.K H l xs ∧ 0 ≤ k ∧ k ≤ 1000 ∧ xs.length ≤ 1000 ∧ (xs = [] ∨ k = 1 → Q (.ref l) H) ∧ (xs ≠ [] → k ≠ 1 → ∀ p o, H p = none → o.dict = none → Q (.ref p) (upd H p (.frz o (.tup (List.replicate k.toNat xs).flatten))))) := by
  intro pins s σ H x y v u Q I rx ry h
  obtain ⟨l, k, xs, rfl, rfl, hT, h1, h2, hz, q1, q⟩ := h
  cases rx
  obtain ⟨t, rfl⟩ := ry
  obtain ⟨its, r, ⟨⟨cls, dd, data, sl⟩, ho, hc, n, hd⟩, hs⟩ := I.tuple hT
  simp only at hc hd
  subst hc hd
  have hle : its.length = xs.length := r.length.symm
  have c0 : (decide (k < -(2 ^ 63)) || decide (k ≥ 2 ^ 63)) = false := by
    rw [decide_eq_false (by omega), decide_eq_false (by omega)] <;> rfl
  by_cases c : xs = [] ∨ k = 1
  · have c1 : (its.toArray.isEmpty || k == 1) = true := by
      rcases c with rfl | rfl
      · cases its with
        | nil => rfl
        | cons a b => cases hle
      · exact Bool.or_true _
    refine wpAny_binaryOp_repeat_ref (T := "tuple") (U := "int") (by decide) ⟨_, ho, rfl⟩ (fun s' => typeIs_int s' k t) noFill_tuple_mul F.fills_int_mul F.slot_int_rmul repeat_tuple F.slot_int_index.lookup
      (call_meets F.slot_int_rmul (typeIs_int s k t) F.entry_int_rmul (F.args_int_rmul_2 _ _) (int_rmul_tuple k t l its.toArray n dd sl)
        ⟨ho, rfl, ⟨_, ho, rfl⟩, call_meets F.slot_tuple_mul ⟨_, ho, rfl⟩ F.entry_tuple_mul (F.args_tuple_mul_2 _ _) (tuple_mulS l its.toArray n dd sl k t c0 c1) ⟨ho, ?_⟩⟩)
    exact ⟨.ref l, H, I, rfl, q1 c⟩
  have hne : xs ≠ [] := fun e => c (.inl e)
  have hk : k ≠ 1 := fun e => c (.inr e)
  have hn : its ≠ [] := fun e => hne (by
    rw [e] at hle
    exact List.eq_nil_of_length_eq_zero hle.symm)
  have hi : its.toArray.isEmpty = false := by
    cases its with
    | nil => exact absurd rfl hn
    | cons a b => rfl
  have hsz0 : its.toArray.size = xs.length := by rw [List.size_toArray, hle]
  have hm : ((its.toArray.size : Nat) : Int) * k ≤ 1000000 := by
    rw [hsz0]
    have a1 : ((xs.length : Nat) : Int) * k ≤ 1000 * k := Int.mul_le_mul_of_nonneg_right (by omega) (by omega)
    omega
  have flen : (List.replicate k.toNat its).flatten.length ≤ sizeLine := by
    rw [PyProof.Rows.lm_len_rep_flat, hle, sizeLine_eq]
    have a1 : k.toNat * xs.length ≤ 1000 * 1000 := Nat.mul_le_mul (by omega) hz
    omega
  have c1 : (its.toArray.isEmpty || k == 1) = false := by
    rw [hi, Bool.false_or]
    exact beq_eq_false_iff_ne.mpr hk
  by_cases k0 : k = 0
  · subst k0
    have c2 : (decide ((0 : Int) ≤ 0) || its.toArray.isEmpty) = true := rfl
    refine wpAny_binaryOp_repeat_ref (T := "tuple") (U := "int") (by decide) ⟨_, ho, rfl⟩ (fun s' => typeIs_int s' 0 t) noFill_tuple_mul F.fills_int_mul F.slot_int_rmul repeat_tuple F.slot_int_index.lookup
      (call_meets F.slot_int_rmul (typeIs_int s 0 t) F.entry_int_rmul (F.args_int_rmul_2 _ _) (int_rmul_tuple 0 t l its.toArray n dd sl)
        ⟨ho, rfl, ⟨_, ho, rfl⟩, call_meets F.slot_tuple_mul ⟨_, ho, rfl⟩ F.entry_tuple_mul (F.args_tuple_mul_2 _ _) (tuple_mul0 l its.toArray n dd sl 0 t c0 c1 c2) ⟨ho, ?_⟩⟩)
    refine ⟨.ref s.heap.objs.size, _, I.laid (t' := s.toks) (o := .frz _ (.tup (List.replicate (0 : Int).toNat xs).flatten)) (fun b ob q => Heap.get?_push_of_some _ q) (Nat.le_refl _) ⟨Heap.get?_push_size _ rfl, ?_⟩, rfl, q hne hk _ _ (I.hok.fresh (Nat.le_refl _)) rfl⟩
    exact ⟨Nat.zero_le _, [], .nil, IsTup.new _ _⟩
  have c2 : (decide (k ≤ 0) || its.toArray.isEmpty) = false := by
    rw [hi, Bool.or_false]
    exact decide_eq_false (by omega)
  have c4 : Builtin.Tuple.tupleTooMany (((its.toArray.size : Nat) : Int) * k) = false := by
    unfold Builtin.Tuple.tupleTooMany
    rw [sizeLine_eq]
    exact decide_eq_false (by omega)
  refine wpAny_binaryOp_repeat_ref (T := "tuple") (U := "int") (by decide) ⟨_, ho, rfl⟩ (fun s' => typeIs_int s' k t) noFill_tuple_mul F.fills_int_mul F.slot_int_rmul repeat_tuple F.slot_int_index.lookup
    (call_meets F.slot_int_rmul (typeIs_int s k t) F.entry_int_rmul (F.args_int_rmul_2 _ _) (int_rmul_tuple k t l its.toArray n dd sl)
      ⟨ho, rfl, ⟨_, ho, rfl⟩, call_meets F.slot_tuple_mul ⟨_, ho, rfl⟩ F.entry_tuple_mul (F.args_tuple_mul_2 _ _) (tuple_mulW l its.toArray n dd sl k t c0 c1 c2 (by omega) c4 (by rw [size_rep, List.size_toArray]; exact flen)) ⟨ho, ?_⟩⟩)
  rw [size_rep]
  refine ⟨.ref s.heap.objs.size, _, I.laid (t' := s.toks) (o := .frz _ (.tup (List.replicate k.toNat xs).flatten)) (fun b ob q => Heap.get?_push_of_some _ q) (Nat.le_refl _) ⟨Heap.get?_push_size _ rfl, ?_⟩, rfl, q hne hk _ _ (I.hok.fresh (Nat.le_refl _)) rfl⟩
  exact ⟨by rw [PyProof.Rows.lm_len_rep_flat, sizeLine_eq]; have a1 : k.toNat * xs.length ≤ 1000 * 1000 := Nat.mul_le_mul (by omega) hz; omega, _, r.rep k.toNat, IsTup.new _ _⟩
def fMul : Da → Da → (SV → Prop) → Prop
  | .int i, .int j, Q => Sm i ∧ Sm j ∧ Q (.val (.int (i * j)))
  | .str x, .int n, Q => (n < 100000 ∧ -100000 < n ∧ x.length ≤ 100 ∧ x.length * n.toNat ≤ 100000) ∧ Q (.val (.str (strRep x n)))
  | .list ds, .int n, Q => (n < 1000000 ∧ -1000000 < n ∧ ds.length * n.toNat ≤ 1000000) ∧ Q (.own true (.list (List.replicate n.toNat ds).flatten))
  | .tuple ds, .int n, Q => (0 ≤ n ∧ n ≤ 1000 ∧ ds.length ≤ 1000) ∧ Q (.val (.tuple (List.replicate n.toNat ds).flatten))
  | _, _, _ => False
theorem od_mul : OpD X (binaryOp .Mult) fMul := by
  intro B env S σ H x y c d Q Q' R px py h cl
  cases c <;> cases d <;> first | exact h.elim | skip
  · cases px.int; cases py.int
    obtain ⟨⟨n, hn, h1⟩, ⟨m, hm, h2⟩, q⟩ := h
    exact ⟨_, op_mulX, _, _, rfl, rfl, mulx_ok h1 h2 (by omega), cl.val R q (.int _)⟩
  · cases px.str; cases py.int
    exact ⟨_, op_strRep, _, _, rfl, rfl, h.1, cl.val R h.2 (.str _)⟩
  · cases py.int
    obtain ⟨⟨h1, h2, h3⟩, q⟩ := h
    obtain ⟨a, us, rfl, ha, da⟩ := px.lst R.w
    exact ⟨_, op_repR, a, _, us, rfl, rfl, ha, by omega, by omega, by rw [da.length, sizeLine_eq]; omega, fun p hp => cl.newL R q (da.rep _) hp⟩
  · cases py.int
    obtain ⟨⟨h1, h2, h3⟩, q⟩ := h
    obtain ⟨a, us, rfl, ha, da⟩ := px.tupP
    rename_i ds n
    refine ⟨_, op_repF, a, n, us, rfl, rfl, SqT.up R.w.sub ha.sq, h1, h2, by rw [da.length]; exact h3, fun e => ?_, fun _ _ p o hp ho => cl.newT R q (da.rep _) hp ho⟩
    have e2 : (List.replicate n.toNat ds).flatten = ds := by
      rcases e with rfl | rfl
      · cases da
        generalize n.toNat = m
        induction m with
        | zero => rfl
        | succ m ih => rw [List.replicate_succ, List.flatten_cons, ih]; rfl
      · show (List.replicate 1 ds).flatten = ds
        rw [List.replicate_succ, List.replicate_zero, List.flatten_cons, List.flatten_nil, List.append_nil]
    rw [e2] at q
    exact cl.val R q (.tup ha da)
def fDiv : Da → Da → (SV → Prop) → Prop
  | .int i, .int j, Q => 0 < j ∧ Dv i j ∧ Q (.val (.int (i / j)))
  | _, _, _ => False
theorem od_div : OpD X (binaryOp .FloorDiv) fDiv := by
  intro B env S σ H x y c d Q Q' R px py h cl
  cases c <;> cases d <;> first | exact h.elim | skip
  cases px.int; cases py.int
  exact ⟨_, op_fdivV, _, _, rfl, rfl, ⟨h.1, h.2.1⟩, cl.val R h.2.2 (.int _)⟩
def fMod : Da → Da → (SV → Prop) → Prop
  | .int i, .int j, Q => 0 < j ∧ Q (.val (.int (i % j)))
  | _, _, _ => False
theorem od_mod : OpD X (binaryOp .Mod) fMod := by
  intro B env S σ H x y c d Q Q' R px py h cl
  cases c <;> cases d <;> first | exact h.elim | skip
  cases px.int; cases py.int
  exact ⟨_, op_mod, _, _, rfl, rfl, h.1, cl.val R h.2 (.int _)⟩
/-! ### comparisons -/
def fEq : Da → Da → (SV → Prop) → Prop
  | .int i, .int j, Q => Q (.val (.bool (decide (i = j))))
  | .str i, .str j, Q => Q (.val (.bool (decide (i = j))))
  | .bool i, .bool j, Q => Q (.val (.bool (decide (i = j))))
  | c, d, Q => SeqAt.shaped c = true ∧ SeqAt.shaped d = true ∧ Q (.val (.bool (PyData.eqv c d)))
def fNe : Da → Da → (SV → Prop) → Prop
  | .int i, .int j, Q => Q (.val (.bool (!decide (i = j))))
  | .str i, .str j, Q => Q (.val (.bool (!decide (i = j))))
  | .bool i, .bool j, Q => Q (.val (.bool (!decide (i = j))))
  | c, d, Q => SeqAt.shaped c = true ∧ SeqAt.shaped d = true ∧ Q (.val (.bool (!PyData.eqv c d)))
theorem v_int {i j : Int} : decide (V.int i = V.int j) = decide (i = j) := by simp
theorem v_str {i j : Str} : decide (V.str i = V.str j) = decide (i = j) := by simp
theorem v_bl {i j : Bool} : decide (V.bl i = V.bl j) = decide (i = j) := by simp
theorem od_eq (hu : X.A.units + 64 < cLine) : OpD X (compareOp .Eq) fEq := by
  intro B env S σ H x y c d Q Q' R px py h cl
  have deep : SeqAt.shaped c = true ∧ SeqAt.shaped d = true ∧ Q (.val (.bool (PyData.eqv c d))) → uR X (compareOp .Eq) x y H Q' := fun ⟨h1, h2, h3⟩ =>
    ⟨_, op_eqD hu, c, d, px.dp R.w h1, py.dp R.w h2, h1, h2, cl.val R h3 (.bl _)⟩
  cases c <;> cases d <;> first
    | exact deep h
    | (cases px.int; cases py.int; exact ⟨_, op_eq, rfl, cl.val R (by rw [v_int]; exact h) (.bl _)⟩)
    | (cases px.str; cases py.str; exact ⟨_, op_eq, rfl, cl.val R (by rw [v_str]; exact h) (.bl _)⟩)
    | (cases px.bl; cases py.bl; exact ⟨_, op_eq, rfl, cl.val R (by rw [v_bl]; exact h) (.bl _)⟩)
theorem od_ne (hu : X.A.units + 64 < cLine) : OpD X (compareOp .NotEq) fNe := by
  intro B env S σ H x y c d Q Q' R px py h cl
  have deep : SeqAt.shaped c = true ∧ SeqAt.shaped d = true ∧ Q (.val (.bool (!PyData.eqv c d))) → uR X (compareOp .NotEq) x y H Q' := fun ⟨h1, h2, h3⟩ =>
    ⟨_, op_neD hu, c, d, px.dp R.w h1, py.dp R.w h2, h1, h2, cl.val R h3 (.bl _)⟩
  cases c <;> cases d <;> first
    | exact deep h
    | (cases px.int; cases py.int; exact ⟨_, op_ne, rfl, cl.val R (by rw [v_int]; exact h) (.bl _)⟩)
    | (cases px.str; cases py.str; exact ⟨_, op_ne, rfl, cl.val R (by rw [v_str]; exact h) (.bl _)⟩)
    | (cases px.bl; cases py.bl; exact ⟨_, op_ne, rfl, cl.val R (by rw [v_bl]; exact h) (.bl _)⟩)
def fCmp (p : Int → Int → Bool) : Da → Da → (SV → Prop) → Prop
  | .int i, .int j, Q => Q (.val (.bool (p i j)))
  | _, _, _ => False
theorem od_cmp {g : Value → Value → Sem Value} {p : Int → Int → Bool} (ho : OpR X g (rI0 fun i j => .bl (p i j))) : OpD X g (fCmp p) := by
  intro B env S σ H x y c d Q Q' R px py h cl
  cases c <;> cases d <;> first | exact h.elim | skip
  cases px.int; cases py.int
  exact ⟨_, ho, _, _, rfl, rfl, cl.val R h (.bl _)⟩
abbrev fLt := fCmp fun i j => decide (i < j)
abbrev fGt := fCmp fun i j => decide (j < i)
theorem od_lt : OpD X (compareOp .Lt) fLt := od_cmp op_lt
theorem od_gt : OpD X (compareOp .Gt) fGt := od_cmp op_gt
/-- x in xs -/
def flatD : Da → Bool
  | .int _ => true
  | .str _ => true
  | .bool _ => true
  | .none => true
  | _ => false
def fIn (neg : Bool) : Da → Da → (SV → Prop) → Prop
  | .str x, .str y, Q => ∃ c, x = ⟨#[c]⟩ ∧ Q (.val (.bool (xor neg (decide (c ∈ y.cps.toList)))))
  | c, .list ds, Q => ((flatD c = true ∧ ds.all flatD = true) ∨ (SeqAt.shaped c = true ∧ SeqAt.shaped (.list ds) = true)) ∧ Q (.val (.bool (xor neg (ds.any fun z => PyData.eqv z c))))
  | c, .tuple ds, Q => flatD c = true ∧ ds.all flatD = true ∧ Q (.val (.bool (xor neg (ds.any fun z => PyData.eqv z c))))
  | c, .dict ds, Q => match dGetO ds c with
    | some o => Q (.val (.bool (xor neg o.isSome)))
    | none => False
  | _, _, _ => False
theorem op_inDict (hu : X.A.units + 1 < cLine) : OpR X (compareOp .In) (fun y x H Q => ∃ a o, x = .ref a ∧ DGX X.K H a y o ∧ Q (.bl o.isSome) H) := by
  intro pins s σ H x y v u Q I rx ry h
  obtain ⟨a, o, rfl, g, q⟩ := h
  cases ry
  exact d_inX hu I g rx fun s' I' => ⟨.bl o.isSome, H, I', rfl, q⟩
theorem op_notInDict (hu : X.A.units + 1 < cLine) : OpR X (compareOp .NotIn) (fun y x H Q => ∃ a o, x = .ref a ∧ DGX X.K H a y o ∧ Q (.bl (!o.isSome)) H) := by
  intro pins s σ H x y v u Q I rx ry h
  obtain ⟨a, o, rfl, g, q⟩ := h
  cases ry
  exact d_notInX hu I g rx fun s' I' => ⟨.bl (!o.isSome), H, I', rfl, q⟩
theorem some_iff {K : PySem.W.Frag} {S : Hp} {o : Option V} {p : Option Da} (h : RelO2 K S o p) : o.isSome = p.isSome := by
  cases o <;> cases p <;> first | rfl | exact h.elim
theorem flat_dq {K : PySem.W.Frag} {S : Hp} {c : Da} {v : V} (h : Dq K S v c) (f : flatD c = true) : flatV v = true := by
  cases h <;> first | rfl | cases f
theorem eqv_dq {K : PySem.W.Frag} {S : Hp} {c d : Da} {v u : V} (h : Dq K S v c) (f : flatD c = true) (h' : Dq K S u d) (f' : flatD d = true) : eqV v u = PyData.eqv c d := by
  cases h <;> cases h' <;> first | rfl | cases f | cases f'
theorem flat_all {K : PySem.W.Frag} {S : Hp} : ∀ {ds : List Da} {vs : List V}, DqAll K S vs ds → ds.all flatD = true → vs.all flatV = true
  | [], _, h, _ => by cases h; rfl
  | d :: ds, _, h, f => by
    cases h with
    | cons h1 h2 =>
      rw [List.all_cons, Bool.and_eq_true] at f ⊢
      exact ⟨flat_dq h1 f.1, flat_all h2 f.2⟩
theorem inV_dq {K : PySem.W.Frag} {S : Hp} {c : Da} {v : V} (h : Dq K S v c) (f : flatD c = true) : ∀ {ds : List Da} {vs : List V}, DqAll K S vs ds → ds.all flatD = true → inV v vs = ds.any fun z => PyData.eqv z c
  | [], _, h', _ => by cases h'; rfl
  | d :: ds, _, h', f' => by
    cases h' with
    | cons h1 h2 =>
      rw [List.all_cons, Bool.and_eq_true] at f'
      have ih := inV_dq h f h2 f'.2
      unfold inV at ih ⊢
      rw [List.any_cons, List.any_cons, ih, eqv_dq h1 f'.1 h f]
theorem IsP.flat {K : PySem.W.Frag} {B : Br} {S H : Hp} {c : Da} {v : V} (p : IsP K B S H c v) (f : flatD c = true) : Dq K S v c := by
  rcases p with p | ⟨_, _, rfl, _, _, h⟩
  · exact p
  · cases h <;> cases f
theorem xor_not (a b : Bool) : (if a = true then !b else b) = xor a b := by cases a <;> cases b <;> rfl
theorem od_in (hu : X.A.units + 65 < cLine) : OpD X (compareOp .In) (fIn false) := by
  intro B env S σ H x y c d Q Q' R px py h cl
  have lst : ∀ {ds : List Da}, IsP X.K B S H (.list ds) y → (((flatD c = true ∧ ds.all flatD = true) ∨ (SeqAt.shaped c = true ∧ SeqAt.shaped (.list ds) = true)) ∧ Q (.val (.bool (xor false (ds.any fun z => PyData.eqv z c))))) → uR X (compareOp .In) x y H Q' := fun py h => by
    obtain ⟨h1 | h1, h3⟩ := h
    · obtain ⟨b, us, rfl, hb, db⟩ := py.lst R.w
      have dc := px.flat h1.1
      refine ⟨_, op_in_seq, b, us, rfl, .inl (.inl hb), flat_dq dc h1.1, flat_all db h1.2, ?_⟩
      rw [xor_not, inV_dq dc h1.1 db h1.2]
      exact cl.val R h3 (.bl _)
    · exact ⟨_, op_inD hu, c, _, px.dp R.w h1.1, py.dp R.w h1.2, h1.1, h1.2, cl.val R (by rw [Bool.false_xor] at h3; exact h3) (.bl _)⟩
  have tup : ∀ {ds : List Da}, IsP X.K B S H (.tuple ds) y → (flatD c = true ∧ ds.all flatD = true ∧ Q (.val (.bool (xor false (ds.any fun z => PyData.eqv z c))))) → uR X (compareOp .In) x y H Q' := fun py h => by
    obtain ⟨b, us, rfl, hb, db⟩ := py.tup
    have dc := px.flat h.1
    refine ⟨_, op_in_seq, b, us, rfl, .inr (SqT.up R.w.sub hb), flat_dq dc h.1, flat_all db h.2.1, ?_⟩
    rw [xor_not, inV_dq dc h.1 db h.2.1]
    exact cl.val R h.2.2 (.bl _)
  cases d with
  | list ds => cases c <;> exact lst py h
  | tuple ds => cases c <;> exact tup py h
  | str z =>
    cases c <;> first | exact h.elim | skip
    obtain ⟨k, rfl, q⟩ := h
    cases px.str; cases py.str
    exact ⟨_, op_in_sign, k, z, rfl, rfl, cl.val R (by rw [Bool.false_xor] at q; exact q) (.bl _)⟩
  | dict ds =>
    have h : match dGetO ds c with
      | some o => Q (.val (.bool (xor false o.isSome)))
      | none => False := by cases c <;> exact h
    cases e : dGetO ds c with
    | none => rw [e] at h; exact h.elim
    | some o =>
      rw [e] at h
      obtain ⟨a, ov, rfl, g, ro, _⟩ := dget_of R.w py px e
      refine ⟨_, op_inDict (by omega), a, ov, rfl, g, ?_⟩
      rw [some_iff ro]
      exact cl.val R (by rw [← Bool.false_xor o.isSome]; exact h) (.bl _)
  | _ => cases c <;> exact h.elim
theorem od_notin (hu : X.A.units + 65 < cLine) : OpD X (compareOp .NotIn) (fIn true) := by
  intro B env S σ H x y c d Q Q' R px py h cl
  have lst : ∀ {ds : List Da}, IsP X.K B S H (.list ds) y → (((flatD c = true ∧ ds.all flatD = true) ∨ (SeqAt.shaped c = true ∧ SeqAt.shaped (.list ds) = true)) ∧ Q (.val (.bool (xor true (ds.any fun z => PyData.eqv z c))))) → uR X (compareOp .NotIn) x y H Q' := fun py h => by
    obtain ⟨h1 | h1, h3⟩ := h
    · obtain ⟨b, us, rfl, hb, db⟩ := py.lst R.w
      have dc := px.flat h1.1
      refine ⟨_, op_notIn_seq, b, us, rfl, .inl (.inl hb), flat_dq dc h1.1, flat_all db h1.2, ?_⟩
      rw [xor_not, inV_dq dc h1.1 db h1.2]
      exact cl.val R h3 (.bl _)
    · exact ⟨_, op_notInD hu, c, _, px.dp R.w h1.1, py.dp R.w h1.2, h1.1, h1.2, cl.val R (by rw [Bool.true_xor] at h3; exact h3) (.bl _)⟩
  have tup : ∀ {ds : List Da}, IsP X.K B S H (.tuple ds) y → (flatD c = true ∧ ds.all flatD = true ∧ Q (.val (.bool (xor true (ds.any fun z => PyData.eqv z c))))) → uR X (compareOp .NotIn) x y H Q' := fun py h => by
    obtain ⟨b, us, rfl, hb, db⟩ := py.tup
    have dc := px.flat h.1
    refine ⟨_, op_notIn_seq, b, us, rfl, .inr (SqT.up R.w.sub hb), flat_dq dc h.1, flat_all db h.2.1, ?_⟩
    rw [xor_not, inV_dq dc h.1 db h.2.1]
    exact cl.val R h.2.2 (.bl _)
  cases d with
  | list ds => cases c <;> exact lst py h
  | tuple ds => cases c <;> exact tup py h
  | str z =>
    cases c <;> first | exact h.elim | skip
    obtain ⟨k, rfl, q⟩ := h
    cases px.str; cases py.str
    exact ⟨_, op_notIn_sign, k, z, rfl, rfl, cl.val R (by rw [Bool.true_xor] at q; exact q) (.bl _)⟩
  | dict ds =>
    have h : match dGetO ds c with
      | some o => Q (.val (.bool (xor true o.isSome)))
      | none => False := by cases c <;> exact h
    cases e : dGetO ds c with
    | none => rw [e] at h; exact h.elim
    | some o =>
      rw [e] at h
      obtain ⟨a, ov, rfl, g, ro, _⟩ := dget_of R.w py px e
      refine ⟨_, op_notInDict (by omega), a, ov, rfl, g, ?_⟩
      rw [some_iff ro]
      exact cl.val R (by rw [← Bool.true_xor o.isSome]; exact h) (.bl _)
  | _ => cases c <;> exact h.elim
/-! ### unary minus, not, and, or, conditional expressions, chains -/
def mTest (m : MP) : MT := fun env Q => m env fun d e => match d with
  | .bool b => Q b e
  | _ => False
/-- a comparison as a test -/
theorem dt_cmp {a b : Expr} {op : CmpOp} {pos : Pos} {f : Da → Da → (SV → Prop) → Prop} {ma mb : MP} (ho : OpD X (compareOp op) f) (ha : DP Z X a ma) (hb : DP Z X b mb) (hm : behindInMarks op b = false := by rfl) : DT Z X (.Compare a [op] [b] pos) (mTest (toD (mBin f ma mb))) :=
  (pt_cmpR OpR.un ha hb hm).wk fun σ H Q ⟨B, env, S, Q0, R, h, k⟩ => by
    refine op_run (X := X) ho σ H _ ⟨B, env, S, _, R, h, fun r e1 q v S' H' st R' ir => ?_⟩
    cases r with
    | val d =>
      cases d <;> first | exact q.elim | skip
      cases ir
      exact ⟨_, rfl, k _ e1 q S' H' st R'⟩
    | own w d =>
      cases d <;> first | exact q.elim | skip
      obtain ⟨_, p, _, ⟨_, _, _, _, z⟩, _⟩ := ir
      cases z
    | no => exact ir.elim
    | deal => exact q.elim
    | bor d => exact q.elim
    | res b d ids => exact q.elim
/-- a call that hands back a truth, as a test -/
theorem dt_val {e : Expr} {m : MP} (h : DS Z X e m) (he : ∀ whole, isTrue e X.env whole = (do let v ← whole; standAt e.pos; holding [v] (truthy v)) := by intro _; rfl) : DT Z X e (mTest m) :=
  (pt_val h he).wk fun σ H Q ⟨B, env, S, Q0, R, h, k⟩ => ⟨B, env, S, _, R, h, fun d e1 q v S' H' st R' ir => by
    cases d <;> first | exact q.elim | skip
    cases ir
    exact ⟨_, rfl, k _ e1 q S' H' st R'⟩⟩
def mNot (m : MT) : MT := fun env Q => m env fun b e => Q (!b) e
theorem dt_not {a : Expr} {pos : Pos} {m : MT} (h : DT Z X a m) : DT Z X (.UnaryOp .Not a pos) (mNot m) := (pt_not h).wk fun σ H Q ⟨B, env, S, Q0, R, h, k⟩ =>
  ⟨B, env, S, _, R, h, fun b e1 q S' H' st R' => k _ e1 q S' H' st R'⟩
def mAnd (m n : MT) : MT := fun env Q => m env fun b e => if b = true then n e Q else Q false e
def mOr (m n : MT) : MT := fun env Q => m env fun b e => if b = true then Q true e else n e Q
abbrev DW (Z : ZX) (X : Cx) (e : Expr) (m : MT) : Prop := PW X e (tT Z X.K m)
theorem dw_and1 {a : Expr} {pos : Pos} {m : MT} (h : DT Z X a m) : DW Z X (.BoolOp .And [a] pos) m := pw_and1 h
theorem dw_or1 {a : Expr} {pos : Pos} {m : MT} (h : DT Z X a m) : DW Z X (.BoolOp .Or [a] pos) m := pw_or1 h
theorem PW.wk {e : Expr} {t t' : TT} (p : PW X e t) (h : ∀ σ H Q, t' σ H Q → t σ H Q) : PW X e t' := ⟨fun whole pins s σ H Q I h' => p.run whole pins s σ H Q I (h σ H Q h')⟩
theorem dw_and {a b : Expr} {rest : List Expr} {pos : Pos} {m n : MT} (ha : DT Z X a m) (hb : DW Z X (.BoolOp .And (b :: rest) pos) n) : DW Z X (.BoolOp .And (a :: b :: rest) pos) (mAnd m n) :=
  PW.wk (pw_and ha hb) fun σ H Q ⟨B, env, S, Q0, R, h, k⟩ => ⟨B, env, S, _, R, h, fun b e1 q S' H' st R' => by
    cases b with
    | true =>
      show (if true = true then _ else _)
      rw [if_pos rfl] at q ⊢
      exact ⟨B, e1, S', _, R', q, fun b e2 q2 S2 H2 st2 R2 => k _ e2 q2 S2 H2 (st.trans st2) R2⟩
    | false =>
      show (if false = true then _ else _)
      rw [if_neg Bool.false_ne_true] at q ⊢
      exact k _ e1 q S' H' st R'⟩
theorem dw_or {a b : Expr} {rest : List Expr} {pos : Pos} {m n : MT} (ha : DT Z X a m) (hb : DW Z X (.BoolOp .Or (b :: rest) pos) n) : DW Z X (.BoolOp .Or (a :: b :: rest) pos) (mOr m n) :=
  PW.wk (pw_or ha hb) fun σ H Q ⟨B, env, S, Q0, R, h, k⟩ => ⟨B, env, S, _, R, h, fun b e1 q S' H' st R' => by
    cases b with
    | false =>
      show (if false = true then _ else _)
      rw [if_neg Bool.false_ne_true] at q ⊢
      exact ⟨B, e1, S', _, R', q, fun b e2 q2 S2 H2 st2 R2 => k _ e2 q2 S2 H2 (st.trans st2) R2⟩
    | true =>
      show (if true = true then _ else _)
      rw [if_pos rfl] at q ⊢
      exact k _ e1 q S' H' st R'⟩
/-- and, or as values of truths -/
def mAndV (m n : MP) : MP := fun env Q => m env fun d e => match d with
  | .bool b => if b = true then n e (fun d2 e2 => match d2 with | .bool c => Q (.bool c) e2 | _ => False) else Q (.bool false) e
  | _ => False
theorem ds_and {a b : Expr} {rest : List Expr} {pos : Pos} {m n : MP} (ha : DS Z X a m) (hb : DS Z X (.BoolOp .And (b :: rest) pos) n) : DS Z X (.BoolOp .And (a :: b :: rest) pos) (mAndV m n) :=
  (pe_and ha hb).wk fun σ H Q ⟨B, env, S, Q0, R, h, k⟩ => ⟨B, env, S, _, R, h, fun d e1 q v S' H' st R' ir => by
    cases d <;> first | exact q.elim | skip
    rename_i b
    cases ir
    refine ⟨b, rfl, ?_⟩
    cases b with
    | true =>
      rw [if_pos rfl]
      exact ⟨B, e1, S', _, R', q, fun d e2 q2 v S2 H2 st2 R2 ir2 => by
        cases d <;> first | exact q2.elim | skip
        exact k _ e2 q2 _ S2 H2 (st.trans st2) R2 ir2⟩
    | false =>
      rw [if_neg Bool.false_ne_true]
      exact k _ e1 q _ S' H' st R' (.bl _)⟩
theorem ds_one {a : Expr} {op : BoolOp} {pos : Pos} {m : MP} (ha : DS Z X a m) : DS Z X (.BoolOp op [a] pos) m := pe_one ha
def mNotV (m : MP) : MP := fun env Q => m env fun d e => match d with
  | .bool b => Q (.bool (!b)) e
  | _ => False
theorem ds_not {a : Expr} {pos : Pos} {m : MP} (h : DS Z X a m) : DS Z X (.UnaryOp .Not a pos) (mNotV m) := (pe_not h).wk fun σ H Q ⟨B, env, S, Q0, R, h, k⟩ =>
  ⟨B, env, S, _, R, h, fun d e1 q v S' H' st R' ir => by
    cases d <;> first | exact q.elim | skip
    cases ir
    exact ⟨_, rfl, k _ e1 q _ S' H' st R' (.bl _)⟩⟩
end
end Pq
set_option Elab.async false
set_option linter.all false
set_option maxRecDepth 100000
set_option maxHeartbeats 4000000
namespace Pq
open PySem PySem.Spec PyProof.Rows L2
section
variable {X : Cx}
/-! ### argument lists -/
def frz1 : SV → SV
  | .own _ d => .val d
  | r => r
def maNil : MA := fun env Q => Q [] env
def maCons (m : ME) (ma : MA) : MA := fun env Q => m env fun r e1 => ma e1 fun rs e2 => Q (frz1 r :: rs) e2
theorem da_nil : DA Z X [] maNil := pa_nil.wk fun σ H Q ⟨B, env, S, Q0, R, h, k⟩ => k _ _ h _ S H .refl R rfl
theorem da_cons {e : Expr} {es : List Expr} {m : ME} {ma : MA} (h : DE Z X e m) (hr : DA Z X es ma) (hs : starEach (e :: es) X.env = (false, eval e X.env) :: starEach es X.env := by rfl) : DA Z X (e :: es) (maCons m ma) :=
  (pa_cons h hr hs).wk fun σ H Q ⟨B, env, S, Q0, R, h, k⟩ => ⟨B, env, S, _, R, h, fun r e1 q v S1 H1 st1 R1 ir => by
    have fin : ∀ {r' : SV} {S1' : Hp}, Stq B σ env S H e1 S1' H1 → Rel X.K B e1 S1' σ H1 → frz1 r = r' → (∀ {S2 : Hp} {rs : List SV} {vs : List V}, (∀ a o, S1' a = some o → S2 a = some o) → AllR X.K B.deal S2 rs vs → AllR X.K B.deal S2 (r' :: rs) (v :: vs)) → tAr Z X.K ma σ H1 fun xs H2 => Q (v :: xs) H2 := fun {r' S1'} st R' er f =>
      ⟨B, e1, S1', _, R', q, fun rs e2 q2 vs S2 H2 st2 R2 al => k _ e2 q2 _ S2 H2 (st.trans st2) R2 (by rw [er]; exact f st2.s.1 al)⟩
    cases r with
    | val d => exact fin st1 R1 rfl fun e al => ⟨v, _, rfl, Dq.up e _ _ ir, al⟩
    | own b d =>
      obtain ⟨S2, st2, R2, dp⟩ := IsR.frz st1 R1 ir
      exact fin st2 R2 rfl fun e al => ⟨v, _, rfl, Dq.up e _ _ dp, al⟩
    | deal =>
      obtain ⟨p, l, a, rfl⟩ := ir
      exact fin st1 R1 rfl fun e al => ⟨p, l, _, rfl, a, al⟩
    | no => exact ir.elim
    | bor d => exact ir.elim
    | res b d ids => exact ir.elim⟩
def mlNil : ML := fun env Q => Q [] env
def mlCons (m : MP) (ma : ML) : ML := fun env Q => m env fun d e1 => ma e1 fun ds e2 => Q (d :: ds) e2
theorem dps_nil : DPs Z X [] mlNil := pa_nil.wk fun σ H Q ⟨B, env, S, Q0, R, h, k⟩ => k _ _ h _ S H .refl R rfl
theorem dps_cons {e : Expr} {es : List Expr} {m : MP} {ma : ML} (h : DP Z X e m) (hr : DPs Z X es ma) (hs : starEach (e :: es) X.env = (false, eval e X.env) :: starEach es X.env := by rfl) : DPs Z X (e :: es) (mlCons m ma) :=
  (pa_cons h hr hs).wk fun σ H Q ⟨B, env, S, Q0, R, h, k⟩ => ⟨B, env, S, _, R, h, fun d e1 q v S1 H1 st1 R1 ir =>
    ⟨B, e1, S1, _, R1, q, fun ds e2 q2 vs S2 H2 st2 R2 al => k _ e2 q2 _ S2 H2 (st1.trans st2) R2 ⟨v, vs, rfl, ir.up st2.s, al⟩⟩⟩
/-- data alone -/
def dats : List SV → Option (List Da)
  | [] => some []
  | .val d :: rs => (dats rs).map (d :: ·)
  | _ => none
theorem AllR.dats {K : PySem.W.Frag} {dl : Option (Addr × Addr)} {S : Hp} : ∀ {rs : List SV} {vs : List V} {ds : List Da}, AllR K dl S rs vs → Pq.dats rs = some ds → DqAll K S vs ds
  | [], _, _, h, e => by
    cases (show _ = [] from h)
    cases e
    exact .nil
  | .val d :: rs, _, _, h, e => by
    obtain ⟨v, r, rfl, b, c⟩ := h
    unfold Pq.dats at e
    cases z : Pq.dats rs with
    | none => rw [z] at e; cases e
    | some es => rw [z] at e; cases e; exact .cons b (AllR.dats c z)
  | .deal :: rs, _, _, h, e => by cases e
  | .no :: _, _, _, h, _ => h.elim
  | .own _ _ :: _, _, _, h, _ => h.elim
  | .bor _ :: _, _, _, h, _ => h.elim
  | .res _ _ _ :: _, _, _, h, _ => h.elim
def tTupF (t : TA) : TE := fun σ H Q => t σ H fun xs H1 => xs.length ≤ sizeLine ∧ ∀ p o, H1 p = none → o.dict = none → Q (.ref p) (upd H1 p (.frz o (.tup xs)))
theorem pe_tupF {t : TA} {es : List Expr} {pos : Pos} {x1} (h : PA X es t) : PE X (.Tuple es x1 pos) (tTupF t) := by
  refine ⟨fun pins s σ H Q I hq => ?_⟩
  refine wpAny_Tuple_spliced (thn (h.run pos pins s σ H _ I hq) fun us s1 ⟨xs, H1, I1, r, z, q⟩ => ⟨by rw [← r.length]; exact z, ?_⟩)
  have hf : H1 s1.heap.objs.size = none := I1.hok.fresh (Nat.le_refl _)
  refine ⟨.ref s1.heap.objs.size, upd H1 s1.heap.objs.size (.frz _ (.tup xs)), I1.laid (t' := s1.toks) (fun b u e => Heap.get?_push_of_some _ e) (Nat.le_refl _) ⟨Heap.get?_push_size _ rfl, ?_⟩, rfl, q _ _ hf rfl⟩
  exact ⟨z, us, r, ⟨_, Heap.get?_push_size _ rfl, rfl, _, rfl⟩⟩
theorem call_tuple_ofF : CallR X (.type "tuple") (fun xs H Q => ∃ p ys, xs = [.ref p] ∧ SqL X.K H p ys ∧ ∀ l o, H l = none → o.dict = none → Q (.ref l) (upd H l (.frz o (.tup ys)))) := by
  intro pins s σ H xs us Q I r h
  obtain ⟨p, ys, rfl, hq, q⟩ := h
  obtain ⟨u, rfl, rx⟩ := vals1 r
  cases rx
  obtain ⟨its, r', pl, hz⟩ := I.list hq
  have hlen := r'.length
  refine call_tuple_list pl.isList (fun h' kp => ?_) (by simp only [List.size_toArray] <;> omega)
  have I1 : Inv X pins σ H { s with heap := h' } := I.kept (t' := s.toks) kp
  have I2 : Inv X pins σ (upd H h'.objs.size (.frz { cls := .type "tuple", data := .seq its.toArray } (.tup ys))) { s with heap := h'.push { cls := .type "tuple", data := .seq its.toArray } } :=
    I1.laid (t' := s.toks) (fun b o e => Heap.get?_push_of_some _ e) (Nat.le_refl _) ⟨Heap.get?_push_size _ rfl, (show ObjOk X.prog X.w _ _ _ (.tup ys) from ⟨hz, its, r', IsTup.new _ _⟩)⟩
  exact ⟨.ref h'.objs.size, _, I2, rfl, q _ _ (I1.hok.fresh (Nat.le_refl _)) rfl⟩
/-- t[lo:hi]: the whole of it is t itself -/
def rSlF (K : PySem.W.Frag) : V → Option Int → Option Int → Hp → VK → Prop := fun x lo hi H Q => ∃ a xs, x = .ref a ∧ SqT K H a xs ∧
  (HT.sIx xs.length 0 lo = 0 ∧ HT.sIx xs.length xs.length hi = xs.length → Q (.ref a) H) ∧ (¬ (HT.sIx xs.length 0 lo = 0 ∧ HT.sIx xs.length xs.length hi = xs.length) → ∀ p o, H p = none → o.dict = none → Q (.ref p) (upd H p (.frz o (.tup (cutV xs lo hi)))))
theorem sl_tupF : SlR X (rSlF X.K) := by
  intro pins s σ H x v vl vu lo hi sl Q I rx hs pl pu h
  obtain ⟨a, xs, rfl, hx, q1, q2⟩ := h
  by_cases hw : HT.sIx xs.length 0 lo = 0 ∧ HT.sIx xs.length xs.length hi = xs.length
  · exact sl_tupA pins s σ H _ v vl vu lo hi sl Q I rx hs pl pu ⟨a, xs, rfl, hx, q1, fun z => absurd hw z⟩
  · cases rx
    obtain ⟨its, r, ht, hz⟩ := I.tuple hx
    have hlen : its.toArray.size = xs.length := by rw [List.size_toArray]; exact r.length.symm
    refine ⟨"tuple", _, PyProof.Rows.slot_tuple_getitem.lookup, ht.typeIs, ?_⟩
    refine HT.getItem_tuple_cut ht hs pl pu (by rw [hlen]; exact hw) ?_ (by rw [hlen]; exact hz)
    rw [hlen]
    refine ⟨.ref s.heap.objs.size, _, I.laid (t' := s.toks) (o := .frz _ (.tup (cutV xs lo hi))) (fun b ob q => Heap.get?_push_of_some _ q) (Nat.le_refl _) ⟨Heap.get?_push_size _ rfl, ?_⟩, rfl, q2 hw _ _ (I.hok.fresh (Nat.le_refl _)) rfl⟩
    exact ⟨Nat.le_trans (cutV_length xs lo hi) hz, _, (r.drop (HT.sIx xs.length 0 lo)).take (HT.sIx xs.length xs.length hi - HT.sIx xs.length 0 lo), IsTup.new _ _⟩
def mTup (ma : MA) : MP := fun env Q => ma env fun rs e => match dats rs with
  | some ds => ds.length ≤ 1000000 ∧ Q (.tuple ds) e
  | none => False
theorem ds_tup {es : List Expr} {x1} {pos : Pos} {ma : MA} (h : DA Z X es ma) : DS Z X (.Tuple es x1 pos) (mTup ma) := (pe_tupF h).wk fun σ H Q ⟨B, env, S, Q0, R, h, k⟩ =>
  ⟨B, env, S, _, R, h, fun rs e1 q vs S1 H1 st1 R1 al => by
    cases z : dats rs with
    | none => rw [z] at q; exact q.elim
    | some ds =>
      rw [z] at q
      have al := al.dats z
      exact ⟨by rw [al.length]; exact le_sz q.1, fun p o hp ho => k _ e1 q.2 _ _ _ (st1.trans (stq_allocS R1.w hp)) (R1.allocS hp) (.tup (.inl ⟨o, upd_same, ho⟩) (DqAll.up (upd_sub (R1.w.snone hp)) _ _ al))⟩⟩
def mLst (ma : MA) : ME := fun env Q => ma env fun rs e => match dats rs with
  | some ds => ds.length ≤ 1000000 ∧ Q (.own true (.list ds)) e
  | none => False
theorem de_lst {es : List Expr} {pos : Pos} {ma : MA} (h : DA Z X es ma) : DE Z X (.List es pos) (mLst ma) := (pe_lst h).wk fun σ H Q ⟨B, env, S, Q0, R, h, k⟩ =>
  ⟨B, env, S, _, R, h, fun rs e1 q vs S1 H1 st1 R1 al => by
    cases z : dats rs with
    | none => rw [z] at q; exact q.elim
    | some ds =>
      rw [z] at q
      have al := al.dats z
      have c : Cl X.K B e1 S1 σ H1 (fun r => Q0 r e1) Q := fun r v S' H' q st R' ir => k r e1 q v S' H' (st1.trans st) R' (ir.back R.w st1)
      exact ⟨by rw [al.length]; exact le_sz q.1, fun p hp => c.newL R1 q.2 al hp⟩⟩
/-! ### calls of built-ins -/
def CallD (X : Cx) (f : Value) (g : List Da → (SV → Prop) → Prop) : Prop :=
  ∀ (B : Br) (env : En) (S : Hp) (σ : L2.St) (H : Hp) (vs : List V) (ds : List Da) (Q : SV → Prop) (Q' : VK), Rel X.K B env S σ H → AllP X.K B S H ds vs → g ds Q → Cl X.K B env S σ H Q Q' → uC X f vs H Q'
def mCB (g : List Da → (SV → Prop) → Prop) (ma : ML) : ME := fun env Q => ma env fun ds e => g ds fun r => Q r e
theorem cb_run {f : Value} {g : List Da → (SV → Prop) → Prop} (hc : CallD X f g) {ma : ML} : ∀ σ H Q, tE Z X.K (mCB g ma) σ H Q → tCB (uC X f) (tPs Z X.K ma) σ H Q := fun σ H Q ⟨B, env, S, Q0, R, h, k⟩ =>
  ⟨B, env, S, _, R, h, fun ds e1 q vs S1 H1 st1 R1 al => hc B e1 S1 σ H1 vs ds _ Q R1 al q fun r v S' H' q st R' ir => k r e1 q v S' H' (st1.trans st) R' (ir.back R.w st1)⟩
theorem de_cb {id : String} {x : Str} {e : Expr} {es : List Expr} {p pos : Pos} {g : List Da → (SV → Prop) → Prop} {ma : ML} (hc : CallD X (.builtin id) g) (hg : Gl X x) (hm : X.mg x = none) (hv : bootBuiltins x = some (.builtin id)) (ha : DPs Z X (e :: es) ma) (hn : x ≠ "__name__" := by decide) (hdb : (x == ("__debug__" : Str)) = false := by decide)
    (he : starEach (e :: es) X.env = (false, eval e X.env) :: starEach es X.env := by rfl) (hpl : (backTo pos (starEach es X.env)).any (·.1) = false := by rfl) : DE Z X (.Call (.Name x p) (e :: es) [] pos) (mCB g ma) :=
  (pe_callB CallR.un hg hm hv ha hn hdb he hpl).wk (cb_run hc)
theorem de_ct {T : String} {x : Str} {e : Expr} {es : List Expr} {p pos : Pos} {g : List Da → (SV → Prop) → Prop} {ma : ML} (hc : CallD X (.type T) g) (hg : Gl X x) (hm : X.mg x = none) (hv : bootBuiltins x = some (.type T)) (ha : DPs Z X (e :: es) ma) (hn : x ≠ "__name__" := by decide) (hdb : (x == ("__debug__" : Str)) = false := by decide)
    (he : starEach (e :: es) X.env = (false, eval e X.env) :: starEach es X.env := by rfl) (hpl : (backTo pos (starEach es X.env)).any (·.1) = false := by rfl) : DE Z X (.Call (.Name x p) (e :: es) [] pos) (mCB g ma) :=
  (pe_callTy CallR.un hg hm hv ha hn hdb he hpl).wk (cb_run hc)
theorem max_if (i j : Int) : (if j > i then j else i) = max i j := by omega
theorem min_if (i j : Int) : (if j < i then j else i) = min i j := by omega
/-- max(a, b), min(a, b) -/
def fMax2 : List Da → (SV → Prop) → Prop
  | [.int i, .int j], Q => Q (.val (.int (max i j)))
  | _, _ => False
def fMin2 : List Da → (SV → Prop) → Prop
  | [.int i, .int j], Q => Q (.val (.int (min i j)))
  | _, _ => False
theorem cd_max2 (hc : X.calm = true) : CallD X (.builtin "max") fMax2 := by
  intro B env S σ H vs ds Q Q' R al h cl
  unfold fMax2 at h
  split at h
  · obtain ⟨v, r, rfl, p1, r2⟩ := al
    obtain ⟨v2, r', rfl, p2, r3⟩ := r2
    cases (show r' = [] from r3)
    cases p1.int; cases p2.int
    refine ⟨_, call_max2 hc, _, _, rfl, cl.val R ?_ (.int _)⟩
    rw [max_if]; exact h
  · exact h.elim
theorem cd_min2 (hc : X.calm = true) : CallD X (.builtin "min") fMin2 := by
  intro B env S σ H vs ds Q Q' R al h cl
  unfold fMin2 at h
  split at h
  · obtain ⟨v, r, rfl, p1, r2⟩ := al
    obtain ⟨v2, r', rfl, p2, r3⟩ := r2
    cases (show r' = [] from r3)
    cases p1.int; cases p2.int
    refine ⟨_, call_min2 hc, _, _, rfl, cl.val R ?_ (.int _)⟩
    rw [min_if]; exact h
  · exact h.elim
def fAbs : List Da → (SV → Prop) → Prop
  | [.int i], Q => Q (.val (.int (if i < 0 then -i else i)))
  | _, _ => False
theorem cd_abs : CallD X (.builtin "abs") fAbs := by
  intro B env S σ H vs ds Q Q' R al h cl
  unfold fAbs at h
  split at h
  · obtain ⟨v, r, rfl, p1, r2⟩ := al
    cases (show r = [] from r2)
    cases p1.int
    exact ⟨_, call_abs, _, rfl, cl.val R h (.int _)⟩
  · exact h.elim
def fInt : List Da → (SV → Prop) → Prop
  | [.int i], Q => Q (.val (.int i))
  | [.bool b], Q => Q (.val (.int (if b then 1 else 0)))
  | _, _ => False
theorem cd_int : CallD X (.type "int") fInt := by
  intro B env S σ H vs ds Q Q' R al h cl
  unfold fInt at h
  split at h
  · obtain ⟨v, r, rfl, p1, r2⟩ := al
    cases (show r = [] from r2)
    cases p1.int
    exact ⟨_, call_int1, .inl ⟨_, rfl, cl.val R h (.int _)⟩⟩
  · obtain ⟨v, r, rfl, p1, r2⟩ := al
    cases (show r = [] from r2)
    cases p1.bl
    exact ⟨_, call_int1, .inr ⟨_, rfl, cl.val R h (.int _)⟩⟩
  · exact h.elim
def fLen : List Da → (SV → Prop) → Prop
  | [.list ds], Q => Q (.val (.int ds.length))
  | [.tuple ds], Q => Q (.val (.int ds.length))
  | [.str z], Q => z.length ≤ 1000000 ∧ Q (.val (.int z.length))
  | _, _ => False
theorem cd_len : CallD X (.builtin "len") fLen := by
  intro B env S σ H vs ds Q Q' R al h cl
  unfold fLen at h
  split at h
  · obtain ⟨v, r, rfl, p1, r2⟩ := al
    cases (show r = [] from r2)
    obtain ⟨a, us, rfl, ha, da⟩ := p1.lst R.w
    exact ⟨_, call_len_seq, a, us, rfl, .inl (.inl ha), cl.val R (by rw [da.length]; exact h) (.int _)⟩
  · obtain ⟨v, r, rfl, p1, r2⟩ := al
    cases (show r = [] from r2)
    obtain ⟨a, us, rfl, ha, da⟩ := p1.tup
    exact ⟨_, call_len_seq, a, us, rfl, .inr (SqT.up R.w.sub ha), cl.val R (by rw [da.length]; exact h) (.int _)⟩
  · obtain ⟨v, r, rfl, p1, r2⟩ := al
    cases (show r = [] from r2)
    cases p1.str
    exact ⟨_, call_len_str, _, rfl, le_sz h.1, cl.val R h.2 (.int _)⟩
  · exact h.elim
/-- tuple(xs), list(xs) -/
def fTuple : List Da → (SV → Prop) → Prop
  | [.list ds], Q => Q (.val (.tuple ds))
  | [.tuple ds], Q => Q (.val (.tuple ds))
  | _, _ => False
theorem cd_tuple : CallD X (.type "tuple") fTuple := by
  intro B env S σ H vs ds Q Q' R al h cl
  unfold fTuple at h
  split at h
  · obtain ⟨v, r, rfl, p1, r2⟩ := al
    cases (show r = [] from r2)
    obtain ⟨a, us, rfl, ha, da⟩ := p1.lst R.w
    exact ⟨_, call_tuple_ofF, a, us, rfl, .inl ha, fun l o hl ho => cl.newT R h da hl ho⟩
  · obtain ⟨v, r, rfl, p1, r2⟩ := al
    cases (show r = [] from r2)
    obtain ⟨a, us, rfl, ha, da⟩ := p1.tupP
    exact ⟨_, call_tuple_of, a, us, rfl, .inr ⟨SqT.up R.w.sub ha.sq, cl.val R h (.tup ha da)⟩⟩
  · exact h.elim
/-- ints, truths out of data -/
def ints? : List Da → Option (List Int)
  | [] => some []
  | .int i :: r => (ints? r).map (i :: ·)
  | _ => none
def bools? : List Da → Option (List Bool)
  | [] => some []
  | .bool i :: r => (bools? r).map (i :: ·)
  | _ => none
theorem ints_dq {K : PySem.W.Frag} {S : Hp} : ∀ {ds : List Da} {vs : List V} {ns : List Int}, DqAll K S vs ds → ints? ds = some ns → vs = ns.map V.int
  | [], _, _, h, e => by cases h; cases e; rfl
  | d :: ds, _, ns, h, e => by
    cases h with
    | cons h1 h2 =>
      cases d <;> first | cases e; done | skip
      cases h1
      unfold ints? at e
      cases z : ints? ds with
      | none => rw [z] at e; cases e
      | some ms => rw [z] at e; cases e; rw [ints_dq h2 z]; rfl
theorem bools_dq {K : PySem.W.Frag} {S : Hp} : ∀ {ds : List Da} {vs : List V} {ns : List Bool}, DqAll K S vs ds → bools? ds = some ns → vs = ns.map V.bl
  | [], _, _, h, e => by cases h; cases e; rfl
  | d :: ds, _, ns, h, e => by
    cases h with
    | cons h1 h2 =>
      cases d <;> first | cases e; done | skip
      cases h1
      unfold bools? at e
      cases z : bools? ds with
      | none => rw [z] at e; cases e
      | some ms => rw [z] at e; cases e; rw [bools_dq h2 z]; rfl
@[irreducible] def fAll : List Da → (SV → Prop) → Prop
  | [.list ds], Q => match bools? ds with
    | some bs => Q (.val (.bool (bs.all id)))
    | none => False
  | _, _ => False
theorem cd_all (hc : X.calm = true) : CallD X (.builtin "all") fAll := by
  intro B env S σ H vs ds Q Q' R al h cl
  unfold fAll at h
  split at h
  · obtain ⟨v, r, rfl, p1, r2⟩ := al
    cases (show r = [] from r2)
    obtain ⟨a, us, rfl, ha, da⟩ := p1.lst R.w
    split at h
    · rename_i bs e
      exact ⟨_, cr_all hc, a, bs, rfl, by rw [← bools_dq da e]; exact .inl ha, cl.val R h (.bl _)⟩
    · exact h.elim
  · exact h.elim
/-- isinstance(x, T), T a built-in type -/
def tyD : Da → Value
  | .none => .type "NoneType"
  | .bool _ => .type "bool"
  | .int _ => .type "int"
  | .str _ => .type "str"
  | .list _ => .type "list"
  | .tuple _ => .type "tuple"
  | .dict ((.bool true, _) :: _) => .type "tuple"
  | .dict ((.bool false, .str _) :: _) => .type "mark"
  | .dict ((.bool false, .tuple _) :: _) => .type "mark"
  | .dict ((.bool _, _) :: _) => .type "list"
  | .dict ((.none, _) :: _) => .type "mark"
  | .dict _ => .type "dict"
def tyN : Da → String
  | .none => "NoneType"
  | .bool _ => "bool"
  | .int _ => "int"
  | .str _ => "str"
  | .list _ => "list"
  | .tuple _ => "tuple"
  | .dict ((.bool true, _) :: _) => "tuple"
  | .dict ((.bool false, .str _) :: _) => "mark"
  | .dict ((.bool false, .tuple _) :: _) => "mark"
  | .dict ((.bool _, _) :: _) => "list"
  | .dict ((.none, _) :: _) => "mark"
  | .dict _ => "dict"
theorem tyx {K : PySem.W.Frag} {B : Br} {S H : Hp} {d : Da} {v : V} (w : Wd B S H) (p : IsP K B S H d v) (hm : tyN d ≠ "mark") : TyX K H v (tyD d) := by
  have p := p.dq w
  cases p with
  | non => exact .base .non
  | bl b => exact .base (.bl b)
  | int i => exact .base (.int i)
  | str x => exact .base (.str x)
  | lst h _ =>
    rcases h with h | ⟨o, h⟩
    · exact .base (.lst h)
    · exact .base (.frz h)
  | tup h _ =>
    rcases h with ⟨o, h, _⟩ | ⟨o, its, n, h, hc, _⟩
    · exact .fTuple h
    · exact .kTuple h hc
  | pr h _ =>
    rcases h with (h | ⟨o, h⟩) | ⟨o, its, n, h, hc, _⟩
    · exact .base (.tup h)
    · exact .fTuple h
    · exact .kTuple h hc
  | @dk _ _ ds h z =>
    have e : tyD (.dict ds) = .type "dict" := by
      cases z with
      | nil => rfl
      | @cons k _ _ _ _ _ _ => cases k <;> rfl
    rw [e]
    exact .base (.dK h)
  | dt h _ => exact absurd rfl hm
  | exc _ _ _ _ => exact absurd rfl hm
  | ins _ _ _ => exact absurd rfl hm
  | scr h =>
    rcases h with (h | ⟨o, h⟩) | ⟨o, its, n, h, hc, _⟩
    · exact .base (.lst h)
    · exact .base (.frz h)
    · exact .kList h hc
theorem tyN_ty (d : Da) : tyD d = .type (tyN d) := by
  unfold tyD tyN
  split <;> rfl
/-- isinstance(x, T) -/
def isT : String → String → Option Bool
  | "int", "bool" => some false
  | "int", "tuple" => some false
  | "int", "int" => some true
  | "bool", "bool" => some true
  | "bool", "int" => some true
  | "bool", "tuple" => some false
  | "tuple", "tuple" => some true
  | "tuple", "bool" => some false
  | "tuple", "int" => some false
  | "list", "list" => some true
  | "list", "tuple" => some false
  | "str", "str" => some true
  | "str", "int" => some false
  | "str", "bool" => some false
  | "str", "tuple" => some false
  | "tuple", "list" => some false
  | "tuple", "str" => some false
  | "int", "str" => some false
  | "int", "list" => some false
  | "NoneType", "tuple" => some false
  | "NoneType", "int" => some false
  | "NoneType", "bool" => some false
  | _, _ => none
theorem isT_mark (T : String) : isT "mark" T = none := by
  unfold isT
  split <;> first | rfl | (rename_i h _; exact absurd h (by decide)) | (rename_i h; exact absurd h (by decide))
theorem isT_kit {a b : String} {r : Bool} (h : isT a b = some r) : kitB a b = some r := by
  unfold isT at h
  split at h <;> first | (cases h; done) | (cases h; decide +kernel)
def mIsi (T : String) (m : MP) : MP := fun env Q => m env fun d e => match isT (tyN d) T with
  | some b => Q (.bool b) e
  | none => False
theorem ds_isi {T : String} {a : Expr} {y : Str} {p p2 pos : Pos} {m : MP} (hg : Gl X "isinstance") (hm : X.mg "isinstance" = none) (hg2 : Gl X y) (hm2 : X.mg y = none) (hv2 : bootBuiltins y = some (.type T)) (ha : DP Z X a m) (hv : bootBuiltins "isinstance" = some (.builtin "isinstance") := by decide +kernel) (hn : y ≠ "__name__" := by decide) (hdb : (y == ("__debug__" : Str)) = false := by decide)
    (he : starEach [a, .Name y p2] X.env = (false, eval a X.env) :: starEach [.Name y p2] X.env := by rfl) (he2 : starEach [.Name y p2] X.env = (false, eval (.Name y p2) X.env) :: starEach [] X.env := by rfl) (hpl : (backTo pos (starEach [.Name y p2] X.env)).any (·.1) = false := by rfl) :
    DS Z X (.Call (.Name "isinstance" p) [a, .Name y p2] [] pos) (mIsi T m) :=
  (pe_callB call_isi hg hm hv (pa_cons ha (pa_cons (pe_bltn (v := .ty T) hg2 hm2 hv2 rfl hn hdb) pa_nil he2) he) (by decide) (by decide) he hpl).wk fun σ H Q ⟨B, env, S, Q0, R, h, k⟩ => by
    refine ⟨B, env, S, _, R, h, fun d e1 q v S1 H1 st1 R1 ip => ?_⟩
    show ∃ (x c : V) (t u : Value) (b : Bool), [v, .ty T] = [x, c] ∧ _
    cases z : isT (tyN d) T with
    | none => rw [z] at q; exact q.elim
    | some b =>
      rw [z] at q
      exact ⟨v, .ty T, tyD d, .type T, b, rfl, .ty T, tyx R1.w ip (fun e => by rw [e, isT_mark] at z; cases z), by rw [tyN_ty]; exact kit_ty (isT_kit z), k _ e1 q _ S1 H1 st1 R1 (.bl b)⟩
/-! ### subscripts and slices -/
@[irreducible] def fIx : Da → Da → (SV → Prop) → Prop
  | .list ds, .int i, Q => match atI ds i with
    | some d => Q (.val d)
    | none => False
  | .tuple ds, .int i, Q => match atI ds i with
    | some d => Q (.val d)
    | none => False
  | .str z, .int i, Q => z.length ≤ 1000000 ∧ match atI z.cps.toList i with
    | some c => Q (.val (.str ⟨#[c]⟩))
    | none => False
  | .dict ds, c, Q => match dGetO ds c with
    | some (some d) => Q (.val d)
    | _ => False
  | _, _, _ => False
theorem ix_dict (hu : X.A.units + 1 < cLine) : IxR X (fun x y H Q => ∃ a v, x = .ref a ∧ DGX X.K H a y (some v) ∧ Q v H) := by
  intro value slice pins s σ H x y v u Q I rx ry h hs
  obtain ⟨a, w, rfl, g, q⟩ := h
  cases rx
  have ty := (isDX_at I (dgx_isD g)).1
  refine tail_any ty PySem.F.slot_dict_getitem.lookup ?_ hs
  exact d_getItemX hu I g ry fun w' s3 I3 rw' => ⟨w, H, I3, rw', q⟩
theorem atI_dq {K : PySem.W.Frag} {S : Hp} {ds : List Da} {vs : List V} {i : Int} {d : Da} (h : DqAll K S vs ds) (e : atI ds i = some d) : ∃ v, atI vs i = some v ∧ Dq K S v d := by
  unfold atI at e ⊢
  rw [h.length]
  cases z : ixN ds.length i with
  | none => rw [z] at e; cases e
  | some j =>
    rw [z] at e
    obtain ⟨v, a, b⟩ := h.get (show ds[j]? = some d from e)
    exact ⟨v, a, b⟩
theorem de_ix {a b : Expr} {pos : Pos} {ma mb : MP} (hu : X.A.units + 1 < cLine) (ha : DP Z X a ma) (hb : DP Z X b mb) (hs : PlainIx b := by exact fun _ _ => rfl) : DE Z X (.Subscript a b pos) (mBin fIx ma mb) := (pe_ix IxR.un ha hb hs).wk fun σ H Q ⟨B, env, S, Q0, R, hm, k⟩ => by
  refine ⟨B, env, S, _, R, hm, fun c e1 hm1 x S1 H1 st1 R1 p1 => ?_⟩
  refine ⟨B, e1, S1, _, R1, hm1, fun d e2 hm2 y S2 H2 st2 R2 p2 => ?_⟩
  have p1 := p1.up st2.s
  have fin : ∀ {d v}, Q0 (.val d) e2 → Dq X.K S2 v d → Q v H2 := fun q ir => k _ e2 q _ S2 H2 (st1.trans st2) R2 ir
  unfold fIx at hm2
  split at hm2
  · cases p2.int
    obtain ⟨a, us, rfl, ha, da⟩ := p1.lst R2.w
    split at hm2
    · rename_i d e
      obtain ⟨v, a1, a2⟩ := atI_dq da e
      exact ⟨_, ix_list, a, us, _, v, rfl, rfl, .inl ha, a1, fin hm2 a2⟩
    · exact hm2.elim
  · cases p2.int
    obtain ⟨a, us, rfl, ha, da⟩ := p1.tup
    split at hm2
    · rename_i d e
      obtain ⟨v, a1, a2⟩ := atI_dq da e
      exact ⟨_, ix_tup, a, us, _, v, rfl, rfl, SqT.up R2.w.sub ha, a1, fin hm2 a2⟩
    · exact hm2.elim
  · cases p2.int
    cases p1.str
    obtain ⟨hz, hm2⟩ := hm2
    split at hm2
    · rename_i c e
      exact ⟨_, ix_str, _, _, c, rfl, rfl, le_sz hz, e, fin hm2 (.str _)⟩
    · exact hm2.elim
  · split at hm2
    · rename_i e
      obtain ⟨a, ov, rfl, g, ro, _⟩ := dget_of R2.w p1 p2 e
      cases ov with
      | none => exact ro.elim
      | some v => exact ⟨_, ix_dict hu, a, v, rfl, g, fin hm2 ro⟩
    · exact hm2.elim
  · exact hm2.elim
/-- a slice's part -/
abbrev MO := En → (Option Int → En → Prop) → Prop
def tOp' (Z : ZX) (K : PySem.W.Frag) (m : MO) : TO := fun σ H Q => ∃ B : Bs Z, ∃ env S, ∃ Q0 : Option Int → En → Prop, Rel K B env S σ H ∧ m env Q0 ∧ ∀ o env', Q0 o env' → ∀ S' H', Stq B σ env S H env' S' H' → Rel K B env' S' σ H' → Q o H'
abbrev DO (Z : ZX) (X : Cx) (e : Option Expr) (m : MO) : Prop := PO X e (tOp' Z X.K m)
theorem PO.wk {e : Option Expr} {t t' : TO} (p : PO X e t) (h : ∀ σ H Q, t' σ H Q → t σ H Q) : PO X e t' := ⟨fun pins s σ H Q I h' => p.run pins s σ H Q I (h σ H Q h')⟩
def moNone : MO := fun env Q => Q none env
def moSome (m : MP) : MO := fun env Q => m env fun d e => match d with
  | .int i => Q (some i) e
  | _ => False
theorem do_none : DO Z X none moNone := PO.wk po_none fun σ H Q ⟨B, env, S, Q0, R, h, k⟩ => k _ _ h S H .refl R
theorem do_some {e : Expr} {m : MP} (h : DP Z X e m) : DO Z X (some e) (moSome m) := PO.wk (po_some h) fun σ H Q ⟨B, env, S, Q0, R, h, k⟩ => ⟨B, env, S, _, R, h, fun d e1 q v S1 H1 st1 R1 ip => by
  cases d <;> first | exact q.elim | skip
  cases ip.int
  exact ⟨_, rfl, k _ e1 q S1 H1 st1 R1⟩⟩
def cutD (ds : List Da) (lo hi : Option Int) : List Da := (ds.drop (HT.sIx ds.length 0 lo)).take (HT.sIx ds.length ds.length hi - HT.sIx ds.length 0 lo)
theorem cutD_dq {K : PySem.W.Frag} {S : Hp} {ds : List Da} {vs : List V} {lo hi : Option Int} (h : DqAll K S vs ds) : DqAll K S (cutV vs lo hi) (cutD ds lo hi) := by
  unfold cutV cutD
  rw [h.length]
  exact (h.drop _).take _
def fSl (lo hi : Option Int) : Da → (SV → Prop) → Prop
  | .list ds, Q => Q (.own true (.list (cutD ds lo hi)))
  | .tuple ds, Q => Q (.val (.tuple (cutD ds lo hi)))
  | .str z, Q => z.length ≤ 1000000 ∧ Q (.val (.str (cutS z lo hi)))
  | .dict [(.bool false, .list ds)], Q => Q (.own true (.list (cutD ds lo hi)))
  | _, _ => False
def mSl (m : MP) (ml mh : MO) : ME := fun env Q => m env fun d e1 => ml e1 fun lo e2 => mh e2 fun hi e3 => fSl lo hi d fun r => Q r e3
theorem cutD_all {ds : List Da} {lo hi : Option Int} (h : HT.sIx ds.length 0 lo = 0 ∧ HT.sIx ds.length ds.length hi = ds.length) : cutD ds lo hi = ds := by
  unfold cutD
  rw [h.1, h.2]
  simp
theorem de_sl {e : Expr} {lo hi : Option Expr} {p2 pos : Pos} {m : MP} {ml mh : MO} (h : DP Z X e m) (hl : DO Z X lo ml) (hh : DO Z X hi mh) : DE Z X (.Subscript e (.Slice lo hi none p2) pos) (mSl m ml mh) := (pe_slice SlR.un h hl hh).wk fun σ H Q ⟨B, env, S, Q0, R, hm, k⟩ => by
  refine ⟨B, env, S, _, R, hm, fun c e1 hm1 x S1 H1 st1 R1 p1 => ?_⟩
  refine ⟨B, e1, S1, _, R1, hm1, fun l e2 hm2 S2 H2 st2 R2 => ?_⟩
  refine ⟨B, e2, S2, _, R2, hm2, fun u e3 hm3 S3 H3 st3 R3 => ?_⟩
  have p1 := (p1.up st2.s).up st3.s
  have c : Cl X.K B e3 S3 σ H3 (fun r => Q0 r e3) Q := fun r v S' H' q st R' ir => k r e3 q v S' H' (((st1.trans st2).trans st3).trans st) R' (ir.back R.w ((st1.trans st2).trans st3))
  unfold fSl at hm3
  split at hm3
  · obtain ⟨a, us, rfl, ha, da⟩ := p1.lst R3.w
    exact ⟨_, sl_list, a, us, rfl, .inl ha, fun p hp => c.newL R3 hm3 (cutD_dq da) hp⟩
  · obtain ⟨a, us, rfl, ha, da⟩ := p1.tupP
    refine ⟨_, sl_tupF, a, us, rfl, SqT.up R3.w.sub ha.sq, fun e => ?_, fun _ p o hp ho => c.newT R3 hm3 (cutD_dq da) hp ho⟩
    rw [da.length] at e
    rw [cutD_all e] at hm3
    exact c.val R3 hm3 (.tup ha da)
  · cases p1.str
    exact ⟨_, sl_str, _, rfl, le_sz hm3.1, c.val R3 hm3.2 (.str _)⟩
  · obtain ⟨a, ns, rfl, en, ha⟩ := p1.scr
    cases en
    exact ⟨_, sl_list, a, _, rfl, SqL.up R3.w.sub ha, fun p hp => c.newL R3 hm3 (cutD_dq (dq_ints ns)) hp⟩
  · exact hm3.elim
/-- list(range(..)) -/
def rgD (a b : Int) : List Da := (List.range (b - a).toNat).map fun i => .int (a + (i : Nat))
end
end Pq
set_option Elab.async false
set_option linter.all false
set_option maxRecDepth 100000
set_option maxHeartbeats 4000000
namespace Pq
open PySem PySem.Spec PyProof.Rows L2
section
variable {X : Cx}
/-! ### what is walked -/
/-- over whatever stable heap: turn i yields the i-th piece of data -/
def Walks (K : PySem.W.Frag) (B : Br) (J : It) (S : Hp) (ds : List Da) : Prop := ∀ S1 H1, (∀ a o, S a = some o → S1 a = some o) → Wd B S1 H1 →
  (∀ i d, ds[i]? = some d → J.go i H1 ∧ ∀ x H2, J.yld i H1 x H2 → ∃ S2, (∀ env σ, Rel K B env S1 σ H1 → Rel K B env S2 σ H2 ∧ Stq B σ env S1 H1 env S2 H2) ∧ (∀ D o, H1 D = some o → S1 D = none → S2 D = none) ∧ Dq K S2 x d) ∧ ∀ i, ds.length ≤ i → J.stop i H1
def tI (Z : ZX) (K : PySem.W.Frag) (m : ML) : TI := fun σ H R => ∃ B : Bs Z, ∃ env S, ∃ Q0 : List Da → En → Prop, Rel K B env S σ H ∧ m env Q0 ∧ ∀ ds env', Q0 ds env' → ∀ S' H' J, Stq B σ env S H env' S' H' → Rel K B env' S' σ H' → Walks K B J S' ds → R J H'
abbrev DI (Z : ZX) (X : Cx) (tg e : Expr) (m : ML) : Prop := PI X tg e (tI Z X.K m)
theorem PI.wk {tg e : Expr} {t t' : TI} (p : PI X tg e t) (h : ∀ σ H R, t' σ H R → t σ H R) : PI X tg e t' := ⟨fun pins s σ H R I h' => p.run pins s σ H R I (h σ H R h')⟩
theorem walks_list {K : PySem.W.Frag} {B : Br} {S : Hp} {a : Addr} {vs : List V} {ds : List Da} (h : Rd S a (.lst vs)) (hd : DqAll K S vs ds) : Walks K B (Itl K a) S ds := fun S1 H1 e w => by
  have h1 : SqL K H1 a vs := .inl (Rd.up w.sub (Rd.up e h))
  refine ⟨fun i d hi => ?_, fun i hi => ⟨vs, h1, by rw [hd.length]; exact hi⟩⟩
  obtain ⟨v, hv, dv⟩ := hd.get hi
  refine ⟨⟨vs, v, h1, hv⟩, fun x H2 y => ?_⟩
  obtain ⟨rfl, y⟩ := y
  have ex := y vs h1
  rw [hv] at ex
  cases ex
  exact ⟨S1, fun _ _ r => ⟨r, .refl⟩, fun _ _ _ z => z, Dq.up e _ _ dv⟩
theorem walks_tup {K : PySem.W.Frag} {B : Br} {S : Hp} {a : Addr} {vs : List V} {ds : List Da} (h : SqT K S a vs) (hd : DqAll K S vs ds) : Walks K B (Itt K a) S ds := fun S1 H1 e w => by
  have h1 : SqT K H1 a vs := SqT.up w.sub (SqT.up e h)
  refine ⟨fun i d hi => ?_, fun i hi => ⟨vs, h1, by rw [hd.length]; exact hi⟩⟩
  obtain ⟨v, hv, dv⟩ := hd.get hi
  refine ⟨⟨vs, v, h1, hv⟩, fun x H2 y => ?_⟩
  obtain ⟨rfl, y⟩ := y
  have ex := y vs h1
  rw [hv] at ex
  cases ex
  exact ⟨S1, fun _ _ r => ⟨r, .refl⟩, fun _ _ _ z => z, Dq.up e _ _ dv⟩
theorem walks_range {K : PySem.W.Frag} {B : Br} {S : Hp} {a b : Int} : Walks K B (Itr a (b - a).toNat) S (rgD a b) := fun S1 H1 e w => by
  have hl : (rgD a b).length = (b - a).toNat := by unfold rgD; rw [List.length_map, List.length_range]
  refine ⟨fun i d hi => ?_, fun i hi => by rw [hl] at hi; exact hi⟩
  have hlt := (List.getElem?_eq_some_iff.mp hi).1
  rw [hl] at hlt
  refine ⟨hlt, fun x H2 y => ?_⟩
  obtain ⟨rfl, rfl⟩ := y
  unfold rgD at hi
  rw [List.getElem?_map, List.getElem?_range hlt] at hi
  cases hi
  exact ⟨S1, fun _ _ r => ⟨r, .refl⟩, fun _ _ _ z => z, .int _⟩
/-- the signs of a text -/
def sgD (z : Str) : List Da := z.cps.toList.map fun c => .str ⟨#[c]⟩
theorem walks_str {K : PySem.W.Frag} {B : Br} {S : Hp} {z : Str} : Walks K B (Its z) S (sgD z) := fun S1 H1 e w => by
  have hl : (sgD z).length = z.cps.size := by unfold sgD; rw [List.length_map, Array.length_toList]
  refine ⟨fun i d hi => ?_, fun i hi => by rw [hl] at hi; exact hi⟩
  have hlt := (List.getElem?_eq_some_iff.mp hi).1
  rw [hl] at hlt
  refine ⟨hlt, fun x H2 y => ?_⟩
  obtain ⟨rfl, c, hc, rfl⟩ := y
  unfold sgD at hi
  rw [List.getElem?_map, Array.getElem?_toList, hc] at hi
  cases hi
  exact ⟨S1, fun _ _ r => ⟨r, .refl⟩, fun _ _ _ z => z, .str _⟩
/-! ### a dict whose keys are tuples, gone through by its keys -/
def Itq (d : Addr) (a' : DAo) (kvs : TKv) : It :=
  ⟨fun i H => H d = some (dtO a' kvs) ∧ i < kvs.length, fun i H x H' => H' = H ∧ ∃ (k : List Int) (b : Addr) (v : V), kvs[i]? = some (k, b, v) ∧ x = .ref b, fun i H => H d = some (dtO a' kvs) ∧ kvs.length ≤ i⟩
theorem dtq_at {X : Cx} {pins : List (Addr × Obj)} {σ : L2.St} {H : Hp} {s : Shared} {d : Addr} {a' : DAo} {kvs : TKv} (I : Inv X pins σ H s) (h : H d = some (dtO a' kvs)) :
    (d == sysModules) = false ∧ s.heap.get? d = some a'.2 ∧ a'.2.ExactDict ∧ ∃ (es : Array DictEntry) (ep : Nat), a'.2.data = .dict es ep ∧ es.size = kvs.length ∧
      ∀ (i : Nat) (k : List Int) (b : Addr) (v : V), kvs[i]? = some (k, b, v) → ∃ (en : DictEntry), es[i]? = some en ∧ en.key = .ref b := by
  obtain ⟨_, g, z, hs, xs, pr, o, es, ep, ho, hx, hdt, he, _⟩ := dtO_at' (I.hok _ _ h)
  rw [g] at ho
  cases ho
  refine ⟨hs, g, hx, es, ep, hdt, ?_, fun i k b v e => ?_⟩
  · have l1 : es.toList.length = (xs.map tEnt).length := by rw [he]
    rw [List.length_map, Array.length_toList] at l1
    have l2 : kvs.length = xs.length := Paired.length pr
    omega
  · obtain ⟨q, hq, e1, e2, _⟩ := L2.paired_get pr e
    refine ⟨tEnt q, ?_, ?_⟩
    · rw [← Array.getElem?_toList, he, List.getElem?_map, hq]; rfl
    · show Value.ref q.2.1 = _
      rw [← e2]
theorem turn_dt {P : Program} {w : World} {K : PySem.W.Frag} {tg : Expr} {d : Addr} {a' : DAo} {es : Array DictEntry} {ep : Nat} {kvs : TKv} (it : Addr) (hod : a'.2.data = .dict es ep) : Turn P w K tg (Itq d a' kvs) [it] it (fun i h => h.IsKeyIter it d i kvs.length ep) where
  mem := by simp
  obj := fun i h st b hb => by
    have e : b = it := by simpa using hb
    subst e
    obtain ⟨oi, e, c, dd⟩ := st
    exact ⟨oi, e, fun v z => by rw [dd] at z; cases z⟩
  keep := fun i h h' st k => st.at fun oi e => k it (by simp) oi e
  item := by
    intro X hP hw hK hc i pins s σ H E I hf st hg
    subst hP hw hK
    obtain ⟨hd, hi⟩ := hg
    obtain ⟨f0, f1, f2, f3, f4, f5⟩ := hf it (by simp)
    obtain ⟨hs, hgd, hx, es', ep', hdt, hsz, ent⟩ := dtq_at I hd
    obtain ⟨rfl, rfl⟩ := dict_ep hod hdt
    obtain ⟨⟨k, b, v⟩, hkv⟩ : ∃ p, kvs[i]? = some p := ⟨kvs[i], List.getElem?_eq_getElem hi⟩
    obtain ⟨en, hen, hkey⟩ := ent i k b v hkv
    refine next_key_item st hgd hdt hsz hen fun h' st' sb => ?_
    have I1 : Inv X pins σ H { s with heap := h' } := I.turned (t' := s.toks) (fun b ob hb e => (sb.2 b hb).trans e) f0 f1 f3 f4 f5
    obtain ⟨oi, e, c, dd⟩ := id st'
    exact ⟨en.key, rfl, go_of (s := { s with heap := h' }) e c dd (by decide) ⟨.ref b, H, I1, hkey, ⟨rfl, k, b, v, hkv, rfl⟩, st', fun b hb => (hf b hb).1⟩⟩
  done := by
    intro X hP hw hK hc i pins s σ H E I hf st hg
    subst hP hw hK
    obtain ⟨hd, hi⟩ := hg
    obtain ⟨f0, f1, f2, f3, f4, f5⟩ := hf it (by simp)
    obtain ⟨hs, hgd, hx, es', ep', hdt, hsz, ent⟩ := dtq_at I hd
    obtain ⟨rfl, rfl⟩ := dict_ep hod hdt
    exact next_key_end (I.ok.hd hc) st hgd hdt hsz hi fun h' eb => ⟨rfl, I.turned (t' := s.toks) (fun b ob hb e => eb b ob hb e) f0 f1 f3 f4 f5⟩
  self := fun A i s Q E st h => by
    refine wpAny_pyIter_slot st.typeIs PySem.F.slot_dict_keyiterator_iter (wpAny_call_entry PySem.F.slot_dict_keyiterator_iter st.typeIs PySem.F.entry_dict_keyiterator_iter ?_ (PySem.F.args_dict_keyiterator_iter_1 _))
    show wpAny _ _ (ret (.ref it)) _ _ s
    exact wpAny_pure ⟨_, rfl, "dict_keyiterator", _, st.typeIs, PySem.F.slot_dict_keyiterator_next.lookup, h⟩
theorem dqt_key {K : PySem.W.Frag} {S : Hp} : ∀ {kvs : TKv} {ds : List (Da × Da)} {i : Nat} {d : Da}, DqT K S kvs ds → (ds.map (·.1))[i]? = some d → ∃ (k : List Int) (b : Addr) (v : V), kvs[i]? = some (k, b, v) ∧ Dq K S (.ref b) d
  | [], _, i, d, h, e => by cases h; simp at e
  | (k, b, v) :: kvs, _, 0, d, h, e => by
    cases h with
    | cons h0 h1 h2 =>
      simp at e
      subst e
      have all : ∀ l : List Int, DqAll K S (l.map V.int) (l.map PyData.int) := fun l => by
        induction l with
        | nil => exact .nil
        | cons x l ih => exact .cons (.int x) ih
      exact ⟨k, b, v, rfl, .tup h0 (all k)⟩
  | (k, b, v) :: kvs, _, i + 1, d, h, e => by
    cases h with
    | cons h0 h1 h2 =>
      obtain ⟨k', b', v', e1, e2⟩ := dqt_key (i := i) h2 (by simpa using e)
      exact ⟨k', b', v', by simpa using e1, e2⟩
theorem dk_nn {K : PySem.W.Frag} {S : Hp} {kvs : List (L2.Key × V)} {e : Da} {r : List (Da × Da)} : DqK K S kvs ((PyData.none, e) :: r) → False := by
  generalize h : (PyData.none, e) :: r = l
  intro q
  cases q with
  | nil => cases h
  | @cons k v vs d ds h1 h2 =>
    injection h with a b
    injection a with a1 a2
    cases k <;> cases a1
theorem dqt_lenK {K : PySem.W.Frag} {S : Hp} : ∀ {kvs : TKv} {ds : List (Da × Da)}, DqT K S kvs ds → kvs.length = ds.length
  | [], _, h => by cases h; rfl
  | _ :: _, _, h => by cases h with | cons h0 h1 h2 => rw [List.length_cons, List.length_cons, dqt_lenK h2]
theorem walks_dt {K : PySem.W.Frag} {B : Br} {S : Hp} {a : Addr} {a' : DAo} {kvs : TKv} {ds : List (Da × Da)} (h : S a = some (dtO a' kvs)) (hd : DqT K S kvs ds) : Walks K B (Itq a a' kvs) S (ds.map (·.1)) := fun S1 H1 e w => by
  have h1 : H1 a = some (dtO a' kvs) := w.sub _ _ (e _ _ h)
  refine ⟨fun i d hi => ?_, fun i hi => ⟨h1, by rw [dqt_lenK hd]; simpa using hi⟩⟩
  obtain ⟨k, b, v, hv, dv⟩ := dqt_key hd hi
  refine ⟨⟨h1, (List.getElem?_eq_some_iff.mp hv).1⟩, fun x H2 y => ?_⟩
  obtain ⟨rfl, k', b', v', y1, rfl⟩ := y
  rw [hv] at y1
  cases y1
  exact ⟨S1, fun _ _ r => ⟨r, .refl⟩, fun _ _ _ z => z, Dq.up e _ _ dv⟩
/-- a list, a tuple, a text, or a dict whose keys are tuples -/
theorem pi_anyT {tg l : Expr} {tl : TE} (hl : PE X l tl) : PI X tg l (fun σ H R => tl σ H fun x H1 => (∃ a, x = .ref a ∧ ((((∃ xs, SqL X.K H1 a xs) ∧ R (Itl X.K a) H1) ∨ ((∃ xs, SqT X.K H1 a xs) ∧ R (Itt X.K a) H1)) ∨ ∃ a' kvs, H1 a = some (dtO a' kvs) ∧ R (Itq a a' kvs) H1)) ∨ ∃ z, x = .str z ∧ R (Its z) H1) := by
  refine ⟨fun pins s σ H R I h => ?_⟩
  refine thn (hl.run pins s σ H _ I h) fun v s1 ⟨x, H1, I1, r1, q1⟩ => ?_
  rcases q1 with ⟨a, rfl, (⟨⟨xs, hq⟩, q⟩ | ⟨⟨xs, hq⟩, q⟩) | ⟨a', kvs, hd, q⟩⟩ | ⟨z, rfl, q⟩
  · cases r1
    obtain ⟨its, rv, p, hz⟩ := I1.list hq
    refine wpAny_pyIter_list p.isList ?_
    refine ⟨s1.heap.objs.size, [s1.heap.objs.size], _, _, H1, rfl, I1.kept (t' := s1.toks) fun b o e => Heap.get?_push_of_some _ e, turn_list a _, ⟨_, Heap.get?_push_size _ rfl, rfl, rfl⟩, fun b hb => ?_, q⟩
    have e : b = s1.heap.objs.size := by simpa using hb
    subst e
    exact I1.fpOk (Nat.le_refl _) (I1.hok.fresh (Nat.le_refl _))
  · cases r1
    obtain ⟨its, rv, p, hz⟩ := I1.tuple hq
    refine wpAny_pyIter_tuple (show s1.heap.IsTuple a its.toArray from p) ?_
    refine ⟨s1.heap.objs.size, [s1.heap.objs.size], _, _, H1, rfl, I1.kept (t' := s1.toks) fun b o e => Heap.get?_push_of_some _ e, turn_tuple a _, ⟨_, Heap.get?_push_size _ rfl, rfl, rfl⟩, fun b hb => ?_, q⟩
    have e : b = s1.heap.objs.size := by simpa using hb
    subst e
    exact I1.fpOk (Nat.le_refl _) (I1.hok.fresh (Nat.le_refl _))
  · cases r1
    obtain ⟨hs, hgd, hx, es, ep, hdt, hsz, ent⟩ := dtq_at I1 hd
    refine iter_keys hs hgd hx hdt (pi_one (tk := s1.toks) I1 _ (turn_dt _ hdt) ⟨_, Heap.get?_push_size _ rfl, rfl, ?_⟩ q)
    rw [hsz] <;> rfl
  · obtain ⟨t, rfl⟩ := r1
    cases ha : z.cps.all (· < 128)
    · exact wpAny_pyIter_wide ha (pi_one (tk := s1.toks) I1 _ (turn_str _ z t "str_iterator" (.inr rfl)) ⟨_, Heap.get?_push_size _ rfl, rfl, rfl⟩ q)
    · exact wpAny_pyIter_ascii ha (pi_one (tk := s1.toks) I1 _ (turn_str _ z t "str_ascii_iterator" (.inl rfl)) ⟨_, Heap.get?_push_size _ rfl, rfl, rfl⟩ q)
def mItems (m : MP) : ML := fun env Q => m env fun d e => match d with
  | .list ds => Q ds e
  | .tuple ds => Q ds e
  | .str z => Q (sgD z) e
  | .dict ((.none, .none) :: ds) => Q (ds.map (·.1)) e
  | _ => False
theorem di_any {tg l : Expr} {m : MP} (h : DS Z X l m) : DI Z X tg l (mItems m) := PI.wk (pi_anyT h) fun σ H R ⟨B, env, S, Q0, hR, hm, k⟩ => ⟨B, env, S, _, hR, hm, fun d e1 q v S1 H1 st R1 dv => by
  split at q
  · cases dv with
    | lst ha da => exact .inl ⟨_, rfl, .inl (.inl ⟨⟨_, .inl (Rd.up R1.w.sub ha)⟩, k _ e1 q S1 H1 _ st R1 (walks_list ha da)⟩)⟩
  · cases dv with
    | tup ha da =>
      have ha := ha.sq
      exact .inl ⟨_, rfl, .inl (.inr ⟨⟨_, SqT.up R1.w.sub ha⟩, k _ e1 q S1 H1 _ st R1 (walks_tup ha da)⟩)⟩
  · cases dv
    exact .inr ⟨_, rfl, k _ e1 q S1 H1 _ st R1 walks_str⟩
  · cases dv with
    | dk ha hd => exact (dk_nn hd).elim
    | dt ha hd => exact .inl ⟨_, rfl, .inr ⟨_, _, R1.w.sub _ _ ha, k _ e1 q S1 H1 _ st R1 (walks_dt ha hd)⟩⟩
  · exact q.elim⟩
def mRg1 (ma : ML) : ML := fun env Q => ma env fun ds e => match ds with
  | [.int b] => (-1000000 ≤ b ∧ b ≤ 1000000) ∧ Q (rgD 0 b) e
  | _ => False
def mRg2 (ma : ML) : ML := fun env Q => ma env fun ds e => match ds with
  | [.int a, .int b] => (-1000000 ≤ a ∧ a ≤ 1000000 ∧ -1000000 ≤ b ∧ b ≤ 1000000) ∧ Q (rgD a b) e
  | _ => False
theorem di_rg1 {tg a : Expr} {p pos : Pos} {ma : ML} (hg : Gl X "range") (hm : X.mg "range" = none) (ha : DPs Z X [a] ma) (hs : starEach [a] X.env = [(false, eval a X.env)] := by rfl) : DI Z X tg (.Call (.Name "range" p) [a] [] pos) (mRg1 ma) :=
  PI.wk (pi_range1 hg hm ha hs) fun σ H R ⟨B, env, S, Q0, hR, hm, k⟩ => ⟨B, env, S, _, hR, hm, fun ds e1 q vs S1 H1 st R1 al => by
    split at q
    · obtain ⟨v, r, rfl, p1, r2⟩ := al
      cases (show r = [] from r2)
      cases p1.int
      rename_i b
      refine ⟨_, rfl, by omega, by omega, k _ e1 q.2 S1 H1 _ st R1 ?_⟩
      have w := walks_range (K := X.K) (B := B) (S := S1) (a := 0) (b := b)
      rw [Int.sub_zero] at w
      exact w
    · exact q.elim⟩
theorem di_rg2 {tg a b : Expr} {p pos : Pos} {ma : ML} (hg : Gl X "range") (hm : X.mg "range" = none) (ha : DPs Z X [a, b] ma) (hs : starEach [a, b] X.env = [(false, eval a X.env), (false, eval b X.env)] := by rfl) (hs2 : starEach [b] X.env = [(false, eval b X.env)] := by rfl) : DI Z X tg (.Call (.Name "range" p) [a, b] [] pos) (mRg2 ma) :=
  PI.wk (pi_range2 hg hm ha hs hs2) fun σ H R ⟨B, env, S, Q0, hR, hm, k⟩ => ⟨B, env, S, _, hR, hm, fun ds e1 q vs S1 H1 st R1 al => by
    split at q
    · obtain ⟨v, r, rfl, p1, r2⟩ := al
      obtain ⟨v2, r', rfl, p2, r3⟩ := r2
      cases (show r' = [] from r3)
      cases p1.int; cases p2.int
      exact ⟨_, _, rfl, ⟨by omega, by omega, by omega, by omega⟩, k _ e1 q.2 S1 H1 _ st R1 walks_range⟩
    · exact q.elim⟩
/-- a new pair, yielded -/
theorem yield_pair {K : PySem.W.Frag} {B : Br} {S1 H1 : Hp} {T : Addr} {x y : V} {c d : Da} (w : Wd B S1 H1) (hT : H1 T = none) (hx : Dq K S1 x c) (hy : Dq K S1 y d) : ∃ S2, (∀ env σ, Rel K B env S1 σ H1 → Rel K B env S2 σ (upd H1 T (.tup [x, y])) ∧ Stq B σ env S1 H1 env S2 (upd H1 T (.tup [x, y]))) ∧ (∀ D o, H1 D = some o → S1 D = none → S2 D = none) ∧ Dq K S2 (.ref T) (.dict [(.bool true, c), (.bool true, d)]) := by
  refine ⟨upd S1 T (.tup [x, y]), fun env σ r => ⟨r.allocS hT, stq_allocS w hT⟩, fun D o e s => ?_, .pr (.inl (.inl upd_same)) (DqP.up (upd_sub (w.snone hT)) _ _ (.cons hx (.cons hy .nil)))⟩
  rw [upd_ne (ne_of_none e hT)]
  exact s
def enD : Nat → List Da → List Da
  | _, [] => []
  | k, d :: ds => .dict [(.bool true, .int k), (.bool true, d)] :: enD (k + 1) ds
theorem enD_get : ∀ {ds : List Da} {k i : Nat} {d : Da}, (enD k ds)[i]? = some d → ∃ e, ds[i]? = some e ∧ d = .dict [(.bool true, .int (k + i : Nat)), (.bool true, e)]
  | [], _, _, _, h => by simp [enD] at h
  | e :: ds, k, 0, d, h => by simp [enD] at h; exact ⟨e, rfl, h.symm⟩
  | e :: ds, k, i + 1, d, h => by
    obtain ⟨e', a, b⟩ := enD_get (k := k + 1) (i := i) (by simpa [enD] using h)
    exact ⟨e', by simpa using a, by rw [b, show k + 1 + i = k + (i + 1) by omega]⟩
theorem enD_len : ∀ (k : Nat) (ds : List Da), (enD k ds).length = ds.length
  | _, [] => rfl
  | k, d :: ds => by unfold enD; rw [List.length_cons, List.length_cons, enD_len]
/-! ### targets -/
abbrev MG := Da → En → (En → Prop) → Prop
abbrev MGs := List Da → En → (En → Prop) → Prop
def Off (is : List Nat) (σ σ' : L2.St) : Prop := σ'.length = σ.length ∧ ∀ j : Nat, j ∉ is → σ'[j]? = σ[j]?
def tG (Z : ZX) (K : PySem.W.Frag) (is : List Nat) (g : MG) : TG := fun v σ H Q => ∃ B : Bs Z, ∃ env S d, ∃ Q0 : En → Prop, Rel K B env S σ H ∧ Dq K S v d ∧ g d env Q0 ∧ ∀ env', Q0 env' → ∀ σ', Rel K B env' S σ' H → Off is σ σ' → (∀ (i : Nat) (b : Bool) (d : Da), env'[i]? = some (.own b d) → env[i]? = some (.own b d)) → Q σ' H
def tGs (Z : ZX) (K : PySem.W.Frag) (is : List Nat) (g : MGs) : TGs := fun vs σ H Q => ∃ B : Bs Z, ∃ env S ds, ∃ Q0 : En → Prop, Rel K B env S σ H ∧ DqAll K S vs ds ∧ g ds env Q0 ∧ ∀ env', Q0 env' → ∀ σ', Rel K B env' S σ' H → Off is σ σ' → (∀ (i : Nat) (b : Bool) (d : Da), env'[i]? = some (.own b d) → env[i]? = some (.own b d)) → Q σ' H
abbrev DG (Z : ZX) (X : Cx) (tg : Expr) (is : List Nat) (g : MG) : Prop := PG X tg (tG Z X.K is g)
abbrev DGs (Z : ZX) (X : Cx) (tgs : List Expr) (is : List Nat) (g : MGs) : Prop := PGs X tgs (tGs Z X.K is g)
theorem PG.wk {tg : Expr} {t t' : TG} (p : PG X tg t) (h : ∀ v σ H Q, t' v σ H Q → t v σ H Q) : PG X tg t' := ⟨fun pins s σ H v u Q I r h' => p.run pins s σ H v u Q I r (h v σ H Q h')⟩
theorem PGs.wk {tg : List Expr} {t t' : TGs} (p : PGs X tg t) (h : ∀ v σ H Q, t' v σ H Q → t v σ H Q) : PGs X tg t' := ⟨fun pins s σ H v u Q I r h' => p.run pins s σ H v u Q I r (h v σ H Q h')⟩
def mgName (i : Nat) : MG := fun d env Q => i < env.length ∧ Q (env.set i (.val d))
theorem dg_name {i : Nat} {x : Str} {pos : Pos} (hN : X.N.Nodup) (hi : X.N[i]? = some x := by rfl) (hx : Loc X.env.scope x := by first | exact Or.inl rfl | exact Or.inr rfl) (hf : X.fn x = true ∨ X.env.scope.names.lookup x = some .local := by first | exact .inl rfl | exact .inr rfl | assumption) : DG Z X (.Name x pos) [i] (mgName i) :=
  PG.wk (pg_name hN hi hx hf) fun v σ H Q ⟨B, env, S, d, Q0, R, hd, hm, k⟩ => k _ hm.2 _ (R.setV hd hm.1) ⟨by rw [List.length_set], fun j hj => List.getElem?_set_ne fun z => hj (by rw [z]; exact List.mem_singleton_self j)⟩ fun j b e h => by
    rcases getElem?_setp h with ⟨e2, e3⟩ | ⟨e2, e3⟩
    · cases e3
    · exact e3
def mgNil : MGs := fun ds env Q => ds = [] ∧ Q env
def mgCons (g : MG) (gs : MGs) : MGs := fun ds env Q => match ds with
  | d :: r => g d env fun e => gs r e Q
  | [] => False
theorem dgs_nil : DGs Z X [] [] mgNil := PGs.wk pgs_nil fun vs σ H Q ⟨B, env, S, ds, Q0, R, hd, hm, k⟩ => by
  obtain ⟨rfl, q⟩ := hm
  cases hd
  exact ⟨rfl, k _ q σ R ⟨rfl, fun _ _ => rfl⟩ fun _ _ _ h => h⟩
theorem dgs_cons {e : Expr} {es : List Expr} {is js : List Nat} {g : MG} {gs : MGs} (h1 : DG Z X e is g) (h2 : DGs Z X es js gs) (hs : (assignEach (e :: es) X.env).map (·.2) = assign e X.env :: (assignEach es X.env).map (·.2) := by rfl) : DGs Z X (e :: es) (is ++ js) (mgCons g gs) :=
  PGs.wk (pgs_cons h1 h2 hs) fun vs σ H Q ⟨B, env, S, ds, Q0, R, hd, hm, k⟩ => by
    cases hd with
    | nil => exact hm.elim
    | cons d1 d2 =>
      exact ⟨_, _, rfl, B, env, S, _, _, R, d1, hm, fun e1 q1 σ1 R1 o1 w1 => ⟨B, e1, S, _, _, R1, d2, q1, fun e2 q2 σ2 R2 o2 w2 => k e2 q2 σ2 R2 ⟨o2.1.trans o1.1, fun j hj => by
        rw [List.mem_append, not_or] at hj
        rw [o2.2 j hj.2, o1.2 j hj.1]⟩ fun i b d h => w1 i b d (w2 i b d h)⟩⟩
def mgTup (n : Nat) (gs : MGs) : MG := fun d env Q => match d with
  | .tuple ds => ds.length = n ∧ gs ds env Q
  | .dict ((.bool true, d) :: ds) => ds.length + 1 = n ∧ gs (d :: ds.map (·.2)) env Q
  | .list ds => ds.length = n ∧ gs ds env Q
  | _ => False
theorem pg_or {tg : Expr} {g1 g2 : TG} (h1 : PG X tg g1) (h2 : PG X tg g2) : PG X tg (fun v σ H Q => g1 v σ H Q ∨ g2 v σ H Q) :=
  ⟨fun pins s σ H v u Q I r h => h.elim (h1.run pins s σ H v u Q I r) (h2.run pins s σ H v u Q I r)⟩
theorem dqp_all {K : PySem.W.Frag} {S : Hp} : ∀ {ds : List (Da × Da)} {vs : List V}, DqP K S vs ds → DqAll K S vs (ds.map (·.2))
  | [], _, h => by cases h; exact .nil
  | (_, d) :: ds, _, h => by
    cases h with
    | cons h1 h2 => exact .cons h1 (dqp_all h2)
theorem dg_tup {es : List Expr} {k : Nat} {pos : Pos} {is : List Nat} {gs : MGs} {n : Nat} (hc : X.calm = true) (h : DGs Z X es is gs) (hn : (assignEach es X.env).length = n := by rfl) (hst : (assignEach es X.env).findIdx? (·.1) = none := by rfl) : DG Z X (.Tuple es k pos) is (mgTup n gs) :=
  PG.wk (pg_or (pg_tup hc h hn hst) (pg_lst hc h hn hst)) fun v σ H Q ⟨B, env, S, d, Q0, R, hd, hm, k⟩ => by
    unfold mgTup at hm
    split at hm
    · cases hd with
      | tup hs ha => exact .inl ⟨_, _, rfl, SqT.up R.w.sub hs.sq, by rw [ha.length]; exact hm.1, B, env, S, _, Q0, R, ha, hm.2, k⟩
    · cases hd with
      | dk _ z => exact nomatch (show true = false from tm_dk z)
      | pr hs ha =>
        have ha := dqp_all ha
        exact .inl ⟨_, _, rfl, SqT.up R.w.sub hs, by rw [ha.length, List.length_map]; exact hm.1, B, env, S, _, Q0, R, ha, hm.2, k⟩
    · cases hd with
      | lst hs ha => exact .inr ⟨_, _, rfl, .inl (Rd.up R.w.sub hs), by rw [ha.length]; exact hm.1, B, env, S, _, Q0, R, ha, hm.2, k⟩
    · exact hm.elim
/-! ### list comprehensions -/
def hide1 : SV → SV
  | .own _ d => .own false d
  | r => r
def wipeE (env : En) : List Nat → En
  | [] => env.map hide1
  | v :: vs => (wipeE env vs).set v .no
theorem Rel.hide {K : PySem.W.Frag} {B : Br} {env : En} {S H : Hp} {σ : L2.St} (R : Rel K B env S σ H) : Rel K B (env.map hide1) S σ H := by
  have o : ∀ {i : Nat} {b : Bool} {d : Da}, (env.map hide1)[i]? = some (.own b d) → ∃ c, env[i]? = some (.own c d) := fun {i b d} h => by
    rw [List.getElem?_map] at h
    cases e : env[i]? with
    | none => rw [e] at h; cases h
    | some sv =>
      rw [e] at h
      cases sv <;> cases h
      exact ⟨_, rfl⟩
  have ob : ∀ {i : Nat} {d : Da}, (env.map hide1)[i]? = some (.bor d) → env[i]? = some (.bor d) := fun {i d} h => by
    rw [List.getElem?_map] at h
    cases e : env[i]? with
    | none => rw [e] at h; cases h
    | some sv =>
      rw [e] at h
      cases sv <;> cases h
      rfl
  refine ⟨R.w, by rw [List.length_map]; exact R.len, fun i d h => ?_, fun i h => ?_, fun i b d h => ?_, fun i j b c d e p h1 h2 h3 h4 => ?_, fun i d h => R.bor i d (ob h), fun i j b d e p h1 h2 h3 h4 => ?_, R.binj⟩
  · rw [List.getElem?_map] at h
    cases e : env[i]? with
    | none => rw [e] at h; cases h
    | some sv =>
      rw [e] at h
      cases sv <;> cases h
      exact R.slot i d e
  · rw [List.getElem?_map] at h
    cases e : env[i]? with
    | none => rw [e] at h; cases h
    | some sv =>
      rw [e] at h
      cases sv <;> cases h
      exact R.dl i e
  · obtain ⟨c, e⟩ := o h
    exact R.own i c d e
  · obtain ⟨b', e1⟩ := o h1
    obtain ⟨c', e2⟩ := o h2
    exact R.dist i j b' c' d e p e1 e2 h3 h4
  · obtain ⟨b', e1⟩ := o h1
    exact R.obd i j b' d e p e1 (ob h2) h3 h4
theorem Rel.wipe {K : PySem.W.Frag} {B : Br} {env : En} {S H : Hp} {σ : L2.St} (R : Rel K B env S σ H) : ∀ vs : List Nat, Rel K B (wipeE env vs) S (wipe σ vs) H
  | [] => R.hide
  | v :: vs => by
    have ih := Rel.wipe R vs
    show Rel K B ((wipeE env vs).set v .no) S ((L2.wipe σ vs).set v none) H
    by_cases h : v < (wipeE env vs).length
    · exact ih.setN h
    · rw [List.set_eq_of_length_le (by omega), List.set_eq_of_length_le (by rw [← ih.len]; omega)]
      exact ih
theorem wipe_get (σ : L2.St) : ∀ (vs : List Nat) (j : Nat), (L2.wipe σ vs)[j]? = if j ∈ vs then (if j < σ.length then some none else none) else σ[j]?
  | [], j => by simp [L2.wipe]
  | v :: vs, j => by
    unfold L2.wipe
    by_cases e : v = j
    · subst e
      by_cases h : v < σ.length
      · rw [List.getElem?_set_self (by rw [wipe_length]; exact h)]; simp [h]
      · rw [List.getElem?_eq_none (by rw [List.length_set, wipe_length]; omega)]; simp [h]
    · rw [List.getElem?_set_ne e, wipe_get σ vs j]
      have : (j ∈ v :: vs) ↔ j ∈ vs := by simp [Ne.symm e]
      simp only [this]
theorem wipe_off {σ σ2 : L2.St} {vs is : List Nat} (h : Off is (wipe σ vs) σ2) (hi : ∀ i ∈ is, i ∈ vs) : wipe σ2 vs = wipe σ vs := by
  apply List.ext_getElem?
  intro j
  have hl : σ2.length = σ.length := by rw [h.1, wipe_length]
  rw [wipe_get, wipe_get, hl]
  by_cases hj : j ∈ vs
  · rw [if_pos hj, if_pos hj]
  · rw [if_neg hj, if_neg hj, h.2 j (fun z => hj (hi j z)), wipe_get, if_neg hj]
def lcGo (env : En) (g : MG) (mt : MT) (me : ME) : List Da → List Da → (List Da → Prop) → Prop
  | [], acc, Q => Q acc
  | d :: ds, acc, Q => g d env fun e2 => mt e2 fun b e3 => if b = true then me e3 fun r _ => (match r with
      | .val x => lcGo env g mt me ds (acc ++ [x]) Q
      | .own _ x => lcGo env g mt me ds (acc ++ [x]) Q
      | _ => False) else lcGo env g mt me ds acc Q
def noOwn (env : En) (vs : List Nat) : Prop := ∀ i ∈ vs, match env[i]? with
  | some (.own _ _) => False
  | _ => True
def mLc (vs : List Nat) (mi : ML) (g : MG) (mt : MT) (me : ME) : ME := fun env Q => mi env fun ds e1 => (ds.length ≤ 1000000 ∧ noOwn e1 vs) ∧ lcGo (wipeE e1 vs) g mt me ds [] fun acc => Q (.own true (.list acc)) e1
def mYes : MT := fun env Q => Q true env
abbrev DTs (Z : ZX) (X : Cx) (ifs : List Expr) (m : MT) : Prop := PTs X ifs (tT Z X.K m)
theorem PTs.wk {ifs : List Expr} {t t' : TT} (p : PTs X ifs t) (h : ∀ σ H Q, t' σ H Q → t σ H Q) : PTs X ifs t' := ⟨fun pins s σ H Q I h' => p.run pins s σ H Q I (h σ H Q h')⟩
theorem dts_nil : DTs Z X [] mYes := PTs.wk pts_nil fun σ H Q ⟨B, env, S, Q0, R, h, k⟩ => k _ _ h S H .refl R
theorem dts_one {c : Expr} {m : MT} (h : DT Z X c m) : DTs Z X [c] m := pts_one h
/-- an object that no slot owns is changed -/
theorem Rel.other {K : PySem.W.Frag} {B : Br} {env : En} {S H : Hp} {σ : L2.St} {D : Addr} {o : HO} (R : Rel K B env S σ H) (hB : B.H D = none) (hS : S D = none) (hn : ∀ (i : Nat) (sv : SV), env[i]? = some sv → OB sv → σ[i]? ≠ some (some (.ref D))) : Rel K B env S σ (upd H D o) := by
  have nfp : ¬ FP B D := R.w.nfp hB
  have w : Wd B S (upd H D o) := by
    refine ⟨fun a x e => ?_, R.w.bS, fun a x f e => ?_, R.w.bN, fun q l e => ?_⟩
    · have q : a ≠ D := fun z => by subst z; rw [hS] at e; cases e
      rw [upd_ne q]; exact R.w.sub a x e
    · have q : a ≠ D := fun z => by subst z; rw [hB] at e; cases e
      rw [upd_ne q]; exact R.w.bH a x f e
    · obtain ⟨d1, d2⟩ := R.w.deal q l e
      exact ⟨d1.up (upd_ne fun z => nfp ⟨q, l, e, .inl z.symm⟩) (upd_ne fun z => nfp ⟨q, l, e, .inr z.symm⟩), d2⟩
  refine ⟨w, R.len, R.slot, R.dl, fun i b d h => ?_, R.dist, fun i d h => ?_, R.obd, R.binj⟩
  · obtain ⟨p, a, b', c, o', d2, d3⟩ := R.own i b d h
    have nq : p ≠ D := fun z => by subst z; exact hn i _ h trivial a
    exact ⟨p, a, b', c, o', by rw [upd_ne nq]; exact d2, d3⟩
  · obtain ⟨p, q, a, b', c, o', d2, d3⟩ := R.bor i d h
    have nq : p ≠ D := fun z => by subst z; exact hn i _ h trivial a
    exact ⟨p, q, a, b', c, o', by rw [upd_ne nq]; exact d2, d3⟩
theorem wipeE_own {env : En} : ∀ {vs : List Nat} {i : Nat} {b : Bool} {d : Da}, (wipeE env vs)[i]? = some (.own b d) → b = false
  | [], i, b, d, h => by
    unfold wipeE at h
    rw [List.getElem?_map] at h
    cases e : env[i]? with
    | none => rw [e] at h; cases h
    | some sv =>
      rw [e] at h
      cases sv <;> cases h
      rfl
  | v :: vs, i, b, d, h => by
    unfold wipeE at h
    rcases getElem?_setp h with ⟨e2, e3⟩ | ⟨e2, e3⟩
    · cases e3
    · exact wipeE_own e3
/-- what is kept through a comprehension's turns -/
structure LcI (K : PySem.W.Frag) (B : Br) (e1 : En) (S1 H1 : Hp) (σ : L2.St) (D : Addr) (acc : List Da) (S' H' : Hp) : Prop where
  r1 : Rel K B e1 S' σ H'
  up : ∀ a o, S1 a = some o → S' a = some o
  fr : ∀ a o, ¬ FP B a → H1 a = some o → H' a = some o
  fz : ∀ a o, ¬ FP B a → H1 a = some o → S1 a = none → S' a = none
  dn : S' D = none
  dd : ∃ us, H' D = some (.lst us) ∧ DqAll K S' us acc
/-- nothing is frozen -/
def Nf (B : Br) (S H S' : Hp) : Prop := ∀ a o, ¬ FP B a → H a = some o → S a = none → S' a = none
theorem LcI.go {K : PySem.W.Frag} {B : Br} {e1 : En} {S1 H1 : Hp} {σ : L2.St} {D : Addr} {acc : List Da} {S' H' S2 H2 : Hp} (I : LcI K B e1 S1 H1 σ D acc S' H') (hBD : B.H D = none) (w : Wd B S2 H2) (st : Stp B S' H' S2 H2) (nf : Nf B S' H' S2) : LcI K B e1 S1 H1 σ D acc S2 H2 := by
  obtain ⟨us, hu, du⟩ := I.dd
  have nD : ¬ FP B D := w.nfp hBD
  refine ⟨I.r1.stp w st fun i sv p a ob c => ?_, fun a o e => st.1 a o (I.up a o e), fun a o f e => st.2 a o f (I.fr a o f e), fun a o f e n => nf a o f (I.fr a o f e) (I.fz a o f e n), nf D _ nD hu I.dn, us, st.2 _ _ nD hu, DqAll.up st.1 _ _ du⟩
  obtain ⟨p', d, a', b', c', _, d2, _⟩ := I.r1.ob a ob
  rw [c] at a'; cases a'
  exact nf p _ (w.nfp b') d2 c'
theorem nf_of {B : Br} {σ : L2.St} {env env' : En} {S H S' H' : Hp} (h : ∀ (i : Nat) (d : Da), env[i]? ≠ some (.own true d)) (st : Stq B σ env S H env' S' H') : Nf B S H S' := fun a o f e n => by
  rcases st.fz a o f e n with z | ⟨i, d, z, _⟩
  · exact z
  · exact absurd z (h i d)
theorem lc_run {own : List (Str × Nat)} {is : List Nat} {mi : ML} {g : MG} {mt : MT} {me : ME} (his : ∀ i ∈ is, i ∈ own.map (·.2)) : ∀ σ H Q, tE Z X.K (mLc (own.map (·.2)) mi g mt me) σ H Q → tLc (tI Z X.K mi) (tG Z X.K is g) (tT Z X.K mt) (tE Z X.K me) (own.map (·.2)) σ H Q := fun σ H Q ⟨B, env, S, Q0, R, hm, k⟩ => by
  refine ⟨B, env, S, _, R, hm, fun ds e1 q1 S1 H1 J st1 R1 wk => ?_⟩
  obtain ⟨⟨hlen, no⟩, q⟩ := q1
  intro D hD
  have hBD := R1.w.bnone hD
  have hSD := R1.w.snone hD
  have hnD : ∀ (i : Nat) (sv : SV), e1[i]? = some sv → OB sv → σ[i]? ≠ some (some (.ref D)) := R1.fresh hD
  have nD : ¬ FP B D := R1.w.nfp hBD
  refine ⟨fun i m H' => m = ds.length - i ∧ i ≤ ds.length ∧ ∃ acc S', acc.length ≤ i ∧ LcI X.K B e1 S1 H1 σ D acc S' H' ∧ lcGo (wipeE e1 (own.map (·.2))) g mt me (ds.drop i) acc fun acc => Q0 (.own true (.list acc)) e1,
    ⟨ds.length, rfl, Nat.zero_le _, [], S1, Nat.le_refl _, ⟨R1.alloc hD, fun _ _ z => z, fun a o _ z => upd_sub hD a o z, fun _ _ _ _ z => z, hSD, [], upd_same, .nil⟩, q⟩, ?_⟩
  rintro i m H' ⟨rfl, hil, acc, S', ha, I, go⟩
  by_cases hlt : i < ds.length
  · refine .inr ?_
    have hd : ds[i]? = some ds[i] := List.getElem?_eq_getElem hlt
    have ed : ds.drop i = ds[i] :: ds.drop (i + 1) := List.drop_eq_getElem_cons hlt
    rw [ed, lcGo] at go
    obtain ⟨wg, _⟩ := wk S' H' I.up I.r1.w
    obtain ⟨g1, g2⟩ := wg i _ hd
    refine ⟨g1, fun H'' => ∃ acc S'', acc.length ≤ i + 1 ∧ LcI X.K B e1 S1 H1 σ D acc S'' H'' ∧ lcGo (wipeE e1 (own.map (·.2))) g mt me (ds.drop (i + 1)) acc fun acc => Q0 (.own true (.list acc)) e1,
      fun H'' z => ⟨ds.length - (i + 1), by omega, rfl, hlt, z⟩, fun x H2 y => ?_⟩
    obtain ⟨S2, r2, kd, dx⟩ := g2 x H2 y
    have Rb : Rel X.K B (wipeE e1 (own.map (·.2))) S' (wipe σ (own.map (·.2))) H' := I.r1.wipe _
    obtain ⟨Rb2, stb2⟩ := r2 _ _ Rb
    have I2 := I.go hBD Rb2.w stb2.s fun a o _ e n => kd a o e n
    refine ⟨B, wipeE e1 (own.map (·.2)), S2, _, _, Rb2, dx, go, fun e2 q2 σ2 R2 off ow => ⟨wipe_off off his, ?_⟩⟩
    have n2 : ∀ (i : Nat) (d : Da), e2[i]? ≠ some (.own true d) := fun i d z => by cases wipeE_own (ow i true d z)
    refine ⟨B, e2, S2, _, R2, q2, fun b e3 q3 S3 H3 st3 R3 => ?_⟩
    have I3 := I2.go hBD R3.w st3.s (nf_of n2 st3)
    have n3 : ∀ (i : Nat) (d : Da), e3[i]? ≠ some (.own true d) := fun i d z => n2 i d (st3.ow i _ z trivial)
    cases b with
    | false =>
      rw [if_neg Bool.false_ne_true] at q3
      refine iteF ?_
      exact ⟨acc, S3, by omega, I3, q3⟩
    | true =>
      rw [if_pos rfl] at q3
      refine iteT ?_
      refine ⟨B, e3, S3, _, R3, q3, fun r e4 q4 v S4 H4 st4 R4 ir => ?_⟩
      have fin : ∀ {S5 : Hp} {y : Da}, Stq B σ2 e3 S3 H3 e4 S5 H4 → Rel X.K B e4 S5 σ2 H4 → Dq X.K S5 v y → lcGo (wipeE e1 (own.map (·.2))) g mt me (ds.drop (i + 1)) (acc ++ [y]) (fun acc => Q0 (.own true (.list acc)) e1) →
          ∃ acc_1, H4 D = some (.lst acc_1) ∧ acc_1.length < sizeLine ∧ ∃ acc S'', acc.length ≤ i + 1 ∧ LcI X.K B e1 S1 H1 σ D acc S'' (upd H4 D (.lst (acc_1 ++ [v]))) ∧ lcGo (wipeE e1 (own.map (·.2))) g mt me (ds.drop (i + 1)) acc fun acc => Q0 (.own true (.list acc)) e1 := fun {S5 y} st5 R5 dy g5 => by
        have I5 := I3.go hBD R5.w st5.s (nf_of n3 st5)
        obtain ⟨us, hu, du⟩ := I5.dd
        refine ⟨us, hu, by rw [du.length]; exact lt_sz (by omega), acc ++ [y], S5, by rw [List.length_append]; exact Nat.succ_le_succ ha, ⟨I5.r1.other hBD I5.dn hnD, I5.up, fun a o f e => ?_, I5.fz, I5.dn, us ++ [v], upd_same, du.app (.cons dy .nil)⟩, g5⟩
        rw [upd_ne (ne_of_none e hD)]
        exact I5.fr a o f e
      cases r with
      | val y => exact fin st4 R4 ir q4
      | own bb y =>
        obtain ⟨S5, st5, R5, dp⟩ := IsR.frz st4 R4 ir
        exact fin st5 R5 dp q4
      | no => exact ir.elim
      | deal => exact q4.elim
      | bor d => exact q4.elim
      | res b d ids => exact q4.elim
  · have e : i = ds.length := by omega
    subst e
    rw [List.drop_length, lcGo] at go
    obtain ⟨us, hu, du⟩ := I.dd
    refine .inl ⟨(wk S' H' I.up I.r1.w).2 _ (Nat.le_refl _), ?_⟩
    have st : Stq B σ e1 S1 H1 e1 S' H' := ⟨⟨I.up, I.fr⟩, fun _ _ z _ => z, fun a o f e n => .inl (I.fz a o f e n)⟩
    refine k _ e1 go (.ref D) S' H' (st1.trans st) I.r1 (IsR.back R.w st1 ?_)
    exact ⟨rfl, D, rfl, ⟨hBD, I.dn, _, hu, .lst du⟩, hD, hnD⟩
theorem de_lc {elt tg iter : Expr} {ifs : List Expr} {scope : Scope} {own : List (Str × Nat)} {is : List Nat} {pos : Pos} {mi : ML} {g : MG} {mt : MT} {me : ME} (hc : X.calm = true) (hN : X.N.Nodup) (hi : DI Z X tg iter mi) (ok : BlkOk X.N X.env.scope scope own)
    (hg : ∀ (s : Shared) (H : Hp) (C : Addr) (cl : List (Str × Addr)) (fp : List Addr), DG Z (X.blk s H scope (compEnvC scope cl C X.env) fp) tg is g)
    (ht : ∀ (s : Shared) (H : Hp) (C : Addr) (cl : List (Str × Addr)) (fp : List Addr), DTs Z (X.blk s H scope (compEnvC scope cl C X.env) fp) ifs mt)
    (he : ∀ (s : Shared) (H : Hp) (C : Addr) (cl : List (Str × Addr)) (fp : List Addr), DE Z (X.blk s H scope (compEnvC scope cl C X.env) fp) elt me)
    (his : ∀ i ∈ is, i ∈ own.map (·.2) := by decide) (hs : ∀ x, foldedSetIterable iter X.env x = pure x := by intro _; rfl) :
    DE Z X (.ListComp elt [⟨tg, iter, ifs, 0⟩] scope pos) (mLc (own.map (·.2)) mi g mt me) := (pe_lc (wi := tI Z X.K mi) (g := tG Z X.K is g) (tt := tT Z X.K mt) (te := tE Z X.K me) hc hN hi ok hg ht he hs).wk (lc_run his)
end
end Pq
set_option Elab.async false
set_option linter.all false
set_option maxRecDepth 100000
set_option maxHeartbeats 4000000
namespace Pq
open PySem PySem.Spec PyProof.Rows L2
/-! ### a def's promise where no repr is under way: what repr(x) asks -/
/-- room for k calls, and no repr under way -/
structure RmG (k : Nat) (A : Around) : Prop where
  rm : Room k A
  gd : A.guards = some []
theorem RmG.mono {j k : Nat} {A : Around} (r : RmG k A) (h : j ≤ k) : RmG j A := ⟨r.rm.mono h, r.gd⟩
theorem RmG.u1 {k : Nat} {A : Around} (r : RmG k A) : A.units + 1 < cLine := by have := r.rm.un; omega
theorem RmG.units {k : Nat} {A : Around} (r : RmG k A) : A.units + 64 < cLine := r.rm.units
structure FnG (P : Program) (w : World) (K : PySem.W.Frag) (mg : Str → Option Value) (base : Heap) (CX : CXT) (k : Nat) (f : Addr) (fd : FuncData) (ps : List Str) (sp : Sp) : Prop where
  len : ∀ (vs : List V) (H : Hp) (Q : VK) (E : XK), sp vs H Q E → vs.length = ps.length
  run : ∀ (A : Around) (outs : List Env) (sh : Shared) (H : Hp) (ags : Args) (us : List Value) (vs : List V) (Q : VK) (E : XK), RmG k A → Env0 P w K mg base A outs sh H → BindsTo sh fd ags (ps.zip us) → Vals vs us → sp vs H Q E →
    codeAny (model P w) A (.call (.ref f) ags) (CR CX outs P w H sh Q E) sh
theorem fn_g {CX : CXT} {P : Program} {w : World} {K : PySem.W.Frag} {mg : Str → Option Value} {base : Heap} {k : Nat} {f : Addr} {fd : FuncData} {ps : List Str} {sp : Sp} (F : FnOk P w K mg base CX k f fd ps sp) : FnG P w K mg base CX k f fd ps sp :=
  ⟨F.len, fun A outs sh H ags us vs Q E rg => F.run A outs sh H ags us vs Q E rg.rm⟩
theorem FnG.mono {CX : CXT} {P : Program} {w : World} {K : PySem.W.Frag} {mg : Str → Option Value} {base : Heap} {j k : Nat} {f : Addr} {fd : FuncData} {ps : List Str} {sp : Sp} (F : FnG P w K mg base CX j f fd ps sp) (h : j ≤ k) : FnG P w K mg base CX k f fd ps sp :=
  ⟨F.len, fun A outs sh H ags us vs Q E rg => F.run A outs sh H ags us vs Q E (rg.mono h)⟩
/-- by its body -/
theorem fun_g {P : Program} {w : World} {K : PySem.W.Frag} {mg : Str → Option Value} {base : Heap} {x qual : Str} {st : Stmt} {f : Addr} {fd : FuncData} {N ps : List Str} {k : Nat} {sp : Sp} (Fu : Fun K x qual st f fd) (sc : FnScope N ps (defScope st)) (len : ∀ (vs : List V) (H : Hp) (Q : VK) (E : XK), sp vs H Q E → vs.length = ps.length)
    (body : ∀ (cdv : Value) (A : Around) (outs : List Env) (sh : Shared) (H : Hp) (vs : List V) (Q : VK) (E : XK), RmG k (A.deeper (envOfC qual (defScope st) sh.heap.objs.size f cdv)) → sp vs H Q E →
      ∃ t, PSs (cxOf CX0 P w K mg base N qual (defScope st) f cdv A outs sh H E).nox (defBody st) t ∧ t { nx := fun _ H' => Q .non H', rt := Q } (L2.start N vs) H) : FnG P w K mg base CX0 (k + 1) f fd ps sp := by
  obtain ⟨oc, od, kV, dc, pm, an, cdv, ct, sl, rfl, look, code⟩ := Fu.ex
  refine ⟨len, fun A outs sh H ags us vs Q E rg env0 bnd rel hyp => ?_⟩
  have lenV := len _ _ _ _ hyp
  have kin : K.In sh.heap := env0.mod.kin.keeps fun b o e => (env0.bs b o e).1
  have noLim : sh.heap.NoLimit := env0.mod.nolimit.keeps fun b o e => (env0.bs b o e).1
  have kinds : ∀ y ∈ ps.zip us, (defScope st).names.lookup y.1 = some .local ∨ ((defScope st).names.lookup y.1 = some .cell ∧ ((cellsFrom (sh.heap.objs.size + 1) (defScope st).names []).lookup y.1).isSome = true) := by
    rintro ⟨nm, val⟩ hy
    rcases sc.par nm (List.of_mem_zip hy).1 with z | z
    · exact Or.inl z
    · exact Or.inr ⟨z, PySem.W.cellsFrom_some _ _ _ (Or.inl z)⟩
  refine codeAny_call_function rg.rm.depth (kin _ _ look) rfl sc.co sc.gen rfl (PySem.W.codeRec_of kin code) (bnd _ _ _ _ ?_)
  refine wpAny_newFunctionEnv_cells sc.kind kinds fun env eqn s2 step => ?_
  subst eqn
  refine ⟨noLim.keeps step.toInCall.keep, codeAny_func ?_⟩
  obtain ⟨t, walk, holds⟩ := body cdv A outs sh H vs Q E ⟨rg.rm.deeper _, rg.gd⟩ hyp
  have inv : Inv (cxOf CX0 P w K mg base N qual (defScope st) f cdv A outs sh H E) [] (L2.start N vs) H s2 := inv_start sc rg.rm.hd env0 lenV rel step
  refine wpAny_mono (walk.nox.run [] s2 (L2.start N vs) H _ inv holds) (fun flow s3 done => ?_) fun e s3 done => done
  have leave : ∀ {σ3 : L2.St} {H3 : Hp} {v : V} {u : Value}, Inv (cxOf CX0 P w K mg base N qual (defScope st) f cdv A outs sh H E) [] σ3 H3 s3 → RelV v u → Q v H3 → CE outs P w H sh Q u s3 := fun {σ3 H3 v u} I3 rv z => ⟨v, H3, I3.os, I3.bare, I3.base, I3.hok, rv, z⟩
  cases flow with
  | ret u =>
    obtain ⟨v, σ3, H3, I3, rv, z⟩ := done
    exact leave I3 rv z
  | next =>
    obtain ⟨σ3, H3, I3, z⟩ := done
    exact leave (v := .non) (u := .none) I3 rfl z
  | brk =>
    obtain ⟨_, _, _, z⟩ := done
    exact z.elim
  | cont =>
    obtain ⟨_, _, _, z⟩ := done
    exact z.elim
section
variable {X : Cx}
/-- f(e, ..) -/
theorem pe_callG {k : Nat} {f : Addr} {fd : FuncData} {ps : List Str} {sp : Sp} {x : Str} {e : Expr} {es : List Expr} {p pos : Pos} {t : TA} (F : FnG X.prog X.w X.K X.mg X.base CX0 k f fd ps sp) (rg : RmG k X.A) (gl : Gl X x) (mx : X.mg x = some (.ref f)) (kp : PySem.W.keepIn X.K (.ref f) = true) (bd : Binds X.K fd ps [])
    (ar : PA X (e :: es) t) (hdb : (x == ("__debug__" : Str)) = false := by decide) (he : starEach (e :: es) X.env = (false, eval e X.env) :: starEach es X.env := by rfl) (hpl : (backTo pos (starEach es X.env)).any (·.1) = false := by rfl) :
    PE X (.Call (.Name x p) (e :: es) [] pos) (fun σ H Q => t σ H fun vs H1 => sp vs H1 Q E0) := by
  refine ⟨fun pins sh σ H Q I wish => wpAny_Call_Name_kw (ld_glob I gl mx ?_ hdb)⟩
  refine PySem.W.callWith_K (h₀ := X.base) I.ok.mod.kin kp (thn (ar.run pos pins sh σ H _ I wish) fun us s2 ⟨vs, H2, I2, rel, z⟩ => ⟨I2.kIn, ?_⟩) he hpl
  have lenU : (us ++ []).length = ps.length := by rw [List.append_nil, ← rel.length]; exact F.len _ _ _ _ z
  have bnd := bd s2 us I2.kIn lenU
  rw [List.append_nil] at bnd
  refine wpAny_call (codeAny_mono (F.run X.A X.stack s2 H2 ⟨us, []⟩ us vs Q E0 rg I2.env0 bnd rel z) fun res s3 done => ?_)
  cases res with
  | error e => exact pass0 pins σ H2 s2 e s3 I2 done
  | ok flow =>
    cases flow with
    | ret u => exact I2.after done
    | next => exact done.elim
    | brk => exact done.elim
    | cont => exact done.elim
end
/-! ### the head -/
theorem law_g {P : Program} {w : World} {K : PySem.W.Frag} {mg mb : Str → Option Value} {k : Nat} {fa a : Addr} {fd : FuncData} {x : Str} {sp : Sp} {s0 : Shared} {us : List Value} {ns : List Int}
    (kin : K.In s0.heap) (top : s0.heap.Ns mainGlobals mg) (bi : s0.heap.Ns builtinsNs mb) (boot : ∀ x : Str, x ≠ "__name__" → mb x = bootBuiltins x) (noLim : s0.heap.NoLimit) (gens : s0.gens = #[])
    (at_a : s0.heap.get? a = some { cls := .type "list", data := .seq us.toArray }) (ivs : IntsAre us ns) (few : ns.length ≤ sizeLine) (rg : RmG k callerA)
    (F : ∀ base : Heap, K.In base → base.Ns mainGlobals mg → FnG P w K mg base CX0 k fa fd [x] sp) (bnd : ∀ (sh : Shared) (u : Value), BindsTo sh fd ⟨[u], []⟩ [(x, u)])
    (wish : ∀ H : Hp, Only H → SqL K H a (ns.map V.int) → sp [.ref a] H (fun v _ => v = .bl true) fun _ _ _ => False) :
    codeAny (model P w) callerA (.call (.ref fa) ⟨[.ref a], []⟩) (fun r s2 => r = .ok (.ret (.bool true)) ∧ OldK s0.heap s2.heap ∧ s2.os = s0.os ∧ AllBare s2.gens) s0 := by
  have rels := vals_ints ivs
  have lenU := ivs.length
  have main : ∀ H : Hp, Only H → SqL K H a (ns.map V.int) → HOk P w H s0.heap → (∀ b, H b ≠ none → b = a) → (H a ≠ none → K.lookup a = none) →
      codeAny (model P w) callerA (.call (.ref fa) ⟨[.ref a], []⟩) (fun r s2 => r = .ok (.ret (.bool true)) ∧ OldK s0.heap s2.heap ∧ s2.os = s0.os ∧ AllBare s2.gens) s0 := by
    intro H only seq hok onlyA notK
    have toBase : ∀ {b : Addr} {o : Obj}, s0.heap.get? b = some o → H b = none → (hidT s0.heap H).get? b = some o := fun e n => hidT_get e n
    have noDict : ∀ {b : Addr} {o : Obj} {es : Array DictEntry} {ep : Nat}, s0.heap.get? b = some o → o.data = .dict es ep → H b = none := by
      intro b o es ep e d
      cases q : H b with
      | none => rfl
      | some u =>
        have same : b = a := onlyA b (by rw [q]; simp)
        subst same
        rw [at_a] at e
        cases e
        have d2 : Data.seq us.toArray _ = Data.dict es ep := d
        cases d2
    have nsB : ∀ {b : Addr} {m : Str → Option Value}, s0.heap.Ns b m → (hidT s0.heap H).Ns b m := fun {b m} ⟨o, es, ep, e, d, r⟩ => ⟨o, es, ep, toBase e (noDict e d), d, r⟩
    have kinB : K.In (hidT s0.heap H) := by
      intro b o e
      refine toBase (kin b o e) ?_
      cases q : H b with
      | none => rfl
      | some u =>
        have same : b = a := onlyA b (by rw [q]; simp)
        subst same
        rw [notK (by rw [q]; simp)] at e
        cases e
    have md : Mod K mg (hidT s0.heap H) := ⟨kinB, nsB top, ⟨mb, nsB bi, boot⟩, let ⟨mc, h1, h2⟩ := noLim; ⟨mc, nsB h1, h2⟩⟩
    have env0 : Env0 P w K mg (hidT s0.heap H) callerA [] s0 H := ⟨rfl, md, fun b o e => of_hidT e, Nat.le_of_eq (hidT_size _ _), trivial, fun b hb => absurd (show b ∈ ([] : List Addr) from hb) (by simp), hok, .of_eq gens⟩
    refine codeAny_mono ((F _ kinB (nsB top)).run callerA [] s0 H ⟨[.ref a], []⟩ [.ref a] [.ref a] _ _ rg env0 (bnd s0 (.ref a)) (.cons rfl .nil) (wish H only seq)) fun res s2 done => ?_
    cases res with
    | error e => exact (show False from done).elim
    | ok flow =>
      cases flow with
      | next => exact done.elim
      | brk => exact done.elim
      | cont => exact done.elim
      | ret u =>
        obtain ⟨v, H2, os, bare, un, hok2, rv, z⟩ := done
        have z : v = .bl true := z
        subst z
        obtain rfl : u = Value.bool true := rv
        refine ⟨rfl, OldK.of_keep fun b o e => ?_, os, bare⟩
        cases q : H b with
        | none => exact un.keep b o e q (by intro z; exact absurd (show b ∈ ([] : List Addr) from z) (by simp)) (by simp)
        | some u =>
          rcases only b with z | ⟨ob, xs, z⟩
          · rw [q] at z
            cases z
          · have z2 := un.frzs b ob _ z
            obtain ⟨e1, _⟩ := hok b _ z
            obtain ⟨e2, _⟩ := hok2 b _ z2
            rw [e] at e1
            cases e1
            exact e2
  cases look : K.lookup a with
  | some o =>
    have e := kin a o look
    rw [at_a] at e
    cases e
    refine main (fun _ => none) (fun _ => Or.inl rfl) (Or.inr ⟨_, us.toArray, _, look, rfl, rfl, rfl, by rw [List.size_toArray, lenU]; exact few, by simpa using rels⟩) (fun b u z => by have z2 : (none : Option HO) = some u := z; cases z2) (fun b z => absurd rfl z) fun z => absurd rfl z
  | none =>
    refine main (fun b => if b = a then some (.frz { cls := .type "list", data := .seq us.toArray } (.lst (ns.map V.int))) else none) (fun b => ?_) (Or.inl (Or.inr ⟨{ cls := .type "list", data := .seq us.toArray }, if_pos rfl⟩)) (fun b u z => ?_) (fun b z => ?_) fun _ => look
    · by_cases hb : b = a
      · exact Or.inr ⟨_, _, if_pos hb⟩
      · exact Or.inl (if_neg hb)
    · by_cases hb : b = a
      · have z2 := (if_pos hb).symm.trans z
        cases z2
        subst hb
        exact ⟨at_a, by rw [List.length_map]; exact few, us, _, rels, at_a⟩
      · have z2 := (if_neg hb).symm.trans z
        cases z2
    · by_cases hb : b = a
      · exact hb
      · exact absurd (if_neg hb) z
theorem walk_g {l : PySem.W.OpenLaw} {n k : Nat} {q : Program} {loose : List Str} {XP : (Str → Option Value) → Heap → Prop} {YP : World → Heap → Prop} {d : DefRec} {K : Params → PySem.W.Frag} {sp : World → Sp} {x : Str}
    (most : l.most = some n) (few : n ≤ sizeLine) (plain : d.params.defaults = []) (rg : RmG k callerA) (inK : ∀ (w : World) (h : Heap), YP w h → (K w.params).In h)
    (F : ∀ (w : World) (mg : Str → Option Value) (fa : Addr) (h : Heap), (K w.params).In h → h.Ns mainGlobals mg → mg d.name = some (.ref fa) →
      ∃ fd : FuncData, (∀ (sh : Shared) (u : Value), BindsTo sh fd ⟨[u], []⟩ [(x, u)]) ∧ ∀ base : Heap, (K w.params).In base → base.Ns mainGlobals mg → FnG l.prog w (K w.params) mg base CX0 k fa fd [x] (sp w))
    (wish : ∀ (w : World) (H : Hp) (a : Addr) (ns : List Int), ns.length ≤ n → Only H → SqL (K w.params) H a (ns.map V.int) → sp w [.ref a] H (fun v _ => v = .bl true) fun _ _ _ => False) : PySem.W.WalkO q loose XP YP l.row.toRowW d [] (fun f vs => PySem.call f vs) := by
  refine Att.attach_call most plain fun w s9 s0 mg mb fa o pm cd dc a us ns G Y ho hd hcd named obj ivs len gens => ?_
  have kin := inK w _ Y
  obtain ⟨fd, bnd, hF⟩ := F w mg fa _ kin G.T.g named
  exact law_g kin G.T.g G.T.b G.T.builtins G.T.nolimit gens obj ivs (Nat.le_trans len few) rg hF bnd fun H only seq => wish w H a ns len only seq
end Pq
set_option Elab.async false
set_option linter.all false
set_option maxRecDepth 100000
set_option maxHeartbeats 4000000
namespace Pq
open PySem PySem.Spec PyProof.Rows L2
/-- what is wanted behind a statement -/
structure EM where
  nx : En → Prop
  rt : SV → Prop
  bk : En → Prop
  ct : En → Prop
abbrev MS := En → EM → Prop
def IsRet (K : PySem.W.Frag) (B : Br) (S H : Hp) : SV → V → Prop
  | .val d, v => Dq K S v d
  | .own b d, v => b = true ∧ ∃ p, v = .ref p ∧ Own K B S H d p
  | .res b d ids, v => ids ≠ [] ∧ (if b = true then ∃ p, v = .ref p ∧ Own K B S H d p ∧ ∀ x ∈ ids, B.bo x.1 ≠ some p else Dq K S v d) ∧ ∀ x ∈ ids, ∃ q, B.bo x.1 = some q ∧ Own K B S H x.2 q
  | _, _ => False
/-- the data of a slot that knows alone -/
def dat : SV → Da
  | .own _ d => d
  | .bor d => d
  | _ => .none
theorem Rel.ob2 {K : PySem.W.Frag} {B : Br} {env : En} {S : Hp} {σ : L2.St} {H : Hp} (R : Rel K B env S σ H) {i : Nat} {sv : SV} (h : env[i]? = some sv) (o : OB sv) : ∃ p, σ[i]? = some (some (.ref p)) ∧ Own K B S H (dat sv) p := by
  cases sv with
  | own b d => exact R.own i b d h
  | bor d =>
    obtain ⟨p, _, a, c⟩ := R.bor i d h
    exact ⟨p, a, c⟩
  | _ => exact o.elim
abbrev Up (S S' : Hp) : Prop := ∀ a o, S a = some o → S' a = some o
def Nx (K : PySem.W.Frag) (B : Br) (S : Hp) (P : En → Prop) (Q : L2.St → Hp → Prop) : Prop := ∀ env' σ' S' H', P env' → Rel K B env' S' σ' H' → Up S S' → Q σ' H'
def Rt (K : PySem.W.Frag) (B : Br) (P : SV → Prop) (Q : VK) : Prop := ∀ r v S' H', P r → Wd B S' H' → IsRet K B S' H' r v → Q v H'
structure Eok (K : PySem.W.Frag) (B : Br) (S : Hp) (E : EM) (D : Ends) : Prop where
  nx : Nx K B S E.nx D.nx
  rt : Rt K B E.rt D.rt
  bk : Nx K B S E.bk D.bk
  ct : Nx K B S E.ct D.ct
theorem Nx.up {K : PySem.W.Frag} {B : Br} {S S' : Hp} {P : En → Prop} {Q : L2.St → Hp → Prop} (u : Up S S') (h : Nx K B S P Q) : Nx K B S' P Q := fun e σ S2 H p R w => h e σ S2 H p R fun a o z => w a o (u a o z)
theorem Eok.up {K : PySem.W.Frag} {B : Br} {S S' : Hp} {E : EM} {D : Ends} (u : Up S S') (h : Eok K B S E D) : Eok K B S' E D := ⟨h.nx.up u, h.rt, h.bk.up u, h.ct.up u⟩
def tSt (Z : ZX) (K : PySem.W.Frag) (m : MS) : TS := fun D σ H => ∃ B : Bs Z, ∃ env S E, Rel K B env S σ H ∧ m env E ∧ Eok K B S E D
section
variable {X : Cx}
abbrev DSt (Z : ZX) (X : Cx) (st : Stmt) (m : MS) : Prop := PS X st (tSt Z X.K m)
abbrev DSs (Z : ZX) (X : Cx) (sts : List Stmt) (m : MS) : Prop := PSs X sts (tSt Z X.K m)
def msNext : MS := fun env E => E.nx env
def msSeq (m n : MS) : MS := fun env E => m env { E with nx := fun e => n e E }
theorem dss_nil : DSs Z X [] msNext := pss_nil.wk fun D σ H ⟨B, env, S, E, R, h, k⟩ => k.nx _ σ S H h R fun _ _ z => z
theorem dss_cons {st : Stmt} {rest : List Stmt} {m n : MS} (h1 : DSt Z X st m) (h2 : DSs Z X rest n) : DSs Z X (st :: rest) (msSeq m n) := (pss_cons h1 h2).wk fun D σ H ⟨B, env, S, E, R, h, k⟩ =>
  ⟨B, env, S, _, R, h, ⟨fun e σ' S' H' p R' u => ⟨B, e, S', E, R', p, k.up u⟩, k.rt, k.bk, k.ct⟩⟩
theorem dss_one {st : Stmt} {m : MS} (h : DSt Z X st m) : DSs Z X [st] m := pss_one h
/-! ### stores -/
def putR (i : Nat) (r : SV) (e : En) (Q : En → Prop) : Prop := match r with
  | .val d => i < e.length ∧ Q (e.set i (.val d))
  | .own b d => i < e.length ∧ Q (e.set i (.own b d))
  | _ => False
def msSet (i : Nat) (m : ME) : MS := fun env E => m env fun r e => putR i r e E.nx
theorem set_run {i : Nat} {m : ME} {te : TE} (hr : ∀ σ H Q, tE Z X.K m σ H Q → te σ H Q) : ∀ D σ H, tSt Z X.K (msSet i m) D σ H → tAsg te (gName i) D σ H := fun D σ H ⟨B, env, S, E, R, h, k⟩ =>
  hr σ H _ ⟨B, env, S, _, R, h, fun r e1 q v S1 H1 st R1 ir => by
    cases r with
    | val d => exact k.nx _ _ S1 H1 q.2 (R1.setV ir q.1) st.s.1
    | own b d =>
      obtain ⟨hb, p, rfl, o, _, hn⟩ := ir
      subst hb
      exact k.nx _ _ S1 H1 q.2 (R1.setO o hn q.1) st.s.1
    | no => exact q.elim
    | deal => exact q.elim
    | bor d => exact q.elim
    | res b d ids => exact q.elim⟩
theorem dst_set {i : Nat} {x : Str} {e : Expr} {m : ME} {pos' pos : Pos} (hN : X.N.Nodup) (he : DE Z X e m) (hi : X.N[i]? = some x := by rfl) (hx : Loc X.env.scope x := by first | exact Or.inl rfl | exact Or.inr rfl) (hs : swapsWith e (some (.Name x pos')) pos.line X.env = pure false := by rfl) (hf : X.fn x = true ∨ X.env.scope.names.lookup x = some .local := by first | exact .inl rfl | exact .inr rfl | assumption) :
    DSt Z X (.Assign [.Name x pos'] e pos) (msSet i m) := (ps_set hN hi hx he hs hf).wk (set_run fun _ _ _ z => z)
/-- a tuple of targets -/
def msAsg (m : MP) (g : MG) : MS := fun env E => m env fun d e => g d e E.nx
theorem dst_asg {tg e : Expr} {is : List Nat} {m : MP} {g : MG} {pos : Pos} (he : DS Z X e m) (hg : DG Z X tg is g) (hs : swapsWithSole [tg] e pos.line X.env = pure false := by rfl) (hw : swappedStores [tg] e X.env = pure none := by rfl)
    (h1 : (assignEach [tg] X.env).map (·.2) = [assign tg X.env] := by rfl) : DSt Z X (.Assign [tg] e pos) (msAsg m g) := (ps_asg he hg hs hw h1).wk fun D σ H ⟨B, env, S, E, R, h, k⟩ =>
  ⟨B, env, S, _, R, h, fun d e1 q v S1 H1 st R1 dv => ⟨B, e1, S1, d, _, R1, dv, q, fun e2 q2 σ2 R2 _ _ => k.nx e2 σ2 S1 H1 q2 R2 st.s.1⟩⟩
def retR (r : SV) (Q : SV → Prop) : Prop := match r with
  | .val d => Q (.val d)
  | .own b d => Q (.own b d)
  | _ => False
def msRet (m : ME) : MS := fun env E => m env fun r _ => retR r E.rt
theorem dst_ret {e : Expr} {m : ME} {pos : Pos} (he : DE Z X e m) : DSt Z X (.Return (some e) pos) (msRet m) := (ps_ret he).wk fun D σ H ⟨B, env, S, E, R, h, k⟩ =>
  ⟨B, env, S, _, R, h, fun r e1 q v S1 H1 st R1 ir => by
    cases r with
    | val d => exact k.rt _ v S1 H1 q R1.w ir
    | own b d =>
      obtain ⟨hb, p, rfl, o, _, hn⟩ := ir
      exact k.rt _ _ S1 H1 q R1.w ⟨hb, p, rfl, o⟩
    | no => exact ir.elim
    | deal => exact q.elim
    | bor d => exact q.elim
    | res b d ids => exact q.elim⟩
/-! ### lists changed in place -/
def ownL (env : En) (i : Nat) : Prop := match env[i]? with
  | some (.own true (.list _)) => True
  | some (.bor (.list _)) => True
  | _ => False
theorem ownL_at {K : PySem.W.Frag} {B : Br} {env : En} {S H : Hp} {σ : L2.St} {i : Nat} (R : Rel K B env S σ H) (h : ownL env i) : ∃ ds p vs, True ∧ σ[i]? = some (some (.ref p)) ∧ B.H p = none ∧ S p = none ∧ H p = some (.lst vs) ∧ DqAll K S vs ds := by
  have fin : ∀ {sv : SV} {ds : List Da}, OB sv → dat sv = .list ds → env[i]? = some sv → ∃ ds p vs, True ∧ σ[i]? = some (some (.ref p)) ∧ B.H p = none ∧ S p = none ∧ H p = some (.lst vs) ∧ DqAll K S vs ds := fun {sv ds} ob ed e => by
    obtain ⟨p, a, b, c, o, d2, d3⟩ := R.ob2 e ob
    rw [ed] at d3
    cases d3 with
    | lst d3 => exact ⟨ds, p, _, trivial, a, b, c, d2, d3⟩
  unfold ownL at h
  split at h
  · rename_i ds e
    exact fin (sv := .own true (.list ds)) trivial rfl e
  · rename_i ds e
    exact fin (sv := .bor (.list ds)) trivial rfl e
  · exact h.elim
/-- x.append(e) -/
def msApp (i : Nat) (m : MP) : MS := fun env E => ownL env i ∧ m env fun d e => match e[i]? with
  | some (.own true (.list ds)) => ds.length < 1000000 ∧ E.nx (e.set i (.own true (.list (ds ++ [d]))))
  | some (.bor (.list ds)) => ds.length < 1000000 ∧ E.nx (e.set i (.bor (.list (ds ++ [d]))))
  | _ => False
theorem ob_lst {K : PySem.W.Frag} {B : Br} {e : En} {S1 H1 : Hp} {σ : L2.St} {i : Nat} {ds : List Da} {sv : SV} (R1 : Rel K B e S1 σ H1) (o : OB sv) (ed : dat sv = .list ds) (h : e[i]? = some sv) : ∃ p vs, σ[i]? = some (some (.ref p)) ∧ B.H p = none ∧ S1 p = none ∧ H1 p = some (.lst vs) ∧ DqAll K S1 vs ds := by
  obtain ⟨p, a, b, c, u, d2, d3⟩ := R1.ob2 h o
  rw [ed] at d3
  cases d3 with
  | lst d3 => exact ⟨p, _, a, b, c, d2, d3⟩
theorem dst_app (i : Nat) {x : Str} {e : Expr} {m : MP} {p apos cpos pos : Pos} (he : DS Z X e m) (hN : X.N[i]? = some x := by rfl) (hv : Vis X.env.scope x := by first | exact Or.inl rfl | exact Or.inr (Or.inl rfl) | exact Or.inr (Or.inr rfl)) (hd : (x == ("__debug__" : Str)) = false := by decide)
    (hcd : (x == ("__classdict__" : Str)) = false := by decide) (hbase : attributeBase (.Name x p) "append" X.env (eval (.Name x p) X.env) = eval (.Name x p) X.env := by rfl)
    (hfew : ((backTo cpos (starEach [e] X.env)).all (fun x => !x.1) && (backToKw cpos (keywordEach [] X.env)).all (fun x => x.1.isSome) && decide ([e].length + ([] : List Keyword).length + (if ([] : List Keyword).isEmpty then 0 else 1) < 30)) = true := by rfl)
    (hline : (apos.endLine == cpos.line) = true := by rfl) (hs : starEach [e] X.env = (false, eval e X.env) :: starEach [] X.env := by rfl) (hplain : (backTo cpos (starEach [] X.env)).any (·.1) = false := by rfl)
    (hsw : swapsWith (.Call (.Attribute (.Name x p) "append" apos) [e] [] cpos) none pos.line X.env = pure false := by rfl) :
    DSt Z X (.Expr (.Call (.Attribute (.Name x p) "append" apos) [e] [] cpos) pos) (msApp i m) :=
  (ps_expr (pe_bm PySem.F.plainAttrs_list PySem.F.slot_list_append PySem.F.type_list_append mt_append (pe_var hN hv hd hcd) (pa_cons he pa_nil hs) hbase hfew hline hs hplain) hsw).wk fun D σ H ⟨B, env, S, E, R, h, k⟩ => by
    obtain ⟨ds0, p0, vs0, e0, a0, _, _, h0, _⟩ := ownL_at R h.1
    refine ⟨.ref p0, a0, .inl ⟨rfl, vs0, .inl (.inl h0)⟩, B, env, S, _, R, h.2, fun d e1 q v S1 H1 st R1 dv => ?_⟩
    have fin : ∀ {sv : SV} {ds : List Da} {P : Prop}, OB sv → dat sv = .list ds → e1[i]? = some sv → ds.length < 1000000 → E.nx (e1.set i (kin sv (.list (ds ++ [d])))) → (∀ vs' : List V, H1 p0 = some (.lst vs') → vs'.length < sizeLine → D.nx σ (upd H1 p0 (.lst (vs' ++ [v]))) → P) → P := fun {sv ds P} ob ed e2 hl hn g => by
      obtain ⟨p1, vs, b1, b2, b3, b4, b5⟩ := ob_lst R1 ob ed e2
      rw [a0] at b1; cases b1
      exact g vs b4 (by rw [b5.length]; exact lt_sz hl) (k.nx _ _ S1 _ hn (R1.chgK ob e2 a0 b2 b3 (.lst (b5.app (.cons dv .nil)))) st.s.1)
    split at q
    · rename_i ds e2
      exact fin (sv := .own true (.list ds)) trivial rfl e2 q.1 q.2 fun vs b4 hz g => ⟨p0, vs, v, rfl, rfl, b4, hz, g⟩
    · rename_i ds e2
      exact fin (sv := .bor (.list ds)) trivial rfl e2 q.1 q.2 fun vs b4 hz g => ⟨p0, vs, v, rfl, rfl, b4, hz, g⟩
    · exact q.elim
/-- a list or a dict that this slot owns -/
def ownM (env : En) (i : Nat) : Prop := match env[i]? with
  | some (.own true (.list _)) => True
  | some (.own true (.dict _)) => True
  | some (.bor _) => True
  | _ => False
theorem ownM_at {K : PySem.W.Frag} {B : Br} {env : En} {S H : Hp} {σ : L2.St} {i : Nat} (R : Rel K B env S σ H) (h : ownM env i) : ∃ p, σ[i]? = some (some (.ref p)) := by
  unfold ownM at h
  split at h
  · rename_i e
    obtain ⟨p, a, _⟩ := R.own i _ _ e
    exact ⟨p, a⟩
  · rename_i e
    obtain ⟨p, a, _⟩ := R.own i _ _ e
    exact ⟨p, a⟩
  · rename_i e
    obtain ⟨p, _, a, _⟩ := R.bor i _ e
    exact ⟨p, a⟩
  · exact h.elim
def tPutM (ds : List (Da × Da)) (k : List Int) (d : Da) : List (Da × Da) := (.none, .none) :: tPut ds.tail k d
/-- c[j] = d, of what is owned -/
@[irreducible] def fPut : Da → Da → Da → (Da → Prop) → Prop := fun c j d Q => match c, j with
  | .list ds, .int k => match ixN ds.length k with
    | some n => Q (.list (ds.set n d))
    | none => False
  | .dict ds, j => match keyO j with
    | some k => isTm ds = false ∧ ds.length < 1000000 ∧ Q (.dict (dPut ds k d))
    | none => match tkO j with
      | some k => (ds = [] ∨ (isTm ds = true ∧ isPm ds = false)) ∧ ds.length < 1000000 ∧ Q (.dict (tPutM ds k d))
      | none => False
  | _, _ => False
def msPut (i : Nat) (mk mv : MP) : MS := fun env E => mv env fun d e1 => ownM e1 i ∧ mk e1 fun j e2 => match e2[i]? with
  | some (.own true c) => fPut c j d fun c' => E.nx (e2.set i (.own true c'))
  | some (.bor c) => fPut c j d fun c' => E.nx (e2.set i (.bor c'))
  | _ => False
theorem w_putD {ds : List (Da × Da)} {c d : Da} {k : Key} {Q : Da → Prop} (hk : keyO c = some k) (ht : isTm ds = false) (hl : ds.length < 1000000) (q : Q (.dict (dPut ds k d))) : fPut (.dict ds) c d Q := by
  unfold fPut
  dsimp only
  rw [hk]
  exact ⟨ht, hl, q⟩
def uSt (X : Cx) : TSet := fun o i v H Q => ∃ t, PSet X t ∧ t o i v H Q
theorem set_un : PSet X (uSt X) := fun pins s σ H o i v ov iv u Q I ro ri rv h => by
  obtain ⟨t, p, q⟩ := h
  exact p pins s σ H o i v ov iv u Q I ro ri rv q
theorem set_dict (hu : X.A.units + 1 < cLine) : PSet X (fun o i v H Q => ∃ a H', o = .ref a ∧ DPut H a i v H' ∧ Q H') := fun pins s σ H o i v ov iv u Q I ro ri rv h => by
  obtain ⟨a, H', rfl, g, q⟩ := h
  cases ro
  exact d_setItem hu I g ri rv fun s' I' => ⟨H', I', q⟩
theorem set_tdict (hu : X.A.units + 1 < cLine) : PSet X (fun o i v H Q => ∃ (a : Addr) (kvs : TKv) (k : List Int) (b : Addr), o = .ref a ∧ i = .ref b ∧ ((∃ a', H a = some (dtO a' kvs)) ∨ (kvs = [] ∧ H a = some (.dK []))) ∧ TKeys X.K H kvs ∧ kvs.length < sizeLine ∧ SqT X.K H b (k.map V.int) ∧ ∀ o, Q (upd H a (dtO (a, o) (tput kvs k b v)))) := fun pins s σ H o i v ov iv u Q I ro ri rv h => by
  obtain ⟨a, kvs, k, b, rfl, rfl, T, hk, hl, eb, q⟩ := h
  cases ro
  cases ri
  exact t_setItem hu I T hk hl eb rv fun o s' I' => ⟨_, I', q o⟩
theorem dst_put (i : Nat) {x : Str} {ei e : Expr} {mk mv : MP} {p tpos pos : Pos} (hu : X.A.units + 1 < cLine) (hk : DP Z X ei mk) (he : DS Z X e mv) (hN : X.N[i]? = some x := by rfl) (hv : Vis X.env.scope x := by first | exact Or.inl rfl | exact Or.inr (Or.inl rfl) | exact Or.inr (Or.inr rfl)) (hd : (x == ("__debug__" : Str)) = false := by decide)
    (hcd : (x == ("__classdict__" : Str)) = false := by decide)
    (ha : ∀ v, assign (.Subscript (.Name x p) ei tpos) X.env v = (do
      let ov ← holding [v] (eval (.Name x p) X.env)
      let iv ← holding [v, ov] (eval ei X.env)
      standAt tpos
      holding [v, ov, iv] (setItem ov iv v)
      release [v, ov, iv] []) := by intro _; rfl)
    (hs : swapsWithSole [.Subscript (.Name x p) ei tpos] e pos.line X.env = pure false := by rfl) (hw : swappedStores [.Subscript (.Name x p) ei tpos] e X.env = pure none := by rfl)
    (h1 : (assignEach [.Subscript (.Name x p) ei tpos] X.env).map (·.2) = [assign (.Subscript (.Name x p) ei tpos) X.env] := by rfl) :
    DSt Z X (.Assign [.Subscript (.Name x p) ei tpos] e pos) (msPut i mk mv) :=
  (ps_asg he (pg_sub (pe_var hN hv hd hcd) hk set_un ha) hs hw h1).wk fun D σ H ⟨B, env, S, E, R, h, k⟩ => by
    refine ⟨B, env, S, _, R, h, fun d e1 q v S1 H1 st R1 dv => ?_⟩
    obtain ⟨p0, a0⟩ := ownM_at R1 q.1
    refine ⟨.ref p0, a0, B, e1, S1, _, R1, q.2, fun j e2 q2 u S2 H2 st2 R2 ip => ?_⟩
    revert q2
    have fin : ∀ {sv : SV} {c : Da}, OB sv → dat sv = c → e2[i]? = some sv → fPut c j d (fun c' => E.nx (e2.set i (kin sv c'))) → uSt X (.ref p0) u v H2 fun H3 => D.nx σ H3 := fun {sv c} ob ed e3 q2 => by
      unfold fPut at q2
      split at q2
      · rename_i ds k0
        cases ip.int
        split at q2
        · rename_i n en
          obtain ⟨p1, vs, b1, b2, b3, b4, b5⟩ := ob_lst R2 ob ed e3
          rw [a0] at b1; cases b1
          exact ⟨_, set_list, p0, vs, k0, n, rfl, rfl, b4, by rw [b5.length]; exact en, k.nx _ _ S2 _ q2 (R2.chgK ob e3 a0 b2 b3 (.lst (b5.set n (Dq.up st2.s.1 _ _ dv)))) fun a o z => st2.s.1 a o (st.s.1 a o z)⟩
        · exact q2.elim
      · rename_i ds
        split at q2
        · rename_i k0 ek
          have ey := ip.flatK ek
          subst ey
          obtain ⟨p1, b1, b2, b3, o, b4, b5⟩ := R2.ob2 e3 ob
          rw [ed] at b5
          rw [a0] at b1; cases b1
          cases b5 with
          | dk b5 =>
            exact ⟨_, set_dict hu, p0, _, rfl, DPut.k b4 (by rw [b5.len]; exact lt_sz q2.2.1), k.nx _ _ S2 _ q2.2.2 (R2.chgK ob e3 a0 b2 b3 (.dk (b5.put (Dq.up st2.s.1 _ _ dv)))) fun a o z => st2.s.1 a o (st.s.1 a o z)⟩
          | dt b5 => exact absurd q2.1 (fun z => by cases z)
          | ins _ _ => exact absurd q2.1 (fun z => by cases z)
        · split at q2
          · rename_i k0 ek
            rw [tkO_eq ek] at ip
            obtain ⟨b, rfl, pb⟩ := ip.tk
            have eb := SqT.up R2.w.sub pb.sq
            obtain ⟨p1, b1, b2, b3, o, b4, b5⟩ := R2.ob2 e3 ob
            rw [ed] at b5
            rw [a0] at b1; cases b1
            obtain ⟨hc, hl, q2⟩ := q2
            cases b5 with
            | dk b5 =>
              rcases hc with rfl | ⟨h1, _⟩
              · cases b5
                exact ⟨_, set_tdict hu, p0, [], k0, b, rfl, rfl, .inr ⟨rfl, b4⟩, (fun p hp => by cases hp), lt_sz hl, eb, fun o => k.nx _ _ S2 _ q2 (R2.chgK ob e3 a0 b2 b3 (.dt (DqT.put .nil pb (Dq.up st2.s.1 _ _ dv)))) fun a o z => st2.s.1 a o (st.s.1 a o z)⟩
              · rw [tm_dk b5] at h1; cases h1
            | ins _ _ =>
              rcases hc with z | ⟨_, z⟩
              · cases z
              · cases z
            | dt b5 =>
              exact ⟨_, set_tdict hu, p0, _, k0, b, rfl, rfl, .inl ⟨_, b4⟩, tkeys_up R2.w (dqt_keys b5), (by rw [b5.len]; rw [List.length_cons] at hl; exact lt_sz (by omega)), eb, fun o => k.nx _ _ S2 _ q2 (R2.chgK ob e3 a0 b2 b3 (.dt (b5.put pb (Dq.up st2.s.1 _ _ dv)))) fun a o z => st2.s.1 a o (st.s.1 a o z)⟩
          · exact q2.elim
      · exact q2.elim
    intro q2
    split at q2
    · rename_i c e3
      exact fin (sv := .own true c) trivial rfl e3 q2
    · rename_i c e3
      exact fin (sv := .bor c) trivial rfl e3 q2
    · exact q2.elim
def msIf (c : MT) (m n : MS) : MS := fun env E => c env fun b e => if b = true then m e E else n e E
theorem dst_if {c : Expr} {a b : List Stmt} {mc : MT} {m n : MS} {pos : Pos} (hc : DT Z X c mc) (ha : DSs Z X a m) (hb : DSs Z X b n) : DSt Z X (.If c a b pos) (msIf mc m n) := (ps_if hc ha hb).wk fun D σ H ⟨B, env, S, E, R, h, k⟩ =>
  ⟨B, env, S, _, R, h, fun b e1 q S1 H1 st R1 => by
    cases b with
    | true =>
      rw [if_pos rfl] at q
      exact iteT ⟨B, e1, S1, E, R1, q, k.up st.s.1⟩
    | false =>
      rw [if_neg Bool.false_ne_true] at q
      exact iteF ⟨B, e1, S1, E, R1, q, k.up st.s.1⟩⟩
/-! ### loops -/
def forGo (g : MG) (body : MS) : List Da → En → EM → Prop
  | [], env, E => E.nx env
  | d :: ds, env, E => g d env fun e2 => body e2 ⟨fun e => forGo g body ds e E, E.rt, E.nx, fun e => forGo g body ds e E⟩
def msFor (mi : ML) (g : MG) (body : MS) : MS := fun env E => mi env fun ds e1 => forGo g body ds e1 E
theorem dst_for {tg iter : Expr} {body : List Stmt} {is : List Nat} {mi : ML} {g : MG} {mb : MS} {pos : Pos} (hp : PassesOwn (model X.prog X.w) X.A X.env X.xe) (hc : X.calm = true) (hi : DI Z X tg iter mi) (hg : DG Z X tg is g) (hb : DSs Z X body mb)
    (hs : ∀ x, foldedSetIterable iter X.env x = pure x := by intro _; rfl) : DSt Z X (.For tg iter body [] pos) (msFor mi g mb) := (ps_for hp hc hi hg hb hs).wk fun D σ H ⟨B, env, S, E, R, h, k⟩ => by
  refine ⟨B, env, S, _, R, h, fun ds e1 q S1 H1 J st R1 wk => ?_⟩
  refine ⟨fun i m σ' H' => m = ds.length - i ∧ i ≤ ds.length ∧ ∃ env' S', Rel X.K B env' S' σ' H' ∧ Up S1 S' ∧ forGo g mb (ds.drop i) env' E, ⟨ds.length, rfl, Nat.zero_le _, e1, S1, R1, fun _ _ z => z, q⟩, ?_⟩
  rintro i m σ' H' ⟨rfl, hil, env', S', R', u, go⟩
  have k' : Eok X.K B S' E D := (k.up st.s.1).up u
  by_cases hlt : i < ds.length
  · refine .inr ?_
    have hd : ds[i]? = some ds[i] := List.getElem?_eq_getElem hlt
    have ed : ds.drop i = ds[i] :: ds.drop (i + 1) := List.drop_eq_getElem_cons hlt
    rw [ed, forGo] at go
    obtain ⟨wg, _⟩ := wk S' H' u R'.w
    obtain ⟨g1, g2⟩ := wg i _ hd
    refine ⟨g1, fun σ2 H2 => ∃ env' S', Rel X.K B env' S' σ2 H2 ∧ Up S1 S' ∧ forGo g mb (ds.drop (i + 1)) env' E, fun σ2 H2 z => ⟨ds.length - (i + 1), by omega, rfl, hlt, z⟩, fun x H2 y => ?_⟩
    obtain ⟨S2, r2, _, dx⟩ := g2 x H2 y
    obtain ⟨R2, st2⟩ := r2 _ _ R'
    refine ⟨B, env', S2, _, _, R2, dx, go, fun e2 q2 σ2 R3 _ _ => ⟨B, e2, S2, _, R3, q2, ?_⟩⟩
    have k2 := k'.up st2.s.1
    have u2 : Up S1 S2 := fun a o z => st2.s.1 a o (u a o z)
    exact ⟨fun e σ3 S3 H3 p R4 w => ⟨e, S3, R4, fun a o z => w a o (u2 a o z), p⟩, k2.rt, k2.nx, fun e σ3 S3 H3 p R4 w => ⟨e, S3, R4, fun a o z => w a o (u2 a o z), p⟩⟩
  · have e : i = ds.length := by omega
    subst e
    rw [List.drop_length, forGo] at go
    exact .inl ⟨(wk S' H' u R'.w).2 _ (Nat.le_refl _), k'.nx _ _ S' H' go R' fun _ _ z => z⟩
def whGo (c : MT) (body : MS) : Nat → En → EM → Prop
  | 0, _, _ => False
  | n + 1, env, E => c env fun b e => if b = true then body e ⟨fun e2 => whGo c body n e2 E, E.rt, E.nx, fun e2 => whGo c body n e2 E⟩ else E.nx e
def msWhile (c : MT) (body : MS) : MS := fun env E => ∃ n, whGo c body n env E
theorem dst_while {c : Expr} {body : List Stmt} {mc : MT} {mb : MS} {pos : Pos} (hp : PassesOwn (model X.prog X.w) X.A X.env X.xe) (hc : DT Z X c mc) (hb : DSs Z X body mb) : DSt Z X (.While c body [] pos) (msWhile mc mb) := (ps_while hp hc hb).wk fun D σ H ⟨B, env, S, E, R, h, k⟩ => by
  obtain ⟨n, h⟩ := h
  refine ⟨fun m σ' H' => ∃ env' S', Rel X.K B env' S' σ' H' ∧ Up S S' ∧ whGo mc mb m env' E, ⟨n, env, S, R, fun _ _ z => z, h⟩, ?_⟩
  rintro m σ' H' ⟨env', S', R', u, go⟩
  cases m with
  | zero => exact go.elim
  | succ m =>
    rw [whGo] at go
    refine ⟨B, env', S', _, R', go, fun b e1 q S1 H1 st R1 => ?_⟩
    have u1 : Up S S1 := fun a o z => st.s.1 a o (u a o z)
    have k1 := k.up u1
    cases b with
    | true =>
      rw [if_pos rfl] at q
      refine iteT ⟨fun σ2 H2 => ∃ env' S', Rel X.K B env' S' σ2 H2 ∧ Up S S' ∧ whGo mc mb m env' E, fun σ2 H2 z => ⟨m, Nat.lt_succ_self m, z⟩, B, e1, S1, _, R1, q, ?_⟩
      exact ⟨fun e σ3 S3 H3 p R4 w => ⟨e, S3, R4, fun a o z => w a o (u1 a o z), p⟩, k1.rt, k1.nx, fun e σ3 S3 H3 p R4 w => ⟨e, S3, R4, fun a o z => w a o (u1 a o z), p⟩⟩
    | false =>
      rw [if_neg Bool.false_ne_true] at q
      exact iteF (k1.nx _ _ S1 H1 q R1 fun _ _ z => z)
end
/-! ### defs -/
theorem AllR.get {K : PySem.W.Frag} {dl : Option (Addr × Addr)} {S : Hp} : ∀ {rs : List SV} {vs : List V} {i : Nat} {r : SV}, AllR K dl S rs vs → rs[i]? = some r → ∃ v, vs[i]? = some v ∧ match r with
    | .val d => Dq K S v d
    | .deal => ∃ p l, dl = some (p, l) ∧ v = .ref p
    | _ => False
  | [], _, _, _, _, e => by simp at e
  | .val d :: rs, _, 0, r, h, e => by
    obtain ⟨v, r', rfl, b, c⟩ := h
    simp at e; subst e
    exact ⟨v, rfl, b⟩
  | .val d :: rs, _, i + 1, r, h, e => by
    obtain ⟨v, r', rfl, b, c⟩ := h
    obtain ⟨v', x, y⟩ := AllR.get (i := i) c (by simpa using e)
    exact ⟨v', by simpa using x, y⟩
  | .deal :: rs, _, 0, r, h, e => by
    obtain ⟨p, l, r', rfl, b, c⟩ := h
    simp at e; subst e
    exact ⟨_, rfl, p, l, b, rfl⟩
  | .deal :: rs, _, i + 1, r, h, e => by
    obtain ⟨p, l, r', rfl, b, c⟩ := h
    obtain ⟨v', x, y⟩ := AllR.get (i := i) c (by simpa using e)
    exact ⟨v', by simpa using x, y⟩
  | .no :: _, _, _, _, h, _ => h.elim
  | .own _ _ :: _, _, _, _, h, _ => h.elim
  | .bor _ :: _, _, _, _, h, _ => h.elim
  | .res _ _ _ :: _, _, _, _, h, _ => h.elim
abbrev FS := List SV → (SV → Prop) → Prop
/-- the promise of a def that answers by data -/
def spD (K : PySem.W.Frag) (n : Nat) (F : FS) : Sp := fun vs H Q _ => ∃ S dl rs, ∃ Q0 : SV → Prop, Up S H ∧ (∀ p l, dl = some (p, l) → DealAt H p l ∧ S p = none ∧ S l = none) ∧ AllR K dl S rs vs ∧ rs.length = n ∧ F rs Q0 ∧
  ∀ r v S' H', Q0 r → Wd ⟨S, H, dl, fun _ => none⟩ S' H' → IsRet K ⟨S, H, dl, fun _ => none⟩ S' H' r v → Q v H'
def fnD (N n : Nat) (m : MS) : FS := fun rs Q => m (rs ++ List.replicate (N - n) SV.no) ⟨fun _ => Q (.val .none), Q, fun _ => False, fun _ => False⟩
/-- the env at a def's begin -/
theorem start_rel {K : PySem.W.Frag} {N ps : List Str} {S H : Hp} {dl : Option (Addr × Addr)} {rs : List SV} {vs : List V} (hN : ps.length ≤ N.length) (up : Up S H) (dk : ∀ p l, dl = some (p, l) → DealAt H p l ∧ S p = none ∧ S l = none) (al : AllR K dl S rs vs) (hl : rs.length = ps.length) :
    Rel K ⟨S, H, dl, fun _ => none⟩ (rs ++ List.replicate (N.length - ps.length) SV.no) S (L2.start N vs) H := by
  have hv : vs.length = ps.length := by rw [al.length, hl]
  have lft : ∀ {i : Nat} {r : SV}, (rs ++ List.replicate (N.length - ps.length) SV.no)[i]? = some r → r = .no ∨ (rs[i]? = some r) := fun {i r} h => by
    by_cases hi : i < rs.length
    · rw [List.getElem?_append_left hi] at h; exact .inr h
    · rw [List.getElem?_append_right (by omega)] at h
      exact .inl (List.eq_of_mem_replicate (List.mem_of_getElem? h))
  have stv : ∀ {i : Nat} {v : V}, vs[i]? = some v → (L2.start N vs)[i]? = some (some v) := fun {i v} h => by
    have hi := (List.getElem?_eq_some_iff.mp h).1
    unfold L2.start
    rw [List.getElem?_append_left (by rw [List.length_map]; exact hi), List.getElem?_map, h]
    rfl
  refine ⟨⟨up, fun _ _ z => z, fun _ _ _ z => z, fun _ _ _ z => z, fun p l e => ?_⟩, ?_, fun i d h => ?_, fun i h => ?_, fun i b d h => ?_, fun i j b c d e p h => ?_, fun i d h => ?_, fun i j b d e p h => ?_, fun i j p h => nomatch h⟩
  · obtain ⟨d1, d2, d3⟩ := dk p l e
    obtain ⟨_, _, _, _, a1, a2, _⟩ := id d1
    exact ⟨d1, ⟨_, a1⟩, ⟨_, a2⟩, d2, d3⟩
  · unfold L2.start
    rw [List.length_append, List.length_append, List.length_map, List.length_replicate, List.length_replicate, hl, hv]
  · rcases lft h with z | z
    · cases z
    · obtain ⟨v, a, b⟩ := al.get z
      exact ⟨v, stv a, b⟩
  · rcases lft h with z | z
    · cases z
    · obtain ⟨v, a, p, l, b, rfl⟩ := al.get z
      exact ⟨p, l, b, stv a⟩
  · rcases lft h with z | z
    · cases z
    · obtain ⟨v, a, b⟩ := al.get z
      exact b.elim
  · rcases lft h with z | z
    · cases z
    · obtain ⟨v, a, b⟩ := al.get z
      exact b.elim
  · rcases lft h with z | z
    · cases z
    · obtain ⟨v, a, b⟩ := al.get z
      exact b.elim
  · rcases lft h with z | z
    · cases z
    · obtain ⟨v, a, b⟩ := al.get z
      exact b.elim
theorem sc_few {N ps : List Str} {sc : Scope} (h : FnScope N ps sc) : ps.length ≤ N.length := by
  have := congrArg List.length h.pre
  rw [List.length_take] at this
  omega
theorem fn_d {P : Program} {w : World} {K : PySem.W.Frag} {mg : Str → Option Value} {base : Heap} {x qual : Str} {st : Stmt} {f : Addr} {fd : FuncData} {N ps : List Str} {k : Nat} {m : MS} (Fu : Fun K x qual st f fd) (sc : FnScope N ps (defScope st))
    (hb : ∀ (cdv : Value) (A : Around) (outer : List Env) (s : Shared) (H : Hp) (E : XK), RmG k (A.deeper (envOfC qual (defScope st) s.heap.objs.size f cdv)) → DSs (z0 K) (cxOf CX0 P w K mg base N qual (defScope st) f cdv A outer s H E).nox (defBody st) m) :
    FnG P w K mg base CX0 (k + 1) f fd ps (spD K ps.length (fnD N.length ps.length m)) := by
  refine fun_g Fu sc (fun vs H Q E h => ?_) (fun cdv A outer s H vs Q E hr h => ?_)
  · obtain ⟨S, dl, rs, Q0, _, _, al, hl, _⟩ := h
    rw [al.length, hl]
  · refine ⟨_, hb cdv A outer s H E hr, ?_⟩
    obtain ⟨S, dl, rs, Q0, up, dk, al, hl, hF, q⟩ := h
    exact ⟨b0 K ⟨S, H, dl, fun _ => none⟩, rs ++ List.replicate (N.length - ps.length) SV.no, S, ⟨fun _ => Q0 (.val .none), Q0, fun _ => False, fun _ => False⟩, start_rel (sc_few sc) up dk al hl, hF,
      ⟨fun e σ' S' H' p R' _ => q _ _ S' H' p R'.w .non, fun r v S' H' p w' ir => q r v S' H' p w' ir, fun _ _ _ _ z => z.elim, fun _ _ _ _ z => z.elim⟩⟩
/-- behind a call that changed nothing of what stood -/
theorem call_back {K : PySem.W.Frag} {B : Br} {e1 : En} {S1 H1 S' H' : Hp} {σ : L2.St} (R1 : Rel K B e1 S1 σ H1) (w' : Wd ⟨S1, H1, B.deal, fun _ => none⟩ S' H') : Stq B σ e1 S1 H1 e1 S' H' ∧ Rel K B e1 S' σ H' := by
  have hst : Stq B σ e1 S1 H1 e1 S' H' := ⟨⟨w'.bS, fun a o f e => w'.bH a o f e⟩, fun _ _ z _ => z, fun a o f e n => .inl (w'.bN a o e n)⟩
  have hw : Wd B S' H' := by
    refine ⟨w'.sub, fun a o e => w'.bS a o (R1.w.bS a o e), fun a o f e => w'.bH a o f (R1.w.bH a o f e), fun a o e n => ?_, fun p l e => ?_⟩
    · by_cases f : FP B a
      · obtain ⟨_, n2, o2, h2⟩ := R1.w.fp f
        exact w'.bN a o2 h2 (R1.w.bN a o e n)
      · exact w'.bN a o (R1.w.bH a o f e) (R1.w.bN a o e n)
    · obtain ⟨d1, d2⟩ := R1.w.deal p l e
      exact ⟨(w'.deal p l e).1, d2⟩
  exact ⟨hst, R1.stp hw hst.s fun i sv p a ob c => by
    obtain ⟨p', d, a', b', c', _, d2, _⟩ := R1.ob a ob
    rw [c] at a'; cases a'
    exact w'.bN p _ d2 c'⟩
theorem call_deal {K : PySem.W.Frag} {B : Br} {e1 : En} {S1 H1 : Hp} {σ : L2.St} (R1 : Rel K B e1 S1 σ H1) : ∀ p l, B.deal = some (p, l) → DealAt H1 p l ∧ S1 p = none ∧ S1 l = none := fun p l e => by
  obtain ⟨d1, d2, d3, d4, d5⟩ := R1.w.deal p l e
  obtain ⟨⟨o, b1⟩, ⟨o', b2⟩⟩ := And.intro d2 d3
  exact ⟨d1, R1.w.bN p o b1 d4, R1.w.bN l o' b2 d5⟩
theorem call_res {K : PySem.W.Frag} {B : Br} {env e1 : En} {S H S1 H1 S' H' : Hp} {σ : L2.St} {r : SV} {v : V} (R : Rel K B env S σ H) (st : Stq B σ env S H e1 S1 H1) (R1 : Rel K B e1 S1 σ H1) (ir : IsRet K ⟨S1, H1, B.deal, fun _ => none⟩ S' H' r v) : IsR K B e1 S' σ H H' r v := by
  cases r with
  | val d => exact ir
  | own b d =>
    obtain ⟨hb, p, rfl, o1, o2, o, o3, o4⟩ := ir
    exact IsR.back R.w st ⟨hb, p, rfl, ⟨R1.w.bnone o1, o2, o, o3, o4⟩, o1, R1.fresh o1⟩
  | no => exact ir.elim
  | deal => exact ir.elim
  | bor d => exact ir.elim
  | res b d ids =>
    obtain ⟨ne, _, h⟩ := ir
    cases ids with
    | nil => exact absurd rfl ne
    | cons x ids =>
      obtain ⟨q, e, _⟩ := h x List.mem_cons_self
      exact nomatch e
section
variable {X : Cx}
def mCall (n : Nat) (F : FS) (ma : MA) : ME := fun env Q => ma env fun rs e1 => rs.length = n ∧ F rs fun r => Q r e1
theorem de_call {k : Nat} {f : Addr} {fd : FuncData} {ps : List Str} {n : Nat} {F : FS} {x : Str} {e : Expr} {es : List Expr} {p pos : Pos} {ma : MA} (Fk : FnG X.prog X.w X.K X.mg X.base CX0 k f fd ps (spD X.K n F)) (hr : RmG k X.A) (hg : Gl X x) (hm : X.mg x = some (.ref f)) (hk : PySem.W.keepIn X.K (.ref f) = true) (hb : Binds X.K fd ps [])
    (ha : DA Z X (e :: es) ma) (hdb : (x == ("__debug__" : Str)) = false := by decide) (he : starEach (e :: es) X.env = (false, eval e X.env) :: starEach es X.env := by rfl) (hpl : (backTo pos (starEach es X.env)).any (·.1) = false := by rfl) :
    DE Z X (.Call (.Name x p) (e :: es) [] pos) (mCall n F ma) := (pe_callG Fk hr hg hm hk hb ha hdb he hpl).wk fun σ H Q ⟨B, env, S, Q0, R, h, k⟩ => by
  refine ⟨B, env, S, _, R, h, fun rs e1 q vs S1 H1 st R1 al => ?_⟩
  show spD X.K n F vs H1 Q E0
  refine ⟨S1, B.deal, rs, _, R1.w.sub, call_deal R1, al, q.1, q.2, fun r v S' H' q2 w' ir => ?_⟩
  obtain ⟨hst, R'⟩ := call_back R1 w'
  exact k r e1 q2 v S' H' (st.trans hst) R' (call_res R st R1 ir)
end
end Pq
set_option Elab.async false
set_option linter.all false
set_option maxRecDepth 100000
set_option maxHeartbeats 4000000
namespace Pq
open PySem PySem.Spec PyProof.Rows L2 RT
section
variable {prog : Program} {w : World} {A : Around} {E : Value → Shared → Prop} {s : Shared}
theorem extend_rev {R : Result → Shared → Prop} {it l : Addr} {items : Array Value} (hh : A.handled = none) (hit : s.heap.IsRevIter it l ((items.size : Int) - 1)) (hl : s.heap.IsList l items) (hne : l ≠ it) (hn : items.size ≤ sizeLine) (S : Addr) (res : Value) (c0 : Nat) (hSi : S ≠ it) (hSl : S ≠ l)
    (hS : s.heap.get? S = some { cls := .type "list", data := .seq #[] c0 })
    (hR : ∀ h' tk acc' c', (∀ b o, b ≠ S → b ≠ it → s.heap.get? b = some o → h'.get? b = some o) → h'.get? S = some { cls := .type "list", dict := none, data := .seq acc' c', slots := #[] } →
      ItemsOf (fun i v => items[items.size - 1 - i]? = some v) acc' items.size → R (.ok (.ret res)) { s with heap := h', toks := tk }) :
    wpAny (model prog w) A.in1 (Builtin.List.listExtendWith (.ref S) (.ref it) res)
      (fun fin s' => match fin with | .done f => R (.ok f) s' | .again c' => c'.quiet = true ∧ codeAny (model prog w) A c' R s') (fun e s' => R (.error e) s') s := by
  have W := (Walks.listRev (prog := prog) (w := w) (A := A.in1) hh it l hne items).toS
  have hSf : S ∉ [it, l] := by simp only [List.mem_cons, List.not_mem_nil, or_false, not_or]; exact ⟨hSi, hSl⟩
  have hT : s.TypeIs (.ref it) "list_reverseiterator" := hit.typeIs
  have h1 : Builtin.List.listSameRef (.ref S) (.ref it) = false := by simp [Builtin.List.listSameRef, hSi]
  have h2 : (Value.type "list_reverseiterator" == Value.type "list") = false := by decide
  have h3 : (Value.type "list_reverseiterator" == Value.type "tuple") = false := by decide
  unfold Builtin.List.listExtendWith
  refine wpAny_bind (wpAny_typeOf hT ?_)
  simp only [h1, h2, h3, Bool.or_false, Bool.false_eq_true, if_false]
  refine wpAny_bind (wpAny_pyIter_revIter hit ?_)
  refine wpAny_bind (wpAny_holding ?_)
  unfold Builtin.List.listLengthHint
  refine wpAny_bind (wpAny_specialOf hT nolen_lri ?_)
  show wpAny _ A.in1 (specialOf (Value.ref it) (Str.ofString "__length_hint__") >>= _) _ _ _
  refine wpAny_bind (wpAny_specialOf hT hint_lri ?_)
  generalize hid : ("list_reverseiterator.__length_hint__" : String) = id0
  wp_delta
  rw [show splitId id0 = some ("list_reverseiterator", "__length_hint__") from by subst hid; decide +kernel]
  subst hid
  refine wpAny_bind (wpAny_isInstance (b := true) hT (by rw [isSubtype_type]; kernel_rfl) ?_)
  refine wpAny_pure ?_
  rw [if_neg (by decide)]
  have e0 : ((items.size : Nat) : Int) - 1 - ((0 : Nat) : Int) = (items.size : Int) - 1 := by omega
  refine wpAny_pure ⟨plainId_quiet F.plain_extend_loop _, codeAny_extend_loopS W hn _ hSf _ items.size 0 _ _ _ rfl (Nat.zero_le _) ⟨Nat.zero_le _, by rw [e0]; exact hit, hl⟩ hS (ItemsOf.nil _) fun s' acc' c' hm hS' hacc => ?_⟩
  rw [Moved.eq_with hm]
  refine hR s'.heap s'.toks acc' c' (fun b o hb hb2 e => hm.heap b o (fun hmem => ?_) e) hS' hacc
  rcases List.mem_cons.mp hmem with e' | hmem
  · exact hb e'
  · exact hb2 (List.mem_singleton.mp hmem)
theorem init_rev {R : Result → Shared → Prop} {it l : Addr} {items : Array Value} (hh : A.handled = none) (hit : s.heap.IsRevIter it l ((items.size : Int) - 1)) (hl : s.heap.IsList l items) (hne : l ≠ it) (hn : items.size ≤ sizeLine) (S : Addr) (hSi : S ≠ it) (hSl : S ≠ l)
    (hS : s.heap.get? S = some { cls := .type "list", data := .seq #[] })
    (hR : ∀ h' tk acc' c', (∀ b o, b ≠ S → b ≠ it → s.heap.get? b = some o → h'.get? b = some o) → h'.get? S = some { cls := .type "list", dict := none, data := .seq acc' c', slots := #[] } →
      ItemsOf (fun i v => items[items.size - 1 - i]? = some v) acc' items.size → R (.ok (.ret .none)) { s with heap := h', toks := tk }) :
    wpAny (model prog w) A.in1 (Builtin.«list.__init__» ⟨[.ref S, .ref it], []⟩)
      (fun fin s' => match fin with | .done f => R (.ok f) s' | .again c' => c'.quiet = true ∧ codeAny (model prog w) A c' R s') (fun e s' => R (.error e) s') s := by
  show wpAny _ _ (do let old ← Builtin.List.listItems (.ref S); Builtin.List.listUpdate (.ref S) (fun _ => #[]); letGo old.toList.reverse; Builtin.List.listExtendWith (.ref S) (.ref it) .none) _ _ s
  refine wpAny_bind ?_
  unfold Builtin.List.listItems
  refine wpAny_bind (wpAny_seqItems hS rfl (wpAny_pure ?_))
  show wpAny _ _ (updateSeq S (fun _ => #[]) >>= fun _ => letGo (#[] : Array Value).toList.reverse >>= fun _ => Builtin.List.listExtendWith (.ref S) (.ref it) .none) _ _ s
  refine wpAny_bind (wpAny_updateSeq hS rfl ?_)
  have hS₂ := Heap.get?_update_self (Obj.mapSeq (fun _ => (#[] : Array Value))) hS rfl
  have oth : ∀ b o, b ≠ S → s.heap.get? b = some o → (s.heap.update S (Obj.mapSeq (fun _ => (#[] : Array Value)))).get? b = some o :=
    fun b o hb e => (Heap.get?_update_other _ _ (Ne.symm hb)).trans e
  refine wpAny_bind (wpAny_letGo ?_)
  refine extend_rev hh (hit.at fun o e => oth it o (Ne.symm hSi) e) ?_ hne hn S .none _ hSi hSl hS₂ fun h' tk acc' c' hk hS' hacc => ?_
  · obtain ⟨o, ho, r⟩ := hl
    exact ⟨o, oth l o (Ne.symm hSl) ho, r⟩
  · exact hR h' tk acc' c' (fun b o hb hb2 e => hk b o hb hb2 (oth b o hb e)) hS' hacc
theorem call_list_rev {it l : Addr} {items : Array Value} {Q : Value → Shared → Prop} (hh : A.handled = none) (hit : s.heap.IsRevIter it l ((items.size : Int) - 1)) (hl : s.heap.IsList l items) (hne : l ≠ it) (hn : items.size ≤ sizeLine)
    (hQ : ∀ h' tk acc' c', (∀ b o, b ≠ it → s.heap.get? b = some o → h'.get? b = some o) →
      h'.get? s.heap.objs.size = some { cls := .type "list", dict := none, data := .seq acc' c', slots := #[] } → ItemsOf (fun i v => items[items.size - 1 - i]? = some v) acc' items.size → Q (.ref s.heap.objs.size) { s with heap := h', toks := tk }) :
    wpAny (model prog w) A (call (.type "list") [.ref it]) Q E s := by
  obtain ⟨oi, hoi, _⟩ := id hit
  obtain ⟨ol, hol, _⟩ := id hl
  have hSi : s.heap.objs.size ≠ it := Nat.ne_of_gt (Heap.lt_size hoi)
  have hSl : s.heap.objs.size ≠ l := Nat.ne_of_gt (Heap.lt_size hol)
  refine callType_codes (Q₁ := fun obj s₁ => obj = .ref s.heap.objs.size ∧ s₁ = { s with heap := s.heap.push { cls := .type "list", data := .seq #[] } }) PySem.F.called_list (PySem.F.typeCall_list_1 _) PySem.F.entry_list_init
    (code_list_new _ ⟨rfl, rfl⟩) fun obj s₁ h₁ => ?_
  obtain ⟨rfl, rfl⟩ := h₁
  have hS : (s.heap.push { cls := .type "list", data := .seq #[] }).get? s.heap.objs.size = some { cls := .type "list", data := .seq #[] } := Heap.get?_push_size _ rfl
  refine ⟨⟨_, hS, rfl⟩, PySem.F.args_list_init_2 _ _, init_rev (A := A.in1) hh (hit.at fun o e => Heap.get?_push_of_some _ e) (hl.push _) hne hn _ hSi hSl hS fun h' tk acc' c' hk hS' hacc => ?_⟩
  exact ⟨rfl, hQ h' tk acc' c' (fun b o hb e => hk b o (Nat.ne_of_lt (Heap.lt_size e)) hb (Heap.get?_push_of_some _ e)) hS' hacc⟩
end
/-- list(reversed(xs)) -/
def tLstRev (te : TE) : TE := fun σ H Q => te σ H fun v H1 => ∃ (a : Addr) (xs : List V), v = .ref a ∧ Rd H1 a (.lst xs) ∧ ∀ q, H1 q = none → Q (.ref q) (upd H1 q (.lst xs.reverse))
section
variable {X : Cx}
theorem pe_lstRev {e : Expr} {te : TE} {p p2 pos pos2 : Pos} (hc : X.calm = true) (hg : Gl X "list") (hm : X.mg "list" = none) (hg2 : Gl X "reversed") (hm2 : X.mg "reversed" = none) (he : PE X e te)
    (hs : starEach [e] X.env = (false, eval e X.env) :: starEach [] X.env := by rfl)
    (hs2 : starEach [.Call (.Name "reversed" p2) [e] [] pos2] X.env = (false, eval (.Call (.Name "reversed" p2) [e] [] pos2) X.env) :: starEach [] X.env := by rfl) :
    PE X (.Call (.Name "list" p) [.Call (.Name "reversed" p2) [e] [] pos2] [] pos) (tLstRev te) := by
  refine ⟨fun pins s σ H Q I h => ?_⟩
  refine Call_ (ld_blt I hg hm boot_list (PyProof.Rows.callWith_type1 (args_cons (Call_ (ld_blt I hg2 hm2 PyProof.Rows.boot_reversed (PyProof.Rows.callWith_type1 (args_cons (thn (he.run pins s σ H _ I h) fun u s1 ⟨v, H1, I1, r1, q1⟩ => args_nil ?_) hs) hs rfl))) hs2) hs2 rfl))
  obtain ⟨a, xs, ev, hq, q⟩ := q1
  subst ev
  obtain rfl : u = Value.ref a := r1
  obtain ⟨its, rv, p', hz⟩ := I1.list (.inl hq)
  refine call_reversed_list p'.isList (args_nil ?_)
  have k0 : ∀ b o, s1.heap.get? b = some o → (s1.heap.push (revObj a ((its.toArray.size : Int) - 1))).get? b = some o := fun b o e => Heap.get?_push_of_some _ e
  have I2 : Inv X pins σ H1 { s1 with heap := s1.heap.push (revObj a ((its.toArray.size : Int) - 1)) } := I1.kept (t' := s1.toks) k0
  obtain ⟨f0, f1, f2, f3, f4, f5⟩ := I1.fpOk (H' := H1) (b := s1.heap.objs.size) (Nat.le_refl _) (I1.hok.fresh (Nat.le_refl _))
  have hl := p'.isList
  obtain ⟨ol, hol, _⟩ := id hl
  have hne : a ≠ s1.heap.objs.size := Nat.ne_of_lt (Heap.lt_size hol)
  have hn : its.toArray.size ≤ sizeLine := by rw [List.size_toArray, ← rv.length]; exact hz
  have hS0 : H1 (s1.heap.push (revObj a ((its.toArray.size : Int) - 1))).objs.size = none := I1.hok.fresh (by rw [Heap.size_push]; exact Nat.le_succ _)
  refine call_list_rev (s := { s1 with heap := s1.heap.push (revObj a ((its.toArray.size : Int) - 1)) }) (I1.ok.hd hc) ⟨_, Heap.get?_push_size _ rfl, rfl, rfl⟩ (hl.push _) hne hn fun h' tk acc c' hk hS' hi => ?_
  have I3 : Inv X pins σ H1 { s1 with heap := h', toks := tk } := I2.turned (t' := tk) (fun b o hb e => hk b o hb e) f0 f1 f3 f4 f5
  have up1 : ∀ (b : Addr) (o : HO), H1 b = some o → upd H1 (s1.heap.push (revObj a ((its.toArray.size : Int) - 1))).objs.size (.lst xs.reverse) b = some o := fun b o e => by rw [upd_ne (ne_of_none e hS0)]; exact e
  have hokS : HOk X.prog X.w (upd H1 (s1.heap.push (revObj a ((its.toArray.size : Int) - 1))).objs.size (.lst xs.reverse)) h' := fun b u e => by
    by_cases hb : b = (s1.heap.push (revObj a ((its.toArray.size : Int) - 1))).objs.size
    · subst hb
      rw [upd_same] at e; cases e
      exact ⟨by rw [List.length_reverse]; exact hz, acc.toList, c', vals_rev rv hi, by rw [Array.toArray_toList]; exact hS'⟩
    · rw [upd_ne hb] at e
      exact (I3.hok b u e).stay (fun c v _ q => q) (fun c q => up1 c _ q) fun c ys q => up1 c _ q
  have J : L2.Inv X pins σ (upd H1 (s1.heap.push (revObj a ((its.toArray.size : Int) - 1))).objs.size (.lst xs.reverse)) { s1 with heap := h', toks := tk } := by
    refine Inv.step (s := { s1 with heap := s1.heap.push (revObj a ((its.toArray.size : Int) - 1)) }) (h' := h') I2 (g' := s1.gens) (d' := s1.drawn) (t' := tk) (ch := [s1.heap.objs.size]) (fun b hb => ?_) (fun b o _ _ hc e _ => hk b o (fun z => hc (by simp [z])) e) (fun b o _ _ hc e _ => ⟨o.slots, hk b o (fun z => hc (by simp [z])) e⟩) (fun b o _ e n => ?_)
      (fun b o hc e => ⟨o, hk b o (fun z => hc (by simp [z])) e⟩) (fun b ys e => up1 b _ e) (fun b o u e => up1 b _ e) (fun b ps e => ⟨#[], by rw [up1 b _ e]; simp⟩) (fun m hm => ?_) hokS I2.bare
    · have e : b = s1.heap.objs.size := by simpa using hb
      subst e
      exact ⟨f3, f1, f4, f5⟩
    · have nb : b ≠ (s1.heap.push (revObj a ((its.toArray.size : Int) - 1))).objs.size := Nat.ne_of_lt (Heap.lt_size e)
      rw [upd_ne nb]; exact n
    · obtain ⟨o, es, ep, ho, r⟩ := hm
      exact ⟨o, es, ep, hk _ o (Ne.symm f1) ho, r⟩
  exact ⟨.ref _, _, J, rfl, q _ hS0⟩
end
end Pq
set_option Elab.async false
set_option linter.all false
set_option maxRecDepth 100000
set_option maxHeartbeats 4000000
namespace Pq
open PySem PySem.Spec PyProof.Rows L2
/-! ### the deal: a dict of three -/
abbrev kSeed : Key := Sum.inr "seed"
abbrev kNum : Key := Sum.inr "number"
abbrev kLeft : Key := Sum.inr "left"
def dk3 (s n l : V) : List (Key × V) := [(kSeed, s), (kNum, n), (kLeft, l)]
theorem ne_sn : ¬ (Str.ofString "seed" = Str.ofString "number") := by decide +kernel
theorem ne_sl : ¬ (Str.ofString "seed" = Str.ofString "left") := by decide +kernel
theorem ne_nl : ¬ (Str.ofString "number" = Str.ofString "left") := by decide +kernel
theorem ne_ns : ¬ (Str.ofString "number" = Str.ofString "seed") := by decide +kernel
theorem ne_ls : ¬ (Str.ofString "left" = Str.ofString "seed") := by decide +kernel
theorem ne_ln : ¬ (Str.ofString "left" = Str.ofString "number") := by decide +kernel
theorem get_seed (s n l : V) : valV (dk3 s n l) kSeed = some s := by simp [valV, dk3]
theorem get_num (s n l : V) : valV (dk3 s n l) kNum = some n := by simp [valV, dk3, ne_sn]
theorem get_left (s n l : V) : valV (dk3 s n l) kLeft = some l := by simp [valV, dk3, ne_sl, ne_nl]
theorem put_num (s n l v : V) : putK (dk3 s n l) kNum v = dk3 s v l := by simp [putK, dk3, ne_sn, ne_ln]
theorem put_seed (s n l v : V) : putK (dk3 s n l) kSeed v = dk3 v n l := by simp [putK, dk3, ne_ns, ne_ls]
theorem merge3 (s n l : V) : mergeK [] [(kSeed, s), (kNum, n), (kLeft, l)] = dk3 s n l := by
  simp [mergeK, putK, dk3, ne_sn, ne_sl, ne_nl]
/-- the deal while it is drawn from -/
structure Dl (H : Hp) (p l : Addr) (seed num : Int) (left : List Int) (H' : Hp) : Prop where
  ne : p ≠ l
  hp : H' p = some (.dK (dk3 (.int seed) (.int num) (.ref l)))
  hl : H' l = some (.lst (left.map V.int))
  s0 : 0 ≤ seed
  s1 : seed < 2 ^ 32
  n0 : 0 ≤ num
  few : left.length ≤ 63
  pos : ∀ x ∈ left, 0 ≤ x
  off : ∀ a, a ≠ p → a ≠ l → H' a = H a
theorem Dl.at {H H' : Hp} {p l : Addr} {seed num : Int} {left : List Int} (d : Dl H p l seed num left H') : DealAt H' p l := ⟨d.ne, seed, num, left, d.hp, d.hl, d.s0, d.s1, d.n0, d.few, d.pos⟩
theorem Dl.start {H : Hp} {p l : Addr} (d : DealAt H p l) : ∃ seed num left, Dl H p l seed num left H := by
  obtain ⟨ne, seed, num, left, a, b, c, e, f, g, h⟩ := d
  exact ⟨seed, num, left, ne, a, b, c, e, f, g, h, fun _ _ _ => rfl⟩
theorem Dl.num {H H' : Hp} {p l : Addr} {seed num x : Int} {left : List Int} (d : Dl H p l seed num left H') (hx : 0 ≤ x) : Dl H p l seed x left (upd H' p (.dK (putK (dk3 (.int seed) (.int num) (.ref l)) kNum (.int x)))) :=
  ⟨d.ne, by rw [upd_same, put_num], by rw [upd_ne d.ne.symm]; exact d.hl, d.s0, d.s1, hx, d.few, d.pos, fun a h1 h2 => by rw [upd_ne h1]; exact d.off a h1 h2⟩
theorem Dl.seed {H H' : Hp} {p l : Addr} {seed num x : Int} {left : List Int} (d : Dl H p l seed num left H') (hx : 0 ≤ x) (hx1 : x < 2 ^ 32) : Dl H p l x num left (upd H' p (.dK (putK (dk3 (.int seed) (.int num) (.ref l)) kSeed (.int x)))) :=
  ⟨d.ne, by rw [upd_same, put_seed], by rw [upd_ne d.ne.symm]; exact d.hl, hx, hx1, d.n0, d.few, d.pos, fun a h1 h2 => by rw [upd_ne h1]; exact d.off a h1 h2⟩
theorem Dl.left {H H' : Hp} {p l : Addr} {seed num : Int} {left left' : List Int} (d : Dl H p l seed num left H') (h1 : left'.length ≤ 63) (h2 : ∀ x ∈ left', 0 ≤ x) : Dl H p l seed num left' (upd H' l (.lst (left'.map V.int))) :=
  ⟨d.ne, by rw [upd_ne d.ne]; exact d.hp, upd_same, d.s0, d.s1, d.n0, h1, h2, fun a e1 e2 => by rw [upd_ne e2]; exact d.off a e1 e2⟩
theorem Dl.gnum {H H' : Hp} {p l : Addr} {seed num : Int} {left : List Int} (d : Dl H p l seed num left H') : DGet H' p (.str "number") (some (.int num)) := by
  have h := DGet.k (k := kNum) d.hp
  rw [get_num] at h
  exact h
theorem Dl.gseed {H H' : Hp} {p l : Addr} {seed num : Int} {left : List Int} (d : Dl H p l seed num left H') : DGet H' p (.str "seed") (some (.int seed)) := by
  have h := DGet.k (k := kSeed) d.hp
  rw [get_seed] at h
  exact h
theorem Dl.gleft {H H' : Hp} {p l : Addr} {seed num : Int} {left : List Int} (d : Dl H p l seed num left H') : DGet H' p (.str "left") (some (.ref l)) := by
  have h := DGet.k (k := kLeft) d.hp
  rw [get_left] at h
  exact h
theorem Dl.pnum {H H' : Hp} {p l : Addr} {seed num x : Int} {left : List Int} (d : Dl H p l seed num left H') : DPut H' p (.str "number") (.int x) (upd H' p (.dK (putK (dk3 (.int seed) (.int num) (.ref l)) kNum (.int x)))) :=
  DPut.k (k := kNum) d.hp (by show 3 < sizeLine; decide)
theorem Dl.pseed {H H' : Hp} {p l : Addr} {seed num x : Int} {left : List Int} (d : Dl H p l seed num left H') : DPut H' p (.str "seed") (.int x) (upd H' p (.dK (putK (dk3 (.int seed) (.int num) (.ref l)) kSeed (.int x)))) :=
  DPut.k (k := kSeed) d.hp (by show 3 < sizeLine; decide)
/-- a draw: any number below many -/
def fDraw : FS := fun rs Q => match rs with
  | [.deal, .val (.int many)] => (0 < many ∧ many < 2 ^ 64) ∧ ∀ r, 0 ≤ r → r < many → Q (.val (.int r))
  | _ => False
theorem draw_spec {K : PySem.W.Frag} {vs : List V} {H : Hp} {Q : VK} {E : XK} (h : spD K 2 fDraw vs H Q E) : ∃ p l many, vs = [.ref p, .int many] ∧ DealAt H p l ∧ 0 < many ∧ many < 2 ^ 64 ∧
    ∀ r H' seed num left, 0 ≤ r → r < many → Dl H p l seed num left H' → Q (.int r) H' := by
  obtain ⟨S, dl, rs, Q0, up, dk, al, hl, hF, q⟩ := h
  unfold fDraw at hF
  split at hF
  · rename_i many
    obtain ⟨p, l, r', rfl, e, al2⟩ := al
    obtain ⟨v, r2, rfl, dv, al3⟩ := al2
    cases (show r2 = [] from al3)
    cases dv
    obtain ⟨d1, d2, d3⟩ := dk p l e
    obtain ⟨_, _, _, _, b1, b2, _⟩ := id d1
    refine ⟨p, l, many, rfl, d1, hF.1.1, hF.1.2, fun r H' seed num left h0 h1 d => q _ _ S H' (hF.2 r h0 h1) ⟨fun a o x => ?_, fun _ _ z => z, fun a o f x => ?_, fun _ _ _ z => z, fun p' l' e' => ?_⟩ (.int r)⟩
    · have na : a ≠ p := fun z => by subst z; rw [d2] at x; cases x
      have nl : a ≠ l := fun z => by subst z; rw [d3] at x; cases x
      rw [d.off a na nl]; exact up a o x
    · have na : a ≠ p := fun z => f ⟨p, l, e, .inl z⟩
      have nl : a ≠ l := fun z => f ⟨p, l, e, .inr z⟩
      rw [d.off a na nl]; exact x
    · have e' : dl = some (p', l') := e'
      rw [e] at e'; cases e'
      exact ⟨d.at, ⟨_, b1⟩, ⟨_, b2⟩, d2, d3⟩
  · exact hF.elim
theorem spD_len {K : PySem.W.Frag} {n : Nat} {F : FS} {vs : List V} {H : Hp} {Q : VK} {E : XK} (h : spD K n F vs H Q E) : vs.length = n := by
  obtain ⟨S, dl, rs, Q0, _, _, al, hl, _⟩ := h
  rw [al.length, hl]
/-- a def that may be called by its name -/
structure Cal (P : Program) (w : World) (K : PySem.W.Frag) (mg : Str → Option Value) (base : Heap) (x : Str) (k n : Nat) (F : FS) : Prop where
  ex : ∃ (f : Addr) (fd : FuncData) (ps : List Str), FnG P w K mg base CX0 k f fd ps (spD K n F) ∧ Binds K fd ps [] ∧ mg x = some (.ref f) ∧ PySem.W.keepIn K (.ref f) = true
theorem de_callC {X : Cx} {k j n : Nat} {F : FS} {x : Str} {e : Expr} {es : List Expr} {p pos : Pos} {ma : MA} (C : Cal X.prog X.w X.K X.mg X.base x k n F) (hr : RmG j X.A) (hkj : k ≤ j) (hg : Gl X x)
    (ha : DA Z X (e :: es) ma) (hdb : (x == ("__debug__" : Str)) = false := by decide) (he : starEach (e :: es) X.env = (false, eval e X.env) :: starEach es X.env := by rfl) (hpl : (backTo pos (starEach es X.env)).any (·.1) = false := by rfl) :
    DE Z X (.Call (.Name x p) (e :: es) [] pos) (mCall n F ma) := by
  obtain ⟨f, fd, ps, G, b, m, kp⟩ := C.ex
  exact de_call G (hr.mono hkj) hg m kp b ha hdb he hpl
theorem hu65 {A : Around} {k : Nat} (hr : RmG k A) : A.units + 65 < cLine := by have := hr.rm.un; omega
theorem pz (n : Nat) (h : 0 < n) : (0 : Int) < (n : Int) := by omega
/-- the deal's promise -/
def spDeal (K : PySem.W.Frag) : Sp := fun vs H Q _ => ∃ (a : Addr) (ns : List Int) (b : Int), vs = [.ref a, .int b] ∧ SqL K H a (ns.map V.int) ∧ ns.length ≤ 63 ∧ 0 ≤ b ∧ b ≤ 63 ∧
  ∀ p l H', Same H H' → H p = none → H l = none → DealAt H' p l → Q (.ref p) H'
theorem cut_ints (ns : List Int) (lo hi : Option Int) : ∃ ms : List Int, cutV (ns.map V.int) lo hi = ms.map V.int ∧ ms.length ≤ ns.length := by
  refine ⟨((ns.drop (HT.sIx (ns.map V.int).length 0 lo)).take (HT.sIx (ns.map V.int).length (ns.map V.int).length hi - HT.sIx (ns.map V.int).length 0 lo)), ?_, ?_⟩
  · unfold cutV
    rw [List.map_take, List.map_drop]
  · rw [List.length_take, List.length_drop]
    omega
theorem same_new {H : Hp} {p : Addr} {o : HO} (h : H p = none) : Same H (upd H p o) := fun b x e => by
  rw [upd_ne (ne_of_none e h)]
  exact e
theorem map_at {ms : List Int} {i : Nat} {x : V} (h : (ms.map V.int)[i]? = some x) : ∃ z, ms[i]? = some z ∧ x = .int z := by
  rw [List.getElem?_map] at h
  cases e : ms[i]? with
  | none => rw [e] at h; cases h
  | some z => rw [e] at h; exact ⟨z, rfl, (Option.some.inj h).symm⟩
/-- law's promise: whatever the script, True -/
def spLaw (K : PySem.W.Frag) : Sp := fun vs H Q _ => ∃ (a : Addr) (ns : List Int), vs = [.ref a] ∧ SqL K H a (ns.map V.int) ∧ ns.length ≤ 63 ∧ ∀ H', Q (.bl true) H'
def eTrue : EM := ⟨fun _ => False, fun r => r = .val (.bool true), fun _ => False, fun _ => False⟩
theorem law_read {X : Cx} {N : List Str} {m : Nat} {M : MS} {a : Addr} {ns : List Int} {H : Hp} {Q : VK} (hN : N.length = m + 2) (hM : M (.no :: .deal :: List.replicate m .no) eTrue) (hS : SqL X.K H a (ns.map V.int)) (hlen : ns.length ≤ 63) (q : ∀ H', Q (.bl true) H') :
    tSeq (tAsg (tCall (spDeal X.K) [] E0 (tCons (tVar 0) (tCons (tC (.int 0)) tNil))) (gName 1)) (tSt (z0 X.K) X.K M) { nx := fun _ H' => Q .non H', rt := Q } (L2.start N [.ref a]) H := by
  have e0 : L2.start N [V.ref a] = some (V.ref a) :: none :: List.replicate m none := by
    unfold L2.start
    rw [hN]
    show some (V.ref a) :: List.replicate (m + 2 - 1) none = _
    rw [show m + 2 - 1 = m + 1 by omega, List.replicate_succ]
  rw [e0]
  refine ⟨.ref a, rfl, a, ns, 0, rfl, hS, hlen, Int.le_refl 0, by decide, fun p l H' same np nl dl => ?_⟩
  obtain ⟨_, _, _, _, b1, b2, _⟩ := id dl
  refine ⟨b0 X.K ⟨H, H', some (p, l), fun _ => none⟩, .no :: .deal :: List.replicate m .no, H, eTrue, ⟨⟨same, fun _ _ z => z, fun _ _ _ z => z, fun _ _ _ z => z, fun p' l' e => ?_⟩, ?_, fun i d h => ?_, fun i h => ?_, fun i b d h => ?_, fun i j b c d e p h => ?_, fun i d h => ?_, fun i j b d e p h => ?_, fun i j p h => nomatch h⟩, hM, ⟨fun _ _ _ _ z => z.elim, fun r v S' H' z _ ir => ?_, fun _ _ _ _ z => z.elim, fun _ _ _ _ z => z.elim⟩⟩
  · have e : some (p, l) = some (p', l') := e
    cases e
    exact ⟨dl, ⟨_, b1⟩, ⟨_, b2⟩, np, nl⟩
  · simp
  · match i, h with
    | 0, h => cases h
    | 1, h => cases h
    | i + 2, h => cases List.eq_of_mem_replicate (List.mem_of_getElem? (show (List.replicate m SV.no)[i]? = some _ from h))
  · match i, h with
    | 0, h => cases h
    | 1, h => exact ⟨p, l, rfl, rfl⟩
    | i + 2, h => cases List.eq_of_mem_replicate (List.mem_of_getElem? (show (List.replicate m SV.no)[i]? = some _ from h))
  · match i, h with
    | 0, h => cases h
    | 1, h => cases h
    | i + 2, h => cases List.eq_of_mem_replicate (List.mem_of_getElem? (show (List.replicate m SV.no)[i]? = some _ from h))
  · match i, h with
    | 0, h => cases h
    | 1, h => cases h
    | i + 2, h => cases List.eq_of_mem_replicate (List.mem_of_getElem? (show (List.replicate m SV.no)[i]? = some _ from h))
  · match i, h with
    | 0, h => cases h
    | 1, h => cases h
    | i + 2, h => cases List.eq_of_mem_replicate (List.mem_of_getElem? (show (List.replicate m SV.no)[i]? = some _ from h))
  · match i, h with
    | 0, h => cases h
    | 1, h => cases h
    | i + 2, h => cases List.eq_of_mem_replicate (List.mem_of_getElem? (show (List.replicate m SV.no)[i]? = some _ from h))
  · subst z
    cases ir
    exact q H'
theorem walk_law {l : PySem.W.OpenLaw} {q : Program} {loose : List Str} {XP : (Str → Option Value) → Heap → Prop} {YP : World → Heap → Prop} {d : DefRec} {K : Params → PySem.W.Frag} {k : Nat} (hn : l.most = some 63) (hdf : d.params.defaults = []) (hr : RmG k callerA)
    (hY : ∀ (w : World) (h : Heap), YP w h → (K w.params).In h)
    (F : ∀ (w : World) (mg : Str → Option Value) (fa : Addr) (h : Heap), (K w.params).In h → h.Ns mainGlobals mg → mg d.name = some (.ref fa) →
      ∃ fd : FuncData, (∀ (s : Shared) (u : Value), BindsTo s fd ⟨[u], []⟩ [("_law_script", u)]) ∧ ∀ base : Heap, (K w.params).In base → base.Ns mainGlobals mg → FnG l.prog w (K w.params) mg base CX0 k fa fd ["_law_script"] (spLaw (K w.params))) :
    PySem.W.WalkO q loose XP YP l.row.toRowW d [] (fun f vs => PySem.call f vs) :=
  walk_g (n := 63) (k := k) (x := "_law_script") (sp := fun w => spLaw (K w.params)) hn (by decide) hdf hr hY F fun _ _ a ns hl _ hS => ⟨a, ns, rfl, hS, hl, fun _ => rfl⟩
end Pq
set_option Elab.async false
set_option linter.all false
set_option maxRecDepth 100000
set_option maxHeartbeats 4000000
namespace Pq
open PySem PySem.Spec PyProof.Rows L2
theorem iteD {p A B : Prop} [Decidable p] (h1 : p → A) (h2 : ¬ p → B) : if decide p = true then A else B := by
  by_cases h : p
  · rw [if_pos (decide_eq_true h)]; exact h1 h
  · rw [if_neg (by rw [decide_eq_false h]; exact Bool.false_ne_true)]; exact h2 h
theorem iteDn {p A B : Prop} [Decidable p] (h1 : ¬ p → A) (h2 : p → B) : if (!decide p) = true then A else B := by
  by_cases h : p
  · rw [if_neg (by rw [decide_eq_true h]; exact Bool.false_ne_true)]; exact h2 h
  · rw [if_pos (by rw [decide_eq_false h]; rfl)]; exact h1 h
/-- a comprehension: its tests and elements one by one -/
theorem lc_all {env : En} {g : MG} {mt : MT} {me : ME} (p : Da → Bool) (f : Da → Da) : ∀ (ds acc : List Da) (Q : List Da → Prop),
    (∀ d ∈ ds, ∀ (K : Da → Prop) (N : Prop), (p d = true → K (f d)) → (p d = false → N) → g d env fun e2 => mt e2 fun b e3 => if b = true then me e3 fun r _ => (match r with
      | .val x => K x
      | .own _ x => K x
      | _ => False) else N) → (∀ res, res = acc ++ (ds.filter p).map f → Q res) → lcGo env g mt me ds acc Q
  | [], acc, Q, _, q => by
    rw [lcGo]
    exact q acc (by simp)
  | d :: ds, acc, Q, h, q => by
    rw [lcGo]
    refine h d List.mem_cons_self (fun x => lcGo env g mt me ds (acc ++ [x]) Q) _ (fun hp => ?_) (fun hp => ?_)
    · refine lc_all p f ds _ Q (fun d hd => h d (List.mem_cons_of_mem _ hd)) ?_
      intro res e
      exact q res (by rw [e, List.filter_cons_of_pos hp]; simp)
    · refine lc_all p f ds _ Q (fun d hd => h d (List.mem_cons_of_mem _ hd)) ?_
      intro res e
      exact q res (by rw [e, List.filter_cons_of_neg (by simp [hp])])
/-- without tests -/
theorem lc_map {env : En} {g : MG} {me : ME} (f : Da → Da) (ds acc : List Da) (Q : List Da → Prop)
    (h : ∀ d ∈ ds, ∀ (K : Da → Prop), K (f d) → g d env fun e2 => me e2 fun r _ => (match r with
      | .val x => K x
      | .own _ x => K x
      | _ => False)) (q : ∀ res, res = acc ++ ds.map f → Q res) : lcGo env g mYes me ds acc Q := by
  refine lc_all (fun _ => true) f ds acc Q (fun d hd K N hK _ => ?_) (fun res e => q res (by rw [e, List.filter_eq_self.mpr (fun _ _ => rfl)]))
  exact h d hd K (hK rfl)
/-- a for loop by its invariant -/
theorem for_inv {g : MG} {body : MS} {E : EM} (I : List Da → En → Prop) : ∀ (ds : List Da) (env : En), I ds env →
    (∀ d r e, I (d :: r) e → ∀ N : En → Prop, (∀ e', I r e' → N e') → g d e fun e2 => body e2 ⟨N, E.rt, E.nx, N⟩) → (∀ e, I [] e → E.nx e) → forGo g body ds env E
  | [], env, h, _, q => by
    rw [forGo]
    exact q env h
  | d :: ds, env, h, st, q => by
    rw [forGo]
    exact st d ds env h _ fun e' i => for_inv I ds e' i st q
theorem wh_go {c : MT} {body : MS} {E : EM} (I : Nat → En → Prop)
    (st : ∀ m e, I m e → ∀ N : En → Prop, (∀ m' e', m' < m → I m' e' → N e') → c e fun b e1 => if b = true then body e1 ⟨N, E.rt, E.nx, N⟩ else E.nx e1) : ∀ (n m : Nat) (env : En), m < n → I m env → whGo c body n env E
  | 0, _, _, h, _ => absurd h (Nat.not_lt_zero _)
  | n + 1, m, env, h, i => by
    rw [whGo]
    exact st m env i _ fun m' e' hm i' => wh_go I st n m' e' (by omega) i'
/-- a while loop by its invariant and a measure -/
theorem wh_inv {c : MT} {body : MS} {env : En} {E : EM} (I : Nat → En → Prop) (m : Nat) (h : I m env)
    (st : ∀ m e, I m e → ∀ N : En → Prop, (∀ m' e', m' < m → I m' e' → N e') → c e fun b e1 => if b = true then body e1 ⟨N, E.rt, E.nx, N⟩ else E.nx e1) : msWhile c body env E := ⟨m + 1, wh_go I st (m + 1) m env (Nat.lt_succ_self m) h⟩
mutual
theorem eqv_refl : ∀ d : Da, d.canLay0 = true → PyData.eqv d d = true
  | .none, _ => by simp [PyData.eqv]
  | .bool b, _ => by simp [PyData.eqv]
  | .int i, _ => by simp [PyData.eqv]
  | .str x, _ => by simp [PyData.eqv]
  | .list ds, h => by
    have h1 : PyData.canLayAll0 ds = true := by simpa [PyData.canLay0] using h
    simp only [PyData.eqv]
    exact eqvAll_refl ds h1
  | .tuple ds, h => by
    have h1 : PyData.canLayAll0 ds = true := by simpa [PyData.canLay0] using h
    simp only [PyData.eqv]
    exact eqvAll_refl ds h1
  | .dict kvs, h => by simp [PyData.canLay0] at h
theorem eqvAll_refl : ∀ ds : List Da, PyData.canLayAll0 ds = true → PyData.eqvAll ds ds = true
  | [], _ => by simp [PyData.eqvAll]
  | d :: ds, h => by
    have h' : d.canLay0 = true ∧ PyData.canLayAll0 ds = true := by simpa [PyData.canLayAll0] using h
    simp only [PyData.eqvAll, eqv_refl d h'.1, eqvAll_refl ds h'.2, Bool.and_self]
end
/-- data that may be compared, of at most such a depth -/
def Lay (n : Nat) (d : Da) : Prop := d.canLay0 = true ∧ d.depth ≤ n
theorem Lay.shaped {n : Nat} {d : Da} (h : Lay n d) (hn : n ≤ 64) : SeqAt.shaped d = true := by
  unfold SeqAt.shaped
  rw [h.1, Bool.true_and]
  exact decide_eq_true (Nat.le_trans h.2 hn)
theorem lay_int {n : Nat} {i : Int} : Lay n (.int i) := ⟨by simp [PyData.canLay0], by simp [PyData.depth]⟩
theorem layAll {n : Nat} : ∀ {ds : List Da}, (∀ d ∈ ds, Lay n d) → PyData.canLayAll0 ds = true ∧ PyData.depthAll ds ≤ n
  | [], _ => ⟨by simp [PyData.canLayAll0], by simp [PyData.depthAll]⟩
  | d :: ds, h => by
    obtain ⟨a, b⟩ := layAll (ds := ds) fun x hx => h x (List.mem_cons_of_mem _ hx)
    obtain ⟨c, e⟩ := h d List.mem_cons_self
    refine ⟨by simp [PyData.canLayAll0, a, c], ?_⟩
    simp only [PyData.depthAll]
    omega
theorem lay_tup {n : Nat} {ds : List Da} (h : ∀ d ∈ ds, Lay n d) : Lay (n + 1) (.tuple ds) := by
  obtain ⟨a, b⟩ := layAll h
  exact ⟨by simp [PyData.canLay0, a], by simp only [PyData.depth]; omega⟩
theorem lay_lst {n : Nat} {ds : List Da} (h : ∀ d ∈ ds, Lay n d) : Lay (n + 1) (.list ds) := by
  obtain ⟨a, b⟩ := layAll h
  exact ⟨by simp [PyData.canLay0, a], by simp only [PyData.depth]; omega⟩
theorem Lay.up {n m : Nat} {d : Da} (h : Lay n d) (hm : n ≤ m) : Lay m d := ⟨h.1, Nat.le_trans h.2 hm⟩
theorem lay_pair {n : Nat} {c d : Da} (h1 : Lay n c) (h2 : Lay n d) : Lay (n + 1) (.tuple [c, d]) := lay_tup fun x hx => by
  rcases List.mem_cons.mp hx with rfl | hx
  · exact h1
  · rw [List.mem_singleton.mp hx]; exact h2
theorem Lay.refl {n : Nat} {d : Da} (h : Lay n d) : PyData.eqv d d = true := eqv_refl d h.1
theorem bools_map {α : Type} (f : α → Bool) : ∀ L : List α, bools? (L.map fun x => .bool (f x)) = some (L.map f)
  | [] => rfl
  | x :: L => by
    have ih := bools_map f L
    rw [List.map_cons, bools?, ih]
    rfl
theorem w_all {α : Type} (L : List α) (f : α → Bool) (Q : SV → Prop) (h : Q (.val (.bool (L.all f)))) : fAll [.list (L.map fun x => .bool (f x))] Q := by
  unfold fAll
  simp only [bools_map]
  rw [List.all_map]
  exact h
/-! ### ranges -/
def rgI (a b : Int) : List Int := (List.range (b - a).toNat).map fun i => a + (i : Nat)
theorem rgD_I (a b : Int) : rgD a b = (rgI a b).map .int := by unfold rgD rgI; rw [List.map_map]; rfl
theorem mem_rgI {a b x : Int} : x ∈ rgI a b ↔ a ≤ x ∧ x < b := by
  unfold rgI
  rw [List.mem_map]
  constructor
  · rintro ⟨i, hi, rfl⟩
    rw [List.mem_range] at hi
    omega
  · rintro ⟨h1, h2⟩
    exact ⟨(x - a).toNat, by rw [List.mem_range]; omega, by omega⟩
theorem rgI_len (a b : Int) : (rgI a b).length = (b - a).toNat := by unfold rgI; rw [List.length_map, List.length_range]
theorem rgI_nil {a b : Int} (h : b ≤ a) : rgI a b = [] := by
  have : (b - a).toNat = 0 := by omega
  unfold rgI; rw [this]; rfl
theorem rgI_app {a b c : Int} (h1 : a ≤ b) (h2 : b ≤ c) : rgI a c = rgI a b ++ rgI b c := by
  unfold rgI
  have e : (c - a).toNat = (b - a).toNat + (c - b).toNat := by omega
  rw [e, List.range_add, List.map_append, List.map_map]
  congr 1
  apply List.map_congr_left
  intro i _
  show a + (((b - a).toNat + i : Nat) : Int) = b + (i : Nat)
  omega
theorem rgI_one (a : Int) : rgI a (a + 1) = [a] := by
  have : (a + 1 - a).toNat = 1 := by omega
  unfold rgI; rw [this]; simp
theorem rgI_cons {a b : Int} (h : a < b) : rgI a b = a :: rgI (a + 1) b := by
  rw [rgI_app (b := a + 1) (by omega) (by omega), rgI_one]; rfl
end Pq
set_option Elab.async false
set_option linter.all false
set_option maxRecDepth 100000
set_option maxHeartbeats 4000000
namespace Pq
open PySem PySem.Spec PyProof.Rows L2
/-! ### max, min of one list or tuple of ints -/
theorem best_lt (f : Nat → Int) : ∀ k, (∀ i, i ≤ k → f (argBest (fun i j => decide (f i < f j)) k) ≤ f i) ∧ argBest (fun i j => decide (f i < f j)) k ≤ k
  | 0 => ⟨fun i hi => by cases Nat.le_zero.mp hi; exact Int.le_refl _, Nat.le_refl _⟩
  | k + 1 => by
    obtain ⟨ih, lk⟩ := best_lt f k
    rw [argBest]
    by_cases c : f (k + 1) < f (argBest (fun i j => decide (f i < f j)) k)
    · rw [if_pos (decide_eq_true c)]
      refine ⟨fun i hi => ?_, Nat.le_refl _⟩
      rcases Nat.lt_or_ge k i with z | z
      · rw [show i = k + 1 by omega]; exact Int.le_refl _
      · have := ih i z; omega
    · rw [if_neg (by simpa using c)]
      refine ⟨fun i hi => ?_, by omega⟩
      rcases Nat.lt_or_ge k i with z | z
      · rw [show i = k + 1 by omega]; omega
      · exact ih i z
section
variable {X : Cx}
theorem int_at {ns : List Int} {its : List Value} (r : Vals (ns.map V.int) its) (i : Nat) (v : Value) (h : its.toArray[i]? = some v) : ∃ t, v = .int (ns.getD i 0) t := by
  have h1 : its[i]? = some v := by simpa using h
  have hl := r.length
  rw [List.length_map] at hl
  have hi : i < ns.length := by
    have := (List.getElem?_eq_some_iff.mp h1).1
    omega
  obtain ⟨u, hu, t, e⟩ := Vals.get (i := i) (x := .int ns[i]) r (by rw [List.getElem?_map, List.getElem?_eq_getElem hi]; rfl)
  rw [h1] at hu
  cases hu
  exact ⟨t, by rw [e, List.getD_eq_getElem?_getD, List.getElem?_eq_getElem hi]; rfl⟩
abbrev Mn (ns : List Int) (m : Int) : Prop := m ∈ ns ∧ ∀ x ∈ ns, m ≤ x
theorem mn_of {ns : List Int} (h : ns ≠ []) : Mn ns (ns.getD (argBest (fun i j => decide (ns.getD i 0 < ns.getD j 0)) (ns.length - 1)) 0) := by
  obtain ⟨a, b⟩ := best_lt (fun i => ns.getD i 0) (ns.length - 1)
  have hl : 0 < ns.length := List.length_pos_iff.mpr h
  refine ⟨?_, fun x hx => ?_⟩
  · rw [List.getD_eq_getElem?_getD, List.getElem?_eq_getElem (by omega)]; exact List.getElem_mem _
  · obtain ⟨i, hi, rfl⟩ := List.getElem_of_mem hx
    have := a i (by omega)
    rw [show ns[i] = ns.getD i 0 by rw [List.getD_eq_getElem?_getD, List.getElem?_eq_getElem hi]; rfl]
    exact this
def rBest (K : PySem.W.Frag) (M : List Int → Int → Prop) : List V → Hp → VK → Prop := fun vs H Q => ∃ (a : Addr) (ns : List Int), vs = [.ref a] ∧ (SqL K H a (ns.map V.int) ∨ SqT K H a (ns.map V.int)) ∧ ns ≠ [] ∧ ∀ m, M ns m → Q (.int m) H
theorem old_of {s : Shared} {x : Obj} {h' : Heap} (hk : ∀ b o, b ∉ [s.heap.objs.size] → (s.heap.push x).get? b = some o → h'.get? b = some o) : ∀ b o, s.heap.get? b = some o → h'.get? b = some o := fun b o eo => by
  refine hk b o (fun hm => ?_) (Heap.get?_push_of_some _ eo)
  rcases List.mem_cons.mp hm with e1 | hm
  · exact absurd (e1 ▸ Heap.lt_size eo) (Nat.lt_irrefl _)
  · cases hm
theorem fp_of {s : Shared} {a : Addr} {x : Obj} (ha : a < s.heap.objs.size) : ∀ b ∈ [s.heap.objs.size, a], b < (s.heap.push x).objs.size := fun b hb => by
  rw [Heap.size_push]
  rcases List.mem_cons.mp hb with e1 | hm
  · rw [e1]; exact Nat.lt_succ_self _
  · rw [List.mem_singleton.mp hm]; exact Nat.lt_succ_of_lt ha
theorem cr_min1 (hc : X.calm = true) : CallR X (.builtin "min") (rBest X.K Mn) := by
  intro pins s σ H vs us Q I r h
  obtain ⟨a, ns, rfl, hs, hne, q⟩ := h
  rw [Vals.ref1 r]
  have hlen : 0 < ns.length := List.length_pos_iff.mpr hne
  rcases hs with hs | hs
  · obtain ⟨its, rv, hl, _⟩ := I.list hs
    have sz : its.toArray.size = ns.length := by rw [List.size_toArray, ← rv.length, List.length_map]
    have lt : a < s.heap.objs.size := by obtain ⟨_, e, _⟩ := hl.isList; exact Heap.lt_size e
    refine call_min_walk (wpAny_pyIter_list hl.isList ?_)
    refine ⟨_, _, _, _, _, _, _, rfl, Walks.list (A := X.A.in1) (I.ok.hd hc) _ a (Nat.ne_of_lt lt) its.toArray, ⟨⟨_, Heap.get?_push_size _ rfl, rfl, rfl⟩, hl.isList.push _⟩, fp_of lt, by rw [sz]; exact hlen, CmpOf.ints_lt (fun i => ns.getD i 0) (int_at rv), fun v h' tk hP hk => ?_⟩
    obtain ⟨t, rfl⟩ := int_at rv _ _ hP
    rw [sz]
    exact ⟨.int _, H, I.kept (old_of hk), ⟨t, rfl⟩, q _ (mn_of hne)⟩
  · obtain ⟨its, rv, hl, _⟩ := I.tuple hs
    have sz : its.toArray.size = ns.length := by rw [List.size_toArray, ← rv.length, List.length_map]
    have lt : a < s.heap.objs.size := by obtain ⟨_, e, _⟩ := hl; exact Heap.lt_size e
    refine call_min_walk (wpAny_pyIter_tuple hl ?_)
    refine ⟨_, _, _, _, _, _, _, rfl, Walks.tuple (A := X.A.in1) (I.ok.hd hc) _ a (Nat.ne_of_lt lt) its.toArray, ⟨⟨_, Heap.get?_push_size _ rfl, rfl, rfl⟩, Heap.IsTuple.push hl _⟩, fp_of lt, by rw [sz]; exact hlen, CmpOf.ints_lt (fun i => ns.getD i 0) (int_at rv), fun v h' tk hP hk => ?_⟩
    obtain ⟨t, rfl⟩ := int_at rv _ _ hP
    rw [sz]
    exact ⟨.int _, H, I.kept (old_of hk), ⟨t, rfl⟩, q _ (mn_of hne)⟩
end
def seqD : Da → Option (List Da)
  | .list ds => some ds
  | .tuple ds => some ds
  | _ => none
def fBest (M : List Int → Int → Prop) : List Da → (SV → Prop) → Prop
  | [d], Q => ∃ ds ns, seqD d = some ds ∧ ints? ds = some ns ∧ ns ≠ [] ∧ ∀ m, M ns m → Q (.val (.int m))
  | _, _ => False
abbrev fMin1 := fBest Mn
section
variable {X : Cx}
theorem cd_best {b : String} {M : List Int → Int → Prop} (h0 : CallR X (.builtin b) (rBest X.K M)) : CallD X (.builtin b) (fBest M) := by
  intro B env S σ H vs ds Q Q' R al h cl
  unfold fBest at h
  split at h
  · rename_i d
    obtain ⟨v, r, rfl, p1, r2⟩ := al
    cases (show r = [] from r2)
    obtain ⟨ds, ns, e1, e2, hne, q⟩ := h
    cases d <;> first | cases e1; done | skip
    · cases e1
      obtain ⟨a, us, rfl, ha, da⟩ := p1.lst R.w
      exact ⟨_, h0, a, ns, rfl, .inl (by rw [← ints_dq da e2]; exact .inl ha), hne, fun m hm => cl.val R (q m hm) (.int _)⟩
    · cases e1
      obtain ⟨a, us, rfl, ha, da⟩ := p1.tup
      exact ⟨_, h0, a, ns, rfl, .inr (by rw [← ints_dq da e2]; exact SqT.up R.w.sub ha), hne, fun m hm => cl.val R (q m hm) (.int _)⟩
  · exact h.elim
theorem cd_min1 (hc : X.calm = true) : CallD X (.builtin "min") fMin1 := cd_best (cr_min1 hc)
end
/-! ### a, b = x, y and a, b, c = x, y, z with plain local names -/
def msPar (i j : Nat) (ma : MA) : MS := fun env E => ma env fun rs e => match rs with
  | [.val a, .val b] => i < e.length ∧ j < e.length ∧ E.nx ((e.set i (.val a)).set j (.val b))
  | _ => False
section
variable {X : Cx}
theorem dst_par {i j : Nat} {x y : Str} {a b : Expr} {ma : MA} {px py pt pos : Pos} {kt k2 pt2} (hc : X.calm = true) (hN : X.N.Nodup) (ha : DA Z X [a, b] ma)
    (hw : swappedStores [.Tuple [.Name x px, .Name y py] kt pt] (.Tuple [a, b] k2 pt2) X.env = pure (some [x, y]))
    (hi : X.N[i]? = some x := by rfl) (hj : X.N[j]? = some y := by rfl) (hij : i ≠ j := by decide)
    (hx : X.env.scope.names.lookup x = some .local := by rfl) (hy : X.env.scope.names.lookup y = some .local := by rfl)
    (hs : swapsWithSole [.Tuple [.Name x px, .Name y py] kt pt] (.Tuple [a, b] k2 pt2) pos.line X.env = pure false := by rfl) :
    DSt Z X (.Assign [.Tuple [.Name x px, .Name y py] kt pt] (.Tuple [a, b] k2 pt2) pos) (msPar i j ma) := (ps_par hc hN hi hj hij hx hy ha hw hs).wk fun D σ H ⟨B, env, S, E, R, h, k⟩ =>
  ⟨B, env, S, _, R, h, fun rs e1 q vs S1 H1 st R1 al => by
    split at q
    · obtain ⟨v, r, rfl, d1, r2⟩ := al
      obtain ⟨w, r', rfl, d2, r3⟩ := r2
      cases (show r' = [] from r3)
      exact ⟨v, w, rfl, k.nx _ _ S1 H1 q.2.2 ((R1.setV d1 q.1).setV d2 (by rw [List.length_set]; exact q.2.1)) st.s.1⟩
    · exact q.elim⟩
end
end Pq
set_option Elab.async false
set_option linter.all false
set_option maxRecDepth 100000
set_option maxHeartbeats 4000000
namespace Pq
open PySem PySem.Spec PyProof.Rows L2
/-! ### repr -/
section
variable {X : Cx}
/-- may be shown, in at most n signs -/
def Tx (n : Nat) (d : Da) : Prop := d.showable = true ∧ d.shown.length ≤ n
end
theorem Tx.mono {n m : Nat} {d : Da} (h : Tx n d) (hm : n ≤ m) : Tx m d := ⟨h.1, Nat.le_trans h.2 hm⟩
/-! ### dicts -/
section
variable {X : Cx}
/-- {} -/
def mDict : ME := fun env Q => Q (.own true (.dict [])) env
theorem de_dict {pos : Pos} : DE Z X (.Dict [] [] pos) mDict := pe_dnewK.wk fun σ H Q ⟨B, env, S, Q0, R, h, k⟩ p hp =>
  k _ env h _ _ _ (stq_alloc hp) (R.alloc hp) ⟨rfl, p, rfl, ⟨R.w.bnone hp, R.w.snone hp, _, upd_same, .dk .nil⟩, hp, R.fresh hp⟩
/-- d.get(k, x) -/
@[irreducible] def fGet2 (ds : List (Da × Da)) (j x : Da) (Q : Da → Prop) : Prop := match dGetO ds j with
  | some o => Q (o.getD x)
  | none => False
theorem w_get2 {ds : List (Da × Da)} {j x : Da} {o : Option Da} {Q : Da → Prop} (h : dGetO ds j = some o) (q : Q (o.getD x)) : fGet2 ds j x Q := by
  unfold fGet2
  rw [h]
  exact q
def mGet2 (md mk mx : MP) : MP := fun env Q => md env fun c e1 => match c with
  | .dict ds => isPm ds = false ∧ mk e1 fun j e2 => mx e2 fun x e3 => fGet2 ds j x fun d => Q d e3
  | _ => False
theorem de_get2 {o e f : Expr} {md mk mx : MP} {apos cpos : Pos} (hu : X.A.units + 1 < cLine) (ho : DP Z X o md) (he : DP Z X e mk) (hf : DS Z X f mx) (m : M2 X o "get" apos e f cpos := by exact ⟨by rfl, by rfl, by rfl, by rfl⟩) : DS Z X (.Call (.Attribute o "get" apos) [e, f] [] cpos) (mGet2 md mk mx) :=
  (pe_dget2X hu ho he hf m).wk fun σ H Q ⟨B, env, S, Q0, R, h, k⟩ => by
    refine ⟨B, env, S, _, R, h, fun c e1 q1 v S1 H1 st1 R1 p1 => ?_⟩
    cases c <;> first | exact q1.elim | skip
    rename_i ds
    obtain ⟨tm, q1⟩ := q1
    have pre : ∃ a, v = .ref a ∧ IsDX X.K H1 a := by
      have p := p1.dq R1.w
      cases p with
      | dk ha _ => exact ⟨_, rfl, .inl (.inl ⟨_, .inl ha⟩)⟩
      | dt ha hd => exact ⟨_, rfl, .inr ⟨_, .inl ⟨_, ha⟩, dqt_keys hd⟩⟩
      | scr _ => cases tm
      | pr _ _ => cases tm
      | exc _ _ _ _ => cases tm
      | ins _ _ _ => cases tm
    obtain ⟨a, rfl, isd⟩ := pre
    refine ⟨a, rfl, isd, B, e1, S1, _, R1, q1, fun j e2 q2 y S2 H2 st2 R2 p2 => ?_⟩
    refine ⟨B, e2, S2, _, R2, q2, fun x e3 q3 z S3 H3 st3 R3 dz => ?_⟩
    unfold fGet2 at q3
    cases eo : dGetO ds j with
    | none => rw [eo] at q3; exact q3.elim
    | some o =>
      rw [eo] at q3
      obtain ⟨a', ov, e', g, ro, _⟩ := dget_of R3.w ((p1.up st2.s).up st3.s) (p2.up st3.s) eo
      cases e'
      refine ⟨ov, g, k _ e3 q3 _ S3 H3 ((st1.trans st2).trans st3) R3 ?_⟩
      cases ov with
      | none =>
        cases o with
        | none => exact dz
        | some d => exact ro.elim
      | some v =>
        cases o with
        | none => exact ro.elim
        | some d => exact ro
/-- sorted of a dict's keys, of a list -/
@[irreducible] def fSorted : List Da → (SV → Prop) → Prop
  | [.dict ds], Q => (∃ ks : List Int, ds.map (·.1) = ks.map .int ∧ ks.length < 64 ∧ ∀ ys : List Int, ys.Perm ks → ys.Pairwise (· ≤ ·) → Q (.own true (.list (ys.map .int)))) ∨
    (∃ ks : List Str, ds ≠ [] ∧ ds.map (·.1) = ks.map .str ∧ ks.length < 64 ∧ ∀ ys : List Str, ys.Perm ks → sortedS ys = true → Q (.own true (.list (ys.map .str)))) ∨
    ∃ (r : List (Da × Da)) (ks : List (List Int)), ds = (.none, .none) :: r ∧ r.map (·.1) = ks.map tkI ∧ ∀ ys : List (List Int), ys.Perm ks → ys.Pairwise (fun x y => SrtT.lexL y x = false) → Q (.own true (.list (ys.map tkI)))
  | [.list ds], Q => (∃ ks : List Int, ds = ks.map .int ∧ ks.length < 64 ∧ ∀ ys : List Int, ys.Perm ks → ys.Pairwise (· ≤ ·) → Q (.own true (.list (ys.map .int)))) ∨
    (∃ ks : List Str, ds = ks.map .str ∧ ks.length < 64 ∧ ∀ ys : List Str, ys.Perm ks → sortedS ys = true → Q (.own true (.list (ys.map .str)))) ∨
    ∃ ks : List (List Int), ds = ks.map tkI ∧ ∀ ys : List (List Int), ys.Perm ks → ys.Pairwise (fun x y => SrtT.lexL y x = false) → Q (.own true (.list (ys.map tkI)))
  | _, _ => False
theorem dqt_ks {K : PySem.W.Frag} {S : Hp} : ∀ {kvs : TKv} {r : List (Da × Da)} {ks : List (List Int)}, DqT K S kvs r → r.map (·.1) = ks.map tkI → kvs.map (·.1) = ks
  | [], _, ks, h, e => by
    cases h
    cases ks with
    | nil => rfl
    | cons k ks => cases e
  | p :: kvs, _, ks, h, e => by
    cases h with
    | cons h0 h1 h2 =>
      cases ks with
      | nil => cases e
      | cons j ks =>
        rw [List.map_cons, List.map_cons] at e
        injection e with e1 e2
        rw [List.map_cons, dqt_ks h2 e2]
        have := congrArg tkO (show tkI _ = tkI j from e1)
        rw [tkO_I, tkO_I] at this
        rw [Option.some.inj this]
theorem dqt_pl {K : PySem.W.Frag} {S : Hp} : ∀ {kvs : TKv} {r : List (Da × Da)}, DqT K S kvs r → ∀ p ∈ kvs, PlT K S p.2.1 (p.1.map V.int)
  | [], _, _ => fun p hp => by cases hp
  | p :: kvs, _, h => by
    cases h with
    | cons h0 h1 h2 =>
      intro q hq
      rcases List.mem_cons.mp hq with e | hq
      · subst e; exact h0
      · exact dqt_pl h2 q hq
theorem dq_ints2 {K : PySem.W.Frag} {S : Hp} : ∀ ys : List Int, DqAll K S (ys.map V.int) (ys.map .int)
  | [] => .nil
  | y :: ys => .cons (.int y) (dq_ints2 ys)
theorem dq_tks {K : PySem.W.Frag} {S : Hp} : ∀ {ps : List (List Int × Addr)}, (∀ p ∈ ps, PlT K S p.2 (p.1.map V.int)) → DqAll K S (ps.map fun p => V.ref p.2) ((ps.map (·.1)).map tkI)
  | [], _ => .nil
  | p :: ps, h => .cons (.tup (h p List.mem_cons_self) (dq_ints2 _)) (dq_tks fun q hq => h q (List.mem_cons_of_mem _ hq))
theorem tks_of {K : PySem.W.Frag} {S : Hp} : ∀ {ks : List (List Int)} {us : List V}, DqAll K S us (ks.map tkI) → ∃ ps : List (List Int × Addr), ps.map (·.1) = ks ∧ us = ps.map (fun p => V.ref p.2) ∧ ∀ p ∈ ps, PlT K S p.2 (p.1.map V.int)
  | [], _, h => by cases h; exact ⟨[], rfl, rfl, fun p hp => by cases hp⟩
  | k :: ks, _, h => by
    cases h with
    | cons h1 h2 =>
      obtain ⟨ps, e1, e2, e3⟩ := tks_of h2
      obtain ⟨b, rfl, pb⟩ := IsP.tk (B := ⟨fun _ => none, fun _ => none, none, fun _ => none⟩) (H := S) (.inl h1)
      refine ⟨(k, b) :: ps, by rw [List.map_cons, e1], by rw [e2]; rfl, fun p hp => ?_⟩
      rcases List.mem_cons.mp hp with e | hp
      · subst e; exact pb
      · exact e3 p hp
theorem dq_strs {K : PySem.W.Frag} {S : Hp} : ∀ ys : List Str, DqAll K S (ys.map V.str) (ys.map .str)
  | [] => .nil
  | y :: ys => .cons (.str y) (dq_strs ys)
theorem int_keys {K : PySem.W.Frag} {S : Hp} : ∀ {kvs : List (Key × V)} {ds : List (Da × Da)} {ks : List Int}, DqK K S kvs ds → ds.map (·.1) = ks.map .int → kvs.map (·.1) = ks.map Sum.inl
  | [], _, ks, h, e => by
    cases h
    cases ks with
    | nil => rfl
    | cons k ks => cases e
  | (k, v) :: _, _, ks, h, e => by
    cases h with
    | cons h1 h2 =>
      cases ks with
      | nil => cases e
      | cons j ks =>
        rw [List.map_cons, List.map_cons] at e
        injection e with e1 e2
        rw [List.map_cons, List.map_cons, int_keys h2 e2]
        cases k <;> cases e1
        rfl
theorem str_keys {K : PySem.W.Frag} {S : Hp} : ∀ {kvs : List (Key × V)} {ds : List (Da × Da)} {ks : List Str}, DqK K S kvs ds → ds.map (·.1) = ks.map .str → kvs.map (·.1) = ks.map Sum.inr
  | [], _, ks, h, e => by
    cases h
    cases ks with
    | nil => rfl
    | cons k ks => cases e
  | (k, v) :: _, _, ks, h, e => by
    cases h with
    | cons h1 h2 =>
      cases ks with
      | nil => cases e
      | cons j ks =>
        rw [List.map_cons, List.map_cons] at e
        injection e with e1 e2
        rw [List.map_cons, List.map_cons, str_keys h2 e2]
        cases k <;> cases e1
        rfl
theorem ints_v {K : PySem.W.Frag} {S : Hp} : ∀ {ks : List Int} {vs : List V}, DqAll K S vs (ks.map .int) → vs = ks.map V.int
  | [], _, h => by cases h; rfl
  | k :: ks, _, h => by
    cases h with
    | cons h1 h2 => cases h1; rw [ints_v h2]; rfl
theorem strs_v {K : PySem.W.Frag} {S : Hp} : ∀ {ks : List Str} {vs : List V}, DqAll K S vs (ks.map .str) → vs = ks.map V.str
  | [], _, h => by cases h; rfl
  | k :: ks, _, h => by
    cases h with
    | cons h1 h2 => cases h1; rw [strs_v h2]; rfl
theorem cd_sorted (hc : X.calm = true) (hu : X.A.units + 65 < cLine) : CallD X (.builtin "sorted") fSorted := by
  intro B env S σ H vs ds Q Q' R al h cl
  unfold fSorted at h
  split at h
  · rename_i ds
    obtain ⟨v, r, rfl, p1, r2⟩ := al
    cases (show r = [] from r2)
    have p := p1.dq R.w
    rcases h with ⟨ks, e, h64, q⟩ | ⟨ks, hne, e, h64, q⟩ | ⟨r, ks, rfl, e, q⟩
    · cases p with
      | dk ha hd => exact ⟨_, call_sortedDI hc, _, _, ks, rfl, .inl ha, int_keys hd e, h64, fun ys p pm pw hp => cl.newL R (q ys pm pw) (dq_ints ys) hp⟩
      | dt ha hd =>
        cases ks with
        | nil => cases e
        | cons k ks => cases e
      | scr _ =>
        cases ks with
        | nil => cases e
        | cons k ks => cases e
      | pr _ _ =>
        cases ks with
        | nil => cases e
        | cons k ks => cases e
      | exc _ _ _ _ =>
        cases ks with
        | nil => cases e
        | cons k ks => cases e
      | ins _ _ _ =>
        cases ks with
        | nil => cases e
        | cons k ks => cases e
    · cases p with
      | dk ha hd => exact ⟨_, call_sortedD hc, _, _, ks, rfl, .inl ha, str_keys hd e, h64, fun ys p pm pw hp => cl.newL R (q ys pm pw) (dq_strs ys) hp⟩
      | dt ha hd =>
        cases ks with
        | nil => cases e
        | cons k ks => cases e
      | scr _ =>
        cases ks with
        | nil => cases e
        | cons k ks => cases e
      | pr _ _ =>
        cases ks with
        | nil => cases e
        | cons k ks => cases e
      | exc _ _ _ _ =>
        cases ks with
        | nil => cases e
        | cons k ks => cases e
      | ins _ _ _ =>
        cases ks with
        | nil => cases e
        | cons k ks => cases e
    · have fin : ∀ (a : Addr) (a' : DAo) (kvs : TKv), H a = some (dtO a' kvs) → DqT X.K S kvs r → uC X (.builtin "sorted") [.ref a] H Q' := fun a a' kvs ha hd => by
        refine ⟨_, cr_sortedTD hc (by omega), _, kvs, rfl, .inl ⟨_, ha⟩, tkeys_up R.w (dqt_keys hd), fun ys l pm pw hp => ?_⟩
        have e2 := dqt_ks hd e
        have d := dq_tks (K := X.K) (S := S) (ps := ys.map fun p => (p.1, p.2.1)) fun p hp => by
          obtain ⟨x, hx, rfl⟩ := List.mem_map.mp hp
          exact dqt_pl hd x (pm.mem_iff.mp hx)
        simp only [List.map_map] at d
        have d : DqAll X.K S (ys.map fun p => V.ref p.2.1) ((ys.map (·.1)).map tkI) := by rw [List.map_map]; exact d
        exact cl.newL R (q (ys.map (·.1)) (by rw [← e2]; exact pm.map _) (List.pairwise_map.mpr pw)) d hp
      rcases p1 with p1 | ⟨p0, o, rfl, _, ho, hd⟩
      · cases p1 with
        | dk ha hd => exact nomatch (show true = false from tm_dk hd)
        | dt ha hd => exact fin _ _ _ (R.w.sub _ _ ha) hd
      · cases hd with
        | dk hd => exact nomatch (show true = false from tm_dk hd)
        | dt hd => exact fin _ _ _ ho hd
  · rename_i ds
    obtain ⟨v, r, rfl, p1, r2⟩ := al
    cases (show r = [] from r2)
    obtain ⟨a, us, rfl, ha, da⟩ := p1.lst R.w
    rcases h with ⟨ks, rfl, h64, q⟩ | ⟨ks, rfl, h64, q⟩ | ⟨ks, rfl, q⟩
    · exact ⟨_, cr_sorted, a, ks, rfl, by rw [← ints_v da]; exact .inl ha, h64, fun ys p pm pw hp => cl.newL R (q ys pm pw) (dq_ints ys) hp⟩
    · exact ⟨_, cr_sortedS, a, ks, rfl, by rw [← strs_v da]; exact .inl ha, h64, fun ys p pm pw hp => cl.newL R (q ys pm pw) (dq_strs ys) hp⟩
    · obtain ⟨ps, e1, rfl, e3⟩ := tks_of da
      refine ⟨_, cr_sortedTL (by omega), a, ps, rfl, .inl ha, fun p hp => SqT.up R.w.sub (e3 p hp).sq, fun ys l pm pw hl => ?_⟩
      have d := dq_tks (K := X.K) (S := S) (ps := ys) fun p hp => e3 p (pm.mem_iff.mp hp)
      exact cl.newL R (q (ys.map (·.1)) (by rw [← e1]; exact pm.map _) (List.pairwise_map.mpr pw)) d hl
  · exact h.elim
/-! ### names of the module: numbers and texts -/
end
end Pq
set_option Elab.async false
set_option linter.all false
set_option maxRecDepth 100000
set_option maxHeartbeats 4000000
namespace Pq
open PySem PySem.Spec PyProof.Rows L2
/-! ### methods of texts -/
end Pq
set_option Elab.async false
set_option linter.all false
set_option maxRecDepth 100000
set_option maxHeartbeats 4000000
namespace Pq
open PySem PySem.Spec PyProof.Rows L2
/-! ### xs[k] += e, d[k] += e -/
end Pq
set_option Elab.async false
set_option linter.all false
set_option maxRecDepth 100000
set_option maxHeartbeats 4000000
namespace Pq
open PySem PySem.Spec PyProof.Rows L2
/-! ### dict(xs) of pairs: keys ints and texts -/
end Pq
set_option Elab.async false
set_option linter.all false
set_option maxRecDepth 100000
set_option maxHeartbeats 4000000
namespace Pq
open PySem PySem.Spec PyProof.Rows L2
end Pq
set_option Elab.async false
set_option linter.all false
set_option maxRecDepth 100000
set_option maxHeartbeats 4000000
namespace Pq
open PySem PySem.Spec PyProof.Rows L2
end Pq
set_option Elab.async false
set_option linter.all false
set_option maxRecDepth 100000
set_option maxHeartbeats 4000000
namespace Lb
open PySem PySem.Spec PyProof.Rows L2 Pq
abbrev F_law_draw : FS := fDraw
abbrev iv (i : Int) : SV := .val (.int i)
theorem atI_mem {ds : List Da} {i : Int} (h0 : 0 ≤ i) (h1 : i < ds.length) : ∃ d, d ∈ ds ∧ atI ds i = some d := by
  have hi : i.toNat < ds.length := by omega
  refine ⟨ds[i.toNat], List.getElem_mem hi, ?_⟩
  unfold atI ixN
  rw [if_pos h0, if_pos h1]
  exact List.getElem?_eq_getElem hi
/-- xs[i] -/
def ixD : Da → Int → Option Da
  | .list ds, i => atI ds i
  | .tuple ds, i => atI ds i
  | _, _ => none
theorem ix {c d : Da} {i : Int} {Q : SV → Prop} (e : ixD c i = some d) (h : Q (.val d)) : fIx c (.int i) Q := by
  unfold fIx
  cases c <;> first | (cases e; done) | skip
  · have e : atI _ i = some d := e
    dsimp only
    rw [e]; exact h
  · have e : atI _ i = some d := e
    dsimp only
    rw [e]; exact h
theorem w_ix {ds : List Da} {i : Int} (h0 : 0 ≤ i) (h1 : i < ds.length) (Q : SV → Prop) (h : ∀ d ∈ ds, Q (.val d)) : fIx (.list ds) (.int i) Q := by
  obtain ⟨d, hd, e⟩ := atI_mem h0 h1
  exact ix e (h d hd)
def M_divisor : MS := (msSeq (msWhile (mTest (toD (mBin fGt (mPk 1) (mC (.int 0))))) (msPar 0 1 (maCons (mVar 1) (maCons (mBin fMod (mPk 0) (mPk 1)) maNil))))
    (msRet (mVar 0)))
abbrev F_divisor : FS := fnD 2 2 M_divisor
def M_lowest : MS := (msSeq (msSet 2 (mCall 2 F_divisor (maCons (mVar 0) (maCons (mVar 1) maNil))))
    (msRet (toE (mTup (maCons (mBin fDiv (mPk 0) (mPk 2)) (maCons (mBin fDiv (mPk 1) (mPk 2)) maNil))))))
abbrev F_lowest : FS := fnD 3 2 M_lowest
def M_added : MS := (msRet (mCall 2 F_lowest (maCons (mBin fAdd (toD (mBin fMul (toD (mBin fIx (mPk 0) (mC (.int 0)))) (toD (mBin fIx (mPk 1) (mC (.int 1)))))) (toD (mBin fMul (toD (mBin fIx (mPk 1) (mC (.int 0)))) (toD (mBin fIx (mPk 0) (mC (.int 1))))))) (maCons (mBin fMul (toD (mBin fIx (mPk 0) (mC (.int 1)))) (toD (mBin fIx (mPk 1) (mC (.int 1))))) maNil))))
abbrev F_added : FS := fnD 2 2 M_added
def M_times : MS := (msRet (mCall 2 F_lowest (maCons (mBin fMul (toD (mBin fIx (mPk 0) (mC (.int 0)))) (toD (mBin fIx (mPk 1) (mC (.int 0))))) (maCons (mBin fMul (toD (mBin fIx (mPk 0) (mC (.int 1)))) (toD (mBin fIx (mPk 1) (mC (.int 1))))) maNil))))
abbrev F_times : FS := fnD 2 2 M_times
def M_power : MS := (msSeq (msSet 2 (toE (mTup (maCons (toE (mC (.int 1))) (maCons (toE (mC (.int 1))) maNil)))))
    (msSeq (msFor (mRg1 (mlCons (mPk 1) mlNil)) (mgName 3) (msSet 2 (toE (mTup (maCons (mBin fMul (toD (mBin fIx (mPk 2) (mC (.int 0)))) (toD (mBin fIx (mPk 0) (mC (.int 0))))) (maCons (mBin fMul (toD (mBin fIx (mPk 2) (mC (.int 1)))) (toD (mBin fIx (mPk 0) (mC (.int 1))))) maNil))))))
    (msRet (mVar 2))))
abbrev F_power : FS := fnD 4 2 M_power
def M_less : MS := (msRet (mBin fLt (toD (mBin fMul (toD (mBin fIx (mPk 0) (mC (.int 0)))) (toD (mBin fIx (mPk 1) (mC (.int 1)))))) (toD (mBin fMul (toD (mBin fIx (mPk 1) (mC (.int 0)))) (toD (mBin fIx (mPk 0) (mC (.int 1))))))))
abbrev F_less : FS := fnD 2 2 M_less
/-! ### fractions -/
def fr (q : Rat) : Da := .tuple [.int q.num, .int (q.den : Int)]
abbrev frv (q : Rat) : SV := .val (fr q)
/-- numbers below 2 ^ n -/
def Sz (n : Nat) (q : Rat) : Prop := q.num.natAbs < 2 ^ n ∧ q.den < 2 ^ n
theorem pow_le {n m : Nat} (h : n ≤ m) : 2 ^ n ≤ 2 ^ m := Nat.pow_le_pow_right (by decide) h
theorem Sz.mono {n m : Nat} {q : Rat} (s : Sz n q) (h : n ≤ m) : Sz m q := ⟨Nat.lt_of_lt_of_le s.1 (pow_le h), Nat.lt_of_lt_of_le s.2 (pow_le h)⟩
theorem sm_of {n : Nat} {i : Int} (h : i.natAbs < 2 ^ n) (hn : n ≤ 60000000) : Sm i := ⟨n, hn, h⟩
theorem mul_bits {a b n m : Nat} (ha : a < 2 ^ n) (hb : b < 2 ^ m) : a * b < 2 ^ (n + m) := by
  rw [Nat.pow_add]
  exact Nat.mul_lt_mul'' ha hb
theorem add_bits {a b n : Nat} (ha : a < 2 ^ n) (hb : b < 2 ^ n) : a + b < 2 ^ (n + 1) := by
  rw [Nat.pow_succ]; omega
theorem div_le_natAbs (a : Int) (g : Nat) : (a / (g : Int)).natAbs ≤ a.natAbs := Int.natAbs_ediv_le_natAbs a g
theorem sz_divInt {n : Nat} {a b : Int} (ha : a.natAbs < 2 ^ n) (hb : b.natAbs < 2 ^ n) (h0 : 0 < b) : Sz n ((a : Rat) / (b : Rat)) := by
  rw [← Rat.divInt_eq_div]
  refine ⟨?_, ?_⟩
  · rw [Rat.num_divInt, Int.sign_eq_one_of_pos h0, Int.one_mul]
    exact Nat.lt_of_le_of_lt (div_le_natAbs _ _) ha
  · rw [Rat.den_divInt, if_neg (by omega)]
    exact Nat.lt_of_le_of_lt (Nat.div_le_self _ _) hb
theorem fr_div {a b : Int} (h0 : 0 < b) : fr ((a : Rat) / (b : Rat)) = .tuple [.int (a / (Int.gcd a b : Nat)), .int (b / (Int.gcd a b : Nat))] := by
  unfold fr
  rw [← Rat.divInt_eq_div, Rat.num_divInt, Rat.den_divInt, Int.sign_eq_one_of_pos h0, Int.one_mul, if_neg (by omega), Int.gcd_comm b a, Int.natCast_ediv, Int.natAbs_of_nonneg (by omega)]
theorem cast_ne {b : Int} (h : 0 < b) : (b : Rat) ≠ 0 := fun z => by
  have := Rat.intCast_eq_zero_iff.mp z
  omega
theorem cast_pos {b : Int} (h : 0 < b) : (0 : Rat) < (b : Rat) := Rat.intCast_pos.mpr h
theorem num_div_den (q : Rat) : (q.num : Rat) / ((q.den : Int) : Rat) = q := by
  rw [← Rat.divInt_eq_div]; exact Rat.num_divInt_den q
theorem den0 (q : Rat) : (0 : Int) < (q.den : Int) := by have := q.den_pos; omega
theorem num0 {q : Rat} (h : 0 ≤ q) : 0 ≤ q.num := Rat.num_nonneg.mpr h
theorem add_fr (p q : Rat) : ((p.num * q.den + q.num * p.den : Int) : Rat) / ((p.den * q.den : Int) : Rat) = p + q := by
  rw [← Rat.divInt_eq_div, Rat.add_def', ← Rat.divInt_ofNat]
  congr 1
theorem mul_fr (p q : Rat) : ((p.num * q.num : Int) : Rat) / ((p.den * q.den : Int) : Rat) = p * q := by
  rw [← Rat.divInt_eq_div, Rat.mul_def', ← Rat.divInt_ofNat]
  congr 1
theorem Sz.add {n m : Nat} {p q : Rat} (hp : Sz n p) (hq : Sz m q) : Sz (n + m + 1) (p + q) := by
  rw [← add_fr]
  refine sz_divInt ?_ ?_ (Int.mul_pos (den0 p) (den0 q))
  · have h1 := mul_bits hp.1 hq.2
    have h2 := mul_bits hq.1 hp.2
    rw [Nat.add_comm m n] at h2
    refine Nat.lt_of_le_of_lt (Int.natAbs_add_le _ _) ?_
    rw [Int.natAbs_mul, Int.natAbs_mul, Int.natAbs_natCast, Int.natAbs_natCast]
    exact add_bits h1 h2
  · rw [Int.natAbs_mul, Int.natAbs_natCast, Int.natAbs_natCast]
    exact Nat.lt_of_lt_of_le (mul_bits hp.2 hq.2) (pow_le (by omega))
theorem Sz.mul {n m : Nat} {p q : Rat} (hp : Sz n p) (hq : Sz m q) : Sz (n + m) (p * q) := by
  rw [← mul_fr]
  refine sz_divInt ?_ ?_ (Int.mul_pos (den0 p) (den0 q))
  · rw [Int.natAbs_mul]; exact mul_bits hp.1 hq.1
  · rw [Int.natAbs_mul, Int.natAbs_natCast, Int.natAbs_natCast]
    exact mul_bits hp.2 hq.2
theorem pow_bits {a n : Nat} (h : a < 2 ^ n) : ∀ k : Nat, a ^ k < 2 ^ (n * k + 1)
  | 0 => by simp
  | k + 1 => by
    have ih := pow_bits h k
    have : a ^ (k + 1) < 2 ^ (n * k + 1 + n) := by rw [Nat.pow_succ]; exact mul_bits ih h
    rw [Nat.mul_succ]
    exact Nat.lt_of_lt_of_le this (pow_le (by omega))
theorem Sz.pow {n : Nat} {p : Rat} (hp : Sz n p) (k : Nat) : Sz (n * k + 1) (p ^ k) := by
  refine ⟨?_, ?_⟩
  · rw [Rat.num_pow, Int.natAbs_pow]; exact pow_bits hp.1 k
  · rw [Rat.den_pow]; exact pow_bits hp.2 k
theorem lay_fr (q : Rat) : Lay 1 (fr q) := lay_pair lay_int lay_int
/-! ### the functions of fractions -/
theorem gcd_mod {a b : Int} : Int.gcd b (a % b) = Int.gcd a b := by
  rw [Int.gcd_comm a b, ← Int.gcd_add_mul_left_right b (a % b) (a / b), Int.emod_add_mul_ediv]
theorem dv_of {a : Int} {g n : Nat} (h : g < 2 ^ n) (hn : n ≤ 8999) : Dv a (g : Int) := by
  refine PyProof.noPylong_of_log2 ?_
  rw [Int.natAbs_natCast]
  by_cases z : g = 0
  · subst z; decide
  · exact Nat.lt_of_lt_of_le ((Nat.log2_lt z).mpr h) (by omega)
theorem w_divisor {a b : Int} (ha : 0 ≤ a) (hb : 0 ≤ b) (Q : SV → Prop) (h : Q (iv (Int.gcd a b : Nat))) : F_divisor [iv a, iv b] Q := by
  refine wh_inv (fun m e => ∃ x y : Int, e = [iv x, iv y] ∧ 0 ≤ x ∧ 0 ≤ y ∧ Int.gcd x y = Int.gcd a b ∧ y.toNat = m) b.toNat ⟨a, b, rfl, ha, hb, rfl, rfl⟩ ?_
  rintro m e ⟨x, y, rfl, hx, hy, hg, rfl⟩ N hN
  refine iteD (fun c => ?_) (fun c => ?_)
  · have c : 0 < y := c
    have l1 := Int.emod_nonneg x (show y ≠ 0 by omega)
    have l2 := Int.emod_lt_of_pos x c
    exact ⟨c, show 0 < 2 by decide, show 1 < 2 by decide, hN _ _ (by omega) ⟨y, x % y, rfl, hy, l1, by rw [gcd_mod, hg], rfl⟩⟩
  · have c : ¬ 0 < y := c
    have : y = 0 := by omega
    subst this
    show Q (iv x)
    rw [← hg, Int.gcd_zero_right, Int.natAbs_of_nonneg hx] at h
    exact h
theorem gcd_bits {a b : Int} {n : Nat} (h0 : 0 < b) (hb : b.natAbs < 2 ^ n) : 0 < Int.gcd a b ∧ Int.gcd a b < 2 ^ n := by
  have p : 0 < Int.gcd a b := Int.gcd_pos_of_ne_zero_right a (by omega)
  have := Int.gcd_le_natAbs_right a (show b ≠ 0 by omega)
  exact ⟨p, by omega⟩
theorem w_lowest {a b : Int} {n : Nat} (ha : 0 ≤ a) (hb : 0 < b) (hn : b.natAbs < 2 ^ n) (h8 : n ≤ 8999) (Q : SV → Prop) (h : Q (frv ((a : Rat) / (b : Rat)))) : F_lowest [iv a, iv b] Q := by
  obtain ⟨g0, g1⟩ := gcd_bits (a := a) hb hn
  refine ⟨rfl, w_divisor ha (by omega) _ ⟨show 2 < 3 by decide, ?_⟩⟩
  have g2 : (0 : Int) < (Int.gcd a b : Nat) := by omega
  unfold frv at h
  rw [fr_div hb] at h
  exact ⟨g2, dv_of g1 h8, g2, dv_of g1 h8, show 2 ≤ 1000000 by decide, h⟩
theorem den_abs (q : Rat) : (q.den : Int).natAbs = q.den := Int.natAbs_natCast _
theorem w_added {p q : Rat} {n m : Nat} (hp : 0 ≤ p) (hq : 0 ≤ q) (sp : Sz n p) (sq : Sz m q) (h8 : n + m ≤ 8999) (Q : SV → Prop) (h : Q (frv (p + q))) : F_added [frv p, frv q] Q := by
  have s1 := sm_of sp.1 (by omega)
  have s2 := sm_of sq.1 (by omega)
  have s3 : Sm (p.den : Int) := sm_of (n := n) (by rw [den_abs]; exact sp.2) (by omega)
  have s4 : Sm (q.den : Int) := sm_of (n := m) (by rw [den_abs]; exact sq.2) (by omega)
  refine ix rfl (ix rfl ⟨s1, s4, ix rfl (ix rfl ⟨s2, s3, ix rfl (ix rfl ⟨s3, s4, rfl, ?_⟩)⟩)⟩)
  rw [← add_fr] at h
  refine w_lowest ?_ (Int.mul_pos (den0 p) (den0 q)) ?_ h8 _ h
  · have := num0 hp; have := num0 hq; have := den0 p; have := den0 q
    exact Int.add_nonneg (Int.mul_nonneg (by omega) (by omega)) (Int.mul_nonneg (by omega) (by omega))
  · rw [Int.natAbs_mul, den_abs, den_abs]; exact mul_bits sp.2 sq.2
theorem w_times {p q : Rat} {n m : Nat} (hp : 0 ≤ p) (hq : 0 ≤ q) (sp : Sz n p) (sq : Sz m q) (h8 : n + m ≤ 8999) (Q : SV → Prop) (h : Q (frv (p * q))) : F_times [frv p, frv q] Q := by
  have s1 := sm_of sp.1 (by omega)
  have s2 := sm_of sq.1 (by omega)
  have s3 : Sm (p.den : Int) := sm_of (n := n) (by rw [den_abs]; exact sp.2) (by omega)
  have s4 : Sm (q.den : Int) := sm_of (n := m) (by rw [den_abs]; exact sq.2) (by omega)
  refine ix rfl (ix rfl ⟨s1, s2, ix rfl (ix rfl ⟨s3, s4, rfl, ?_⟩)⟩)
  rw [← mul_fr] at h
  refine w_lowest ?_ (Int.mul_pos (den0 p) (den0 q)) ?_ h8 _ h
  · have := num0 hp; have := num0 hq
    exact Int.mul_nonneg (by omega) (by omega)
  · rw [Int.natAbs_mul, den_abs, den_abs]; exact mul_bits sp.2 sq.2
theorem w_less {p q : Rat} {n m : Nat} (sp : Sz n p) (sq : Sz m q) (hn : n ≤ 60000000) (hm : m ≤ 60000000) (Q : SV → Prop) (h : Q (.val (.bool (decide (p < q))))) : F_less [frv p, frv q] Q := by
  have s1 := sm_of sp.1 hn
  have s2 := sm_of sq.1 hm
  have s3 : Sm (p.den : Int) := sm_of (n := n) (by rw [den_abs]; exact sp.2) hn
  have s4 : Sm (q.den : Int) := sm_of (n := m) (by rw [den_abs]; exact sq.2) hm
  refine ix rfl (ix rfl ⟨s1, s4, ix rfl (ix rfl ⟨s2, s3, ?_⟩)⟩)
  have e : decide (p < q) = decide (p.num * q.den < q.num * p.den) := by
    rw [Bool.eq_iff_iff, decide_eq_true_iff, decide_eq_true_iff]; exact Rat.lt_iff p q
  rw [e] at h
  exact h
/-- powers: any top and bottom -/
theorem w_power {a b : Int} {k n : Nat} (ha : a.natAbs < 2 ^ n) (hb : b.natAbs < 2 ^ n) (hk : k ≤ 1000000) (hn : n * k + 1 ≤ 60000000) (Q : SV → Prop) (h : Q (.val (.tuple [.int (a ^ k), .int (b ^ k)]))) : F_power [.val (.tuple [.int a, .int b]), iv (k : Nat)] Q := by
  refine ⟨show 2 ≤ 1000000 by decide, show 2 < 4 by decide, ⟨by omega, ?_⟩⟩
  show forGo _ _ (rgD 0 k) _ _
  rw [rgD_I]
  refine for_inv (fun L e => ∃ (j : Nat) (t : SV), L = (rgI j k).map .int ∧ j ≤ k ∧ e = [.val (.tuple [.int a, .int b]), iv k, .val (.tuple [.int (a ^ j), .int (b ^ j)]), t]) _ _ ?_ ?_ ?_
  · exact ⟨0, .no, rfl, by omega, by rw [Int.pow_zero, Int.pow_zero]; rfl⟩
  · rintro d L e ⟨j, t, hL, hj, rfl⟩ N hN
    have lt : (j : Int) < k := by
      rcases Nat.lt_or_ge j k with z | z
      · omega
      · rw [rgI_nil (by omega)] at hL; cases hL
    rw [rgI_cons lt, List.map_cons] at hL
    injection hL with e1 e2
    subst e1 e2
    have bj : n * j + 1 ≤ 60000000 := by
      have := Nat.mul_le_mul_left n hj
      omega
    have bn : n ≤ 60000000 := by
      have h1 : 1 ≤ k := by omega
      have := Nat.mul_le_mul_left n h1
      omega
    have p1 : Sm (a ^ j) := sm_of (n := n * j + 1) (by rw [Int.natAbs_pow]; exact pow_bits ha j) bj
    have p2 : Sm (b ^ j) := sm_of (n := n * j + 1) (by rw [Int.natAbs_pow]; exact pow_bits hb j) bj
    refine ⟨show 3 < 4 by decide, ix rfl (ix rfl ⟨p1, sm_of ha bn, ix rfl (ix rfl ⟨p2, sm_of hb bn, show 2 ≤ 1000000 by decide, show 2 < 4 by decide, hN _ ⟨j + 1, iv j, rfl, by omega, ?_⟩⟩)⟩)⟩
    rw [Int.pow_succ, Int.pow_succ]
    rfl
  · rintro e ⟨j, t, hL, hj, rfl⟩
    have : j = k := by
      rcases Nat.lt_or_ge j k with z | z
      · rw [rgI_cons (by omega)] at hL; cases hL
      · omega
    subst this
    exact h
theorem w_powerR {p : Rat} {k n : Nat} (sp : Sz n p) (hk : k ≤ 1000000) (hn : n * k + 1 ≤ 60000000) (Q : SV → Prop) (h : Q (frv (p ^ k))) : F_power [frv p, iv (k : Nat)] Q := by
  refine w_power sp.1 (by rw [den_abs]; exact sp.2) hk hn Q ?_
  have e : fr (p ^ k) = .tuple [.int (p.num ^ k), .int ((p.den : Int) ^ k)] := by
    unfold fr
    rw [Rat.num_pow, Rat.den_pow, Int.natCast_pow]
  unfold frv at h
  rw [e] at h
  exact h
end Lb
set_option Elab.async false
set_option linter.all false
set_option maxRecDepth 100000
set_option maxHeartbeats 4000000
set_option pp.maxSteps 600
namespace Lb
open PySem PySem.Spec PyProof.Rows L2 Pq
def M_law_power : MS := (msSeq (msSet 2 (toE (mC (.int 1))))
    (msSeq (msFor (mRg1 (mlCons (mPk 1) mlNil)) (mgName 3) (msSet 2 (mBin fMul (mPk 2) (mPk 0))))
    (msRet (mVar 2))))
abbrev F_law_power : FS := fnD 4 2 M_law_power
def M_law_lowest : MS := (msSeq (msPar 2 3 (maCons (mVar 0) (maCons (mVar 1) maNil)))
    (msSeq (msWhile (mTest (toD (mBin fGt (mPk 3) (mC (.int 0))))) (msPar 2 3 (maCons (mVar 3) (maCons (mBin fMod (mPk 2) (mPk 3)) maNil))))
    (msRet (toE (mTup (maCons (mBin fDiv (mPk 0) (mPk 2)) (maCons (mBin fDiv (mPk 1) (mPk 2)) maNil)))))))
abbrev F_law_lowest : FS := fnD 4 2 M_law_lowest
def M_law_steepness : MS := (msSeq (msSet 2 (mBin fAdd (mC (.int 2)) (toD (mCall 2 F_law_draw (maCons (mVar 0) (maCons (toE (mC (.int 8))) maNil))))))
    (msRet (mCall 2 F_law_lowest (maCons (mBin fAdd (mC (.int 1)) (toD (mCall 2 F_law_draw (maCons (mVar 0) (maCons (mBin fIx (toD (mLst (maCons (mBin fSub (mPk 2) (mC (.int 1))) (maCons (mBin fDiv (mPk 2) (mC (.int 2))) maNil)))) (toD (mCB fInt (mlCons (mPk 1) mlNil)))) maNil))))) (maCons (mVar 2) maNil)))))
abbrev F_law_steepness : FS := fnD 3 2 M_law_steepness
/-! ### the laws' own fractions -/
theorem w_llowest {a b : Int} {n : Nat} (ha : 0 ≤ a) (hb : 0 < b) (hn : b.natAbs < 2 ^ n) (h8 : n ≤ 8999) (Q : SV → Prop) (h : Q (frv ((a : Rat) / (b : Rat)))) : F_law_lowest [iv a, iv b] Q := by
  obtain ⟨g0, g1⟩ := gcd_bits (a := a) hb hn
  have g2 : (0 : Int) < (Int.gcd a b : Nat) := by omega
  refine ⟨show 2 < 4 by decide, show 3 < 4 by decide, wh_inv (fun m e => ∃ x y : Int, e = [iv a, iv b, iv x, iv y] ∧ 0 ≤ x ∧ 0 ≤ y ∧ Int.gcd x y = Int.gcd a b ∧ y.toNat = m) b.toNat ⟨a, b, rfl, ha, by omega, rfl, rfl⟩ ?_⟩
  rintro m e ⟨x, y, rfl, hx, hy, hg, rfl⟩ N hN
  refine iteD (fun c => ?_) (fun c => ?_)
  · have c : 0 < y := c
    have l1 := Int.emod_nonneg x (show y ≠ 0 by omega)
    have l2 := Int.emod_lt_of_pos x c
    exact ⟨c, show 2 < 4 by decide, show 3 < 4 by decide, hN _ _ (by omega) ⟨y, x % y, rfl, hy, l1, by rw [gcd_mod, hg], rfl⟩⟩
  · have c : ¬ 0 < y := c
    have : y = 0 := by omega
    subst this
    have ex : x = (Int.gcd a b : Nat) := by rw [← hg, Int.gcd_zero_right, Int.natAbs_of_nonneg hx]
    subst ex
    unfold frv at h
    rw [fr_div hb] at h
    exact ⟨g2, dv_of g1 h8, g2, dv_of g1 h8, show 2 ≤ 1000000 by decide, h⟩
theorem w_lpow {a : Int} {j : Int} {n : Nat} (k : Nat) (hj : j = k) (ha : a.natAbs < 2 ^ n) (hk : k ≤ 1000000) (hn : n * k + 1 ≤ 60000000) (Q : SV → Prop) (h : Q (iv (a ^ k))) : F_law_power [iv a, iv j] Q := by
  subst hj
  refine ⟨show 2 < 4 by decide, ⟨by omega, ?_⟩⟩
  show forGo _ _ (rgD 0 k) _ _
  rw [rgD_I]
  refine for_inv (fun L e => ∃ (j : Nat) (t : SV), L = (rgI j k).map .int ∧ j ≤ k ∧ e = [iv a, iv k, iv (a ^ j), t]) _ _ ?_ ?_ ?_
  · exact ⟨0, .no, rfl, by omega, by rw [Int.pow_zero]; rfl⟩
  · rintro d L e ⟨j, t, hL, hj, rfl⟩ N hN
    have lt : (j : Int) < k := by
      rcases Nat.lt_or_ge j k with z | z
      · omega
      · rw [rgI_nil (by omega)] at hL; cases hL
    rw [rgI_cons lt, List.map_cons] at hL
    injection hL with e1 e2
    subst e1 e2
    have bj : n * j + 1 ≤ 60000000 := by
      have := Nat.mul_le_mul_left n hj
      omega
    have bn : n ≤ 60000000 := by
      have h1 : 1 ≤ k := by omega
      have := Nat.mul_le_mul_left n h1
      omega
    have p1 : Sm (a ^ j) := sm_of (n := n * j + 1) (by rw [Int.natAbs_pow]; exact pow_bits ha j) bj
    refine ⟨show 3 < 4 by decide, p1, sm_of ha bn, show 2 < 4 by decide, hN _ ⟨j + 1, iv j, rfl, by omega, ?_⟩⟩
    rw [Int.pow_succ]
    rfl
  · rintro e ⟨j, t, hL, hj, rfl⟩
    have : j = k := by
      rcases Nat.lt_or_ge j k with z | z
      · rw [rgI_cons (by omega)] at hL; cases hL
      · omega
    subst this
    exact h
/-! ### steepnesses, shares, tails -/
/-- a steepness: top and bottom below 16 -/
structure St (a : Rat) : Prop where
  p0 : 0 < a
  l1 : a < 1
  n4 : a.num < 16
  d4 : a.den < 16
theorem St.num {a : Rat} (s : St a) : 0 < a.num := by
  have h := Rat.num_nonneg.mpr (Rat.le_of_lt s.p0)
  have : a.num ≠ 0 := fun z => by
    have := Rat.num_eq_zero.mp z
    rw [this] at s
    exact absurd s.p0 (by decide)
  omega
theorem St.lt {a : Rat} (s : St a) : a.num < a.den := by
  have h := (Rat.lt_iff a 1).mp s.l1
  simpa using h
theorem St.sz {a : Rat} (s : St a) : Sz 4 a := by
  have := s.num
  have := s.n4
  exact ⟨by show a.num.natAbs < 16; omega, s.d4⟩
theorem St.eq {a : Rat} : a = (a.num : Rat) / ((a.den : Int) : Rat) := (num_div_den a).symm
theorem rat_ne {b : Int} (h : b ≠ 0) : (b : Rat) ≠ 0 := fun z => h (Rat.intCast_eq_zero_iff.mp z)
def shR (a : Rat) (k : Int) : Rat := (1 - a) / (1 + a) * a ^ k.natAbs
def tlR (a : Rat) (k : Int) : Rat := if 0 ≤ k then 1 / (1 + a) * a ^ k.toNat else 1 - 1 / (1 + a) * a ^ (1 - k).toNat
theorem St.one_add {a : Rat} (s : St a) : (1 + a : Rat) ≠ 0 := fun z => by
  have := s.p0
  grind
theorem sh0 {a : Rat} (s : St a) : ((a.den : Int) - a.num : Int) / ((a.den : Int) + a.num : Int) = ((1 - a) / (1 + a) : Rat) := by
  have e : a * ((a.den : Int) : Rat) = (a.num : Rat) := by
    have := num_div_den a
    have d := cast_ne (den0 a)
    grind
  have d := cast_ne (den0 a)
  have d2 := s.one_add
  have d3 : ((a.den : Int) : Rat) + (a.num : Rat) ≠ 0 := by
    rw [← Rat.intCast_add]
    exact rat_ne (by have := den0 a; have := s.num; omega)
  rw [Rat.intCast_sub, Rat.intCast_add]
  grind
theorem tl0 {a : Rat} (s : St a) : ((a.den : Int) : Rat) / (((a.den : Int) + a.num : Int) : Rat) = 1 / (1 + a) := by
  have e : a * ((a.den : Int) : Rat) = (a.num : Rat) := by
    have := num_div_den a
    have d := cast_ne (den0 a)
    grind
  have d := cast_ne (den0 a)
  have d2 := s.one_add
  have d3 : ((a.den : Int) : Rat) + (a.num : Rat) ≠ 0 := by
    rw [← Rat.intCast_add]
    exact rat_ne (by have := den0 a; have := s.num; omega)
  rw [Rat.intCast_add]
  grind
theorem w_powI {p : Rat} {j : Int} {n : Nat} (k : Nat) (hj : j = k) (sp : Sz n p) (hk : k ≤ 1000000) (hn : n * k + 1 ≤ 60000000) (Q : SV → Prop) (h : Q (frv (p ^ k))) : F_power [frv p, iv j] Q := by
  subst hj
  exact w_powerR sp hk hn Q h
theorem pow0 {a : Rat} (h : 0 ≤ a) (k : Nat) : 0 ≤ a ^ k := Rat.pow_nonneg h
theorem St.sub {a : Rat} (s : St a) : 0 < (a.den : Int) - a.num ∧ ((a.den : Int) - a.num).natAbs < 2 ^ 5 ∧ 0 < (a.den : Int) + a.num ∧ ((a.den : Int) + a.num).natAbs < 2 ^ 5 := by
  have := s.num; have := s.lt; have := s.n4; have := s.d4
  have : (2 : Nat) ^ 5 = 32 := by decide
  refine ⟨by omega, by omega, by omega, by omega⟩
theorem div0 {a b : Int} (ha : 0 ≤ a) (hb : 0 < b) : (0 : Rat) ≤ (a : Rat) / (b : Rat) := by
  rw [← Rat.divInt_eq_div]
  exact Rat.divInt_nonneg ha (by omega)
theorem st_div {p q : Int} (h1 : 1 ≤ p) (h2 : p < q) (h3 : q < 10) : St ((p : Rat) / (q : Rat)) := by
  have hq : (0 : Int) < q := by omega
  have qr := cast_pos hq
  have p16 : (2 : Nat) ^ 4 = 16 := by decide
  have z := sz_divInt (n := 4) (a := p) (b := q) (by omega) (by omega) hq
  refine ⟨?_, ?_, ?_, by have := z.2; omega⟩
  · rw [Rat.lt_div_iff qr, Rat.zero_mul]; exact cast_pos (by omega)
  · rw [Rat.div_lt_iff qr, Rat.one_mul]; exact Rat.intCast_lt_intCast.mpr h2
  · have := z.1
    omega
theorem pow_divI (a : Rat) (k : Nat) : ((a.num ^ k : Int) : Rat) / (((a.den : Int) ^ k : Int) : Rat) = a ^ k := by
  have e := num_div_den (a ^ k)
  rw [Rat.num_pow, Rat.den_pow, Int.natCast_pow] at e
  exact e
theorem St.q5 {a : Rat} (s : St a) : ((a.den : Int)).natAbs < 2 ^ 4 ∧ a.num.natAbs < 2 ^ 4 := ⟨by rw [den_abs]; exact s.sz.2, s.sz.1⟩
end Lb
set_option Elab.async false
set_option linter.all false
set_option maxRecDepth 100000
set_option maxHeartbeats 4000000
set_option pp.maxSteps 600
namespace Lb
open PySem PySem.Spec PyProof.Rows L2 Pq
def M_merged : MS := (msSeq (msSet 1 mDict)
    (msSeq (msFor (mItems (toD (mVar 0))) (mgTup 2 (mgCons (mgName 2) (mgCons (mgName 3) mgNil))) (msPut 1 (mPk 2) (toD (mCall 2 F_added (maCons (toE (mGet2 (mPk 1) (mPk 2) (mTup (maCons (toE (mC (.int 0))) (maCons (toE (mC (.int 1))) maNil))))) (maCons (mVar 3) maNil))))))
    (msRet (mCB fTuple (mlCons (toD (mLc [2] (mItems (toD (mCB fSorted (mlCons (mPk 1) mlNil)))) (mgName 2) (mTest (toD (mBin fNe (toD (mBin fIx (mPk 1) (mPk 2))) (mTup (maCons (toE (mC (.int 0))) (maCons (toE (mC (.int 1))) maNil)))))) (toE (mTup (maCons (mVar 2) (maCons (mBin fIx (mPk 1) (mPk 2)) maNil)))))) mlNil)))))
abbrev F_merged : FS := fnD 4 1 M_merged
/-! ### dicts from ints to fractions -/
abbrev Pr := List (Int × Rat)
def ek (p : Int × Rat) : Da × Da := (.int p.1, fr p.2)
def en (p : Int × Rat) : Da := .tuple [.int p.1, fr p.2]
def sumAt : Pr → Int → Rat
  | [], _ => 0
  | p :: r, y => (if p.1 = y then p.2 else 0) + sumAt r y
def look : Pr → Int → Option Rat
  | [], _ => none
  | p :: r, y => if p.1 = y then some p.2 else look r y
def putI : Pr → Int → Rat → Pr
  | [], y, q => [(y, q)]
  | p :: r, y, q => if p.1 = y then (y, q) :: r else p :: putI r y q
theorem sumAt_snoc : ∀ (L : Pr) (z : Int) (q : Rat) (y : Int), sumAt (L ++ [(z, q)]) y = sumAt L y + if z = y then q else 0
  | [], z, q, y => by
    show (if z = y then q else 0) + 0 = 0 + _
    rw [Rat.add_zero, Rat.zero_add]
  | p :: r, z, q, y => by
    show (if p.1 = y then p.2 else 0) + sumAt (r ++ [(z, q)]) y = _
    rw [sumAt_snoc r z q y, ← Rat.add_assoc]
    rfl
theorem tm_ek : ∀ D : Pr, isTm (D.map ek) = false
  | [] => rfl
  | _ :: _ => rfl
theorem pm_ek : ∀ D : Pr, isPm (D.map ek) = false
  | [] => rfl
  | _ :: _ => rfl
theorem dlook_ek (y : Int) : ∀ D : Pr, dLook (D.map ek) (.inl y) = (look D y).map fr
  | [] => rfl
  | p :: r => by
    have ih := dlook_ek y r
    unfold dLook at ih ⊢
    rw [List.map_cons]
    by_cases c : p.1 = y
    · rw [List.find?_cons_of_pos (by show decide (p.1 = y) = true; exact decide_eq_true c), look, if_pos c]
      rfl
    · rw [List.find?_cons_of_neg (by show ¬ decide (p.1 = y) = true; rw [decide_eq_false c]; exact Bool.false_ne_true), look, if_neg c]
      exact ih
theorem dget_ek (D : Pr) (y : Int) : dGetO (D.map ek) (.int y) = some ((look D y).map fr) := by
  unfold dGetO
  rw [tm_ek, if_neg Bool.false_ne_true]
  show some (dLook (D.map ek) (.inl y)) = _
  rw [dlook_ek]
theorem look_none (y : Int) : ∀ D : Pr, look D y = none ↔ y ∉ D.map (·.1)
  | [] => by simp [look]
  | p :: r => by
    rw [look, List.map_cons, List.mem_cons]
    by_cases c : p.1 = y
    · rw [if_pos c]; simp [c]
    · rw [if_neg c, look_none y r]
      exact ⟨fun h z => z.elim (fun e => c e.symm) h, fun h z => h (.inr z)⟩
theorem any_ek (y : Int) : ∀ D : Pr, ((D.map ek).any fun p => isKy (.inl y) p.1) = (look D y).isSome
  | [] => rfl
  | p :: r => by
    rw [List.map_cons, List.any_cons, any_ek y r, look]
    show (decide (p.1 = y) || _) = _
    by_cases c : p.1 = y
    · rw [decide_eq_true c, if_pos c]; rfl
    · rw [decide_eq_false c, if_neg c]; rfl
theorem putI_none (y : Int) (q : Rat) : ∀ D : Pr, look D y = none → putI D y q = D ++ [(y, q)]
  | [], _ => rfl
  | p :: r, h => by
    rw [look] at h
    by_cases c : p.1 = y
    · rw [if_pos c] at h; cases h
    · rw [if_neg c] at h
      rw [putI, if_neg c, putI_none y q r h]; rfl
theorem repl_none (y : Int) (d : Da) : ∀ D : Pr, look D y = none → ((D.map ek).map fun p => if isKy (.inl y) p.1 = true then (p.1, d) else p) = D.map ek
  | [], _ => rfl
  | p :: r, h => by
    rw [look] at h
    by_cases c : p.1 = y
    · rw [if_pos c] at h; cases h
    · rw [if_neg c] at h
      rw [List.map_cons, List.map_cons, repl_none y d r h, if_neg (by show ¬ decide (p.1 = y) = true; rw [decide_eq_false c]; exact Bool.false_ne_true)]
theorem repl_ek (y : Int) (q : Rat) : ∀ D : Pr, (D.map (·.1)).Nodup → (look D y).isSome = true → ((D.map ek).map fun p => if isKy (.inl y) p.1 = true then (p.1, fr q) else p) = (putI D y q).map ek
  | [], _, h => by cases h
  | p :: r, nd, h => by
    rw [List.map_cons, List.nodup_cons] at nd
    rw [look] at h
    by_cases c : p.1 = y
    · rw [putI, if_pos c, List.map_cons, List.map_cons, if_pos (by show decide (p.1 = y) = true; exact decide_eq_true c), repl_none y _ r ((look_none y r).mpr (by rw [← c]; exact nd.1))]
      show (PyData.int p.1, fr q) :: _ = _
      rw [c]; rfl
    · rw [if_neg c] at h
      rw [putI, if_neg c, List.map_cons, List.map_cons, repl_ek y q r nd.2 h, if_neg (by show ¬ decide (p.1 = y) = true; rw [decide_eq_false c]; exact Bool.false_ne_true)]
      rfl
theorem dput_ek {D : Pr} (nd : (D.map (·.1)).Nodup) (y : Int) (q : Rat) : dPut (D.map ek) (.inl y) (fr q) = (putI D y q).map ek := by
  unfold dPut
  rw [any_ek]
  cases h : (look D y).isSome with
  | true => rw [if_pos rfl, repl_ek y q D nd h]
  | false =>
    rw [if_neg Bool.false_ne_true]
    have h0 : look D y = none := by
      cases z : look D y with
      | none => rfl
      | some v => rw [z] at h; cases h
    rw [putI_none y q D h0, List.map_append]
    rfl
theorem look_put (y : Int) (q : Rat) (x : Int) : ∀ D : Pr, look (putI D y q) x = if y = x then some q else look D x
  | [] => by
    show (if y = x then some q else none) = _
    rfl
  | p :: r => by
    rw [putI]
    by_cases c : p.1 = y
    · rw [if_pos c]
      show (if y = x then some q else look r x) = _
      by_cases e : y = x
      · rw [if_pos e, if_pos e]
      · rw [if_neg e, if_neg e, look, if_neg (by rw [c]; exact e)]
    · rw [if_neg c]
      show (if p.1 = x then some p.2 else look (putI r y q) x) = _
      rw [look_put y q x r, look]
      by_cases e : p.1 = x
      · rw [if_pos e, if_pos e, if_neg (fun z => c (e.trans z.symm))]
      · rw [if_neg e, if_neg e]
theorem keys_put (y : Int) (q : Rat) : ∀ D : Pr, (D.map (·.1)).Nodup → ((putI D y q).map (·.1)).Nodup ∧ ∀ x, x ∈ (putI D y q).map (·.1) ↔ x = y ∨ x ∈ D.map (·.1)
  | [], _ => by simp [putI]
  | p :: r, nd => by
    rw [List.map_cons, List.nodup_cons] at nd
    rw [putI]
    by_cases c : p.1 = y
    · rw [if_pos c, List.map_cons, List.nodup_cons]
      refine ⟨⟨by rw [← c]; exact nd.1, nd.2⟩, fun x => ?_⟩
      rw [List.map_cons, List.mem_cons, List.mem_cons, c]
      exact ⟨fun h => .inr h, fun h => h.elim .inl id⟩
    · obtain ⟨a, b⟩ := keys_put y q r nd.2
      rw [if_neg c, List.map_cons, List.nodup_cons]
      refine ⟨⟨fun z => ((b _).mp z).elim c nd.1, a⟩, fun x => ?_⟩
      rw [List.mem_cons, List.map_cons, List.mem_cons, b x]
      exact ⟨fun h => h.elim (fun z => .inr (.inl z)) fun z => z.elim .inl fun z => .inr (.inr z), fun h => h.elim (fun z => .inr (.inl z)) fun z => z.elim .inl fun z => .inr (.inr z)⟩
theorem len_put (y : Int) (q : Rat) : ∀ D : Pr, (putI D y q).length ≤ D.length + 1
  | [] => Nat.le_refl _
  | p :: r => by
    rw [putI]
    by_cases c : p.1 = y
    · rw [if_pos c, List.length_cons, List.length_cons]; omega
    · rw [if_neg c, List.length_cons, List.length_cons]
      have := len_put y q r
      omega
/-- what the dict holds when done is merged -/
structure MgI (D done : Pr) : Prop where
  nd : (D.map (·.1)).Nodup
  lk : ∀ y, look D y = if y ∈ done.map (·.1) then some (sumAt done y) else none
  ln : D.length ≤ done.length
theorem MgI.nil : MgI [] [] := ⟨List.nodup_nil, fun y => rfl, Nat.le_refl _⟩
theorem sumAt_none (y : Int) : ∀ L : Pr, y ∉ L.map (·.1) → sumAt L y = 0
  | [], _ => rfl
  | p :: r, h => by
    rw [List.map_cons, List.mem_cons, not_or] at h
    rw [sumAt, if_neg (fun e => h.1 e.symm), sumAt_none y r h.2, Rat.zero_add]
theorem MgI.get {D done : Pr} (h : MgI D done) (y : Int) : ((look D y).map fr).getD (.tuple [.int 0, .int 1]) = fr (sumAt done y) := by
  rw [h.lk y]
  by_cases c : y ∈ done.map (·.1)
  · rw [if_pos c]; rfl
  · rw [if_neg c, sumAt_none y done c]; rfl
theorem MgI.step {D done : Pr} (h : MgI D done) (y : Int) (q : Rat) : MgI (putI D y (sumAt done y + q)) (done ++ [(y, q)]) := by
  obtain ⟨k1, k2⟩ := keys_put y (sumAt done y + q) D h.nd
  refine ⟨k1, fun x => ?_, ?_⟩
  · rw [look_put, h.lk x, sumAt_snoc, List.map_append, List.map_cons, List.map_nil]
    by_cases e : y = x
    · subst e
      rw [if_pos rfl, if_pos (List.mem_append_right _ List.mem_cons_self), if_pos rfl]
    · rw [if_neg e, if_neg e, Rat.add_zero]
      by_cases c : x ∈ done.map (·.1)
      · rw [if_pos c, if_pos (List.mem_append_left _ c)]
      · rw [if_neg c, if_neg (fun z => (List.mem_append.mp z).elim c fun w => e (List.mem_singleton.mp w).symm)]
  · have := len_put y (sumAt done y + q) D
    rw [List.length_append]
    have := h.ln
    show _ ≤ done.length + 1
    omega
/-- the sorted list of some keys -/
theorem sorted_eq : ∀ {K L : List Int}, K.Pairwise (· < ·) → L.Pairwise (· ≤ ·) → L.Perm K → L = K
  | [], L, _, _, p => List.perm_nil.mp p
  | k :: K, [], _, _, p => absurd p.length_eq (by simp)
  | k :: K, l :: L, hk, hl, p => by
    rw [List.pairwise_cons] at hk hl
    have e : l = k := by
      have h1 : k ∈ l :: L := p.mem_iff.mpr List.mem_cons_self
      have h2 : l ∈ k :: K := p.mem_iff.mp List.mem_cons_self
      rcases List.mem_cons.mp h1 with z | z
      · exact z.symm
      · rcases List.mem_cons.mp h2 with y | y
        · exact y
        · have := hl.1 _ z
          have := hk.1 _ y
          omega
    subst e
    rw [sorted_eq hk.2 hl.2 (List.perm_cons l |>.mp p)]
theorem keys_perm {D done : Pr} (h : MgI D done) {K : List Int} (hK : K.Pairwise (· < ·)) (hm : ∀ y, y ∈ K ↔ y ∈ done.map (·.1)) {ys : List Int} (p : ys.Perm (D.map (·.1))) (s : ys.Pairwise (· ≤ ·)) : ys = K := by
  refine sorted_eq hK s (p.trans ?_)
  refine (List.perm_ext_iff_of_nodup h.nd (hK.imp fun a => by omega)).mpr fun y => ?_
  rw [hm y, ← Decidable.not_iff_not, ← look_none, h.lk y]
  by_cases c : y ∈ done.map (·.1)
  · rw [if_pos c]; simp [c]
  · rw [if_neg c]; simp [c]
end Lb
set_option Elab.async false
set_option linter.all false
set_option maxRecDepth 100000
set_option maxHeartbeats 4000000
set_option pp.maxSteps 600
namespace Lb
open PySem PySem.Spec PyProof.Rows L2 Pq
theorem ixd {ds : List (Da × Da)} {c d : Da} {Q : SV → Prop} (e : dGetO ds c = some (some d)) (h : Q (.val d)) : fIx (.dict ds) c Q := by
  unfold fIx
  cases c <;> (dsimp only; rw [e]; exact h)
theorem eqv_fr (p q : Rat) : PyData.eqv (fr p) (fr q) = decide (p = q) := by
  by_cases e : p = q
  · subst e
    rw [(lay_fr p).refl, decide_eq_true rfl]
  · rw [decide_eq_false e]
    unfold fr
    simp only [PyData.eqv, PyData.eqvAll]
    have : ¬ (p.num = q.num ∧ (p.den : Int) = (q.den : Int)) := fun ⟨a, b⟩ => e (Rat.ext a (by omega))
    simp
    intro a b
    exact this ⟨a, by omega⟩
/-- what merged tells -/
def mgT (L : Pr) (K : List Int) : List Da := (K.filter fun y => decide (sumAt L y ≠ 0)).map fun y => en (y, sumAt L y)
def tstL (L : Pr) : Da → Bool
  | .int y => decide (sumAt L y ≠ 0)
  | _ => false
def enL (L : Pr) : Da → Da
  | .int y => en (y, sumAt L y)
  | _ => .none
theorem sumAt_ge (y : Int) : ∀ L : Pr, (∀ p ∈ L, 0 ≤ p.2) → 0 ≤ sumAt L y
  | [], _ => Rat.le_refl
  | p :: r, h => by
    have a := sumAt_ge y r fun x hx => h x (List.mem_cons_of_mem _ hx)
    have b := h p List.mem_cons_self
    rw [sumAt]
    by_cases c : p.1 = y
    · rw [if_pos c]; exact Rat.add_nonneg b a
    · rw [if_neg c, Rat.zero_add]; exact a
end Lb
set_option Elab.async false
set_option linter.all false
set_option maxRecDepth 100000
set_option maxHeartbeats 4000000
set_option pp.maxSteps 600
namespace Lb
open PySem PySem.Spec PyProof.Rows L2 Pq
def prods (cs ws : List Int) : List Int := List.zipWith (· * ·) cs ws
def dot (cs ws : List Int) : Int := (prods cs ws).sum
def num (cs : List Int) (lo hi : Int) (ws : List Int) : Int := max lo (min hi (dot cs ws))
/-! ### rows -/
/-! ### ladders -/
def ladS (a : Rat) (n lo hi y : Int) : Rat := if y = lo then tlR a (n - lo) else if y = hi then tlR a (hi - n) else shR a (y - n)
end Lb
set_option Elab.async false
set_option linter.all false
set_option maxRecDepth 100000
set_option maxHeartbeats 4000000
set_option pp.maxSteps 600
namespace Lb
open PySem PySem.Spec PyProof.Rows L2 Pq
theorem rgI_pw : ∀ (n : Nat) (a b : Int), (b - a).toNat = n → (rgI a b).Pairwise (· < ·)
  | 0, a, b, h => by rw [rgI_nil (by omega)]; exact List.Pairwise.nil
  | n + 1, a, b, h => by
    rw [rgI_cons (by omega), List.pairwise_cons]
    refine ⟨fun x hx => ?_, rgI_pw n (a + 1) b (by omega)⟩
    have := mem_rgI.mp hx
    omega
theorem rgI_nodup (a b : Int) : (rgI a b).Nodup := (rgI_pw _ a b rfl).imp fun h => by omega
/-- where a ladder is asked -/
structure LadOk (n lo hi : Int) : Prop where
  l0 : 0 ≤ lo
  ln : lo ≤ n
  nh : n ≤ hi
  h9 : hi ≤ 20
end Lb
set_option Elab.async false
set_option linter.all false
set_option maxRecDepth 100000
set_option maxHeartbeats 4000000
set_option pp.maxSteps 600
namespace Lb
open PySem PySem.Spec PyProof.Rows L2 Pq
/-! ### texts -/
end Lb
set_option Elab.async false
set_option linter.all false
set_option maxRecDepth 100000
set_option maxHeartbeats 4000000
set_option pp.maxSteps 600
namespace Lb
open PySem PySem.Spec PyProof.Rows L2 Pq
/-- the law's own share, over (q + p) q ** wide -/
def shI (a : Rat) (n lo hi y : Int) : Int := a.num ^ (y - n).natAbs * (a.den : Int) ^ ((hi - lo).toNat - (y - n).natAbs) * (if y = lo ∨ y = hi then (a.den : Int) else (a.den : Int) - a.num)
def btI (a : Rat) (lo hi : Int) : Int := ((a.den : Int) + a.num) * (a.den : Int) ^ (hi - lo).toNat
theorem rung_div {a : Rat} (s : St a) (c : Int) (f g : Nat) : ((a.num ^ f * (a.den : Int) ^ g * c : Int) : Rat) / ((((a.den : Int) + a.num) * (a.den : Int) ^ (f + g) : Int) : Rat) = ((c : Rat) / (((a.den : Int) + a.num : Int) : Rat)) * a ^ f := by
  obtain ⟨_, _, v0, _⟩ := s.sub
  have e := pow_divI a f
  have qf := cast_ne (show (0 : Int) < (a.den : Int) ^ f from Int.pow_pos (den0 a))
  have qg := cast_ne (show (0 : Int) < (a.den : Int) ^ g from Int.pow_pos (den0 a))
  have qs := cast_ne v0
  rw [← e, Int.pow_add, Rat.intCast_mul, Rat.intCast_mul, Rat.intCast_mul, Rat.intCast_mul]
  generalize ((a.num ^ f : Int) : Rat) = P at *
  generalize (((a.den : Int) ^ f : Int) : Rat) = F at *
  generalize (((a.den : Int) ^ g : Int) : Rat) = G at *
  generalize (((a.den : Int) + a.num : Int) : Rat) = S at *
  grind
theorem sh_div {a : Rat} {n lo hi y : Int} (s : St a) (o : LadOk n lo hi) (h1 : lo ≤ y) (h2 : y ≤ hi) : ((shI a n lo hi y : Int) : Rat) / ((btI a lo hi : Int) : Rat) = ladS a n lo hi y := by
  have o2 := o.ln; have o3 := o.nh
  have e : (hi - lo).toNat = (y - n).natAbs + ((hi - lo).toNat - (y - n).natAbs) := by omega
  unfold shI btI
  rw [show ((a.den : Int) ^ (hi - lo).toNat) = (a.den : Int) ^ ((y - n).natAbs + ((hi - lo).toNat - (y - n).natAbs)) by rw [← e], rung_div s]
  unfold ladS
  by_cases c : y = lo
  · rw [if_pos (.inl c), if_pos c, tl0 s]
    unfold tlR
    rw [if_pos (by omega), show (n - lo).toNat = (y - n).natAbs by omega]
  · by_cases d : y = hi
    · rw [if_pos (.inr d), if_neg c, if_pos d, tl0 s]
      unfold tlR
      rw [if_pos (by omega), show (hi - n).toNat = (y - n).natAbs by omega]
    · rw [if_neg (fun z => z.elim c d), if_neg c, if_neg d, sh0 s]
      rfl
theorem bt_pos {a : Rat} {lo hi : Int} (s : St a) : 0 < btI a lo hi := by
  obtain ⟨_, _, v0, _⟩ := s.sub
  exact Int.mul_pos v0 (Int.pow_pos (den0 a))
end Lb
set_option Elab.async false
set_option linter.all false
set_option maxRecDepth 100000
set_option maxHeartbeats 4000000
set_option pp.maxSteps 600
namespace Lb
open PySem PySem.Spec PyProof.Rows L2 Pq
/-! ### the laws' own table, noughts left out -/
/-! ### flat throws -/
end Lb
set_option Elab.async false
set_option linter.all false
set_option maxRecDepth 100000
set_option maxHeartbeats 4000000
set_option pp.maxSteps 600
namespace Lb
open PySem PySem.Spec PyProof.Rows L2 Pq
/-! ### choosing -/
theorem inv_pos {a : Rat} (s : St a) : 0 < a⁻¹ := Rat.inv_pos.mpr s.p0
end Lb
set_option Elab.async false
set_option linter.all false
set_option maxRecDepth 100000
set_option maxHeartbeats 4000000
set_option pp.maxSteps 600
namespace Lb
open PySem PySem.Spec PyProof.Rows L2 Pq
end Lb
set_option Elab.async false
set_option linter.all false
set_option maxRecDepth 100000
set_option maxHeartbeats 4000000
set_option pp.maxSteps 600
namespace Lb
open PySem PySem.Spec PyProof.Rows L2 Pq
/-! ### the laws' own throws -/
end Lb
set_option Elab.async false
set_option linter.all false
set_option maxRecDepth 100000
set_option maxHeartbeats 4000000
set_option pp.maxSteps 600
namespace Lb
open PySem PySem.Spec PyProof.Rows L2 Pq
/-! ### rungs, their whole -/
def rgS (a : Rat) (n lo hi y : Int) : Int := if lo = hi then 1 else shI a n lo hi y
def rgB (a : Rat) (lo hi : Int) : Int := if lo = hi then 1 else btI a lo hi
theorem rgB_pos {a : Rat} {lo hi : Int} (s : St a) : 0 < rgB a lo hi := by
  unfold rgB
  split
  · decide
  · exact bt_pos s
/-! the whole is one -/
theorem tl_step {a : Rat} (s : St a) (k : Int) : tlR a (k - 1) = tlR a k + shR a (k - 1) := by
  have p := s.one_add
  unfold tlR shR
  by_cases c : 1 ≤ k
  · rw [if_pos (by omega), if_pos (by omega), show k.toNat = (k - 1).toNat + 1 by omega, show (k - 1).natAbs = (k - 1).toNat by omega, Rat.pow_succ]
    generalize a ^ (k - 1).toNat = P
    grind
  · by_cases d : k = 0
    · subst d
      rw [if_neg (by omega), if_pos (by omega), show (1 - ((0 : Int) - 1)).toNat = 1 + 1 by decide, show ((0 : Int) - 1).natAbs = 0 + 1 by decide, show (0 : Int).toNat = 0 by decide, Rat.pow_succ, Rat.pow_succ, Rat.pow_zero]
      grind
    · rw [if_neg (by omega), if_neg (by omega), show (1 - (k - 1)).toNat = (1 - k).toNat + 1 by omega, show (k - 1).natAbs = (1 - k).toNat by omega, Rat.pow_succ]
      generalize a ^ (1 - k).toNat = P
      grind
theorem tl_flip {a : Rat} (s : St a) (k : Int) : tlR a (1 - k) = 1 - tlR a k := by
  have p := s.one_add
  unfold tlR
  by_cases c : 0 ≤ k
  · by_cases d : k = 0
    · subst d
      rw [if_pos (by omega), if_pos (by omega), show (1 - (0 : Int)).toNat = 0 + 1 by decide, show (0 : Int).toNat = 0 by decide, Rat.pow_succ, Rat.pow_zero]
      grind
    · by_cases e : k = 1
      · subst e
        rw [if_pos (by omega), if_pos (by omega), show (1 - (1 : Int)).toNat = 0 by decide, show (1 : Int).toNat = 0 + 1 by decide, Rat.pow_succ, Rat.pow_zero]
        grind
      · rw [if_neg (by omega), if_pos c, show 1 - (1 - k) = k by omega]
  · rw [if_pos (by omega), if_neg c]
    grind
theorem sh_sym (a : Rat) {k j : Int} (h : j = -k) : shR a j = shR a k := by
  subst h
  unfold shR
  rw [Int.natAbs_neg]
def qsum : List Rat → Rat
  | [] => 0
  | q :: r => q + qsum r
theorem qsum_app : ∀ L M : List Rat, qsum (L ++ M) = qsum L + qsum M
  | [], M => by show qsum M = 0 + qsum M; rw [Rat.zero_add]
  | q :: L, M => by
    show q + qsum (L ++ M) = q + qsum L + qsum M
    rw [qsum_app L M, Rat.add_assoc]
theorem lad_part {a : Rat} {n lo hi : Int} (s : St a) (o : LadOk n lo hi) : ∀ (m : Nat) (y : Int), (y - lo).toNat = m → lo ≤ y → y < hi → qsum ((rgI lo (y + 1)).map (ladS a n lo hi)) = tlR a (n - y)
  | 0, y, e, h0, h1 => by
    have : y = lo := by omega
    subst this
    rw [rgI_one]
    show ladS a n y hi y + 0 = _
    unfold ladS
    rw [if_pos rfl, Rat.add_zero]
  | m + 1, y, e, h0, h1 => by
    have ih := lad_part s o m (y - 1) (by omega) (by omega) (by omega)
    rw [rgI_app (a := lo) (b := y) (c := y + 1) (by omega) (by omega), rgI_one, List.map_append, qsum_app]
    rw [show y - 1 + 1 = y by omega] at ih
    rw [ih]
    show _ + (ladS a n lo hi y + 0) = _
    unfold ladS
    rw [if_neg (by omega), if_neg (by omega), Rat.add_zero, show n - (y - 1) = (n - y) + 1 by omega, sh_sym a (show y - n = -(n - y) by omega)]
    have := tl_step s (n - y + 1)
    rw [show n - y + 1 - 1 = n - y by omega] at this
    rw [this]
theorem lad_whole {a : Rat} {n lo hi : Int} (s : St a) (o : LadOk n lo hi) (c : lo ≠ hi) : qsum ((rgI lo (hi + 1)).map (ladS a n lo hi)) = 1 := by
  have o2 := o.ln; have o3 := o.nh
  have ih := lad_part s o _ (hi - 1) rfl (by omega) (by omega)
  rw [show hi - 1 + 1 = hi by omega] at ih
  rw [rgI_app (a := lo) (b := hi) (c := hi + 1) (by omega) (by omega), rgI_one, List.map_append, qsum_app, ih]
  show _ + (ladS a n lo hi hi + 0) = _
  unfold ladS
  rw [if_neg (by omega), if_pos rfl, Rat.add_zero, show n - (hi - 1) = 1 - (hi - n) by omega, tl_flip s]
  grind
theorem qsum_int (f : Int → Int) {b : Int} (h : 0 < b) : ∀ L : List Int, qsum (L.map fun y => (f y : Rat) / (b : Rat)) = (((L.map f).sum : Int) : Rat) / (b : Rat)
  | [] => by
    show (0 : Rat) = ((0 : Int) : Rat) / _
    have : ((0 : Int) : Rat) = 0 := rfl
    rw [this, Rat.div_def, Rat.zero_mul]
  | y :: L => by
    have b0 := cast_ne h
    rw [List.map_cons, List.map_cons, List.sum_cons, Rat.intCast_add]
    show _ + qsum _ = _
    rw [qsum_int f h L]
    grind
theorem rg_whole {a : Rat} {n lo hi : Int} (s : St a) (o : LadOk n lo hi) : ((rgI lo (hi + 1)).map (rgS a n lo hi)).sum = rgB a lo hi := by
  by_cases c : lo = hi
  · subst c
    unfold rgS rgB
    simp only [if_pos rfl, rgI_one]
    rfl
  · have w := lad_whole s o c
    have b0 := bt_pos (lo := lo) (hi := hi) s
    have e : (rgI lo (hi + 1)).map (ladS a n lo hi) = (rgI lo (hi + 1)).map fun y => ((shI a n lo hi y : Int) : Rat) / ((btI a lo hi : Int) : Rat) := by
      apply List.map_congr_left
      intro y hy
      have := mem_rgI.mp hy
      rw [sh_div s o (by omega) (by omega)]
    rw [e, qsum_int _ b0] at w
    have b1 := cast_ne b0
    have w2 : (((((rgI lo (hi + 1)).map (shI a n lo hi)).sum : Int)) : Rat) = ((btI a lo hi : Int) : Rat) := by grind
    have e2 : (rgI lo (hi + 1)).map (rgS a n lo hi) = (rgI lo (hi + 1)).map (shI a n lo hi) := by
      apply List.map_congr_left
      intro y _
      unfold rgS
      rw [if_neg c]
    rw [e2]
    unfold rgB
    rw [if_neg c]
    exact Rat.intCast_inj.mp w2
end Lb
set_option Elab.async false
set_option linter.all false
set_option maxRecDepth 100000
set_option maxHeartbeats 4000000
set_option pp.maxSteps 600
namespace Lb
open PySem PySem.Spec PyProof.Rows L2 Pq
/-! ### firsts -/
def up (b : Rat) (n lo h m : Int) : Int := ((rgI m (h + 1)).map (rgS b n lo h)).sum
def dn (b : Rat) (n lo h m : Int) : Int := ((rgI lo m).map (rgS b n lo h)).sum
end Lb
set_option Elab.async false
set_option linter.all false
set_option maxRecDepth 100000
set_option maxHeartbeats 4000000
set_option pp.maxSteps 600
namespace Lb
open PySem PySem.Spec PyProof.Rows L2 Pq
/-- what one rung of the mark tells, over A B ** (how many sums) -/
def fz (b : Rat) (lo h m : Int) : List Int → Int → Int → List (Int × Int)
  | [], j, l => [(j, l)]
  | n :: r, j, l => (j, l * up b n lo h m * rgB b lo h ^ r.length) :: fz b lo h m r (j + 1) (l * dn b n lo h m)
end Lb
set_option Elab.async false
set_option linter.all false
set_option maxRecDepth 100000
set_option maxHeartbeats 4000000
set_option pp.maxSteps 600
namespace Lb
open PySem PySem.Spec PyProof.Rows L2 Pq
end Lb
set_option Elab.async false
set_option linter.all false
set_option maxRecDepth 100000
set_option maxHeartbeats 4000000
set_option pp.maxSteps 600
namespace Lb
open PySem PySem.Spec PyProof.Rows L2 Pq
end Lb
set_option Elab.async false
set_option linter.all false
set_option maxRecDepth 100000
set_option maxHeartbeats 4000000
set_option pp.maxSteps 600
namespace Lb
open PySem PySem.Spec PyProof.Rows L2 Pq
/-! ### tables as functions, what is above -/
def posR (q : Rat) : Rat := if 0 < q then q else 0
/-- the table of f, noughts left out -/
def tb (lo hi : Int) (f : Int → Rat) : Pr := ((rgI lo hi).filter fun y => decide (0 < f y)).map fun y => (y, f y)
/-- what is above F g -/
def exc (lo hi : Int) (F : Rat) (f g : Int → Rat) : Rat := qsum ((rgI lo hi).map fun y => posR (f y - F * g y))
theorem qsum_zero {α : Type} (f : α → Rat) : ∀ L : List α, (∀ x ∈ L, f x = 0) → qsum (L.map f) = 0
  | [], _ => rfl
  | x :: L, h => by
    show f x + qsum (L.map f) = 0
    rw [h x List.mem_cons_self, qsum_zero f L fun y hy => h y (List.mem_cons_of_mem _ hy), Rat.zero_add]
theorem qsum_addf {α : Type} (f g : α → Rat) : ∀ L : List α, qsum (L.map fun x => f x + g x) = qsum (L.map f) + qsum (L.map g)
  | [] => by show (0 : Rat) = 0 + 0; rw [Rat.add_zero]
  | x :: L => by
    show f x + g x + qsum (L.map fun x => f x + g x) = f x + qsum (L.map f) + (g x + qsum (L.map g))
    rw [qsum_addf f g L]
    grind
theorem qsum_mulf {α : Type} (c : Rat) (f : α → Rat) : ∀ L : List α, qsum (L.map fun x => c * f x) = c * qsum (L.map f)
  | [] => by show (0 : Rat) = c * 0; rw [Rat.mul_zero]
  | x :: L => by
    show c * f x + qsum (L.map fun x => c * f x) = c * (f x + qsum (L.map f))
    rw [qsum_mulf c f L]
    grind
/-- sums change places -/
theorem qsum_swap {α β : Type} (f : α → β → Rat) : ∀ (L : List α) (M : List β), qsum (L.map fun x => qsum (M.map fun y => f x y)) = qsum (M.map fun y => qsum (L.map fun x => f x y))
  | [], M => by
    rw [qsum_zero (fun y => qsum (([] : List α).map fun x => f x y)) M (fun _ _ => rfl)]
    rfl
  | x :: L, M => by
    have e : (M.map fun y => qsum ((x :: L).map fun x => f x y)) = M.map fun y => f x y + qsum (L.map fun x => f x y) := rfl
    rw [e, qsum_addf]
    show _ + qsum (L.map fun x => qsum (M.map fun y => f x y)) = _
    rw [qsum_swap f L M]
/-! ### ladders with one member more -/
def cE (a : Rat) (e : Bool) : Rat := (if e then 1 else 1 - a) / (1 + a)
theorem cE0 {a : Rat} (s : St a) (e : Bool) : 0 ≤ cE a e := by
  have p := s.p0
  have l := s.l1
  have i : 0 ≤ (1 + a)⁻¹ := Rat.le_of_lt (Rat.inv_pos.mpr (by grind))
  unfold cE
  rw [Rat.div_def]
  refine Rat.mul_nonneg ?_ i
  cases e <;> simp <;> grind
/-- a ladder's share at y -/
def laF (a : Rat) (n lo hi y : Int) : Rat := ((rgS a n lo hi y : Int) : Rat) / ((rgB a lo hi : Int) : Rat)
theorem laF_lad {a : Rat} {n lo hi y : Int} (s : St a) (o : LadOk n lo hi) (c : lo ≠ hi) (h1 : lo ≤ y) (h2 : y ≤ hi) : laF a n lo hi y = ladS a n lo hi y := by
  unfold laF rgS rgB
  rw [if_neg c, if_neg c, sh_div s o h1 h2]
theorem laF_sum {a : Rat} {n lo hi : Int} (s : St a) (o : LadOk n lo hi) : qsum ((rgI lo (hi + 1)).map (laF a n lo hi)) = 1 := by
  have b0 := rgB_pos (lo := lo) (hi := hi) s
  show qsum ((rgI lo (hi + 1)).map fun y => ((rgS a n lo hi y : Int) : Rat) / ((rgB a lo hi : Int) : Rat)) = 1
  rw [qsum_int _ b0, rg_whole s o]
  have := cast_ne b0
  grind
end Lb
set_option Elab.async false
set_option linter.all false
set_option maxRecDepth 100000
set_option maxHeartbeats 4000000
set_option pp.maxSteps 600
namespace Lb
open PySem PySem.Spec PyProof.Rows L2 Pq
/-! ### chooses -/
/-! ### flats -/
end Lb
set_option Elab.async false
set_option linter.all false
set_option maxRecDepth 100000
set_option maxHeartbeats 4000000
set_option pp.maxSteps 600
namespace Lb
open PySem PySem.Spec PyProof.Rows L2 Pq
end Lb
set_option Elab.async false
set_option linter.all false
set_option maxRecDepth 100000
set_option maxHeartbeats 4000000
set_option pp.maxSteps 600
namespace Lb
open PySem PySem.Spec PyProof.Rows L2 Pq
/-! ### tails -/
end Lb
set_option Elab.async false
set_option linter.all false
set_option maxRecDepth 100000
set_option maxHeartbeats 4000000
set_option pp.maxSteps 600
namespace Lb
open PySem PySem.Spec PyProof.Rows L2 Pq
/-! ### firsts as sums over the mark's rungs -/
end Lb
set_option Elab.async false
set_option linter.all false
set_option maxRecDepth 100000
set_option maxHeartbeats 4000000
set_option pp.maxSteps 600
namespace Lb
open PySem PySem.Spec PyProof.Rows L2 Pq
inductive A2 (R : Int → Int → Prop) : List Int → List Int → Prop
  | nil : A2 R [] []
  | cons {n m : Int} {ns ms : List Int} : R n m → A2 R ns ms → A2 R (n :: ns) (m :: ms)
theorem A2.mono {R T : Int → Int → Prop} (h : ∀ n m, R n m → T n m) : ∀ {ns ms : List Int}, A2 R ns ms → A2 T ns ms
  | _, _, .nil => .nil
  | _, _, .cons a b => .cons (h _ _ a) (b.mono h)
theorem A2.len {R : Int → Int → Prop} : ∀ {ns ms : List Int}, A2 R ns ms → ns.length = ms.length
  | _, _, .nil => rfl
  | _, _, .cons _ b => by rw [List.length_cons, List.length_cons, b.len]
end Lb
set_option Elab.async false
set_option linter.all false
set_option maxRecDepth 100000
set_option maxHeartbeats 4000000
set_option pp.maxSteps 600
namespace Lb
open PySem PySem.Spec PyProof.Rows L2 Pq
end Lb
set_option Elab.async false
set_option linter.all false
set_option maxRecDepth 100000
set_option maxHeartbeats 4000000
set_option pp.maxSteps 600
namespace Lb
open PySem PySem.Spec PyProof.Rows L2 Pq
/-! ### merged, of more pairs than answers -/
theorem w_mergedK {L : Pr} {K : List Int} {n m : Nat} (pos : ∀ p ∈ L, 0 ≤ p.2) (sz : ∀ p ∈ L, Sz n p.2) (sm : ∀ (i : Nat) (p : Int × Rat), L[i]? = some p → Sz m (sumAt (L.take i) p.1)) (hnm : m + n ≤ 8999) (hl : L.length ≤ 1000) (hKl : K.length < 64) (hK : K.Pairwise (· < ·)) (hm : ∀ y, y ∈ K ↔ y ∈ L.map (·.1))
    (Q : SV → Prop) (h : Q (.val (.tuple (mgT L K)))) : F_merged [.val (.list (L.map en))] Q := by
  refine ⟨show 1 < 4 by decide, ?_⟩
  show forGo _ _ (L.map en) _ _
  refine for_inv (fun R e => ∃ (done rest D : Pr) (a s : SV), L = done ++ rest ∧ R = rest.map en ∧ e = [.val (.list (L.map en)), .own true (.dict (D.map ek)), a, s] ∧ MgI D done ∧ (∀ b d, a ≠ .own b d)) _ _ ⟨[], L, [], .no, .no, rfl, rfl, rfl, MgI.nil, fun _ _ z => by cases z⟩ ?_ ?_
  · rintro d R e ⟨done, rest, D, a, s, hL, hR, rfl, I, _⟩ N hN
    cases rest with
    | nil => cases hR
    | cons p rest =>
      obtain ⟨y, q⟩ := p
      rw [List.map_cons] at hR
      injection hR with e1 e2
      subst e1 e2
      have hp : (y, q) ∈ L := by rw [hL]; exact List.mem_append_right _ List.mem_cons_self
      have pd : ∀ p ∈ done, 0 ≤ p.2 := fun p hp => pos p (by rw [hL]; exact List.mem_append_left _ hp)
      have sd : Sz m (sumAt done y) := by
        have := sm done.length (y, q) (by rw [hL, List.getElem?_append_right (Nat.le_refl _), Nat.sub_self]; rfl)
        rw [hL, List.take_left] at this
        exact this
      have ld : D.length < 1000000 := by
        have := I.ln
        rw [hL, List.length_append] at hl
        omega
      refine ⟨rfl, show 2 < 4 by decide, show 3 < 4 by decide, rfl, pm_ek D, show 2 ≤ 1000000 by decide, w_get2 (dget_ek D y) ?_⟩
      rw [I.get y]
      refine ⟨rfl, w_added (sumAt_ge y done pd) (pos _ hp) sd (sz _ hp) hnm _ ⟨trivial, w_putD (k := .inl y) rfl (tm_ek D) (by rw [List.length_map]; exact ld) ?_⟩⟩
      rw [dput_ek I.nd]
      exact hN _ ⟨done ++ [(y, q)], rest, _, _, _, by rw [hL, List.append_assoc]; rfl, rfl, rfl, I.step y q, fun _ _ z => by cases z⟩
  · rintro e ⟨done, rest, D, a, s, hL, hR, rfl, I, ha⟩
    have hr : rest = [] := List.map_eq_nil_iff.mp hR.symm
    subst hr
    rw [List.append_nil] at hL
    subst hL
    have p1 : K.Perm (D.map (·.1)) := (List.perm_ext_iff_of_nodup (hK.imp fun a => by omega) I.nd).mpr fun y => by
      rw [hm y, ← Decidable.not_iff_not, ← look_none y D, I.lk y]
      by_cases c : y ∈ L.map (·.1)
      · rw [if_pos c]; simp [c]
      · rw [if_neg c]; simp [c]
    have lD : D.length < 64 := by
      have := p1.length_eq
      rw [List.length_map] at this
      omega
    have sorted : ∀ Q' : SV → Prop, Q' (.own true (.list (K.map .int))) → fSorted [.dict (D.map ek)] Q' := fun Q' hq => by
      unfold fSorted
      refine .inl ⟨D.map (·.1), by rw [List.map_map, List.map_map]; rfl, by rw [List.length_map]; exact lD, fun ys p s => ?_⟩
      rw [keys_perm I hK hm p s]
      exact hq
    refine sorted _ ⟨⟨?_, fun i hi => ?_⟩, ?_⟩
    · rw [List.length_map]
      have := p1.length_eq
      rw [List.length_map] at this
      omega
    · rw [List.mem_singleton.mp hi]
      cases a with
      | own b d => exact absurd rfl (ha b d)
      | _ => trivial
    · refine lc_all (tstL L) (enL L) _ _ _ (fun d hd Kc N hK' hN => ?_) fun res er => ?_
      · obtain ⟨y, hy, rfl⟩ := List.mem_map.mp hd
        have ly : look D y = some (sumAt L y) := by rw [I.lk y, if_pos ((hm y).mp hy)]
        have dg : dGetO (D.map ek) (.int y) = some (some (fr (sumAt L y))) := by rw [dget_ek, ly]; rfl
        refine ⟨show 2 < 4 by decide, ixd dg ⟨show 2 ≤ 1000000 by decide, (lay_fr _).shaped (by decide), (lay_fr 0).shaped (by decide), ?_⟩⟩
        have e0 : PyData.eqv (fr (sumAt L y)) (.tuple [.int 0, .int 1]) = decide (sumAt L y = 0) := eqv_fr _ 0
        rw [e0]
        refine iteDn (fun c => ?_) fun c => ?_
        · exact ixd dg ⟨show 2 ≤ 1000000 by decide, hK' (decide_eq_true c)⟩
        · exact hN (decide_eq_false fun z => z c)
      · rw [List.nil_append] at er
        subst er
        have e1 : (List.filter (tstL L) (K.map PyData.int)).map (enL L) = mgT L K := by
          unfold mgT
          rw [List.filter_map, List.map_map]
          rfl
        rw [e1]
        exact h
/-- how often a key comes -/
def cK : Pr → Int → Nat
  | [], _ => 0
  | p :: r, y => (if p.1 = y then 1 else 0) + cK r y
theorem cK_app : ∀ (L M : Pr) (y : Int), cK (L ++ M) y = cK L y + cK M y
  | [], M, y => by show cK M y = 0 + _; omega
  | p :: L, M, y => by
    show _ + cK (L ++ M) y = _ + cK L y + _
    rw [cK_app L M y]
    omega
theorem sz_cnt {n : Nat} (y : Int) : ∀ L : Pr, (∀ p ∈ L, Sz n p.2) → Sz ((n + 1) * cK L y + 1) (sumAt L y)
  | [], _ => ⟨Nat.two_pow_pos _, Nat.one_lt_two_pow (by omega)⟩
  | p :: L, h => by
    have ih := sz_cnt (n := n) y L fun q hq => h q (List.mem_cons_of_mem _ hq)
    show Sz ((n + 1) * ((if p.1 = y then 1 else 0) + cK L y) + 1) ((if p.1 = y then p.2 else 0) + sumAt L y)
    split
    · refine ((h p List.mem_cons_self).add ih).mono ?_
      rw [Nat.mul_add, Nat.mul_one]
      omega
    · rw [Nat.zero_add, Rat.zero_add]
      exact ih
theorem cK_take {L : Pr} {i : Nat} {p : Int × Rat} (h : L[i]? = some p) : cK (L.take i) p.1 + 1 ≤ cK L p.1 := by
  obtain ⟨hi, e⟩ := List.getElem?_eq_some_iff.mp h
  have e2 : L = L.take i ++ p :: L.drop (i + 1) := by
    rw [← e, List.getElem_cons_drop, List.take_append_drop]
  have := cK_app (L.take i) (p :: L.drop (i + 1)) p.1
  rw [← e2] at this
  have e3 : cK (p :: L.drop (i + 1)) p.1 = 1 + cK (L.drop (i + 1)) p.1 := by
    show (if p.1 = p.1 then 1 else 0) + _ = _
    rw [if_pos rfl]
  omega
theorem w_mergedC {L : Pr} {K : List Int} {n c : Nat} (pos : ∀ p ∈ L, 0 ≤ p.2) (sz : ∀ p ∈ L, Sz n p.2) (hc : ∀ y, cK L y ≤ c + 1) (hnm : (n + 1) * c + 1 + n ≤ 8999) (hl : L.length ≤ 1000) (hKl : K.length < 64) (hK : K.Pairwise (· < ·)) (hm : ∀ y, y ∈ K ↔ y ∈ L.map (·.1))
    (Q : SV → Prop) (h : Q (.val (.tuple (mgT L K)))) : F_merged [.val (.list (L.map en))] Q :=
  w_mergedK (n := n) (m := (n + 1) * c + 1) pos sz (fun i p e => by
    have a := cK_take e
    have b := hc p.1
    refine (sz_cnt p.1 (L.take i) fun q hq => sz q (List.mem_of_mem_take hq)).mono ?_
    have := Nat.mul_le_mul_left (n + 1) (show cK (L.take i) p.1 ≤ c by omega)
    omega) hnm hl hKl hK hm Q h
theorem sumAt_map (f : Int → Rat) (y : Int) : ∀ K : List Int, K.Nodup → sumAt (K.map fun z => (z, f z)) y = if y ∈ K then f y else 0
  | [], _ => rfl
  | k :: K, nd => by
    rw [List.nodup_cons] at nd
    rw [List.map_cons, sumAt, sumAt_map f y K nd.2]
    show (if k = y then f k else 0) + _ = _
    by_cases c : k = y
    · subst c
      rw [if_pos rfl, if_neg nd.1, if_pos List.mem_cons_self, Rat.add_zero]
    · rw [if_neg c, Rat.zero_add]
      by_cases d : y ∈ K
      · rw [if_pos d, if_pos (List.mem_cons_of_mem _ d)]
      · rw [if_neg d, if_neg (fun z => (List.mem_cons.mp z).elim (fun e => c e.symm) d)]
theorem cK_map (f : Int → Rat) (y : Int) : ∀ K : List Int, K.Nodup → cK (K.map fun z => (z, f z)) y ≤ 1
  | [], _ => Nat.zero_le _
  | k :: K, nd => by
    rw [List.nodup_cons] at nd
    have ih := cK_map f y K nd.2
    show (if k = y then 1 else 0) + cK (K.map fun z => (z, f z)) y ≤ 1
    by_cases c : k = y
    · subst c
      have z : ∀ M : List Int, k ∉ M → cK (M.map fun z => (z, f z)) k = 0 := fun M => by
        induction M with
        | nil => intro _; rfl
        | cons m M ih2 =>
          intro h
          rw [List.mem_cons, not_or] at h
          show (if m = k then 1 else 0) + cK (M.map fun z => (z, f z)) k = 0
          rw [if_neg (fun e => h.1 e.symm), ih2 h.2]
      rw [z K nd.1, if_pos rfl]
      exact Nat.le_refl 1
    · rw [if_neg c]
      omega
/-- merged of one pair per answer -/
theorem w_mgF {lo hi : Int} {f : Int → Rat} {n : Nat} (hf : ∀ y, lo ≤ y → y < hi → 0 ≤ f y ∧ Sz n (f y)) (hn : n ≤ 8000) (hl : hi - lo ≤ 60) (Q : SV → Prop) (h : Q (.val (.tuple ((tb lo hi f).map en)))) : F_merged [.val (.list ((rgI lo hi).map fun y => en (y, f y)))] Q := by
  have e : ((rgI lo hi).map fun y => en (y, f y)) = ((rgI lo hi).map fun y => (y, f y)).map en := by rw [List.map_map]; rfl
  rw [e]
  have nd := rgI_nodup lo hi
  have mem : ∀ p ∈ (rgI lo hi).map fun y => (y, f y), 0 ≤ p.2 ∧ Sz n p.2 := fun p hp => by
    obtain ⟨y, hy, rfl⟩ := List.mem_map.mp hp
    have := mem_rgI.mp hy
    exact hf y this.1 this.2
  refine w_mergedC (n := n) (c := 0) (K := rgI lo hi) (fun p hp => (mem p hp).1) (fun p hp => (mem p hp).2) (fun y => cK_map f y _ nd) (by omega) (by rw [List.length_map, rgI_len]; omega) (by rw [rgI_len]; omega) (rgI_pw _ _ _ rfl) (fun y => by rw [List.map_map]; show y ∈ _ ↔ y ∈ List.map id _; rw [List.map_id]) Q ?_
  have e2 : mgT ((rgI lo hi).map fun y => (y, f y)) (rgI lo hi) = (tb lo hi f).map en := by
    unfold mgT tb
    rw [List.map_map]
    have ef : ((rgI lo hi).filter fun y => decide (sumAt ((rgI lo hi).map fun y => (y, f y)) y ≠ 0)) = (rgI lo hi).filter fun y => decide (0 < f y) := by
      apply List.filter_congr
      intro y hy
      have := mem_rgI.mp hy
      have f0 := (hf y this.1 this.2).1
      rw [sumAt_map f y _ nd, if_pos hy]
      apply decide_eq_decide.mpr
      constructor
      · intro z
        rcases Rat.le_iff_lt_or_eq.mp f0 with c | c
        · exact c
        · exact absurd c.symm z
      · intro z
        exact Rat.ne_of_gt z
    rw [ef]
    apply List.map_congr_left
    intro y hy
    rw [sumAt_map f y _ nd, if_pos (List.mem_filter.mp hy).1]
    rfl
  rw [e2]
  exact h
end Lb
set_option Elab.async false
set_option linter.all false
set_option maxRecDepth 100000
set_option maxHeartbeats 4000000
set_option pp.maxSteps 600
namespace Lb
open PySem PySem.Spec PyProof.Rows L2 Pq
/-! ### thrown again: a table by rows -/
def app (lo hi : Int) (f : Int → Rat) (R : Int → Int → Rat) (z : Int) : Rat := qsum ((rgI lo hi).map fun y => f y * R y z)
theorem tb_form (lo hi : Int) (f : Int → Rat) : tb lo hi f = ((rgI lo hi).filter fun y => decide (0 < f y)).map fun y => (y, f y) := rfl
theorem tb_len (lo hi : Int) (f : Int → Rat) : (tb lo hi f).length ≤ (hi - lo).toNat := by
  rw [tb_form, List.length_map]
  refine Nat.le_trans (List.length_filter_le _ _) ?_
  rw [rgI_len]
  exact Nat.le_refl _
end Lb
set_option Elab.async false
set_option linter.all false
set_option maxRecDepth 100000
set_option maxHeartbeats 4000000
set_option pp.maxSteps 600
namespace Lb
open PySem PySem.Spec PyProof.Rows L2 Pq
/-! ### rows between ladders -/
def isE (lo hi y : Int) : Bool := decide (y = lo ∨ y = hi)
def byR (a : Rat) (e : Bool) : Rat := (1 - a)⁻¹ ^ (if e then 1 else 2)
/-- ahead of the other ladder's own part -/
def kS (a b : Rat) (e : Bool) (d : Nat) : Rat := if d = 0 then (if e then 1 - a * b else 1 + a * a - 2 * (a * b)) else b ^ (d - 1) * (b - a) * (if e then 1 else 1 - a * b)
def KR (a b : Rat) (lo hi y z : Int) : Rat := kS a b (isE lo hi y) (z - y).natAbs * byR a (isE lo hi y) * cE b (isE lo hi z)
def tD (a : Rat) (lo hi y n : Int) : Rat := byR a (isE lo hi y) * (if n = y then (if isE lo hi y then 1 else 1 + a * a) else if n = y - 1 ∨ n = y + 1 then -a else 0)
def LaM (b : Rat) (lo hi n z : Int) : Rat := cE b (isE lo hi z) * b ^ (z - n).natAbs
theorem qsum_delta (c : Rat) (y a b : Int) : qsum ((rgI a b).map fun n => if n = y then c else 0) = if a ≤ y ∧ y < b then c else 0 := by
  have gen : ∀ L : List Int, L.Nodup → qsum (L.map fun n => if n = y then c else 0) = if y ∈ L then c else 0 := fun L => by
    induction L with
    | nil => intro _; rfl
    | cons x L ih =>
      intro nd
      rw [List.nodup_cons] at nd
      show (if x = y then c else 0) + qsum _ = _
      rw [ih nd.2]
      by_cases d : x = y
      · subst d
        rw [if_pos rfl, if_neg nd.1, if_pos List.mem_cons_self, Rat.add_zero]
      · rw [if_neg d, Rat.zero_add]
        by_cases e : y ∈ L
        · rw [if_pos e, if_pos (List.mem_cons_of_mem _ e)]
        · rw [if_neg e, if_neg (fun z => (List.mem_cons.mp z).elim (fun w => d w.symm) e)]
  rw [gen _ (rgI_nodup a b)]
  by_cases e : a ≤ y ∧ y < b
  · rw [if_pos e, if_pos (mem_rgI.mpr e)]
  · rw [if_neg e, if_neg (fun z => e (mem_rgI.mp z))]
theorem qsum_tri (A : Rat) (B : Int → Rat) {lo hi y : Int} (h0 : lo ≤ y) (h1 : y ≤ hi) : qsum ((rgI lo (hi + 1)).map fun n => if n = y then A else if n = y - 1 ∨ n = y + 1 then B n else 0) = A + (if lo < y then B (y - 1) else 0) + (if y < hi then B (y + 1) else 0) := by
  have e : ((rgI lo (hi + 1)).map fun n => if n = y then A else if n = y - 1 ∨ n = y + 1 then B n else 0) = (rgI lo (hi + 1)).map fun n => ((if n = y then A else 0) + (if n = y - 1 then B (y - 1) else 0)) + (if n = y + 1 then B (y + 1) else 0) := by
    apply List.map_congr_left
    intro n _
    by_cases c1 : n = y
    · rw [if_pos c1, if_pos c1, if_neg (by omega), if_neg (by omega), Rat.add_zero, Rat.add_zero]
    · by_cases c2 : n = y - 1
      · rw [if_neg c1, if_pos (.inl c2), if_neg c1, if_pos c2, if_neg (by omega), c2, Rat.add_zero, Rat.zero_add]
      · by_cases c3 : n = y + 1
        · rw [if_neg c1, if_pos (.inr c3), if_neg c1, if_neg c2, if_pos c3, c3, Rat.add_zero, Rat.zero_add]
        · rw [if_neg c1, if_neg (fun z => z.elim c2 c3), if_neg c1, if_neg c2, if_neg c3, Rat.add_zero, Rat.add_zero]
  rw [e, qsum_addf, qsum_addf, qsum_delta, qsum_delta, qsum_delta, if_pos ⟨h0, by omega⟩]
  by_cases c : lo < y
  · rw [if_pos c, if_pos ⟨by omega, by omega⟩]
    by_cases d : y < hi
    · rw [if_pos d, if_pos ⟨by omega, by omega⟩]
    · rw [if_neg d, if_neg (by omega)]
  · rw [if_neg c, if_neg (by omega)]
    by_cases d : y < hi
    · rw [if_pos d, if_pos ⟨by omega, by omega⟩]
    · rw [if_neg d, if_neg (by omega)]
theorem ne1 {a : Rat} (s : St a) : (1 : Rat) - a ≠ 0 := fun z => by have := s.l1; grind
theorem pow_s (b : Rat) {d : Nat} (h : d ≠ 0) : b ^ d = b ^ (d - 1) * b := by
  obtain ⟨k, rfl⟩ := Nat.exists_eq_succ_of_ne_zero h
  rw [Rat.pow_succ]
  rfl
/-- the rows are the one ladder taken back, then the other -/
theorem KR_form {a b : Rat} {lo hi y z : Int} (h0 : lo ≤ y) (h1 : y ≤ hi) (hl : lo < hi) (z0 : lo ≤ z) (z1 : z ≤ hi) : KR a b lo hi y z = qsum ((rgI lo (hi + 1)).map fun n => tD a lo hi y n * LaM b lo hi n z) := by
  have e : ((rgI lo (hi + 1)).map fun n => tD a lo hi y n * LaM b lo hi n z) = (rgI lo (hi + 1)).map fun n => (byR a (isE lo hi y) * cE b (isE lo hi z)) * (if n = y then (if isE lo hi y then 1 else 1 + a * a) * b ^ (z - y).natAbs else if n = y - 1 ∨ n = y + 1 then (-a) * b ^ (z - n).natAbs else 0) := by
    apply List.map_congr_left
    intro n _
    unfold tD LaM
    by_cases c1 : n = y
    · rw [if_pos c1, if_pos c1, c1]
      grind
    · by_cases c2 : n = y - 1 ∨ n = y + 1
      · rw [if_neg c1, if_pos c2, if_neg c1, if_pos c2]
        grind
      · rw [if_neg c1, if_neg c2, if_neg c1, if_neg c2]
        grind
  rw [e, qsum_mulf, qsum_tri _ (fun n => (-a) * b ^ (z - n).natAbs) h0 h1]
  unfold KR
  have key : kS a b (isE lo hi y) (z - y).natAbs = (if isE lo hi y then 1 else 1 + a * a) * b ^ (z - y).natAbs + (if lo < y then (-a) * b ^ (z - (y - 1)).natAbs else 0) + (if y < hi then (-a) * b ^ (z - (y + 1)).natAbs else 0) := by
    unfold kS
    by_cases ce : y = lo ∨ y = hi
    · have ie : isE lo hi y = true := decide_eq_true ce
      rw [ie, if_pos rfl, if_pos rfl, if_pos rfl, Rat.one_mul, Rat.mul_one]
      rcases ce with ce | ce
      · subst ce
        rw [if_neg (Int.lt_irrefl y), if_pos hl, Rat.add_zero]
        by_cases cz : z = y
        · subst cz
          rw [show (z - z).natAbs = 0 by omega, show (z - (z + 1)).natAbs = 0 + 1 by omega, if_pos rfl, Rat.pow_zero, Rat.pow_succ, Rat.pow_zero]
          grind
        · by_cases cg : y < z
          · have hd : (z - y).natAbs ≠ 0 := by omega
            rw [if_neg hd, pow_s b hd, show (z - (y + 1)).natAbs = (z - y).natAbs - 1 by omega]
            grind
          · exact absurd z0 (by omega)
      · subst ce
        rw [if_pos hl, if_neg (Int.lt_irrefl y), Rat.add_zero]
        by_cases cz : z = y
        · subst cz
          rw [show (z - z).natAbs = 0 by omega, show (z - (z - 1)).natAbs = 0 + 1 by omega, if_pos rfl, Rat.pow_zero, Rat.pow_succ, Rat.pow_zero]
          grind
        · have hd : (z - y).natAbs ≠ 0 := by omega
          rw [if_neg hd, pow_s b hd, show (z - (y - 1)).natAbs = (z - y).natAbs - 1 by omega]
          grind
    · have ie : isE lo hi y = false := decide_eq_false ce
      rw [ie, if_pos (show lo < y by omega), if_pos (show y < hi by omega)]
      show (if (z - y).natAbs = 0 then 1 + a * a - 2 * (a * b) else b ^ ((z - y).natAbs - 1) * (b - a) * (1 - a * b)) = (1 + a * a) * b ^ (z - y).natAbs + (-a) * b ^ (z - (y - 1)).natAbs + (-a) * b ^ (z - (y + 1)).natAbs
      by_cases cz : z = y
      · subst cz
        rw [show (z - z).natAbs = 0 by omega, show (z - (z - 1)).natAbs = 0 + 1 by omega, show (z - (z + 1)).natAbs = 0 + 1 by omega, if_pos rfl, Rat.pow_zero, Rat.pow_succ, Rat.pow_zero]
        grind
      · have hd : (z - y).natAbs ≠ 0 := by omega
        rw [if_neg hd]
        by_cases cg : y < z
        · rw [show (z - (y - 1)).natAbs = (z - y).natAbs + 1 by omega, show (z - (y + 1)).natAbs = (z - y).natAbs - 1 by omega, Rat.pow_succ, pow_s b hd]
          generalize b ^ ((z - y).natAbs - 1) = P
          grind
        · rw [show (z - (y + 1)).natAbs = (z - y).natAbs + 1 by omega, show (z - (y - 1)).natAbs = (z - y).natAbs - 1 by omega, Rat.pow_succ, pow_s b hd]
          generalize b ^ ((z - y).natAbs - 1) = P
          grind
  rw [key]
  grind
theorem cb_one {b : Rat} (s : St b) (e : Bool) : cE b e * byR b e = (1 + b)⁻¹ * (1 - b)⁻¹ := by
  have n1 : (1 - b) * (1 - b)⁻¹ = 1 := Rat.mul_inv_cancel _ (ne1 s)
  unfold cE byR
  cases e
  · show (1 - b) / (1 + b) * (1 - b)⁻¹ ^ 2 = _
    rw [Rat.div_def, show (2 : Nat) = 0 + 1 + 1 by rfl, Rat.pow_succ, Rat.pow_succ, Rat.pow_zero]
    generalize (1 - b)⁻¹ = I at *
    generalize (1 + b)⁻¹ = J at *
    grind
  · show 1 / (1 + b) * (1 - b)⁻¹ ^ 1 = _
    rw [Rat.div_def, show (1 : Nat) = 0 + 1 by rfl, Rat.pow_succ, Rat.pow_zero]
    grind
/-- a ladder, then taken back, is nothing -/
theorem LaM_tD {b : Rat} {lo hi m z : Int} (s : St b) (hl : lo < hi) (m0 : lo ≤ m) (m1 : m ≤ hi) (z0 : lo ≤ z) (z1 : z ≤ hi) : qsum ((rgI lo (hi + 1)).map fun n => LaM b lo hi m n * tD b lo hi n z) = if m = z then 1 else 0 := by
  have n1 : (1 - b) * (1 - b)⁻¹ = 1 := Rat.mul_inv_cancel _ (ne1 s)
  have n2 : (1 + b) * (1 + b)⁻¹ = 1 := Rat.mul_inv_cancel _ s.one_add
  have e : ((rgI lo (hi + 1)).map fun n => LaM b lo hi m n * tD b lo hi n z) = (rgI lo (hi + 1)).map fun n => ((1 + b)⁻¹ * (1 - b)⁻¹) * (if n = z then b ^ (z - m).natAbs * (if isE lo hi z then 1 else 1 + b * b) else if n = z - 1 ∨ n = z + 1 then b ^ (n - m).natAbs * (-b) else 0) := by
    apply List.map_congr_left
    intro n _
    have cb := cb_one s (isE lo hi n)
    unfold LaM tD
    by_cases c1 : n = z
    · subst c1
      rw [if_pos rfl, if_pos rfl, ← cb]
      grind
    · have c1' : ¬ z = n := fun w => c1 w.symm
      by_cases c2 : n = z - 1 ∨ n = z + 1
      · rw [if_neg c1', if_pos (show z = n - 1 ∨ z = n + 1 by omega), if_neg c1, if_pos c2, ← cb]
        grind
      · rw [if_neg c1', if_neg (show ¬ (z = n - 1 ∨ z = n + 1) by omega), if_neg c1, if_neg c2]
        grind
  rw [e, qsum_mulf, qsum_tri _ (fun n => b ^ (n - m).natAbs * (-b)) z0 z1]
  have key : b ^ (z - m).natAbs * (if isE lo hi z then 1 else 1 + b * b) + (if lo < z then b ^ (z - 1 - m).natAbs * (-b) else 0) + (if z < hi then b ^ (z + 1 - m).natAbs * (-b) else 0) = if m = z then (1 + b) * (1 - b) else 0 := by
    by_cases ce : z = lo ∨ z = hi
    · have ie : isE lo hi z = true := decide_eq_true ce
      rw [ie, if_pos rfl, Rat.mul_one]
      rcases ce with ce | ce
      · subst ce
        rw [if_neg (Int.lt_irrefl z), if_pos hl, Rat.add_zero]
        by_cases cm : m = z
        · subst cm
          rw [if_pos rfl, show (m - m).natAbs = 0 by omega, show (m + 1 - m).natAbs = 0 + 1 by omega, Rat.pow_zero, Rat.pow_succ, Rat.pow_zero]
          grind
        · have hd : (z - m).natAbs ≠ 0 := by omega
          rw [if_neg cm, pow_s b hd, show (z + 1 - m).natAbs = (z - m).natAbs - 1 by omega]
          grind
      · subst ce
        rw [if_pos hl, if_neg (Int.lt_irrefl z), Rat.add_zero]
        by_cases cm : m = z
        · subst cm
          rw [if_pos rfl, show (m - m).natAbs = 0 by omega, show (m - 1 - m).natAbs = 0 + 1 by omega, Rat.pow_zero, Rat.pow_succ, Rat.pow_zero]
          grind
        · have hd : (z - m).natAbs ≠ 0 := by omega
          rw [if_neg cm, pow_s b hd, show (z - 1 - m).natAbs = (z - m).natAbs - 1 by omega]
          grind
    · have ie : isE lo hi z = false := decide_eq_false ce
      rw [ie, if_pos (show lo < z by omega), if_pos (show z < hi by omega)]
      show b ^ (z - m).natAbs * (1 + b * b) + b ^ (z - 1 - m).natAbs * (-b) + b ^ (z + 1 - m).natAbs * (-b) = _
      by_cases cm : m = z
      · subst cm
        rw [if_pos rfl, show (m - m).natAbs = 0 by omega, show (m - 1 - m).natAbs = 0 + 1 by omega, show (m + 1 - m).natAbs = 0 + 1 by omega, Rat.pow_zero, Rat.pow_succ, Rat.pow_zero]
        grind
      · have hd : (z - m).natAbs ≠ 0 := by omega
        rw [if_neg cm]
        by_cases cg : m < z
        · rw [show (z + 1 - m).natAbs = (z - m).natAbs + 1 by omega, show (z - 1 - m).natAbs = (z - m).natAbs - 1 by omega, Rat.pow_succ, pow_s b hd]
          generalize b ^ ((z - m).natAbs - 1) = P
          grind
        · rw [show (z - 1 - m).natAbs = (z - m).natAbs + 1 by omega, show (z + 1 - m).natAbs = (z - m).natAbs - 1 by omega, Rat.pow_succ, pow_s b hd]
          generalize b ^ ((z - m).natAbs - 1) = P
          grind
  rw [key]
  by_cases cm : m = z
  · rw [if_pos cm, if_pos cm]
    generalize (1 - b)⁻¹ = I at *
    generalize (1 + b)⁻¹ = J at *
    grind
  · rw [if_neg cm, if_neg cm, Rat.mul_zero]
theorem KR0 {a b : Rat} {lo hi y z : Int} (sa : St a) (sb : St b) (le : a ≤ b) : 0 ≤ KR a b lo hi y z := by
  have pa := sa.p0
  have la := sa.l1
  have pb := sb.p0
  have lb := sb.l1
  have ab : a * b ≤ 1 := by
    have := Rat.mul_le_mul_of_nonneg_left (Rat.le_of_lt lb) (Rat.le_of_lt pa)
    rw [Rat.mul_one] at this
    grind
  have i0 : 0 ≤ (1 - a)⁻¹ := Rat.le_of_lt (Rat.inv_pos.mpr (by grind))
  have ks : 0 ≤ kS a b (isE lo hi y) (z - y).natAbs := by
    unfold kS
    split
    · split
      · grind
      · have h1 := Rat.mul_le_mul_of_nonneg_left (Rat.le_of_lt lb) (Rat.le_of_lt pa)
        rw [Rat.mul_one] at h1
        have h2 : 0 ≤ (1 - a) * (1 - a) := Rat.mul_nonneg (by grind) (by grind)
        grind
    · refine Rat.mul_nonneg (Rat.mul_nonneg (pow0 (Rat.le_of_lt pb) _) (by grind)) ?_
      split
      · decide
      · grind
  exact Rat.mul_nonneg (Rat.mul_nonneg ks (pow0 i0 _)) (cE0 sb _)
end Lb
set_option Elab.async false
set_option linter.all false
set_option maxRecDepth 100000
set_option maxHeartbeats 4000000
set_option pp.maxSteps 600
namespace Lb
open PySem PySem.Spec PyProof.Rows L2 Pq
/-- the rows told, of one rung too -/
def RB (a b : Rat) (lo hi y z : Int) : Rat := if lo = hi then 1 else KR a b lo hi y z
theorem RB0 {a b : Rat} {lo hi y z : Int} (sa : St a) (sb : St b) (le : a ≤ b) : 0 ≤ RB a b lo hi y z := by
  unfold RB
  split
  · decide
  · exact KR0 sa sb le
end Lb
set_option Elab.async false
set_option linter.all false
set_option maxRecDepth 100000
set_option maxHeartbeats 4000000
set_option pp.maxSteps 600
namespace Lb
open PySem PySem.Spec PyProof.Rows L2 Pq
/-! ### dicts from ints to anything -/
section
variable {α : Type}
def gk (v : α → Da) (p : Int × α) : Da × Da := (.int p.1, v p.2)
theorem for_L {g : MG} {body : MS} {E : EM} (v : α → Da) (I : List α → En → Prop) (L : List α) (env : En) (h0 : I [] env)
    (st : ∀ (done : List α) (x : α) (rest : List α), L = done ++ x :: rest → ∀ e, I done e → ∀ N : En → Prop, (∀ e', I (done ++ [x]) e' → N e') → g (v x) e fun e2 => body e2 ⟨N, E.rt, E.nx, N⟩) (fin : ∀ e, I L e → E.nx e) : forGo g body (L.map v) env E := by
  refine for_inv (fun R e => ∃ done rest, L = done ++ rest ∧ R = rest.map v ∧ I done e) _ _ ⟨[], L, rfl, rfl, h0⟩ ?_ ?_
  · rintro d R e ⟨done, rest, hL, hR, hI⟩ N hN
    cases rest with
    | nil => cases hR
    | cons x rest =>
      rw [List.map_cons] at hR
      injection hR with e1 e2
      subst e1 e2
      exact st done x rest hL e hI N fun e' hi => hN e' ⟨done ++ [x], rest, by rw [hL, List.append_assoc]; rfl, rfl, hi⟩
  · rintro e ⟨done, rest, hL, hR, hI⟩
    have hr : rest = [] := List.map_eq_nil_iff.mp hR.symm
    subst hr
    rw [List.append_nil] at hL
    subst hL
    exact fin e hI
theorem lcL {env : En} {g : MG} {me : ME} (g1 f : α → Da) : ∀ (L : List α) (acc : List Da) (Q : List Da → Prop),
    (∀ x ∈ L, ∀ (K : Da → Prop), K (f x) → g (g1 x) env fun e2 => me e2 fun r _ => (match r with
      | .val x => K x
      | .own _ x => K x
      | _ => False)) → Q (acc ++ L.map f) → lcGo env g mYes me (L.map g1) acc Q
  | [], acc, Q, _, q => by
    show Q acc
    rw [List.map_nil, List.append_nil] at q
    exact q
  | x :: L, acc, Q, h, q => by
    rw [List.map_cons, lcGo]
    refine h x List.mem_cons_self (fun y => lcGo env g mYes me (L.map g1) (acc ++ [y]) Q) ?_
    refine lcL g1 f L _ Q (fun d hd => h d (List.mem_cons_of_mem _ hd)) ?_
    rw [List.append_assoc]
    exact q
theorem lcLt {env : En} {g : MG} {mt : MT} {me : ME} (g1 : α → Da) (p : α → Bool) (f : α → Da) : ∀ (L : List α) (acc : List Da) (Q : List Da → Prop),
    (∀ x ∈ L, ∀ (K : Da → Prop) (N : Prop), (p x = true → K (f x)) → (p x = false → N) → g (g1 x) env fun e2 => mt e2 fun b e3 => if b = true then me e3 fun r _ => (match r with
      | .val x => K x
      | .own _ x => K x
      | _ => False) else N) → Q (acc ++ (L.filter p).map f) → lcGo env g mt me (L.map g1) acc Q
  | [], acc, Q, _, q => by
    show Q acc
    rw [List.filter_nil, List.map_nil, List.append_nil] at q
    exact q
  | x :: L, acc, Q, h, q => by
    rw [List.map_cons, lcGo]
    refine h x List.mem_cons_self (fun y => lcGo env g mt me (L.map g1) (acc ++ [y]) Q) _ (fun hp => ?_) fun hp => ?_
    · refine lcLt g1 p f L _ Q (fun d hd => h d (List.mem_cons_of_mem _ hd)) ?_
      rw [List.filter_cons_of_pos hp] at q
      rw [List.append_assoc]
      exact q
    · refine lcLt g1 p f L _ Q (fun d hd => h d (List.mem_cons_of_mem _ hd)) ?_
      rw [List.filter_cons_of_neg (by simp [hp])] at q
      exact q
end
theorem at_env {A : En → Prop} {e : En} (e' : En) (h : e = e') (k : A e') : A e := by rw [h]; exact k
end Lb
set_option Elab.async false
set_option linter.all false
set_option maxRecDepth 100000
set_option maxHeartbeats 4000000
set_option pp.maxSteps 600
namespace Lb
open PySem PySem.Spec PyProof.Rows L2 Pq
/-! ### tables of answers: whole numbers or tuples of such -/
end Lb
set_option Elab.async false
set_option linter.all false
set_option maxRecDepth 100000
set_option maxHeartbeats 4000000
namespace Pq
open PySem PySem.Spec PyProof.Rows L2
/-! ### expressions that may change what slots know alone -/
def IsRw (K : PySem.W.Frag) (B : Br) (env : En) (S : Hp) (σ : L2.St) (H : Hp) : SV → V → Prop
  | .val d, v => Dq K S v d
  | .own b d, v => b = true ∧ ∃ p, v = .ref p ∧ Own K B S H d p ∧ ∀ (i : Nat) (sv : SV), env[i]? = some sv → OB sv → σ[i]? ≠ some (some (.ref p))
  | .deal, v => ∃ p l, B.deal = some (p, l) ∧ v = .ref p
  | _, _ => False
theorem IsR.w {K : PySem.W.Frag} {B : Br} {env : En} {S : Hp} {σ : L2.St} {H0 H : Hp} {r : SV} {v : V} (h : IsR K B env S σ H0 H r v) : IsRw K B env S σ H r v := by
  cases r with
  | own b d =>
    obtain ⟨hb, p, e, o, _, n⟩ := h
    exact ⟨hb, p, e, o, n⟩
  | val d => exact h
  | deal => exact h
  | _ => exact h.elim
/-- what a result knows alone becomes stable -/
theorem IsRw.frz {K : PySem.W.Frag} {B : Br} {env : En} {S : Hp} {σ : L2.St} {H : Hp} {b : Bool} {d : Da} {v : V} (R : Rel K B env S σ H) (h : IsRw K B env S σ H (.own b d) v) : ∃ S2, Up S S2 ∧ Rel K B env S2 σ H ∧ Dq K S2 v d := by
  obtain ⟨hb, p, rfl, ⟨hB, hS, o0, hp, hd⟩, hn⟩ := h
  have e1 : ∀ a o, S a = some o → upd S p o0 a = some o := upd_sub hS
  have w : Wd B (upd S p o0) H := by
    refine ⟨fun a o e => ?_, fun a o e => e1 a o (R.w.bS a o e), R.w.bH, fun a o e e2 => ?_, R.w.deal⟩
    · by_cases q : a = p
      · subst q; rw [upd_same] at e; cases e; exact hp
      · rw [upd_ne q] at e; exact R.w.sub a o e
    · have q : a ≠ p := fun z => by subst z; rw [hB] at e; cases e
      rw [upd_ne q]; exact R.w.bN a o e e2
  refine ⟨_, e1, R.stp w ⟨e1, fun _ _ _ e => e⟩ fun i sv q a ob z => ?_, (hd.up e1).dq upd_same⟩
  have nq : q ≠ p := fun y => by subst y; exact hn i sv a ob z
  rw [upd_ne nq]
  obtain ⟨p', d', a', b', c', _⟩ := R.ob a ob
  rw [z] at a'; cases a'; exact c'
theorem Up.tr {S1 S2 S3 : Hp} (a : Up S1 S2) (b : Up S2 S3) : Up S1 S3 := fun x o h => b x o (a x o h)
end Pq
set_option Elab.async false
set_option linter.all false
set_option maxRecDepth 100000
set_option maxHeartbeats 4000000
namespace Pq
open PySem PySem.Spec PyProof.Rows L2
/-! ### defs that change what they are handed -/
def AllB (K : PySem.W.Frag) (dl : Option (Addr × Addr)) (bo : Nat → Option Addr) (S H : Hp) : Nat → List SV → List V → Prop
  | _, [], vs => vs = []
  | j, .val d :: rs, vs => ∃ v r, vs = v :: r ∧ Dq K S v d ∧ AllB K dl bo S H (j + 1) rs r
  | j, .deal :: rs, vs => ∃ p l r, vs = .ref p :: r ∧ dl = some (p, l) ∧ AllB K dl bo S H (j + 1) rs r
  | j, .bor d :: rs, vs => ∃ p r, vs = .ref p :: r ∧ bo j = some p ∧ S p = none ∧ (∃ o, H p = some o ∧ HoD K S o d) ∧ AllB K dl bo S H (j + 1) rs r
  | _, _, _ => False
theorem AllB.get {K : PySem.W.Frag} {dl : Option (Addr × Addr)} {bo : Nat → Option Addr} {S H : Hp} : ∀ {rs : List SV} {vs : List V} {k i : Nat} {r : SV}, AllB K dl bo S H k rs vs → rs[i]? = some r → ∃ v, vs[i]? = some v ∧ match r with
    | .val d => Dq K S v d
    | .deal => ∃ p l, dl = some (p, l) ∧ v = .ref p
    | .bor d => ∃ p, bo (k + i) = some p ∧ v = .ref p ∧ S p = none ∧ ∃ o, H p = some o ∧ HoD K S o d
    | _ => False
  | [], _, _, _, _, _, e => by simp at e
  | .val d :: rs, _, k, 0, r, h, e => by
    obtain ⟨v, r', rfl, b, c⟩ := h
    simp at e; subst e
    exact ⟨v, rfl, b⟩
  | .val d :: rs, _, k, i + 1, r, h, e => by
    obtain ⟨v, r', rfl, b, c⟩ := h
    obtain ⟨v', x, y⟩ := AllB.get (i := i) c (by simpa using e)
    rw [show k + 1 + i = k + (i + 1) by omega] at y
    exact ⟨v', by simpa using x, y⟩
  | .deal :: rs, _, k, 0, r, h, e => by
    obtain ⟨p, l, r', rfl, b, c⟩ := h
    simp at e; subst e
    exact ⟨_, rfl, p, l, b, rfl⟩
  | .deal :: rs, _, k, i + 1, r, h, e => by
    obtain ⟨p, l, r', rfl, b, c⟩ := h
    obtain ⟨v', x, y⟩ := AllB.get (i := i) c (by simpa using e)
    rw [show k + 1 + i = k + (i + 1) by omega] at y
    exact ⟨v', by simpa using x, y⟩
  | .bor d :: rs, _, k, 0, r, h, e => by
    obtain ⟨p, r', rfl, b, s, o, c⟩ := h
    simp at e; subst e
    exact ⟨_, rfl, p, b, rfl, s, o⟩
  | .bor d :: rs, _, k, i + 1, r, h, e => by
    obtain ⟨p, r', rfl, b, s, o, c⟩ := h
    obtain ⟨v', x, y⟩ := AllB.get (i := i) c (by simpa using e)
    rw [show k + 1 + i = k + (i + 1) by omega] at y
    exact ⟨v', by simpa using x, y⟩
  | .no :: _, _, _, _, _, h, _ => h.elim
  | .own _ _ :: _, _, _, _, _, h, _ => h.elim
  | .res _ _ _ :: _, _, _, _, _, h, _ => h.elim
theorem AllB.length {K : PySem.W.Frag} {dl : Option (Addr × Addr)} {bo : Nat → Option Addr} {S H : Hp} : ∀ {rs : List SV} {vs : List V} {k : Nat}, AllB K dl bo S H k rs vs → vs.length = rs.length
  | [], _, _, h => by cases (show _ = [] from h); rfl
  | .val d :: rs, _, k, h => by
    obtain ⟨v, r, rfl, b, c⟩ := h
    rw [List.length_cons, List.length_cons, AllB.length c]
  | .deal :: rs, _, k, h => by
    obtain ⟨p, l, r, rfl, b, c⟩ := h
    rw [List.length_cons, List.length_cons, AllB.length c]
  | .bor d :: rs, _, k, h => by
    obtain ⟨p, r, rfl, _, _, _, c⟩ := h
    rw [List.length_cons, List.length_cons, AllB.length c]
  | .no :: _, _, _, h => h.elim
  | .own _ _ :: _, _, _, h => h.elim
  | .res _ _ _ :: _, _, _, h => h.elim
/-! ### arguments, some of them borrowed -/
end Pq
set_option Elab.async false
set_option linter.all false
set_option maxRecDepth 100000
set_option maxHeartbeats 4000000
namespace Pq
open PySem PySem.Spec PyProof.Rows L2
end Pq
set_option Elab.async false
set_option linter.all false
set_option maxRecDepth 100000
set_option maxHeartbeats 4000000
namespace Pq
open PySem PySem.Spec PyProof.Rows L2
/-! ### dicts written out, with texts and numbers as keys -/
section
variable {X : Cx}
inductive DKs (Z : ZX) (X : Cx) (pos : Pos) : List (Option Expr) → List Expr → List (Key × MP) → Prop
  | nil : DKs Z X pos [] [] []
  | cons {k v : Expr} {ks : List (Option Expr)} {vs : List Expr} {key : Key} {m : MP} {l : List (Key × MP)} : PE X k (tC (kV key)) → DS Z X v m → DKs Z X pos ks vs l → DKs Z X pos (some k :: ks) (v :: vs) ((key, m) :: l)
theorem DKs.all {pos : Pos} {ks : List (Option Expr)} {vs : List Expr} {l : List (Key × MP)} (h : DKs Z X pos ks vs l) : ks.all (·.isSome) = true ∧ ks.length = vs.length := by
  induction h with
  | nil => exact ⟨rfl, rfl⟩
  | cons _ _ _ ih => exact ⟨by rw [List.all_cons, ih.1]; rfl, by rw [List.length_cons, List.length_cons, ih.2]⟩
end
/-! ### d.update(e) -/
end Pq
set_option Elab.async false
set_option linter.all false
set_option maxRecDepth 100000
set_option maxHeartbeats 4000000
namespace Pq
open PySem PySem.Spec PyProof.Rows L2
/-! ### sorted(set(xs)), texts or numbers -/
def kOf (e : Int × Value) : L2.Key := match e.2 with
  | .int i _ => .inl i
  | .str x _ => .inr x
  | _ => .inl 0
section
variable {P : Program} {w : World}
def GoodK (P : Program) (w : World) (e : Int × Value) : Prop := keyIs (kOf e) e.2 = true ∧ e.1 = (mixKind P w).hash (kOf e) ∧ e.2.scannable = true
/-- a set, the keys put in so far -/
def SKR (P : Program) (w : World) (h : Heap) (a : Addr) (L : List L2.Key) : Prop :=
  ∃ ob rows ep tb, h.get? a = some ob ∧ ob.ExactSet ∧ ob.data = .set rows ep tb ∧ (∀ e ∈ rows.toList, GoodK P w e) ∧ (rows.toList.map kOf).Nodup ∧ (∀ k, k ∈ L ↔ k ∈ rows.toList.map kOf) ∧
    rows.size ≤ L.length ∧ tb.fits rows.size = true ∧ L2.Ris tb.place.toList ∧ (w.params.followText "set-order" = true ∨ tb.led = true)
theorem SKR.keep {h h' : Heap} {a : Addr} {L : List L2.Key} (R : SKR P w h a L) (k : ∀ o, h.get? a = some o → h'.get? a = some o) : SKR P w h' a L := by
  obtain ⟨ob, rows, ep, tb, ho, r⟩ := R
  exact ⟨ob, rows, ep, tb, k ob ho, r⟩
variable {A : Around} {E : Value → Shared → Prop} {s : Shared} {a : Addr} {L : List L2.Key}
end
end Pq
namespace Pq
open PySem PySem.Spec PyProof.Rows L2
end Pq
set_option Elab.async false
set_option linter.all false
set_option maxRecDepth 100000
set_option maxHeartbeats 4000000
namespace Pq
open PySem PySem.Spec PyProof.Rows L2
/-! ### what a slot knows alone is made stable ahead of a statement -/
end Pq
set_option Elab.async false
set_option linter.all false
set_option maxRecDepth 100000
set_option maxHeartbeats 4000000
namespace Pq
open PySem PySem.Spec PyProof.Rows L2
/-! ### a value that is dropped -/
/-! ### defs with defaults -/
/-- a def as it stands, whatever its defaults -/
structure FunX (K : PySem.W.Frag) (x qual : Str) (st : Stmt) (f : Addr) (fd : FuncData) : Prop where
  ex : ∃ (oc : Value) (od : Option Addr) (dV kV doc pm : Value) (an : Option Addr) (cdv ct : Value) (osl : Array (Option Value)),
    fd = PySem.W.fnOf x qual (defArgs st) (defBody st) (defScope st) dV kV doc pm an cdv ct ∧ K.lookup f = some ⟨oc, od, .func fd, osl⟩ ∧ PySem.W.codeIn K cdv qual = true
  kp : PySem.W.keepIn K (.ref f) = true
theorem AllR.vals {K : PySem.W.Frag} {dl : Option (Addr × Addr)} {S : Hp} : ∀ {dd : List Da} {dvs : List V}, DqAll K S dvs dd → AllR K dl S (dd.map .val) dvs
  | [], _, h => by cases h; rfl
  | d :: dd, _, h => by
    cases h with
    | cons h1 h2 => exact ⟨_, _, rfl, h1, AllR.vals h2⟩
theorem AllR.app {K : PySem.W.Frag} {dl : Option (Addr × Addr)} {S : Hp} {dd : List Da} {dvs : List V} (hd : DqAll K S dvs dd) : ∀ {rs : List SV} {vs : List V}, AllR K dl S rs vs → AllR K dl S (rs ++ dd.map .val) (vs ++ dvs)
  | [], vs, h => by
    cases (show vs = [] from h)
    show AllR K dl S (dd.map .val) dvs
    exact AllR.vals hd
  | .val d :: rs, _, h => by
    obtain ⟨v, r, rfl, b, c⟩ := h
    exact ⟨v, r ++ dvs, rfl, b, AllR.app hd c⟩
  | .deal :: rs, _, h => by
    obtain ⟨p, l, r, rfl, b, c⟩ := h
    exact ⟨p, l, r ++ dvs, rfl, b, AllR.app hd c⟩
  | .no :: _, _, h => h.elim
  | .own _ _ :: _, _, h => h.elim
  | .bor _ :: _, _, h => h.elim
  | .res _ _ _ :: _, _, h => h.elim
/-! ### how defaults are told -/
section
variable {K : PySem.W.Frag} {x qual : Str} {params : Arguments} {body : List Stmt} {scope : Scope} {dvs : List V} {f : Addr} {fd : FuncData} {ps : List Str}
theorem FunD.all (F : FunD K x qual params body scope dvs [] f fd) (n j : Nat) (hj : dvs.drop j = []) (hd : dvs ≠ []) (hn : n + (dvs.length - j) = ps.length)
    (h : ∀ (T : Addr) (kV doc pm : Value) (an : Option Addr) (cdv ct : Value) (us its : List Value), us.length = n → its.length = dvs.length →
      ∃ k, bindArgs (PySem.W.fnOf x qual params body scope (.ref T) kV doc pm an cdv ct) ⟨us, []⟩ = seqItems? (.ref T) >>= k ∧ k (some its.toArray) = pure (ps.zip (us ++ its.drop j))) : Binds K fd ps [] := by
  obtain ⟨ds, hv, hb⟩ := F.binds1 n j hd hn h
  rw [hj] at hv
  cases hv
  exact hb
end
end Pq
set_option Elab.async false
set_option linter.all false
set_option maxRecDepth 100000
set_option maxHeartbeats 4000000
set_option pp.maxSteps 600
namespace Pq
open PySem PySem.Spec PyProof.Rows L2
/-! ### max(xs, default=k) of ints -/
end Pq
set_option Elab.async false
set_option linter.all false
set_option maxRecDepth 100000
set_option maxHeartbeats 4000000
set_option pp.maxSteps 600
namespace Pq
open PySem PySem.Spec PyProof.Rows L2
/-! ### defs that may raise -/
/-- what is raised here is taken -/
structure Tk (Z : ZX) (X : Cx) : Prop where
  k : Z.K = X.K
  tk : Takes X Z.W
abbrev FX := List SV → (SV → Prop) → (Ex → Prop) → Prop
def spX (K : PySem.W.Frag) (n : Nat) (F : FX) : Sp := fun vs H Q E => ∃ S dl rs, ∃ (Q0 : SV → Prop) (X0 : Ex → Prop), Up S H ∧ (∀ p l, dl = some (p, l) → DealAt H p l ∧ S p = none ∧ S l = none) ∧ AllR K dl S rs vs ∧ rs.length = n ∧ F rs Q0 X0 ∧
  (∀ r v S' H', Q0 r → Wd ⟨S, H, dl, fun _ => none⟩ S' H' → IsRet K ⟨S, H, dl, fun _ => none⟩ S' H' r v → Q v H') ∧
  ∀ e S' H' cls d, X0 e → Wd ⟨S, H, dl, fun _ => none⟩ S' H' → ExAt K S' cls d e → E cls d H'
def fnX (N n : Nat) (m : XX → MS) : FX := fun rs Q X => m (fun e _ => X e) (rs ++ List.replicate (N - n) SV.no) ⟨fun _ => Q (.val .none), Q, fun _ => False, fun _ => False⟩
theorem spX_len {K : PySem.W.Frag} {n : Nat} {F : FX} {vs : List V} {H : Hp} {Q : VK} {E : XK} (h : spX K n F vs H Q E) : vs.length = n := by
  obtain ⟨S, dl, rs, Q0, X0, _, _, al, hl, _⟩ := h
  rw [al.length, hl]
theorem funX_of {K : PySem.W.Frag} {x qual : Str} {st : Stmt} {f : Addr} {fd : FuncData} (F : Fun K x qual st f fd) : FunX K x qual st f fd := by
  obtain ⟨⟨a1, a2, a3, a4, a5, a6, a7, a8, a9, h1, h2, h3⟩, kp⟩ := F
  exact ⟨⟨a1, a2, _, a3, a4, a5, a6, a7, a8, a9, h1, h2, h3⟩, kp⟩
/-- by its body -/
theorem fun_gR {P : Program} {w : World} {K : PySem.W.Frag} {mg : Str → Option Value} {base : Heap} {x qual : Str} {st : Stmt} {f : Addr} {fd : FuncData} {N ps : List Str} {k : Nat} {sp : Sp} (Fu : FunX K x qual st f fd) (sc : FnScope N ps (defScope st)) (len : ∀ (vs : List V) (H : Hp) (Q : VK) (E : XK), sp vs H Q E → vs.length = ps.length)
    (body : ∀ (cdv : Value) (A : Around) (outs : List Env) (sh : Shared) (H : Hp) (vs : List V) (Q : VK) (E : XK), RmG k (A.deeper (envOfC qual (defScope st) sh.heap.objs.size f cdv)) → sp vs H Q E →
      ∃ t, PSs (cxOf (L2.CX P w) P w K mg base N qual (defScope st) f cdv A outs sh H E) (defBody st) t ∧ t { nx := fun _ H' => Q .non H', rt := Q } (L2.start N vs) H) : FnG P w K mg base (L2.CX P w) (k + 1) f fd ps sp := by
  obtain ⟨oc, od, dV, kV, dc, pm, an, cdv, ct, sl, rfl, look, code⟩ := Fu.ex
  refine ⟨len, fun A outs sh H ags us vs Q E rg env0 bnd rel hyp => ?_⟩
  have lenV := len _ _ _ _ hyp
  have kin : K.In sh.heap := env0.mod.kin.keeps fun b o e => (env0.bs b o e).1
  have noLim : sh.heap.NoLimit := env0.mod.nolimit.keeps fun b o e => (env0.bs b o e).1
  have kinds : ∀ y ∈ ps.zip us, (defScope st).names.lookup y.1 = some .local ∨ ((defScope st).names.lookup y.1 = some .cell ∧ ((cellsFrom (sh.heap.objs.size + 1) (defScope st).names []).lookup y.1).isSome = true) := by
    rintro ⟨nm, val⟩ hy
    rcases sc.par nm (List.of_mem_zip hy).1 with z | z
    · exact Or.inl z
    · exact Or.inr ⟨z, PySem.W.cellsFrom_some _ _ _ (Or.inl z)⟩
  refine codeAny_call_function rg.rm.depth (kin _ _ look) rfl sc.co sc.gen rfl (PySem.W.codeRec_of kin code) (bnd _ _ _ _ ?_)
  refine wpAny_newFunctionEnv_cells sc.kind kinds fun env eqn s2 step => ?_
  subst eqn
  refine ⟨noLim.keeps step.toInCall.keep, codeAny_func ?_⟩
  obtain ⟨t, walk, holds⟩ := body cdv A outs sh H vs Q E ⟨rg.rm.deeper _, rg.gd⟩ hyp
  have inv : Inv (cxOf (L2.CX P w) P w K mg base N qual (defScope st) f cdv A outs sh H E) [] (L2.start N vs) H s2 := inv_start sc rg.rm.hd env0 lenV rel step
  refine wpAny_mono (walk.run [] s2 (L2.start N vs) H _ inv holds) (fun flow s3 done => ?_) fun e s3 done => done
  have leave : ∀ {σ3 : L2.St} {H3 : Hp} {v : V} {u : Value}, Inv (cxOf (L2.CX P w) P w K mg base N qual (defScope st) f cdv A outs sh H E) [] σ3 H3 s3 → RelV v u → Q v H3 → CE outs P w H sh Q u s3 := fun {σ3 H3 v u} I3 rv z => ⟨v, H3, I3.os, I3.bare, I3.base, I3.hok, rv, z⟩
  cases flow with
  | ret u =>
    obtain ⟨v, σ3, H3, I3, rv, z⟩ := done
    exact leave I3 rv z
  | next =>
    obtain ⟨σ3, H3, I3, z⟩ := done
    exact leave (v := .non) (u := .none) I3 rfl z
  | brk =>
    obtain ⟨_, _, _, z⟩ := done
    exact z.elim
  | cont =>
    obtain ⟨_, _, _, z⟩ := done
    exact z.elim
theorem fn_x {P : Program} {w : World} {K : PySem.W.Frag} {mg : Str → Option Value} {base : Heap} {x qual : Str} {st : Stmt} {f : Addr} {fd : FuncData} {N ps : List Str} {k : Nat} {m : XX → MS} (Fu : FunX K x qual st f fd) (sc : FnScope N ps (defScope st))
    (hb : ∀ (Z : ZX) (cdv : Value) (A : Around) (outer : List Env) (s : Shared) (H : Hp) (E : XK), Tk Z (cxOf (L2.CX P w) P w K mg base N qual (defScope st) f cdv A outer s H E) →
      PassesOwn (model P w) (A.deeper (envOfC qual (defScope st) s.heap.objs.size f cdv)) (envOfC qual (defScope st) s.heap.objs.size f cdv) (cxOf (L2.CX P w) P w K mg base N qual (defScope st) f cdv A outer s H E).xe →
      RmG k (A.deeper (envOfC qual (defScope st) s.heap.objs.size f cdv)) → DSs Z (cxOf (L2.CX P w) P w K mg base N qual (defScope st) f cdv A outer s H E) (defBody st) (m Z.xx)) :
    FnG P w K mg base (L2.CX P w) (k + 1) f fd ps (spX K ps.length (fnX N.length ps.length m)) := by
  refine fun_gR Fu sc (fun vs H Q E h => spX_len h) (fun cdv A outer s H vs Q E hr h => ?_)
  obtain ⟨S, dl, rs, Q0, X0, up, dk, al, hl, hF, q, qx⟩ := h
  refine ⟨_, hb ⟨K, fun cls d _ H' => E cls d H', fun e _ => X0 e⟩ cdv A outer s H E ⟨rfl, takes_of rfl rfl rfl rfl⟩ (passes_of rfl) hr, ?_⟩
  exact ⟨⟨⟨S, H, dl, fun _ => none⟩, fun e env σ S' H' cls d h R ea => qx e S' H' cls d h R.w ea⟩, rs ++ List.replicate (N.length - ps.length) SV.no, S, ⟨fun _ => Q0 (.val .none), Q0, fun _ => False, fun _ => False⟩, start_rel (sc_few sc) up dk al hl, hF,
      ⟨fun e σ' S' H' p R' _ => q _ _ S' H' p R'.w .non, fun r v S' H' p w' ir => q r v S' H' p w' ir, fun _ _ _ _ z => z.elim, fun _ _ _ _ z => z.elim⟩⟩
/-- a def that may raise, called by its name -/
structure CalX (P : Program) (w : World) (K : PySem.W.Frag) (mg : Str → Option Value) (base : Heap) (x : Str) (k n : Nat) (F : FX) : Prop where
  ex : ∃ (f : Addr) (fd : FuncData) (ps : List Str), FnG P w K mg base (L2.CX P w) k f fd ps (spX K n F) ∧ Binds K fd ps [] ∧ mg x = some (.ref f) ∧ PySem.W.keepIn K (.ref f) = true
section
variable {X : Cx}
theorem pe_callGX {CX : CXT} {k : Nat} {f : Addr} {fd : FuncData} {ps : List Str} {sp : Sp} {E : L2.St → XK} {dvs : List V} {ds : List Value} {x : Str} {e : Expr} {es : List Expr} {p pos : Pos} {t : TA} (F : FnG X.prog X.w X.K X.mg X.base CX k f fd ps sp) (rg : RmG k X.A) (gl : Gl X x) (mx : X.mg x = some (.ref f)) (kp : PySem.W.keepIn X.K (.ref f) = true) (bd : Binds X.K fd ps ds) (hd : Vals dvs ds)
    (hx : ∀ σ, PassesAt CX X σ (E σ)) (ar : PA X (e :: es) t) (hdb : (x == ("__debug__" : Str)) = false := by decide) (he : starEach (e :: es) X.env = (false, eval e X.env) :: starEach es X.env := by rfl) (hpl : (backTo pos (starEach es X.env)).any (·.1) = false := by rfl) :
    PE X (.Call (.Name x p) (e :: es) [] pos) (fun σ H Q => t σ H fun vs H1 => sp (vs ++ dvs) H1 Q (E σ)) := by
  refine ⟨fun pins sh σ H Q I wish => wpAny_Call_Name_kw (ld_glob I gl mx ?_ hdb)⟩
  refine PySem.W.callWith_K (h₀ := X.base) I.ok.mod.kin kp (thn (ar.run pos pins sh σ H _ I wish) fun us s2 ⟨vs, H2, I2, rel, z⟩ => ⟨I2.kIn, ?_⟩) he hpl
  have r2 : Vals (vs ++ dvs) (us ++ ds) := rel.append hd
  have lenU : (us ++ ds).length = ps.length := by rw [← r2.length]; exact F.len _ _ _ _ z
  have bnd := bd s2 us I2.kIn lenU
  refine wpAny_call (codeAny_mono (F.run X.A X.stack s2 H2 ⟨us, []⟩ (us ++ ds) (vs ++ dvs) Q (E σ) rg I2.env0 bnd r2 z) fun res s3 done => ?_)
  cases res with
  | error e => exact hx σ pins H2 s2 e s3 I2 done
  | ok flow =>
    cases flow with
    | ret u => exact I2.after done
    | next => exact done.elim
    | brk => exact done.elim
    | cont => exact done.elim
def mCallX (n : Nat) (F : FX) (xx : XX) (ma : MA) : ME := fun env Q => ma env fun rs e1 => rs.length = n ∧ F rs (fun r => Q r e1) fun e => xx e e1
theorem callx_run {Z : ZX} {n : Nat} {F : FX} {σ : L2.St} {B : Bs Z} {env e1 : En} {S H S1 H1 : Hp} {Q0 : SV → En → Prop} {Q : VK} {rs : List SV} {vs : List V} (tk : Tk Z X) (R : Rel X.K B env S σ H) (st : Stq B σ env S H e1 S1 H1) (R1 : Rel X.K B e1 S1 σ H1) (al : AllR X.K B.deal S1 rs vs) (hl : rs.length = n) (hF : F rs (fun r => Q0 r e1) fun e => Z.xx e e1)
    (k : ∀ r env', Q0 r env' → ∀ v S' H', Stq B σ env S H env' S' H' → Rel X.K B env' S' σ H' → IsR X.K B env' S' σ H H' r v → Q v H') : spX X.K n F vs H1 Q (WE Z.W σ) := by
  refine ⟨S1, B.deal, rs, _, _, R1.w.sub, call_deal R1, al, hl, hF, fun r v S' H' q2 w' ir => ?_, fun e S' H' cls d xe w' ea => ?_⟩
  · obtain ⟨hst, R'⟩ := call_back R1 w'
    exact k r e1 q2 v S' H' (st.trans hst) R' (call_res R st R1 ir)
  · obtain ⟨hst, R'⟩ := call_back R1 w'
    exact B.ok e e1 σ S' H' cls d xe (by rw [tk.k]; exact R') (by rw [tk.k]; exact ea)
theorem de_callXC {Z : ZX} {k j n : Nat} {F : FX} {x : Str} {e : Expr} {es : List Expr} {p pos : Pos} {ma : MA} (C : CalX X.prog X.w X.K X.mg X.base x k n F) (tk : Tk Z X) (hr : RmG j X.A) (hkj : k ≤ j) (hg : Gl X x)
    (ha : DA Z X (e :: es) ma) (hdb : (x == ("__debug__" : Str)) = false := by decide) (he : starEach (e :: es) X.env = (false, eval e X.env) :: starEach es X.env := by rfl) (hpl : (backTo pos (starEach es X.env)).any (·.1) = false := by rfl) :
    DE Z X (.Call (.Name x p) (e :: es) [] pos) (mCallX n F Z.xx ma) := by
  obtain ⟨f, fd, ps, G, b, m, kp⟩ := C.ex
  refine (pe_callGX (dvs := []) (E := WE Z.W) G (hr.mono hkj) hg m kp b .nil (fun σ => passAt tk.tk σ) ha hdb he hpl).wk fun σ H Q ⟨B, env, S, Q0, R, h, k⟩ => ?_
  refine ⟨B, env, S, _, R, h, fun rs e1 q vs S1 H1 st R1 al => ?_⟩
  show spX X.K n F (vs ++ []) H1 Q (WE Z.W σ)
  rw [List.append_nil]
  exact callx_run tk R st R1 al q.1 q.2 k
end
end Pq
set_option Elab.async false
set_option linter.all false
set_option maxRecDepth 100000
set_option maxHeartbeats 4000000
set_option pp.maxSteps 600
namespace Pq
open PySem PySem.Spec PyProof.Rows L2
/-! ### raise -/
def kp (p : Str × V) : Key × V := (.inr p.1, p.2)
/-- an exception class without __init__, without arguments -/
structure Exn0 (K : PySem.W.Frag) (mg : Str → Option Value) (x : Str) : Prop where
  ex : ∃ (C : Addr) (bmB : List Value) (B newId initId : String), mg x = some (.ref C) ∧ PySem.W.nsIn K mainGlobals x = some (some (.ref C)) ∧ ExcBaseFacts B newId initId bmB ∧ PySem.W.excIn K C bmB newId = true ∧ PySem.W.keepIn K (.ref C) = true ∧
    PySem.W.subIn K (.ref C) (.type "BaseException") = some true ∧ PySem.W.typeIn K (.ref C) = some (.type "type")
end Pq
set_option Elab.async false
set_option linter.all false
set_option maxRecDepth 100000
set_option maxHeartbeats 4000000
set_option pp.maxSteps 600
namespace Pq
open PySem PySem.Spec PyProof.Rows L2
/-! ### try: what is caught becomes a value -/
section
variable {X : Cx} {pins : List (Addr × Obj)} {σ : L2.St} {H : Hp} {s sI : Shared}
/-- an object that is new since sI is tracked -/
theorem inv_track {a : Addr} {o : HO} (hx : X.ex = []) (I : Inv X pins σ H sI) (J : Inv X pins σ H s) (ni : sI.heap.get? a = none) (na : H a = none) (new : ObjOk X.prog X.w (upd H a o) s.heap a o) : Inv X pins σ (upd H a o) s := by
  have n0 : X.s_0.heap.get? a = none := by
    cases e : X.s_0.heap.get? a with
    | none => rfl
    | some u =>
      obtain ⟨u', z⟩ := I.base.there a u e (by rw [hx]; exact fun z => nomatch z)
      rw [ni] at z; cases z
  have ne0 : ∀ b u, X.s_0.heap.get? b = some u → b ≠ a := fun b u e z => by rw [z, n0] at e; cases e
  have neI : ∀ b u, sI.heap.get? b = some u → b ≠ a := fun b u e z => by rw [z, ni] at e; cases e
  obtain ⟨m, ⟨oL, es, ep, hoL, _⟩, _⟩ := id I.loc
  refine ⟨J.ok, J.os, J.bare, ⟨J.base.keep, J.base.slot, fun b u e n hq => ?_, J.base.there, fun b xs e => ?_, fun b u v e => ?_, fun b ps e => ?_⟩, J.loc, J.cell, ?_, fun x c e => ?_, fun p hp => ?_, fun b u e => ?_, J.len⟩
  · rw [upd_ne (ne0 b u e)]; exact J.base.free b u e n hq
  · have q := J.base.tups b xs e
    rw [upd_ne (ne_of_none q na)]; exact q
  · have q := J.base.frzs b u v e
    rw [upd_ne (ne_of_none q na)]; exact q
  · obtain ⟨m, q⟩ := J.base.tbls b ps e
    exact ⟨m, by rw [upd_ne (ne_of_none q na)]; exact q⟩
  · rw [upd_ne (neI _ _ hoL)]; exact J.free
  · obtain ⟨v, oc, hc, _⟩ := I.cell x c e
    rw [upd_ne (neI _ _ hc)]; exact J.freeC x c e
  · obtain ⟨e, n, r⟩ := J.pin p hp
    obtain ⟨e', _⟩ := I.pin p hp
    exact ⟨e, by rw [upd_ne (neI _ _ e')]; exact n, r⟩
  · by_cases hb : b = a
    · subst hb
      rw [upd_same] at e
      cases e
      exact new
    · rw [upd_ne hb] at e
      exact (J.hok b u e).stay (fun c v _ q => q) (fun c q => by rw [upd_ne (ne_of_none q na)]; exact q) fun c xs q => by rw [upd_ne (ne_of_none q na)]; exact q
theorem inv_suite {a : Addr} (J : Inv X pins σ H s) : Inv (X.suite a (X.pn ++ pins)) [] σ H s :=
  ⟨J.ok.suite _ _, J.os, J.bare, J.base, J.loc, J.cell, J.free, J.freeC, fun p hp => J.pin p (by rw [List.append_nil] at hp; exact hp), J.hok, J.len⟩
theorem inv_unsuite {a : Addr} {pn' : List (Addr × Obj)} (I : Inv (X.suite a (X.pn ++ pins)) pn' σ H s) (ok : X.Ok) : Inv X pins σ H s :=
  ⟨ok, I.os, I.bare, I.base, I.loc, I.cell, I.free, I.freeC, fun p hp => I.pin p (List.mem_append_left _ hp), I.hok, I.len⟩
theorem xcv_ok {P : Program} {w : World} {H : Hp} {h : Heap} {a : Addr} {cls : Value} {d : Option Addr} {oe : Obj} {vs : Array Value} (e : h.get? a = some oe) (z : Zc cls d oe) (hd : oe.data = .fields vs) : ObjOk P w H h a (xcv a cls d) :=
  ⟨⟨oe, vs, e, z, hd⟩, ⟨oe, e⟩, fun _ _ ⟨o, v, q, r⟩ k => ⟨o, v, k o q, r⟩⟩
end
/-- what the clause 'except x as n' wishes: the exception is tracked -/
def wAsT (K : PySem.W.Frag) (c : Value) (i : Nat) (ts : Addr → TS) (D : Ends) : WX := fun cls d σ H =>
  PySem.W.exmOne K cls c = some true ∧ ∀ a, H a = none → ts a { nx := fun σ' H' => D.nx (σ'.set i none) H', rt := D.rt, bk := fun σ' H' => D.bk (σ'.set i none) H', ct := fun σ' H' => D.ct (σ'.set i none) H' } (σ.set i (some (.ref a))) (upd H a (xcv a cls d))
section
variable {X : Cx} {x n : Str} {c : Value} {i : Nat} {body suite : List Stmt} {b₀ : Stmt} {np pos pos' : Pos} {tb : WX → TS} {ts : Addr → TS}
theorem ps_try_asT (hs : X.stack = X.env :: X.outer) (hf : X.env.frame = some X.env.locals) (hx : X.ex = []) (hN : X.N.Nodup) (hi : X.N[i]? = some n) (hln : X.env.kindOf n = some .local) (hc : Names X x c)
    (hb : ∀ (W : WX) (pn : List (Addr × Obj)) (xe : Value → Shared → Prop), Takes (X.tr pn xe) W → PassesOwn (model X.prog X.w) X.A X.env xe → PSs (X.tr pn xe) body (tb W))
    (hsu : ∀ (a : Addr) (pn : List (Addr × Obj)), PSs (X.suite a pn) (b₀ :: suite) (ts a)) :
    PS X (.Try body [.ExceptHandler (some (.Name x np)) (some n) (b₀ :: suite) pos'] [] [] pos) (fun D σ H => tb (wAsT X.K c i ts D) D σ H) := by
  refine ⟨fun pins s σ H D I h => ?_⟩
  have ok := I.ok
  have hfr : X.A.frames = some (X.env :: X.outer) := by rw [ok.frames, hs]
  have hloc : Loc X.env.scope n := .inl hln
  refine wpAny_Try_except ?_
  refine wpAny_mono ((hb (wAsT X.K c i ts D) (X.pn ++ pins) (fun e s₁ => wpAny (model X.prog X.w) X.A (noteFrame e X.env) (fun _ s₂ => wpAny (model X.prog X.w) X.A (setFlight e none) (fun _ s₃ =>
    wpAny (model X.prog X.w) X.A (handleBy e X.env [.ExceptHandler (some (.Name x np)) (some n) (b₀ :: suite) pos']) (SP X pins D) X.xe s₃) X.xe s₂) X.xe s₁) (fun u s' xx => ?_) PassesOwn.looking).run [] s σ H D (I.toTry _) h) (fun f s1 hsp => ?_) (fun e s1 he => he)
  · obtain ⟨a, B, sI, pins', σ', H', cls, d, rfl, J', nb, up, sky, na, os, ag, hb1, hyes⟩ := xx
    have J : Inv X pins σ' H' sI := J'.ofTry ok
    have sky' : Sky B (X.env :: X.outer) a (Zc cls d) X.env.locals s'.heap := by rw [← hs]; exact sky
    show wpAny (model X.prog X.w) X.A (noteFrame (.ref a) X.env) _ _ _
    refine Sky.land Zc.steady hfr hf sky' fun h3 fl3 up3 => ?_
    have J3 : Inv X pins σ' H' { s' with heap := h3 } := J.landed nb fl3.1 (up.trans up3) os ag
    obtain ⟨oe3, vs3, he3, hz3, hd3⟩ := fl3.there
    have notFr : ∀ {h : Heap} {o : Obj} {vs : Array Value}, h.FunFrames B (X.env :: X.outer) → h.get? a = some o → o.data = .fields vs → a ∉ frs (X.env :: X.outer) := fun {h o vs} ff e dd hm => by
      obtain ⟨_, o', e', hnf⟩ := ff.mem hm
      rw [e] at e'; cases e'
      exact hnf _ dd
    have nfr := notFr fl3.2.2.1 he3 hd3
    have nL : a ≠ X.env.locals := fun z => nfr (List.mem_filterMap.mpr ⟨X.env, List.mem_cons_self, by rw [hf, z]⟩)
    have nF : a ∉ X.fs := fun hm => by
      obtain ⟨e, he, q⟩ := List.mem_filterMap.mp hm
      exact nfr (List.mem_filterMap.mpr ⟨e, List.mem_cons_of_mem _ he, q⟩)
    have ni : sI.heap.get? a = none := by
      cases e : sI.heap.get? a with
      | none => rfl
      | some u =>
        have z := nb a u e (by rw [hs]; exact nfr)
        rw [fl3.2.1] at z; cases z
    have S3 := J3.suite he3 hd3 na nL nF
    refine wpAny_handleBy_cons (codeAny_handlers_test ?_) (by intro q; cases q)
    have LT : PySem.W.Looks (model X.prog X.w) h3 (typeOf (.ref a)) cls := fun A Q E s k q => wpAny_typeOf_ref (k _ _ he3) (by rw [hz3.1]; exact q)
    have LM := PySem.W.exm_one (M := model X.prog X.w) (J3.kIn) LT hb1
    have test : ∀ {Q : Value → Shared → Prop} {E : Value → Shared → Prop}, Q c { s' with heap := h3 } → wpAny (model X.prog X.w) (X.A.mark (some (.ref a))) (eval (.Name x np) X.env) Q E { s' with heap := h3 } := fun {Q E} q => by
      obtain ⟨hg, hdbg, hm | ⟨hm, hv, hnn⟩⟩ := hc
      · exact ld_glob (X := X.suite a ((a, oe3) :: (X.pn ++ pins))) S3 hg hm q hdbg
      · exact ld_blt (X := X.suite a ((a, oe3) :: (X.pn ++ pins))) S3 hg hm hv q hnn hdbg
    refine test (LM.here ?_)
    refine codeAny_handlers_suite_as ?_
    refine HandSPX.lands_againZ fl3 fun h4 fl4 up4 => ?_
    have J4 : Inv X pins σ' H' { s' with heap := h4 } := J.landed nb fl4.1 ((up.trans up3).trans up4) os ag
    obtain ⟨oe4, vs4, he4, hz4, hd4⟩ := fl4.there
    have T4 : Inv X pins σ' (upd H' a (xcv a cls d)) { s' with heap := h4 } := inv_track hx J J4 ni na (xcv_ok he4 hz4 hd4)
    have S4 := inv_suite (a := a) T4
    refine store_ok (X := X.suite a (X.pn ++ pins)) (v := .ref a) S4 hN hi hloc rfl (fun s5 S5 => ?_) (.inr hln)
    refine wpAny_mono ((hsu a (X.pn ++ pins)).run [] s5 _ _ _ S5 (hyes a na)) (fun f s6 hsp => ?_) (fun _ _ z => False.elim z)
    have end_ : ∀ {σ6 : L2.St} {H6 : Hp} {Q : Shared → Prop}, Inv (X.suite a (X.pn ++ pins)) [] σ6 H6 s6 → (∀ s7, Inv X pins (σ6.set i none) H6 s7 → Q s7) →
        wpAny (model X.prog X.w) X.A (do bindName X.env n .none; unbindBehindTheSuite X.env n pos') (fun _ s7 => Q s7) X.xe s6 := fun {σ6 H6 Q} S6 hq => gone_ok (inv_unsuite S6 ok) hN hi hln hq
    cases f with
    | next =>
      obtain ⟨σ6, H6, S6, q6⟩ := hsp
      exact end_ S6 fun s7 J7 => ⟨_, _, J7, q6⟩
    | brk =>
      obtain ⟨σ6, H6, S6, q6⟩ := hsp
      exact end_ S6 fun s7 J7 => ⟨_, _, J7, q6⟩
    | cont =>
      obtain ⟨σ6, H6, S6, q6⟩ := hsp
      exact end_ S6 fun s7 J7 => ⟨_, _, J7, q6⟩
    | ret u =>
      obtain ⟨v6, σ6, H6, S6, r6, q6⟩ := hsp
      exact end_ S6 fun s7 J7 => ⟨_, _, _, J7, r6, q6⟩
  · cases f with
    | next =>
      obtain ⟨σ', H', J', q⟩ := hsp
      exact wpAny_execs_nil ⟨σ', H', J'.ofTry ok, q⟩
    | brk =>
      obtain ⟨σ', H', J', q⟩ := hsp
      exact ⟨σ', H', J'.ofTry ok, q⟩
    | cont =>
      obtain ⟨σ', H', J', q⟩ := hsp
      exact ⟨σ', H', J'.ofTry ok, q⟩
    | ret u =>
      obtain ⟨v, σ', H', J', r, q⟩ := hsp
      exact ⟨v, σ', H', J'.ofTry ok, r, q⟩
end
/-! ### the same over data -/
/-- the base from here on -/
def Br.at (B : Br) (S : Hp) : Br := ⟨S, B.H, B.deal, B.bo⟩
theorem Wd.at {B : Br} {S H : Hp} (w : Wd B S H) : Wd (B.at S) S H := ⟨w.sub, fun _ _ z => z, w.bH, fun _ _ _ z => z, fun p l e => by
  obtain ⟨d1, ⟨o, d2⟩, ⟨o', d3⟩, d4, d5⟩ := w.deal p l e
  exact ⟨d1, ⟨o, d2⟩, ⟨o', d3⟩, w.bN p o d2 d4, w.bN l o' d3 d5⟩⟩
theorem Wd.un {B : Br} {S H S' H' : Hp} (w : Wd B S H) (w' : Wd (B.at S) S' H') : Wd B S' H' := ⟨w'.sub, fun a o z => w'.bS a o (w.bS a o z), w'.bH, fun a o e n => w'.bN a o e (w.bN a o e n), fun p l e => by
  obtain ⟨_, d⟩ := w.deal p l e
  exact ⟨(w'.deal p l e).1, d⟩⟩
section
variable {K : PySem.W.Frag} {B : Br} {env env' : En} {S H S' H' : Hp} {σ σ' : L2.St}
theorem Rel.at (R : Rel K B env S σ H) : Rel K (B.at S) env S σ H := ⟨R.w.at, R.len, R.slot, R.dl, R.own, R.dist, R.bor, R.obd, R.binj⟩
theorem Rel.un (w : Wd B S H) (R : Rel K (B.at S) env' S' σ' H') : Rel K B env' S' σ' H' := ⟨w.un R.w, R.len, R.slot, R.dl, R.own, R.dist, R.bor, R.obd, R.binj⟩
theorem Eok.at {E : EM} {D : Ends} (w : Wd B S H) (k : Eok K B S E D) : Eok K (B.at S) S E D :=
  ⟨fun e σ' S' H' p R u => k.nx e σ' S' H' p (R.un w) u, fun r v S' H' p w' ir => k.rt r v S' H' p (w.un w') ir, fun e σ' S' H' p R u => k.bk e σ' S' H' p (R.un w) u, fun e σ' S' H' p R u => k.ct e σ' S' H' p (R.un w) u⟩
theorem Rel.gone {i : Nat} (R : Rel K B env S σ H) : Rel K B (env.set i .no) S (σ.set i none) H := by
  by_cases h : i < env.length
  · exact R.setN h
  · rw [List.set_eq_of_length_le (by omega), List.set_eq_of_length_le (by have := R.len; omega)]
    exact R
end
def goneE (i : Nat) (E : EM) : EM := ⟨fun e => E.nx (e.set i .no), E.rt, fun e => E.bk (e.set i .no), fun e => E.ct (e.set i .no)⟩
/-- try: mb; except .. as slot i: ms -/
def msTry (i : Nat) (L : List Str) (mb : XX → MS) (ms : MS) : MS := fun env E =>
  mb (fun e env' => e.cls ∈ L ∧ i < env'.length ∧ ms (env'.set i (.val (exD e))) (goneE i E)) env E
theorem _root_.L2.PSs.unx {X : Cx} {st : List Stmt} {α : Type} {t : α → TS} (p : ∀ a, PSs X st (t a)) : PSs X st (fun D σ H => ∃ a, t a D σ H) := ⟨fun pins s σ H D I h => by
  obtain ⟨a, h⟩ := h
  exact (p a).run pins s σ H D I h⟩
/-- the classes that the clause names take those of L -/
def Catches (K : PySem.W.Frag) (c : Value) (L : List Str) : Prop := ∀ y ∈ L, ∀ C, PySem.W.nsIn K mainGlobals y = some (some (.ref C)) → PySem.W.exmOne K (.ref C) c = some true
theorem dst_try {Z : ZX} {X : Cx} {x n : Str} {c : Value} {i : Nat} {L : List Str} {body suite : List Stmt} {b₀ : Stmt} {np pos pos' : Pos} {mb : XX → MS} {ms : MS} (hs : X.stack = X.env :: X.outer) (hf : X.env.frame = some X.env.locals) (hx : X.ex = []) (hN : X.N.Nodup) (hc : Names X x c) (hcat : Catches X.K c L)
    (hb : ∀ (Z' : ZX) (pn : List (Addr × Obj)) (xe : Value → Shared → Prop), Tk Z' (X.tr pn xe) → PassesOwn (model X.prog X.w) X.A X.env xe → DSs Z' (X.tr pn xe) body (mb Z'.xx))
    (hsu : ∀ (a : Addr) (pn : List (Addr × Obj)), DSs (z0 X.K) (X.suite a pn) (b₀ :: suite) ms) (hi : X.N[i]? = some n := by rfl) (hln : X.env.kindOf n = some .local := by rfl) :
    DSt Z X (.Try body [.ExceptHandler (some (.Name x np)) (some n) (b₀ :: suite) pos'] [] [] pos) (msTry i L mb ms) := by
  refine (ps_try_asT (tb := fun W D σ H => ∃ xx, tSt ⟨X.K, W, xx⟩ X.K (mb xx) D σ H) (ts := fun _ => tSt (z0 X.K) X.K ms) hs hf hx hN hi hln hc (fun W pn xe tk po => PSs.unx fun xx => hb ⟨X.K, W, xx⟩ pn xe ⟨rfl, tk⟩ po) fun a pn => hsu a pn).wk fun D σ H ⟨B, env, S, E, R, h, k⟩ => ?_
  refine ⟨fun e env' => e.cls ∈ L ∧ i < env'.length ∧ ms (env'.set i (.val (exD e))) (goneE i E), ?_⟩
  refine ⟨⟨B.toBr.at S, fun e env' σ' S' H' cls d hx' R' ea => ?_⟩, env, S, E, R.at, h, k.at R.w⟩
  obtain ⟨hL, hl, hm⟩ := hx'
  obtain ⟨C, kvs, nC, rfl, xd, dk⟩ := ea
  have RB : Rel X.K B env' S' σ' H' := Rel.un R.w R'
  have up : Up S S' := fun a o z => R'.w.bS a o z
  refine ⟨hcat _ hL C nC, fun a na => ?_⟩
  have sa : S' a = none := RB.w.snone na
  have up2 : Up S' (upd S' a (xcv a (.ref C) d)) := upd_sub sa
  have R2 := (RB.allocS (o := xcv a (.ref C) d) na).setV (i := i) (d := exD e) (v := .ref a) (Dq.exc nC upd_same (xd.up up2) (DqK.up up2 _ _ dk)) hl
  refine ⟨b0 X.K B.toBr, _, _, goneE i E, R2, hm, ⟨fun e2 σ2 S2 H2 p r2 u => ?_, fun r v S2 H2 p w2 ir => k.rt r v S2 H2 p w2 ir, fun e2 σ2 S2 H2 p r2 u => ?_, fun e2 σ2 S2 H2 p r2 u => ?_⟩⟩
  · exact k.nx _ _ S2 H2 p r2.gone fun a o z => u a o (up2 a o (up a o z))
  · exact k.bk _ _ S2 H2 p r2.gone fun a o z => u a o (up2 a o (up a o z))
  · exact k.ct _ _ S2 H2 p r2.gone fun a o z => u a o (up2 a o (up a o z))
end Pq
set_option Elab.async false
set_option linter.all false
set_option maxRecDepth 100000
set_option maxHeartbeats 4000000
set_option pp.maxSteps 600
namespace PySem.W
open PySem PySem.Spec PySem.Calls PyProof.Rows
section
variable {prog : Program} {w : World} {A : Around} {E : Value → Shared → Prop} {s : Shared} {K : Frag} {x D : Addr} {ox : Obj} {od : Option Obj}
theorem findObj_dataO {C : Addr} {name : Str} {a g : Value} (hc : (clsIn K C).isSome = true) (ha : findIn K (.ref C) name = some (some a)) (hg : specialIn K a "__get__" = some (some g)) (ht : takesIn K a = some true) : findObj K C od name = some (.bind g a) := by
  obtain ⟨cd, hc⟩ := Option.isSome_iff_exists.mp hc
  unfold findObj
  rw [hc, Option.bind_some, ha, Option.bind_some]
  simp [hg, ht]
theorem kin_classO {Q : Option Value → Shared → Prop} (hga : findIn K (.ref D) "__getattribute__" = some (some (.builtin "BaseException.__getattribute__"))) (hgt : findIn K (.ref D) "__getattr__" = some none) (hsub : subIn K (.ref D) (.type "BaseException") = some true)
    (hdct : hasDictIn K D = true) (ha : findIn K (.ref D) "__class__" = some (some (.builtin "object.__class__")))
    (hn : specialIn K (.builtin "object.__class__") "__get__" = some (some (.builtin "getset_descriptor.__get__"))) (htk : takesIn K (.builtin "object.__class__") = some true) (hm : mroIn K D (.type "object") = some true)
    (X : K.In s.heap) (I : InstAt s.heap x ox D od) (h : Q (some (.ref D)) { s with toks := s.toks + 1 }) : wpAny (model prog w) A (getAttr? (.ref x) "__class__") Q E s := by
  have hf : findObj K D od "__class__" = some (.bind (.builtin "getset_descriptor.__get__") (.builtin "object.__class__")) := findObj_dataO (by obtain ⟨cd, hc, _⟩ := any_some hdct; rw [hc]; rfl) ha hn htk
  obtain ⟨hp, g, d, t, os⟩ := s
  have L0 := I.type (M := model prog w)
  have L1 := looks_findIn (M := model prog w) X hga
  have L2 := looks_findIn (M := model prog w) X hgt
  have L3 := looks_find (M := model prog w) X I hf
  have sub : Looks (model prog w) hp (isInstance (.ref x) (.type "BaseException")) true := L0.andThen (looks_subIn X hsub)
  have hx0 : (false && onTheHeap (Value.builtin "BaseException.__getattribute__")) = false := rfl
  have hx2 : (Value.builtin "BaseException.__getattribute__" == Value.builtin "object.__getattribute__") = false := by decide +kernel
  have hx1 : (onTheHeap (Value.ref D) && Value.builtin "BaseException.__getattribute__" == Value.builtin "object.__getattribute__") = false := by rw [hx2]; rfl
  unfold getAttr? getAttrBy? getAttrBy
  refine wpAny_bind (wpAny_mkText (wpAny_bind (wpAny_attempt (wpAny_holding (wpAny_bind (L0.at (wpAny_bind (L1.at ?_))))))))
  show wpAny _ _ (if (onTheHeap (Value.ref D) && Value.builtin "BaseException.__getattribute__" == Value.builtin "object.__getattribute__") = true then _ else _) _ _ _
  rw [hx1, if_neg Bool.false_ne_true]
  unfold getAttrByItsOwn hookBefore
  refine wpAny_bind ?_
  rw [if_pos (show onTheHeap (Value.ref D) = true from rfl)]
  refine L2.at ?_
  refine wpAny_bind (wpAny_attempt (wpAny_holding ?_))
  unfold callGetattribute
  rw [hx0, if_neg Bool.false_ne_true]
  unfold boundAndCalled
  rw [PySem.F.excAttr_ValueError.ga.bind (.ref x)]
  refine wpAny_bind (wpAny_pure ?_)
  show wpAny _ _ (call (.builtin "BaseException.__getattribute__") [.ref x, .str "__class__" t]) _ _ _
  refine wpAny_call (codeAny_call_builtin PySem.F.excAttr_ValueError.ga.plain PySem.F.entry_bexc_ga ?_)
  refine @check_slot (model prog w) _ _ ⟨hp, g, d, t + 1, os⟩ "BaseException.__getattribute__" "BaseException" "__getattribute__" (.ref x) [.str "__class__" t] [] _ (by decide +kernel) (by decide +kernel) sub (PySem.F.args_bexc_ga (.ref x) (.str "__class__" t)) ?_
  unfold Builtin.«object.__getattribute__»
  refine wpAny_bind (wpAny_of_eq (a := ((Value.ref x : Value), [Value.str "__class__" t])) (by first | rfl | (simp only [slotArgs]; rfl)) ?_)
  refine wpAny_bind (wpAny_pure (wpAny_bind (L0.at (wpAny_bind (L3.at ?_)))))
  show wpAny _ _ (holding [Value.builtin "object.__class__"] (call (.builtin "getset_descriptor.__get__") [.builtin "object.__class__", .ref x, .ref D]) >>= ret) _ _ _
  refine wpAny_bind (wpAny_holding (wpAny_call (class_get (s := ⟨hp, g, d, t + 1, os⟩) (ox := ox) (od := od) X I hm ?_)))
  refine wpAny_pure ?_
  show wpAny _ _ (handedOut (.ref D)) _ _ _
  rw [handedOut_of (v := .ref D) rfl]
  first
    | exact wpAny_pure (wpAny_pure h)
    | exact wpAny_pure h
    | exact wpAny_pure (wpAny_bind (wpAny_pure (wpAny_pure h)))
theorem kitx_excO (hga : findIn K (.ref D) "__getattribute__" = some (some (.builtin "BaseException.__getattribute__"))) (hgt : findIn K (.ref D) "__getattr__" = some none) (hsub : subIn K (.ref D) (.type "BaseException") = some true) (hdct : hasDictIn K D = true) (ha : findIn K (.ref D) "__class__" = some (some (.builtin "object.__class__")))
    (hn : specialIn K (.builtin "object.__class__") "__get__" = some (some (.builtin "getset_descriptor.__get__"))) (htk : takesIn K (.builtin "object.__class__") = some true) (hm : mroIn K D (.type "object") = some true) :
    KitX K (.ref x) (.ref D) (fun h => InstAt h x ox D od) where
  ty := fun _ _ _ I => I.type
  it := fun _ _ X _ => by
    obtain ⟨cdD, hcD, _⟩ := any_some hdct
    unfold clsIn at hcD
    split at hcD
    · rename_i c' d' cd' sl' ho
      intro A' Q' E' s' k q
      unfold isType loadHead
      exact wpAny_bind (wpAny_loadPart (k _ _ (X _ _ ho)) (wpAny_pure q))
    · cases hcD
  ne := fun h tp dd its n sl X htp => by
    obtain ⟨cdD, hcD, _⟩ := any_some hdct
    refine Bool.eq_false_iff.mpr fun q => ?_
    have e : D = tp := Value.ref.inj (beq_iff_eq.mp q)
    subst e
    unfold clsIn at hcD
    split at hcD
    · rename_i c' d' cd' sl' ho
      have z := (X _ _ ho).symm.trans htp
      cases z
    · cases hcD
  ca := fun X I k => kin_classO hga hgt hsub hdct ha hn htk hm X I k
end
end PySem.W
namespace Pq
open PySem PySem.Spec PyProof.Rows L2
/-! ### caught exceptions looked at -/
section
variable {X : Cx} {pins : List (Addr × Obj)} {σ : L2.St} {H : Hp} {s : Shared}
theorem inst_xc {a C : Addr} {d : Option Addr} {kvs : List (Key × V)} (I : Inv X pins σ H s) (ha : H a = some (xcv a (.ref C) d)) (hd : XcD H d kvs) : ∃ oe od, PySem.W.InstAt s.heap a oe C od ∧ (kvs ≠ [] → ∃ (o : Obj) (dd : Addr) (mA : Str → Option Value), d = some dd ∧ od = some o ∧ (∀ f, RelO ((flds kvs).lookup f) (mA f)) ∧ ∀ n, PySem.W.lookIn n o = some (mA n)) := by
  obtain ⟨⟨oe, vs, e, hz, hv⟩, _⟩ := (show ObjOk X.prog X.w H s.heap a (xcv a (.ref C) d) from I.hok a _ ha)
  rcases hd with ⟨rfl, rfl⟩ | ⟨dd, rfl, hdd⟩
  · refine ⟨oe, none, ⟨e, hz.1, by unfold PySem.W.notCls; rw [hv] <;> rfl, by rw [hz.2]; trivial⟩, fun z => absurd rfl z⟩
  · obtain ⟨mA, hns, hr⟩ := (show ObjOk X.prog X.w H s.heap dd (.xd (flds kvs)) from I.hok dd _ hdd)
    obtain ⟨od, ho, hl⟩ := lookIn_ns hns
    exact ⟨oe, some od, ⟨e, hz.1, by unfold PySem.W.notCls; rw [hv] <;> rfl, by rw [hz.2]; exact ho⟩, fun _ => ⟨od, dd, mA, rfl, rfl, hr, fun n => hl n⟩⟩
end
section
variable {X : Cx}
/-- isinstance of a caught exception -/
def rIsXc (K : PySem.W.Frag) : List V → Hp → VK → Prop := fun xs H Q => ∃ (a C : Addr) (d : Option Addr) (kvs : List (Key × V)) (c : V) (cv : Value) (b : Bool), xs = [.ref a, c] ∧ H a = some (xcv a (.ref C) d) ∧ XcD H d kvs ∧ ExcC K C ∧ ClsV c cv ∧ PySem.W.kitOne K (.ref C) cv = some b ∧ Q (.bl b) H
theorem call_isXc : CallR X (.builtin "isinstance") (rIsXc X.K) := by
  intro pins s σ H xs us Q I r h
  obtain ⟨a, C, d, kvs, c, cv, b, rfl, ha, hd, T, k, e, q⟩ := h
  obtain ⟨u1, u2, rfl, r1, r2⟩ := vals2 r
  have e2 := k.eq r2
  subst e2
  cases (show u1 = Value.ref a from r1)
  obtain ⟨oe, od, J, _⟩ := inst_xc I ha hd
  exact PySem.W.kia_one (PySem.W.kitx_excO T.hg T.hk T.hs T.hd T.ha T.hn T.ht T.hm) I.kIn J e (fun z => nomatch z) fun tk => ⟨.bl b, H, I.tok tk, rfl, q⟩
def rIsXcT (K : PySem.W.Frag) : List V → Hp → VK → Prop := fun xs H Q => ∃ (a C : Addr) (d : Option Addr) (kvs : List (Key × V)) (tp : Addr) (cs : List V) (ws : List Value) (b : Bool), xs = [.ref a, .ref tp] ∧ H a = some (xcv a (.ref C) d) ∧ XcD H d kvs ∧ ExcC K C ∧ H tp = some (.tup cs) ∧ Paired ClsV cs ws ∧ PySem.W.kitAny K (.ref C) ws = some b ∧ Q (.bl b) H
theorem call_isXcT : CallR X (.builtin "isinstance") (rIsXcT X.K) := by
  intro pins s σ H xs us Q I r h
  obtain ⟨a, C, d, kvs, tp, cs, ws, b, rfl, ha, hd, T, hT, k, e, q⟩ := h
  obtain ⟨u1, u2, rfl, r1, r2⟩ := vals2 r
  cases (show u1 = Value.ref a from r1)
  cases (show u2 = Value.ref tp from r2)
  obtain ⟨oe, od, J, _⟩ := inst_xc I ha hd
  obtain ⟨_, its, rv, o, h1, h2, n, h3⟩ := (show ObjOk X.prog X.w H s.heap tp (.tup cs) from I.hok tp _ hT)
  have e3 := ClsV.all k rv
  subst e3
  obtain ⟨oc, od2, oda, osl⟩ := o
  dsimp only at h2 h3
  subst h2 h3
  exact PySem.W.kia_tup (PySem.W.kitx_excO T.hg T.hk T.hs T.hd T.ha T.hn T.ht T.hm) I.kIn J h1 e (fun z => nomatch z) fun tk => ⟨.bl b, H, I.tok tk, rfl, q⟩
/-! ### the same over data -/
/-- which class an exception has -/
def xcls : Da → Option Str
  | .dict ((.bool false, .str x) :: _) => some x
  | _ => none
def xflds : Da → List (Da × Da)
  | .dict (_ :: ds) => ds
  | _ => []
theorem IsP.xc {K : PySem.W.Frag} {B : Br} {S H : Hp} {d : Da} {v : V} {x : Str} (w : Wd B S H) (p : IsP K B S H d v) (e : xcls d = some x) : ∃ a C dd kvs, v = .ref a ∧ PySem.W.nsIn K mainGlobals x = some (some (.ref C)) ∧ S a = some (xcv a (.ref C) dd) ∧ XcD S dd kvs ∧ DqK K S kvs (xflds d) := by
  unfold xcls at e
  split at e
  · rename_i y ds
    cases e
    rcases p with p | ⟨_, _, _, _, _, p⟩
    · cases p with
      | exc n h1 h2 h3 => exact ⟨_, _, _, _, rfl, n, h1, h2, h3⟩
      | dk _ z => exact nomatch (show true = false from tm_dk z)
    · cases p with
      | dk z => exact nomatch (show true = false from tm_dk z)
  · cases e
/-- isinstance(e, y) -/
def mIsX (tab : List (Str × Bool)) (m : MP) : MP := fun env Q => m env fun d e1 => match xcls d with
  | some x => match tab.lookup x with
    | some b => Q (.bool b) e1
    | none => False
  | none => False
/-- what the class y says of exceptions -/
structure IsX (K : PySem.W.Frag) (mg : Str → Option Value) (y : Str) (tab : List (Str × Bool)) : Prop where
  ex : ∃ D, mg y = some (.ref D) ∧ ∀ p ∈ tab, ∀ C, PySem.W.nsIn K mainGlobals p.1 = some (some (.ref C)) → PySem.W.kitOne K (.ref C) (.ref D) = some p.2 ∧ ExcC K C
theorem lookup_mem {tab : List (Str × Bool)} {x : Str} {b : Bool} (h : tab.lookup x = some b) : (x, b) ∈ tab := by
  induction tab with
  | nil => cases h
  | cons p r ih =>
    obtain ⟨y, c⟩ := p
    rw [List.lookup_cons] at h
    by_cases z : x = y
    · subst z
      simp at h
      subst h
      exact List.mem_cons_self
    · have : (x == y) = false := by simpa using z
      rw [this] at h
      exact List.mem_cons_of_mem _ (ih h)
theorem ds_isx {Z : ZX} {tab : List (Str × Bool)} {a : Expr} {y : Str} {p p2 pos : Pos} {m : MP} (hg : Gl X "isinstance") (hm : X.mg "isinstance" = none) (hg2 : Gl X y) (I : IsX X.K X.mg y tab) (ha : DP Z X a m) (hv : bootBuiltins "isinstance" = some (.builtin "isinstance") := by decide +kernel) (hdb : (y == ("__debug__" : Str)) = false := by decide)
    (he : starEach [a, .Name y p2] X.env = (false, eval a X.env) :: starEach [.Name y p2] X.env := by rfl) (he2 : starEach [.Name y p2] X.env = (false, eval (.Name y p2) X.env) :: starEach [] X.env := by rfl) (hpl : (backTo pos (starEach [.Name y p2] X.env)).any (·.1) = false := by rfl) :
    DS Z X (.Call (.Name "isinstance" p) [a, .Name y p2] [] pos) (mIsX tab m) := by
  obtain ⟨D, gD, hD⟩ := I.ex
  refine (pe_callB call_isXc hg hm hv (pa_cons ha (pa_cons (pe_glob (v := .ref D) hg2 gD rfl hdb) pa_nil he2) he) (by decide) (by decide) he hpl).wk fun σ H Q ⟨B, env, S, Q0, R, h, k⟩ => ?_
  refine ⟨B, env, S, _, R, h, fun d e1 q v S1 H1 st1 R1 ip => ?_⟩
  cases zx : xcls d with
  | none => rw [zx] at q; exact q.elim
  | some x =>
    rw [zx] at q
    dsimp only at q
    cases z : tab.lookup x with
    | none => rw [z] at q; exact q.elim
    | some b =>
      rw [z] at q
      obtain ⟨a, C, dd, kvs, rfl, nC, ha, hd, dk⟩ := ip.xc R1.w zx
      obtain ⟨k1, T⟩ := hD _ (lookup_mem z) C nC
      exact ⟨a, C, dd, kvs, .ref D, .ref D, b, rfl, R1.w.sub _ _ ha, hd.up R1.w.sub, T, .own D, k1, k _ e1 q _ S1 H1 st1 R1 (.bl b)⟩
/-- isinstance(e, ValueError) -/
structure IsXB (K : PySem.W.Frag) (T : String) (tab : List (Str × Bool)) : Prop where
  ex : ∀ p ∈ tab, ∀ C, PySem.W.nsIn K mainGlobals p.1 = some (some (.ref C)) → PySem.W.kitOne K (.ref C) (.type T) = some p.2 ∧ ExcC K C
theorem ds_isxB {Z : ZX} {tab : List (Str × Bool)} {T : String} {a : Expr} {y : Str} {p p2 pos : Pos} {m : MP} (hg : Gl X "isinstance") (hm : X.mg "isinstance" = none) (hg2 : Gl X y) (hm2 : X.mg y = none) (hv2 : bootBuiltins y = some (.type T)) (I : IsXB X.K T tab) (ha : DP Z X a m) (hv : bootBuiltins "isinstance" = some (.builtin "isinstance") := by decide +kernel) (hn : y ≠ "__name__" := by decide) (hdb : (y == ("__debug__" : Str)) = false := by decide)
    (he : starEach [a, .Name y p2] X.env = (false, eval a X.env) :: starEach [.Name y p2] X.env := by rfl) (he2 : starEach [.Name y p2] X.env = (false, eval (.Name y p2) X.env) :: starEach [] X.env := by rfl) (hpl : (backTo pos (starEach [.Name y p2] X.env)).any (·.1) = false := by rfl) :
    DS Z X (.Call (.Name "isinstance" p) [a, .Name y p2] [] pos) (mIsX tab m) := by
  refine (pe_callB call_isXc hg hm hv (pa_cons ha (pa_cons (pe_bltn (v := .ty T) hg2 hm2 hv2 rfl hn hdb) pa_nil he2) he) (by decide) (by decide) he hpl).wk fun σ H Q ⟨B, env, S, Q0, R, h, k⟩ => ?_
  refine ⟨B, env, S, _, R, h, fun d e1 q v S1 H1 st1 R1 ip => ?_⟩
  cases zx : xcls d with
  | none => rw [zx] at q; exact q.elim
  | some x =>
    rw [zx] at q
    dsimp only at q
    cases z : tab.lookup x with
    | none => rw [z] at q; exact q.elim
    | some b =>
      rw [z] at q
      obtain ⟨a, C, dd, kvs, rfl, nC, ha, hd, dk⟩ := ip.xc R1.w zx
      obtain ⟨k1, T'⟩ := I.ex _ (lookup_mem z) C nC
      exact ⟨a, C, dd, kvs, .ty T, .type T, b, rfl, R1.w.sub _ _ ha, hd.up R1.w.sub, T', .ty T, k1, k _ e1 q _ S1 H1 st1 R1 (.bl b)⟩
/-- names of classes in a row -/
inductive NmL (X : Cx) : List Expr → List Str → Prop
  | nil : NmL X [] []
  | cons {y : Str} {p : Pos} {es : List Expr} {ys : List Str} : Gl X y → (y == ("__debug__" : Str)) = false → starEach (.Name y p :: es) X.env = (false, eval (.Name y p) X.env) :: starEach es X.env → NmL X es ys → NmL X (.Name y p :: es) (y :: ys)
theorem pa_names {es : List Expr} {ys : List Str} (h : NmL X es ys) : ∀ Ds : List Addr, Paired (fun y D => X.mg y = some (.ref D)) ys Ds → PA X es (fun _ H Q => Q (Ds.map V.ref) H) := by
  induction h with
  | nil =>
    intro Ds hD
    cases hD
    exact pa_nil
  | cons g db st _ ih =>
    intro Ds hD
    cases hD with
    | cons h1 h2 => exact pa_cons (pe_glob (v := .ref _) g h1 rfl db) (ih _ h2) st
/-- isinstance(e, (y, ..)) -/
def mIsXT (tab : List (Str × Bool)) (m : MP) : MP := mIsX tab m
structure IsXT (K : PySem.W.Frag) (mg : Str → Option Value) (ys : List Str) (tab : List (Str × Bool)) : Prop where
  ex : ∃ Ds : List Addr, Paired (fun y D => mg y = some (.ref D)) ys Ds ∧ ∀ p ∈ tab, ∀ C, PySem.W.nsIn K mainGlobals p.1 = some (some (.ref C)) → PySem.W.kitAny K (.ref C) (Ds.map Value.ref) = some p.2 ∧ ExcC K C
theorem cls_refs : ∀ Ds : List Addr, Paired ClsV (Ds.map V.ref) (Ds.map Value.ref)
  | [] => .nil
  | D :: Ds => .cons (.own D) (cls_refs Ds)
theorem ds_isxT {Z : ZX} {tab : List (Str × Bool)} {ys : List Str} {a : Expr} {es : List Expr} {tk : Nat} {p p2 pos : Pos} {m : MP} (hg : Gl X "isinstance") (hm : X.mg "isinstance" = none) (hN : NmL X es ys) (hl : ys.length ≤ 1000) (I : IsXT X.K X.mg ys tab) (ha : DP Z X a m) (hv : bootBuiltins "isinstance" = some (.builtin "isinstance") := by decide +kernel)
    (he : starEach [a, .Tuple es tk p2] X.env = (false, eval a X.env) :: starEach [.Tuple es tk p2] X.env := by rfl) (he2 : starEach [.Tuple es tk p2] X.env = (false, eval (.Tuple es tk p2) X.env) :: starEach [] X.env := by rfl) (hpl : (backTo pos (starEach [.Tuple es tk p2] X.env)).any (·.1) = false := by rfl) :
    DS Z X (.Call (.Name "isinstance" p) [a, .Tuple es tk p2] [] pos) (mIsXT tab m) := by
  obtain ⟨Ds, gD, hD⟩ := I.ex
  refine (pe_callB call_isXcT hg hm hv (pa_cons ha (pa_cons (pe_tup (pa_names hN Ds gD)) pa_nil he2) he) (by decide) (by decide) he hpl).wk fun σ H Q ⟨B, env, S, Q0, R, h, k⟩ => ?_
  refine ⟨B, env, S, _, R, h, fun d e1 q v S1 H1 st1 R1 ip => ?_⟩
  have ld : (Ds.map V.ref).length ≤ sizeLine := by
    rw [List.length_map, ← Paired.length gD, sizeLine_eq]
    omega
  refine ⟨ld, fun t ht => ?_⟩
  cases zx : xcls d with
  | none => rw [zx] at q; exact q.elim
  | some x =>
    rw [zx] at q
    dsimp only at q
    cases z : tab.lookup x with
    | none => rw [z] at q; exact q.elim
    | some b =>
      rw [z] at q
      obtain ⟨a, C, dd, kvs, rfl, nC, ha, hd, dk⟩ := ip.xc R1.w zx
      obtain ⟨k1, T⟩ := hD _ (lookup_mem z) C nC
      have R2 := R1.alloc (o := .tup (Ds.map V.ref)) ht
      have up : Up H1 (upd H1 t (.tup (Ds.map V.ref))) := upd_sub ht
      exact ⟨a, C, dd, kvs, t, Ds.map V.ref, Ds.map Value.ref, b, rfl, up _ _ (R1.w.sub _ _ ha), (hd.up R1.w.sub).up up, T, upd_same, cls_refs Ds, k1, k _ e1 q _ S1 _ (st1.trans (stq_alloc ht)) R2 (.bl b)⟩
end
end Pq
set_option Elab.async false
set_option linter.all false
set_option maxRecDepth 100000
set_option maxHeartbeats 4000000
set_option pp.maxSteps 600
namespace Pq
open PySem PySem.Spec PyProof.Rows L2
/-! ### what the top has written of exceptions -/
structure Hdl (K : PySem.W.Frag) (mg : Str → Option Value) (y : Str) (L : List Str) : Prop where
  ex : ∃ D, mg y = some (.ref D) ∧ Catches K (.ref D) L
theorem dst_tryC {Z : ZX} {X : Cx} {x n : Str} {i : Nat} {L : List Str} {body suite : List Stmt} {b₀ : Stmt} {np pos pos' : Pos} {mb : XX → MS} {ms : MS} (Hd : Hdl X.K X.mg x L) (hg : Gl X x) (hs : X.stack = X.env :: X.outer) (hf : X.env.frame = some X.env.locals) (hx : X.ex = []) (hN : X.N.Nodup)
    (hb : ∀ (Z' : ZX) (pn : List (Addr × Obj)) (xe : Value → Shared → Prop), Tk Z' (X.tr pn xe) → PassesOwn (model X.prog X.w) X.A X.env xe → DSs Z' (X.tr pn xe) body (mb Z'.xx))
    (hsu : ∀ (a : Addr) (pn : List (Addr × Obj)), DSs (z0 X.K) (X.suite a pn) (b₀ :: suite) ms) (hdb : (x == ("__debug__" : Str)) = false := by decide) (hi : X.N[i]? = some n := by rfl) (hln : X.env.kindOf n = some .local := by rfl) :
    DSt Z X (.Try body [.ExceptHandler (some (.Name x np)) (some n) (b₀ :: suite) pos'] [] [] pos) (msTry i L mb ms) := by
  obtain ⟨D, gD, hD⟩ := Hd.ex
  exact dst_try hs hf hx hN ⟨hg, hdb, .inl gD⟩ hD hb hsu hi hln
def AllT {α : Type} (P : α → Prop) : List α → Prop
  | [] => True
  | a :: r => P a ∧ AllT P r
theorem AllT.at {α : Type} {P : α → Prop} : ∀ {l : List α}, AllT P l → ∀ a ∈ l, P a
  | _ :: _, h, a, hm => (List.mem_cons.mp hm).elim (fun e => by rw [e]; exact h.1) fun m => h.2.at a m
section
variable {K : PySem.W.Frag} {mg : Str → Option Value}
theorem ns_one {x : Str} {C C' : Addr} (h : PySem.W.nsIn K mainGlobals x = some (some (.ref C))) (h' : PySem.W.nsIn K mainGlobals x = some (some (.ref C'))) : C' = C := by
  rw [h] at h'
  cases h'
  rfl
theorem hdl_mk {y : Str} {D : Addr} {L : List Str} (gD : mg y = some (.ref D)) (eD : PySem.W.subIn K (.ref D) (.type "BaseException") = some true) (hD : PySem.W.hasDictIn K D = true) (tD : PySem.W.typeIn K (.ref D) = some (.type "type"))
    (h : AllT (fun x => ∃ C, PySem.W.nsIn K mainGlobals x = some (some (.ref C)) ∧ PySem.W.subIn K (.ref C) (.ref D) = some true) L) : Hdl K mg y L := ⟨D, gD, fun x hx C nC => by
  obtain ⟨C', n', s'⟩ := h.at x hx
  rw [ns_one n' nC]
  exact PySem.W.exm_ref eD hD tD s'⟩
/-- what isinstance asks of a class -/
abbrev TabP (K : PySem.W.Frag) (cv : Value) (p : Str × Bool) : Prop := ∃ C, PySem.W.nsIn K mainGlobals p.1 = some (some (.ref C)) ∧ PySem.W.kitOne K (.ref C) cv = some p.2 ∧ ExcC K C
theorem isx_mk {y : Str} {D : Addr} {tab : List (Str × Bool)} (gD : mg y = some (.ref D)) (h : AllT (TabP K (.ref D)) tab) : IsX K mg y tab := ⟨D, gD, fun p hp C nC => by
  obtain ⟨C', n', k, e⟩ := h.at p hp
  rw [ns_one n' nC]
  exact ⟨k, e⟩⟩
theorem isxB_mk {T : String} {tab : List (Str × Bool)} (h : AllT (TabP K (.type T)) tab) : IsXB K T tab := ⟨fun p hp C nC => by
  obtain ⟨C', n', k, e⟩ := h.at p hp
  rw [ns_one n' nC]
  exact ⟨k, e⟩⟩
theorem isxT_mk {ys : List Str} {Ds : List Addr} {tab : List (Str × Bool)} (gD : Paired (fun y D => mg y = some (.ref D)) ys Ds) (h : AllT (fun p : Str × Bool => ∃ C, PySem.W.nsIn K mainGlobals p.1 = some (some (.ref C)) ∧ PySem.W.kitAny K (.ref C) (Ds.map Value.ref) = some p.2 ∧ ExcC K C) tab) : IsXT K mg ys tab := ⟨Ds, gD, fun p hp C nC => by
  obtain ⟨C', n', k, e⟩ := h.at p hp
  rw [ns_one n' nC]
  exact ⟨k, e⟩⟩
end
end Pq
set_option Elab.async false
set_option linter.all false
set_option maxRecDepth 100000
set_option maxHeartbeats 4000000
namespace Pq
open PySem PySem.Spec PyProof.Rows L2
/-! ### defs that may raise, that are handed what they may change -/
end Pq
namespace Pq
open PySem PySem.Spec PyProof.Rows L2
theorem kit_mk {K : PySem.W.Frag} {t : Value} {C : Addr} {b : Bool} (h1 : PySem.W.isClsIn K C = true) (h2 : PySem.W.typeIn K (.ref C) = some (.type "type")) (h3 : PySem.W.subIn K t (.ref C) = some b) (hb : (t == .ref C) = true → b = true) : PySem.W.kitOne K t (.ref C) = some b := by
  unfold PySem.W.kitOne
  by_cases c : (t == .ref C) = true
  · rw [if_pos c, hb c]
  · rw [if_neg c]
    have h1' : (PySem.W.clsIn K C).isSome = true := h1
    have e2 : ((PySem.W.clsIn K C).isSome && PySem.W.typeIn K (.ref C) == some (.type "type")) = true := by rw [h1', h2] <;> rfl
    show (if ((PySem.W.clsIn K C).isSome && PySem.W.typeIn K (.ref C) == some (.type "type")) = true then PySem.W.subIn K t (.ref C) else none) = some b
    rw [if_pos e2]
    exact h3
theorem kit_ne {x y : Addr} {b : Bool} (h : decide (x = y) = false) : (Value.ref x == .ref y) = true → b = true := fun z => by
  have e : Value.ref x = .ref y := beq_iff_eq.mp z
  cases e
  rw [decide_eq_true rfl] at h
  cases h
theorem kit_tyx {K : PySem.W.Frag} {E : Addr} {T : String} {b : Bool} (hm : PySem.W.kitMeta T = true) (h3 : PySem.W.subIn K (.ref E) (.type T) = some b) : PySem.W.kitOne K (.ref E) (.type T) = some b := by
  unfold PySem.W.kitOne
  have n : ¬ (Value.ref E == .type T) = true := fun z => by
    have e : Value.ref E = .type T := beq_iff_eq.mp z
    cases e
  rw [if_neg n]
  show (if PySem.W.kitMeta T = true then PySem.W.subIn K (.ref E) (.type T) else none) = some b
  rw [if_pos hm]
  exact h3
theorem kia_f {K : PySem.W.Frag} {t c : Value} {cs : List Value} {b : Bool} (h : PySem.W.kitOne K t c = some false) (r : PySem.W.kitAny K t cs = some b) : PySem.W.kitAny K t (c :: cs) = some b := by
  unfold PySem.W.kitAny
  rw [h]
  exact r
end Pq
set_option Elab.async false
set_option linter.all false
set_option maxRecDepth 100000
set_option maxHeartbeats 4000000
namespace Pq
open PySem PySem.Spec PyProof.Rows L2
/-! ### defs that are called within an except suite -/
/-- room for k calls, whatever is handled -/
structure RmQ (k : Nat) (A : Around) : Prop where
  rm : L2H.RoomH k A
theorem RmQ.mono {j k : Nat} {A : Around} (r : RmQ k A) (h : j ≤ k) : RmQ j A := ⟨r.rm.mono h⟩
theorem RmQ.u1 {k : Nat} {A : Around} (r : RmQ k A) : A.units + 1 < cLine := by have := r.rm.un; omega
theorem rmq_of {k : Nat} {A : Around} {v : Option Value} (r : RmG k A) : RmQ k (A.mark v) := ⟨⟨r.rm.dp, r.rm.un⟩⟩
structure FnQ (P : Program) (w : World) (K : PySem.W.Frag) (mg : Str → Option Value) (base : Heap) (k : Nat) (f : Addr) (fd : FuncData) (ps : List Str) (sp : Sp) : Prop where
  len : ∀ (vs : List V) (H : Hp) (Q : VK) (E : XK), sp vs H Q E → vs.length = ps.length
  run : ∀ (A : Around) (outs : List Env) (sh : Shared) (H : Hp) (ags : Args) (us : List Value) (vs : List V) (Q : VK) (E : XK), RmQ k A → Env0 P w K mg base A outs sh H → BindsTo sh fd ags (ps.zip us) → Vals vs us → sp vs H Q E →
    codeAny (model P w) A (.call (.ref f) ags) (CR CX0 outs P w H sh Q E) sh
theorem FnQ.mono {P : Program} {w : World} {K : PySem.W.Frag} {mg : Str → Option Value} {base : Heap} {j k : Nat} {f : Addr} {fd : FuncData} {ps : List Str} {sp : Sp} (F : FnQ P w K mg base j f fd ps sp) (h : j ≤ k) : FnQ P w K mg base k f fd ps sp :=
  ⟨F.len, fun A outs sh H ags us vs Q E rg => F.run A outs sh H ags us vs Q E (rg.mono h)⟩
/-- the context of such a def's body: something may be handled -/
def cxQ (P : Program) (w : World) (K : PySem.W.Frag) (mg : Str → Option Value) (base : Heap) (N : List Str) (qual : Str) (scope : Scope) (f : Addr) (cd : Value) (A : Around) (outer : List Env) (s : Shared) (H : Hp) (E : XK) : Cx :=
  { cxOf CX0 P w K mg base N qual scope f cd A outer s H E with calm := false }
theorem inv_startQ {P : Program} {w : World} {K : PySem.W.Frag} {mg : Str → Option Value} {base : Heap} {N ps : List Str} {qual : Str} {scope : Scope} {f : Addr} {cd : Value} {A : Around} {outer : List Env} {s s1 : Shared} {H : Hp} {E : XK} {us : List Value} {vs : List V}
    (S : FnScope N ps scope) (e0 : Env0 P w K mg base A outer s H) (hl : vs.length = ps.length) (r : Vals vs us)
    (x : InCallC s s.heap.objs.size (bindL (envOfC qual scope s.heap.objs.size f cd).kindOf (ps.zip us) fun _ => none) (cellsFrom (s.heap.objs.size + 1) scope.names []) (bindC (envOfC qual scope s.heap.objs.size f cd).kindOf (ps.zip us) fun _ => none) s1) :
    Inv (cxQ P w K mg base N qual scope f cd A outer s H E) [] (L2.start N vs) H s1 := by
  have e1 : Env0 P w K mg base { A with handled := none } outer s H := ⟨e0.frames, e0.mod, e0.bs, e0.bsz, e0.funs, e0.frf, e0.hok, e0.bare⟩
  have I : Inv (cxOf CX0 P w K mg base N qual scope f cd { A with handled := none } outer s H E) [] (L2.start N vs) H s1 := inv_start S rfl e1 hl r x
  have o := I.ok
  exact ⟨⟨o.mod, o.kind, o.glob, o.blt, o.above, o.inj, o.has, o.cab, (fun z => nomatch (show false = true from z)), o.frames, o.stk, o.exf, o.bs, o.bsz, o.noex, o.exfs, o.funs, o.frf⟩, I.2, I.3, I.4, I.5, I.6, I.7, I.8, I.9, I.10, I.11⟩
theorem fun_q {P : Program} {w : World} {K : PySem.W.Frag} {mg : Str → Option Value} {base : Heap} {x qual : Str} {st : Stmt} {f : Addr} {fd : FuncData} {N ps : List Str} {k : Nat} {sp : Sp} (Fu : Fun K x qual st f fd) (sc : FnScope N ps (defScope st)) (len : ∀ (vs : List V) (H : Hp) (Q : VK) (E : XK), sp vs H Q E → vs.length = ps.length)
    (body : ∀ (cdv : Value) (A : Around) (outs : List Env) (sh : Shared) (H : Hp) (vs : List V) (Q : VK) (E : XK), RmQ k (A.deeper (envOfC qual (defScope st) sh.heap.objs.size f cdv)) → sp vs H Q E →
      ∃ t, PSs (cxQ P w K mg base N qual (defScope st) f cdv A outs sh H E).nox (defBody st) t ∧ t { nx := fun _ H' => Q .non H', rt := Q } (L2.start N vs) H) : FnQ P w K mg base (k + 1) f fd ps sp := by
  obtain ⟨oc, od, kV, dc, pm, an, cdv, ct, sl, rfl, look, code⟩ := Fu.ex
  refine ⟨len, fun A outs sh H ags us vs Q E rg env0 bnd rel hyp => ?_⟩
  have lenV := len _ _ _ _ hyp
  have kin : K.In sh.heap := env0.mod.kin.keeps fun b o e => (env0.bs b o e).1
  have noLim : sh.heap.NoLimit := env0.mod.nolimit.keeps fun b o e => (env0.bs b o e).1
  have kinds : ∀ y ∈ ps.zip us, (defScope st).names.lookup y.1 = some .local ∨ ((defScope st).names.lookup y.1 = some .cell ∧ ((cellsFrom (sh.heap.objs.size + 1) (defScope st).names []).lookup y.1).isSome = true) := by
    rintro ⟨nm, val⟩ hy
    rcases sc.par nm (List.of_mem_zip hy).1 with z | z
    · exact Or.inl z
    · exact Or.inr ⟨z, PySem.W.cellsFrom_some _ _ _ (Or.inl z)⟩
  refine codeAny_call_function rg.rm.depth (kin _ _ look) rfl sc.co sc.gen rfl (PySem.W.codeRec_of kin code) (bnd _ _ _ _ ?_)
  refine wpAny_newFunctionEnv_cells sc.kind kinds fun env eqn s2 step => ?_
  subst eqn
  refine ⟨noLim.keeps step.toInCall.keep, codeAny_func ?_⟩
  obtain ⟨t, walk, holds⟩ := body cdv A outs sh H vs Q E ⟨rg.rm.deeper _⟩ hyp
  have inv : Inv (cxQ P w K mg base N qual (defScope st) f cdv A outs sh H E) [] (L2.start N vs) H s2 := inv_startQ sc env0 lenV rel step
  refine wpAny_mono (walk.nox.run [] s2 (L2.start N vs) H _ inv holds) (fun flow s3 done => ?_) fun e s3 done => done
  have leave : ∀ {σ3 : L2.St} {H3 : Hp} {v : V} {u : Value}, Inv (cxQ P w K mg base N qual (defScope st) f cdv A outs sh H E) [] σ3 H3 s3 → RelV v u → Q v H3 → CE outs P w H sh Q u s3 := fun {σ3 H3 v u} I3 rv z => ⟨v, H3, I3.os, I3.bare, I3.base, I3.hok, rv, z⟩
  cases flow with
  | ret u =>
    obtain ⟨v, σ3, H3, I3, rv, z⟩ := done
    exact leave I3 rv z
  | next =>
    obtain ⟨σ3, H3, I3, z⟩ := done
    exact leave (v := .non) (u := .none) I3 rfl z
  | brk =>
    obtain ⟨_, _, _, z⟩ := done
    exact z.elim
  | cont =>
    obtain ⟨_, _, _, z⟩ := done
    exact z.elim
theorem fn_dq {P : Program} {w : World} {K : PySem.W.Frag} {mg : Str → Option Value} {base : Heap} {x qual : Str} {st : Stmt} {f : Addr} {fd : FuncData} {N ps : List Str} {k : Nat} {m : MS} (Fu : Fun K x qual st f fd) (sc : FnScope N ps (defScope st))
    (hb : ∀ (cdv : Value) (A : Around) (outer : List Env) (s : Shared) (H : Hp) (E : XK), RmQ k (A.deeper (envOfC qual (defScope st) s.heap.objs.size f cdv)) → DSs (z0 K) (cxQ P w K mg base N qual (defScope st) f cdv A outer s H E).nox (defBody st) m) :
    FnQ P w K mg base (k + 1) f fd ps (spD K ps.length (fnD N.length ps.length m)) := by
  refine fun_q Fu sc (fun vs H Q E h => ?_) (fun cdv A outer s H vs Q E hr h => ?_)
  · obtain ⟨S, dl, rs, Q0, _, _, al, hl, _⟩ := h
    rw [al.length, hl]
  · refine ⟨_, hb cdv A outer s H E hr, ?_⟩
    obtain ⟨S, dl, rs, Q0, up, dk, al, hl, hF, q⟩ := h
    exact ⟨b0 K ⟨S, H, dl, fun _ => none⟩, rs ++ List.replicate (N.length - ps.length) SV.no, S, ⟨fun _ => Q0 (.val .none), Q0, fun _ => False, fun _ => False⟩, start_rel (sc_few sc) up dk al hl, hF,
      ⟨fun e σ' S' H' p R' _ => q _ _ S' H' p R'.w .non, fun r v S' H' p w' ir => q r v S' H' p w' ir, fun _ _ _ _ z => z.elim, fun _ _ _ _ z => z.elim⟩⟩
section
variable {X : Cx}
/-- f(e, ..) -/
theorem pe_callQ {k : Nat} {f : Addr} {fd : FuncData} {ps : List Str} {sp : Sp} {x : Str} {e : Expr} {es : List Expr} {p pos : Pos} {t : TA} (F : FnQ X.prog X.w X.K X.mg X.base k f fd ps sp) (rg : RmQ k X.A) (gl : Gl X x) (mx : X.mg x = some (.ref f)) (kp : PySem.W.keepIn X.K (.ref f) = true) (bd : Binds X.K fd ps [])
    (ar : PA X (e :: es) t) (hdb : (x == ("__debug__" : Str)) = false := by decide) (he : starEach (e :: es) X.env = (false, eval e X.env) :: starEach es X.env := by rfl) (hpl : (backTo pos (starEach es X.env)).any (·.1) = false := by rfl) :
    PE X (.Call (.Name x p) (e :: es) [] pos) (fun σ H Q => t σ H fun vs H1 => sp vs H1 Q E0) := by
  refine ⟨fun pins sh σ H Q I wish => wpAny_Call_Name_kw (ld_glob I gl mx ?_ hdb)⟩
  refine PySem.W.callWith_K (h₀ := X.base) I.ok.mod.kin kp (thn (ar.run pos pins sh σ H _ I wish) fun us s2 ⟨vs, H2, I2, rel, z⟩ => ⟨I2.kIn, ?_⟩) he hpl
  have lenU : (us ++ []).length = ps.length := by rw [List.append_nil, ← rel.length]; exact F.len _ _ _ _ z
  have bnd := bd s2 us I2.kIn lenU
  rw [List.append_nil] at bnd
  refine wpAny_call (codeAny_mono (F.run X.A X.stack s2 H2 ⟨us, []⟩ us vs Q E0 rg I2.env0 bnd rel z) fun res s3 done => ?_)
  cases res with
  | error e => exact pass0 pins σ H2 s2 e s3 I2 done
  | ok flow =>
    cases flow with
    | ret u => exact I2.after done
    | next => exact done.elim
    | brk => exact done.elim
    | cont => exact done.elim
theorem de_callQ {k : Nat} {f : Addr} {fd : FuncData} {ps : List Str} {n : Nat} {F : FS} {x : Str} {e : Expr} {es : List Expr} {p pos : Pos} {ma : MA} (Fk : FnQ X.prog X.w X.K X.mg X.base k f fd ps (spD X.K n F)) (hr : RmQ k X.A) (hg : Gl X x) (hm : X.mg x = some (.ref f)) (hk : PySem.W.keepIn X.K (.ref f) = true) (hb : Binds X.K fd ps [])
    (ha : DA Z X (e :: es) ma) (hdb : (x == ("__debug__" : Str)) = false := by decide) (he : starEach (e :: es) X.env = (false, eval e X.env) :: starEach es X.env := by rfl) (hpl : (backTo pos (starEach es X.env)).any (·.1) = false := by rfl) :
    DE Z X (.Call (.Name x p) (e :: es) [] pos) (mCall n F ma) := (pe_callQ Fk hr hg hm hk hb ha hdb he hpl).wk fun σ H Q ⟨B, env, S, Q0, R, h, k⟩ => by
  refine ⟨B, env, S, _, R, h, fun rs e1 q vs S1 H1 st R1 al => ?_⟩
  show spD X.K n F vs H1 Q E0
  refine ⟨S1, B.deal, rs, _, R1.w.sub, call_deal R1, al, q.1, q.2, fun r v S' H' q2 w' ir => ?_⟩
  obtain ⟨hst, R'⟩ := call_back R1 w'
  exact k r e1 q2 v S' H' (st.trans hst) R' (call_res R st R1 ir)
structure CalQ (P : Program) (w : World) (K : PySem.W.Frag) (mg : Str → Option Value) (base : Heap) (x : Str) (k n : Nat) (F : FS) : Prop where
  ex : ∃ (f : Addr) (fd : FuncData) (ps : List Str), FnQ P w K mg base k f fd ps (spD K n F) ∧ Binds K fd ps [] ∧ mg x = some (.ref f) ∧ PySem.W.keepIn K (.ref f) = true
theorem de_callQC {X : Cx} {k j n : Nat} {F : FS} {x : Str} {e : Expr} {es : List Expr} {p pos : Pos} {ma : MA} (C : CalQ X.prog X.w X.K X.mg X.base x k n F) (hr : RmQ j X.A) (hkj : k ≤ j) (hg : Gl X x)
    (ha : DA Z X (e :: es) ma) (hdb : (x == ("__debug__" : Str)) = false := by decide) (he : starEach (e :: es) X.env = (false, eval e X.env) :: starEach es X.env := by rfl) (hpl : (backTo pos (starEach es X.env)).any (·.1) = false := by rfl) :
    DE Z X (.Call (.Name x p) (e :: es) [] pos) (mCall n F ma) := by
  obtain ⟨f, fd, ps, G, b, m, kp⟩ := C.ex
  exact de_callQ G (hr.mono hkj) hg m kp b ha hdb he hpl
end
end Pq
set_option Elab.async false
set_option linter.all false
set_option maxRecDepth 100000
set_option maxHeartbeats 4000000
set_option pp.maxSteps 700
namespace Pq
open PySem PySem.Spec PyProof.Rows L2
/-! ### exceptions made without arguments; exceptions as values -/
section
variable {X : Cx}
theorem pmk_own0 {C : Addr} {bmB : List Value} {B newId initId : String} {x : Str} {p pos : Pos} (F : ExcBaseFacts B newId initId bmB) (q : PySem.W.excIn X.K C bmB newId = true) (gC : X.mg x = some (.ref C)) (kC : PySem.W.keepIn X.K (.ref C) = true) (r : Raises X (.ref C)) (hg : Gl X x)
    (hdb : (x == ("__debug__" : Str)) = false := by decide) : PMk X (.Call (.Name x p) [] [] pos) (fun _ H Q => Q (.ref C) none H) := by
  intro pins s σ H Q I h
  refine wpAny_Call_Name_kw (ld_glob I hg gC ?_ hdb)
  refine PySem.W.callWith_K0 I.kIn kC ?_
  show wpAny _ _ (call (.ref C) []) _ _ _
  obtain ⟨bm, N, nm, qn, bs, hdct, sn, sub, ab, col, dd, k0, k1, k2, k3, k5, mN, hC, hN, hni, T⟩ := exc_obj I.kIn q
  refine wpAny_call_exc_subT F T hC hN hni (fun h' e hm => ?_) (Nat.zero_le _)
  exact mk_of I hm r h (I.hok.gone hm.new)
def msRaise0 (xx : XX) (x : Str) : MS := fun env _ => xx ⟨x, []⟩ env
theorem dst_raise0 {Z : ZX} {x : Str} {p pos pos2 : Pos} (N : Exn0 X.K X.mg x) (hc : X.calm = true) (tk : Tk Z X) (hg : Gl X x) (hdb : (x == ("__debug__" : Str)) = false := by decide) :
    DSt Z X (.Raise (some (.Call (.Name x p) [] [] pos)) none pos2) (msRaise0 Z.xx x) := by
  obtain ⟨C, bmB, Bn, newId, initId, gC, nC, F, q, kC, sC, tC⟩ := N.ex
  refine (ps_raise hc tk.tk (pmk_own0 F q gC kC (raises_own sC tC) hg hdb)).wk fun D σ H ⟨B, env, S, E, R, h, k⟩ => ?_
  exact B.ok ⟨x, []⟩ env σ S H _ none h (by rw [tk.k]; exact R) (by rw [tk.k]; exact ⟨C, [], nC, rfl, .inl ⟨rfl, rfl⟩, .nil⟩)
end
end Pq
set_option Elab.async false
set_option linter.all false
set_option maxRecDepth 100000
set_option maxHeartbeats 4000000
namespace PySem
open Sem (wp)
open AutoSeq1 (wpAny_loadPart')
theorem meets_enumerate_newT (l : Addr) (items : Array Value) (n : Nat) (dct : Option Addr) (sl : Array (Option Value)) :
    Meets (Builtin.«enumerate.__new__» ⟨[.type "enumerate", .ref l], []⟩) (fun _ R s => s.heap.get? l = some { cls := .type "tuple", dict := dct, data := .seq items n, slots := sl } ∧
      R (.ok (.ret (.ref (s.heap.push { cls := .type "tuple_iterator", data := .fields #[.ref l, .int 0 0] }).objs.size)))
        { s with heap := (s.heap.push { cls := .type "tuple_iterator", data := .fields #[.ref l, .int 0 0] }).push { cls := .type "enumerate", data := .fields #[.none, .bool false, .ref s.heap.objs.size, rawInt 0, .none, .none] } }) :=
  .of_wp fun prog w A R s h => by
    obtain ⟨hp, g, d, tk, os⟩ := s; obtain ⟨hl, h⟩ := h
    have hsub := sub_enumerate
    have hL : Heap.IsTuple (Shared.heap ⟨hp, g, d, tk, os⟩) l items := ⟨_, hl, rfl, n, rfl⟩
    wp_walk using wpAny_loadPart' hl
    refine wpAny_stack_any fun st => wpAny_pure ?_
    split
    · rename_i c _ _ _ _ _
      cases (c == Value.type "enumerate")
      · wp_walk using wpAny_loadPart' hl, wpAny_pyIter_tuple hL
        exact ⟨_, rfl, h⟩
      · wp_walk using wpAny_loadPart' hl, wpAny_pyIter_tuple hL
        exact ⟨_, rfl, h⟩
    · wp_walk using wpAny_loadPart' hl, wpAny_pyIter_tuple hL
      exact ⟨_, rfl, h⟩
section
variable {prog : Program} {w : World} {A : Around} {E : Value → Shared → Prop} {s : Shared}
theorem call_enumerate_tup {l : Addr} {items : Array Value} {Q : Value → Shared → Prop} (hL : s.heap.IsTuple l items)
    (h : ∀ h', IsEnum h' (s.heap.objs.size + 1) s.heap.objs.size 0 .none → h'.IsTupleIter s.heap.objs.size l 0 → h'.objs.size = s.heap.objs.size + 2 →
      (∀ b o, s.heap.get? b = some o → h'.get? b = some o) → Q (.ref (s.heap.objs.size + 1)) { s with heap := h' }) :
    wpAny (model prog w) A (call (.type "enumerate") [.ref l]) Q E s := by
  obtain ⟨⟨c, dct, dt, sl⟩, hl, hc, n, hd⟩ := hL
  replace hc : c = .type "tuple" := hc
  replace hd : dt = .seq items n := hd
  subst hc hd
  refine callType_new F.called_enumerate (by decide) (F.typeCall_enumerate_1 _) (F.newCall_enumerate_1 _) (fun obj => F.args_object_init_2 obj _) F.entry_enumerate_new
    (meets_enumerate_newT l items n dct sl) ⟨hl, ?_⟩
  have hz : (s.heap.push { cls := .type "tuple_iterator", data := .fields #[.ref l, .int 0 0] }).objs.size = s.heap.objs.size + 1 := Heap.size_push ..
  show _ ∧ _
  rw [hz]
  have he : IsEnum ((s.heap.push { cls := .type "tuple_iterator", data := .fields #[.ref l, .int 0 0] }).push
      { cls := .type "enumerate", data := .fields #[.none, .bool false, .ref s.heap.objs.size, rawInt 0, .none, .none] }) (s.heap.objs.size + 1) s.heap.objs.size 0 .none := by
    have := Heap.get?_push_size (s.heap.push { cls := .type "tuple_iterator", data := .fields #[.ref l, .int 0 0] })
      (o := { cls := .type "enumerate", data := .fields #[.none, .bool false, .ref s.heap.objs.size, rawInt 0, .none, .none] }) rfl
    rw [hz] at this; exact this
  refine ⟨⟨_, he, rfl⟩, h _ he ⟨_, Heap.get?_push_of_some _ (Heap.get?_push_size _ rfl), rfl, rfl⟩ (by rw [Heap.size_push, hz]) fun b o x => Heap.get?_push_of_some _ (Heap.get?_push_of_some _ x)⟩
theorem wpAny_pyNext_enum_endT {e it l : Addr} {i : Nat} {items : Array Value} {old : Value} {Q : Option Value → Shared → Prop} (hh : A.handled = none)
    (he : IsEnum s.heap e it i old) (hit : s.heap.IsTupleIter it l i) (hl : s.heap.IsTuple l items) (hx : items[i]? = none)
    (hQ : ∀ h', Heap.ExtBut it s.heap h' → Q none { s with heap := h' }) : wpAny (model prog w) A (pyNext (.ref e)) Q E s := by
  have hT : s.TypeIs (.ref e) "enumerate" := ⟨_, he, rfl⟩
  unfold pyNext
  refine wpAny_bind (wpAny_attempt (wpAny_callSpecial?_slot (name := Str.ofString "__next__") hT F.slot_enumerate_next
    (wpAny_call_entry F.slot_enumerate_next hT F.entry_enumerate_next ?_ (F.args_enumerate_next_1 _))))
  show wpAny _ _ (field (.ref e) 2 >>= _) _ _ _
  refine wpAny_bind (wpAny_field he rfl (x := .ref it) rfl ?_)
  refine wpAny_bind (wpAny_nextOf_tuple_end hh hit hl hx fun h' x he' hx' => ?_)
  obtain ⟨o, ho, hc⟩ := hx'
  refine wpAny_bind (wpAny_isInstance (T := "StopIteration") (b := true) ⟨o, ho, hc⟩ isSubtype_stop ?_)
  exact wpAny_pure (hQ _ he')
end
end PySem
namespace Pq
open PySem PySem.Spec PyProof.Rows L2
def IteT (K : PySem.W.Frag) (a : Addr) : It :=
  ⟨fun i H => ∃ (xs : List V) (x : V), SqT K H a xs ∧ xs[i]? = some x, fun i H v H' => ∃ T x, v = .ref T ∧ H T = none ∧ H' = upd H T (.tup [.int (i : Nat), x]) ∧ ∀ xs, SqT K H a xs → xs[i]? = some x, fun i H => ∃ xs : List V, SqT K H a xs ∧ xs.length ≤ i⟩
theorem turn_enumT {P : Program} {w : World} {K : PySem.W.Frag} {elts : List Expr} {kk : Nat} {tpos : Pos} (a e it : Addr) :
    Turn P w K (.Tuple elts kk tpos) (IteT K a) [e, it] e (fun i h => (∃ old, IsEnum h e it ((i : Nat) : Int) old) ∧ h.IsTupleIter it a i ∧ a ≠ it ∧ a ≠ e ∧ e ≠ it) where
  mem := by simp
  obj := fun i h st b hb => by
    obtain ⟨⟨old, he⟩, ⟨o, ho, hc, hd⟩, _, _, _⟩ := st
    have e' : b = e ∨ b = it := by simpa using hb
    rcases e' with z | z
    · rw [z]; exact ⟨_, he, fun v q => nomatch q⟩
    · rw [z]; exact ⟨o, ho, fun v q => by rw [hd] at q; cases q⟩
  keep := fun i h h' st k => let ⟨⟨old, he⟩, hi, h1, h2, hne⟩ := st; ⟨⟨old, k e (by simp) _ he⟩, hi.at fun o q => k it (by simp) o q, h1, h2, hne⟩
  item := by
    intro X hP hw hK hc i pins s σ H E I hf st hg
    subst hP hw hK
    obtain ⟨⟨old, he⟩, hit, n1, n2, hne⟩ := st
    obtain ⟨xs, x, hq, hx⟩ := hg
    obtain ⟨its, rv, p, hz⟩ := I.tuple hq
    obtain ⟨u, hu, ru⟩ := rv.get hx
    have hel : e < s.heap.objs.size := Heap.lt_size he
    have hil : it < s.heap.objs.size := by obtain ⟨_, q, _⟩ := hit; exact Heap.lt_size q
    have hux : its.toArray[i]? = some u := by simpa using hu
    have hil2 : i < its.toArray.size := (Array.getElem?_eq_some_iff.mp hux).1
    refine wpAny_pyNext_enum_itemD (Draws.tuple (A := X.A.in1) (I.ok.hd hc) it a n1 its.toArray) he ⟨hit, (show s.heap.IsTuple a its.toArray from p)⟩ hil2 hne (by simp only [List.mem_cons, List.not_mem_nil, or_false]; exact fun z => z.elim hne fun z => n2 z.symm) fun x' h' tk hx' ho hit'' hT hsz hk => ?_
    rw [hux] at hx'
    cases hx'
    have hit' := hit''.1
    refine ⟨_, rfl, wpAny_letOwnedTupleGo_enum (s := { s with heap := h', toks := tk + 1 }) ho fun h'' he' sb => ?_⟩
    have hT2 : h''.get? s.heap.objs.size = some { cls := .type "tuple", data := .seq #[.int i tk, u] } := (sb.2 _ (Nat.ne_of_gt hel)).trans hT
    have new : ObjOk X.prog X.w (upd H s.heap.objs.size (.tup [.int (i : Nat), x])) h'' s.heap.objs.size (.tup [.int (i : Nat), x]) :=
      ⟨by show 2 ≤ sizeLine; decide, [.int i tk, u], .cons ⟨_, rfl⟩ (.cons ru .nil), ⟨_, hT2, rfl, _, rfl⟩⟩
    have I1 : Inv X pins σ (upd H s.heap.objs.size (.tup [.int (i : Nat), x])) { s with heap := h'', toks := tk + 1 } :=
      I.turnedNew (ch := [e, it]) (fun b ob hb q => (sb.2 b (fun z => hb (by simp [z]))).trans (hk b ob (fun z => hb (by simp [z])) (fun z => hb (by simp [z])) q)) hf (Nat.le_refl _) new
    refine ⟨.ref s.heap.objs.size, _, I1, rfl, ⟨_, x, rfl, I.hok.fresh (Nat.le_refl _), rfl, fun ys hy => by rw [I.tuple_inj hy hq]; exact hx⟩, ⟨⟨u, ?_⟩, hit'.at fun o q => (sb.2 it (Ne.symm hne)).trans q, n1, n2, hne⟩, fun b hb => ?_⟩
    · have e1 : ((i + 1 : Nat) : Int) = (i : Int) + 1 := by omega
      rw [e1]; exact he'
    · have hb' : b < s.heap.objs.size := by
        have e' : b = e ∨ b = it := by simpa using hb
        rcases e' with z | z
        · rw [z]; exact hel
        · rw [z]; exact hil
      rw [upd_ne (Nat.ne_of_lt hb')]
      exact (hf b hb).1
  done := by
    intro X hP hw hK hc i pins s σ H E I hf st hg
    subst hP hw hK
    obtain ⟨⟨old, he⟩, hit, n1, n2, hne⟩ := st
    obtain ⟨xs, hq, hx⟩ := hg
    obtain ⟨its, rv, p, hz⟩ := I.tuple hq
    obtain ⟨f0, f1, f2, f3, f4, f5⟩ := hf it (by simp)
    have hl := rv.length
    exact wpAny_pyNext_enum_endT (I.ok.hd hc) he hit (show s.heap.IsTuple a its.toArray from p) (by simp; omega) fun h' eb => ⟨rfl, I.turned (t' := s.toks) (fun b o hb q => eb b o hb q) f0 f1 f3 f4 f5⟩
  self := fun A i s Q E st h => let ⟨⟨_, he⟩, _⟩ := st; wpAny_pyIter_enum he h
def iEnumT (K : PySem.W.Frag) (ta : TA) : TI := fun σ H R => ta σ H fun vs H1 => ∃ a xs, vs = [.ref a] ∧ SqT K H1 a xs ∧ R (IteT K a) H1
theorem pi_enumT {X : Cx} {e : Expr} {ta : TA} {p pos tpos : Pos} {elts : List Expr} {kk : Nat} (hg : Gl X "enumerate") (hm : X.mg "enumerate" = none) (ha : PA X [e] ta) (hs : starEach [e] X.env = [(false, eval e X.env)] := by rfl) :
    PI X (.Tuple elts kk tpos) (.Call (.Name "enumerate" p) [e] [] pos) (iEnumT X.K ta) := by
  refine ⟨fun pins s σ H R I h => ?_⟩
  refine Call_ (ld_blt I hg hm boot_enumerate (PyProof.Rows.callWith_type1 (thn (ha.run pos pins s σ H _ I h) fun us s1 ⟨vs, H1, I1, r1, q1⟩ => ?_) hs rfl))
  obtain ⟨a, xs, ex, hq, q⟩ := q1
  subst ex
  cases r1 with
  | cons r rr =>
    cases rr
    cases r
    obtain ⟨its, rv, p', hz⟩ := I1.tuple hq
    refine call_enumerate_tup (show s1.heap.IsTuple a its.toArray from p') fun h' he hit hsz hk => wpAny_pyIter_enum he ?_
    have al : a < s1.heap.objs.size := by
      obtain ⟨o, q, _⟩ := (show s1.heap.IsTuple a its.toArray from p')
      exact Heap.lt_size q
    have I2 : Inv X pins σ H1 { s1 with heap := h' } := I1.kept (t' := s1.toks) hk
    refine ⟨s1.heap.objs.size + 1, [s1.heap.objs.size + 1, s1.heap.objs.size], _, _, H1, rfl, I2, turn_enumT a (s1.heap.objs.size + 1) s1.heap.objs.size, ⟨⟨.none, he⟩, hit, Nat.ne_of_lt al, Nat.ne_of_lt (Nat.lt_succ_of_lt al), Nat.succ_ne_self _⟩, fun b hb => ?_, q⟩
    have e' : b = s1.heap.objs.size + 1 ∨ b = s1.heap.objs.size := by simpa using hb
    have hle : s1.heap.objs.size ≤ b := by
      rcases e' with z | z
      · rw [z]; exact Nat.le_add_right _ _
      · rw [z]; exact Nat.le_refl _
    exact I1.fpOk hle (I1.hok.fresh hle)
section
variable {X : Cx}
def mEnumT (ma : MA) : ML := fun env Q => ma env fun rs e => match rs with
  | [.val (.tuple ds)] => Q (enD 0 ds) e
  | _ => False
theorem di_enumT {a : Expr} {p pos tpos : Pos} {elts : List Expr} {kk : Nat} {ma : MA} (hg : Gl X "enumerate") (hm : X.mg "enumerate" = none) (ha : DA Z X [a] ma) (hs : starEach [a] X.env = [(false, eval a X.env)] := by rfl) : DI Z X (.Tuple elts kk tpos) (.Call (.Name "enumerate" p) [a] [] pos) (mEnumT ma) :=
  PI.wk (pi_enumT hg hm ha hs) fun σ H R ⟨B, env, S, Q0, hR, hm, k⟩ => ⟨B, env, S, _, hR, hm, fun rs e1 q vs S1 H1 st R1 al => by
    split at q
    · obtain ⟨v, r, rfl, p1, r2⟩ := al
      cases (show r = [] from r2)
      cases p1 with
      | tup hs hd =>
        refine ⟨_, _, rfl, (PlT.up R1.w.sub hs).sq, k _ e1 q S1 H1 _ st R1 fun S2 H2 e w => ?_⟩
        have h1 : SqT X.K H2 _ _ := (PlT.up w.sub (PlT.up e hs)).sq
        refine ⟨fun i d hi => ?_, fun i hi => ⟨_, h1, by rw [hd.length]; rw [enD_len] at hi; exact hi⟩⟩
        obtain ⟨d', hd', rfl⟩ := enD_get hi
        obtain ⟨v, hv, dv⟩ := hd.get hd'
        refine ⟨⟨_, v, h1, hv⟩, fun x H3 y => ?_⟩
        obtain ⟨T, x', rfl, hT, rfl, hx⟩ := y
        have ex := hx _ h1
        rw [hv] at ex
        cases ex
        have e0 : (0 + i : Nat) = i := Nat.zero_add i
        rw [e0]
        exact yield_pair w hT (.int _) (Dq.up e _ _ dv)
    · exact q.elim⟩
end
end Pq
set_option Elab.async false
set_option linter.all false
set_option maxRecDepth 100000
set_option maxHeartbeats 4000000
namespace K34
open PySem PySem.Spec PyProof.Rows L2 Pq Lb
def top (i : Nat) : Stmt := PySem.Challenge.pw_pairedthrows_k34_rows_between_ladders.main.body.getD i (.Pass ⟨0, 0, 0, 0⟩)
abbrev s_divisor : Stmt := top 10
abbrev N_divisor : List Str := ["one", "other"]
theorem sc_divisor : FnScope N_divisor ["one", "other"] (defScope s_divisor) := ⟨rfl, rfl, rfl, by decide +kernel, rfl, by decide +kernel, by decide +kernel⟩
abbrev s_lowest : Stmt := top 11
abbrev N_lowest : List Str := ["top", "bottom", "by"]
theorem sc_lowest : FnScope N_lowest ["top", "bottom"] (defScope s_lowest) := ⟨rfl, rfl, rfl, by decide +kernel, rfl, by decide +kernel, by decide +kernel⟩
abbrev s_added : Stmt := top 12
abbrev N_added : List Str := ["one", "other"]
theorem sc_added : FnScope N_added ["one", "other"] (defScope s_added) := ⟨rfl, rfl, rfl, by decide +kernel, rfl, by decide +kernel, by decide +kernel⟩
abbrev s_times : Stmt := top 13
abbrev N_times : List Str := ["one", "other"]
theorem sc_times : FnScope N_times ["one", "other"] (defScope s_times) := ⟨rfl, rfl, rfl, by decide +kernel, rfl, by decide +kernel, by decide +kernel⟩
abbrev s_power : Stmt := top 14
abbrev N_power : List Str := ["one", "k", "found", "turn"]
theorem sc_power : FnScope N_power ["one", "k"] (defScope s_power) := ⟨rfl, rfl, rfl, by decide +kernel, rfl, by decide +kernel, by decide +kernel⟩
abbrev s_less : Stmt := top 15
abbrev N_less : List Str := ["one", "other"]
theorem sc_less : FnScope N_less ["one", "other"] (defScope s_less) := ⟨rfl, rfl, rfl, by decide +kernel, rfl, by decide +kernel, by decide +kernel⟩
abbrev s_merged : Stmt := top 17
abbrev N_merged : List Str := ["pairs", "found", "answer", "share"]
theorem sc_merged : FnScope N_merged ["pairs"] (defScope s_merged) := ⟨rfl, rfl, rfl, by decide +kernel, rfl, by decide +kernel, by decide +kernel⟩
abbrev s_on_itself : Stmt := top 19
abbrev N_on_itself : List Str := ["a", "b", "is_end", "p", "q", "r", "t"]
theorem sc_on_itself : FnScope N_on_itself ["a", "b", "is_end"] (defScope s_on_itself) := ⟨rfl, rfl, rfl, by decide +kernel, rfl, by decide +kernel, by decide +kernel⟩
def M_on_itself : MS := (msSeq (msAsg (toD (mVar 0)) (mgTup 2 (mgCons (mgName 3) (mgCons (mgName 4) mgNil))))
    (msSeq (msAsg (toD (mVar 1)) (mgTup 2 (mgCons (mgName 5) (mgCons (mgName 6) mgNil))))
    (msSeq (msIf (mTest (toD (mVar 2))) (msRet (mCall 2 F_lowest (maCons (mBin fSub (toD (mBin fMul (mPk 4) (mPk 6))) (toD (mBin fMul (mPk 3) (mPk 5)))) (maCons (mBin fMul (mPk 4) (mPk 6)) maNil)))) msNext)
    (msRet (mCall 2 F_lowest (maCons (mBin fSub (toD (mBin fAdd (toD (mBin fMul (toD (mBin fMul (mPk 4) (mPk 4))) (mPk 6))) (toD (mBin fMul (toD (mBin fMul (mPk 3) (mPk 3))) (mPk 6))))) (toD (mBin fMul (toD (mBin fMul (toD (mBin fMul (mC (.int 2)) (mPk 3))) (mPk 4))) (mPk 5)))) (maCons (mBin fMul (toD (mBin fMul (mPk 4) (mPk 4))) (mPk 6)) maNil)))))))
abbrev F_on_itself : FS := fnD 7 3 M_on_itself
abbrev s_on_another : Stmt := top 20
abbrev N_on_another : List Str := ["a", "b", "is_end", "k", "p", "q", "r", "t", "found"]
theorem sc_on_another : FnScope N_on_another ["a", "b", "is_end", "k"] (defScope s_on_another) := ⟨rfl, rfl, rfl, by decide +kernel, rfl, by decide +kernel, by decide +kernel⟩
def M_on_another : MS := (msSeq (msAsg (toD (mVar 0)) (mgTup 2 (mgCons (mgName 4) (mgCons (mgName 5) mgNil))))
    (msSeq (msAsg (toD (mVar 1)) (mgTup 2 (mgCons (mgName 6) (mgCons (mgName 7) mgNil))))
    (msSeq (msSet 8 (mCall 2 F_times (maCons (mCall 2 F_power (maCons (mVar 1) (maCons (mBin fSub (mPk 3) (mC (.int 1))) maNil))) (maCons (mCall 2 F_lowest (maCons (mBin fSub (toD (mBin fMul (mPk 6) (mPk 5))) (toD (mBin fMul (mPk 4) (mPk 7)))) (maCons (mBin fMul (mPk 7) (mPk 5)) maNil))) maNil))))
    (msSeq (msIf (mTest (toD (mVar 2))) (msRet (mVar 8)) msNext)
    (msRet (mCall 2 F_times (maCons (mVar 8) (maCons (mCall 2 F_lowest (maCons (mBin fSub (toD (mBin fMul (mPk 5) (mPk 7))) (toD (mBin fMul (mPk 4) (mPk 6)))) (maCons (mBin fMul (mPk 5) (mPk 7)) maNil))) maNil))))))))
abbrev F_on_another : FS := fnD 9 4 M_on_another
abbrev s_row_between : Stmt := top 21
abbrev N_row_between : List Str := ["a", "b", "low", "high", "y", "p", "q", "r", "t", "is_end", "by_row", "found", "z", "share"]
theorem sc_row_between : FnScope N_row_between ["a", "b", "low", "high", "y"] (defScope s_row_between) := ⟨rfl, rfl, rfl, by decide +kernel, rfl, by decide +kernel, by decide +kernel⟩
def M_row_between : MS := (msSeq (msAsg (toD (mVar 0)) (mgTup 2 (mgCons (mgName 5) (mgCons (mgName 6) mgNil))))
    (msSeq (msAsg (toD (mVar 1)) (mgTup 2 (mgCons (mgName 7) (mgCons (mgName 8) mgNil))))
    (msSeq (msSet 9 (mBin (fIn false) (mPk 4) (mTup (maCons (mVar 2) (maCons (mVar 3) maNil)))))
    (msSeq (msSet 10 (mCall 2 F_power (maCons (mCall 2 F_lowest (maCons (mVar 6) (maCons (mBin fSub (mPk 6) (mPk 5)) maNil))) (maCons (mBin fSub (mC (.int 2)) (toD (mCB fInt (mlCons (mPk 9) mlNil)))) maNil))))
    (msSeq (msSet 11 (mLst maNil))
    (msSeq (msFor (mRg2 (mlCons (mPk 2) (mlCons (toD (mBin fAdd (mPk 3) (mC (.int 1)))) mlNil))) (mgName 12) (msSeq (msSet 13 (mCall 3 F_on_itself (maCons (mVar 0) (maCons (mVar 1) (maCons (mVar 9) maNil)))))
    (msSeq (msIf (mTest (toD (mBin fNe (mPk 12) (mPk 4)))) (msSet 13 (mCall 4 F_on_another (maCons (mVar 0) (maCons (mVar 1) (maCons (mVar 9) (maCons (mCB fAbs (mlCons (toD (mBin fSub (mPk 12) (mPk 4))) mlNil)) maNil)))))) msNext)
    (msSeq (msIf (mTest (toD (mBin (fIn true) (mPk 12) (mTup (maCons (mVar 2) (maCons (mVar 3) maNil)))))) (msSet 13 (mCall 2 F_times (maCons (mVar 13) (maCons (mCall 2 F_lowest (maCons (mBin fSub (mPk 8) (mPk 7)) (maCons (mVar 8) maNil))) maNil)))) msNext)
    (msApp 11 (mTup (maCons (mVar 12) (maCons (mCall 2 F_times (maCons (mCall 2 F_times (maCons (mVar 13) (maCons (mVar 10) maNil))) (maCons (mCall 2 F_lowest (maCons (mVar 8) (maCons (mBin fAdd (mPk 8) (mPk 7)) maNil))) maNil))) maNil))))))))
    (msRet (mCall 1 F_merged (maCons (mVar 11) maNil)))))))))
abbrev F_row_between : FS := fnD 14 5 M_row_between
abbrev s_rows_between : Stmt := top 22
abbrev N_rows_between : List Str := ["a", "b", "low", "high", "y"]
theorem sc_rows_between : FnScope N_rows_between ["a", "b", "low", "high"] (defScope s_rows_between) := ⟨rfl, rfl, rfl, by decide +kernel, rfl, by decide +kernel, by decide +kernel⟩
def MX_rows_between (xx : XX) : MS := (msSeq (msIf (mTest (toD (mCall 2 F_less (maCons (mVar 1) (maCons (mVar 0) maNil))))) (msRaise0 xx "NoRows") msNext)
    (msSeq (msIf (mTest (toD (mBin fEq (mPk 2) (mPk 3)))) (msRet (toE (mTup (maCons (toE (mTup (maCons (toE (mTup (maCons (mVar 2) (maCons (toE (mTup (maCons (toE (mC (.int 1))) (maCons (toE (mC (.int 1))) maNil)))) maNil)))) maNil))) maNil)))) msNext)
    (msRet (mCB fTuple (mlCons (toD (mLc [4] (mRg2 (mlCons (mPk 2) (mlCons (toD (mBin fAdd (mPk 3) (mC (.int 1)))) mlNil))) (mgName 4) mYes (mCall 5 F_row_between (maCons (mVar 0) (maCons (mVar 1) (maCons (mVar 2) (maCons (mVar 3) (maCons (mVar 4) maNil)))))))) mlNil)))))
abbrev FX_rows_between : FX := fnX 5 4 MX_rows_between
abbrev s_law_deal : Stmt := top 24
abbrev N_law_deal : List Str := ["_law_script", "_law_base", "_law_cell", "_law_cells", "_law_number"]
theorem sc_law_deal : FnScope N_law_deal ["_law_script", "_law_base"] (defScope s_law_deal) := ⟨rfl, rfl, rfl, by decide +kernel, rfl, by decide +kernel, by decide +kernel⟩
abbrev s_law_draw : Stmt := top 25
abbrev N_law_draw : List Str := ["_law_deal_here", "_law_many", "_law_number", "_law_one", "_law_other"]
theorem sc_law_draw : FnScope N_law_draw ["_law_deal_here", "_law_many"] (defScope s_law_draw) := ⟨rfl, rfl, rfl, by decide +kernel, rfl, by decide +kernel, by decide +kernel⟩
abbrev s_law_lowest : Stmt := top 26
abbrev N_law_lowest : List Str := ["_law_top", "_law_bottom", "_law_one", "_law_other"]
theorem sc_law_lowest : FnScope N_law_lowest ["_law_top", "_law_bottom"] (defScope s_law_lowest) := ⟨rfl, rfl, rfl, by decide +kernel, rfl, by decide +kernel, by decide +kernel⟩
abbrev s_law_steepness : Stmt := top 27
abbrev N_law_steepness : List Str := ["_law_deal_here", "_law_most", "_law_q"]
theorem sc_law_steepness : FnScope N_law_steepness ["_law_deal_here", "_law_most"] (defScope s_law_steepness) := ⟨rfl, rfl, rfl, by decide +kernel, rfl, by decide +kernel, by decide +kernel⟩
def M_law_steepness : MS := (msSeq (msSet 2 (mBin fAdd (mC (.int 2)) (toD (mCall 2 F_law_draw (maCons (mVar 0) (maCons (toE (mC (.int 8))) maNil))))))
    (msRet (mCall 2 F_law_lowest (maCons (mBin fAdd (mC (.int 1)) (toD (mCall 2 F_law_draw (maCons (mVar 0) (maCons (mBin fIx (toD (mLst (maCons (mBin fSub (mPk 2) (mC (.int 1))) (maCons (mBin fDiv (mPk 2) (mC (.int 2))) maNil)))) (toD (mBin fSub (mPk 1) (mC (.int 1))))) maNil))))) (maCons (mVar 2) maNil)))))
abbrev F_law_steepness : FS := fnD 3 2 M_law_steepness
abbrev s_law_power : Stmt := top 28
abbrev N_law_power : List Str := ["_law_number", "_law_many", "_law_found", "_law_turn"]
theorem sc_law_power : FnScope N_law_power ["_law_number", "_law_many"] (defScope s_law_power) := ⟨rfl, rfl, rfl, by decide +kernel, rfl, by decide +kernel, by decide +kernel⟩
abbrev s_law_ladder : Stmt := top 29
abbrev N_law_ladder : List Str := ["_law_steepness_here", "_law_low", "_law_high", "_law_n", "_law_p", "_law_q", "_law_found", "_law_y", "_law_k"]
theorem sc_law_ladder : FnScope N_law_ladder ["_law_steepness_here", "_law_low", "_law_high", "_law_n"] (defScope s_law_ladder) := ⟨rfl, rfl, rfl, by decide +kernel, rfl, by decide +kernel, by decide +kernel⟩
def M_law_ladder : MS := (msSeq (msAsg (toD (mVar 0)) (mgTup 2 (mgCons (mgName 4) (mgCons (mgName 5) mgNil))))
    (msSeq (msIf (mTest (toD (mBin fEq (mPk 1) (mPk 2)))) (msRet (mLst (maCons (toE (mTup (maCons (toE (mC (.int 1))) (maCons (toE (mC (.int 1))) maNil)))) maNil))) msNext)
    (msSeq (msSet 6 (mLst maNil))
    (msSeq (msFor (mRg2 (mlCons (mPk 1) (mlCons (toD (mBin fAdd (mPk 2) (mC (.int 1)))) mlNil))) (mgName 7) (msSeq (msSet 8 (mCB fAbs (mlCons (toD (mBin fSub (mPk 7) (mPk 3))) mlNil)))
    (msApp 6 (mTup (maCons (mBin fMul (toD (mBin fIx (toD (mLst (maCons (mBin fSub (mPk 5) (mPk 4)) (maCons (mVar 5) maNil)))) (toD (mCB fInt (mlCons (toD (mBin (fIn false) (mPk 7) (mTup (maCons (mVar 1) (maCons (mVar 2) maNil))))) mlNil))))) (toD (mCall 2 F_law_power (maCons (mVar 4) (maCons (mVar 8) maNil))))) (maCons (mBin fMul (toD (mBin fAdd (mPk 5) (mPk 4))) (toD (mCall 2 F_law_power (maCons (mVar 5) (maCons (mVar 8) maNil))))) maNil))))))
    (msRet (mVar 6))))))
abbrev F_law_ladder : FS := fnD 9 4 M_law_ladder
abbrev s_law_is_table : Stmt := top 30
abbrev N_law_is_table : List Str := ["_law_table", "_law_low", "_law_high", "_law_y", "_law_share", "_law_top", "_law_bottom", "_law_one"]
theorem sc_law_is_table : FnScope N_law_is_table ["_law_table", "_law_low", "_law_high"] (defScope s_law_is_table) := ⟨rfl, rfl, rfl, by decide +kernel, rfl, by decide +kernel, by decide +kernel⟩
def M_law_is_table : MS := (msSeq (msIf (mOr (mNot (mTest (mIsi "tuple" (mPk 0)))) (mNot (mTest (toD (mCB fAll (mlCons (toD (mLc [7] (mItems (toD (mVar 0))) (mgName 7) mYes (toE (mAndV (mIsi "tuple" (mPk 7)) (toD (mBin fEq (toD (mCB fLen (mlCons (mPk 7) mlNil))) (mC (.int 2)))))))) mlNil)))))) (msRet (toE (mC (.bool false)))) msNext)
    (msSeq (msIf (mTest (toD (mBin fNe (toD (mLc [3, 4] (mItems (toD (mVar 0))) (mgTup 2 (mgCons (mgName 3) (mgCons (mgName 4) mgNil))) mYes (mVar 3))) (toD (mLc [3] (mRg2 (mlCons (mPk 1) (mlCons (toD (mBin fAdd (mPk 2) (mC (.int 1)))) mlNil))) (mgName 3) (mTest (toD (mBin (fIn false) (mPk 3) (toD (mLc [7] (mItems (toD (mVar 0))) (mgName 7) mYes (mBin fIx (mPk 7) (mC (.int 0)))))))) (mVar 3)))))) (msRet (toE (mC (.bool false)))) msNext)
    (msSeq (msAsg (mTup (maCons (toE (mC (.int 0))) (maCons (toE (mC (.int 1))) maNil))) (mgTup 2 (mgCons (mgName 5) (mgCons (mgName 6) mgNil))))
    (msSeq (msFor (mItems (toD (mVar 0))) (mgTup 2 (mgCons (mgName 3) (mgCons (mgName 4) mgNil))) (msSeq (msIf (mOr (mTest (mIsi "bool" (mPk 3))) (mOr (mNot (mTest (mIsi "tuple" (mPk 4)))) (mOr (mTest (toD (mBin fNe (toD (mCB fLen (mlCons (mPk 4) mlNil))) (mC (.int 2))))) (mTest (toD (mBin fLt (toD (mCB fMin1 (mlCons (mPk 4) mlNil))) (mC (.int 1)))))))) (msRet (toE (mC (.bool false)))) msNext)
    (msSeq (msIf (mOr (mNot (mTest (toD (mCB fAll (mlCons (toD (mLc [7] (mItems (toD (mVar 4))) (mgName 7) mYes (toE (mIsi "int" (mPk 7))))) mlNil))))) (mTest (toD (mBin fNe (toD (mCall 2 F_law_lowest (maCons (mBin fIx (mPk 4) (mC (.int 0))) (maCons (mBin fIx (mPk 4) (mC (.int 1))) maNil)))) (mPk 4))))) (msRet (toE (mC (.bool false)))) msNext)
    (msPar 5 6 (maCons (mBin fAdd (toD (mBin fMul (mPk 5) (toD (mBin fIx (mPk 4) (mC (.int 1)))))) (toD (mBin fMul (toD (mBin fIx (mPk 4) (mC (.int 0)))) (mPk 6)))) (maCons (mBin fMul (mPk 6) (toD (mBin fIx (mPk 4) (mC (.int 1))))) maNil))))))
    (msRet (mBin fEq (mPk 5) (mPk 6)))))))
abbrev F_law_is_table : FS := fnD 8 3 M_law_is_table
abbrev s_law_refused : Stmt := top 31
abbrev N_law_refused : List Str := ["_law_e", "_law_others"]
theorem sc_law_refused : FnScope N_law_refused ["_law_e"] (defScope s_law_refused) := ⟨rfl, rfl, rfl, by decide +kernel, rfl, by decide +kernel, by decide +kernel⟩
def M_law_refused : MS := (msSeq (msSet 1 (toE (mIsXT [("NoRows", false)] (mPk 0))))
    (msRet (toE (mAndV (mIsX [("NoRows", true)] (mPk 0)) (mAndV (mIsX [("NoRows", true)] (mPk 0)) (mAndV (mIsX [("NoRows", true)] (mPk 0)) (mNotV (toD (mVar 1)))))))))
abbrev F_law_refused : FS := fnD 2 1 M_law_refused
abbrev s_law_told : Stmt := top 32
abbrev N_law_told : List Str := ["_law_a", "_law_b", "_law_low", "_law_high", "_law_found", "_law_e"]
theorem sc_law_told : FnScope N_law_told ["_law_a", "_law_b", "_law_low", "_law_high"] (defScope s_law_told) := ⟨rfl, rfl, rfl, by decide +kernel, rfl, by decide +kernel, by decide +kernel⟩
def M_law_told : MS := (msSeq (msSet 4 (toE (mC (.str "another refusal"))))
    (msSeq (msTry 5 ["NoRows"] (fun xt2 => (msSet 4 (mCallX 4 FX_rows_between xt2 (maCons (mVar 0) (maCons (mVar 1) (maCons (mVar 2) (maCons (mVar 3) maNil))))))) (msIf (mTest (toD (mCall 1 F_law_refused (maCons (mVar 5) maNil)))) (msSet 4 (toE (mC (.str "refused")))) msNext))
    (msRet (mVar 4))))
abbrev F_law_told : FS := fnD 6 4 M_law_told
abbrev s_law_comes : Stmt := top 33
abbrev N_law_comes : List Str := ["_law_first", "_law_rows", "_law_second", "_law_low", "_law_high", "_law_z", "_law_top", "_law_bottom", "_law_k", "_law_row", "_law_rung", "_law_share", "_law_one", "_law_other"]
theorem sc_law_comes : FnScope N_law_comes ["_law_first", "_law_rows", "_law_second", "_law_low", "_law_high"] (defScope s_law_comes) := ⟨rfl, rfl, rfl, by decide +kernel, rfl, by decide +kernel, by decide +kernel⟩
def M_law_comes : MS := (msSeq (msFor (mRg2 (mlCons (mPk 3) (mlCons (toD (mBin fAdd (mPk 4) (mC (.int 1)))) mlNil))) (mgName 5) (msSeq (msAsg (mTup (maCons (toE (mC (.int 0))) (maCons (toE (mC (.int 1))) maNil))) (mgTup 2 (mgCons (mgName 6) (mgCons (mgName 7) mgNil))))
    (msSeq (msFor (mEnumT (maCons (mVar 1) maNil)) (mgTup 2 (mgCons (mgName 8) (mgCons (mgName 9) mgNil))) (msFor (mItems (toD (mVar 9))) (mgTup 2 (mgCons (mgName 10) (mgCons (mgName 11) mgNil))) (msIf (mTest (toD (mBin fEq (mPk 10) (mPk 5)))) (msSeq (msPar 12 13 (maCons (mBin fMul (toD (mBin fIx (toD (mBin fIx (mPk 0) (mPk 8))) (mC (.int 0)))) (toD (mBin fIx (mPk 11) (mC (.int 0))))) (maCons (mBin fMul (toD (mBin fIx (toD (mBin fIx (mPk 0) (mPk 8))) (mC (.int 1)))) (toD (mBin fIx (mPk 11) (mC (.int 1))))) maNil)))
    (msPar 6 7 (maCons (mBin fAdd (toD (mBin fMul (mPk 6) (mPk 13))) (toD (mBin fMul (mPk 12) (mPk 7)))) (maCons (mBin fMul (mPk 7) (mPk 13)) maNil)))) msNext)))
    (msIf (mTest (toD (mBin fNe (toD (mBin fMul (mPk 6) (toD (mBin fIx (toD (mBin fIx (mPk 2) (toD (mBin fSub (mPk 5) (mPk 3))))) (mC (.int 1)))))) (toD (mBin fMul (toD (mBin fIx (toD (mBin fIx (mPk 2) (toD (mBin fSub (mPk 5) (mPk 3))))) (mC (.int 0)))) (mPk 7)))))) (msRet (toE (mC (.bool false)))) msNext))))
    (msRet (toE (mC (.bool true)))))
abbrev F_law_comes : FS := fnD 14 5 M_law_comes
abbrev s_law_right : Stmt := top 34
abbrev N_law_right : List Str := ["_law_a", "_law_b", "_law_low", "_law_high", "_law_rows", "_law_n", "_law_row"]
theorem sc_law_right : FnScope N_law_right ["_law_a", "_law_b", "_law_low", "_law_high"] (defScope s_law_right) := ⟨rfl, rfl, rfl, by decide +kernel, rfl, by decide +kernel, by decide +kernel⟩
def M_law_right : MS := (msSeq (msSet 4 (mCall 4 F_law_told (maCons (mVar 0) (maCons (mVar 1) (maCons (mVar 2) (maCons (mVar 3) maNil))))))
    (msSeq (msIf (mTest (toD (mBin fGt (toD (mBin fMul (toD (mBin fIx (mPk 0) (mC (.int 0)))) (toD (mBin fIx (mPk 1) (mC (.int 1)))))) (toD (mBin fMul (toD (mBin fIx (mPk 1) (mC (.int 0)))) (toD (mBin fIx (mPk 0) (mC (.int 1))))))))) (msRet (mBin fEq (mPk 4) (mC (.str "refused")))) msNext)
    (msSeq (msIf (mOr (mNot (mTest (mIsi "tuple" (mPk 4)))) (mTest (toD (mBin fNe (toD (mCB fLen (mlCons (mPk 4) mlNil))) (toD (mBin fAdd (toD (mBin fSub (mPk 3) (mPk 2))) (mC (.int 1)))))))) (msRet (toE (mC (.bool false)))) msNext)
    (msSeq (msIf (mNot (mTest (toD (mCB fAll (mlCons (toD (mLc [6] (mItems (toD (mVar 4))) (mgName 6) mYes (mCall 3 F_law_is_table (maCons (mVar 6) (maCons (mVar 2) (maCons (mVar 3) maNil)))))) mlNil))))) (msRet (toE (mC (.bool false)))) msNext)
    (msSeq (msFor (mRg2 (mlCons (mPk 2) (mlCons (toD (mBin fAdd (mPk 3) (mC (.int 1)))) mlNil))) (mgName 5) (msIf (mNot (mTest (toD (mCall 5 F_law_comes (maCons (mCall 4 F_law_ladder (maCons (mVar 0) (maCons (mVar 2) (maCons (mVar 3) (maCons (mVar 5) maNil))))) (maCons (mVar 4) (maCons (mCall 4 F_law_ladder (maCons (mVar 1) (maCons (mVar 2) (maCons (mVar 3) (maCons (mVar 5) maNil))))) (maCons (mVar 2) (maCons (mVar 3) maNil))))))))) (msRet (toE (mC (.bool false)))) msNext))
    (msRet (toE (mC (.bool true)))))))))
abbrev F_law_right : FS := fnD 7 4 M_law_right
abbrev s_law : Stmt := top 35
abbrev N_law : List Str := ["_law_script", "_law_deal_here", "_law_a", "_law_b", "_law_low", "_law_high", "_law_other", "_law_end", "_law_some", "_law_one", "_law_two", "_law_least", "_law_most"]
theorem sc_law : FnScope N_law ["_law_script"] (defScope s_law) := ⟨rfl, rfl, rfl, by decide +kernel, rfl, by decide +kernel, by decide +kernel⟩
def M_law : MS := (msSeq (msSet 2 (mCall 2 F_law_steepness (maCons (mVar 1) (maCons (toE (mC (.int 1))) maNil))))
    (msSeq (msSet 3 (mCall 2 F_law_steepness (maCons (mVar 1) (maCons (toE (mC (.int 1))) maNil))))
    (msSeq (msIf (mAnd (mTest (toD (mBin fGt (toD (mBin fMul (toD (mBin fIx (mPk 2) (mC (.int 0)))) (toD (mBin fIx (mPk 3) (mC (.int 1)))))) (toD (mBin fMul (toD (mBin fIx (mPk 3) (mC (.int 0)))) (toD (mBin fIx (mPk 2) (mC (.int 1))))))))) (mTest (toD (mBin fGt (toD (mCall 2 F_law_draw (maCons (mVar 1) (maCons (toE (mC (.int 4))) maNil)))) (mC (.int 0)))))) (msPar 2 3 (maCons (mVar 3) (maCons (mVar 2) maNil))) msNext)
    (msSeq (msSet 4 (mCall 2 F_law_draw (maCons (mVar 1) (maCons (toE (mC (.int 10))) maNil))))
    (msSeq (msSet 5 (mBin fAdd (mPk 4) (toD (mCall 2 F_law_draw (maCons (mVar 1) (maCons (mCB fMin2 (mlCons (toD (mBin fSub (mC (.int 10)) (mPk 4))) (mlCons (toD (mBin fIx (toD (mLst (maCons (toE (mC (.int 3))) (maCons (toE (mC (.int 5))) (maCons (toE (mC (.int 10))) maNil))))) (toD (mCall 2 F_law_draw (maCons (mVar 1) (maCons (toE (mC (.int 3))) maNil)))))) mlNil))) maNil))))))
    (msSeq (msSet 6 (mCall 2 F_law_steepness (maCons (mVar 1) (maCons (toE (mC (.int 1))) maNil))))
    (msSeq (msSet 7 (mBin fAdd (mPk 4) (toD (mCall 2 F_law_draw (maCons (mVar 1) (maCons (mCB fMin2 (mlCons (toD (mBin fSub (mC (.int 10)) (mPk 4))) (mlCons (mC (.int 4)) mlNil))) maNil))))))
    (msSeq (msSet 8 (mLst (maCons (toE (mTup (maCons (mVar 2) (maCons (mVar 3) (maCons (mVar 4) (maCons (mVar 5) maNil)))))) (maCons (toE (mTup (maCons (mVar 2) (maCons (mVar 3) (maCons (mVar 4) (maCons (mVar 7) maNil)))))) (maCons (toE (mTup (maCons (mVar 2) (maCons (mVar 6) (maCons (mVar 4) (maCons (mVar 7) maNil)))))) maNil)))))
    (msSeq (msSet 8 (mBin fAdd (mPk 8) (toD (mLst (maCons (toE (mTup (maCons (mVar 6) (maCons (mVar 3) (maCons (mCB fMax2 (mlCons (mC (.int 0)) (mlCons (toD (mBin fSub (mPk 7) (mC (.int 3)))) mlNil))) (maCons (mVar 7) maNil)))))) (maCons (toE (mTup (maCons (mVar 3) (maCons (mVar 2) (maCons (mVar 4) (maCons (mVar 7) maNil)))))) maNil))))))
    (msRet (mCB fAll (mlCons (toD (mLc [9, 10, 11, 12] (mItems (toD (mBin fAdd (mPk 8) (toD (mSl (mPk 8) moNone (moSome (mC (.int 1)))))))) (mgTup 4 (mgCons (mgName 9) (mgCons (mgName 10) (mgCons (mgName 11) (mgCons (mgName 12) mgNil))))) mYes (mCall 4 F_law_right (maCons (mVar 9) (maCons (mVar 10) (maCons (mVar 11) (maCons (mVar 12) maNil))))))) mlNil))))))))))))
structure Tx (K : PySem.W.Frag) (mg : Str → Option Value) : Prop where
  b_ValueError : mg "ValueError" = none
  b_abs : mg "abs" = none
  b_all : mg "all" = none
  b_bool : mg "bool" = none
  b_enumerate : mg "enumerate" = none
  b_int : mg "int" = none
  b_isinstance : mg "isinstance" = none
  b_len : mg "len" = none
  b_list : mg "list" = none
  b_max : mg "max" = none
  b_min : mg "min" = none
  b_range : mg "range" = none
  b_reversed : mg "reversed" = none
  b_sorted : mg "sorted" = none
  b_tuple : mg "tuple" = none
  ix_NoRows : IsX K mg "NoRows" [("NoRows", true)]
  ix_ThrowError : IsX K mg "ThrowError" [("NoRows", true)]
  ib_ValueError : IsXB K "ValueError" [("NoRows", true)]
  it_0 : IsXT K mg ["NoFit", "NoPaper", "NoProgram", "NoRow", "NoText", "TooMany"] [("NoRows", false)]
  h_ThrowError : Hdl K mg "ThrowError" ["NoRows"]
section
variable {P : Program} {w : World} {K : PySem.W.Frag} {mg : Str → Option Value} {base : Heap}
theorem ok_divisor (T : Tx K mg)  {f : Addr} {fd : FuncData} (Fu : Fun K "divisor" "divisor" s_divisor f fd) (mf : mg "divisor" = some (.ref f)) (bf : Binds K fd ["one", "other"] []) : Cal P w K mg base "divisor" 1 2 F_divisor :=
  ⟨f, fd, _, fn_d Fu sc_divisor fun cdv A outer s H E hr =>
  (dss_cons (dst_while PassesOwn.never (dt_cmp od_gt (dp_var 1) (dp_s ds_int)) (dss_one (dst_par rfl sc_divisor.nd (da_cons (de_var 1) (da_cons (de_bin od_mod (dp_var 0) (dp_var 1)) da_nil)) (by rfl))))
    (dss_one (dst_ret (de_var 0)))), bf, mf, Fu.kp⟩
theorem ok_lowest (T : Tx K mg) (C_divisor : Cal P w K mg base "divisor" 1 2 F_divisor) {f : Addr} {fd : FuncData} (Fu : Fun K "lowest" "lowest" s_lowest f fd) (mf : mg "lowest" = some (.ref f)) (bf : Binds K fd ["top", "bottom"] []) : Cal P w K mg base "lowest" 2 2 F_lowest :=
  ⟨f, fd, _, fn_d Fu sc_lowest fun cdv A outer s H E hr =>
  (dss_cons (dst_set sc_lowest.nd (de_callC C_divisor hr (by decide) (by rfl) (da_cons (de_var 0) (da_cons (de_var 1) da_nil))))
    (dss_one (dst_ret (de_s (ds_tup (da_cons (de_bin od_div (dp_var 0) (dp_var 2)) (da_cons (de_bin od_div (dp_var 1) (dp_var 2)) da_nil))))))), bf, mf, Fu.kp⟩
theorem ok_added (T : Tx K mg) (C_lowest : Cal P w K mg base "lowest" 2 2 F_lowest) {f : Addr} {fd : FuncData} (Fu : Fun K "added" "added" s_added f fd) (mf : mg "added" = some (.ref f)) (bf : Binds K fd ["one", "other"] []) : Cal P w K mg base "added" 3 2 F_added :=
  ⟨f, fd, _, fn_d Fu sc_added fun cdv A outer s H E hr =>
  (dss_one (dst_ret (de_callC C_lowest hr (by decide) (by rfl) (da_cons (de_bin od_add (dp_e (de_bin od_mul (dp_e (de_ix hr.u1 (dp_var 0) (dp_s ds_int))) (dp_e (de_ix hr.u1 (dp_var 1) (dp_s ds_int))))) (dp_e (de_bin od_mul (dp_e (de_ix hr.u1 (dp_var 1) (dp_s ds_int))) (dp_e (de_ix hr.u1 (dp_var 0) (dp_s ds_int)))))) (da_cons (de_bin od_mul (dp_e (de_ix hr.u1 (dp_var 0) (dp_s ds_int))) (dp_e (de_ix hr.u1 (dp_var 1) (dp_s ds_int)))) da_nil))))), bf, mf, Fu.kp⟩
theorem ok_times (T : Tx K mg) (C_lowest : Cal P w K mg base "lowest" 2 2 F_lowest) {f : Addr} {fd : FuncData} (Fu : Fun K "times" "times" s_times f fd) (mf : mg "times" = some (.ref f)) (bf : Binds K fd ["one", "other"] []) : Cal P w K mg base "times" 3 2 F_times :=
  ⟨f, fd, _, fn_d Fu sc_times fun cdv A outer s H E hr =>
  (dss_one (dst_ret (de_callC C_lowest hr (by decide) (by rfl) (da_cons (de_bin od_mul (dp_e (de_ix hr.u1 (dp_var 0) (dp_s ds_int))) (dp_e (de_ix hr.u1 (dp_var 1) (dp_s ds_int)))) (da_cons (de_bin od_mul (dp_e (de_ix hr.u1 (dp_var 0) (dp_s ds_int))) (dp_e (de_ix hr.u1 (dp_var 1) (dp_s ds_int)))) da_nil))))), bf, mf, Fu.kp⟩
theorem ok_power (T : Tx K mg)  {f : Addr} {fd : FuncData} (Fu : Fun K "power" "power" s_power f fd) (mf : mg "power" = some (.ref f)) (bf : Binds K fd ["one", "k"] []) : Cal P w K mg base "power" 1 2 F_power :=
  ⟨f, fd, _, fn_d Fu sc_power fun cdv A outer s H E hr =>
  (dss_cons (dst_set sc_power.nd (de_s (ds_tup (da_cons (de_s ds_int) (da_cons (de_s ds_int) da_nil)))))
    (dss_cons (dst_for PassesOwn.never rfl (di_rg1 (by rfl) T.b_range (dps_cons (dp_var 1) dps_nil)) (dg_name sc_power.nd) (dss_one (dst_set sc_power.nd (de_s (ds_tup (da_cons (de_bin od_mul (dp_e (de_ix hr.u1 (dp_var 2) (dp_s ds_int))) (dp_e (de_ix hr.u1 (dp_var 0) (dp_s ds_int)))) (da_cons (de_bin od_mul (dp_e (de_ix hr.u1 (dp_var 2) (dp_s ds_int))) (dp_e (de_ix hr.u1 (dp_var 0) (dp_s ds_int)))) da_nil)))))))
    (dss_one (dst_ret (de_var 2))))), bf, mf, Fu.kp⟩
theorem ok_less (T : Tx K mg)  {f : Addr} {fd : FuncData} (Fu : Fun K "less" "less" s_less f fd) (mf : mg "less" = some (.ref f)) (bf : Binds K fd ["one", "other"] []) : Cal P w K mg base "less" 1 2 F_less :=
  ⟨f, fd, _, fn_d Fu sc_less fun cdv A outer s H E hr =>
  (dss_one (dst_ret (de_cmp od_lt (dp_e (de_bin od_mul (dp_e (de_ix hr.u1 (dp_var 0) (dp_s ds_int))) (dp_e (de_ix hr.u1 (dp_var 1) (dp_s ds_int))))) (dp_e (de_bin od_mul (dp_e (de_ix hr.u1 (dp_var 1) (dp_s ds_int))) (dp_e (de_ix hr.u1 (dp_var 0) (dp_s ds_int)))))))), bf, mf, Fu.kp⟩
theorem ok_merged (T : Tx K mg) (C_added : Cal P w K mg base "added" 3 2 F_added) {f : Addr} {fd : FuncData} (Fu : Fun K "merged" "merged" s_merged f fd) (mf : mg "merged" = some (.ref f)) (bf : Binds K fd ["pairs"] []) : Cal P w K mg base "merged" 4 1 F_merged :=
  ⟨f, fd, _, fn_d Fu sc_merged fun cdv A outer s H E hr =>
  (dss_cons (dst_set sc_merged.nd de_dict)
    (dss_cons (dst_for PassesOwn.never rfl (di_any (ds_e (de_var 0))) (dg_tup rfl (dgs_cons (dg_name sc_merged.nd) (dgs_cons (dg_name sc_merged.nd) dgs_nil))) (dss_one (dst_put 1 hr.u1 (dp_var 2) (ds_e (de_callC C_added hr (by decide) (by rfl) (da_cons (de_s (de_get2 hr.u1 (dp_var 1) (dp_var 2) (ds_tup (da_cons (de_s ds_int) (da_cons (de_s ds_int) da_nil))))) (da_cons (de_var 3) da_nil)))))))
    (dss_one (dst_ret (de_ct cd_tuple (by rfl) T.b_tuple (by decide +kernel) (dps_cons (dp_e (de_lc (own := [("answer", 2)]) rfl sc_merged.nd (di_any (ds_e (de_cb (cd_sorted rfl (hu65 hr)) (by rfl) T.b_sorted (by decide +kernel) (dps_cons (dp_var 1) dps_nil)))) (blkOk_by (N := N_merged) (sc := defScope s_merged) (by decide +kernel)) (fun _ _ _ _ _ => (dg_name sc_merged.nd)) (fun _ _ _ _ _ => (dts_one (dt_cmp (od_ne (hu64 hr.rm)) (dp_e (de_ix hr.u1 (dp_var 1) (dp_var 2))) (dp_s (ds_tup (da_cons (de_s ds_int) (da_cons (de_s ds_int) da_nil))))))) (fun _ _ _ _ _ => (de_s (ds_tup (da_cons (de_var 2) (da_cons (de_ix hr.u1 (dp_var 1) (dp_var 2)) da_nil))))))) dps_nil)))))), bf, mf, Fu.kp⟩
theorem ok_on_itself (T : Tx K mg) (C_lowest : Cal P w K mg base "lowest" 2 2 F_lowest) {f : Addr} {fd : FuncData} (Fu : Fun K "on_itself" "on_itself" s_on_itself f fd) (mf : mg "on_itself" = some (.ref f)) (bf : Binds K fd ["a", "b", "is_end"] []) : Cal P w K mg base "on_itself" 3 3 F_on_itself :=
  ⟨f, fd, _, fn_d Fu sc_on_itself fun cdv A outer s H E hr =>
  (dss_cons (dst_asg (ds_e (de_var 0)) (dg_tup rfl (dgs_cons (dg_name sc_on_itself.nd) (dgs_cons (dg_name sc_on_itself.nd) dgs_nil))))
    (dss_cons (dst_asg (ds_e (de_var 1)) (dg_tup rfl (dgs_cons (dg_name sc_on_itself.nd) (dgs_cons (dg_name sc_on_itself.nd) dgs_nil))))
    (dss_cons (dst_if (dt_val (ds_e (de_var 2))) (dss_one (dst_ret (de_callC C_lowest hr (by decide) (by rfl) (da_cons (de_bin od_sub (dp_e (de_bin od_mul (dp_var 4) (dp_var 6))) (dp_e (de_bin od_mul (dp_var 3) (dp_var 5)))) (da_cons (de_bin od_mul (dp_var 4) (dp_var 6)) da_nil))))) dss_nil)
    (dss_one (dst_ret (de_callC C_lowest hr (by decide) (by rfl) (da_cons (de_bin od_sub (dp_e (de_bin od_add (dp_e (de_bin od_mul (dp_e (de_bin od_mul (dp_var 4) (dp_var 4))) (dp_var 6))) (dp_e (de_bin od_mul (dp_e (de_bin od_mul (dp_var 3) (dp_var 3))) (dp_var 6))))) (dp_e (de_bin od_mul (dp_e (de_bin od_mul (dp_e (de_bin od_mul (dp_s ds_int) (dp_var 3))) (dp_var 4))) (dp_var 5)))) (da_cons (de_bin od_mul (dp_e (de_bin od_mul (dp_var 4) (dp_var 4))) (dp_var 6)) da_nil)))))))), bf, mf, Fu.kp⟩
theorem ok_on_another (T : Tx K mg) (C_times : Cal P w K mg base "times" 3 2 F_times) (C_lowest : Cal P w K mg base "lowest" 2 2 F_lowest) (C_power : Cal P w K mg base "power" 1 2 F_power) {f : Addr} {fd : FuncData} (Fu : Fun K "on_another" "on_another" s_on_another f fd) (mf : mg "on_another" = some (.ref f)) (bf : Binds K fd ["a", "b", "is_end", "k"] []) : Cal P w K mg base "on_another" 4 4 F_on_another :=
  ⟨f, fd, _, fn_d Fu sc_on_another fun cdv A outer s H E hr =>
  (dss_cons (dst_asg (ds_e (de_var 0)) (dg_tup rfl (dgs_cons (dg_name sc_on_another.nd) (dgs_cons (dg_name sc_on_another.nd) dgs_nil))))
    (dss_cons (dst_asg (ds_e (de_var 1)) (dg_tup rfl (dgs_cons (dg_name sc_on_another.nd) (dgs_cons (dg_name sc_on_another.nd) dgs_nil))))
    (dss_cons (dst_set sc_on_another.nd (de_callC C_times hr (by decide) (by rfl) (da_cons (de_callC C_power hr (by decide) (by rfl) (da_cons (de_var 1) (da_cons (de_bin od_sub (dp_var 3) (dp_s ds_int)) da_nil))) (da_cons (de_callC C_lowest hr (by decide) (by rfl) (da_cons (de_bin od_sub (dp_e (de_bin od_mul (dp_var 6) (dp_var 5))) (dp_e (de_bin od_mul (dp_var 4) (dp_var 7)))) (da_cons (de_bin od_mul (dp_var 7) (dp_var 5)) da_nil))) da_nil))))
    (dss_cons (dst_if (dt_val (ds_e (de_var 2))) (dss_one (dst_ret (de_var 8))) dss_nil)
    (dss_one (dst_ret (de_callC C_times hr (by decide) (by rfl) (da_cons (de_var 8) (da_cons (de_callC C_lowest hr (by decide) (by rfl) (da_cons (de_bin od_sub (dp_e (de_bin od_mul (dp_var 5) (dp_var 7))) (dp_e (de_bin od_mul (dp_var 4) (dp_var 6)))) (da_cons (de_bin od_mul (dp_var 5) (dp_var 7)) da_nil))) da_nil))))))))), bf, mf, Fu.kp⟩
theorem ok_row_between (T : Tx K mg) (C_power : Cal P w K mg base "power" 1 2 F_power) (C_lowest : Cal P w K mg base "lowest" 2 2 F_lowest) (C_on_itself : Cal P w K mg base "on_itself" 3 3 F_on_itself) (C_on_another : Cal P w K mg base "on_another" 4 4 F_on_another) (C_times : Cal P w K mg base "times" 3 2 F_times) (C_merged : Cal P w K mg base "merged" 4 1 F_merged) {f : Addr} {fd : FuncData} (Fu : Fun K "row_between" "row_between" s_row_between f fd) (mf : mg "row_between" = some (.ref f)) (bf : Binds K fd ["a", "b", "low", "high", "y"] []) : Cal P w K mg base "row_between" 5 5 F_row_between :=
  ⟨f, fd, _, fn_d Fu sc_row_between fun cdv A outer s H E hr =>
  (dss_cons (dst_asg (ds_e (de_var 0)) (dg_tup rfl (dgs_cons (dg_name sc_row_between.nd) (dgs_cons (dg_name sc_row_between.nd) dgs_nil))))
    (dss_cons (dst_asg (ds_e (de_var 1)) (dg_tup rfl (dgs_cons (dg_name sc_row_between.nd) (dgs_cons (dg_name sc_row_between.nd) dgs_nil))))
    (dss_cons (dst_set sc_row_between.nd (de_cmp (od_in (hu65 hr)) (dp_var 4) (dp_s (ds_tup (da_cons (de_var 2) (da_cons (de_var 3) da_nil))))))
    (dss_cons (dst_set sc_row_between.nd (de_callC C_power hr (by decide) (by rfl) (da_cons (de_callC C_lowest hr (by decide) (by rfl) (da_cons (de_var 6) (da_cons (de_bin od_sub (dp_var 6) (dp_var 5)) da_nil))) (da_cons (de_bin od_sub (dp_s ds_int) (dp_e (de_ct cd_int (by rfl) T.b_int (by decide +kernel) (dps_cons (dp_var 9) dps_nil)))) da_nil))))
    (dss_cons (dst_set sc_row_between.nd (de_lst da_nil))
    (dss_cons (dst_for PassesOwn.never rfl (di_rg2 (by rfl) T.b_range (dps_cons (dp_var 2) (dps_cons (dp_e (de_bin od_add (dp_var 3) (dp_s ds_int))) dps_nil))) (dg_name sc_row_between.nd) (dss_cons (dst_set sc_row_between.nd (de_callC C_on_itself hr (by decide) (by rfl) (da_cons (de_var 0) (da_cons (de_var 1) (da_cons (de_var 9) da_nil)))))
    (dss_cons (dst_if (dt_cmp (od_ne (hu64 hr.rm)) (dp_var 12) (dp_var 4)) (dss_one (dst_set sc_row_between.nd (de_callC C_on_another hr (by decide) (by rfl) (da_cons (de_var 0) (da_cons (de_var 1) (da_cons (de_var 9) (da_cons (de_cb cd_abs (by rfl) T.b_abs (by decide +kernel) (dps_cons (dp_e (de_bin od_sub (dp_var 12) (dp_var 4))) dps_nil)) da_nil))))))) dss_nil)
    (dss_cons (dst_if (dt_cmp (od_notin (hu65 hr)) (dp_var 12) (dp_s (ds_tup (da_cons (de_var 2) (da_cons (de_var 3) da_nil))))) (dss_one (dst_set sc_row_between.nd (de_callC C_times hr (by decide) (by rfl) (da_cons (de_var 13) (da_cons (de_callC C_lowest hr (by decide) (by rfl) (da_cons (de_bin od_sub (dp_var 8) (dp_var 7)) (da_cons (de_var 8) da_nil))) da_nil))))) dss_nil)
    (dss_one (dst_app 11 (ds_tup (da_cons (de_var 12) (da_cons (de_callC C_times hr (by decide) (by rfl) (da_cons (de_callC C_times hr (by decide) (by rfl) (da_cons (de_var 13) (da_cons (de_var 10) da_nil))) (da_cons (de_callC C_lowest hr (by decide) (by rfl) (da_cons (de_var 8) (da_cons (de_bin od_add (dp_var 8) (dp_var 7)) da_nil))) da_nil))) da_nil)))))))))
    (dss_one (dst_ret (de_callC C_merged hr (by decide) (by rfl) (da_cons (de_var 11) da_nil)))))))))), bf, mf, Fu.kp⟩
theorem okX_rows_between (T : Tx K mg) (C_less : Cal P w K mg base "less" 1 2 F_less) (N_NoRows : Exn0 K mg "NoRows") (C_row_between : Cal P w K mg base "row_between" 5 5 F_row_between) {f : Addr} {fd : FuncData} (Fu : Fun K "rows_between" "rows_between" s_rows_between f fd) (mf : mg "rows_between" = some (.ref f)) (bf : Binds K fd ["a", "b", "low", "high"] []) : CalX P w K mg base "rows_between" 6 4 FX_rows_between :=
  ⟨f, fd, _, fn_x (funX_of Fu) sc_rows_between fun Z cdv A outer s H E tk po hr =>
  (dss_cons (dst_if (dt_val (ds_e (de_callC C_less hr (by decide) (by rfl) (da_cons (de_var 1) (da_cons (de_var 0) da_nil))))) (dss_one (dst_raise0 N_NoRows rfl tk (by rfl))) dss_nil)
    (dss_cons (dst_if (dt_cmp (od_eq (hu64 hr.rm)) (dp_var 2) (dp_var 3)) (dss_one (dst_ret (de_s (ds_tup (da_cons (de_s (ds_tup (da_cons (de_s (ds_tup (da_cons (de_var 2) (da_cons (de_s (ds_tup (da_cons (de_s ds_int) (da_cons (de_s ds_int) da_nil)))) da_nil)))) da_nil))) da_nil))))) dss_nil)
    (dss_one (dst_ret (de_ct cd_tuple (by rfl) T.b_tuple (by decide +kernel) (dps_cons (dp_e (de_lc (own := [("y", 4)]) rfl sc_rows_between.nd (di_rg2 (by rfl) T.b_range (dps_cons (dp_var 2) (dps_cons (dp_e (de_bin od_add (dp_var 3) (dp_s ds_int))) dps_nil))) (blkOk_by (N := N_rows_between) (sc := defScope s_rows_between) (by decide +kernel)) (fun _ _ _ _ _ => (dg_name sc_rows_between.nd)) (fun _ _ _ _ _ => dts_nil) (fun _ _ _ _ _ => (de_callC C_row_between hr (by decide) (by rfl) (da_cons (de_var 0) (da_cons (de_var 1) (da_cons (de_var 2) (da_cons (de_var 3) (da_cons (de_var 4) da_nil))))))))) dps_nil)))))), bf, mf, Fu.kp⟩
theorem ok_law_lowest (T : Tx K mg)  {f : Addr} {fd : FuncData} (Fu : Fun K "_law_lowest" "_law_lowest" s_law_lowest f fd) (mf : mg "_law_lowest" = some (.ref f)) (bf : Binds K fd ["_law_top", "_law_bottom"] []) : Cal P w K mg base "_law_lowest" 1 2 F_law_lowest :=
  ⟨f, fd, _, fn_d Fu sc_law_lowest fun cdv A outer s H E hr =>
  (dss_cons (dst_par rfl sc_law_lowest.nd (da_cons (de_var 0) (da_cons (de_var 1) da_nil)) (by rfl))
    (dss_cons (dst_while PassesOwn.never (dt_cmp od_gt (dp_var 3) (dp_s ds_int)) (dss_one (dst_par rfl sc_law_lowest.nd (da_cons (de_var 3) (da_cons (de_bin od_mod (dp_var 2) (dp_var 3)) da_nil)) (by rfl))))
    (dss_one (dst_ret (de_s (ds_tup (da_cons (de_bin od_div (dp_var 0) (dp_var 2)) (da_cons (de_bin od_div (dp_var 1) (dp_var 2)) da_nil)))))))), bf, mf, Fu.kp⟩
theorem ok_law_steepness (T : Tx K mg) (C_law_draw : Cal P w K mg base "_law_draw" 2 2 F_law_draw) (C_law_lowest : Cal P w K mg base "_law_lowest" 1 2 F_law_lowest) {f : Addr} {fd : FuncData} (Fu : Fun K "_law_steepness" "_law_steepness" s_law_steepness f fd) (mf : mg "_law_steepness" = some (.ref f)) (bf : Binds K fd ["_law_deal_here", "_law_most"] []) : Cal P w K mg base "_law_steepness" 3 2 F_law_steepness :=
  ⟨f, fd, _, fn_d Fu sc_law_steepness fun cdv A outer s H E hr =>
  (dss_cons (dst_set sc_law_steepness.nd (de_bin od_add (dp_s ds_int) (dp_e (de_callC C_law_draw hr (by decide) (by rfl) (da_cons (de_var 0) (da_cons (de_s ds_int) da_nil))))))
    (dss_one (dst_ret (de_callC C_law_lowest hr (by decide) (by rfl) (da_cons (de_bin od_add (dp_s ds_int) (dp_e (de_callC C_law_draw hr (by decide) (by rfl) (da_cons (de_var 0) (da_cons (de_ix hr.u1 (dp_e (de_lst (da_cons (de_bin od_sub (dp_var 2) (dp_s ds_int)) (da_cons (de_bin od_div (dp_var 2) (dp_s ds_int)) da_nil)))) (dp_e (de_bin od_sub (dp_var 1) (dp_s ds_int)))) da_nil))))) (da_cons (de_var 2) da_nil)))))), bf, mf, Fu.kp⟩
theorem ok_law_power (T : Tx K mg)  {f : Addr} {fd : FuncData} (Fu : Fun K "_law_power" "_law_power" s_law_power f fd) (mf : mg "_law_power" = some (.ref f)) (bf : Binds K fd ["_law_number", "_law_many"] []) : Cal P w K mg base "_law_power" 1 2 F_law_power :=
  ⟨f, fd, _, fn_d Fu sc_law_power fun cdv A outer s H E hr =>
  (dss_cons (dst_set sc_law_power.nd (de_s ds_int))
    (dss_cons (dst_for PassesOwn.never rfl (di_rg1 (by rfl) T.b_range (dps_cons (dp_var 1) dps_nil)) (dg_name sc_law_power.nd) (dss_one (dst_set sc_law_power.nd (de_bin od_mul (dp_var 2) (dp_var 0)))))
    (dss_one (dst_ret (de_var 2))))), bf, mf, Fu.kp⟩
theorem ok_law_ladder (T : Tx K mg) (C_law_power : Cal P w K mg base "_law_power" 1 2 F_law_power) {f : Addr} {fd : FuncData} (Fu : Fun K "_law_ladder" "_law_ladder" s_law_ladder f fd) (mf : mg "_law_ladder" = some (.ref f)) (bf : Binds K fd ["_law_steepness_here", "_law_low", "_law_high", "_law_n"] []) : Cal P w K mg base "_law_ladder" 2 4 F_law_ladder :=
  ⟨f, fd, _, fn_d Fu sc_law_ladder fun cdv A outer s H E hr =>
  (dss_cons (dst_asg (ds_e (de_var 0)) (dg_tup rfl (dgs_cons (dg_name sc_law_ladder.nd) (dgs_cons (dg_name sc_law_ladder.nd) dgs_nil))))
    (dss_cons (dst_if (dt_cmp (od_eq (hu64 hr.rm)) (dp_var 1) (dp_var 2)) (dss_one (dst_ret (de_lst (da_cons (de_s (ds_tup (da_cons (de_s ds_int) (da_cons (de_s ds_int) da_nil)))) da_nil)))) dss_nil)
    (dss_cons (dst_set sc_law_ladder.nd (de_lst da_nil))
    (dss_cons (dst_for PassesOwn.never rfl (di_rg2 (by rfl) T.b_range (dps_cons (dp_var 1) (dps_cons (dp_e (de_bin od_add (dp_var 2) (dp_s ds_int))) dps_nil))) (dg_name sc_law_ladder.nd) (dss_cons (dst_set sc_law_ladder.nd (de_cb cd_abs (by rfl) T.b_abs (by decide +kernel) (dps_cons (dp_e (de_bin od_sub (dp_var 7) (dp_var 3))) dps_nil)))
    (dss_one (dst_app 6 (ds_tup (da_cons (de_bin od_mul (dp_e (de_ix hr.u1 (dp_e (de_lst (da_cons (de_bin od_sub (dp_var 5) (dp_var 4)) (da_cons (de_var 5) da_nil)))) (dp_e (de_ct cd_int (by rfl) T.b_int (by decide +kernel) (dps_cons (dp_e (de_cmp (od_in (hu65 hr)) (dp_var 7) (dp_s (ds_tup (da_cons (de_var 1) (da_cons (de_var 2) da_nil)))))) dps_nil))))) (dp_e (de_callC C_law_power hr (by decide) (by rfl) (da_cons (de_var 4) (da_cons (de_var 8) da_nil))))) (da_cons (de_bin od_mul (dp_e (de_bin od_add (dp_var 5) (dp_var 4))) (dp_e (de_callC C_law_power hr (by decide) (by rfl) (da_cons (de_var 5) (da_cons (de_var 8) da_nil))))) da_nil)))))))
    (dss_one (dst_ret (de_var 6))))))), bf, mf, Fu.kp⟩
theorem ok_law_is_table (T : Tx K mg) (C_law_lowest : Cal P w K mg base "_law_lowest" 1 2 F_law_lowest) {f : Addr} {fd : FuncData} (Fu : Fun K "_law_is_table" "_law_is_table" s_law_is_table f fd) (mf : mg "_law_is_table" = some (.ref f)) (bf : Binds K fd ["_law_table", "_law_low", "_law_high"] []) : Cal P w K mg base "_law_is_table" 2 3 F_law_is_table :=
  ⟨f, fd, _, fn_d Fu sc_law_is_table fun cdv A outer s H E hr =>
  (dss_cons (dst_if (PW.pt (dw_or (dt_not (dt_val (ds_isi (by rfl) T.b_isinstance (by rfl) T.b_tuple (by decide +kernel) (dp_var 0)))) (dw_or1 (dt_not (dt_val (ds_e (de_cb (cd_all rfl) (by rfl) T.b_all (by decide +kernel) (dps_cons (dp_e (de_lc (own := [("_law_one", 7)]) rfl sc_law_is_table.nd (di_any (ds_e (de_var 0))) (blkOk_by (N := N_law_is_table) (sc := defScope s_law_is_table) (by decide +kernel)) (fun _ _ _ _ _ => (dg_name sc_law_is_table.nd)) (fun _ _ _ _ _ => dts_nil) (fun _ _ _ _ _ => (de_s (ds_and (ds_isi (by rfl) T.b_isinstance (by rfl) T.b_tuple (by decide +kernel) (dp_var 7)) (ds_one (ds_e (de_cmp (od_eq (hu64 hr.rm)) (dp_e (de_cb cd_len (by rfl) T.b_len (by decide +kernel) (dps_cons (dp_var 7) dps_nil))) (dp_s ds_int))))))))) dps_nil)))))))) (dss_one (dst_ret (de_s ds_bl))) dss_nil)
    (dss_cons (dst_if (dt_cmp (od_ne (hu64 hr.rm)) (dp_e (de_lc (own := [("_law_y", 3), ("_law_share", 4)]) rfl sc_law_is_table.nd (di_any (ds_e (de_var 0))) (blkOk_by (N := N_law_is_table) (sc := defScope s_law_is_table) (by decide +kernel)) (fun _ _ _ _ _ => (dg_tup rfl (dgs_cons (dg_name sc_law_is_table.nd) (dgs_cons (dg_name sc_law_is_table.nd) dgs_nil)))) (fun _ _ _ _ _ => dts_nil) (fun _ _ _ _ _ => (de_var 3)))) (dp_e (de_lc (own := [("_law_y", 3)]) rfl sc_law_is_table.nd (di_rg2 (by rfl) T.b_range (dps_cons (dp_var 1) (dps_cons (dp_e (de_bin od_add (dp_var 2) (dp_s ds_int))) dps_nil))) (blkOk_by (N := N_law_is_table) (sc := defScope s_law_is_table) (by decide +kernel)) (fun _ _ _ _ _ => (dg_name sc_law_is_table.nd)) (fun _ _ _ _ _ => (dts_one (dt_cmp (od_in (hu65 hr)) (dp_var 3) (dp_e (de_lc (own := [("_law_one", 7)]) rfl sc_law_is_table.nd (di_any (ds_e (de_var 0))) (by exact blkOk_by (by rfl)) (fun _ _ _ _ _ => (dg_name sc_law_is_table.nd)) (fun _ _ _ _ _ => dts_nil) (fun _ _ _ _ _ => (de_ix hr.u1 (dp_var 7) (dp_s ds_int)))))))) (fun _ _ _ _ _ => (de_var 3))))) (dss_one (dst_ret (de_s ds_bl))) dss_nil)
    (dss_cons (dst_asg (ds_tup (da_cons (de_s ds_int) (da_cons (de_s ds_int) da_nil))) (dg_tup rfl (dgs_cons (dg_name sc_law_is_table.nd) (dgs_cons (dg_name sc_law_is_table.nd) dgs_nil))))
    (dss_cons (dst_for PassesOwn.never rfl (di_any (ds_e (de_var 0))) (dg_tup rfl (dgs_cons (dg_name sc_law_is_table.nd) (dgs_cons (dg_name sc_law_is_table.nd) dgs_nil))) (dss_cons (dst_if (PW.pt (dw_or (dt_val (ds_isi (by rfl) T.b_isinstance (by rfl) T.b_bool (by decide +kernel) (dp_var 3))) (dw_or (dt_not (dt_val (ds_isi (by rfl) T.b_isinstance (by rfl) T.b_tuple (by decide +kernel) (dp_var 4)))) (dw_or (dt_cmp (od_ne (hu64 hr.rm)) (dp_e (de_cb cd_len (by rfl) T.b_len (by decide +kernel) (dps_cons (dp_var 4) dps_nil))) (dp_s ds_int)) (dw_or1 (dt_cmp od_lt (dp_e (de_cb (cd_min1 rfl) (by rfl) T.b_min (by decide +kernel) (dps_cons (dp_var 4) dps_nil))) (dp_s ds_int))))))) (dss_one (dst_ret (de_s ds_bl))) dss_nil)
    (dss_cons (dst_if (PW.pt (dw_or (dt_not (dt_val (ds_e (de_cb (cd_all rfl) (by rfl) T.b_all (by decide +kernel) (dps_cons (dp_e (de_lc (own := [("_law_one", 7)]) rfl sc_law_is_table.nd (di_any (ds_e (de_var 4))) (blkOk_by (N := N_law_is_table) (sc := defScope s_law_is_table) (by decide +kernel)) (fun _ _ _ _ _ => (dg_name sc_law_is_table.nd)) (fun _ _ _ _ _ => dts_nil) (fun _ _ _ _ _ => (de_s (ds_isi (by rfl) T.b_isinstance (by rfl) T.b_int (by decide +kernel) (dp_var 7)))))) dps_nil))))) (dw_or1 (dt_cmp (od_ne (hu64 hr.rm)) (dp_e (de_callC C_law_lowest hr (by decide) (by rfl) (da_cons (de_ix hr.u1 (dp_var 4) (dp_s ds_int)) (da_cons (de_ix hr.u1 (dp_var 4) (dp_s ds_int)) da_nil)))) (dp_var 4))))) (dss_one (dst_ret (de_s ds_bl))) dss_nil)
    (dss_one (dst_par rfl sc_law_is_table.nd (da_cons (de_bin od_add (dp_e (de_bin od_mul (dp_var 5) (dp_e (de_ix hr.u1 (dp_var 4) (dp_s ds_int))))) (dp_e (de_bin od_mul (dp_e (de_ix hr.u1 (dp_var 4) (dp_s ds_int))) (dp_var 6)))) (da_cons (de_bin od_mul (dp_var 6) (dp_e (de_ix hr.u1 (dp_var 4) (dp_s ds_int)))) da_nil)) (by rfl))))))
    (dss_one (dst_ret (de_cmp (od_eq (hu64 hr.rm)) (dp_var 5) (dp_var 6)))))))), bf, mf, Fu.kp⟩
theorem ok_law_refused (T : Tx K mg)  {f : Addr} {fd : FuncData} (Fu : Fun K "_law_refused" "_law_refused" s_law_refused f fd) (mf : mg "_law_refused" = some (.ref f)) (bf : Binds K fd ["_law_e"] []) : Cal P w K mg base "_law_refused" 1 1 F_law_refused :=
  ⟨f, fd, _, fn_d Fu sc_law_refused fun cdv A outer s H E hr =>
  (dss_cons (dst_set sc_law_refused.nd (de_s (ds_isxT (by rfl) T.b_isinstance (.cons (by rfl) (by decide) (by rfl) (.cons (by rfl) (by decide) (by rfl) (.cons (by rfl) (by decide) (by rfl) (.cons (by rfl) (by decide) (by rfl) (.cons (by rfl) (by decide) (by rfl) (.cons (by rfl) (by decide) (by rfl) .nil)))))) (by decide) T.it_0 (dp_var 0))))
    (dss_one (dst_ret (de_s (ds_and (ds_isx (by rfl) T.b_isinstance (by rfl) T.ix_NoRows (dp_var 0)) (ds_and (ds_isx (by rfl) T.b_isinstance (by rfl) T.ix_ThrowError (dp_var 0)) (ds_and (ds_isxB (by rfl) T.b_isinstance (by rfl) T.b_ValueError (by decide +kernel) T.ib_ValueError (dp_var 0)) (ds_one (ds_not (ds_e (de_var 1))))))))))), bf, mf, Fu.kp⟩
theorem okQ_law_refused (T : Tx K mg)  {f : Addr} {fd : FuncData} (Fu : Fun K "_law_refused" "_law_refused" s_law_refused f fd) (mf : mg "_law_refused" = some (.ref f)) (bf : Binds K fd ["_law_e"] []) : CalQ P w K mg base "_law_refused" 1 1 F_law_refused :=
  ⟨f, fd, _, fn_dq Fu sc_law_refused fun cdv A outer s H E hr =>
  (dss_cons (dst_set sc_law_refused.nd (de_s (ds_isxT (by rfl) T.b_isinstance (.cons (by rfl) (by decide) (by rfl) (.cons (by rfl) (by decide) (by rfl) (.cons (by rfl) (by decide) (by rfl) (.cons (by rfl) (by decide) (by rfl) (.cons (by rfl) (by decide) (by rfl) (.cons (by rfl) (by decide) (by rfl) .nil)))))) (by decide) T.it_0 (dp_var 0))))
    (dss_one (dst_ret (de_s (ds_and (ds_isx (by rfl) T.b_isinstance (by rfl) T.ix_NoRows (dp_var 0)) (ds_and (ds_isx (by rfl) T.b_isinstance (by rfl) T.ix_ThrowError (dp_var 0)) (ds_and (ds_isxB (by rfl) T.b_isinstance (by rfl) T.b_ValueError (by decide +kernel) T.ib_ValueError (dp_var 0)) (ds_one (ds_not (ds_e (de_var 1))))))))))), bf, mf, Fu.kp⟩
theorem ok_law_told (T : Tx K mg) (CX_rows_between : CalX P w K mg base "rows_between" 6 4 FX_rows_between) (CQ_law_refused : CalQ P w K mg base "_law_refused" 1 1 F_law_refused) {f : Addr} {fd : FuncData} (Fu : Fun K "_law_told" "_law_told" s_law_told f fd) (mf : mg "_law_told" = some (.ref f)) (bf : Binds K fd ["_law_a", "_law_b", "_law_low", "_law_high"] []) : Cal P w K mg base "_law_told" 7 4 F_law_told :=
  ⟨f, fd, _, fn_d Fu sc_law_told fun cdv A outer s H E hr =>
  (dss_cons (dst_set sc_law_told.nd (de_s ds_str))
    (dss_cons (dst_tryC T.h_ThrowError (by rfl) rfl rfl rfl sc_law_told.nd (fun Z2 pn2 xe2 tk2t po2t => (dss_one (dst_set sc_law_told.nd (de_callXC CX_rows_between tk2t hr (by decide) (by rfl) (da_cons (de_var 0) (da_cons (de_var 1) (da_cons (de_var 2) (da_cons (de_var 3) da_nil)))))))) (fun a2 pn2 => (dss_one (dst_if (dt_val (ds_e (de_callQC CQ_law_refused (rmq_of hr) (by decide) (by rfl) (da_cons (de_var 5) da_nil)))) (dss_one (dst_set sc_law_told.nd (de_s ds_str))) dss_nil))))
    (dss_one (dst_ret (de_var 4))))), bf, mf, Fu.kp⟩
theorem ok_law_comes (T : Tx K mg)  {f : Addr} {fd : FuncData} (Fu : Fun K "_law_comes" "_law_comes" s_law_comes f fd) (mf : mg "_law_comes" = some (.ref f)) (bf : Binds K fd ["_law_first", "_law_rows", "_law_second", "_law_low", "_law_high"] []) : Cal P w K mg base "_law_comes" 1 5 F_law_comes :=
  ⟨f, fd, _, fn_d Fu sc_law_comes fun cdv A outer s H E hr =>
  (dss_cons (dst_for PassesOwn.never rfl (di_rg2 (by rfl) T.b_range (dps_cons (dp_var 3) (dps_cons (dp_e (de_bin od_add (dp_var 4) (dp_s ds_int))) dps_nil))) (dg_name sc_law_comes.nd) (dss_cons (dst_asg (ds_tup (da_cons (de_s ds_int) (da_cons (de_s ds_int) da_nil))) (dg_tup rfl (dgs_cons (dg_name sc_law_comes.nd) (dgs_cons (dg_name sc_law_comes.nd) dgs_nil))))
    (dss_cons (dst_for PassesOwn.never rfl (di_enumT (by rfl) T.b_enumerate (da_cons (de_var 1) da_nil)) (dg_tup rfl (dgs_cons (dg_name sc_law_comes.nd) (dgs_cons (dg_name sc_law_comes.nd) dgs_nil))) (dss_one (dst_for PassesOwn.never rfl (di_any (ds_e (de_var 9))) (dg_tup rfl (dgs_cons (dg_name sc_law_comes.nd) (dgs_cons (dg_name sc_law_comes.nd) dgs_nil))) (dss_one (dst_if (dt_cmp (od_eq (hu64 hr.rm)) (dp_var 10) (dp_var 5)) (dss_cons (dst_par rfl sc_law_comes.nd (da_cons (de_bin od_mul (dp_e (de_ix hr.u1 (dp_e (de_ix hr.u1 (dp_var 0) (dp_var 8))) (dp_s ds_int))) (dp_e (de_ix hr.u1 (dp_var 11) (dp_s ds_int)))) (da_cons (de_bin od_mul (dp_e (de_ix hr.u1 (dp_e (de_ix hr.u1 (dp_var 0) (dp_var 8))) (dp_s ds_int))) (dp_e (de_ix hr.u1 (dp_var 11) (dp_s ds_int)))) da_nil)) (by rfl))
    (dss_one (dst_par rfl sc_law_comes.nd (da_cons (de_bin od_add (dp_e (de_bin od_mul (dp_var 6) (dp_var 13))) (dp_e (de_bin od_mul (dp_var 12) (dp_var 7)))) (da_cons (de_bin od_mul (dp_var 7) (dp_var 13)) da_nil)) (by rfl)))) dss_nil)))))
    (dss_one (dst_if (dt_cmp (od_ne (hu64 hr.rm)) (dp_e (de_bin od_mul (dp_var 6) (dp_e (de_ix hr.u1 (dp_e (de_ix hr.u1 (dp_var 2) (dp_e (de_bin od_sub (dp_var 5) (dp_var 3))))) (dp_s ds_int))))) (dp_e (de_bin od_mul (dp_e (de_ix hr.u1 (dp_e (de_ix hr.u1 (dp_var 2) (dp_e (de_bin od_sub (dp_var 5) (dp_var 3))))) (dp_s ds_int))) (dp_var 7)))) (dss_one (dst_ret (de_s ds_bl))) dss_nil)))))
    (dss_one (dst_ret (de_s ds_bl)))), bf, mf, Fu.kp⟩
theorem ok_law_right (T : Tx K mg) (C_law_told : Cal P w K mg base "_law_told" 7 4 F_law_told) (C_law_is_table : Cal P w K mg base "_law_is_table" 2 3 F_law_is_table) (C_law_comes : Cal P w K mg base "_law_comes" 1 5 F_law_comes) (C_law_ladder : Cal P w K mg base "_law_ladder" 2 4 F_law_ladder) {f : Addr} {fd : FuncData} (Fu : Fun K "_law_right" "_law_right" s_law_right f fd) (mf : mg "_law_right" = some (.ref f)) (bf : Binds K fd ["_law_a", "_law_b", "_law_low", "_law_high"] []) : Cal P w K mg base "_law_right" 8 4 F_law_right :=
  ⟨f, fd, _, fn_d Fu sc_law_right fun cdv A outer s H E hr =>
  (dss_cons (dst_set sc_law_right.nd (de_callC C_law_told hr (by decide) (by rfl) (da_cons (de_var 0) (da_cons (de_var 1) (da_cons (de_var 2) (da_cons (de_var 3) da_nil))))))
    (dss_cons (dst_if (dt_cmp od_gt (dp_e (de_bin od_mul (dp_e (de_ix hr.u1 (dp_var 0) (dp_s ds_int))) (dp_e (de_ix hr.u1 (dp_var 1) (dp_s ds_int))))) (dp_e (de_bin od_mul (dp_e (de_ix hr.u1 (dp_var 1) (dp_s ds_int))) (dp_e (de_ix hr.u1 (dp_var 0) (dp_s ds_int)))))) (dss_one (dst_ret (de_cmp (od_eq (hu64 hr.rm)) (dp_var 4) (dp_s ds_str)))) dss_nil)
    (dss_cons (dst_if (PW.pt (dw_or (dt_not (dt_val (ds_isi (by rfl) T.b_isinstance (by rfl) T.b_tuple (by decide +kernel) (dp_var 4)))) (dw_or1 (dt_cmp (od_ne (hu64 hr.rm)) (dp_e (de_cb cd_len (by rfl) T.b_len (by decide +kernel) (dps_cons (dp_var 4) dps_nil))) (dp_e (de_bin od_add (dp_e (de_bin od_sub (dp_var 3) (dp_var 2))) (dp_s ds_int))))))) (dss_one (dst_ret (de_s ds_bl))) dss_nil)
    (dss_cons (dst_if (dt_not (dt_val (ds_e (de_cb (cd_all rfl) (by rfl) T.b_all (by decide +kernel) (dps_cons (dp_e (de_lc (own := [("_law_row", 6)]) rfl sc_law_right.nd (di_any (ds_e (de_var 4))) (blkOk_by (N := N_law_right) (sc := defScope s_law_right) (by decide +kernel)) (fun _ _ _ _ _ => (dg_name sc_law_right.nd)) (fun _ _ _ _ _ => dts_nil) (fun _ _ _ _ _ => (de_callC C_law_is_table hr (by decide) (by rfl) (da_cons (de_var 6) (da_cons (de_var 2) (da_cons (de_var 3) da_nil))))))) dps_nil))))) (dss_one (dst_ret (de_s ds_bl))) dss_nil)
    (dss_cons (dst_for PassesOwn.never rfl (di_rg2 (by rfl) T.b_range (dps_cons (dp_var 2) (dps_cons (dp_e (de_bin od_add (dp_var 3) (dp_s ds_int))) dps_nil))) (dg_name sc_law_right.nd) (dss_one (dst_if (dt_not (dt_val (ds_e (de_callC C_law_comes hr (by decide) (by rfl) (da_cons (de_callC C_law_ladder hr (by decide) (by rfl) (da_cons (de_var 0) (da_cons (de_var 2) (da_cons (de_var 3) (da_cons (de_var 5) da_nil))))) (da_cons (de_var 4) (da_cons (de_callC C_law_ladder hr (by decide) (by rfl) (da_cons (de_var 1) (da_cons (de_var 2) (da_cons (de_var 3) (da_cons (de_var 5) da_nil))))) (da_cons (de_var 2) (da_cons (de_var 3) da_nil))))))))) (dss_one (dst_ret (de_s ds_bl))) dss_nil)))
    (dss_one (dst_ret (de_s ds_bl)))))))), bf, mf, Fu.kp⟩
theorem body_law (T : Tx K mg) (C_law_steepness : Cal P w K mg base "_law_steepness" 3 2 F_law_steepness) (C_law_draw : Cal P w K mg base "_law_draw" 2 2 F_law_draw) (C_law_right : Cal P w K mg base "_law_right" 8 4 F_law_right) {f : Addr} (cdv : Value) (A : Around) (outer : List Env) (s : Shared) (H : Hp) (E : XK) (hr : RmG 8 (A.deeper (envOfC "law" (defScope s_law) s.heap.objs.size f cdv))) : DSs (z0 K) (cxOf CX0 P w K mg base N_law "law" (defScope s_law) f cdv A outer s H E).nox (defBody s_law).tail M_law :=
  (dss_cons (dst_set sc_law.nd (de_callC C_law_steepness hr (by decide) (by rfl) (da_cons (de_var 1) (da_cons (de_s ds_int) da_nil))))
    (dss_cons (dst_set sc_law.nd (de_callC C_law_steepness hr (by decide) (by rfl) (da_cons (de_var 1) (da_cons (de_s ds_int) da_nil))))
    (dss_cons (dst_if (PW.pt (dw_and (dt_cmp od_gt (dp_e (de_bin od_mul (dp_e (de_ix hr.u1 (dp_var 2) (dp_s ds_int))) (dp_e (de_ix hr.u1 (dp_var 3) (dp_s ds_int))))) (dp_e (de_bin od_mul (dp_e (de_ix hr.u1 (dp_var 3) (dp_s ds_int))) (dp_e (de_ix hr.u1 (dp_var 2) (dp_s ds_int)))))) (dw_and1 (dt_cmp od_gt (dp_e (de_callC C_law_draw hr (by decide) (by rfl) (da_cons (de_var 1) (da_cons (de_s ds_int) da_nil)))) (dp_s ds_int))))) (dss_one (dst_par rfl sc_law.nd (da_cons (de_var 3) (da_cons (de_var 2) da_nil)) (by rfl))) dss_nil)
    (dss_cons (dst_set sc_law.nd (de_callC C_law_draw hr (by decide) (by rfl) (da_cons (de_var 1) (da_cons (de_s ds_int) da_nil))))
    (dss_cons (dst_set sc_law.nd (de_bin od_add (dp_var 4) (dp_e (de_callC C_law_draw hr (by decide) (by rfl) (da_cons (de_var 1) (da_cons (de_cb (cd_min2 rfl) (by rfl) T.b_min (by decide +kernel) (dps_cons (dp_e (de_bin od_sub (dp_s ds_int) (dp_var 4))) (dps_cons (dp_e (de_ix hr.u1 (dp_e (de_lst (da_cons (de_s ds_int) (da_cons (de_s ds_int) (da_cons (de_s ds_int) da_nil))))) (dp_e (de_callC C_law_draw hr (by decide) (by rfl) (da_cons (de_var 1) (da_cons (de_s ds_int) da_nil)))))) dps_nil))) da_nil))))))
    (dss_cons (dst_set sc_law.nd (de_callC C_law_steepness hr (by decide) (by rfl) (da_cons (de_var 1) (da_cons (de_s ds_int) da_nil))))
    (dss_cons (dst_set sc_law.nd (de_bin od_add (dp_var 4) (dp_e (de_callC C_law_draw hr (by decide) (by rfl) (da_cons (de_var 1) (da_cons (de_cb (cd_min2 rfl) (by rfl) T.b_min (by decide +kernel) (dps_cons (dp_e (de_bin od_sub (dp_s ds_int) (dp_var 4))) (dps_cons (dp_s ds_int) dps_nil))) da_nil))))))
    (dss_cons (dst_set sc_law.nd (de_lst (da_cons (de_s (ds_tup (da_cons (de_var 2) (da_cons (de_var 3) (da_cons (de_var 4) (da_cons (de_var 5) da_nil)))))) (da_cons (de_s (ds_tup (da_cons (de_var 2) (da_cons (de_var 3) (da_cons (de_var 4) (da_cons (de_var 7) da_nil)))))) (da_cons (de_s (ds_tup (da_cons (de_var 2) (da_cons (de_var 6) (da_cons (de_var 4) (da_cons (de_var 7) da_nil)))))) da_nil)))))
    (dss_cons (dst_set sc_law.nd (de_bin od_add (dp_var 8) (dp_e (de_lst (da_cons (de_s (ds_tup (da_cons (de_var 6) (da_cons (de_var 3) (da_cons (de_cb (cd_max2 rfl) (by rfl) T.b_max (by decide +kernel) (dps_cons (dp_s ds_int) (dps_cons (dp_e (de_bin od_sub (dp_var 7) (dp_s ds_int))) dps_nil))) (da_cons (de_var 7) da_nil)))))) (da_cons (de_s (ds_tup (da_cons (de_var 3) (da_cons (de_var 2) (da_cons (de_var 4) (da_cons (de_var 7) da_nil)))))) da_nil))))))
    (dss_one (dst_ret (de_cb (cd_all rfl) (by rfl) T.b_all (by decide +kernel) (dps_cons (dp_e (de_lc (own := [("_law_one", 9), ("_law_two", 10), ("_law_least", 11), ("_law_most", 12)]) rfl sc_law.nd (di_any (ds_e (de_bin od_add (dp_var 8) (dp_e (de_sl (dp_var 8) do_none (do_some (dp_s ds_int))))))) (blkOk_by (N := N_law) (sc := defScope s_law) (by decide +kernel)) (fun _ _ _ _ _ => (dg_tup rfl (dgs_cons (dg_name sc_law.nd) (dgs_cons (dg_name sc_law.nd) (dgs_cons (dg_name sc_law.nd) (dgs_cons (dg_name sc_law.nd) dgs_nil)))))) (fun _ _ _ _ _ => dts_nil) (fun _ _ _ _ _ => (de_callC C_law_right hr (by decide) (by rfl) (da_cons (de_var 9) (da_cons (de_var 10) (da_cons (de_var 11) (da_cons (de_var 12) da_nil)))))))) dps_nil)))))))))))))
end
end K34
set_option Elab.async false
set_option linter.all false
set_option maxRecDepth 100000
set_option maxHeartbeats 4000000
namespace K34
open PySem PySem.Spec PyProof.Rows L2 Pq Lb
section
variable {P : Program} {w : World} {K : PySem.W.Frag} {mg : Str → Option Value} {base : Heap}
theorem ok_law_draw (T : Tx K mg) {f : Addr} {fd : FuncData} (Fu : Fun K "_law_draw" "_law_draw" s_law_draw f fd) (mf : mg "_law_draw" = some (.ref f)) (bf : Binds K fd ["_law_deal_here", "_law_many"] []) : Cal P w K mg base "_law_draw" 2 2 fDraw := by
  refine ⟨f, fd, _, fn_g (Fu.ok sc_law_draw (fun vs H Q E h => ?_) (fun cdv A outer s H vs Q E hr h => ?_)), bf, mf, Fu.kp⟩
  · rw [spD_len h]
    rfl
  · obtain ⟨p, l, many, rfl, dl, m0, m1, fin⟩ := draw_spec h
    have hu := hu_of hr
    obtain ⟨seed, num, left, D⟩ := Dl.start dl
    refine ⟨_, pss_cons (ps_while PassesOwn.never
        (PW.pt (pw_and (pt_cmpR op_eq (pe_dget hu (pv 0) pe_str (fun _ _ => rfl)) pe_int (nomark _)) (pw_and1 (pt_cmpR op_gt (pe_callB call_len_seq (by rfl) T.b_len PySem.boot_len (pa_cons (pe_dget hu (pv 0) pe_str (fun _ _ => rfl)) pa_nil)) pe_int (nomark _)))))
        (pss_one (ps_dput hu (pv 0) pe_str (pe_bm0 PySem.F.plainAttrs_list PySem.F.slot_list_pop PySem.F.type_list_pop mt_pop (pe_dget hu (pv 0) pe_str (fun _ _ => rfl))) rfl)))
      (pss_cons (ps_set (i := 2) sc_law_draw.nd rfl (Or.inl rfl) (pe_dget hu (pv 0) pe_str (fun _ _ => rfl)))
      (pss_cons (ps_if (pt_cmpR op_gt (pv 2) pe_int (nomark _))
        (pss_cons (ps_dput hu (pv 0) pe_str (pe_op op_fdivW (pv 2) (pv 1)) rfl) (pss_one (ps_ret (pe_op op_mod (pv 2) (pv 1))))) pss_nil)
      (pss_cons (ps_set (i := 3) sc_law_draw.nd rfl (Or.inl rfl) (pe_op op_mod (pe_op op_add (pe_op op_mul (pe_dget hu (pv 0) pe_str (fun _ _ => rfl)) pe_int) pe_int) pe_int))
      (pss_cons (ps_dput hu (pv 0) pe_str (pe_op op_mod (pe_op op_add (pe_op op_mul (pv 3) pe_int) pe_int) pe_int) rfl)
      (pss_cons (ps_set (i := 4) sc_law_draw.nd rfl (Or.inl rfl) (pe_op op_mod (pe_op op_mul (pe_dget hu (pv 0) pe_str (fun _ _ => rfl)) (pe_dget hu (pv 0) pe_str (fun _ _ => rfl))) pe_int))
      (pss_one (ps_ret (pe_op op_mod (pe_op op_add (pe_op op_mul (pe_op op_mod (pe_op op_mul (pv 3) (pv 3)) pe_int) pe_int) (pv 4)) (pv 1))))))))), ?_⟩
    -- while number == 0 and len(left) > 0
    refine ⟨fun m σ H' => σ = [some (.ref p), some (.int many), none, none, none] ∧ ∃ num left, Dl H p l seed num left H' ∧ left.length = m, ⟨left.length, rfl, num, left, D, rfl⟩, ?_⟩
    rintro m σ H1 ⟨rfl, num, left, D, rfl⟩
    refine ⟨.ref p, rfl, p, .int num, rfl, D.gnum, rfl, _, rfl, ite2 (fun e => ?_) (fun e => ?_)⟩
    · refine ⟨.ref p, rfl, p, .ref l, rfl, D.gleft, l, _, rfl, .inl (.inl (.inl D.hl)), _, _, rfl, rfl, _, rfl, ite2 (fun e2 => ?_) (fun e2 => ?_)⟩
      · -- number = left.pop()
        have hne : left ≠ [] := fun z => by
          subst z
          exact absurd (of_decide_eq_true e2) (by decide)
        have hx : (left.map V.int)[(left.map V.int).length - 1]? = some (.int (left.getLast hne)) := by
          rw [List.length_map, List.getElem?_map, ← List.getLast?_eq_getElem?, List.getLast?_eq_some_getLast hne]
          rfl
        have hlen : left.dropLast.length < left.length := by
          rw [List.length_dropLast]
          have : 0 < left.length := List.length_pos_iff.mpr hne
          omega
        have D2 := D.left (left' := left.dropLast) (by have := D.few; omega) fun x hx => D.pos x ((List.dropLast_sublist left).subset hx)
        have D3 := D2.num (x := left.getLast hne) (D.pos _ (List.getLast_mem hne))
        refine ⟨fun σ' H' => σ' = [some (.ref p), some (.int many), none, none, none] ∧ ∃ num left', Dl H p l seed num left' H' ∧ left'.length < left.length, fun σ' H' ⟨h1, num', left', h2, h3⟩ => ⟨left'.length, h3, h1, num', left', h2, rfl⟩, ?_⟩
        refine ⟨.ref p, rfl, p, .ref l, rfl, D.gleft, .inl ⟨rfl, _, .inl (.inl D.hl)⟩, l, _, _, rfl, rfl, D.hl, hx, .ref p, rfl, p, _, rfl, ?_, rfl, _, _, D3, hlen⟩
        rw [← List.map_dropLast]
        exact D2.pnum
      · refine ⟨.ref p, rfl, p, .int num, rfl, D.gnum, _, rfl, _, _, rfl, rfl, _, rfl, ite2 (fun e => ?_) (fun e => ?_)⟩
        · exact ⟨_, rfl, _, rfl, _, _, rfl, rfl, wide_div (b := 64) m0 (by omega) (by decide) (by decide), _, rfl, p, _, rfl, D.pnum, _, rfl, _, rfl, _, _, rfl, rfl, m0, fin _ _ seed _ left (Int.emod_nonneg _ (by omega)) (Int.emod_lt_of_pos _ m0) (D.num (Int.ediv_nonneg D.n0 (by omega)))⟩
        · have D' := D.seed (x := ((seed * 48271 + 5003) % 2147483647 * 39373 + 60013) % 2147483587) (Int.emod_nonneg _ (by decide)) (by have := Int.emod_lt_of_pos ((seed * 48271 + 5003) % 2147483647 * 39373 + 60013) (show (0 : Int) < 2147483587 by decide); omega)
          have b1 := Int.emod_nonneg (seed * 48271 + 5003) (show (2147483647 : Int) ≠ 0 by decide)
          have b2 := Int.emod_lt_of_pos (seed * 48271 + 5003) (show (0 : Int) < 2147483647 by decide)
          have c1 := D'.s0
          have c2 := D'.s1
          exact ⟨_, rfl, p, _, rfl, D.gseed, _, _, rfl, rfl, .inr ⟨by decide, by decide⟩, _, _, rfl, rfl, _, _, rfl, rfl, (pz _ (by decide)),
            _, rfl, _, _, rfl, rfl, .inr ⟨by decide, by decide⟩, _, _, rfl, rfl, _, _, rfl, rfl, (pz _ (by decide)), _, rfl, p, _, rfl, D.pseed,
            _, rfl, p, _, rfl, D'.gseed, _, rfl, p, _, rfl, D'.gseed, _, _, rfl, rfl, .inl ⟨by omega, by omega⟩, _, _, rfl, rfl, (pz _ (by decide)),
            _, rfl, _, rfl, _, _, rfl, rfl, .inl ⟨by omega, by omega⟩, _, _, rfl, rfl, (pz _ (by decide)), _, _, rfl, rfl, .inr ⟨by decide, by decide⟩, _, rfl, _, _, rfl, rfl, _, rfl, _, _, rfl, rfl, m0, fin _ _ _ _ left (Int.emod_nonneg _ (by omega)) (Int.emod_lt_of_pos _ m0) D'⟩
    · refine iteF ?_
      refine ⟨.ref p, rfl, p, .int num, rfl, D.gnum, _, rfl, _, _, rfl, rfl, _, rfl, ite2 (fun e => ?_) (fun e => ?_)⟩
      · exact ⟨_, rfl, _, rfl, _, _, rfl, rfl, wide_div (b := 64) m0 (by omega) (by decide) (by decide), _, rfl, p, _, rfl, D.pnum, _, rfl, _, rfl, _, _, rfl, rfl, m0, fin _ _ seed _ left (Int.emod_nonneg _ (by omega)) (Int.emod_lt_of_pos _ m0) (D.num (Int.ediv_nonneg D.n0 (by omega)))⟩
      · have D' := D.seed (x := ((seed * 48271 + 5003) % 2147483647 * 39373 + 60013) % 2147483587) (Int.emod_nonneg _ (by decide)) (by have := Int.emod_lt_of_pos ((seed * 48271 + 5003) % 2147483647 * 39373 + 60013) (show (0 : Int) < 2147483587 by decide); omega)
        have b1 := Int.emod_nonneg (seed * 48271 + 5003) (show (2147483647 : Int) ≠ 0 by decide)
        have b2 := Int.emod_lt_of_pos (seed * 48271 + 5003) (show (0 : Int) < 2147483647 by decide)
        have c1 := D'.s0
        have c2 := D'.s1
        exact ⟨_, rfl, p, _, rfl, D.gseed, _, _, rfl, rfl, .inr ⟨by decide, by decide⟩, _, _, rfl, rfl, _, _, rfl, rfl, (pz _ (by decide)),
          _, rfl, _, _, rfl, rfl, .inr ⟨by decide, by decide⟩, _, _, rfl, rfl, _, _, rfl, rfl, (pz _ (by decide)), _, rfl, p, _, rfl, D.pseed,
          _, rfl, p, _, rfl, D'.gseed, _, rfl, p, _, rfl, D'.gseed, _, _, rfl, rfl, .inl ⟨by omega, by omega⟩, _, _, rfl, rfl, (pz _ (by decide)),
          _, rfl, _, rfl, _, _, rfl, rfl, .inl ⟨by omega, by omega⟩, _, _, rfl, rfl, (pz _ (by decide)), _, _, rfl, rfl, .inr ⟨by decide, by decide⟩, _, rfl, _, _, rfl, rfl, _, rfl, _, _, rfl, rfl, m0, fin _ _ _ _ left (Int.emod_nonneg _ (by omega)) (Int.emod_lt_of_pos _ m0) D'⟩
end
section
variable {P : Program} {w : World} {K : PySem.W.Frag} {mg : Str → Option Value} {base : Heap}
theorem ok_law_deal (T : Tx K mg) {f : Addr} {fd : FuncData} (Fu : Fun K "_law_deal" "_law_deal" s_law_deal f fd) : FnOk P w K mg base CX0 2 f fd ["_law_script", "_law_base"] (spDeal K) := by
  refine Fu.ok sc_law_deal (fun vs H Q E h => ?_) (fun cdv A outer s H vs Q E hr h => ?_)
  · obtain ⟨a, ns, b, rfl, _⟩ := h
    rfl
  · obtain ⟨a, ns, b, rfl, hS, hlen, b0, b1, fin⟩ := h
    have hu := hu_of hr
    refine ⟨_, pss_cons (ps_setLc (i := 3) (own := [("_law_cell", 2)]) rfl sc_law_deal.nd rfl rfl (sw_true rfl rfl rfl (by decide +kernel)) (pi_list (pe_slice sl_list (pv 0) (po_some (pv 1)) (po_some pe_int)))
        (blkOk_by (N := N_law_deal) (sc := defScope s_law_deal) (by decide +kernel)) (fun _ _ _ _ _ => pg_name (i := 2) sc_law_deal.nd rfl (Or.inl rfl)) (fun _ _ _ _ _ => pts_nil)
        (fun _ _ _ _ _ => pe_callB (call_max2 rfl) (by rfl) T.b_max (by decide +kernel) (pa_cons (pv 2) (pa_cons (pe_op op_sub pe_int (pv 2)) pa_nil))))
      (pss_cons (ps_set (i := 4) sc_law_deal.nd rfl (Or.inl rfl) (pe_op op_add pe_int (pe_op op_mul pe_int (pv 1))))
      (pss_cons (ps_for PassesOwn.never rfl (pi_list (pv 3)) (pg_name (i := 2) sc_law_deal.nd rfl (Or.inl rfl))
        (pss_one (ps_set (i := 4) sc_law_deal.nd rfl (Or.inl rfl) (pe_op op_mod (pe_op op_add (pe_op op_add (pe_op op_mul (pv 4) pe_int) (pe_op op_mod (pv 2) pe_int)) pe_int) pe_int))))
      (pss_one (ps_ret (pe_disp (pps_cons pe_str (pv 4) (pps_cons pe_str pe_int (pps_cons pe_str (pe_lstRev rfl (by rfl) T.b_list (by rfl) T.b_reversed
        (pe_lc (own := [("_law_cell", 2)]) rfl sc_law_deal.nd (pi_list (pv 3)) (blkOk_by (N := N_law_deal) (sc := defScope s_law_deal) (by decide +kernel)) (fun _ _ _ _ _ => pg_name (i := 2) sc_law_deal.nd rfl (Or.inl rfl))
          (fun _ _ _ _ _ => pts_one (pt_cmpR op_ge (pv 2) (pe_op op_pow pe_int pe_int) (nomark _))) (fun _ _ _ _ _ => pv 2))) pps_nil))) (by rfl) (by rfl) (by simp) (by decide)))))), ?_⟩
    obtain ⟨ms, em, hm⟩ := cut_ints ns (some b) (some 63)
    -- _law_script[_law_base:63]
    refine ⟨.ref a, rfl, .int b, rfl, b, rfl, 63, rfl, a, _, rfl, hS, fun c nc => ?_⟩
    refine ⟨c, rfl, ⟨_, .inl (.inl upd_same)⟩, fun D hD => ?_⟩
    have s1 : Same H (upd H c (.lst (cutV (ns.map V.int) (some b) (some 63)))) := same_new nc
    rw [em] at *
    refine lc_list (xs := ms.map V.int) (fun i H' => ∃ acc : List Int, H' D = some (.lst (acc.map V.int)) ∧ acc.length = i ∧ (∀ x ∈ acc, 0 ≤ x) ∧ Same (upd H c (.lst (ms.map V.int))) H') ⟨[], upd_same, rfl, (fun _ z => by cases z), same_new hD⟩
      (fun i H' _ ⟨_, _, _, _, s2⟩ => .inl (.inl (s2 _ _ upd_same))) (fun i x H' hx ⟨acc, h1, h2, h3, s2⟩ => ?_) (fun H' ⟨acc, h1, h2, h3, s2⟩ => ?_)
    · obtain ⟨z, hz, rfl⟩ := map_at hx
      refine ⟨rfl, ?_⟩
      unfold tYes
      dsimp only
      rw [if_pos rfl]
      refine ⟨_, rfl, _, rfl, 0, z, rfl, rfl, z, 0 - z, rfl, _, h1, ?_, acc ++ [if 0 - z > z then 0 - z else z], ?_, ?_, ?_, ?_⟩
      · rw [List.length_map, h2]
        have := (List.getElem?_eq_some_iff.mp hz).1
        exact small1000 (by omega)
      · rw [upd_same, List.map_append]; rfl
      · rw [List.length_append, h2]; rfl
      · intro x hx
        rcases List.mem_append.mp hx with q | q
        · exact h3 x q
        · have : x = if 0 - z > z then 0 - z else z := by simpa using q
          rw [this]; split <;> omega
      · intro q o e
        have nq : q ≠ D := fun y => by subst y; rw [hD] at e; cases e
        rw [upd_ne nq]; exact s2 q o e
    · rw [List.length_map] at h2
      have s3 : Same H H' := s1.trans s2
      have hDn : H D = none := s1.free hD
      -- _law_number = ..
      refine ⟨_, rfl, _, _, rfl, rfl, .inl ⟨by decide, by decide⟩, _, _, rfl, rfl, ?_⟩
      -- for _law_cell in _law_cells
      refine ⟨.ref D, rfl, D, rfl, ⟨_, .inl (.inl h1)⟩, for_list (K := K) (a := D) (xs := acc.map V.int) (fun i σ H2 => ∃ z y, σ = [some (.ref a), some (.int b), y, some (.ref D), some (.int z)] ∧ H2 = H' ∧ 0 ≤ z ∧ z < 2 ^ 32)
        ⟨_, _, rfl, rfl, by omega, by omega⟩ (fun i σ H2 _ ⟨_, _, _, e, _⟩ => by subst e; exact .inl (.inl h1)) ?_ ?_⟩
      · rintro i x σ H2 hx ⟨z, y, rfl, rfl, z0, z1⟩
        obtain ⟨c1, _, rfl⟩ := map_at hx
        refine ⟨_, rfl, _, _, rfl, rfl, .inr ⟨by decide, by decide⟩, _, rfl, _, _, rfl, rfl, pz _ (by decide), _, _, rfl, rfl, _, _, rfl, rfl, _, _, rfl, rfl, pz _ (by decide), _, _, rfl, rfl, Int.emod_nonneg _ (by decide), ?_⟩
        have := Int.emod_lt_of_pos (z * 69313 + c1 % 2147483579 + 17) (show (0 : Int) < 2147483647 by decide)
        omega
      · rintro σ H2 ⟨z, y, rfl, rfl, z0, z1⟩
        -- the dict
        intro p hp
        have s4 : Same H2 (upd H2 p (.dK [])) := same_new hp
        refine ⟨_, rfl, .ref D, rfl, D, rfl, ⟨_, .inl (.inl (s4 _ _ h1))⟩, fun D2 hD2 => ?_⟩
        have pD2 : p ≠ D2 := fun y => by subst y; rw [upd_same] at hD2; cases hD2
        refine lc_list (xs := acc.map V.int) (fun i H3 => ∃ acc2 : List Int, H3 D2 = some (.lst (acc2.map V.int)) ∧ acc2.length ≤ i ∧ (∀ x ∈ acc2, 0 ≤ x) ∧ Same (upd H2 p (.dK [])) H3) ⟨[], upd_same, Nat.le_refl _, (fun _ z => by cases z), same_new hD2⟩
          (fun i H3 _ ⟨_, _, _, _, s5⟩ => .inl (.inl (s5 _ _ (s4 _ _ h1)))) (fun i x H3 hx ⟨acc2, g1, g2, g3, s5⟩ => ?_) (fun H3 ⟨acc2, g1, g2, g3, s5⟩ => ?_)
        · obtain ⟨c1, hc1, rfl⟩ := map_at hx
          have hc0 : 0 ≤ c1 := h3 c1 (List.mem_of_getElem? hc1)
          refine ⟨rfl, _, rfl, _, _, rfl, rfl, ⟨by decide, by decide, by decide⟩, _, _, rfl, rfl, _, rfl, ite2 (fun _ => ?_) (fun _ => ⟨acc2, g1, by omega, g3, s5⟩)⟩
          refine ⟨_, rfl, _, g1, ?_, acc2 ++ [c1], ?_, ?_, ?_, ?_⟩
          · rw [List.length_map]
            have := (List.getElem?_eq_some_iff.mp hc1).1
            exact small1000 (by omega)
          · rw [upd_same, List.map_append]; rfl
          · rw [List.length_append]; exact Nat.succ_le_succ g2
          · intro x hx
            rcases List.mem_append.mp hx with q | q
            · exact g3 x q
            · have : x = c1 := by simpa using q
              rw [this]; exact hc0
          · intro q o e
            have nq : q ≠ D2 := fun y => by subst y; rw [hD2] at e; cases e
            rw [upd_ne nq]; exact s5 q o e
        · rw [List.length_map] at g2
          refine ⟨D2, _, rfl, .inl g1, fun q hq => ?_⟩
          have hp3 : H3 p = some (.dK []) := s5 _ _ upd_same
          have pq : p ≠ q := fun y => by subst y; rw [hp3] at hq; cases hq
          refine ⟨by rw [upd_ne pq]; exact hp3, [(kSeed, .int z), (kNum, .int 0), (kLeft, .ref q)], rfl, by show 3 ≤ 15; decide, ?_⟩
          have s6 : Same H H3 := s3.trans (s4.trans s5)
          refine fin p q _ (fun x o e => ?_) (s3.free hp) (s6.free hq) ⟨pq, z, 0, acc2.reverse, by rw [upd_same, merge3]; rfl, by rw [upd_ne pq.symm, upd_same, List.map_reverse], z0, z1, Int.le_refl 0, by rw [List.length_reverse]; omega, fun x hx => g3 x (List.mem_reverse.mp hx)⟩
          have nx : x ≠ p := fun y => by subst y; rw [s3.free hp] at e; cases e
          rw [upd_ne nx, upd_ne (ne_of_none (s6 x o e) hq)]
          exact s6 x o e
end
end K34
set_option Elab.async false
set_option linter.all false
set_option maxRecDepth 100000
set_option maxHeartbeats 4000000
set_option pp.maxSteps 600
namespace K34
open PySem PySem.Spec PyProof.Rows L2 Pq Lb
theorem nd (a : Rat) : (a.num : Rat) = a * ((a.den : Int) : Rat) := by
  have := num_div_den a
  have := cast_ne (den0 a)
  grind
theorem v1 (a b : Rat) : (((a.den : Int) * (b.den : Int) - a.num * b.num : Int) : Rat) / (((a.den : Int) * (b.den : Int) : Int) : Rat) = 1 - a * b := by
  have d1 := cast_ne (den0 a)
  have d2 := cast_ne (den0 b)
  rw [Rat.intCast_sub, Rat.intCast_mul, Rat.intCast_mul, nd a, nd b]
  generalize ((a.den : Int) : Rat) = A at *
  generalize ((b.den : Int) : Rat) = B at *
  grind
theorem v2 (a b : Rat) : ((b.num * (a.den : Int) - a.num * (b.den : Int) : Int) : Rat) / (((b.den : Int) * (a.den : Int) : Int) : Rat) = b - a := by
  have d1 := cast_ne (den0 a)
  have d2 := cast_ne (den0 b)
  rw [Rat.intCast_sub, Rat.intCast_mul, Rat.intCast_mul, Rat.intCast_mul, nd a, nd b]
  generalize ((a.den : Int) : Rat) = A at *
  generalize ((b.den : Int) : Rat) = B at *
  grind
theorem v3 (a b : Rat) : (((a.den : Int) * (a.den : Int) * (b.den : Int) + a.num * a.num * (b.den : Int) - 2 * a.num * (a.den : Int) * b.num : Int) : Rat) / (((a.den : Int) * (a.den : Int) * (b.den : Int) : Int) : Rat) = 1 + a * a - 2 * (a * b) := by
  have d1 := cast_ne (den0 a)
  have d2 := cast_ne (den0 b)
  have two : ((2 : Int) : Rat) = 2 := rfl
  rw [Rat.intCast_sub, Rat.intCast_add, Rat.intCast_mul, Rat.intCast_mul, Rat.intCast_mul, Rat.intCast_mul, Rat.intCast_mul, Rat.intCast_mul, Rat.intCast_mul, nd a, nd b, two]
  generalize ((a.den : Int) : Rat) = A at *
  generalize ((b.den : Int) : Rat) = B at *
  grind
theorem v4 {a : Rat} (s : St a) : (((a.den : Int) : Int) : Rat) / (((a.den : Int) - a.num : Int) : Rat) = (1 - a)⁻¹ := by
  have d1 := cast_ne (den0 a)
  have n1 : (1 - a) * (1 - a)⁻¹ = 1 := Rat.mul_inv_cancel _ (ne1 s)
  have n2 := cast_ne s.sub.1
  rw [Rat.intCast_sub, nd a] at *
  generalize (1 - a)⁻¹ = I at *
  generalize ((a.den : Int) : Rat) = A at *
  grind
theorem v5 (b : Rat) : (((b.den : Int) - b.num : Int) : Rat) / (((b.den : Int)) : Rat) = 1 - b := by
  have d2 := cast_ne (den0 b)
  rw [Rat.intCast_sub, nd b]
  generalize ((b.den : Int) : Rat) = B at *
  grind
theorem cross {a b : Rat} (h : a ≤ b) : a.num * (b.den : Int) ≤ b.num * (a.den : Int) := by
  have d1 := cast_pos (den0 a)
  have d2 := cast_pos (den0 b)
  have := Rat.mul_le_mul_of_nonneg_right h (Rat.le_of_lt (Rat.mul_pos d1 d2))
  have e1 : a * (((a.den : Int) : Rat) * ((b.den : Int) : Rat)) = ((a.num * (b.den : Int) : Int) : Rat) := by rw [Rat.intCast_mul, nd a]; grind
  have e2 : b * (((a.den : Int) : Rat) * ((b.den : Int) : Rat)) = ((b.num * (a.den : Int) : Int) : Rat) := by rw [Rat.intCast_mul, nd b]; grind
  rw [e1, e2] at this
  exact Rat.intCast_le_intCast.mp this
theorem ab_int {a b : Rat} (sa : St a) (sb : St b) : 0 ≤ (a.den : Int) * (b.den : Int) - a.num * b.num := by
  have h1 := sa.sub.1
  have h2 := sb.sub.1
  have p1 := sa.num
  have p2 := sb.num
  have := Int.mul_le_mul (show a.num ≤ (a.den : Int) by omega) (show b.num ≤ (b.den : Int) by omega) (by omega) (by omega)
  omega
theorem b8 {x y : Int} (h : x.natAbs < 2 ^ 4) (h' : y.natAbs < 2 ^ 4) : (x * y).natAbs < 2 ^ 8 := by
  rw [Int.natAbs_mul]
  exact mul_bits h h'
theorem w_itself {a b : Rat} (e : Bool) (sa : St a) (sb : St b) (Q : SV → Prop) (h : 0 ≤ kS a b e 0 → Sz 13 (kS a b e 0) → Q (frv (kS a b e 0))) : F_on_itself [frv a, frv b, .val (.bool e)] Q := by
  obtain ⟨q4, p4⟩ := sa.q5
  obtain ⟨t4, r4⟩ := sb.q5
  have q0 := den0 a
  have t0 := den0 b
  have sm4 : ∀ {x : Int}, x.natAbs < 2 ^ 4 → Sm x := fun h => sm_of h (by decide)
  have sm8 : ∀ {x : Int}, x.natAbs < 2 ^ 8 → Sm x := fun h => sm_of h (by decide)
  refine ⟨rfl, show 3 < 7 by decide, show 4 < 7 by decide, rfl, ?_⟩
  refine at_env [frv a, frv b, .val (.bool e), iv a.num, iv (a.den : Int), .no, .no] rfl ?_
  refine ⟨rfl, show 5 < 7 by decide, show 6 < 7 by decide, rfl, ?_⟩
  refine at_env [frv a, frv b, .val (.bool e), iv a.num, iv (a.den : Int), iv b.num, iv (b.den : Int)] rfl ?_
  cases e with
  | true =>
    have ev := v1 a b
    have n0 := ab_int sa sb
    have d0 := Int.mul_pos q0 t0
    have db := b8 q4 t4
    have nb : ((a.den : Int) * (b.den : Int) - a.num * b.num).natAbs < 2 ^ 9 := by have := b8 p4 r4; omega
    refine ⟨sm4 q4, sm4 t4, sm4 p4, sm4 r4, sm4 q4, sm4 t4, rfl, w_lowest (n := 8) n0 d0 db (by decide) _ ?_⟩
    rw [ev]
    have S := sz_divInt (n := 13) (Nat.lt_of_lt_of_le nb (pow_le (by decide))) (Nat.lt_of_lt_of_le db (pow_le (by decide))) d0
    have p := div0 n0 d0
    rw [ev] at S p
    exact h p S
  | false =>
    have ev := v3 a b
    have d0 := Int.mul_pos (Int.mul_pos q0 q0) t0
    have qq := b8 q4 q4
    have pp := b8 p4 p4
    have qqt : ((a.den : Int) * (a.den : Int) * (b.den : Int)).natAbs < 2 ^ 12 := by rw [Int.natAbs_mul]; exact mul_bits qq t4
    have ppt : (a.num * a.num * (b.den : Int)).natAbs < 2 ^ 12 := by rw [Int.natAbs_mul]; exact mul_bits pp t4
    have p2 : (2 * a.num).natAbs < 2 ^ 5 := by omega
    have pq : (2 * a.num * (a.den : Int)).natAbs < 2 ^ 9 := by rw [Int.natAbs_mul]; exact mul_bits p2 q4
    have pqr : (2 * a.num * (a.den : Int) * b.num).natAbs < 2 ^ 13 := by rw [Int.natAbs_mul]; exact mul_bits pq r4
    have n0 : 0 ≤ (a.den : Int) * (a.den : Int) * (b.den : Int) + a.num * a.num * (b.den : Int) - 2 * a.num * (a.den : Int) * b.num := by
      have u0 := sa.sub.1
      have w0 := sb.sub.1
      have pa := sa.num
      have e1 : (a.den : Int) * (a.den : Int) * (b.den : Int) + a.num * a.num * (b.den : Int) - 2 * a.num * (a.den : Int) * b.num = ((a.den : Int) - a.num) * ((a.den : Int) - a.num) * (b.den : Int) + 2 * a.num * (a.den : Int) * ((b.den : Int) - b.num) := by grind
      rw [e1]
      exact Int.add_nonneg (Int.mul_nonneg (Int.mul_nonneg (by omega) (by omega)) (by omega)) (Int.mul_nonneg (Int.mul_nonneg (by omega) (by omega)) (by omega))
    have nb : ((a.den : Int) * (a.den : Int) * (b.den : Int) + a.num * a.num * (b.den : Int) - 2 * a.num * (a.den : Int) * b.num).natAbs < 2 ^ 13 := by
      have e12 : (2 : Nat) ^ 12 = 4096 := by decide
      have e13 : (2 : Nat) ^ 13 = 8192 := by decide
      have := sa.num
      have nn : 0 ≤ 2 * a.num * (a.den : Int) * b.num := Int.mul_nonneg (Int.mul_nonneg (by omega) (by omega)) (by have := sb.num; omega)
      omega
    refine ⟨sm4 q4, sm4 q4, sm8 qq, sm4 t4, sm4 p4, sm4 p4, sm8 pp, sm4 t4, sm_of (n := 2) (by decide) (by decide), sm4 p4, sm_of p2 (by decide), sm4 q4, sm_of pq (by decide), sm4 r4, sm4 q4, sm4 q4, sm8 qq, sm4 t4, rfl, w_lowest (n := 12) n0 d0 qqt (by decide) _ ?_⟩
    rw [ev]
    have S := sz_divInt (n := 13) nb (Nat.lt_of_lt_of_le qqt (pow_le (by decide))) d0
    have p := div0 n0 d0
    rw [ev] at S p
    exact h p S
theorem w_another {a b : Rat} (e : Bool) {k : Int} (sa : St a) (sb : St b) (le : a ≤ b) (k0 : 1 ≤ k) (k1 : k ≤ 9) (Q : SV → Prop) (h : 0 ≤ kS a b e k.toNat → Sz 49 (kS a b e k.toNat) → Q (frv (kS a b e k.toNat))) : F_on_another [frv a, frv b, .val (.bool e), iv k] Q := by
  obtain ⟨q4, p4⟩ := sa.q5
  obtain ⟨t4, r4⟩ := sb.q5
  have q0 := den0 a
  have t0 := den0 b
  have sm4 : ∀ {x : Int}, x.natAbs < 2 ^ 4 → Sm x := fun h => sm_of h (by decide)
  have ev := v2 a b
  have n0 : 0 ≤ b.num * (a.den : Int) - a.num * (b.den : Int) := by have := cross le; omega
  have d0 := Int.mul_pos t0 q0
  have db := b8 t4 q4
  have nb : (b.num * (a.den : Int) - a.num * (b.den : Int)).natAbs < 2 ^ 8 := by
    have x1 := b8 r4 q4
    have x2 := b8 p4 t4
    have y1 : 0 ≤ b.num * (a.den : Int) := Int.mul_nonneg (by have := sb.num; omega) (by omega)
    have y2 : 0 ≤ a.num * (b.den : Int) := Int.mul_nonneg (by have := sa.num; omega) (by omega)
    omega
  have S8 := sz_divInt (n := 8) nb db d0
  have p8 := div0 n0 d0
  rw [ev] at S8 p8
  have Sp := sb.sz.pow (k - 1).toNat
  have Sp : Sz 33 (b ^ (k - 1).toNat) := Sp.mono (by omega)
  have pp := pow0 (Rat.le_of_lt sb.p0) (k - 1).toNat
  have kk : kS a b e k.toNat = b ^ (k - 1).toNat * (b - a) * (if e then 1 else 1 - a * b) := by
    unfold kS
    rw [if_neg (by omega), show k.toNat - 1 = (k - 1).toNat by omega]
  refine ⟨rfl, show 4 < 9 by decide, show 5 < 9 by decide, rfl, ?_⟩
  refine at_env [frv a, frv b, .val (.bool e), iv k, iv a.num, iv (a.den : Int), .no, .no, .no] rfl ?_
  refine ⟨rfl, show 6 < 9 by decide, show 7 < 9 by decide, rfl, ?_⟩
  refine at_env [frv a, frv b, .val (.bool e), iv k, iv a.num, iv (a.den : Int), iv b.num, iv (b.den : Int), .no] rfl ?_
  refine ⟨rfl, w_powI (k - 1).toNat (by omega) sb.sz (by omega) (by omega) _ ⟨sm4 r4, sm4 q4, sm4 p4, sm4 t4, sm4 t4, sm4 q4, rfl, w_lowest (n := 8) n0 d0 db (by decide) _ ?_⟩⟩
  rw [ev]
  refine ⟨rfl, w_times (n := 33) (m := 8) pp p8 Sp S8 (by decide) _ ⟨show 8 < 9 by decide, ?_⟩⟩
  have f0 := Rat.mul_nonneg pp p8
  have fs : Sz 41 (b ^ (k - 1).toNat * (b - a)) := Sp.mul S8
  refine at_env [frv a, frv b, .val (.bool e), iv k, iv a.num, iv (a.den : Int), iv b.num, iv (b.den : Int), frv (b ^ (k - 1).toNat * (b - a))] rfl ?_
  rw [kk] at h
  cases e with
  | true =>
    rw [if_pos rfl, Rat.mul_one] at h
    exact h f0 (fs.mono (by decide))
  | false =>
    have ev1 := v1 a b
    have n1 := ab_int sa sb
    have d1 := Int.mul_pos q0 t0
    have db1 := b8 q4 t4
    have nb1 : ((a.den : Int) * (b.den : Int) - a.num * b.num).natAbs < 2 ^ 8 := by
      have x2 : 0 ≤ a.num * b.num := Int.mul_nonneg (by have := sa.num; omega) (by have := sb.num; omega)
      omega
    have S1 := sz_divInt (n := 8) nb1 db1 d1
    have p1 := div0 n1 d1
    rw [ev1] at S1 p1
    have h : 0 ≤ b ^ (k - 1).toNat * (b - a) * (1 - a * b) → Sz 49 (b ^ (k - 1).toNat * (b - a) * (1 - a * b)) → Q (frv (b ^ (k - 1).toNat * (b - a) * (1 - a * b))) := h
    refine ⟨sm4 q4, sm4 t4, sm4 p4, sm4 r4, sm4 q4, sm4 t4, rfl, w_lowest (n := 8) n1 d1 db1 (by decide) _ ?_⟩
    rw [ev1]
    exact ⟨rfl, w_times (n := 41) (m := 8) f0 p1 fs S1 (by decide) _ (h (Rat.mul_nonneg f0 p1) (fs.mul S1))⟩
end K34
set_option Elab.async false
set_option linter.all false
set_option maxRecDepth 100000
set_option maxHeartbeats 4000000
set_option pp.maxSteps 600
namespace K34
open PySem PySem.Spec PyProof.Rows L2 Pq Lb
theorem any_E (lo hi y : Int) : List.any [PyData.int lo, .int hi] (fun z => PyData.eqv z (.int y)) = isE lo hi y := by
  unfold isE
  simp only [List.any_cons, List.any_nil, Bool.or_false]
  have e : ∀ i j : Int, PyData.eqv (.int i) (.int j) = decide (i = j) := fun i j => rfl
  rw [e, e, Bool.decide_or]
  congr 1
  · exact decide_eq_decide.mpr ⟨Eq.symm, Eq.symm⟩
  · exact decide_eq_decide.mpr ⟨Eq.symm, Eq.symm⟩
theorem kS_sz {a b : Rat} (e : Bool) {d : Nat} (sa : St a) (sb : St b) (le : a ≤ b) (hd : d ≤ 9) : Sz 49 (kS a b e d) := by
  obtain ⟨q4, p4⟩ := sa.q5
  obtain ⟨t4, r4⟩ := sb.q5
  have q0 := den0 a
  have t0 := den0 b
  have S1 : Sz 8 (1 - a * b) := by
    have n1 := ab_int sa sb
    have db1 := b8 q4 t4
    have nb1 : ((a.den : Int) * (b.den : Int) - a.num * b.num).natAbs < 2 ^ 8 := by
      have x2 : 0 ≤ a.num * b.num := Int.mul_nonneg (by have := sa.num; omega) (by have := sb.num; omega)
      omega
    rw [← v1 a b]
    exact sz_divInt nb1 db1 (Int.mul_pos q0 t0)
  unfold kS
  by_cases c : d = 0
  · rw [if_pos c]
    cases e with
    | true => exact S1.mono (by decide)
    | false =>
      have qq := b8 q4 q4
      have pp := b8 p4 p4
      have qqt : ((a.den : Int) * (a.den : Int) * (b.den : Int)).natAbs < 2 ^ 12 := by rw [Int.natAbs_mul]; exact mul_bits qq t4
      have ppt : (a.num * a.num * (b.den : Int)).natAbs < 2 ^ 12 := by rw [Int.natAbs_mul]; exact mul_bits pp t4
      have p2 : (2 * a.num).natAbs < 2 ^ 5 := by omega
      have pq : (2 * a.num * (a.den : Int)).natAbs < 2 ^ 9 := by rw [Int.natAbs_mul]; exact mul_bits p2 q4
      have pqr : (2 * a.num * (a.den : Int) * b.num).natAbs < 2 ^ 13 := by rw [Int.natAbs_mul]; exact mul_bits pq r4
      show Sz 49 (1 + a * a - 2 * (a * b))
      rw [← v3 a b]
      have e12 : (2 : Nat) ^ 12 = 4096 := by decide
      have e13 : (2 : Nat) ^ 13 = 8192 := by decide
      have e49 : (2 : Nat) ^ 49 = 562949953421312 := by decide
      exact sz_divInt (by omega) (by omega) (Int.mul_pos (Int.mul_pos q0 q0) t0)
  · rw [if_neg c]
    have n0 : 0 ≤ b.num * (a.den : Int) - a.num * (b.den : Int) := by have := cross le; omega
    have db := b8 t4 q4
    have nb : (b.num * (a.den : Int) - a.num * (b.den : Int)).natAbs < 2 ^ 8 := by
      have x1 := b8 r4 q4
      have y2 : 0 ≤ a.num * (b.den : Int) := Int.mul_nonneg (by have := sa.num; omega) (by omega)
      omega
    have S8 := sz_divInt (n := 8) nb db (Int.mul_pos t0 q0)
    rw [v2 a b] at S8
    have Sp : Sz 33 (b ^ (d - 1)) := (sb.sz.pow (d - 1)).mono (by omega)
    cases e with
    | true => rw [if_pos rfl, Rat.mul_one]; exact (Sp.mul S8).mono (by decide)
    | false => exact (Sp.mul S8).mul S1
theorem inv_sz {a : Rat} (s : St a) : Sz 4 (1 - a)⁻¹ := by
  obtain ⟨q4, p4⟩ := s.q5
  have u0 := s.sub.1
  have pa := s.num
  rw [← v4 s]
  exact sz_divInt q4 (by omega) u0
theorem byR_sz {a : Rat} (s : St a) (e : Bool) : Sz 9 (byR a e) := by
  unfold byR
  refine ((inv_sz s).pow _).mono ?_
  cases e <;> decide
theorem byR0 {a : Rat} (s : St a) (e : Bool) : 0 ≤ byR a e := pow0 (Rat.le_of_lt (Rat.inv_pos.mpr (by have := s.l1; grind))) _
theorem cE_sz {b : Rat} (s : St b) (e : Bool) : Sz 5 (cE b e) := by
  obtain ⟨q4, p4⟩ := s.q5
  obtain ⟨u0, u1, w0, w1⟩ := s.sub
  unfold cE
  cases e with
  | true =>
    show Sz 5 (1 / (1 + b))
    rw [← tl0 s]
    exact sz_divInt (Nat.lt_of_lt_of_le q4 (pow_le (by decide))) w1 w0
  | false =>
    show Sz 5 ((1 - b) / (1 + b))
    rw [← sh0 s]
    exact sz_divInt u1 w1 w0
theorem KR_sz {a b : Rat} {lo hi y z : Int} (sa : St a) (sb : St b) (le : a ≤ b) (hd : (z - y).natAbs ≤ 9) : Sz 63 (KR a b lo hi y z) := ((kS_sz _ sa sb le hd).mul (byR_sz sa _)).mul (cE_sz sb _)
theorem w_row {a b : Rat} {lo hi y : Int} (sa : St a) (sb : St b) (le : a ≤ b) (h0 : 0 ≤ lo) (hl : lo < hi) (h9 : hi ≤ 9) (y0 : lo ≤ y) (y1 : y ≤ hi) (Q : SV → Prop) (h : Q (.val (.tuple ((tb lo (hi + 1) (KR a b lo hi y)).map en)))) : F_row_between [frv a, frv b, iv lo, iv hi, iv y] Q := by
  obtain ⟨q4, p4⟩ := sa.q5
  obtain ⟨t4, r4⟩ := sb.q5
  obtain ⟨u0, u1, _, _⟩ := sa.sub
  obtain ⟨w0, w1, x0, x1⟩ := sb.sub
  have q0 := den0 a
  have t0 := den0 b
  refine ⟨rfl, show 5 < 14 by decide, show 6 < 14 by decide, rfl, ?_⟩
  refine at_env [frv a, frv b, iv lo, iv hi, iv y, iv a.num, iv (a.den : Int), .no, .no, .no, .no, .no, .no, .no] rfl ?_
  refine ⟨rfl, show 7 < 14 by decide, show 8 < 14 by decide, rfl, ?_⟩
  refine at_env [frv a, frv b, iv lo, iv hi, iv y, iv a.num, iv (a.den : Int), iv b.num, iv (b.den : Int), .no, .no, .no, .no, .no] rfl ?_
  refine ⟨show 2 ≤ 1000000 by decide, rfl, rfl, ?_⟩
  refine ⟨show 9 < 14 by decide, ?_⟩
  refine at_env [frv a, frv b, iv lo, iv hi, iv y, iv a.num, iv (a.den : Int), iv b.num, iv (b.den : Int), .val (.bool (isE lo hi y)), .no, .no, .no, .no] (congrArg (fun t : Bool => [frv a, frv b, iv lo, iv hi, iv y, iv a.num, iv (a.den : Int), iv b.num, iv (b.den : Int), .val (.bool t), .no, .no, .no, .no]) ((Bool.false_xor _).trans (any_E lo hi y))) ?_
  refine ⟨rfl, w_lowest (n := 4) (Int.le_of_lt q0) u0 (by have := sa.num; omega) (by decide) _ ?_⟩
  rw [v4 sa]
  refine ⟨rfl, w_powI (if isE lo hi y then 1 else 2) (by cases isE lo hi y <;> rfl) (inv_sz sa) (by split <;> decide) (by split <;> decide) _ ⟨show 10 < 14 by decide, show 0 ≤ 1000000 by decide, show 11 < 14 by decide, ?_⟩⟩
  refine at_env [frv a, frv b, iv lo, iv hi, iv y, iv a.num, iv (a.den : Int), iv b.num, iv (b.den : Int), .val (.bool (isE lo hi y)), frv (byR a (isE lo hi y)), .own true (.list []), .no, .no] rfl ?_
  refine ⟨⟨by omega, by omega, by omega, by omega⟩, ?_⟩
  show forGo _ _ (rgD lo (hi + 1)) _ _
  rw [rgD_I]
  refine for_inv (fun L e => ∃ (z : Int) (u v : SV), lo ≤ z ∧ z ≤ hi + 1 ∧ L = (rgI z (hi + 1)).map .int ∧ e = [frv a, frv b, iv lo, iv hi, iv y, iv a.num, iv (a.den : Int), iv b.num, iv (b.den : Int), .val (.bool (isE lo hi y)), frv (byR a (isE lo hi y)), .own true (.list ((rgI lo z).map fun z => en (z, KR a b lo hi y z))), u, v]) _ _ ⟨lo, .no, .no, by omega, by omega, rfl, by rw [rgI_nil (Int.le_refl lo)]; rfl⟩ ?_ ?_
  · rintro d L e ⟨z, u, v, z0, z1, hL, rfl⟩ N hN
    have lt : z < hi + 1 := by
      rcases Int.lt_or_le z (hi + 1) with w | w
      · exact w
      · rw [rgI_nil w] at hL; cases hL
    rw [rgI_cons lt, List.map_cons] at hL
    injection hL with e1 e2
    subst e1 e2
    have lz : ((rgI lo z).map fun z => en (z, KR a b lo hi y z)).length ≤ 20 := by rw [List.length_map, rgI_len]; omega
    have i5 : 0 ≤ 1 / (1 + b) := by rw [← tl0 sb]; exact div0 (by omega) x0
    have s5 : Sz 5 (1 / (1 + b)) := cE_sz sb true
    have last : ∀ (E : EM), (∀ e, N e → E.nx e) → ∀ s1 : Rat, 0 ≤ s1 → Sz 53 s1 → s1 * byR a (isE lo hi y) * (1 / (1 + b)) = KR a b lo hi y z → (msApp 11 (mTup (maCons (mVar 12) (maCons (mCall 2 F_times (maCons (mCall 2 F_times (maCons (mVar 13) (maCons (mVar 10) maNil))) (maCons (mCall 2 F_lowest (maCons (mVar 8) (maCons (mBin fAdd (mPk 8) (mPk 7)) maNil))) maNil))) maNil)))) [frv a, frv b, iv lo, iv hi, iv y, iv a.num, iv (a.den : Int), iv b.num, iv (b.den : Int), .val (.bool (isE lo hi y)), frv (byR a (isE lo hi y)), .own true (.list ((rgI lo z).map fun z => en (z, KR a b lo hi y z))), iv z, frv s1] E := fun E hE s1 p1 S1 e1 => by
      refine ⟨trivial, rfl, w_times (n := 53) (m := 9) p1 (byR0 sa _) S1 (byR_sz sa _) (by decide) _ ⟨rfl, w_lowest (n := 5) (Int.le_of_lt t0) x0 x1 (by decide) _ ?_⟩⟩
      rw [tl0 sb]
      refine ⟨rfl, w_times (n := 62) (m := 5) (Rat.mul_nonneg p1 (byR0 sa _)) i5 (S1.mul (byR_sz sa _)) s5 (by decide) _ ?_⟩
      rw [e1]
      refine ⟨show 2 ≤ 1000000 by decide, by omega, hE _ (hN _ ⟨z + 1, iv z, frv s1, by omega, by omega, rfl, ?_⟩)⟩
      rw [rgI_app (a := lo) (b := z) (c := z + 1) (by omega) (by omega), rgI_one, List.map_append]
      rfl
    have tail : ∀ (E : EM), (∀ e, N e → E.nx e) → ∀ s0 : Rat, 0 ≤ s0 → Sz 49 s0 → s0 = kS a b (isE lo hi y) (z - y).natAbs → (msSeq (msIf (mTest (toD (mBin (fIn true) (mPk 12) (mTup (maCons (mVar 2) (maCons (mVar 3) maNil)))))) (msSet 13 (mCall 2 F_times (maCons (mVar 13) (maCons (mCall 2 F_lowest (maCons (mBin fSub (mPk 8) (mPk 7)) (maCons (mVar 8) maNil))) maNil)))) msNext) (msApp 11 (mTup (maCons (mVar 12) (maCons (mCall 2 F_times (maCons (mCall 2 F_times (maCons (mVar 13) (maCons (mVar 10) maNil))) (maCons (mCall 2 F_lowest (maCons (mVar 8) (maCons (mBin fAdd (mPk 8) (mPk 7)) maNil))) maNil))) maNil))))) [frv a, frv b, iv lo, iv hi, iv y, iv a.num, iv (a.den : Int), iv b.num, iv (b.den : Int), .val (.bool (isE lo hi y)), frv (byR a (isE lo hi y)), .own true (.list ((rgI lo z).map fun z => en (z, KR a b lo hi y z))), iv z, frv s0] E := fun E hE s0 p0 S0 es => by
      refine ⟨show 2 ≤ 1000000 by decide, rfl, rfl, ?_⟩
      generalize hb : List.any _ _ = bo
      have hb : bo = isE lo hi z := hb.symm.trans (any_E lo hi z)
      cases bo with
      | true =>
        refine last E hE s0 p0 (S0.mono (by decide)) ?_
        rw [es]
        unfold KR
        rw [← hb]
        rfl
      | false =>
        refine ⟨rfl, w_lowest (n := 4) (Int.le_of_lt w0) t0 t4 (by decide) _ ?_⟩
        rw [v5]
        have m0 : (0 : Rat) ≤ 1 - b := by have := sb.l1; grind
        have mS : Sz 4 (1 - b) := by rw [← v5 b]; exact sz_divInt (by have := sb.num; omega) t4 t0
        refine ⟨rfl, w_times (n := 49) (m := 4) p0 m0 S0 mS (by decide) _ ⟨show 13 < 14 by decide, ?_⟩⟩
        refine at_env [frv a, frv b, iv lo, iv hi, iv y, iv a.num, iv (a.den : Int), iv b.num, iv (b.den : Int), .val (.bool (isE lo hi y)), frv (byR a (isE lo hi y)), .own true (.list ((rgI lo z).map fun z => en (z, KR a b lo hi y z))), iv z, frv (s0 * (1 - b))] rfl ?_
        refine last E hE _ (Rat.mul_nonneg p0 m0) (S0.mul mS) ?_
        rw [es]
        unfold KR
        rw [← hb]
        show _ = _ * byR a (isE lo hi y) * ((1 - b) / (1 + b))
        rw [Rat.div_def, Rat.div_def]
        grind
    refine ⟨show 12 < 14 by decide, rfl, w_itself (isE lo hi y) sa sb _ fun p0 S0 => ⟨show 13 < 14 by decide, ?_⟩⟩
    refine at_env [frv a, frv b, iv lo, iv hi, iv y, iv a.num, iv (a.den : Int), iv b.num, iv (b.den : Int), .val (.bool (isE lo hi y)), frv (byR a (isE lo hi y)), .own true (.list ((rgI lo z).map fun z => en (z, KR a b lo hi y z))), iv z, frv (kS a b (isE lo hi y) 0)] rfl ?_
    by_cases c : z = y
    · subst c
      refine iteDn (fun g => absurd rfl g) fun _ => ?_
      exact tail _ (fun e h => h) _ p0 (S0.mono (by decide)) (by rw [show (z - z).natAbs = 0 by omega])
    · refine iteDn (fun _ => ?_) fun g => absurd g c
      have ab : (if z - y < 0 then -(z - y) else z - y) = ((z - y).natAbs : Int) := by split <;> omega
      refine ⟨rfl, ?_⟩
      show F_on_another [frv a, frv b, .val (.bool _), iv (if z - y < 0 then -(z - y) else z - y)] _
      rw [ab]
      refine w_another (isE lo hi y) (k := ((z - y).natAbs : Int)) sa sb le (by omega) (by omega) _ fun p1 S1 => ⟨show 13 < 14 by decide, ?_⟩
      refine at_env [frv a, frv b, iv lo, iv hi, iv y, iv a.num, iv (a.den : Int), iv b.num, iv (b.den : Int), .val (.bool (isE lo hi y)), frv (byR a (isE lo hi y)), .own true (.list ((rgI lo z).map fun z => en (z, KR a b lo hi y z))), iv z, frv (kS a b (isE lo hi y) (z - y).natAbs)] rfl ?_
      exact tail _ (fun e h => h) _ p1 S1 rfl
  · rintro e ⟨z, u, v, z0, z1, hL, rfl⟩
    have ez : z = hi + 1 := by
      rcases Int.lt_or_le z (hi + 1) with w | w
      · rw [rgI_cons w] at hL; cases hL
      · omega
    subst ez
    refine ⟨rfl, w_mgF (n := 63) (fun z a b => ⟨KR0 sa sb le, KR_sz sa sb le (by omega)⟩) (by decide) (by omega) _ h⟩
end K34
set_option Elab.async false
set_option linter.all false
set_option maxRecDepth 100000
set_option maxHeartbeats 4000000
set_option pp.maxSteps 600
namespace K34
open PySem PySem.Spec PyProof.Rows L2 Pq Lb
theorem lc_mapL {α : Type} {env : En} {g : MG} {me : ME} (g1 f : α → Da) : ∀ (L : List α) (acc : List Da) (Q : List Da → Prop),
    (∀ x ∈ L, ∀ (K : Da → Prop), K (f x) → g (g1 x) env fun e2 => me e2 fun r _ => (match r with
      | .val x => K x
      | .own _ x => K x
      | _ => False)) → Q (acc ++ L.map f) → lcGo env g mYes me (L.map g1) acc Q
  | [], acc, Q, _, q => by
    show Q acc
    rw [List.map_nil, List.append_nil] at q
    exact q
  | x :: L, acc, Q, h, q => by
    rw [List.map_cons, lcGo]
    refine h x List.mem_cons_self (fun y => lcGo env g mYes me (L.map g1) (acc ++ [y]) Q) ?_
    refine lc_mapL g1 f L _ Q (fun d hd => h d (List.mem_cons_of_mem _ hd)) ?_
    rw [List.append_assoc]
    exact q
def rowsD (lo hi : Int) (R : Int → Int → Rat) : List Da := (rgI lo hi).map fun y => .tuple ((tb lo hi (R y)).map en)
theorem rgI_get {lo hi y : Int} (h0 : lo ≤ y) (h1 : y < hi) : (rgI lo hi)[(y - lo).toNat]? = some y := by
  rw [rgI_app (a := lo) (b := y) (c := hi) h0 (by omega), List.getElem?_append_right (by rw [rgI_len]; omega), rgI_len, Nat.sub_self, rgI_cons h1]
  rfl
theorem w_rowsB {a b : Rat} {lo hi : Int} (sa : St a) (sb : St b) (h0 : 0 ≤ lo) (hl : lo ≤ hi) (h9 : hi ≤ 9) (Q : SV → Prop) (Y : Ex → Prop) (h : a ≤ b → Q (.val (.tuple (rowsD lo (hi + 1) (RB a b lo hi))))) (hx : b < a → Y ⟨"NoRows", []⟩) : FX_rows_between [frv a, frv b, iv lo, iv hi] Q Y := by
  refine ⟨rfl, w_less sb.sz sa.sz (by decide) (by decide) _ (iteD (fun c => hx c) fun c => ?_)⟩
  have le : a ≤ b := Rat.not_lt.mp c
  have h := h le
  clear c
  refine iteD (fun c => ?_) fun c => ?_
  · have c : lo = hi := c
    subst c
    have e : rowsD lo (lo + 1) (RB a b lo lo) = [.tuple [.tuple [.int lo, .tuple [.int 1, .int 1]]]] := by
      have e1 : RB a b lo lo = fun _ _ => 1 := by
        funext y z
        unfold RB
        rw [if_pos rfl]
      rw [e1]
      unfold rowsD tb
      rw [rgI_one]
      rfl
    rw [e] at h
    exact ⟨show 2 ≤ 1000000 by decide, show 2 ≤ 1000000 by decide, show 1 ≤ 1000000 by decide, show 1 ≤ 1000000 by decide, h⟩
  · have c : lo ≠ hi := c
    have eR : RB a b lo hi = KR a b lo hi := by funext y z; unfold RB; rw [if_neg c]
    rw [eR] at h
    refine ⟨⟨by omega, by omega, by omega, by omega⟩, ⟨⟨?_, fun i hi => ?_⟩, ?_⟩⟩
    · show (rgD lo (hi + 1)).length ≤ 1000000
      rw [rgD_I, List.length_map, rgI_len]
      omega
    · rw [List.mem_singleton.mp hi]; trivial
    · show lcGo _ _ _ _ (rgD lo (hi + 1)) _ _
      rw [rgD_I]
      refine lc_mapL .int (fun y => .tuple ((tb lo (hi + 1) (KR a b lo hi y)).map en)) (rgI lo (hi + 1)) [] _ (fun y hy K hK => ⟨show 4 < 5 by decide, rfl, ?_⟩) ?_
      · have := mem_rgI.mp hy
        exact w_row sa sb le h0 (by omega) h9 this.1 (by omega) _ hK
      · exact h
end K34
set_option Elab.async false
set_option linter.all false
set_option maxRecDepth 100000
set_option maxHeartbeats 4000000
set_option pp.maxSteps 700
namespace K34
open PySem PySem.Spec PyProof.Rows L2 Pq Lb
theorem LaM_laF {b : Rat} (s : St b) {lo hi n z : Int} (o : LadOk n lo hi) (hl : lo < hi) (z0 : lo ≤ z) (z1 : z ≤ hi) : LaM b lo hi n z = laF b n lo hi z := by
  rw [laF_lad s o (by omega) z0 z1]
  have n0 := o.ln
  have n1 := o.nh
  have h1 := s.one_add
  by_cases c : z = lo
  · subst c
    have hE : isE z hi z = true := decide_eq_true (Or.inl rfl)
    have e : (z - n).natAbs = (n - z).toNat := by omega
    have e1 : ladS b n z hi z = tlR b (n - z) := by unfold ladS; rw [if_pos rfl]
    have e2 : tlR b (n - z) = 1 / (1 + b) * b ^ (n - z).toNat := by unfold tlR; rw [if_pos (by omega)]
    rw [e1, e2, ← e]
    unfold LaM cE
    rw [hE, if_pos rfl]
  · by_cases d : z = hi
    · subst d
      have hE : isE lo z z = true := decide_eq_true (Or.inr rfl)
      have e : (z - n).natAbs = (z - n).toNat := by omega
      have e1 : ladS b n lo z z = tlR b (z - n) := by unfold ladS; rw [if_neg c, if_pos rfl]
      have e2 : tlR b (z - n) = 1 / (1 + b) * b ^ (z - n).toNat := by unfold tlR; rw [if_pos (by omega)]
      rw [e1, e2, ← e]
      unfold LaM cE
      rw [hE, if_pos rfl]
    · have hE : isE lo hi z = false := decide_eq_false (fun w => w.elim c d)
      have e1 : ladS b n lo hi z = shR b (z - n) := by unfold ladS; rw [if_neg c, if_neg d]
      rw [e1]
      unfold LaM cE shR
      rw [hE, if_neg Bool.false_ne_true]
theorem LaM_one {b : Rat} (s : St b) {lo hi n : Int} (o : LadOk n lo hi) (hl : lo < hi) : qsum ((rgI lo (hi + 1)).map (LaM b lo hi n)) = 1 := by
  rw [← laF_sum s o]
  congr 1
  apply List.map_congr_left
  intro z hz
  have hz := mem_rgI.mp hz
  exact LaM_laF s o hl hz.1 (by omega)
theorem comp {a b : Rat} {lo hi n z : Int} (sa : St a) (hl : lo < hi) (n0 : lo ≤ n) (n1 : n ≤ hi) (z0 : lo ≤ z) (z1 : z ≤ hi) : qsum ((rgI lo (hi + 1)).map fun y => LaM a lo hi n y * KR a b lo hi y z) = LaM b lo hi n z := by
  have e1 : ((rgI lo (hi + 1)).map fun y => LaM a lo hi n y * KR a b lo hi y z) = (rgI lo (hi + 1)).map fun y => qsum ((rgI lo (hi + 1)).map fun m => LaM b lo hi m z * (LaM a lo hi n y * tD a lo hi y m)) := by
    apply List.map_congr_left
    intro y hy
    have hy := mem_rgI.mp hy
    rw [KR_form hy.1 (by omega) hl z0 z1, ← qsum_mulf]
    congr 1
    apply List.map_congr_left
    intro m _
    grind
  rw [e1, qsum_swap]
  have e3 : ((rgI lo (hi + 1)).map fun m => qsum ((rgI lo (hi + 1)).map fun y => LaM b lo hi m z * (LaM a lo hi n y * tD a lo hi y m))) = (rgI lo (hi + 1)).map fun m => if m = n then LaM b lo hi n z else 0 := by
    apply List.map_congr_left
    intro m hm
    have hm := mem_rgI.mp hm
    rw [qsum_mulf, LaM_tD sa hl n0 n1 hm.1 (by omega)]
    by_cases d : n = m
    · rw [if_pos d, if_pos d.symm, Rat.mul_one, d]
    · rw [if_neg d, if_neg (fun w => d w.symm), Rat.mul_zero]
  rw [e3, qsum_delta, if_pos ⟨n0, by omega⟩]
theorem tD_one {a : Rat} {lo hi y : Int} (s : St a) (hl : lo < hi) (y0 : lo ≤ y) (y1 : y ≤ hi) : qsum ((rgI lo (hi + 1)).map (tD a lo hi y)) = 1 := by
  have h1 := ne1 s
  have e : ((rgI lo (hi + 1)).map (tD a lo hi y)) = (rgI lo (hi + 1)).map fun n => byR a (isE lo hi y) * (if n = y then (if isE lo hi y then 1 else 1 + a * a) else if n = y - 1 ∨ n = y + 1 then (fun _ => -a) n else 0) := List.map_congr_left fun n _ => rfl
  rw [e, qsum_mulf, qsum_tri (if isE lo hi y then 1 else 1 + a * a) (fun _ => -a) y0 y1]
  by_cases c : y = lo
  · subst c
    have hE : isE y hi y = true := decide_eq_true (Or.inl rfl)
    rw [hE, if_neg (Int.lt_irrefl y), if_pos hl]
    unfold byR
    rw [if_pos rfl, if_pos rfl, Rat.pow_succ, Rat.pow_zero, Rat.one_mul]
    have := Rat.mul_inv_cancel _ h1
    grind
  · by_cases d : y = hi
    · subst d
      have hE : isE lo y y = true := decide_eq_true (Or.inr rfl)
      rw [hE, if_pos (by omega : lo < y), if_neg (Int.lt_irrefl y)]
      unfold byR
      rw [if_pos rfl, if_pos rfl, Rat.pow_succ, Rat.pow_zero, Rat.one_mul]
      have := Rat.mul_inv_cancel _ h1
      grind
    · have hE : isE lo hi y = false := decide_eq_false (fun w => w.elim c d)
      rw [hE, if_pos (by omega : lo < y), if_pos (by omega : y < hi)]
      unfold byR
      rw [if_neg Bool.false_ne_true, if_neg Bool.false_ne_true, Rat.pow_succ, Rat.pow_succ, Rat.pow_zero, Rat.one_mul]
      have := Rat.mul_inv_cancel _ h1
      grind
theorem KR_one {a b : Rat} {lo hi y : Int} (sa : St a) (sb : St b) (l0 : 0 ≤ lo) (h9 : hi ≤ 9) (hl : lo < hi) (y0 : lo ≤ y) (y1 : y ≤ hi) : qsum ((rgI lo (hi + 1)).map (KR a b lo hi y)) = 1 := by
  have e1 : (rgI lo (hi + 1)).map (KR a b lo hi y) = (rgI lo (hi + 1)).map fun z => qsum ((rgI lo (hi + 1)).map fun n => tD a lo hi y n * LaM b lo hi n z) := by
    apply List.map_congr_left
    intro z hz
    have hz := mem_rgI.mp hz
    exact KR_form y0 y1 hl hz.1 (by omega)
  rw [e1, qsum_swap, ← tD_one sa hl y0 y1]
  congr 1
  apply List.map_congr_left
  intro n hn
  have hn := mem_rgI.mp hn
  rw [qsum_mulf, LaM_one sb ⟨l0, hn.1, by omega, by omega⟩ hl, Rat.mul_one]
end K34
set_option Elab.async false
set_option linter.all false
set_option maxRecDepth 100000
set_option maxHeartbeats 4000000
set_option pp.maxSteps 700
namespace K34
open PySem PySem.Spec PyProof.Rows L2 Pq Lb
/-! ### the law's ladder -/
def gI (a : Rat) (lo hi n y : Int) : Int × Int := if lo = hi then (1, 1) else ((if isE lo hi y then (a.den : Int) else (a.den : Int) - a.num) * a.num ^ (y - n).natAbs, ((a.den : Int) + a.num) * (a.den : Int) ^ (y - n).natAbs)
def tvI (p : Int × Int) : Da := .tuple [.int p.1, .int p.2]
def LaS (a : Rat) (lo hi n y : Int) : Rat := if lo = hi then 1 else LaM a lo hi n y
structure GOk (a : Rat) (lo hi n y : Int) : Prop where
  t0 : 0 ≤ (gI a lo hi n y).1
  b0 : 0 < (gI a lo hi n y).2
  tb : (gI a lo hi n y).1.natAbs < 2 ^ 45
  bb : (gI a lo hi n y).2.natAbs < 2 ^ 45
  eq : ((gI a lo hi n y).1 : Rat) / ((gI a lo hi n y).2 : Rat) = LaS a lo hi n y
theorem pow45 {x : Int} (h : x.natAbs < 2 ^ 4) {k : Nat} (hk : k ≤ 9) : (x ^ k).natAbs < 2 ^ 37 := by
  rw [Int.natAbs_pow]
  refine Nat.lt_of_lt_of_le (pow_bits h k) (Nat.pow_le_pow_right (by decide) (by omega))
theorem pw_ne {q : Rat} (h : q ≠ 0) : ∀ k : Nat, q ^ k ≠ 0
  | 0 => by rw [Rat.pow_zero]; decide
  | k + 1 => by
    rw [Rat.pow_succ]
    intro z
    rcases Rat.mul_eq_zero.mp z with z | z
    · exact pw_ne h k z
    · exact h z
theorem mpow (a b : Rat) : ∀ k : Nat, (a * b) ^ k = a ^ k * b ^ k
  | 0 => by rw [Rat.pow_zero, Rat.pow_zero, Rat.pow_zero, Rat.one_mul]
  | k + 1 => by
    rw [Rat.pow_succ, Rat.pow_succ, Rat.pow_succ, mpow a b k]
    grind
theorem la_eq {p q : Int} {a : Rat} (q0 : (q : Rat) ≠ 0) (h1 : (1 + a : Rat) ≠ 0) (hp : (p : Rat) = a * (q : Rat)) (k : Nat) (c : Bool) : (((if c then q else q - p) * p ^ k : Int) : Rat) / (((q + p) * q ^ k : Int) : Rat) = (if c then 1 else 1 - a) / (1 + a) * a ^ k := by
  have e1 : (((if c then q else q - p) * p ^ k : Int) : Rat) = ((if c then 1 else 1 - a) * a ^ k) * ((q : Rat) * (q : Rat) ^ k) := by
    rw [Rat.intCast_mul, Rat.intCast_pow, hp, mpow]
    cases c with
    | true => simp only [if_true]; grind
    | false =>
      simp only [Bool.false_eq_true, if_false]
      rw [Rat.intCast_sub, hp]
      grind
  have e2 : (((q + p) * q ^ k : Int) : Rat) = (1 + a) * ((q : Rat) * (q : Rat) ^ k) := by
    rw [Rat.intCast_mul, Rat.intCast_pow, Rat.intCast_add, hp]
    grind
  have n0 : (q : Rat) * (q : Rat) ^ k ≠ 0 := by
    have : (q : Rat) ^ k ≠ 0 := pw_ne q0 k
    intro z
    rcases Rat.mul_eq_zero.mp z with z | z
    · exact q0 z
    · exact this z
  rw [e1, e2]
  generalize (q : Rat) * (q : Rat) ^ k = m at *
  generalize (if c then (1 : Rat) else 1 - a) = u
  grind
theorem g_ok {a : Rat} {lo hi n y : Int} (sa : St a) (h0 : 0 ≤ lo) (h9 : hi ≤ 9) (n0 : lo ≤ n) (n1 : n ≤ hi) (y0 : lo ≤ y) (y1 : y ≤ hi) : GOk a lo hi n y := by
  by_cases c : lo = hi
  · have e : gI a lo hi n y = (1, 1) := if_pos c
    exact ⟨by rw [e]; decide, by rw [e]; decide, by rw [e]; decide, by rw [e]; decide, by rw [e]; unfold LaS; rw [if_pos c]; decide +kernel⟩
  · have e : gI a lo hi n y = ((if isE lo hi y then (a.den : Int) else (a.den : Int) - a.num) * a.num ^ (y - n).natAbs, ((a.den : Int) + a.num) * (a.den : Int) ^ (y - n).natAbs) := if_neg c
    obtain ⟨q4, p4⟩ := sa.q5
    obtain ⟨u0, u1, w0, w1⟩ := sa.sub
    have q0 := den0 a
    have p0 := sa.num
    have k9 : (y - n).natAbs ≤ 9 := by omega
    have bp := pow45 p4 k9
    have bq := pow45 q4 k9
    have pp : 0 ≤ a.num ^ (y - n).natAbs := Int.le_of_lt (Int.pow_pos p0)
    have qp : 0 < (a.den : Int) ^ (y - n).natAbs := Int.pow_pos q0
    have f0 : 0 ≤ (if isE lo hi y then (a.den : Int) else (a.den : Int) - a.num) := by split <;> omega
    have fb : (if isE lo hi y then (a.den : Int) else (a.den : Int) - a.num).natAbs < 2 ^ 5 := by
      split
      · exact Nat.lt_of_lt_of_le q4 (by decide)
      · exact u1
    refine ⟨?_, ?_, ?_, ?_, ?_⟩
    · rw [e]; exact Int.mul_nonneg f0 pp
    · rw [e]; exact Int.mul_pos w0 qp
    · rw [e]
      dsimp only
      rw [Int.natAbs_mul]
      exact Nat.lt_of_lt_of_le (mul_bits (n := 5) (m := 37) fb bp) (by decide)
    · rw [e]
      dsimp only
      rw [Int.natAbs_mul]
      exact Nat.lt_of_lt_of_le (mul_bits (n := 5) (m := 37) w1 bq) (by decide)
    · rw [e]
      unfold LaS LaM cE
      rw [if_neg c]
      exact la_eq (cast_ne q0) sa.one_add (nd a) _ _
end K34
set_option Elab.async false
set_option linter.all false
set_option maxRecDepth 100000
set_option maxHeartbeats 4000000
set_option pp.maxSteps 700
namespace K34
open PySem PySem.Spec PyProof.Rows L2 Pq Lb
theorem w_lladder {a : Rat} {lo hi n : Int} (sa : St a) (h0 : 0 ≤ lo) (hl : lo ≤ hi) (h9 : hi ≤ 9) (n0 : lo ≤ n) (n1 : n ≤ hi) (Q : SV → Prop) (q1 : Q (.own true (.list ((rgI lo (hi + 1)).map fun y => tvI (gI a lo hi n y))))) (q2 : Q (.val (.list ((rgI lo (hi + 1)).map fun y => tvI (gI a lo hi n y))))) : F_law_ladder [frv a, iv lo, iv hi, iv n] Q := by
  obtain ⟨q4, p4⟩ := sa.q5
  obtain ⟨u0, u1, w0, w1⟩ := sa.sub
  have hp := @w_lpow
  show M_law_ladder [frv a, iv lo, iv hi, iv n, .no, .no, .no, .no, .no] ⟨fun _ => Q (.val .none), Q, fun _ => False, fun _ => False⟩
  unfold M_law_ladder
  generalize F_law_power = F at hp ⊢
  refine ⟨rfl, show 4 < 9 by decide, show 5 < 9 by decide, rfl, ?_⟩
  refine at_env [frv a, iv lo, iv hi, iv n, iv a.num, iv (a.den : Int), .no, .no, .no] rfl ?_
  dsimp only
  refine iteD (fun c => ?_) fun c => ?_
  · have c : lo = hi := c
    subst c
    rw [rgI_one] at q1
    have e : gI a lo lo n lo = (1, 1) := if_pos rfl
    rw [List.map_cons, e] at q1
    exact ⟨show 2 ≤ 1000000 by decide, show 1 ≤ 1000000 by decide, q1⟩
  · have c : lo ≠ hi := c
    refine ⟨show 0 ≤ 1000000 by decide, show 6 < 9 by decide, ⟨by omega, by omega, by omega, by omega⟩, ?_⟩
    show forGo _ _ (rgD lo (hi + 1)) _ _
    rw [rgD_I]
    refine for_L .int (fun done e => ∃ u v : SV, e = [frv a, iv lo, iv hi, iv n, iv a.num, iv (a.den : Int), .own true (.list (done.map fun y => tvI (gI a lo hi n y))), u, v]) (rgI lo (hi + 1)) _ ⟨.no, .no, rfl⟩ ?_ ?_
    · rintro done y rest hL e ⟨u, v, rfl⟩ N hN
      obtain ⟨y0, y1⟩ := mem_rgI.mp (show y ∈ rgI lo (hi + 1) by rw [hL]; exact List.mem_append_right _ List.mem_cons_self)
      have dl := congrArg List.length hL
      rw [rgI_len, List.length_append, List.length_cons] at dl
      have ek : (if y - n < 0 then -(y - n) else y - n) = (((y - n).natAbs : Nat) : Int) := by split <;> omega
      have k9 : (y - n).natAbs ≤ 9 := by omega
      refine ⟨show 7 < 9 by decide, show 8 < 9 by decide, ?_⟩
      rw [ek]
      refine at_env [frv a, iv lo, iv hi, iv n, iv a.num, iv (a.den : Int), .own true (.list (done.map fun y => tvI (gI a lo hi n y))), iv y, iv (((y - n).natAbs : Nat) : Int)] rfl ?_
      dsimp only
      refine ⟨trivial, show 2 ≤ 1000000 by decide, show 2 ≤ 1000000 by decide, rfl, rfl, ?_⟩
      generalize hb : List.any _ _ = bo
      have hb : bo = isE lo hi y := hb.symm.trans (any_E lo hi y)
      have fb : (if isE lo hi y then (a.den : Int) else (a.den : Int) - a.num).natAbs < 2 ^ 5 := by
        split
        · exact Nat.lt_of_lt_of_le q4 (by decide)
        · exact u1
      have bp := pow45 p4 k9
      have bq := pow45 q4 k9
      have go : ∀ K : SV → Prop, K (iv (if isE lo hi y then (a.den : Int) else (a.den : Int) - a.num)) → fIx (.list [.int ((a.den : Int) - a.num), .int (a.den : Int)]) (.int (if xor false bo = true then (1 : Int) else 0)) K := fun K k => by
        rw [hb]
        cases hE : isE lo hi y with
        | true => rw [hE] at k; exact ix (d := .int (a.den : Int)) rfl k
        | false => rw [hE] at k; exact ix (d := .int ((a.den : Int) - a.num)) rfl k
      refine go _ ⟨rfl, hp (n := 4) (y - n).natAbs rfl p4 (by omega) (by omega) _ ⟨sm_of (n := 5) fb (by decide), sm_of (n := 37) bp (by decide), ?_⟩⟩
      refine ⟨rfl, hp (n := 4) (y - n).natAbs rfl q4 (by omega) (by omega) _ ⟨sm_of (n := 5) w1 (by decide), sm_of (n := 37) bq (by decide), show 2 ≤ 1000000 by decide, by rw [List.length_map]; omega, hN _ ⟨iv y, iv (((y - n).natAbs : Nat) : Int), ?_⟩⟩⟩
      rw [List.map_append]
      have e : tvI (gI a lo hi n y) = .tuple [.int ((if isE lo hi y then (a.den : Int) else (a.den : Int) - a.num) * a.num ^ (y - n).natAbs), .int (((a.den : Int) + a.num) * (a.den : Int) ^ (y - n).natAbs)] := by
        unfold tvI gI
        rw [if_neg c]
      rw [List.map_cons, List.map_nil, e]
      rfl
    · rintro e ⟨u, v, rfl⟩
      exact q2
/-! ### adding shares up -/
structure Cm (j : Nat) (t b : Int) (q : Rat) : Prop where
  t0 : 0 ≤ t
  b0 : 0 < b
  tb : t.natAbs < 2 ^ (120 * j + 1)
  bb : b.natAbs < 2 ^ (120 * j + 1)
  eq : (t : Rat) / (b : Rat) = q
theorem cm0 : Cm 0 0 1 0 := ⟨by decide, by decide, by decide, by decide, by decide +kernel⟩
theorem Cm.mono {j : Nat} {t b : Int} {q : Rat} (h : Cm j t b q) {k : Nat} (l : j ≤ k) : Cm k t b q := ⟨h.t0, h.b0, Nat.lt_of_lt_of_le h.tb (Nat.pow_le_pow_right (by decide) (by omega)), Nat.lt_of_lt_of_le h.bb (Nat.pow_le_pow_right (by decide) (by omega)), h.eq⟩
theorem Cm.step {j : Nat} {t b u x : Int} {q r : Rat} (h : Cm j t b q) (u0 : 0 ≤ u) (x0 : 0 < x) (ub : u.natAbs < 2 ^ 115) (xb : x.natAbs < 2 ^ 115) (e : (u : Rat) / (x : Rat) = r) : Cm (j + 1) (t * x + u * b) (b * x) (q + r) := by
  have b1 : (t * x).natAbs < 2 ^ (120 * j + 1 + 115) := by rw [Int.natAbs_mul]; exact mul_bits h.tb xb
  have b2 : (u * b).natAbs < 2 ^ (120 * j + 1 + 115) := by rw [Int.natAbs_mul, Nat.mul_comm]; exact mul_bits h.bb ub
  have b3 : (b * x).natAbs < 2 ^ (120 * j + 1 + 115) := by rw [Int.natAbs_mul]; exact mul_bits h.bb xb
  refine ⟨?_, Int.mul_pos h.b0 x0, ?_, Nat.lt_of_lt_of_le b3 (Nat.pow_le_pow_right (by decide) (by omega)), ?_⟩
  · have := Int.mul_nonneg h.t0 (Int.le_of_lt x0)
    have := Int.mul_nonneg u0 (Int.le_of_lt h.b0)
    omega
  · have s := add_bits b1 b2
    have := Int.natAbs_add_le (t * x) (u * b)
    refine Nat.lt_of_lt_of_le (Nat.lt_of_le_of_lt this s) (Nat.pow_le_pow_right (by decide) (by omega))
  · have h1 := cast_ne h.b0
    have h2 := cast_ne x0
    rw [← h.eq, ← e, Rat.intCast_add, Rat.intCast_mul, Rat.intCast_mul, Rat.intCast_mul]
    generalize (t : Rat) = T at *
    generalize (u : Rat) = U at *
    generalize (b : Rat) = B at *
    generalize (x : Rat) = X at *
    grind
end K34
set_option Elab.async false
set_option linter.all false
set_option maxRecDepth 100000
set_option maxHeartbeats 4000000
set_option pp.maxSteps 700
namespace K34
open PySem PySem.Spec PyProof.Rows L2 Pq Lb
theorem tb_pw (lo hi : Int) (f : Int → Rat) : ((tb lo hi f).map (·.1)).Pairwise (· < ·) := by
  have e : (tb lo hi f).map (·.1) = (rgI lo hi).filter fun y => decide (0 < f y) := by
    unfold tb
    rw [List.map_map]
    exact List.map_id _
  rw [e]
  refine List.Pairwise.filter _ ?_
  unfold rgI
  rw [List.pairwise_map]
  exact List.pairwise_lt_range.imp fun h => by omega
theorem tb_mem {lo hi : Int} {f : Int → Rat} {p : Int × Rat} (h : p ∈ tb lo hi f) : lo ≤ p.1 ∧ p.1 < hi ∧ 0 < f p.1 ∧ p.2 = f p.1 := by
  rw [tb_form] at h
  obtain ⟨y, hy, rfl⟩ := List.mem_map.mp h
  have h1 := List.mem_filter.mp hy
  have := mem_rgI.mp h1.1
  exact ⟨this.1, this.2, of_decide_eq_true h1.2, rfl⟩
abbrev laL (a : Rat) (lo hi n : Int) : Da := .list ((rgI lo (hi + 1)).map fun y => tvI (gI a lo hi n y))
theorem la_at {a : Rat} {lo hi n y : Int} (h0 : lo ≤ y) (h1 : y < hi + 1) : ixD (laL a lo hi n) (y - lo) = some (tvI (gI a lo hi n y)) := by
  show atI _ (y - lo) = _
  have ei : y - lo = ((y - lo).toNat : Int) := by omega
  rw [ei]
  refine atI_nat ?_
  rw [List.getElem?_map, rgI_get h0 h1]
  rfl
def pS (a b : Rat) (lo hi n z k : Int) : Rat := qsum ((rgI lo k).map fun y => LaS a lo hi n y * RB a b lo hi y z)
theorem pS_all {a b : Rat} {lo hi n z : Int} (sa : St a) (hl : lo ≤ hi) (n0 : lo ≤ n) (n1 : n ≤ hi) (z0 : lo ≤ z) (z1 : z ≤ hi) : pS a b lo hi n z (hi + 1) = LaS b lo hi n z := by
  unfold pS LaS RB
  by_cases c : lo = hi
  · subst c
    rw [if_pos rfl, rgI_one]
    show (if lo = lo then (1 : Rat) else _) * (if lo = lo then (1 : Rat) else _) + 0 = 1
    rw [if_pos rfl, if_pos rfl, Rat.add_zero, Rat.mul_one]
  · rw [if_neg c]
    have e : ((rgI lo (hi + 1)).map fun y => (if lo = hi then (1 : Rat) else LaM a lo hi n y) * (if lo = hi then (1 : Rat) else KR a b lo hi y z)) = (rgI lo (hi + 1)).map fun y => LaM a lo hi n y * KR a b lo hi y z := by
      apply List.map_congr_left
      intro y _
      rw [if_neg c, if_neg c]
    rw [e]
    exact comp sa (by omega) n0 n1 z0 z1
theorem RB_sz {a b : Rat} {lo hi : Int} (sa : St a) (sb : St b) (le : a ≤ b) (h9 : hi - lo ≤ 9) : ∀ y z, lo ≤ y → y < hi + 1 → lo ≤ z → z < hi + 1 → 0 ≤ RB a b lo hi y z ∧ Sz 63 (RB a b lo hi y z) := fun y z y0 y1 z0 z1 => by
  refine ⟨RB0 sa sb le, ?_⟩
  unfold RB
  split
  · exact ⟨show 1 < 2 ^ 63 by decide, show 1 < 2 ^ 63 by decide⟩
  · exact KR_sz sa sb le (by omega)
theorem RB_sz' {a b : Rat} {lo hi : Int} (sa : St a) (sb : St b) (le : a ≤ b) (h0 : 0 ≤ lo) (h9 : hi ≤ 9) : ∀ y z, lo ≤ y → y < hi + 1 → lo ≤ z → z < hi + 1 → 0 ≤ RB a b lo hi y z ∧ Sz 63 (RB a b lo hi y z) := RB_sz sa sb le (by omega)
end K34
set_option Elab.async false
set_option linter.all false
set_option maxRecDepth 100000
set_option maxHeartbeats 4000000
set_option pp.maxSteps 900
namespace K34
open PySem PySem.Spec PyProof.Rows L2 Pq Lb
theorem share_mul {p q : Int} {s u : Rat} (q0 : 0 < q) (h : (p : Rat) / (q : Rat) = s) : ((p * u.num : Int) : Rat) / ((q * (u.den : Int) : Int) : Rat) = s * u := by
  have h1 := cast_ne q0
  have h2 := cast_ne (den0 u)
  rw [← h, Rat.intCast_mul, Rat.intCast_mul, nd u]
  generalize (p : Rat) = P at *
  generalize (q : Rat) = Q at *
  generalize ((u.den : Int) : Rat) = D at *
  grind
theorem cross_eq {t b c d : Int} (b0 : 0 < b) (d0 : 0 < d) (h : (t : Rat) / (b : Rat) = (c : Rat) / (d : Rat)) : t * d = c * b := by
  have h1 := cast_ne b0
  have h2 := cast_ne d0
  have e : ((t * d : Int) : Rat) = ((c * b : Int) : Rat) := by
    rw [Rat.intCast_mul, Rat.intCast_mul]
    generalize (t : Rat) = T at *
    generalize (b : Rat) = B at *
    generalize (c : Rat) = C at *
    generalize (d : Rat) = D at *
    grind
  exact Rat.intCast_inj.mp e
theorem enD_map (f : Int → Da) : ∀ (m : Nat) (lo hi : Int) (k : Nat), (hi - lo).toNat = m → enD k ((rgI lo hi).map f) = (rgI lo hi).map fun y => .dict [(.bool true, .int ((k : Int) + (y - lo))), (.bool true, f y)]
  | 0, lo, hi, k, h => by
    rw [rgI_nil (by omega)]
    rfl
  | m + 1, lo, hi, k, h => by
    rw [rgI_cons (by omega), List.map_cons, List.map_cons, enD, enD_map f m (lo + 1) hi (k + 1) (by omega)]
    have e : ∀ y : Int, ((k + 1 : Nat) : Int) + (y - (lo + 1)) = (k : Int) + (y - lo) := fun y => by omega
    have e0 : (k : Int) + (lo - lo) = (k : Int) := by omega
    simp only [e, e0]
theorem tb_has {lo hi z : Int} {f : Int → Rat} (z0 : lo ≤ z) (z1 : z < hi) (h : 0 < f z) : (z, f z) ∈ tb lo hi f := by
  rw [tb_form]
  exact List.mem_map.mpr ⟨z, List.mem_filter.mpr ⟨mem_rgI.mpr ⟨z0, z1⟩, decide_eq_true h⟩, rfl⟩
theorem ifl_b {b : Bool} {c : MT} {m : MS} {env : En} {E : EM} (h : ∀ Q : Bool → En → Prop, Q b env → c env Q) (k1 : b = true → m env E) (k2 : b = false → E.nx env) : msIf c m msNext env E := h _ (by
  cases b with
  | true => rw [if_pos rfl]; exact k1 rfl
  | false => rw [if_neg Bool.false_ne_true]; exact k2 rfl)
def keyed (z : Int) (L : Pr) : Bool := L.any fun p => decide (p.1 = z)
theorem w_comes {a b : Rat} {lo hi n : Int} (sa : St a) (sb : St b) (le : a ≤ b) (h0 : 0 ≤ lo) (hl : lo ≤ hi) (h9 : hi ≤ 9) (n0 : lo ≤ n) (n1 : n ≤ hi) (Q : SV → Prop) (q : Q (.val (.bool true))) :
    F_law_comes [.val (laL a lo hi n), .val (.tuple (rowsD lo (hi + 1) (RB a b lo hi))), .val (laL b lo hi n), iv lo, iv hi] Q := by
  have rs := RB_sz' sa sb le h0 h9
  show M_law_comes [.val (laL a lo hi n), .val (.tuple (rowsD lo (hi + 1) (RB a b lo hi))), .val (laL b lo hi n), iv lo, iv hi, .no, .no, .no, .no, .no, .no, .no, .no, .no] ⟨fun _ => Q (.val .none), Q, fun _ => False, fun _ => False⟩
  unfold M_law_comes
  refine ⟨⟨by omega, by omega, by omega, by omega⟩, ?_⟩
  show forGo _ _ (rgD lo (hi + 1)) _ _
  rw [rgD_I]
  refine for_L .int (fun done e => ∃ c5 c6 c7 c8 c9 d0 d1 d2 d3 : SV, e = [.val (laL a lo hi n), .val (.tuple (rowsD lo (hi + 1) (RB a b lo hi))), .val (laL b lo hi n), iv lo, iv hi, c5, c6, c7, c8, c9, d0, d1, d2, d3]) (rgI lo (hi + 1)) _ ⟨.no, .no, .no, .no, .no, .no, .no, .no, .no, rfl⟩ ?_ ?_
  · rintro dn z rst hz e ⟨c5, c6, c7, c8, c9, d0, d1, d2, d3, rfl⟩ N hN
    obtain ⟨z0, z1⟩ := mem_rgI.mp (show z ∈ rgI lo (hi + 1) by rw [hz]; exact List.mem_append_right _ List.mem_cons_self)
    refine ⟨show 5 < 14 by decide, show 2 ≤ 1000000 by decide, rfl, show 6 < 14 by decide, show 7 < 14 by decide, rfl, ?_⟩
    refine at_env [.val (laL a lo hi n), .val (.tuple (rowsD lo (hi + 1) (RB a b lo hi))), .val (laL b lo hi n), iv lo, iv hi, iv z, iv 0, iv 1, c8, c9, d0, d1, d2, d3] rfl ?_
    dsimp only
    show forGo _ _ (enD 0 (rowsD lo (hi + 1) (RB a b lo hi))) _ _
    unfold rowsD
    rw [enD_map _ _ _ _ _ rfl]
    refine for_L (fun y => PyData.dict [(.bool true, .int (((0 : Nat) : Int) + (y - lo))), (.bool true, .tuple ((tb lo (hi + 1) (RB a b lo hi y)).map en))]) (fun done e => ∃ (t w : Int) (c8 c9 d0 d1 d2 d3 : SV), Cm done.length t w (qsum (done.map fun y => LaS a lo hi n y * RB a b lo hi y z)) ∧ e = [.val (laL a lo hi n), .val (.tuple (rowsD lo (hi + 1) (RB a b lo hi))), .val (laL b lo hi n), iv lo, iv hi, iv z, iv t, iv w, c8, c9, d0, d1, d2, d3]) (rgI lo (hi + 1)) _ ⟨0, 1, c8, c9, d0, d1, d2, d3, cm0, rfl⟩ ?_ ?_
    · rintro done y rest hy e ⟨t, w, c8, c9, d0, d1, d2, d3, cm, rfl⟩ N2 hN2
      obtain ⟨y0, y1⟩ := mem_rgI.mp (show y ∈ rgI lo (hi + 1) by rw [hy]; exact List.mem_append_right _ List.mem_cons_self)
      have dl : done.length ≤ 10 := by
        have := congrArg List.length hy
        rw [rgI_len, List.length_append] at this
        omega
      have gk := g_ok sa h0 h9 n0 n1 y0 (by omega)
      have ek : ((0 : Nat) : Int) + (y - lo) = y - lo := by omega
      rw [ek]
      refine ⟨rfl, show 8 < 14 by decide, show 9 < 14 by decide, rfl, ?_⟩
      show forGo _ _ ((tb lo (hi + 1) (RB a b lo hi y)).map en) [.val (laL a lo hi n), .val (.tuple (rowsD lo (hi + 1) (RB a b lo hi))), .val (laL b lo hi n), iv lo, iv hi, iv z, iv t, iv w, iv (y - lo), .val (.tuple ((tb lo (hi + 1) (RB a b lo hi y)).map en)), d0, d1, d2, d3] _
      refine for_L en (fun don e => ∃ (t w : Int) (d0 d1 d2 d3 : SV), (if keyed z don then Cm (done.length + 1) t w (qsum (done.map fun y => LaS a lo hi n y * RB a b lo hi y z) + LaS a lo hi n y * RB a b lo hi y z) else Cm done.length t w (qsum (done.map fun y => LaS a lo hi n y * RB a b lo hi y z))) ∧ e = [.val (laL a lo hi n), .val (.tuple (rowsD lo (hi + 1) (RB a b lo hi))), .val (laL b lo hi n), iv lo, iv hi, iv z, iv t, iv w, iv (y - lo), .val (.tuple ((tb lo (hi + 1) (RB a b lo hi y)).map en)), d0, d1, d2, d3]) (tb lo (hi + 1) (RB a b lo hi y)) _ ⟨t, w, d0, d1, d2, d3, cm, rfl⟩ ?_ ?_
      · rintro don ⟨x, o⟩ rs2 ho e ⟨t, w, d0, d1, d2, d3, cm2, rfl⟩ N3 hN3
        obtain ⟨x0, x1, _, eo⟩ := tb_mem (show (x, o) ∈ tb lo (hi + 1) (RB a b lo hi y) by rw [ho]; exact List.mem_append_right _ List.mem_cons_self)
        dsimp only at x0 x1 eo
        have ks : keyed z (don ++ [(x, o)]) = (keyed z don || decide (x = z)) := by
          unfold keyed
          rw [List.any_append, List.any_cons, List.any_nil, Bool.or_false]
        refine ⟨rfl, show 10 < 14 by decide, show 11 < 14 by decide, rfl, ?_⟩
        show msIf _ _ _ [.val (laL a lo hi n), .val (.tuple (rowsD lo (hi + 1) (RB a b lo hi))), .val (laL b lo hi n), iv lo, iv hi, iv z, iv t, iv w, iv (y - lo), .val (.tuple ((tb lo (hi + 1) (RB a b lo hi y)).map en)), iv x, frv o, d2, d3] _
        refine ifl_b (b := decide (x = z)) (fun Q q => q) (fun c => ?_) fun c => ?_
        · have c := of_decide_eq_true c
          subst c
          have nk : keyed x don = false := by
            cases hk : keyed x don with
            | false => rfl
            | true =>
              obtain ⟨p, hp, pe⟩ := List.any_eq_true.mp hk
              have pe : p.1 = x := of_decide_eq_true pe
              have pw := tb_pw lo (hi + 1) (RB a b lo hi y)
              rw [ho, List.map_append, List.pairwise_append] at pw
              have := pw.2.2 p.1 (List.mem_map_of_mem hp) x (by rw [List.map_cons]; exact List.mem_cons_self)
              omega
          rw [nk] at cm2
          have cm2 : Cm done.length t w (qsum (done.map fun y => LaS a lo hi n y * RB a b lo hi y x)) := cm2
          have so := rs y x y0 y1 x0 x1
          rw [← eo] at so
          have on : 0 ≤ o.num := num0 so.1
          have od : ((o.den : Int)).natAbs < 2 ^ 63 := by rw [den_abs]; exact so.2.2
          have u0 : 0 ≤ (gI a lo hi n y).1 * o.num := Int.mul_nonneg gk.t0 on
          have v0 : 0 < (gI a lo hi n y).2 * (o.den : Int) := Int.mul_pos gk.b0 (den0 o)
          have ub : ((gI a lo hi n y).1 * o.num).natAbs < 2 ^ 115 := by
            rw [Int.natAbs_mul]
            exact Nat.lt_of_lt_of_le (mul_bits gk.tb so.2.1) (by decide)
          have vb : ((gI a lo hi n y).2 * (o.den : Int)).natAbs < 2 ^ 115 := by
            rw [Int.natAbs_mul]
            exact Nat.lt_of_lt_of_le (mul_bits gk.bb od) (by decide)
          have st := cm2.step u0 v0 ub vb (share_mul gk.b0 gk.eq)
          rw [eo] at st
          have ha := la_at (a := a) (n := n) y0 y1
          have wq := cm2.tb
          have ww := cm2.bb
          have nb : 120 * done.length + 1 ≤ 60000000 := by omega
          refine ix ha (ix rfl (ix rfl ⟨sm_of gk.tb (by decide), sm_of so.2.1 (by decide), ix ha (ix rfl (ix rfl ⟨sm_of gk.bb (by decide), sm_of od (by decide), show 12 < 14 by decide, show 13 < 14 by decide, ?_⟩))⟩))
          refine ⟨sm_of wq nb, sm_of vb (by decide), sm_of ub (by decide), sm_of ww nb, sm_of ww nb, sm_of vb (by decide), show 6 < 14 by decide, show 7 < 14 by decide, ?_⟩
          refine hN3 _ ⟨_, _, _, _, _, _, ?_, rfl⟩
          rw [ks, decide_eq_true rfl, Bool.or_true, if_pos rfl]
          rw [eo]
          exact st
        · have c := of_decide_eq_false c
          refine hN3 _ ⟨t, w, _, _, _, _, ?_, rfl⟩
          rw [ks, decide_eq_false c, Bool.or_false]
          exact cm2
      · rintro e ⟨t, w, d0, d1, d2, d3, cm2, rfl⟩
        refine hN2 _ ⟨t, w, _, _, _, _, _, _, ?_, rfl⟩
        rw [List.map_append, qsum_app, List.length_append]
        show Cm (done.length + 1) t w (qsum (done.map fun y => LaS a lo hi n y * RB a b lo hi y z) + (LaS a lo hi n y * RB a b lo hi y z + 0))
        rw [Rat.add_zero]
        cases hk : keyed z (tb lo (hi + 1) (RB a b lo hi y)) with
        | true =>
          rw [hk, if_pos rfl] at cm2
          exact cm2
        | false =>
          rw [hk, if_neg Bool.false_ne_true] at cm2
          have fz : RB a b lo hi y z = 0 := by
            have nn := (rs y z y0 y1 z0 z1).1
            have np : ¬ 0 < RB a b lo hi y z := fun p => by
              have := List.any_eq_false.mp hk (z, RB a b lo hi y z) (tb_has z0 z1 p)
              exact this (decide_eq_true rfl)
            grind
          rw [fz, Rat.mul_zero, Rat.add_zero]
          exact cm2.mono (by omega)
    · rintro e ⟨t, w, c8, c9, d0, d1, d2, d3, cm, rfl⟩
      have gk := g_ok sb h0 h9 n0 n1 z0 (by omega)
      have eq : (t : Rat) / (w : Rat) = LaS b lo hi n z := cm.eq.trans (pS_all sa hl n0 n1 z0 (by omega))
      rw [← gk.eq] at eq
      have ce := cross_eq cm.b0 gk.b0 eq
      have hb := la_at (a := b) (n := n) z0 z1
      have nb : 120 * (rgI lo (hi + 1)).length + 1 ≤ 60000000 := by rw [rgI_len]; omega
      dsimp only
      refine ifl_b (b := !decide (t * (gI b lo hi n z).2 = (gI b lo hi n z).1 * w)) (fun Q q => ix hb (ix rfl ⟨sm_of cm.tb nb, sm_of gk.bb (by decide), ix hb (ix rfl ⟨sm_of gk.tb (by decide), sm_of cm.bb nb, q⟩)⟩)) (fun c => by rw [decide_eq_true ce] at c; cases c) fun _ => hN _ ⟨_, _, _, _, _, _, _, _, _, rfl⟩
  · rintro e ⟨c5, c6, c7, c8, c9, d0, d1, d2, d3, rfl⟩
    exact q
end K34
set_option Elab.async false
set_option linter.all false
set_option maxRecDepth 100000
set_option maxHeartbeats 4000000
set_option pp.maxSteps 900
namespace K34
open PySem PySem.Spec PyProof.Rows L2 Pq Lb
theorem or_b {b1 b2 : Bool} {c1 c2 : MT} {env : En} (h : ∀ Q : Bool → En → Prop, Q b1 env → c1 env Q) (k : ∀ Q : Bool → En → Prop, Q b2 env → c2 env Q) : ∀ Q : Bool → En → Prop, Q (b1 || b2) env → mOr c1 c2 env Q := fun Q q => h _ (by
  cases b1 with
  | true => rw [if_pos rfl]; exact q
  | false => rw [if_neg Bool.false_ne_true]; exact k _ q)
theorem if_b {b : Bool} {c : MT} {m B : MS} {env : En} {E : EM} (h : ∀ Q : Bool → En → Prop, Q b env → c env Q) (k1 : b = true → m env ⟨fun e => B e E, E.rt, E.bk, E.ct⟩) (k2 : b = false → B env E) : msSeq (msIf c m msNext) B env E := h _ (by
  cases b with
  | true => rw [if_pos rfl]; exact k1 rfl
  | false => rw [if_neg Bool.false_ne_true]; exact k2 rfl)
theorem seq_i {m n : MS} {env : En} {E : EM} (h : m env ⟨fun e => n e E, E.rt, E.bk, E.ct⟩) : msSeq m n env E := h
theorem try_i {i : Nat} {L : List Str} {mb : XX → MS} {ms : MS} {env : En} {E : EM} (h : mb (fun e env' => e.cls ∈ L ∧ i < env'.length ∧ ms (env'.set i (.val (exD e))) (goneE i E)) env E) : msTry i L mb ms env E := h
abbrev nrx : Ex := ⟨"NoRows", []⟩
theorem nr_is {b : Bool} {i : Nat} {env : En} {Q : Da → En → Prop} (hi : env[i]? = some (.val (exD nrx))) (q : Q (.bool b) env) : mIsX [("NoRows", b)] (mPk i) env Q := by
  unfold mIsX mPk
  rw [hi]
  have e : List.lookup ("NoRows" : Str) [(("NoRows" : Str), b)] = some b := by simp [List.lookup]
  show match List.lookup ("NoRows" : Str) [(("NoRows" : Str), b)] with
    | some b => Q (.bool b) env
    | none => False
  rw [e]
  exact q
theorem w_refused (Q : SV → Prop) (q : Q (.val (.bool true))) : F_law_refused [.val (exD nrx)] Q := by
  show M_law_refused [.val (exD nrx), .no] ⟨fun _ => Q (.val .none), Q, fun _ => False, fun _ => False⟩
  unfold M_law_refused mIsXT
  dsimp only [msSeq, msSet, toE, msRet, mAndV]
  refine nr_is (i := 0) (env := [.val (exD nrx), .no]) rfl ⟨show 1 < 2 by decide, ?_⟩
  dsimp only [List.set_cons_succ, List.set_cons_zero]
  refine nr_is (i := 0) (env := [.val (exD nrx), .val (.bool false)]) rfl ?_
  dsimp only
  rw [if_pos rfl]
  refine nr_is (i := 0) (env := [.val (exD nrx), .val (.bool false)]) rfl ?_
  dsimp only
  rw [if_pos rfl]
  refine nr_is (i := 0) (env := [.val (exD nrx), .val (.bool false)]) rfl ?_
  dsimp only
  rw [if_pos rfl]
  exact q
theorem w_told {a b : Rat} {lo hi : Int} (sa : St a) (sb : St b) (h0 : 0 ≤ lo) (hl : lo ≤ hi) (h9 : hi ≤ 9) (Q : SV → Prop) (q1 : a ≤ b → Q (.val (.tuple (rowsD lo (hi + 1) (RB a b lo hi))))) (q2 : b < a → Q (.val (.str "refused"))) : F_law_told [frv a, frv b, iv lo, iv hi] Q := by
  have hr := @w_rowsB a b lo hi sa sb h0 hl h9
  have hf := w_refused
  show M_law_told [frv a, frv b, iv lo, iv hi, .no, .no] ⟨fun _ => Q (.val .none), Q, fun _ => False, fun _ => False⟩
  unfold M_law_told
  generalize FX_rows_between = F1 at hr ⊢
  generalize F_law_refused = F2 at hf ⊢
  refine ⟨show 4 < 6 by decide, ?_⟩
  dsimp only [List.set_cons_succ, List.set_cons_zero]
  refine seq_i (try_i ⟨rfl, hr _ _ (fun le => ⟨show 4 < 6 by decide, q1 le⟩) fun lt => ⟨List.mem_singleton.mpr rfl, show 5 < 6 by decide, ?_⟩⟩)
  dsimp only [List.set_cons_succ, List.set_cons_zero]
  refine ifl_b (b := true) (fun Q q => ⟨rfl, hf _ q⟩) (fun _ => ⟨show 4 < 6 by decide, q2 lt⟩) fun z => absurd z (by decide)
end K34
set_option Elab.async false
set_option linter.all false
set_option maxRecDepth 100000
set_option maxHeartbeats 4000000
set_option pp.maxSteps 900
namespace K34
open PySem PySem.Spec PyProof.Rows L2 Pq Lb
theorem qsum_filter {α : Type} (p : α → Bool) (f : α → Rat) : ∀ L : List α, (∀ x ∈ L, p x = false → f x = 0) → qsum ((L.filter p).map f) = qsum (L.map f)
  | [], _ => rfl
  | x :: L, h => by
    have ih := qsum_filter p f L fun y hy => h y (List.mem_cons_of_mem _ hy)
    rw [List.filter_cons]
    by_cases c : p x = true
    · rw [if_pos c, List.map_cons, List.map_cons]
      show f x + _ = f x + _
      rw [ih]
    · rw [if_neg c, ih, List.map_cons]
      show _ = f x + _
      rw [h x List.mem_cons_self (by simpa using c), Rat.zero_add]
theorem tb_sum {lo hi : Int} {f : Int → Rat} (hf : ∀ y, lo ≤ y → y < hi → 0 ≤ f y) : qsum ((tb lo hi f).map (·.2)) = qsum ((rgI lo hi).map f) := by
  have e : ((tb lo hi f).map (·.2)) = ((rgI lo hi).filter fun y => decide (0 < f y)).map f := by
    unfold tb
    rw [List.map_map]
    rfl
  rw [e]
  refine qsum_filter _ _ _ fun y hy hp => ?_
  have := mem_rgI.mp hy
  have h0 := hf y this.1 this.2
  have h2 : ¬ 0 < f y := of_decide_eq_false hp
  grind
theorem w_is_table {lo hi : Int} {f : Int → Rat} (h0 : 0 ≤ lo) (hl : lo ≤ hi) (h9 : hi ≤ 9) (hf : ∀ y, lo ≤ y → y < hi + 1 → 0 ≤ f y ∧ Sz 63 (f y)) (h1 : qsum ((rgI lo (hi + 1)).map f) = 1) (Q : SV → Prop) (q : Q (.val (.bool true))) :
    F_law_is_table [.val (.tuple ((tb lo (hi + 1) f).map en)), iv lo, iv hi] Q := by
  have hlo := @w_llowest
  have ts : qsum ((tb lo (hi + 1) f).map (·.2)) = 1 := (tb_sum fun y y0 y1 => (hf y y0 y1).1).trans h1
  have mem : ∀ p ∈ tb lo (hi + 1) f, lo ≤ p.1 ∧ p.1 < hi + 1 ∧ 0 < p.2 ∧ Sz 63 p.2 := fun p hp => by
    obtain ⟨a, b, c, d⟩ := tb_mem hp
    rw [d]
    exact ⟨a, b, c, (hf _ a b).2⟩
  have ln := tb_len lo (hi + 1) f
  have keys : (tb lo (hi + 1) f).map (·.1) = (rgI lo (hi + 1)).filter fun y => decide (0 < f y) := by
    unfold tb
    rw [List.map_map]
    exact List.map_id _
  show M_law_is_table [.val (.tuple ((tb lo (hi + 1) f).map en)), iv lo, iv hi, .no, .no, .no, .no, .no] ⟨fun _ => Q (.val .none), Q, fun _ => False, fun _ => False⟩
  unfold M_law_is_table
  generalize F_law_lowest = F at hlo ⊢
  have inn : ∀ y, lo ≤ y → y < hi + 1 → (((tb lo (hi + 1) f).map fun p => PyData.int p.1).any fun z => PyData.eqv z (.int y)) = decide (0 < f y) := fun y y0 y1 => by
    have e : ((tb lo (hi + 1) f).map fun p => PyData.int p.1) = ((rgI lo (hi + 1)).filter fun y => decide (0 < f y)).map .int := by rw [← keys, List.map_map]; rfl
    rw [e]
    have g : ∀ L : List Int, ((L.map PyData.int).any fun z => PyData.eqv z (.int y)) = decide (y ∈ L) := fun L => by
      induction L with
      | nil => rfl
      | cons x L ih =>
        rw [List.map_cons, List.any_cons, ih]
        have : PyData.eqv (.int x) (.int y) = decide (x = y) := by rw [Bool.eq_iff_iff]; simp [PyData.eqv]
        rw [this]
        by_cases c : x = y
        · subst c; simp
        · rw [decide_eq_false c, Bool.false_or]
          exact decide_eq_decide.mpr ⟨List.mem_cons_of_mem _, fun h => (List.mem_cons.mp h).resolve_left fun z => c z.symm⟩
    rw [g]
    exact decide_eq_decide.mpr ⟨fun h => of_decide_eq_true (List.mem_filter.mp h).2, fun h => List.mem_filter.mpr ⟨mem_rgI.mpr ⟨y0, y1⟩, decide_eq_true h⟩⟩
  refine if_b (b := !true || !true) (fun Q q => or_b (b1 := !true) (b2 := !true) (fun Q q => q) (fun Q q => ?_) Q q) (fun z => absurd z (by decide)) fun _ => ?_
  · refine ⟨⟨by rw [List.length_map]; omega, fun i hi => by rw [List.mem_singleton.mp hi]; trivial⟩, ?_⟩
    refine lcL en (fun _ => .bool true) (tb lo (hi + 1) f) [] _ (fun p hp K hK => ⟨show 7 < 8 by decide, hK⟩) ?_
    refine w_all (tb lo (hi + 1) f) (fun _ => true) _ ?_
    have : ((tb lo (hi + 1) f).all fun _ => true) = true := List.all_eq_true.mpr fun _ _ => rfl
    rw [this]
    exact q
  have lk : Lay 1 (.list (((tb lo (hi + 1) f).map (·.1)).map .int)) := lay_lst fun d hd => by
    obtain ⟨y, _, rfl⟩ := List.mem_map.mp hd
    exact lay_int
  refine if_b (b := !true) (fun Q q => ?_) (fun z => absurd z (by decide)) fun _ => ?_
  · refine ⟨⟨by rw [List.length_map]; omega, fun i hi => by simp only [List.mem_cons, List.not_mem_nil, or_false] at hi; rcases hi with rfl | rfl <;> trivial⟩, ?_⟩
    refine lcL en (fun p => .int p.1) (tb lo (hi + 1) f) [] _ (fun p hp K hK => ⟨rfl, show 3 < 8 by decide, show 4 < 8 by decide, rfl, hK⟩) ?_
    refine ⟨⟨by omega, by omega, by omega, by omega⟩, ⟨?_, fun i hi => by rw [List.mem_singleton.mp hi]; trivial⟩, ?_⟩
    · show (rgD lo (hi + 1)).length ≤ 1000000
      rw [rgD_I, List.length_map, rgI_len]; omega
    show lcGo _ _ _ _ (rgD lo (hi + 1)) [] _
    rw [rgD_I]
    refine lcLt .int (fun y => decide (0 < f y)) .int (rgI lo (hi + 1)) [] _ (fun y hy K N k1 k2 => ?_) ?_
    · obtain ⟨y0, y1⟩ := mem_rgI.mp hy
      refine ⟨show 3 < 8 by decide, ⟨by rw [List.length_map]; omega, fun i hi => by rw [List.mem_singleton.mp hi]; trivial⟩, ?_⟩
      refine lcL en (fun p => .int p.1) (tb lo (hi + 1) f) [] _ (fun p hp K hK => ⟨show 7 < 8 by decide, ix rfl hK⟩) ?_
      refine ⟨.inl ⟨rfl, ?_⟩, ?_⟩
      · rw [List.nil_append, List.all_map]
        exact List.all_eq_true.mpr fun _ _ => rfl
      rw [List.nil_append, inn y y0 y1]
      cases c : decide (0 < f y) with
      | true => exact k1 c
      | false => exact k2 c
    · rw [List.nil_append, List.nil_append, ← keys]
      have e : ((tb lo (hi + 1) f).map fun p => PyData.int p.1) = ((tb lo (hi + 1) f).map (·.1)).map .int := by rw [List.map_map]; rfl
      rw [e]
      refine ⟨lk.shaped (by decide), lk.shaped (by decide), ?_⟩
      rw [lk.refl]
      exact q
  refine ⟨show 2 ≤ 1000000 by decide, rfl, show 5 < 8 by decide, show 6 < 8 by decide, rfl, ?_⟩
  show forGo _ _ ((tb lo (hi + 1) f).map en) [.val (.tuple ((tb lo (hi + 1) f).map en)), iv lo, iv hi, .no, .no, iv 0, iv 1, .no] _
  refine for_L en (fun done e => ∃ (t w : Int) (c3 c4 : SV), Cm done.length t w (qsum (done.map (·.2))) ∧ e = [.val (.tuple ((tb lo (hi + 1) f).map en)), iv lo, iv hi, c3, c4, iv t, iv w, .no]) (tb lo (hi + 1) f) _ ⟨0, 1, .no, .no, cm0, rfl⟩ ?_ ?_
  · rintro done ⟨y, o⟩ rest hL e ⟨t, w, c3, c4, cm, rfl⟩ N hN
    obtain ⟨y0, y1, o0, os⟩ := mem _ (show (y, o) ∈ tb lo (hi + 1) f by rw [hL]; exact List.mem_append_right _ List.mem_cons_self)
    dsimp only at y0 y1 o0 os
    have dl : done.length ≤ 10 := by
      rw [hL, List.length_append] at ln
      omega
    have on : 0 < o.num := by
      have h := (Rat.lt_iff 0 o).mp o0
      have h : 0 * (o.den : Int) < o.num * 1 := h
      omega
    have od : ((o.den : Int)).natAbs < 2 ^ 63 := by rw [den_abs]; exact os.2
    have nb : 120 * done.length + 1 ≤ 60000000 := by omega
    have lf : Lay 1 (fr o) := lay_fr o
    refine ⟨rfl, show 3 < 8 by decide, show 4 < 8 by decide, rfl, ?_⟩
    show msSeq _ _ [.val (.tuple ((tb lo (hi + 1) f).map en)), iv lo, iv hi, iv y, frv o, iv t, iv w, .no] _
    refine if_b (b := false || (!true || (!true || false))) (fun Q q => ?_) (fun z => absurd z (by decide)) fun _ => ?_
    · refine or_b (b1 := false) (b2 := !true || (!true || false)) (fun Q q => q) (fun Q q => ?_) Q q
      refine or_b (b1 := !true) (b2 := !true || false) (fun Q q => q) (fun Q q => ?_) Q q
      refine or_b (b1 := !true) (b2 := false) (fun Q q => q) (fun Q q => ?_) Q q
      refine ⟨[.int o.num, .int (o.den : Int)], [o.num, (o.den : Int)], rfl, rfl, by simp, fun m hm => ?_⟩
      show Q (decide (m < 1)) _
      have d0 := den0 o
      have m1 : 1 ≤ m := by
        have hm := hm.1
        simp only [List.mem_cons, List.not_mem_nil, or_false] at hm
        rcases hm with rfl | rfl <;> omega
      rw [decide_eq_false (by omega)]
      exact q
    refine if_b (b := !true || !true) (fun Q q => ?_) (fun z => absurd z (by decide)) fun _ => ?_
    · refine or_b (b1 := !true) (b2 := !true) (fun Q q => ?_) (fun Q q => ?_) Q q
      · refine ⟨⟨by show 2 ≤ 1000000; decide, fun i hi => by rw [List.mem_singleton.mp hi]; trivial⟩, ?_⟩
        refine lcL .int (fun _ => .bool true) [o.num, (o.den : Int)] [] _ (fun x hx K hK => ⟨show 7 < 8 by decide, hK⟩) ?_
        exact w_all [o.num, (o.den : Int)] (fun _ => true) _ q
      · refine ix rfl (ix rfl ⟨rfl, hlo (n := 63) (by omega) (den0 o) od (by decide) _ ?_⟩)
        have e : (o.num : Rat) / ((o.den : Int) : Rat) = o := num_div_den o
        rw [e]
        refine ⟨lf.shaped (by decide), lf.shaped (by decide), ?_⟩
        rw [lf.refl]
        exact q
    have st := cm.step (u := o.num) (x := (o.den : Int)) (r := o) (by omega) (den0 o) (Nat.lt_of_lt_of_le os.1 (by decide)) (Nat.lt_of_lt_of_le od (by decide)) (num_div_den o)
    refine ix rfl ⟨sm_of cm.tb nb, sm_of od (by decide), ix rfl ⟨sm_of os.1 (by decide), sm_of cm.bb nb, ix rfl ⟨sm_of cm.bb nb, sm_of od (by decide), show 5 < 8 by decide, show 6 < 8 by decide, ?_⟩⟩⟩
    refine hN _ ⟨_, _, _, _, ?_, rfl⟩
    rw [List.map_append, qsum_app, List.length_append]
    show Cm (done.length + 1) _ _ (qsum (done.map (·.2)) + (o + 0))
    rw [Rat.add_zero]
    exact st
  · rintro e ⟨t, w, c3, c4, cm, rfl⟩
    have h := cm.eq
    rw [ts] at h
    have e : t = w := by
      have h2 : (t : Rat) / (w : Rat) = ((1 : Int) : Rat) / ((1 : Int) : Rat) := by
        rw [h]; decide +kernel
      have := cross_eq cm.b0 (by decide : (0 : Int) < 1) h2
      omega
    show Q (.val (.bool (decide (t = w))))
    rw [decide_eq_true e]
    exact q
end K34
set_option Elab.async false
set_option linter.all false
set_option maxRecDepth 100000
set_option maxHeartbeats 4000000
set_option pp.maxSteps 900
namespace K34
open PySem PySem.Spec PyProof.Rows L2 Pq Lb
theorem RB_one {a b : Rat} {lo hi y : Int} (sa : St a) (sb : St b) (l0 : 0 ≤ lo) (h9 : hi ≤ 9) (y0 : lo ≤ y) (y1 : y ≤ hi) : qsum ((rgI lo (hi + 1)).map (RB a b lo hi y)) = 1 := by
  by_cases c : lo = hi
  · subst c
    have e : RB a b lo lo y = fun _ => 1 := by
      funext z
      unfold RB
      rw [if_pos rfl]
    rw [e, rgI_one]
    show (1 : Rat) + 0 = 1
    rw [Rat.add_zero]
  · have e : RB a b lo hi y = KR a b lo hi y := by
      funext z
      unfold RB
      rw [if_neg c]
    rw [e]
    exact KR_one sa sb l0 h9 (by omega) y0 y1
theorem gt_cross (a b : Rat) : decide (a.num * (b.den : Int) > b.num * (a.den : Int)) = decide (b < a) := decide_eq_decide.mpr (by
  rw [Rat.lt_iff b a])
theorem w_right {a b : Rat} {lo hi : Int} (sa : St a) (sb : St b) (h0 : 0 ≤ lo) (hl : lo ≤ hi) (h9 : hi ≤ 9) (Q : SV → Prop) (q : Q (.val (.bool true))) : F_law_right [frv a, frv b, iv lo, iv hi] Q := by
  have ht := @w_told a b lo hi sa sb h0 hl h9
  have hi' := @w_is_table lo hi
  have hc := @w_comes a b lo hi
  have hla := @w_lladder
  obtain ⟨a4, a5⟩ := sa.q5
  obtain ⟨b4, b5⟩ := sb.q5
  show M_law_right [frv a, frv b, iv lo, iv hi, .no, .no, .no] ⟨fun _ => Q (.val .none), Q, fun _ => False, fun _ => False⟩
  unfold M_law_right
  generalize F_law_told = F1 at ht ⊢
  generalize F_law_is_table = F2 at hi' ⊢
  generalize F_law_comes = F3 at hc ⊢
  generalize F_law_ladder = F4 at hla ⊢
  refine ⟨rfl, ht _ (fun le => ⟨show 4 < 7 by decide, ?_⟩) fun lt => ⟨show 4 < 7 by decide, ?_⟩⟩
  · refine at_env [frv a, frv b, iv lo, iv hi, .val (.tuple (rowsD lo (hi + 1) (RB a b lo hi))), .no, .no] rfl ?_
    dsimp only
    have rl : (rowsD lo (hi + 1) (RB a b lo hi)).length = (hi + 1 - lo).toNat := by unfold rowsD; rw [List.length_map, rgI_len]
    refine if_b (b := false) (fun Q q => ix rfl (ix rfl ⟨sm_of a5 (by decide), sm_of b4 (by decide), ix rfl (ix rfl ⟨sm_of b5 (by decide), sm_of a4 (by decide), ?_⟩)⟩)) (fun z => absurd z (by decide)) fun _ => ?_
    · show Q (decide (a.num * (b.den : Int) > b.num * (a.den : Int))) _
      rw [gt_cross, decide_eq_false (Rat.not_lt.mpr le)]
      exact q
    refine if_b (b := !true || false) (fun Q q => or_b (b1 := !true) (b2 := false) (fun Q q => q) (fun Q q => ?_) Q q) (fun z => absurd z (by decide)) fun _ => ?_
    · show Q (!decide (((rowsD lo (hi + 1) (RB a b lo hi)).length : Int) = hi - lo + 1)) _
      rw [decide_eq_true (by rw [rl]; omega)]
      exact q
    have rs := RB_sz' sa sb le h0 h9
    refine if_b (b := !true) (fun Q q => ?_) (fun z => absurd z (by decide)) fun _ => ?_
    · refine ⟨⟨by rw [rl]; omega, fun i hi => by rw [List.mem_singleton.mp hi]; trivial⟩, ?_⟩
      unfold rowsD
      refine lcL (fun y => .tuple ((tb lo (hi + 1) (RB a b lo hi y)).map en)) (fun _ => .bool true) (rgI lo (hi + 1)) [] _ (fun y hy K hK => ⟨show 6 < 7 by decide, rfl, ?_⟩) ?_
      · obtain ⟨y0, y1⟩ := mem_rgI.mp hy
        exact hi' h0 hl h9 (fun z z0 z1 => rs y z y0 y1 z0 z1) (RB_one sa sb h0 h9 y0 (by omega)) _ hK
      · refine w_all (rgI lo (hi + 1)) (fun _ => true) _ ?_
        have : ((rgI lo (hi + 1)).all fun _ => true) = true := List.all_eq_true.mpr fun _ _ => rfl
        rw [this]
        exact q
    refine ⟨⟨by omega, by omega, by omega, by omega⟩, ?_⟩
    show forGo _ _ (rgD lo (hi + 1)) _ _
    rw [rgD_I]
    refine for_L .int (fun done e => ∃ c5 : SV, e = [frv a, frv b, iv lo, iv hi, .val (.tuple (rowsD lo (hi + 1) (RB a b lo hi))), c5, .no]) (rgI lo (hi + 1)) _ ⟨.no, rfl⟩ ?_ ?_
    · rintro done n rest hL e ⟨c5, rfl⟩ N hN
      obtain ⟨n0, n1⟩ := mem_rgI.mp (show n ∈ rgI lo (hi + 1) by rw [hL]; exact List.mem_append_right _ List.mem_cons_self)
      refine ⟨show 5 < 7 by decide, ?_⟩
      have cm := hc sa sb le h0 hl h9 n0 (by omega)
      have la := fun {c : Rat} (sc : St c) (Q : SV → Prop) => hla (a := c) (lo := lo) (hi := hi) (n := n) sc h0 hl h9 n0 (by omega) Q
      refine ifl_b (b := !true) (fun Q q => ?_) (fun z => absurd z (by decide)) fun _ => hN _ ⟨_, rfl⟩
      refine ⟨rfl, la sa _ ?_ ?_⟩
      all_goals
        refine ⟨rfl, la sb _ ?_ ?_⟩
        all_goals exact ⟨rfl, cm _ q⟩
    · rintro e ⟨c5, rfl⟩
      exact q
  · refine at_env [frv a, frv b, iv lo, iv hi, .val (.str "refused"), .no, .no] rfl ?_
    dsimp only
    refine if_b (b := true) (fun Q q => ix rfl (ix rfl ⟨sm_of a5 (by decide), sm_of b4 (by decide), ix rfl (ix rfl ⟨sm_of b5 (by decide), sm_of a4 (by decide), ?_⟩)⟩)) (fun _ => ?_) fun z => absurd z (by decide)
    · show Q (decide (a.num * (b.den : Int) > b.num * (a.den : Int))) _
      rw [gt_cross, decide_eq_true lt]
      exact q
    · show Q (.val (.bool (decide (("refused" : Str) = "refused"))))
      rw [decide_eq_true rfl]
      exact q
end K34
set_option Elab.async false
set_option linter.all false
set_option maxRecDepth 100000
set_option maxHeartbeats 4000000
set_option pp.maxSteps 900
namespace K34
open PySem PySem.Spec PyProof.Rows L2 Pq Lb
theorem w_steepness1 (Q : SV → Prop) (h : ∀ a, St a → Q (frv a)) : F_law_steepness [.deal, iv 1] Q := by
  refine ⟨rfl, ⟨by decide, by decide⟩, fun r r0 r1 => ⟨show 2 < 3 by decide, ?_⟩⟩
  refine ⟨by decide, PyProof.noPylong_of_log2 (by decide), show 2 ≤ 1000000 by decide, ?_⟩
  refine ix (d := .int (2 + r - 1)) rfl ⟨rfl, ⟨by omega, by omega⟩, fun p p0 p1 => ⟨rfl, ?_⟩⟩
  exact w_llowest (n := 4) (by omega) (by omega) (by have : (2 : Nat) ^ 4 = 16 := by decide
                                                     omega) (by decide) _ (h _ (st_div (by omega) (by omega) (by omega)))
theorem if_any {c : MT} {m B : MS} {env : En} {E : EM} (h : ∀ Q : Bool → En → Prop, (∀ b, Q b env) → c env Q) (k1 : m env ⟨fun e => B e E, E.rt, E.bk, E.ct⟩) (k2 : B env E) : msSeq (msIf c m msNext) B env E := h _ fun b => by
  cases b with
  | true => rw [if_pos rfl]; exact k1
  | false => rw [if_neg Bool.false_ne_true]; exact k2
theorem memCut {d : Da} {L : List Da} {i j : Option Int} (h : d ∈ Pq.cutD L i j) : d ∈ L := by
  unfold Pq.cutD at h
  exact List.mem_of_mem_drop (List.mem_of_mem_take h)
theorem cutLen (L : List Da) (i j : Option Int) : (Pq.cutD L i j).length ≤ L.length := by
  unfold Pq.cutD
  rw [List.length_take, List.length_drop]
  omega
def Ok4 (d : Da) : Prop := ∃ (a b : Rat) (lo hi : Int), d = .tuple [fr a, fr b, .int lo, .int hi] ∧ St a ∧ St b ∧ 0 ≤ lo ∧ lo ≤ hi ∧ hi ≤ 9
theorem w_end {L : List Da} (hl : L.length = 5) (hL : ∀ d ∈ L, Ok4 d) (a b l h o e : SV) :
    msRet (mCB fAll (mlCons (toD (mLc [9, 10, 11, 12] (mItems (toD (mBin fAdd (mPk 8) (toD (mSl (mPk 8) moNone (moSome (mC (.int 1)))))))) (mgTup 4 (mgCons (mgName 9) (mgCons (mgName 10) (mgCons (mgName 11) (mgCons (mgName 12) mgNil))))) mYes (mCall 4 F_law_right (maCons (mVar 9) (maCons (mVar 10) (maCons (mVar 11) (maCons (mVar 12) maNil))))))) mlNil)) [.no, .deal, a, b, l, h, o, e, .own true (.list L), .no, .no, .no, .no] eTrue := by
  have c := cutLen L none (some 1)
  have hr := @w_right
  generalize F_law_right = F at hr ⊢
  refine ⟨by omega, ⟨by rw [List.length_append]; omega, fun i hi => ?_⟩, ?_⟩
  · simp only [List.mem_cons, List.not_mem_nil, or_false] at hi
    rcases hi with rfl | rfl | rfl | rfl <;> trivial
  · refine lc_map (fun _ => .bool true) _ _ _ (fun d hd K hK => ?_) fun res er => ?_
    · have o : Ok4 d := by
        rcases List.mem_append.mp hd with z | z
        · exact hL d z
        · exact hL d (memCut z)
      obtain ⟨a, b, lo, hi, rfl, sa, sb, h0, h1, h2⟩ := o
      exact ⟨rfl, show 9 < 13 by decide, show 10 < 13 by decide, show 11 < 13 by decide, show 12 < 13 by decide, rfl, rfl, hr sa sb h0 h1 h2 _ hK⟩
    · rw [List.nil_append] at er
      subst er
      refine w_all _ (fun _ => true) _ ?_
      have e : ∀ L : List Da, (L.all fun _ => true) = true := fun L => by induction L with
        | nil => rfl
        | cons x r ih => rw [List.all_cons, ih]; rfl
      rw [e]
      rfl
theorem w_law : M_law (.no :: .deal :: List.replicate 11 .no) eTrue := by
  have hst := w_steepness1
  have hen := @w_end
  show M_law [.no, .deal, .no, .no, .no, .no, .no, .no, .no, .no, .no, .no, .no] eTrue
  unfold M_law
  generalize F_law_steepness = F at hst ⊢
  refine ⟨rfl, hst _ fun a sa => ⟨show 2 < 13 by decide, rfl, hst _ fun b sb => ⟨show 3 < 13 by decide, ?_⟩⟩⟩
  obtain ⟨a4, a5⟩ := sa.q5
  obtain ⟨b4, b5⟩ := sb.q5
  refine at_env [.no, .deal, frv a, frv b, .no, .no, .no, .no, .no, .no, .no, .no, .no] rfl ?_
  dsimp only
  generalize hrest : msSeq (msSet 4 _) _ = rest
  have go : ∀ a b : Rat, St a → St b → rest [.no, .deal, frv a, frv b, .no, .no, .no, .no, .no, .no, .no, .no, .no] eTrue := fun a b sa sb => by
    rw [← hrest]
    clear hrest
    refine ⟨rfl, ⟨by decide, by decide⟩, fun lo l0 l1 => ⟨show 4 < 13 by decide, ?_⟩⟩
    have l1 : lo < 10 := l1
    refine ⟨show 3 ≤ 1000000 by decide, rfl, ⟨by decide, by decide⟩, fun j j0 j1 => ?_⟩
    refine w_ix (ds := [.int 3, .int 5, .int 10]) j0 (by show j < 3; exact j1) _ fun d hd => ?_
    have hd : ∃ m : Int, d = .int m ∧ 0 < m ∧ m ≤ 10 := by
      simp only [List.mem_cons, List.not_mem_nil, or_false] at hd
      rcases hd with rfl | rfl | rfl
      · exact ⟨3, rfl, by decide, by decide⟩
      · exact ⟨5, rfl, by decide, by decide⟩
      · exact ⟨10, rfl, by decide, by decide⟩
    obtain ⟨m, rfl, m0, m1⟩ := hd
    refine ⟨rfl, ⟨by omega, by omega⟩, fun u u0 u1 => ⟨show 5 < 13 by decide, rfl, hst _ fun o so => ⟨show 6 < 13 by decide, ?_⟩⟩⟩
    refine ⟨rfl, ⟨by omega, by omega⟩, fun v v0 v1 => ⟨show 7 < 13 by decide, ?_⟩⟩
    refine ⟨show 4 ≤ 1000000 by decide, show 4 ≤ 1000000 by decide, show 4 ≤ 1000000 by decide, show 3 ≤ 1000000 by decide, show 8 < 13 by decide, ?_⟩
    refine ⟨show 4 ≤ 1000000 by decide, show 4 ≤ 1000000 by decide, show 2 ≤ 1000000 by decide, show 3 + 2 ≤ 1000000 by decide, show 8 < 13 by decide, ?_⟩
    refine hen (L := [.tuple [fr a, fr b, .int lo, .int (lo + u)], .tuple [fr a, fr b, .int lo, .int (lo + v)], .tuple [fr a, fr o, .int lo, .int (lo + v)], .tuple [fr o, fr b, .int (max 0 (lo + v - 3)), .int (lo + v)], .tuple [fr b, fr a, .int lo, .int (lo + v)]]) rfl (fun d hd => ?_) _ _ _ _ _ _
    simp only [List.mem_cons, List.not_mem_nil, or_false] at hd
    have u1 : u < min (10 - lo) m := u1
    have v1 : v < min (10 - lo) 4 := v1
    rcases hd with rfl | rfl | rfl | rfl | rfl
    · exact ⟨_, _, _, _, rfl, sa, sb, by omega, by omega, by omega⟩
    · exact ⟨_, _, _, _, rfl, sa, sb, by omega, by omega, by omega⟩
    · exact ⟨_, _, _, _, rfl, sa, so, by omega, by omega, by omega⟩
    · exact ⟨_, _, _, _, rfl, so, sb, by omega, by omega, by omega⟩
    · exact ⟨_, _, _, _, rfl, sb, sa, by omega, by omega, by omega⟩
  refine if_any (fun Q q => ?_) ⟨show 2 < 13 by decide, show 3 < 13 by decide, go b a sb sa⟩ (go a b sa sb)
  refine ix rfl (ix rfl ⟨sm_of a5 (by decide), sm_of b4 (by decide), ix rfl (ix rfl ⟨sm_of b5 (by decide), sm_of a4 (by decide), ?_⟩)⟩)
  have e2 : ∀ (c : Bool) (A B : Prop), A → B → if c = true then A else B := fun c A B a b => by cases c <;> simp [a, b]
  exact e2 _ _ _ ⟨rfl, ⟨by decide, by decide⟩, fun x x0 x1 => q _⟩ (q _)
end K34
set_option Elab.async false
set_option linter.all false
set_option maxRecDepth 100000
set_option maxHeartbeats 4000000
namespace K34
open PySem PySem.Spec PyProof.Rows L2 Pq Lb
section
variable {P : Program} {w : World} {K : PySem.W.Frag} {mg : Str → Option Value} {base : Heap}
theorem ok_law (T : Tx K mg) (C_law_steepness : Cal P w K mg base "_law_steepness" 3 2 F_law_steepness) (C_law_draw : Cal P w K mg base "_law_draw" 2 2 F_law_draw) (C_law_right : Cal P w K mg base "_law_right" 8 4 F_law_right) {f fde : Addr} {fd fdd : FuncData} (Fu : Fun K "law" "law" s_law f fd) (G : FnOk P w K mg base CX0 2 fde fdd ["_law_script", "_law_base"] (spDeal K)) (md : mg "_law_deal" = some (.ref fde)) (kd : PySem.W.keepIn K (.ref fde) = true) (bd : Binds K fdd ["_law_script", "_law_base"] []) : FnG P w K mg base CX0 9 f fd ["_law_script"] (spLaw K) := by
  refine fun_g Fu sc_law (fun vs H Q E h => ?_) (fun cdv A outer s H vs Q E hr h => ?_)
  · obtain ⟨a, ns, rfl, _⟩ := h
    rfl
  · obtain ⟨a, ns, rfl, hS, hl, q⟩ := h
    refine ⟨_, pss_cons (ps_set (i := 1) sc_law.nd rfl (by first | exact Or.inl rfl | exact Or.inr rfl) (pe_call (dvs := []) G (hr.rm.mono (by decide)) (by rfl) md kd bd .nil pass0 (pa_cons (pv 0) (pa_cons pe_int pa_nil)))) (body_law T C_law_steepness C_law_draw C_law_right cdv A outer s H E hr), ?_⟩
    exact law_read (X := (cxOf CX0 P w K mg base N_law "law" (defScope s_law) f cdv A outer s H E).nox) (N := N_law) (m := 11) rfl w_law hS hl q
end
theorem all_mk {l : PySem.W.OpenLaw} {w : World} {K : PySem.W.Frag} {h : Heap} {mg : Str → Option Value} {fa f1 f2 f3 f4 f5 f6 f7 f8 f9 f10 f11 f12 f13 f14 f15 f16 f17 f18 f19 f20 f21 f22 f23 : Addr} (X : K.In h) (G : h.Ns mainGlobals mg) (hfa : mg "law" = some (.ref fa))
    {od1 an1 : Option Addr} {sl1 : Array (Option Value)} {oc1 kV1 dc1 pm1 cd1 ct1 : Value}
    (a1 : PySem.W.nsIn K mainGlobals "_law_deal" = some (some (.ref f1))) (l1 : K.lookup f1 = some ⟨oc1, od1, .func (PySem.W.fnOf "_law_deal" "_law_deal" (defArgs s_law_deal) (defBody s_law_deal) (defScope s_law_deal) .none kV1 dc1 pm1 an1 cd1 ct1), sl1⟩) (c1 : PySem.W.codeIn K cd1 "_law_deal" = true) (k1 : PySem.W.keepIn K (.ref f1) = true)
    {od2 an2 : Option Addr} {sl2 : Array (Option Value)} {oc2 kV2 dc2 pm2 cd2 ct2 : Value}
    (a2 : PySem.W.nsIn K mainGlobals "_law_lowest" = some (some (.ref f2))) (l2 : K.lookup f2 = some ⟨oc2, od2, .func (PySem.W.fnOf "_law_lowest" "_law_lowest" (defArgs s_law_lowest) (defBody s_law_lowest) (defScope s_law_lowest) .none kV2 dc2 pm2 an2 cd2 ct2), sl2⟩) (c2 : PySem.W.codeIn K cd2 "_law_lowest" = true) (k2 : PySem.W.keepIn K (.ref f2) = true)
    {od3 an3 : Option Addr} {sl3 : Array (Option Value)} {oc3 kV3 dc3 pm3 cd3 ct3 : Value}
    (a3 : PySem.W.nsIn K mainGlobals "_law_draw" = some (some (.ref f3))) (l3 : K.lookup f3 = some ⟨oc3, od3, .func (PySem.W.fnOf "_law_draw" "_law_draw" (defArgs s_law_draw) (defBody s_law_draw) (defScope s_law_draw) .none kV3 dc3 pm3 an3 cd3 ct3), sl3⟩) (c3 : PySem.W.codeIn K cd3 "_law_draw" = true) (k3 : PySem.W.keepIn K (.ref f3) = true)
    {od4 an4 : Option Addr} {sl4 : Array (Option Value)} {oc4 kV4 dc4 pm4 cd4 ct4 : Value}
    (a4 : PySem.W.nsIn K mainGlobals "_law_steepness" = some (some (.ref f4))) (l4 : K.lookup f4 = some ⟨oc4, od4, .func (PySem.W.fnOf "_law_steepness" "_law_steepness" (defArgs s_law_steepness) (defBody s_law_steepness) (defScope s_law_steepness) .none kV4 dc4 pm4 an4 cd4 ct4), sl4⟩) (c4 : PySem.W.codeIn K cd4 "_law_steepness" = true) (k4 : PySem.W.keepIn K (.ref f4) = true)
    {od5 an5 : Option Addr} {sl5 : Array (Option Value)} {oc5 kV5 dc5 pm5 cd5 ct5 : Value}
    (a5 : PySem.W.nsIn K mainGlobals "less" = some (some (.ref f5))) (l5 : K.lookup f5 = some ⟨oc5, od5, .func (PySem.W.fnOf "less" "less" (defArgs s_less) (defBody s_less) (defScope s_less) .none kV5 dc5 pm5 an5 cd5 ct5), sl5⟩) (c5 : PySem.W.codeIn K cd5 "less" = true) (k5 : PySem.W.keepIn K (.ref f5) = true)
    {od6 an6 : Option Addr} {sl6 : Array (Option Value)} {oc6 kV6 dc6 pm6 cd6 ct6 : Value}
    (a6 : PySem.W.nsIn K mainGlobals "power" = some (some (.ref f6))) (l6 : K.lookup f6 = some ⟨oc6, od6, .func (PySem.W.fnOf "power" "power" (defArgs s_power) (defBody s_power) (defScope s_power) .none kV6 dc6 pm6 an6 cd6 ct6), sl6⟩) (c6 : PySem.W.codeIn K cd6 "power" = true) (k6 : PySem.W.keepIn K (.ref f6) = true)
    {od7 an7 : Option Addr} {sl7 : Array (Option Value)} {oc7 kV7 dc7 pm7 cd7 ct7 : Value}
    (a7 : PySem.W.nsIn K mainGlobals "divisor" = some (some (.ref f7))) (l7 : K.lookup f7 = some ⟨oc7, od7, .func (PySem.W.fnOf "divisor" "divisor" (defArgs s_divisor) (defBody s_divisor) (defScope s_divisor) .none kV7 dc7 pm7 an7 cd7 ct7), sl7⟩) (c7 : PySem.W.codeIn K cd7 "divisor" = true) (k7 : PySem.W.keepIn K (.ref f7) = true)
    {od8 an8 : Option Addr} {sl8 : Array (Option Value)} {oc8 kV8 dc8 pm8 cd8 ct8 : Value}
    (a8 : PySem.W.nsIn K mainGlobals "lowest" = some (some (.ref f8))) (l8 : K.lookup f8 = some ⟨oc8, od8, .func (PySem.W.fnOf "lowest" "lowest" (defArgs s_lowest) (defBody s_lowest) (defScope s_lowest) .none kV8 dc8 pm8 an8 cd8 ct8), sl8⟩) (c8 : PySem.W.codeIn K cd8 "lowest" = true) (k8 : PySem.W.keepIn K (.ref f8) = true)
    {od9 an9 : Option Addr} {sl9 : Array (Option Value)} {oc9 kV9 dc9 pm9 cd9 ct9 : Value}
    (a9 : PySem.W.nsIn K mainGlobals "added" = some (some (.ref f9))) (l9 : K.lookup f9 = some ⟨oc9, od9, .func (PySem.W.fnOf "added" "added" (defArgs s_added) (defBody s_added) (defScope s_added) .none kV9 dc9 pm9 an9 cd9 ct9), sl9⟩) (c9 : PySem.W.codeIn K cd9 "added" = true) (k9 : PySem.W.keepIn K (.ref f9) = true)
    {od10 an10 : Option Addr} {sl10 : Array (Option Value)} {oc10 kV10 dc10 pm10 cd10 ct10 : Value}
    (a10 : PySem.W.nsIn K mainGlobals "merged" = some (some (.ref f10))) (l10 : K.lookup f10 = some ⟨oc10, od10, .func (PySem.W.fnOf "merged" "merged" (defArgs s_merged) (defBody s_merged) (defScope s_merged) .none kV10 dc10 pm10 an10 cd10 ct10), sl10⟩) (c10 : PySem.W.codeIn K cd10 "merged" = true) (k10 : PySem.W.keepIn K (.ref f10) = true)
    {od11 an11 : Option Addr} {sl11 : Array (Option Value)} {oc11 kV11 dc11 pm11 cd11 ct11 : Value}
    (a11 : PySem.W.nsIn K mainGlobals "on_itself" = some (some (.ref f11))) (l11 : K.lookup f11 = some ⟨oc11, od11, .func (PySem.W.fnOf "on_itself" "on_itself" (defArgs s_on_itself) (defBody s_on_itself) (defScope s_on_itself) .none kV11 dc11 pm11 an11 cd11 ct11), sl11⟩) (c11 : PySem.W.codeIn K cd11 "on_itself" = true) (k11 : PySem.W.keepIn K (.ref f11) = true)
    {od12 an12 : Option Addr} {sl12 : Array (Option Value)} {oc12 kV12 dc12 pm12 cd12 ct12 : Value}
    (a12 : PySem.W.nsIn K mainGlobals "times" = some (some (.ref f12))) (l12 : K.lookup f12 = some ⟨oc12, od12, .func (PySem.W.fnOf "times" "times" (defArgs s_times) (defBody s_times) (defScope s_times) .none kV12 dc12 pm12 an12 cd12 ct12), sl12⟩) (c12 : PySem.W.codeIn K cd12 "times" = true) (k12 : PySem.W.keepIn K (.ref f12) = true)
    {od13 an13 : Option Addr} {sl13 : Array (Option Value)} {oc13 kV13 dc13 pm13 cd13 ct13 : Value}
    (a13 : PySem.W.nsIn K mainGlobals "on_another" = some (some (.ref f13))) (l13 : K.lookup f13 = some ⟨oc13, od13, .func (PySem.W.fnOf "on_another" "on_another" (defArgs s_on_another) (defBody s_on_another) (defScope s_on_another) .none kV13 dc13 pm13 an13 cd13 ct13), sl13⟩) (c13 : PySem.W.codeIn K cd13 "on_another" = true) (k13 : PySem.W.keepIn K (.ref f13) = true)
    {od14 an14 : Option Addr} {sl14 : Array (Option Value)} {oc14 kV14 dc14 pm14 cd14 ct14 : Value}
    (a14 : PySem.W.nsIn K mainGlobals "row_between" = some (some (.ref f14))) (l14 : K.lookup f14 = some ⟨oc14, od14, .func (PySem.W.fnOf "row_between" "row_between" (defArgs s_row_between) (defBody s_row_between) (defScope s_row_between) .none kV14 dc14 pm14 an14 cd14 ct14), sl14⟩) (c14 : PySem.W.codeIn K cd14 "row_between" = true) (k14 : PySem.W.keepIn K (.ref f14) = true)
    {od15 an15 : Option Addr} {sl15 : Array (Option Value)} {oc15 kV15 dc15 pm15 cd15 ct15 : Value}
    (a15 : PySem.W.nsIn K mainGlobals "rows_between" = some (some (.ref f15))) (l15 : K.lookup f15 = some ⟨oc15, od15, .func (PySem.W.fnOf "rows_between" "rows_between" (defArgs s_rows_between) (defBody s_rows_between) (defScope s_rows_between) .none kV15 dc15 pm15 an15 cd15 ct15), sl15⟩) (c15 : PySem.W.codeIn K cd15 "rows_between" = true) (k15 : PySem.W.keepIn K (.ref f15) = true)
    {od16 an16 : Option Addr} {sl16 : Array (Option Value)} {oc16 kV16 dc16 pm16 cd16 ct16 : Value}
    (a16 : PySem.W.nsIn K mainGlobals "_law_refused" = some (some (.ref f16))) (l16 : K.lookup f16 = some ⟨oc16, od16, .func (PySem.W.fnOf "_law_refused" "_law_refused" (defArgs s_law_refused) (defBody s_law_refused) (defScope s_law_refused) .none kV16 dc16 pm16 an16 cd16 ct16), sl16⟩) (c16 : PySem.W.codeIn K cd16 "_law_refused" = true) (k16 : PySem.W.keepIn K (.ref f16) = true)
    {od17 an17 : Option Addr} {sl17 : Array (Option Value)} {oc17 kV17 dc17 pm17 cd17 ct17 : Value}
    (a17 : PySem.W.nsIn K mainGlobals "_law_told" = some (some (.ref f17))) (l17 : K.lookup f17 = some ⟨oc17, od17, .func (PySem.W.fnOf "_law_told" "_law_told" (defArgs s_law_told) (defBody s_law_told) (defScope s_law_told) .none kV17 dc17 pm17 an17 cd17 ct17), sl17⟩) (c17 : PySem.W.codeIn K cd17 "_law_told" = true) (k17 : PySem.W.keepIn K (.ref f17) = true)
    {od18 an18 : Option Addr} {sl18 : Array (Option Value)} {oc18 kV18 dc18 pm18 cd18 ct18 : Value}
    (a18 : PySem.W.nsIn K mainGlobals "_law_comes" = some (some (.ref f18))) (l18 : K.lookup f18 = some ⟨oc18, od18, .func (PySem.W.fnOf "_law_comes" "_law_comes" (defArgs s_law_comes) (defBody s_law_comes) (defScope s_law_comes) .none kV18 dc18 pm18 an18 cd18 ct18), sl18⟩) (c18 : PySem.W.codeIn K cd18 "_law_comes" = true) (k18 : PySem.W.keepIn K (.ref f18) = true)
    {od19 an19 : Option Addr} {sl19 : Array (Option Value)} {oc19 kV19 dc19 pm19 cd19 ct19 : Value}
    (a19 : PySem.W.nsIn K mainGlobals "_law_is_table" = some (some (.ref f19))) (l19 : K.lookup f19 = some ⟨oc19, od19, .func (PySem.W.fnOf "_law_is_table" "_law_is_table" (defArgs s_law_is_table) (defBody s_law_is_table) (defScope s_law_is_table) .none kV19 dc19 pm19 an19 cd19 ct19), sl19⟩) (c19 : PySem.W.codeIn K cd19 "_law_is_table" = true) (k19 : PySem.W.keepIn K (.ref f19) = true)
    {od20 an20 : Option Addr} {sl20 : Array (Option Value)} {oc20 kV20 dc20 pm20 cd20 ct20 : Value}
    (a20 : PySem.W.nsIn K mainGlobals "_law_power" = some (some (.ref f20))) (l20 : K.lookup f20 = some ⟨oc20, od20, .func (PySem.W.fnOf "_law_power" "_law_power" (defArgs s_law_power) (defBody s_law_power) (defScope s_law_power) .none kV20 dc20 pm20 an20 cd20 ct20), sl20⟩) (c20 : PySem.W.codeIn K cd20 "_law_power" = true) (k20 : PySem.W.keepIn K (.ref f20) = true)
    {od21 an21 : Option Addr} {sl21 : Array (Option Value)} {oc21 kV21 dc21 pm21 cd21 ct21 : Value}
    (a21 : PySem.W.nsIn K mainGlobals "_law_ladder" = some (some (.ref f21))) (l21 : K.lookup f21 = some ⟨oc21, od21, .func (PySem.W.fnOf "_law_ladder" "_law_ladder" (defArgs s_law_ladder) (defBody s_law_ladder) (defScope s_law_ladder) .none kV21 dc21 pm21 an21 cd21 ct21), sl21⟩) (c21 : PySem.W.codeIn K cd21 "_law_ladder" = true) (k21 : PySem.W.keepIn K (.ref f21) = true)
    {od22 an22 : Option Addr} {sl22 : Array (Option Value)} {oc22 kV22 dc22 pm22 cd22 ct22 : Value}
    (a22 : PySem.W.nsIn K mainGlobals "_law_right" = some (some (.ref f22))) (l22 : K.lookup f22 = some ⟨oc22, od22, .func (PySem.W.fnOf "_law_right" "_law_right" (defArgs s_law_right) (defBody s_law_right) (defScope s_law_right) .none kV22 dc22 pm22 an22 cd22 ct22), sl22⟩) (c22 : PySem.W.codeIn K cd22 "_law_right" = true) (k22 : PySem.W.keepIn K (.ref f22) = true)
    {od23 an23 : Option Addr} {sl23 : Array (Option Value)} {oc23 kV23 dc23 pm23 cd23 ct23 : Value}
    (a23 : PySem.W.nsIn K mainGlobals "law" = some (some (.ref f23))) (l23 : K.lookup f23 = some ⟨oc23, od23, .func (PySem.W.fnOf "law" "law" (defArgs s_law) (defBody s_law) (defScope s_law) .none kV23 dc23 pm23 an23 cd23 ct23), sl23⟩) (c23 : PySem.W.codeIn K cd23 "law" = true) (k23 : PySem.W.keepIn K (.ref f23) = true)
    (z0 : PySem.W.nsIn K mainGlobals "ValueError" = some none)
    (z1 : PySem.W.nsIn K mainGlobals "abs" = some none)
    (z2 : PySem.W.nsIn K mainGlobals "all" = some none)
    (z3 : PySem.W.nsIn K mainGlobals "bool" = some none)
    (z4 : PySem.W.nsIn K mainGlobals "enumerate" = some none)
    (z5 : PySem.W.nsIn K mainGlobals "int" = some none)
    (z6 : PySem.W.nsIn K mainGlobals "isinstance" = some none)
    (z7 : PySem.W.nsIn K mainGlobals "len" = some none)
    (z8 : PySem.W.nsIn K mainGlobals "list" = some none)
    (z9 : PySem.W.nsIn K mainGlobals "max" = some none)
    (z10 : PySem.W.nsIn K mainGlobals "min" = some none)
    (z11 : PySem.W.nsIn K mainGlobals "range" = some none)
    (z12 : PySem.W.nsIn K mainGlobals "reversed" = some none)
    (z13 : PySem.W.nsIn K mainGlobals "sorted" = some none)
    (z14 : PySem.W.nsIn K mainGlobals "tuple" = some none)
    {E_NoRows : Addr}
    (n_NoRows : PySem.W.nsIn K mainGlobals "NoRows" = some (some (.ref E_NoRows)))
    {E_ThrowError : Addr}
    (n_ThrowError : PySem.W.nsIn K mainGlobals "ThrowError" = some (some (.ref E_ThrowError)))
    {E_NoFit : Addr}
    (n_NoFit : PySem.W.nsIn K mainGlobals "NoFit" = some (some (.ref E_NoFit)))
    {E_NoPaper : Addr}
    (n_NoPaper : PySem.W.nsIn K mainGlobals "NoPaper" = some (some (.ref E_NoPaper)))
    {E_NoProgram : Addr}
    (n_NoProgram : PySem.W.nsIn K mainGlobals "NoProgram" = some (some (.ref E_NoProgram)))
    {E_NoRow : Addr}
    (n_NoRow : PySem.W.nsIn K mainGlobals "NoRow" = some (some (.ref E_NoRow)))
    {E_NoText : Addr}
    (n_NoText : PySem.W.nsIn K mainGlobals "NoText" = some (some (.ref E_NoText)))
    {E_TooMany : Addr}
    (n_TooMany : PySem.W.nsIn K mainGlobals "TooMany" = some (some (.ref E_TooMany)))
    (xE_NoRows : PySem.W.excIn K E_NoRows [.type "ValueError", .type "Exception", .type "BaseException", .type "object"] "ValueError.__new__" = true)
    (eC_NoRows : PySem.W.subIn K (.ref E_NoRows) (.type "BaseException") = some true)
    (tC_NoRows : PySem.W.typeIn K (.ref E_NoRows) = some (.type "type"))
    (kC_NoRows : PySem.W.keepIn K (.ref E_NoRows) = true)
    (hg_NoRows : PySem.W.findIn K (.ref E_NoRows) "__getattribute__" = some (some (.builtin "BaseException.__getattribute__")))
    (hk_NoRows : PySem.W.findIn K (.ref E_NoRows) "__getattr__" = some none)
    (hd_NoRows : PySem.W.hasDictIn K E_NoRows = true)
    (ha_NoRows : PySem.W.findIn K (.ref E_NoRows) "__class__" = some (some (.builtin "object.__class__")))
    (hm_NoRows : PySem.W.mroIn K E_NoRows (.type "object") = some true)
    (hn_ : PySem.W.specialIn K (.builtin "object.__class__") "__get__" = some (some (.builtin "getset_descriptor.__get__")))
    (ht_ : PySem.W.takesIn K (.builtin "object.__class__") = some true)
    (iY_NoRows : PySem.W.isClsIn K E_NoRows = true)
    (tY_NoRows : PySem.W.typeIn K (.ref E_NoRows) = some (.type "type"))
    (s_NoRows_NoRows : PySem.W.subIn K (.ref E_NoRows) (.ref E_NoRows) = some true)
    (iY_ThrowError : PySem.W.isClsIn K E_ThrowError = true)
    (tY_ThrowError : PySem.W.typeIn K (.ref E_ThrowError) = some (.type "type"))
    (s_NoRows_ThrowError : PySem.W.subIn K (.ref E_NoRows) (.ref E_ThrowError) = some true)
    (ob_NoRows_ValueError : PySem.W.subIn K (.ref E_NoRows) (.type "ValueError") = some true)
    (iY_NoFit : PySem.W.isClsIn K E_NoFit = true)
    (tY_NoFit : PySem.W.typeIn K (.ref E_NoFit) = some (.type "type"))
    (s_NoRows_NoFit : PySem.W.subIn K (.ref E_NoRows) (.ref E_NoFit) = some false)
    (ne_NoRows_NoFit : decide (E_NoRows = E_NoFit) = false)
    (iY_NoPaper : PySem.W.isClsIn K E_NoPaper = true)
    (tY_NoPaper : PySem.W.typeIn K (.ref E_NoPaper) = some (.type "type"))
    (s_NoRows_NoPaper : PySem.W.subIn K (.ref E_NoRows) (.ref E_NoPaper) = some false)
    (ne_NoRows_NoPaper : decide (E_NoRows = E_NoPaper) = false)
    (iY_NoProgram : PySem.W.isClsIn K E_NoProgram = true)
    (tY_NoProgram : PySem.W.typeIn K (.ref E_NoProgram) = some (.type "type"))
    (s_NoRows_NoProgram : PySem.W.subIn K (.ref E_NoRows) (.ref E_NoProgram) = some false)
    (ne_NoRows_NoProgram : decide (E_NoRows = E_NoProgram) = false)
    (iY_NoRow : PySem.W.isClsIn K E_NoRow = true)
    (tY_NoRow : PySem.W.typeIn K (.ref E_NoRow) = some (.type "type"))
    (s_NoRows_NoRow : PySem.W.subIn K (.ref E_NoRows) (.ref E_NoRow) = some false)
    (ne_NoRows_NoRow : decide (E_NoRows = E_NoRow) = false)
    (iY_NoText : PySem.W.isClsIn K E_NoText = true)
    (tY_NoText : PySem.W.typeIn K (.ref E_NoText) = some (.type "type"))
    (s_NoRows_NoText : PySem.W.subIn K (.ref E_NoRows) (.ref E_NoText) = some false)
    (ne_NoRows_NoText : decide (E_NoRows = E_NoText) = false)
    (iY_TooMany : PySem.W.isClsIn K E_TooMany = true)
    (tY_TooMany : PySem.W.typeIn K (.ref E_TooMany) = some (.type "type"))
    (s_NoRows_TooMany : PySem.W.subIn K (.ref E_NoRows) (.ref E_TooMany) = some false)
    (ne_NoRows_TooMany : decide (E_NoRows = E_TooMany) = false)
    (eD_ThrowError : PySem.W.subIn K (.ref E_ThrowError) (.type "BaseException") = some true)
    (hD_ThrowError : PySem.W.hasDictIn K E_ThrowError = true)
    (tD_ThrowError : PySem.W.typeIn K (.ref E_ThrowError) = some (.type "type"))
    : ∃ fd : FuncData, (∀ (s : Shared) (v : Value), BindsTo s fd ⟨[v], []⟩ [("_law_script", v)]) ∧ ∀ base : Heap, K.In base → base.Ns mainGlobals mg → FnG l.prog w K mg base CX0 9 fa fd ["_law_script"] (spLaw K) := by
  have e := hfa.symm.trans (PySem.W.mg_of X G a23)
  cases e
  have XC_NoRows : ExcC K E_NoRows := ⟨hg_NoRows, hk_NoRows, eC_NoRows, hd_NoRows, ha_NoRows, hn_, ht_, hm_NoRows⟩
  have T : Tx K mg := ⟨PySem.W.mg_none_of X G z0, PySem.W.mg_none_of X G z1, PySem.W.mg_none_of X G z2, PySem.W.mg_none_of X G z3, PySem.W.mg_none_of X G z4, PySem.W.mg_none_of X G z5, PySem.W.mg_none_of X G z6, PySem.W.mg_none_of X G z7, PySem.W.mg_none_of X G z8, PySem.W.mg_none_of X G z9, PySem.W.mg_none_of X G z10, PySem.W.mg_none_of X G z11, PySem.W.mg_none_of X G z12, PySem.W.mg_none_of X G z13, PySem.W.mg_none_of X G z14, isx_mk (PySem.W.mg_of X G n_NoRows) (And.intro (⟨E_NoRows, n_NoRows, (kit_mk iY_NoRows tY_NoRows s_NoRows_NoRows fun _ => rfl), XC_NoRows⟩) trivial), isx_mk (PySem.W.mg_of X G n_ThrowError) (And.intro (⟨E_NoRows, n_NoRows, (kit_mk iY_ThrowError tY_ThrowError s_NoRows_ThrowError fun _ => rfl), XC_NoRows⟩) trivial), isxB_mk (And.intro (⟨E_NoRows, n_NoRows, kit_tyx (by decide +kernel) ob_NoRows_ValueError, XC_NoRows⟩) trivial), isxT_mk (Ds := [E_NoFit, E_NoPaper, E_NoProgram, E_NoRow, E_NoText, E_TooMany]) (.cons (PySem.W.mg_of X G n_NoFit) (.cons (PySem.W.mg_of X G n_NoPaper) (.cons (PySem.W.mg_of X G n_NoProgram) (.cons (PySem.W.mg_of X G n_NoRow) (.cons (PySem.W.mg_of X G n_NoText) (.cons (PySem.W.mg_of X G n_TooMany) .nil)))))) (And.intro (⟨E_NoRows, n_NoRows, (kia_f (kit_mk iY_NoFit tY_NoFit s_NoRows_NoFit (kit_ne ne_NoRows_NoFit)) (kia_f (kit_mk iY_NoPaper tY_NoPaper s_NoRows_NoPaper (kit_ne ne_NoRows_NoPaper)) (kia_f (kit_mk iY_NoProgram tY_NoProgram s_NoRows_NoProgram (kit_ne ne_NoRows_NoProgram)) (kia_f (kit_mk iY_NoRow tY_NoRow s_NoRows_NoRow (kit_ne ne_NoRows_NoRow)) (kia_f (kit_mk iY_NoText tY_NoText s_NoRows_NoText (kit_ne ne_NoRows_NoText)) (kia_f (kit_mk iY_TooMany tY_TooMany s_NoRows_TooMany (kit_ne ne_NoRows_TooMany)) rfl)))))), XC_NoRows⟩) trivial), hdl_mk (PySem.W.mg_of X G n_ThrowError) eD_ThrowError hD_ThrowError tD_ThrowError (And.intro (⟨E_NoRows, n_NoRows, s_NoRows_ThrowError⟩) trivial)⟩
  have F1 := fun_mk (st := s_law_deal) l1 c1 k1
  have b1 := F1.binds (ps := ["_law_script", "_law_base"]) fun _ _ _ _ _ _ us hl => match us, hl with | [_, _], _ => rfl
  have m1 := PySem.W.mg_of X G a1
  have F2 := fun_mk (st := s_law_lowest) l2 c2 k2
  have b2 := F2.binds (ps := ["_law_top", "_law_bottom"]) fun _ _ _ _ _ _ us hl => match us, hl with | [_, _], _ => rfl
  have m2 := PySem.W.mg_of X G a2
  have F3 := fun_mk (st := s_law_draw) l3 c3 k3
  have b3 := F3.binds (ps := ["_law_deal_here", "_law_many"]) fun _ _ _ _ _ _ us hl => match us, hl with | [_, _], _ => rfl
  have m3 := PySem.W.mg_of X G a3
  have F4 := fun_mk (st := s_law_steepness) l4 c4 k4
  have b4 := F4.binds (ps := ["_law_deal_here", "_law_most"]) fun _ _ _ _ _ _ us hl => match us, hl with | [_, _], _ => rfl
  have m4 := PySem.W.mg_of X G a4
  have F5 := fun_mk (st := s_less) l5 c5 k5
  have b5 := F5.binds (ps := ["one", "other"]) fun _ _ _ _ _ _ us hl => match us, hl with | [_, _], _ => rfl
  have m5 := PySem.W.mg_of X G a5
  have F6 := fun_mk (st := s_power) l6 c6 k6
  have b6 := F6.binds (ps := ["one", "k"]) fun _ _ _ _ _ _ us hl => match us, hl with | [_, _], _ => rfl
  have m6 := PySem.W.mg_of X G a6
  have F7 := fun_mk (st := s_divisor) l7 c7 k7
  have b7 := F7.binds (ps := ["one", "other"]) fun _ _ _ _ _ _ us hl => match us, hl with | [_, _], _ => rfl
  have m7 := PySem.W.mg_of X G a7
  have F8 := fun_mk (st := s_lowest) l8 c8 k8
  have b8 := F8.binds (ps := ["top", "bottom"]) fun _ _ _ _ _ _ us hl => match us, hl with | [_, _], _ => rfl
  have m8 := PySem.W.mg_of X G a8
  have F9 := fun_mk (st := s_added) l9 c9 k9
  have b9 := F9.binds (ps := ["one", "other"]) fun _ _ _ _ _ _ us hl => match us, hl with | [_, _], _ => rfl
  have m9 := PySem.W.mg_of X G a9
  have F10 := fun_mk (st := s_merged) l10 c10 k10
  have b10 := F10.binds (ps := ["pairs"]) fun _ _ _ _ _ _ us hl => match us, hl with | [_], _ => rfl
  have m10 := PySem.W.mg_of X G a10
  have F11 := fun_mk (st := s_on_itself) l11 c11 k11
  have b11 := F11.binds (ps := ["a", "b", "is_end"]) fun _ _ _ _ _ _ us hl => match us, hl with | [_, _, _], _ => rfl
  have m11 := PySem.W.mg_of X G a11
  have F12 := fun_mk (st := s_times) l12 c12 k12
  have b12 := F12.binds (ps := ["one", "other"]) fun _ _ _ _ _ _ us hl => match us, hl with | [_, _], _ => rfl
  have m12 := PySem.W.mg_of X G a12
  have F13 := fun_mk (st := s_on_another) l13 c13 k13
  have b13 := F13.binds (ps := ["a", "b", "is_end", "k"]) fun _ _ _ _ _ _ us hl => match us, hl with | [_, _, _, _], _ => rfl
  have m13 := PySem.W.mg_of X G a13
  have F14 := fun_mk (st := s_row_between) l14 c14 k14
  have b14 := F14.binds (ps := ["a", "b", "low", "high", "y"]) fun _ _ _ _ _ _ us hl => match us, hl with | [_, _, _, _, _], _ => rfl
  have m14 := PySem.W.mg_of X G a14
  have F15 := fun_mk (st := s_rows_between) l15 c15 k15
  have b15 := F15.binds (ps := ["a", "b", "low", "high"]) fun _ _ _ _ _ _ us hl => match us, hl with | [_, _, _, _], _ => rfl
  have m15 := PySem.W.mg_of X G a15
  have F16 := fun_mk (st := s_law_refused) l16 c16 k16
  have b16 := F16.binds (ps := ["_law_e"]) fun _ _ _ _ _ _ us hl => match us, hl with | [_], _ => rfl
  have m16 := PySem.W.mg_of X G a16
  have F17 := fun_mk (st := s_law_told) l17 c17 k17
  have b17 := F17.binds (ps := ["_law_a", "_law_b", "_law_low", "_law_high"]) fun _ _ _ _ _ _ us hl => match us, hl with | [_, _, _, _], _ => rfl
  have m17 := PySem.W.mg_of X G a17
  have F18 := fun_mk (st := s_law_comes) l18 c18 k18
  have b18 := F18.binds (ps := ["_law_first", "_law_rows", "_law_second", "_law_low", "_law_high"]) fun _ _ _ _ _ _ us hl => match us, hl with | [_, _, _, _, _], _ => rfl
  have m18 := PySem.W.mg_of X G a18
  have F19 := fun_mk (st := s_law_is_table) l19 c19 k19
  have b19 := F19.binds (ps := ["_law_table", "_law_low", "_law_high"]) fun _ _ _ _ _ _ us hl => match us, hl with | [_, _, _], _ => rfl
  have m19 := PySem.W.mg_of X G a19
  have F20 := fun_mk (st := s_law_power) l20 c20 k20
  have b20 := F20.binds (ps := ["_law_number", "_law_many"]) fun _ _ _ _ _ _ us hl => match us, hl with | [_, _], _ => rfl
  have m20 := PySem.W.mg_of X G a20
  have F21 := fun_mk (st := s_law_ladder) l21 c21 k21
  have b21 := F21.binds (ps := ["_law_steepness_here", "_law_low", "_law_high", "_law_n"]) fun _ _ _ _ _ _ us hl => match us, hl with | [_, _, _, _], _ => rfl
  have m21 := PySem.W.mg_of X G a21
  have F22 := fun_mk (st := s_law_right) l22 c22 k22
  have b22 := F22.binds (ps := ["_law_a", "_law_b", "_law_low", "_law_high"]) fun _ _ _ _ _ _ us hl => match us, hl with | [_, _, _, _], _ => rfl
  have m22 := PySem.W.mg_of X G a22
  have F23 := fun_mk (st := s_law) l23 c23 k23
  refine ⟨PySem.W.fnOf "law" "law" (defArgs s_law) (defBody s_law) (defScope s_law) .none kV23 dc23 pm23 an23 cd23 ct23, fun s v => .of_eq rfl, fun base _ _ => ?_⟩
  have N_NoRows : Exn0 K mg "NoRows" := ⟨⟨E_NoRows, _, _, _, _, PySem.W.mg_of X G n_NoRows, n_NoRows, PySem.F.excBase_ValueError, xE_NoRows, kC_NoRows, eC_NoRows, tC_NoRows⟩⟩
  have C_law_lowest := ok_law_lowest (P := l.prog) (w := w) (base := base) T  F2 m2 b2
  have C_law_draw := ok_law_draw (P := l.prog) (w := w) (base := base) T  F3 m3 b3
  have C_law_steepness := ok_law_steepness (P := l.prog) (w := w) (base := base) T C_law_draw C_law_lowest F4 m4 b4
  have C_less := ok_less (P := l.prog) (w := w) (base := base) T  F5 m5 b5
  have C_power := ok_power (P := l.prog) (w := w) (base := base) T  F6 m6 b6
  have C_divisor := ok_divisor (P := l.prog) (w := w) (base := base) T  F7 m7 b7
  have C_lowest := ok_lowest (P := l.prog) (w := w) (base := base) T C_divisor F8 m8 b8
  have C_added := ok_added (P := l.prog) (w := w) (base := base) T C_lowest F9 m9 b9
  have C_merged := ok_merged (P := l.prog) (w := w) (base := base) T C_added F10 m10 b10
  have C_on_itself := ok_on_itself (P := l.prog) (w := w) (base := base) T C_lowest F11 m11 b11
  have C_times := ok_times (P := l.prog) (w := w) (base := base) T C_lowest F12 m12 b12
  have C_on_another := ok_on_another (P := l.prog) (w := w) (base := base) T C_times C_lowest C_power F13 m13 b13
  have C_row_between := ok_row_between (P := l.prog) (w := w) (base := base) T C_power C_lowest C_on_itself C_on_another C_times C_merged F14 m14 b14
  have CX_rows_between := okX_rows_between (P := l.prog) (w := w) (base := base) T C_less N_NoRows C_row_between F15 m15 b15
  have C_law_refused := ok_law_refused (P := l.prog) (w := w) (base := base) T  F16 m16 b16
  have CQ_law_refused := okQ_law_refused (P := l.prog) (w := w) (base := base) T  F16 m16 b16
  have C_law_told := ok_law_told (P := l.prog) (w := w) (base := base) T CX_rows_between CQ_law_refused F17 m17 b17
  have C_law_comes := ok_law_comes (P := l.prog) (w := w) (base := base) T  F18 m18 b18
  have C_law_is_table := ok_law_is_table (P := l.prog) (w := w) (base := base) T C_law_lowest F19 m19 b19
  have C_law_power := ok_law_power (P := l.prog) (w := w) (base := base) T  F20 m20 b20
  have C_law_ladder := ok_law_ladder (P := l.prog) (w := w) (base := base) T C_law_power F21 m21 b21
  have C_law_right := ok_law_right (P := l.prog) (w := w) (base := base) T C_law_told C_law_is_table C_law_comes C_law_ladder F22 m22 b22
  exact ok_law T C_law_steepness C_law_draw C_law_right F23 (ok_law_deal T F1) m1 F1.kp b1
end K34
open PySem PySem.W PyProof.Rows
set_option maxRecDepth 100000 in
set_option maxHeartbeats 0 in
theorem PySem.Challenge.cw_pairedthrows_k34_rows_between_ladders_holds : PySem.Challenge.rw_pairedthrows_k34_rows_between_ladders.Holds := by
  w_on; o_law; k_head; (case hw => w_witness2)
  k_fill
  refine Pq.walk_law (l := PySem.Challenge.rw_pairedthrows_k34_rows_between_ladders) (k := 9) rfl rfl ⟨⟨rfl, by decide, by decide⟩, rfl⟩ (fun w h Y => PySem.W.kIn_of Y) ?F
  case F =>
    intro w mg fa h KX G hmg
    refine' K34.all_mk KX G hmg ?a1 ?l1 ?c1 ?k1 ?a2 ?l2 ?c2 ?k2 ?a3 ?l3 ?c3 ?k3 ?a4 ?l4 ?c4 ?k4 ?a5 ?l5 ?c5 ?k5 ?a6 ?l6 ?c6 ?k6 ?a7 ?l7 ?c7 ?k7 ?a8 ?l8 ?c8 ?k8 ?a9 ?l9 ?c9 ?k9 ?a10 ?l10 ?c10 ?k10 ?a11 ?l11 ?c11 ?k11 ?a12 ?l12 ?c12 ?k12 ?a13 ?l13 ?c13 ?k13 ?a14 ?l14 ?c14 ?k14 ?a15 ?l15 ?c15 ?k15 ?a16 ?l16 ?c16 ?k16 ?a17 ?l17 ?c17 ?k17 ?a18 ?l18 ?c18 ?k18 ?a19 ?l19 ?c19 ?k19 ?a20 ?l20 ?c20 ?k20 ?a21 ?l21 ?c21 ?k21 ?a22 ?l22 ?c22 ?k22 ?a23 ?l23 ?c23 ?k23 ?z0 ?z1 ?z2 ?z3 ?z4 ?z5 ?z6 ?z7 ?z8 ?z9 ?z10 ?z11 ?z12 ?z13 ?z14 ?n_NoRows ?n_ThrowError ?n_NoFit ?n_NoPaper ?n_NoProgram ?n_NoRow ?n_NoText ?n_TooMany ?xE_NoRows ?eC_NoRows ?tC_NoRows ?kC_NoRows ?hg_NoRows ?hk_NoRows ?hd_NoRows ?ha_NoRows ?hm_NoRows ?hn_ ?ht_ ?iY_NoRows ?tY_NoRows ?s_NoRows_NoRows ?iY_ThrowError ?tY_ThrowError ?s_NoRows_ThrowError ?ob_NoRows_ValueError ?iY_NoFit ?tY_NoFit ?s_NoRows_NoFit ?ne_NoRows_NoFit ?iY_NoPaper ?tY_NoPaper ?s_NoRows_NoPaper ?ne_NoRows_NoPaper ?iY_NoProgram ?tY_NoProgram ?s_NoRows_NoProgram ?ne_NoRows_NoProgram ?iY_NoRow ?tY_NoRow ?s_NoRows_NoRow ?ne_NoRows_NoRow ?iY_NoText ?tY_NoText ?s_NoRows_NoText ?ne_NoRows_NoText ?iY_TooMany ?tY_TooMany ?s_NoRows_TooMany ?ne_NoRows_TooMany ?eD_ThrowError ?hD_ThrowError ?tD_ThrowError
    (case a1 => k_is); (case l1 => k_is); (case c1 => k_is); (case k1 => k_is); (case a2 => k_is); (case l2 => k_is)
    (case c2 => k_is); (case k2 => k_is); (case a3 => k_is); (case l3 => k_is); (case c3 => k_is); (case k3 => k_is)
    (case a4 => k_is); (case l4 => k_is); (case c4 => k_is); (case k4 => k_is); (case a5 => k_is); (case l5 => k_is)
    (case c5 => k_is); (case k5 => k_is); (case a6 => k_is); (case l6 => k_is); (case c6 => k_is); (case k6 => k_is)
    (case a7 => k_is); (case l7 => k_is); (case c7 => k_is); (case k7 => k_is); (case a8 => k_is); (case l8 => k_is)
    (case c8 => k_is); (case k8 => k_is); (case a9 => k_is); (case l9 => k_is); (case c9 => k_is); (case k9 => k_is)
    (case a10 => k_is); (case l10 => k_is); (case c10 => k_is); (case k10 => k_is); (case a11 => k_is); (case l11 => k_is)
    (case c11 => k_is); (case k11 => k_is); (case a12 => k_is); (case l12 => k_is); (case c12 => k_is); (case k12 => k_is)
    (case a13 => k_is); (case l13 => k_is); (case c13 => k_is); (case k13 => k_is); (case a14 => k_is); (case l14 => k_is)
    (case c14 => k_is); (case k14 => k_is); (case a15 => k_is); (case l15 => k_is); (case c15 => k_is); (case k15 => k_is)
    (case a16 => k_is); (case l16 => k_is); (case c16 => k_is); (case k16 => k_is); (case a17 => k_is); (case l17 => k_is)
    (case c17 => k_is); (case k17 => k_is); (case a18 => k_is); (case l18 => k_is); (case c18 => k_is); (case k18 => k_is)
    (case a19 => k_is); (case l19 => k_is); (case c19 => k_is); (case k19 => k_is); (case a20 => k_is); (case l20 => k_is)
    (case c20 => k_is); (case k20 => k_is); (case a21 => k_is); (case l21 => k_is); (case c21 => k_is); (case k21 => k_is)
    (case a22 => k_is); (case l22 => k_is); (case c22 => k_is); (case k22 => k_is); (case a23 => k_is); (case l23 => k_is)
    (case c23 => k_is); (case k23 => k_is); (case z0 => k_is); (case z1 => k_is); (case z2 => k_is); (case z3 => k_is)
    (case z4 => k_is); (case z5 => k_is); (case z6 => k_is); (case z7 => k_is); (case z8 => k_is); (case z9 => k_is)
    (case z10 => k_is); (case z11 => k_is); (case z12 => k_is); (case z13 => k_is); (case z14 => k_is); (case n_NoRows => k_is)
    (case n_ThrowError => k_is); (case n_NoFit => k_is); (case n_NoPaper => k_is); (case n_NoProgram => k_is); (case n_NoRow => k_is); (case n_NoText => k_is)
    (case n_TooMany => k_is); (case xE_NoRows => k_exc); (case eC_NoRows => k_is); (case tC_NoRows => k_is); (case kC_NoRows => k_is); (case hg_NoRows => k_is)
    (case hk_NoRows => k_is); (case hd_NoRows => k_is); (case ha_NoRows => k_is); (case hm_NoRows => k_is); (case hn_ => k_is); (case ht_ => k_is)
    (case iY_NoRows => k_is); (case tY_NoRows => k_is); (case s_NoRows_NoRows => k_is); (case iY_ThrowError => k_is); (case tY_ThrowError => k_is); (case s_NoRows_ThrowError => k_is)
    (case ob_NoRows_ValueError => k_is); (case iY_NoFit => k_is); (case tY_NoFit => k_is); (case s_NoRows_NoFit => k_is); (case ne_NoRows_NoFit => decide); (case iY_NoPaper => k_is)
    (case tY_NoPaper => k_is); (case s_NoRows_NoPaper => k_is); (case ne_NoRows_NoPaper => decide); (case iY_NoProgram => k_is); (case tY_NoProgram => k_is); (case s_NoRows_NoProgram => k_is)
    (case ne_NoRows_NoProgram => decide); (case iY_NoRow => k_is); (case tY_NoRow => k_is); (case s_NoRows_NoRow => k_is); (case ne_NoRows_NoRow => decide); (case iY_NoText => k_is)
    (case tY_NoText => k_is); (case s_NoRows_NoText => k_is); (case ne_NoRows_NoText => decide); (case iY_TooMany => k_is); (case tY_TooMany => k_is); (case s_NoRows_TooMany => k_is)
    (case ne_NoRows_TooMany => decide); (case eD_ThrowError => k_is); (case hD_ThrowError => k_is); (case tD_ThrowError => k_is)
