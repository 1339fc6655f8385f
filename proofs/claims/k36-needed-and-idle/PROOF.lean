import PyProof.Rows.All
import Wide.All
import OpenK.AllK
import Wide.FinOn
import HandS.ForMost
import HandS.Wide
import HandS.WideBits
import HandS.Deep
import HandS.Conv
import HandS.Zip
import HandS.TupAny
import HandS.IsInst
import HandS.Rev
import PyProof.ListStr
import HandS.EndBits
import HandS.TupSets
import HandS.Exc
import HandS.SortRule
import HandS.TupLe
import HandS.More
import KE.KDictWalk
import KE.KDictSum
import PyProof.Rows.SortWalk
import HandS.TryOnly
import PyProof.WalkInts
import HandS.Style
import PyProof.ReprRoads
import HandS.RaiseMore
import HandS.FStrTup
import HandS.Text
import KE.KDictPairs
import HandS.WordsDict
import PySem.Challenge.RW_pairedthrows_k36_needed_and_idle
set_option Elab.async false
set_option linter.all false
set_option maxRecDepth 100000
set_option maxHeartbeats 4000000
namespace Pq
open PySem PySem.Spec PyProof.Rows L2

abbrev Da := PyData
/-- what is known of a slot -/
inductive SV where
  | no
  | val (d : Da)
  | own (w : Bool) (d : Da)
  | deal
  | bor (d : Da)
  | res (b : Bool) (d : Da) (ids : List (Nat × Da))
/-- slots that know an object alone -/
def OB : SV → Prop
  | .own _ _ => True
  | .bor _ => True
  | _ => False
abbrev En := List SV

def keyD : Key → Da
  | .inl i => .int i
  | .inr x => .str x
def tkD (k : List Key) : Da := .tuple (k.map keyD)
/-- a dict whose keys are tuples: marked by a first pair -/
def dTm (ds : List (Da × Da)) : Da := .dict ((.none, .none) :: ds)
/-- a tuple that has no dict of its own -/
def PlT (K : PySem.W.Frag) (H : Hp) (a : Addr) (xs : List V) : Prop := (∃ o, H a = some (.frz o (.tup xs)) ∧ o.dict = none) ∨
  ∃ (o : Obj) (its : Array Value) (n : Nat), K.lookup a = some o ∧ o.cls = .type "tuple" ∧ o.dict = none ∧ o.data = .seq its n ∧ its.size ≤ sizeLine ∧ Vals xs its.toList
theorem PlT.sq {K : PySem.W.Frag} {H : Hp} {a : Addr} {xs : List V} (h : PlT K H a xs) : SqT K H a xs := by
  rcases h with ⟨o, h, _⟩ | ⟨o, its, n, h1, h2, _, h3⟩
  · exact .inl (.inr ⟨o, h⟩)
  · exact .inr ⟨o, its, n, h1, h2, h3⟩
theorem PlT.up {K : PySem.W.Frag} {S S' : Hp} {a : Addr} {xs : List V} (e : ∀ a o, S a = some o → S' a = some o) (h : PlT K S a xs) : PlT K S' a xs := by
  rcases h with ⟨o, h, d⟩ | h
  · exact .inl ⟨o, e _ _ h, d⟩
  · exact .inr h
/-- dicts whose keys are tuples of ints -/
def tkHash (ks : List Int) : Int := PySem.reduceHash (PySem.Builtin.Tuple.tupleHashOf (ks.map PySem.hashInt))
def tEnt (x : List Int × Addr × Value) : DictEntry := ⟨tkHash x.1, .ref x.2.1, x.2.2⟩
abbrev TKv := List (List Int × Addr × V)
def TPr (p : List Int × Addr × V) (q : List Int × Addr × Value) : Prop := p.1 = q.1 ∧ p.2.1 = q.2.1 ∧ RelV p.2.2 q.2.2
def TDat (h : Heap) (a : Addr) (kvs : TKv) : Prop := kvs.length ≤ sizeLine ∧ (a == sysModules) = false ∧ ∃ xs, Paired TPr kvs xs ∧ ∃ o es ep, h.get? a = some o ∧ o.ExactDict ∧ o.data = .dict es ep ∧ es.toList = xs.map tEnt ∧ (xs.map (·.1)).Nodup
def dtO (a : Addr) (kvs : TKv) : HO := .ext fun h => TDat h a kvs
mutual
/-- a value is a piece of data: none, truths, ints, texts, lists and tuples of such -/
inductive Dq (K : PySem.W.Frag) (H : Hp) : V → Da → Prop
  | non : Dq K H .non .none
  | bl (b : Bool) : Dq K H (.bl b) (.bool b)
  | int (i : Int) : Dq K H (.int i) (.int i)
  | str (x : Str) : Dq K H (.str x) (.str x)
  | lst {a : Addr} {xs : List V} {ds : List Da} : Rd H a (.lst xs) → DqAll K H xs ds → Dq K H (.ref a) (.list ds)
  | tup {a : Addr} {xs : List V} {ds : List Da} : PlT K H a xs → DqAll K H xs ds → Dq K H (.ref a) (.tuple ds)
  | dk {a : Addr} {kvs : List (Key × V)} {ds : List (Da × Da)} : H a = some (.dK kvs) → DqK K H kvs ds → Dq K H (.ref a) (.dict ds)
  | dt {a a' : Addr} {kvs : TKv} {ds : List (Da × Da)} : H a = some (dtO a' kvs) → DqT K H kvs ds → Dq K H (.ref a) (.dict ((.none, .none) :: ds))
  | scr {a : Addr} {ns : List Int} : SqL K H a (ns.map V.int) → Dq K H (.ref a) (.dict [(.bool false, .list (ns.map PyData.int))])
  | pr {a : Addr} {xs : List V} {d : Da} {ds : List (Da × Da)} : SqT K H a xs → DqP K H xs ((.bool true, d) :: ds) → Dq K H (.ref a) (.dict ((.bool true, d) :: ds))
inductive DqP (K : PySem.W.Frag) (H : Hp) : List V → List (Da × Da) → Prop
  | nil : DqP K H [] []
  | cons {v : V} {vs : List V} {d : Da} {ds : List (Da × Da)} : Dq K H v d → DqP K H vs ds → DqP K H (v :: vs) ((.bool true, d) :: ds)
inductive DqAll (K : PySem.W.Frag) (H : Hp) : List V → List Da → Prop
  | nil : DqAll K H [] []
  | cons {v : V} {vs : List V} {d : Da} {ds : List Da} : Dq K H v d → DqAll K H vs ds → DqAll K H (v :: vs) (d :: ds)
inductive DqK (K : PySem.W.Frag) (H : Hp) : List (Key × V) → List (Da × Da) → Prop
  | nil : DqK K H [] []
  | cons {k : Key} {v : V} {vs : List (Key × V)} {d : Da} {ds : List (Da × Da)} : Dq K H v d → DqK K H vs ds → DqK K H ((k, v) :: vs) ((keyD k, d) :: ds)
inductive DqT (K : PySem.W.Frag) (H : Hp) : List (List Int × Addr × V) → List (Da × Da) → Prop
  | nil : DqT K H [] []
  | cons {k : List Int} {b : Addr} {v : V} {vs : List (List Int × Addr × V)} {d : Da} {ds : List (Da × Da)} : PlT K H b (k.map V.int) → Dq K H v d → DqT K H vs ds → DqT K H ((k, b, v) :: vs) ((.tuple (k.map PyData.int), d) :: ds)
end
/-- what an object holds -/
inductive HoD (K : PySem.W.Frag) (S : Hp) : HO → Da → Prop
  | lst {vs : List V} {ds : List Da} : DqAll K S vs ds → HoD K S (.lst vs) (.list ds)
  | dk {kvs : List (Key × V)} {ds : List (Da × Da)} : DqK K S kvs ds → HoD K S (.dK kvs) (.dict ds)
  | dt {a : Addr} {kvs : TKv} {ds : List (Da × Da)} : DqT K S kvs ds → HoD K S (dtO a kvs) (.dict ((.none, .none) :: ds))
theorem HoD.dq {K : PySem.W.Frag} {S : Hp} {o : HO} {d : Da} {a : Addr} (h : HoD K S o d) (r : S a = some o) : Dq K S (.ref a) d := by
  cases h with
  | lst h => exact .lst (.inl r) h
  | dk h => exact .dk r h
  | dt h => exact .dt r h

structure Bs where
  S : Hp
  H : Hp
  deal : Option (Addr × Addr)
  bo : Nat → Option Addr

def FP (B : Bs) (a : Addr) : Prop := ∃ p l, B.deal = some (p, l) ∧ (a = p ∨ a = l)
def DealAt (H : Hp) (p l : Addr) : Prop := p ≠ l ∧ ∃ (seed num : Int) (left : List Int),
  H p = some (.dK [((Sum.inr "seed" : Key), .int seed), (Sum.inr "number", .int num), (Sum.inr "left", .ref l)]) ∧ H l = some (.lst (left.map V.int)) ∧
  0 ≤ seed ∧ seed < 2 ^ 32 ∧ 0 ≤ num ∧ left.length ≤ 63 ∧ ∀ x ∈ left, 0 ≤ x

structure Wd (B : Bs) (S H : Hp) : Prop where
  sub : ∀ a o, S a = some o → H a = some o
  bS : ∀ a o, B.S a = some o → S a = some o
  bH : ∀ a o, ¬ FP B a → B.H a = some o → H a = some o
  bN : ∀ a o, B.H a = some o → B.S a = none → S a = none
  deal : ∀ p l, B.deal = some (p, l) → DealAt H p l ∧ (∃ o, B.H p = some o) ∧ (∃ o, B.H l = some o) ∧ B.S p = none ∧ B.S l = none

def Own (K : PySem.W.Frag) (B : Bs) (S H : Hp) (d : Da) (p : Addr) : Prop :=
  B.H p = none ∧ S p = none ∧ ∃ o, H p = some o ∧ HoD K S o d

structure Rel (K : PySem.W.Frag) (B : Bs) (env : En) (S : Hp) (σ : L2.St) (H : Hp) : Prop where
  w : Wd B S H
  len : env.length = σ.length
  slot : ∀ (i : Nat) (d : Da), env[i]? = some (.val d) → ∃ v, σ[i]? = some (some v) ∧ Dq K S v d
  dl : ∀ (i : Nat), env[i]? = some .deal → ∃ p l, B.deal = some (p, l) ∧ σ[i]? = some (some (.ref p))
  own : ∀ (i : Nat) (b : Bool) (d : Da), env[i]? = some (.own b d) → ∃ p, σ[i]? = some (some (.ref p)) ∧ Own K B S H d p
  dist : ∀ (i j : Nat) (b c : Bool) (d e : Da) (p : Addr), env[i]? = some (.own b d) → env[j]? = some (.own c e) → σ[i]? = some (some (.ref p)) → σ[j]? = some (some (.ref p)) → i = j
  bor : ∀ (i : Nat) (d : Da), env[i]? = some (.bor d) → ∃ p, B.bo i = some p ∧ σ[i]? = some (some (.ref p)) ∧ Own K B S H d p
  obd : ∀ (i j : Nat) (b : Bool) (d e : Da) (p : Addr), env[i]? = some (.own b d) → env[j]? = some (.bor e) → σ[i]? = some (some (.ref p)) → σ[j]? = some (some (.ref p)) → False
  binj : ∀ (i j : Nat) (p : Addr), B.bo i = some p → B.bo j = some p → i = j
theorem Rel.ob {K : PySem.W.Frag} {B : Bs} {env : En} {S : Hp} {σ : L2.St} {H : Hp} (R : Rel K B env S σ H) {i : Nat} {sv : SV} (h : env[i]? = some sv) (o : OB sv) : ∃ p d, σ[i]? = some (some (.ref p)) ∧ Own K B S H d p := by
  cases sv with
  | own b d =>
    obtain ⟨p, a, c⟩ := R.own i b d h
    exact ⟨p, d, a, c⟩
  | bor d =>
    obtain ⟨p, _, a, c⟩ := R.bor i d h
    exact ⟨p, d, a, c⟩
  | _ => exact o.elim
/-- what is fresh lies in no slot that knows alone -/
theorem Rel.fresh {K : PySem.W.Frag} {B : Bs} {env : En} {S : Hp} {σ : L2.St} {H : Hp} (R : Rel K B env S σ H) {p : Addr} (hp : H p = none) : ∀ (i : Nat) (sv : SV), env[i]? = some sv → OB sv → σ[i]? ≠ some (some (.ref p)) := fun i sv h o z => by
  obtain ⟨p', d, a, _, _, u, c, _⟩ := R.ob h o
  rw [z] at a; cases a
  rw [hp] at c; cases c

/-- a step of an expression -/
def Stp (B : Bs) (S H S' H' : Hp) : Prop := (∀ a o, S a = some o → S' a = some o) ∧ ∀ a o, ¬ FP B a → H a = some o → H' a = some o
theorem Stp.refl {B : Bs} {S H : Hp} : Stp B S H S H := ⟨fun _ _ h => h, fun _ _ _ h => h⟩
theorem Stp.trans {B : Bs} {S H S1 H1 S2 H2 : Hp} (a : Stp B S H S1 H1) (b : Stp B S1 H1 S2 H2) : Stp B S H S2 H2 :=
  ⟨fun x o h => b.1 x o (a.1 x o h), fun x o f h => b.2 x o f (a.2 x o f h)⟩

/-- a step that freezes at most what env owns -/
structure Stq (B : Bs) (σ : L2.St) (env : En) (S H : Hp) (env' : En) (S' H' : Hp) : Prop where
  s : Stp B S H S' H'
  ow : ∀ (i : Nat) (sv : SV), env'[i]? = some sv → OB sv → env[i]? = some sv
  fz : ∀ a o, ¬ FP B a → H a = some o → S a = none → S' a = none ∨ ∃ (i : Nat) (d : Da), env[i]? = some (.own true d) ∧ σ[i]? = some (some (.ref a))
theorem Stq.refl {B : Bs} {σ : L2.St} {env : En} {S H : Hp} : Stq B σ env S H env S H := ⟨.refl, fun _ _ h _ => h, fun _ _ _ _ h => .inl h⟩
theorem Stq.trans {B : Bs} {σ : L2.St} {env env1 env2 : En} {S H S1 H1 S2 H2 : Hp} (a : Stq B σ env S H env1 S1 H1) (b : Stq B σ env1 S1 H1 env2 S2 H2) : Stq B σ env S H env2 S2 H2 :=
  ⟨a.s.trans b.s, fun i sv h o => a.ow i sv (b.ow i sv h o) o, fun x o f e n => by
    rcases a.fz x o f e n with z | z
    · rcases b.fz x o f (a.s.2 x o f e) z with y | ⟨i, d, y1, y2⟩
      · exact .inl y
      · exact .inr ⟨i, d, a.ow i _ y1 trivial, y2⟩
    · exact .inr z⟩
def IsR (K : PySem.W.Frag) (B : Bs) (env : En) (S : Hp) (σ : L2.St) (H0 H : Hp) : SV → V → Prop
  | .val d, v => Dq K S v d
  | .own b d, v => b = true ∧ ∃ p, v = .ref p ∧ Own K B S H d p ∧ H0 p = none ∧ ∀ (i : Nat) (sv : SV), env[i]? = some sv → OB sv → σ[i]? ≠ some (some (.ref p))
  | .deal, v => ∃ p l, B.deal = some (p, l) ∧ v = .ref p
  | _, _ => False
/-- looked at -/
def IsP (K : PySem.W.Frag) (B : Bs) (S H : Hp) (d : Da) (v : V) : Prop :=
  Dq K S v d ∨ ∃ p o, v = .ref p ∧ ¬ FP B p ∧ H p = some o ∧ HoD K S o d

section
variable {K : PySem.W.Frag} {S S' H H' : Hp}
theorem Rd.up {a : Addr} {u : HO} (e : ∀ a o, S a = some o → S' a = some o) (h : Rd S a u) : Rd S' a u := by
  rcases h with h | ⟨o, h⟩
  · exact .inl (e _ _ h)
  · exact .inr ⟨o, e _ _ h⟩
theorem SqL.up {a : Addr} {xs : List V} (e : ∀ a o, S a = some o → S' a = some o) (h : SqL K S a xs) : SqL K S' a xs := by
  rcases h with (h | ⟨o, h⟩) | h
  · exact .inl (.inl (e _ _ h))
  · exact .inl (.inr ⟨o, e _ _ h⟩)
  · exact .inr h
theorem SqT.up {a : Addr} {xs : List V} (e : ∀ a o, S a = some o → S' a = some o) (h : SqT K S a xs) : SqT K S' a xs := by
  rcases h with (h | ⟨o, h⟩) | h
  · exact .inl (.inl (e _ _ h))
  · exact .inl (.inr ⟨o, e _ _ h⟩)
  · exact .inr h
mutual
theorem Dq.up (e : ∀ a o, S a = some o → S' a = some o) : ∀ (d : Da) (v : V), Dq K S v d → Dq K S' v d
  | .none, _, h => by cases h; exact .non
  | .bool b, _, h => by cases h; exact .bl b
  | .int i, _, h => by cases h; exact .int i
  | .str x, _, h => by cases h; exact .str x
  | .list ds, _, h => by
    cases h with
    | lst hs ha => exact .lst (Rd.up e hs) (DqAll.up e ds _ ha)
  | .tuple ds, _, h => by
    cases h with
    | tup hs ha => exact .tup (PlT.up e hs) (DqAll.up e ds _ ha)
  | .dict ds, _, h => by
    cases h with
    | dk hs ha => exact .dk (e _ _ hs) (DqK.up e ds _ ha)
    | dt hs ha => exact .dt (e _ _ hs) (DqT.up e _ _ ha)
    | scr hs => exact .scr (SqL.up e hs)
    | pr hs ha => exact .pr (SqT.up e hs) (DqP.up e _ _ ha)
theorem DqP.up (e : ∀ a o, S a = some o → S' a = some o) : ∀ (ds : List (Da × Da)) (vs : List V), DqP K S vs ds → DqP K S' vs ds
  | [], _, h => by cases h; exact .nil
  | (_, d) :: ds, _, h => by
    cases h with
    | cons h1 h2 => exact .cons (Dq.up e d _ h1) (DqP.up e ds _ h2)
theorem DqAll.up (e : ∀ a o, S a = some o → S' a = some o) : ∀ (ds : List Da) (vs : List V), DqAll K S vs ds → DqAll K S' vs ds
  | [], _, h => by cases h; exact .nil
  | d :: ds, _, h => by
    cases h with
    | cons h1 h2 => exact .cons (Dq.up e d _ h1) (DqAll.up e ds _ h2)
theorem DqK.up (e : ∀ a o, S a = some o → S' a = some o) : ∀ (ds : List (Da × Da)) (vs : List (Key × V)), DqK K S vs ds → DqK K S' vs ds
  | [], _, h => by cases h; exact .nil
  | (_, d) :: ds, _, h => by
    cases h with
    | cons h1 h2 => exact .cons (Dq.up e d _ h1) (DqK.up e ds _ h2)
theorem DqT.up (e : ∀ a o, S a = some o → S' a = some o) : ∀ (ds : List (Da × Da)) (vs : TKv), DqT K S vs ds → DqT K S' vs ds
  | [], _, h => by cases h; exact .nil
  | (_, d) :: ds, _, h => by
    cases h with
    | cons h0 h1 h2 => exact .cons (PlT.up e h0) (Dq.up e d _ h1) (DqT.up e ds _ h2)
end
theorem HoD.up {o : HO} {d : Da} (e : ∀ a o, S a = some o → S' a = some o) (h : HoD K S o d) : HoD K S' o d := by
  cases h with
  | lst h => exact .lst (DqAll.up e _ _ h)
  | dk h => exact .dk (DqK.up e _ _ h)
  | dt h => exact .dt (DqT.up e _ _ h)
mutual
theorem Dq.dp : ∀ (d : Da) (v : V), d.canLay0 = true → Dq K S v d → Dp K S v d
  | .none, _, _, h => by cases h; exact .non
  | .bool b, _, _, h => by cases h; exact .bl b
  | .int i, _, _, h => by cases h; exact .int i
  | .str x, _, _, h => by cases h; exact .str x
  | .list ds, _, c, h => by
    cases h with
    | lst hs ha => exact .lst (.inl hs) (DqAll.dp ds _ (by simpa [PyData.canLay0] using c) ha)
  | .tuple ds, _, c, h => by
    cases h with
    | tup hs ha => exact .tup hs.sq (DqAll.dp ds _ (by simpa [PyData.canLay0] using c) ha)
  | .dict _, _, c, h => by simp [PyData.canLay0] at c
theorem DqAll.dp : ∀ (ds : List Da) (vs : List V), PyData.canLayAll0 ds = true → DqAll K S vs ds → DpAll K S vs ds
  | [], _, _, h => by cases h; exact .nil
  | d :: ds, _, c, h => by
    have c' : d.canLay0 = true ∧ PyData.canLayAll0 ds = true := by simpa [PyData.canLayAll0] using c
    cases h with
    | cons h1 h2 => exact .cons (Dq.dp d _ c'.1 h1) (DqAll.dp ds _ c'.2 h2)
end
theorem DqAll.length : ∀ {ds : List Da} {vs : List V}, DqAll K S vs ds → vs.length = ds.length
  | [], _, h => by cases h; rfl
  | d :: ds, _, h => by
    cases h with
    | cons h1 h2 => rw [List.length_cons, List.length_cons, DqAll.length h2]
theorem DqAll.get : ∀ {ds : List Da} {vs : List V} {i : Nat} {d : Da}, DqAll K S vs ds → ds[i]? = some d → ∃ v, vs[i]? = some v ∧ Dq K S v d
  | [], _, _, _, h, e => by simp at e
  | d :: ds, _, 0, _, h, e => by
    cases h with
    | cons h1 h2 => simp at e; subst e; exact ⟨_, rfl, h1⟩
  | d :: ds, _, i + 1, _, h, e => by
    cases h with
    | cons h1 h2 =>
      obtain ⟨v, a, b⟩ := DqAll.get (i := i) h2 (by simpa using e)
      exact ⟨v, by simpa using a, b⟩
theorem DqAll.getV : ∀ {ds : List Da} {vs : List V} {i : Nat} {v : V}, DqAll K S vs ds → vs[i]? = some v → ∃ d, ds[i]? = some d ∧ Dq K S v d
  | [], _, _, _, h, e => by cases h; simp at e
  | d :: ds, _, 0, _, h, e => by
    cases h with
    | cons h1 h2 => simp at e; subst e; exact ⟨_, rfl, h1⟩
  | d :: ds, _, i + 1, _, h, e => by
    cases h with
    | cons h1 h2 =>
      obtain ⟨v, a, b⟩ := DqAll.getV (i := i) h2 (by simpa using e)
      exact ⟨v, by simpa using a, b⟩
theorem DqAll.app : ∀ {ds es : List Da} {vs us : List V}, DqAll K S vs ds → DqAll K S us es → DqAll K S (vs ++ us) (ds ++ es)
  | [], _, _, _, h, h' => by cases h; exact h'
  | d :: ds, _, _, _, h, h' => by
    cases h with
    | cons h1 h2 => exact .cons h1 (DqAll.app h2 h')
theorem DqAll.drop : ∀ {ds : List Da} {vs : List V} (n : Nat), DqAll K S vs ds → DqAll K S (vs.drop n) (ds.drop n)
  | _, _, 0, h => h
  | [], _, n + 1, h => by cases h; exact .nil
  | d :: ds, _, n + 1, h => by
    cases h with
    | cons h1 h2 => exact DqAll.drop n h2
theorem DqAll.take : ∀ {ds : List Da} {vs : List V} (n : Nat), DqAll K S vs ds → DqAll K S (vs.take n) (ds.take n)
  | _, _, 0, h => .nil
  | [], _, n + 1, h => by cases h; exact .nil
  | d :: ds, _, n + 1, h => by
    cases h with
    | cons h1 h2 => exact .cons h1 (DqAll.take n h2)
theorem DqAll.set : ∀ {ds : List Da} {vs : List V} (n : Nat) {v : V} {d : Da}, DqAll K S vs ds → Dq K S v d → DqAll K S (vs.set n v) (ds.set n d)
  | [], _, n, _, _, h, _ => by cases h; exact .nil
  | d :: ds, _, 0, _, _, h, h' => by
    cases h with
    | cons h1 h2 => exact .cons h' h2
  | d :: ds, _, n + 1, _, _, h, h' => by
    cases h with
    | cons h1 h2 => exact .cons h1 (DqAll.set n h2 h')
theorem IsP.up {B : Bs} {d : Da} {v : V} (e : Stp B S H S' H') (h : IsP K B S H d v) : IsP K B S' H' d v := by
  rcases h with h | ⟨p, o, h1, h3, h4, h5⟩
  · exact .inl (Dq.up e.1 _ _ h)
  · exact .inr ⟨p, o, h1, h3, e.2 _ _ h3 h4, h5.up e.1⟩
theorem upd_sub {p : Addr} {o : HO} (h : H p = none) : ∀ a x, H a = some x → upd H p o a = some x := fun a x e => by
  rw [upd_ne (ne_of_none e h)]; exact e
end

section
variable {K : PySem.W.Frag} {B : Bs} {env : En} {S H : Hp} {σ : L2.St}
theorem Wd.snone {p : Addr} (w : Wd B S H) (h : H p = none) : S p = none := by
  cases e : S p with
  | none => rfl
  | some o => rw [w.sub _ _ e] at h; cases h
theorem Wd.fp {a : Addr} (w : Wd B S H) (f : FP B a) : (∃ o, B.H a = some o) ∧ B.S a = none ∧ ∃ o, H a = some o := by
  obtain ⟨p, l, e, z⟩ := f
  obtain ⟨⟨_, _, _, _, d1, d2, _⟩, d3, d4, d5, d6⟩ := w.deal p l e
  rcases z with rfl | rfl
  · exact ⟨d3, d5, _, d1⟩
  · exact ⟨d4, d6, _, d2⟩
theorem Wd.bnone {p : Addr} (w : Wd B S H) (h : H p = none) : B.H p = none := by
  cases e : B.H p with
  | none => rfl
  | some o =>
    by_cases f : FP B p
    · obtain ⟨_, _, o, q⟩ := w.fp f
      rw [q] at h; cases h
    · rw [w.bH _ _ f e] at h; cases h
theorem Wd.nfp {p : Addr} (w : Wd B S H) (h : B.H p = none) : ¬ FP B p := fun f => by
  obtain ⟨⟨o, e⟩, _⟩ := w.fp f
  rw [e] at h; cases h
theorem DealAt.up {H' : Hp} {p l : Addr} (d : DealAt H p l) (e1 : H' p = H p) (e2 : H' l = H l) : DealAt H' p l := by
  unfold DealAt at *
  rw [e1, e2]; exact d
/-- a fresh object, not yet stable -/
theorem Wd.alloc {p : Addr} {o : HO} (w : Wd B S H) (h : H p = none) : Wd B S (upd H p o) := by
  refine ⟨fun a x e => upd_sub h a x (w.sub a x e), w.bS, fun a x f e => upd_sub h a x (w.bH a x f e), w.bN, fun q l e => ?_⟩
  obtain ⟨d1, d2⟩ := w.deal q l e
  refine ⟨?_, d2⟩
  obtain ⟨n, _, _, _, a1, a2, _⟩ := id d1
  exact d1.up (upd_ne (ne_of_none a1 h)) (upd_ne (ne_of_none a2 h))
theorem Wd.allocS {p : Addr} {o : HO} (w : Wd B S H) (h : H p = none) : Wd B (upd S p o) (upd H p o) := by
  have w' := w.alloc (o := o) h
  have sp := w.snone h
  have bp := w.bnone h
  refine ⟨fun a x e => ?_, fun a x e => upd_sub sp a x (w.bS a x e), w'.bH, fun a x e e2 => ?_, w'.deal⟩
  · by_cases q : a = p
    · subst q; rw [upd_same] at e ⊢; exact e
    · rw [upd_ne q] at e ⊢; exact w.sub a x e
  · have q : a ≠ p := fun z => by subst z; rw [bp] at e; cases e
    rw [upd_ne q]; exact w.bN a x e e2
theorem stp_alloc {p : Addr} {o : HO} (h : H p = none) : Stp B S H S (upd H p o) := ⟨fun _ _ e => e, fun a x _ e => upd_sub h a x e⟩
theorem stq_alloc {p : Addr} {o : HO} (h : H p = none) : Stq B σ env S H env S (upd H p o) := ⟨stp_alloc h, fun _ _ e _ => e, fun _ _ _ _ e => .inl e⟩
theorem stp_allocS {p : Addr} {o : HO} (w : Wd B S H) (h : H p = none) : Stp B S H (upd S p o) (upd H p o) := ⟨fun a x e => upd_sub (w.snone h) a x e, fun a x _ e => upd_sub h a x e⟩

theorem stq_allocS {p : Addr} {o : HO} (w : Wd B S H) (h : H p = none) : Stq B σ env S H env (upd S p o) (upd H p o) := ⟨stp_allocS w h, fun _ _ e _ => e, fun a u _ e n => .inl (by rw [upd_ne (ne_of_none e h)]; exact n)⟩
theorem IsR.back {env1 env2 : En} {S1 H1 S2 H2 : Hp} {r : SV} {v : V} (w : Wd B S H) (st : Stq B σ env S H env1 S1 H1) (h : IsR K B env2 S2 σ H1 H2 r v) : IsR K B env2 S2 σ H H2 r v := by
  cases r with
  | own b d =>
    obtain ⟨hb, p, e, o, hn, k⟩ := h
    refine ⟨hb, p, e, o, ?_, k⟩
    cases z : H p with
    | none => rfl
    | some u => rw [st.s.2 p u (w.nfp o.1) z] at hn; cases hn
  | _ => exact h
/-- the env stands over a step that keeps what it owns out of S -/
theorem Rel.stp {S' H' : Hp} (R : Rel K B env S σ H) (w : Wd B S' H') (e : Stp B S H S' H') (k : ∀ (i : Nat) (sv : SV) (p : Addr), env[i]? = some sv → OB sv → σ[i]? = some (some (.ref p)) → S' p = none) : Rel K B env S' σ H' := by
  refine ⟨w, R.len, fun i d h => ?_, R.dl, fun i b d h => ?_, R.dist, fun i d h => ?_, R.obd, R.binj⟩
  · obtain ⟨v, a, b⟩ := R.slot i d h
    exact ⟨v, a, Dq.up e.1 _ _ b⟩
  · obtain ⟨p, a, c1, c, o, d2, d3⟩ := R.own i b d h
    exact ⟨p, a, c1, k i _ p h trivial a, o, e.2 _ _ (w.nfp c1) d2, d3.up e.1⟩
  · obtain ⟨p, b, a, c1, c, o, d2, d3⟩ := R.bor i d h
    exact ⟨p, b, a, c1, k i _ p h trivial a, o, e.2 _ _ (w.nfp c1) d2, d3.up e.1⟩
theorem Rel.alloc {p : Addr} {o : HO} (R : Rel K B env S σ H) (h : H p = none) : Rel K B env S σ (upd H p o) :=
  R.stp (R.w.alloc h) (stp_alloc h) fun i sv q a ob b => by
    obtain ⟨p', d, a', b', c', _⟩ := R.ob a ob
    rw [b] at a'; cases a'; exact c'
theorem Rel.allocS {p : Addr} {o : HO} (R : Rel K B env S σ H) (h : H p = none) : Rel K B env (upd S p o) σ (upd H p o) :=
  R.stp (R.w.allocS h) (stp_allocS R.w h) fun i sv q a ob b => by
    obtain ⟨p', d, a', b', c', o', d2, d3⟩ := R.ob a ob
    rw [b] at a'; cases a'
    rw [upd_ne (ne_of_none d2 h)]; exact c'
theorem getElem?_setp {α : Type} {l : List α} {i j : Nat} {x y : α} (h : (l.set i x)[j]? = some y) : (i = j ∧ y = x) ∨ (i ≠ j ∧ l[j]? = some y) := by
  by_cases e : i = j
  · subst e
    by_cases hl : i < l.length
    · rw [List.getElem?_set_self hl] at h; exact .inl ⟨rfl, (Option.some.inj h).symm⟩
    · rw [List.getElem?_eq_none (by simpa using hl)] at h; cases h
  · rw [List.getElem?_set_ne e] at h; exact .inr ⟨e, h⟩
/-- what a slot owns is frozen -/
theorem Rel.frz {i : Nat} {d0 : Da} {o0 : HO} {p : Addr} (R : Rel K B env S σ H) {w : Bool} (h : env[i]? = some (.own w d0)) (hs : σ[i]? = some (some (.ref p))) (hp : H p = some o0) (hd : HoD K S o0 d0) (hB : B.H p = none) (hS : S p = none) :
    Rel K B (env.set i (.val d0)) (upd S p o0) σ H ∧ (w = true → Stq B σ env S H (env.set i (.val d0)) (upd S p o0) H) := by
  have e1 : ∀ a o, S a = some o → upd S p o0 a = some o := upd_sub hS
  have w' : Wd B (upd S p o0) H := by
    refine ⟨fun a o e => ?_, fun a o e => e1 a o (R.w.bS a o e), R.w.bH, fun a o e e2 => ?_, R.w.deal⟩
    · by_cases q : a = p
      · subst q; rw [upd_same] at e; cases e; exact hp
      · rw [upd_ne q] at e; exact R.w.sub a o e
    · have q : a ≠ p := fun z => by subst z; rw [hB] at e; cases e
      rw [upd_ne q]; exact R.w.bN a o e e2
  refine ⟨⟨w', by rw [List.length_set]; exact R.len, fun j d e => ?_, fun j e => ?_, fun j b d e => ?_, fun j k b b' d d' q e e' => ?_, fun j d e => ?_, fun j k b d d' q e e' => ?_, R.binj⟩, fun hw => ⟨⟨e1, fun _ _ _ e => e⟩, fun j sv e o => ?_, fun a o f e n => ?_⟩⟩
  · rcases getElem?_setp e with ⟨e2, e3⟩ | ⟨e2, e3⟩
    · cases e3; subst e2
      exact ⟨.ref p, hs, (hd.up e1).dq upd_same⟩
    · obtain ⟨v, a, b⟩ := R.slot j d e3
      exact ⟨v, a, Dq.up e1 _ _ b⟩
  · rcases getElem?_setp e with ⟨e2, e3⟩ | ⟨e2, e3⟩
    · cases e3
    · exact R.dl j e3
  · rcases getElem?_setp e with ⟨e2, e3⟩ | ⟨e2, e3⟩
    · cases e3
    · obtain ⟨q, a, b', c, o', d2, d3⟩ := R.own j b d e3
      refine ⟨q, a, b', ?_, o', d2, d3.up e1⟩
      have nq : q ≠ p := fun z => by
        subst z
        exact e2 (R.dist i j _ _ _ _ q h e3 hs a)
      rw [upd_ne nq]; exact c
  · rcases getElem?_setp e with ⟨e2, e3⟩ | ⟨e2, e3⟩
    · cases e3
    · rcases getElem?_setp e' with ⟨e2', e3'⟩ | ⟨e2', e3'⟩
      · cases e3'
      · exact R.dist j k b b' d d' q e3 e3'
  · rcases getElem?_setp e with ⟨e2, e3⟩ | ⟨e2, e3⟩
    · cases e3
    · obtain ⟨q, bq, a, b', c, o', d2, d3⟩ := R.bor j d e3
      refine ⟨q, bq, a, b', ?_, o', d2, d3.up e1⟩
      have nq : q ≠ p := fun z => by
        subst z
        exact R.obd i j _ _ _ q h e3 hs a
      rw [upd_ne nq]; exact c
  · rcases getElem?_setp e with ⟨e2, e3⟩ | ⟨e2, e3⟩
    · cases e3
    · rcases getElem?_setp e' with ⟨e2', e3'⟩ | ⟨e2', e3'⟩
      · cases e3'
      · exact R.obd j k b d d' q e3 e3'
  · rcases getElem?_setp e with ⟨e2, e3⟩ | ⟨e2, e3⟩
    · subst e3; exact o.elim
    · exact e3
  · by_cases q : a = p
    · subst q; subst hw; exact .inr ⟨i, _, h, hs⟩
    · rw [upd_ne q]; exact .inl n
theorem Rel.setV {i : Nat} {d : Da} {v : V} (R : Rel K B env S σ H) (h : Dq K S v d) (hi : i < env.length) : Rel K B (env.set i (.val d)) S (σ.set i (some v)) H := by
  have hi' : i < σ.length := by rw [← R.len]; exact hi
  refine ⟨R.w, by rw [List.length_set, List.length_set]; exact R.len, fun j d e => ?_, fun j e => ?_, fun j c d e => ?_, fun j k c c' d d' q e e' a b => ?_, fun j d e => ?_, fun j k c d d' q e e' a b => ?_, R.binj⟩
  · rcases getElem?_setp e with ⟨e2, e3⟩ | ⟨e2, e3⟩
    · cases e3; subst e2
      exact ⟨v, List.getElem?_set_self hi', h⟩
    · rw [List.getElem?_set_ne e2]; exact R.slot j d e3
  · rcases getElem?_setp e with ⟨e2, e3⟩ | ⟨e2, e3⟩
    · cases e3
    · rw [List.getElem?_set_ne e2]; exact R.dl j e3
  · rcases getElem?_setp e with ⟨e2, e3⟩ | ⟨e2, e3⟩
    · cases e3
    · rw [List.getElem?_set_ne e2]; exact R.own j c d e3
  · rcases getElem?_setp e with ⟨e2, e3⟩ | ⟨e2, e3⟩
    · cases e3
    · rcases getElem?_setp e' with ⟨e2', e3'⟩ | ⟨e2', e3'⟩
      · cases e3'
      · rw [List.getElem?_set_ne e2] at a
        rw [List.getElem?_set_ne e2'] at b
        exact R.dist j k c c' d d' q e3 e3' a b
  · rcases getElem?_setp e with ⟨e2, e3⟩ | ⟨e2, e3⟩
    · cases e3
    · rw [List.getElem?_set_ne e2]; exact R.bor j d e3
  · rcases getElem?_setp e with ⟨e2, e3⟩ | ⟨e2, e3⟩
    · cases e3
    · rcases getElem?_setp e' with ⟨e2', e3'⟩ | ⟨e2', e3'⟩
      · cases e3'
      · rw [List.getElem?_set_ne e2] at a
        rw [List.getElem?_set_ne e2'] at b
        exact R.obd j k c d d' q e3 e3' a b
theorem Rel.setN {i : Nat} {x : Option V} (R : Rel K B env S σ H) (hi : i < env.length) : Rel K B (env.set i .no) S (σ.set i x) H := by
  have hi' : i < σ.length := by rw [← R.len]; exact hi
  refine ⟨R.w, by rw [List.length_set, List.length_set]; exact R.len, fun j d e => ?_, fun j e => ?_, fun j c d e => ?_, fun j k c c' d d' q e e' a b => ?_, fun j d e => ?_, fun j k c d d' q e e' a b => ?_, R.binj⟩
  · rcases getElem?_setp e with ⟨e2, e3⟩ | ⟨e2, e3⟩
    · cases e3
    · rw [List.getElem?_set_ne e2]; exact R.slot j d e3
  · rcases getElem?_setp e with ⟨e2, e3⟩ | ⟨e2, e3⟩
    · cases e3
    · rw [List.getElem?_set_ne e2]; exact R.dl j e3
  · rcases getElem?_setp e with ⟨e2, e3⟩ | ⟨e2, e3⟩
    · cases e3
    · rw [List.getElem?_set_ne e2]; exact R.own j c d e3
  · rcases getElem?_setp e with ⟨e2, e3⟩ | ⟨e2, e3⟩
    · cases e3
    · rcases getElem?_setp e' with ⟨e2', e3'⟩ | ⟨e2', e3'⟩
      · cases e3'
      · rw [List.getElem?_set_ne e2] at a
        rw [List.getElem?_set_ne e2'] at b
        exact R.dist j k c c' d d' q e3 e3' a b
  · rcases getElem?_setp e with ⟨e2, e3⟩ | ⟨e2, e3⟩
    · cases e3
    · rw [List.getElem?_set_ne e2]; exact R.bor j d e3
  · rcases getElem?_setp e with ⟨e2, e3⟩ | ⟨e2, e3⟩
    · cases e3
    · rcases getElem?_setp e' with ⟨e2', e3'⟩ | ⟨e2', e3'⟩
      · cases e3'
      · rw [List.getElem?_set_ne e2] at a
        rw [List.getElem?_set_ne e2'] at b
        exact R.obd j k c d d' q e3 e3' a b
theorem Rel.setO {i : Nat} {w : Bool} {d : Da} {p : Addr} (R : Rel K B env S σ H) (h : Own K B S H d p) (hn : ∀ (j : Nat) (sv : SV), env[j]? = some sv → OB sv → σ[j]? ≠ some (some (.ref p))) (hi : i < env.length) : Rel K B (env.set i (.own w d)) S (σ.set i (some (.ref p))) H := by
  have hi' : i < σ.length := by rw [← R.len]; exact hi
  refine ⟨R.w, by rw [List.length_set, List.length_set]; exact R.len, fun j d e => ?_, fun j e => ?_, fun j c d e => ?_, fun j k c c' d d' q e e' a b => ?_, fun j d e => ?_, fun j k c d d' q e e' a b => ?_, R.binj⟩
  · rcases getElem?_setp e with ⟨e2, e3⟩ | ⟨e2, e3⟩
    · cases e3
    · rw [List.getElem?_set_ne e2]; exact R.slot j d e3
  · rcases getElem?_setp e with ⟨e2, e3⟩ | ⟨e2, e3⟩
    · cases e3
    · rw [List.getElem?_set_ne e2]; exact R.dl j e3
  · rcases getElem?_setp e with ⟨e2, e3⟩ | ⟨e2, e3⟩
    · cases e3; subst e2
      exact ⟨p, List.getElem?_set_self hi', h⟩
    · rw [List.getElem?_set_ne e2]; exact R.own j c d e3
  · rcases getElem?_setp e with ⟨e2, e3⟩ | ⟨e2, e3⟩
    · rcases getElem?_setp e' with ⟨e2', e3'⟩ | ⟨e2', e3'⟩
      · rw [← e2, ← e2']
      · subst e2
        rw [List.getElem?_set_self hi'] at a
        rw [List.getElem?_set_ne e2'] at b
        cases a
        exact absurd b (hn k _ e3' trivial)
    · rcases getElem?_setp e' with ⟨e2', e3'⟩ | ⟨e2', e3'⟩
      · subst e2'
        rw [List.getElem?_set_self hi'] at b
        rw [List.getElem?_set_ne e2] at a
        cases b
        exact absurd a (hn j _ e3 trivial)
      · rw [List.getElem?_set_ne e2] at a
        rw [List.getElem?_set_ne e2'] at b
        exact R.dist j k c c' d d' q e3 e3' a b
  · rcases getElem?_setp e with ⟨e2, e3⟩ | ⟨e2, e3⟩
    · cases e3
    · rw [List.getElem?_set_ne e2]; exact R.bor j d e3
  · rcases getElem?_setp e' with ⟨e2', e3'⟩ | ⟨e2', e3'⟩
    · cases e3'
    · rcases getElem?_setp e with ⟨e2, e3⟩ | ⟨e2, e3⟩
      · subst e2
        rw [List.getElem?_set_self hi'] at a
        rw [List.getElem?_set_ne e2'] at b
        cases a
        exact hn k _ e3' trivial b
      · rw [List.getElem?_set_ne e2] at a
        rw [List.getElem?_set_ne e2'] at b
        exact R.obd j k c d d' q e3 e3' a b
/-- the same kind of slot with other data -/
def kin : SV → Da → SV
  | .bor _, d => .bor d
  | .own w _, d => .own w d
  | r, _ => r
theorem Rel.chgK {i : Nat} {sv : SV} {d0 : Da} {o0 : HO} {p : Addr} (R : Rel K B env S σ H) (ob : OB sv) (h : env[i]? = some sv) (hs : σ[i]? = some (some (.ref p))) (hB : B.H p = none) (hS : S p = none) (hd : HoD K S o0 d0) :
    Rel K B (env.set i (kin sv d0)) S σ (upd H p o0) := by
  have nfp : ¬ FP B p := R.w.nfp hB
  have hi : i < env.length := (List.getElem?_eq_some_iff.mp h).1
  have w : Wd B S (upd H p o0) := by
    refine ⟨fun a o e => ?_, R.w.bS, fun a o f e => ?_, R.w.bN, fun q l e => ?_⟩
    · have q : a ≠ p := fun z => by subst z; rw [hS] at e; cases e
      rw [upd_ne q]; exact R.w.sub a o e
    · have q : a ≠ p := fun z => by subst z; rw [hB] at e; cases e
      rw [upd_ne q]; exact R.w.bH a o f e
    · obtain ⟨d1, d2⟩ := R.w.deal q l e
      exact ⟨d1.up (upd_ne fun z => nfp ⟨q, l, e, .inl z.symm⟩) (upd_ne fun z => nfp ⟨q, l, e, .inr z.symm⟩), d2⟩
  have kv : ∀ {d : Da}, kin sv d0 ≠ .val d := fun {d} z => by cases sv <;> first | exact False.elim ob | cases z
  have kd : kin sv d0 ≠ .deal := fun z => by cases sv <;> first | exact False.elim ob | cases z
  have ko : ∀ {b : Bool} {d : Da}, kin sv d0 = .own b d → d = d0 ∧ ∃ d', sv = .own b d' := fun {b d} z => by
    cases sv <;> first | cases z | skip
    exact ⟨rfl, _, rfl⟩
  have kb : ∀ {d : Da}, kin sv d0 = .bor d → d = d0 ∧ ∃ d', sv = .bor d' := fun {d} z => by
    cases sv <;> first | cases z | skip
    exact ⟨rfl, _, rfl⟩
  have oth : ∀ {j : Nat} {q : Addr} {sv' : SV}, i ≠ j → env[j]? = some sv' → OB sv' → σ[j]? = some (some (.ref q)) → q ≠ p := fun {j q sv'} ne e o a z => by
    subst z
    cases sv with
    | own b d =>
      cases sv' with
      | own c e' => exact ne (R.dist i j _ _ _ _ q h e hs a)
      | bor e' => exact R.obd i j _ _ _ q h e hs a
      | _ => exact o
    | bor d =>
      cases sv' with
      | own c e' => exact R.obd j i _ _ _ q e h a hs
      | bor e' =>
        obtain ⟨p1, b1, a1, _⟩ := R.bor i d h
        obtain ⟨p2, b2, a2, _⟩ := R.bor j e' e
        rw [hs] at a1; cases a1
        rw [a] at a2; cases a2
        exact ne (R.binj i j _ b1 b2)
      | _ => exact o
    | _ => exact ob
  have same : Own K B S (upd H p o0) d0 p := ⟨hB, hS, o0, upd_same, hd⟩
  refine ⟨w, by rw [List.length_set]; exact R.len, fun j d e => ?_, fun j e => ?_, fun j c d' e => ?_, fun j k c c' d1 d2 q e e' a b => ?_, fun j d' e => ?_, fun j k c d1 d2 q e e' a b => ?_, R.binj⟩
  · rcases getElem?_setp e with ⟨e2, e3⟩ | ⟨e2, e3⟩
    · exact absurd e3.symm kv
    · exact R.slot j d e3
  · rcases getElem?_setp e with ⟨e2, e3⟩ | ⟨e2, e3⟩
    · exact absurd e3.symm kd
    · exact R.dl j e3
  · rcases getElem?_setp e with ⟨e2, e3⟩ | ⟨e2, e3⟩
    · obtain ⟨rfl, _⟩ := ko e3.symm
      subst e2
      exact ⟨p, hs, same⟩
    · obtain ⟨q, a, b', c1, o', d2, d3⟩ := R.own j c d' e3
      exact ⟨q, a, b', c1, o', by rw [upd_ne (oth e2 e3 trivial a)]; exact d2, d3⟩
  · have f : ∀ {m : Nat} {c : Bool} {x : Da}, (env.set i (kin sv d0))[m]? = some (.own c x) → ∃ c' y, env[m]? = some (.own c' y) := fun {m c x} z => by
      rcases getElem?_setp z with ⟨z2, z3⟩ | ⟨z2, z3⟩
      · obtain ⟨_, d', rfl⟩ := ko z3.symm
        subst z2; exact ⟨_, _, h⟩
      · exact ⟨_, _, z3⟩
    obtain ⟨c1, y1, f1⟩ := f e
    obtain ⟨c2, y2, f2⟩ := f e'
    exact R.dist j k c1 c2 y1 y2 q f1 f2 a b
  · rcases getElem?_setp e with ⟨e2, e3⟩ | ⟨e2, e3⟩
    · obtain ⟨rfl, d'', rfl⟩ := kb e3.symm
      subst e2
      obtain ⟨p1, b1, a1, _⟩ := R.bor i d'' h
      rw [hs] at a1; cases a1
      exact ⟨p, b1, hs, same⟩
    · obtain ⟨q, bq, a, b', c1, o', d2, d3⟩ := R.bor j d' e3
      exact ⟨q, bq, a, b', c1, o', by rw [upd_ne (oth e2 e3 trivial a)]; exact d2, d3⟩
  · have f : ∃ c' y, env[j]? = some (.own c' y) := by
      rcases getElem?_setp e with ⟨z2, z3⟩ | ⟨z2, z3⟩
      · obtain ⟨_, d', rfl⟩ := ko z3.symm
        subst z2; exact ⟨_, _, h⟩
      · exact ⟨_, _, z3⟩
    have g : ∃ y, env[k]? = some (.bor y) := by
      rcases getElem?_setp e' with ⟨z2, z3⟩ | ⟨z2, z3⟩
      · obtain ⟨_, d', rfl⟩ := kb z3.symm
        subst z2; exact ⟨_, h⟩
      · exact ⟨_, z3⟩
    obtain ⟨c1, y1, f1⟩ := f
    obtain ⟨y2, f2⟩ := g
    exact R.obd j k c1 y1 y2 q f1 f2 a b
/-- what a slot owns is changed in place -/
theorem Rel.chg {i : Nat} {d d0 : Da} {o0 : HO} {p : Addr} (R : Rel K B env S σ H) {bw : Bool} (h : env[i]? = some (.own bw d)) (hs : σ[i]? = some (some (.ref p))) (hB : B.H p = none) (hS : S p = none) (hd : HoD K S o0 d0) :
    Rel K B (env.set i (.own bw d0)) S σ (upd H p o0) := R.chgK (sv := .own bw d) trivial h hs hB hS hd
end
end Pq

set_option Elab.async false
set_option linter.all false
set_option maxRecDepth 100000
set_option maxHeartbeats 4000000
namespace Pq
open PySem PySem.Spec PyProof.Rows L2

/-! ### results set into the env; freezing -/
section
variable {K : PySem.W.Frag} {B : Bs} {env : En} {S H : Hp} {σ : L2.St}
theorem Rel.step {S' H' : Hp} (R : Rel K B env S σ H) (w : Wd B S' H') (e : Stp B S H S' H') (k : ∀ p, H p ≠ none → B.H p = none → S p = none → S' p = none) : Rel K B env S' σ H' :=
  R.stp w e fun i sv p a ob c => by
    obtain ⟨p', d, a', b', c', o', d2, d3⟩ := R.ob a ob
    rw [c] at a'; cases a'
    exact k p (by rw [d2]; exact fun z => nomatch z) b' c'
/-- a result that is owned becomes stable -/
theorem IsR.frz {env' : En} {S' H' : Hp} {b : Bool} {d : Da} {v : V} (st : Stq B σ env S H env' S' H') (R : Rel K B env' S' σ H') (h : IsR K B env' S' σ H H' (.own b d) v) : ∃ S2, Stq B σ env S H env' S2 H' ∧ Rel K B env' S2 σ H' ∧ Dq K S2 v d := by
  obtain ⟨hb, p, rfl, ⟨hB, hS, o0, hp, hd⟩, h0, hn⟩ := h
  have e1 : ∀ a o, S' a = some o → upd S' p o0 a = some o := upd_sub hS
  have w : Wd B (upd S' p o0) H' := by
    refine ⟨fun a o e => ?_, fun a o e => e1 a o (R.w.bS a o e), R.w.bH, fun a o e e2 => ?_, R.w.deal⟩
    · by_cases q : a = p
      · subst q; rw [upd_same] at e; cases e; exact hp
      · rw [upd_ne q] at e; exact R.w.sub a o e
    · have q : a ≠ p := fun z => by subst z; rw [hB] at e; cases e
      rw [upd_ne q]; exact R.w.bN a o e e2
  refine ⟨_, ⟨⟨fun a o e => e1 a o (st.s.1 a o e), st.s.2⟩, st.ow, fun a o f e n => ?_⟩, R.stp w ⟨e1, fun _ _ _ e => e⟩ fun i sv q a ob z => ?_, (hd.up e1).dq upd_same⟩
  · rw [upd_ne (ne_of_none e h0)]; exact st.fz a o f e n
  · have nq : q ≠ p := fun y => by subst y; exact hn i sv a ob z
    rw [upd_ne nq]
    obtain ⟨p', d', a', b', c', _⟩ := R.ob a ob
    rw [z] at a'; cases a'; exact c'
end

/-! ### the modes -/
abbrev ME := En → (SV → En → Prop) → Prop
abbrev MP := En → (Da → En → Prop) → Prop
abbrev MT := En → (Bool → En → Prop) → Prop
abbrev MA := En → (List SV → En → Prop) → Prop
abbrev ML := En → (List Da → En → Prop) → Prop

def AllR (K : PySem.W.Frag) (dl : Option (Addr × Addr)) (S : Hp) : List SV → List V → Prop
  | [], vs => vs = []
  | .val d :: rs, vs => ∃ v r, vs = v :: r ∧ Dq K S v d ∧ AllR K dl S rs r
  | .deal :: rs, vs => ∃ p l r, vs = .ref p :: r ∧ dl = some (p, l) ∧ AllR K dl S rs r
  | _, _ => False
theorem AllR.up {K : PySem.W.Frag} {dl : Option (Addr × Addr)} {S S' : Hp} (e : ∀ a o, S a = some o → S' a = some o) : ∀ {rs : List SV} {vs : List V}, AllR K dl S rs vs → AllR K dl S' rs vs
  | [], _, h => h
  | .val d :: rs, _, h => by
    obtain ⟨v, r, a, b, c⟩ := h
    exact ⟨v, r, a, Dq.up e _ _ b, AllR.up e c⟩
  | .deal :: rs, _, h => by
    obtain ⟨p, l, r, a, b, c⟩ := h
    exact ⟨p, l, r, a, b, AllR.up e c⟩
  | .no :: _, _, h => h.elim
  | .own _ _ :: _, _, h => h.elim
  | .bor _ :: _, _, h => h.elim
  | .res _ _ _ :: _, _, h => h.elim
theorem AllR.length {K : PySem.W.Frag} {dl : Option (Addr × Addr)} {S : Hp} : ∀ {rs : List SV} {vs : List V}, AllR K dl S rs vs → vs.length = rs.length
  | [], _, h => by cases (show _ = [] from h); rfl
  | .val d :: rs, _, h => by
    obtain ⟨v, r, rfl, b, c⟩ := h
    rw [List.length_cons, List.length_cons, AllR.length c]
  | .deal :: rs, _, h => by
    obtain ⟨p, l, r, rfl, b, c⟩ := h
    rw [List.length_cons, List.length_cons, AllR.length c]
  | .no :: _, _, h => h.elim
  | .own _ _ :: _, _, h => h.elim
  | .bor _ :: _, _, h => h.elim
  | .res _ _ _ :: _, _, h => h.elim
def AllP (K : PySem.W.Frag) (B : Bs) (S H : Hp) : List Da → List V → Prop
  | [], vs => vs = []
  | d :: ds, vs => ∃ v r, vs = v :: r ∧ IsP K B S H d v ∧ AllP K B S H ds r
theorem AllP.up {K : PySem.W.Frag} {B : Bs} {S H S' H' : Hp} (e : Stp B S H S' H') : ∀ {ds : List Da} {vs : List V}, AllP K B S H ds vs → AllP K B S' H' ds vs
  | [], _, h => h
  | d :: ds, _, h => by
    obtain ⟨v, r, a, b, c⟩ := h
    exact ⟨v, r, a, IsP.up e b, AllP.up e c⟩

section
variable (K : PySem.W.Frag)
def tE (m : ME) : TE := fun σ H Q => ∃ B env S, ∃ Q0 : SV → En → Prop, Rel K B env S σ H ∧ m env Q0 ∧ ∀ r env', Q0 r env' → ∀ v S' H', Stq B σ env S H env' S' H' → Rel K B env' S' σ H' → IsR K B env' S' σ H H' r v → Q v H'
def tP (m : MP) : TE := fun σ H Q => ∃ B env S, ∃ Q0 : Da → En → Prop, Rel K B env S σ H ∧ m env Q0 ∧ ∀ d env', Q0 d env' → ∀ v S' H', Stq B σ env S H env' S' H' → Rel K B env' S' σ H' → IsP K B S' H' d v → Q v H'
def tS (m : MP) : TE := fun σ H Q => ∃ B env S, ∃ Q0 : Da → En → Prop, Rel K B env S σ H ∧ m env Q0 ∧ ∀ d env', Q0 d env' → ∀ v S' H', Stq B σ env S H env' S' H' → Rel K B env' S' σ H' → Dq K S' v d → Q v H'
def tT (m : MT) : TT := fun σ H Q => ∃ B env S, ∃ Q0 : Bool → En → Prop, Rel K B env S σ H ∧ m env Q0 ∧ ∀ b env', Q0 b env' → ∀ S' H', Stq B σ env S H env' S' H' → Rel K B env' S' σ H' → Q b H'
def tAr (m : MA) : TA := fun σ H Q => ∃ B env S, ∃ Q0 : List SV → En → Prop, Rel K B env S σ H ∧ m env Q0 ∧ ∀ rs env', Q0 rs env' → ∀ vs S' H', Stq B σ env S H env' S' H' → Rel K B env' S' σ H' → AllR K B.deal S' rs vs → Q vs H'
def tPs (m : ML) : TA := fun σ H Q => ∃ B env S, ∃ Q0 : List Da → En → Prop, Rel K B env S σ H ∧ m env Q0 ∧ ∀ ds env', Q0 ds env' → ∀ vs S' H', Stq B σ env S H env' S' H' → Rel K B env' S' σ H' → AllP K B S' H' ds vs → Q vs H'
end

section
variable (X : Cx)
abbrev DE (e : Expr) (m : ME) : Prop := PE X e (tE X.K m)
abbrev DP (e : Expr) (m : MP) : Prop := PE X e (tP X.K m)
abbrev DS (e : Expr) (m : MP) : Prop := PE X e (tS X.K m)
abbrev DT (e : Expr) (m : MT) : Prop := PT X e (tT X.K m)
abbrev DA (es : List Expr) (m : MA) : Prop := PA X es (tAr X.K m)
abbrev DPs (es : List Expr) (m : ML) : Prop := PA X es (tPs X.K m)
end

section
variable {X : Cx}
theorem _root_.L2.PE.un {e : Expr} {t' : TE} (h : ∀ σ H Q, t' σ H Q → ∃ t, PE X e t ∧ t σ H Q) : PE X e t' := ⟨fun pins s σ H Q I h' => by
  obtain ⟨t, p, q⟩ := h σ H Q h'
  exact p.run pins s σ H Q I q⟩
theorem _root_.L2.PE.wk {e : Expr} {t t' : TE} (p : PE X e t) (h : ∀ σ H Q, t' σ H Q → t σ H Q) : PE X e t' := ⟨fun pins s σ H Q I h' => p.run pins s σ H Q I (h σ H Q h')⟩
theorem _root_.L2.PT.wk {e : Expr} {t t' : TT} (p : PT X e t) (h : ∀ σ H Q, t' σ H Q → t σ H Q) : PT X e t' := ⟨fun pins s σ H Q I h' => p.run pins s σ H Q I (h σ H Q h')⟩
theorem _root_.L2.PA.wk {es : List Expr} {t t' : TA} (p : PA X es t) (h : ∀ σ H Q, t' σ H Q → t σ H Q) : PA X es t' := ⟨fun ps pins s σ H Q I h' => p.run ps pins s σ H Q I (h σ H Q h')⟩
theorem _root_.L2.PS.wk {st : Stmt} {t t' : TS} (p : PS X st t) (h : ∀ D σ H, t' D σ H → t D σ H) : PS X st t' := ⟨fun pins s σ H D I h' => p.run pins s σ H D I (h D σ H h')⟩
theorem _root_.L2.PSs.wk {st : List Stmt} {t t' : TS} (p : PSs X st t) (h : ∀ D σ H, t' D σ H → t D σ H) : PSs X st t' := ⟨fun pins s σ H D I h' => p.run pins s σ H D I (h D σ H h')⟩
def uR (X : Cx) (g : Value → Value → Sem Value) : R2 := fun x y H Q => ∃ r, OpR X g r ∧ r x y H Q
theorem OpR.un {g : Value → Value → Sem Value} : OpR X g (uR X g) := fun pins s σ H x y v u Q I rx ry h => by
  obtain ⟨r, p, q⟩ := h
  exact p pins s σ H x y v u Q I rx ry q
def uC (X : Cx) (f : Value) : List V → Hp → VK → Prop := fun xs H Q => ∃ r, CallR X f r ∧ r xs H Q
theorem CallR.un {f : Value} : CallR X f (uC X f) := fun pins s σ H xs us Q I rx h => by
  obtain ⟨r, p, q⟩ := h
  exact p pins s σ H xs us Q I rx q
def uI (X : Cx) : R2 := fun x y H Q => ∃ r, IxR X r ∧ r x y H Q
theorem IxR.un : IxR X (uI X) := fun a b pins s σ H x y v u Q I rx ry h => by
  obtain ⟨r, p, q⟩ := h
  exact p a b pins s σ H x y v u Q I rx ry q
def uM (X : Cx) (id : String) : V → List V → Hp → VK → Prop := fun x xs H Q => ∃ r, MtR X id r ∧ r x xs H Q
theorem MtR.un {id : String} : MtR X id (uM X id) := fun pins s σ H x xs v us Q I rx rs h => by
  obtain ⟨r, p, q⟩ := h
  exact p pins s σ H x xs v us Q I rx rs q
def uL (X : Cx) : V → Option Int → Option Int → Hp → VK → Prop := fun x lo hi H Q => ∃ r, SlR X r ∧ r x lo hi H Q
theorem SlR.un : SlR X (uL X) := fun pins s σ H x v vl vu lo hi sl Q I rx hs pl pu h => by
  obtain ⟨r, p, q⟩ := h
  exact p pins s σ H x v vl vu lo hi sl Q I rx hs pl pu q

/-! ### what is left to show of a result -/
def Cl (K : PySem.W.Frag) (B : Bs) (env : En) (S : Hp) (σ : L2.St) (H : Hp) (Q : SV → Prop) (Q' : VK) : Prop :=
  ∀ r v S' H', Q r → Stq B σ env S H env S' H' → Rel K B env S' σ H' → IsR K B env S' σ H H' r v → Q' v H'
section
variable {K : PySem.W.Frag} {B : Bs} {env : En} {S H : Hp} {σ : L2.St} {Q : SV → Prop} {Q' : VK}
theorem Cl.val {d : Da} {v : V} (c : Cl K B env S σ H Q Q') (R : Rel K B env S σ H) (q : Q (.val d)) (h : Dq K S v d) : Q' v H := c _ v S H q .refl R h
theorem Cl.newT {ds : List Da} {vs : List V} {p : Addr} (c : Cl K B env S σ H Q Q') (R : Rel K B env S σ H) (q : Q (.val (.tuple ds))) (h : DqAll K S vs ds) (hp : H p = none) {o : Obj} (ho : o.dict = none) : Q' (.ref p) (upd H p (.frz o (.tup vs))) :=
  c _ _ _ _ q (stq_allocS R.w hp) (R.allocS hp) (Dq.tup (.inl ⟨o, upd_same, ho⟩) (DqAll.up (upd_sub (R.w.snone hp)) _ _ h))
theorem Cl.newL {ds : List Da} {vs : List V} {p : Addr} (c : Cl K B env S σ H Q Q') (R : Rel K B env S σ H) (q : Q (.own true (.list ds))) (h : DqAll K S vs ds) (hp : H p = none) : Q' (.ref p) (upd H p (.lst vs)) :=
  c _ _ _ _ q (stq_alloc hp) (R.alloc hp) ⟨rfl, p, rfl, ⟨R.w.bnone hp, R.w.snone hp, _, upd_same, .lst h⟩, hp, R.fresh hp⟩
end

/-! ### reading what is looked at -/
section
variable {K : PySem.W.Frag} {B : Bs} {S H : Hp} {v : V}
theorem IsP.int {i : Int} (h : IsP K B S H (.int i) v) : v = .int i := by
  rcases h with h | ⟨p, o, _, _, _, e⟩
  · cases h; rfl
  · cases e
theorem IsP.bl {b : Bool} (h : IsP K B S H (.bool b) v) : v = .bl b := by
  rcases h with h | ⟨p, o, _, _, _, e⟩
  · cases h; rfl
  · cases e
theorem IsP.str {x : Str} (h : IsP K B S H (.str x) v) : v = .str x := by
  rcases h with h | ⟨p, o, _, _, _, e⟩
  · cases h; rfl
  · cases e
theorem IsP.non (h : IsP K B S H .none v) : v = .non := by
  rcases h with h | ⟨p, o, _, _, _, e⟩
  · cases h; rfl
  · cases e
theorem IsP.tupP {ds : List Da} (h : IsP K B S H (.tuple ds) v) : ∃ a vs, v = .ref a ∧ PlT K S a vs ∧ DqAll K S vs ds := by
  rcases h with h | ⟨p, o, _, _, _, e⟩
  · cases h with
    | tup a b => exact ⟨_, _, rfl, a, b⟩
  · cases e
theorem IsP.tup {ds : List Da} (h : IsP K B S H (.tuple ds) v) : ∃ a vs, v = .ref a ∧ SqT K S a vs ∧ DqAll K S vs ds := by
  rcases h with h | ⟨p, o, _, _, _, e⟩
  · cases h with
    | tup a b => exact ⟨_, _, rfl, a.sq, b⟩
  · cases e
theorem IsP.lst {ds : List Da} (w : Wd B S H) (h : IsP K B S H (.list ds) v) : ∃ a vs, v = .ref a ∧ Rd H a (.lst vs) ∧ DqAll K S vs ds := by
  rcases h with h | ⟨p, o, e1, _, e3, e⟩
  · cases h with
    | lst a b => exact ⟨_, _, rfl, Rd.up w.sub a, b⟩
  · cases e with
    | lst e4 => exact ⟨p, _, e1, .inl e3, e4⟩
theorem IsP.dq {d : Da} (w : Wd B S H) (h : IsP K B S H d v) : Dq K H v d := by
  rcases h with h | ⟨p, o, rfl, _, e3, e4⟩
  · exact Dq.up w.sub _ _ h
  · exact (e4.up w.sub).dq e3
theorem IsP.dp {d : Da} (w : Wd B S H) (h : IsP K B S H d v) (c : SeqAt.shaped d = true) : Dp K H v d := by
  have c : (d.canLay0 && decide (d.depth ≤ 64)) = true := c
  rw [Bool.and_eq_true] at c
  exact Dq.dp _ _ c.1 (h.dq w)
end

/-! ### modes into modes -/
def toD (m : ME) : MP := fun env Q => m env fun r e => match r with
  | .val d => Q d e
  | .own _ d => Q d e
  | _ => False
def toE (m : MP) : ME := fun env Q => m env fun d e => Q (.val d) e
theorem ds_e {e : Expr} {m : ME} (h : DE X e m) : DS X e (toD m) := h.wk fun σ H Q ⟨B, env, S, Q0, R, hm, k⟩ => by
  refine ⟨B, env, S, _, R, hm, fun r env' q v S' H' st R' ir => ?_⟩
  cases r with
  | val d => exact k d env' q v S' H' st R' ir
  | own b d =>
    obtain ⟨S2, st2, R2, dp⟩ := IsR.frz st R' ir
    exact k d env' q v S2 H' st2 R2 dp
  | no => exact ir.elim
  | deal => exact q.elim
  | bor d => exact q.elim
  | res b d ids => exact q.elim
theorem dp_s {e : Expr} {m : MP} (h : DS X e m) : DP X e m := h.wk fun σ H Q ⟨B, env, S, Q0, R, hm, k⟩ =>
  ⟨B, env, S, Q0, R, hm, fun d env' q v S' H' st R' ir => k d env' q v S' H' st R' (.inl ir)⟩
theorem dp_e {e : Expr} {m : ME} (h : DE X e m) : DP X e (toD m) := dp_s (ds_e h)
theorem de_s {e : Expr} {m : MP} (h : DS X e m) : DE X e (toE m) := h.wk fun σ H Q ⟨B, env, S, Q0, R, hm, k⟩ =>
  ⟨B, env, S, _, R, hm, fun d env' q v S' H' st R' ir => k _ env' q v S' H' st R' ir⟩

/-! ### names and constants -/
def mVar (i : Nat) : ME := fun env Q => match env[i]? with
  | some (.val d) => Q (.val d) env
  | some (.own true d) => Q (.val d) (env.set i (.val d))
  | some .deal => Q .deal env
  | _ => False
def mPk (i : Nat) : MP := fun env Q => match env[i]? with
  | some (.val d) => Q d env
  | some (.own _ d) => Q d env
  | some (.bor d) => Q d env
  | _ => False
theorem de_var (i : Nat) {x : Str} {pos : Pos} (hN : X.N[i]? = some x := by rfl) (hv : Vis X.env.scope x := by first | exact Or.inl rfl | exact Or.inr (Or.inl rfl) | exact Or.inr (Or.inr rfl)) (hd : (x == ("__debug__" : Str)) = false := by decide)
    (hcd : (x == ("__classdict__" : Str)) = false := by decide) : DE X (.Name x pos) (mVar i) := (pe_var hN hv hd hcd).wk fun σ H Q ⟨B, env, S, Q0, R, hm, k⟩ => by
  unfold mVar at hm
  cases e : env[i]? with
  | none => rw [e] at hm; exact hm.elim
  | some sv =>
    rw [e] at hm
    cases sv with
    | no => exact hm.elim
    | val d =>
      obtain ⟨v, a, b⟩ := R.slot i d e
      exact ⟨v, a, k _ _ hm v S H .refl R b⟩
    | own w d =>
      cases w with
      | false => exact hm.elim
      | true =>
        obtain ⟨p, a, hB, hS, o, hp, hd⟩ := R.own i true d e
        obtain ⟨R', st⟩ := R.frz e a hp hd hB hS
        exact ⟨.ref p, a, k _ _ hm _ _ H (st rfl) R' ((hd.up (st rfl).s.1).dq upd_same)⟩
    | deal =>
      obtain ⟨p, l, a, b⟩ := R.dl i e
      exact ⟨.ref p, b, k _ _ hm _ S H .refl R ⟨p, l, a, rfl⟩⟩
    | bor d => exact hm.elim
    | res b d ids => exact hm.elim
theorem dp_var (i : Nat) {x : Str} {pos : Pos} (hN : X.N[i]? = some x := by rfl) (hv : Vis X.env.scope x := by first | exact Or.inl rfl | exact Or.inr (Or.inl rfl) | exact Or.inr (Or.inr rfl)) (hd : (x == ("__debug__" : Str)) = false := by decide)
    (hcd : (x == ("__classdict__" : Str)) = false := by decide) : DP X (.Name x pos) (mPk i) := (pe_var hN hv hd hcd).wk fun σ H Q ⟨B, env, S, Q0, R, hm, k⟩ => by
  unfold mPk at hm
  cases e : env[i]? with
  | none => rw [e] at hm; exact hm.elim
  | some sv =>
    rw [e] at hm
    cases sv with
    | no => exact hm.elim
    | val d =>
      obtain ⟨v, a, b⟩ := R.slot i d e
      exact ⟨v, a, k _ _ hm v S H .refl R (.inl b)⟩
    | own w d =>
      obtain ⟨p, a, hB, hS, o, hp, hd⟩ := R.own i w d e
      exact ⟨.ref p, a, k _ _ hm _ S H .refl R (.inr ⟨p, o, rfl, R.w.nfp hB, hp, hd⟩)⟩
    | deal => exact hm.elim
    | bor d =>
      obtain ⟨p, _, a, hB, hS, o, hp, hd⟩ := R.bor i d e
      exact ⟨.ref p, a, k _ _ hm _ S H .refl R (.inr ⟨p, o, rfl, R.w.nfp hB, hp, hd⟩)⟩
    | res b d ids => exact hm.elim
def mC (d : Da) : MP := fun env Q => Q d env
theorem ds_c {e : Expr} {d : Da} {v : V} (h : PE X e (tC v)) (hd : ∀ S, Dq X.K S v d) : DS X e (mC d) := h.wk fun σ H Q ⟨B, env, S, Q0, R, hm, k⟩ => k d env hm v S H .refl R (hd S)
theorem ds_int {i j pos} : DS X (.Constant (.int i) j pos) (mC (.int i)) := ds_c pe_int fun _ => .int i
theorem ds_bl {b j pos} : DS X (.Constant (.bool b) j pos) (mC (.bool b)) := ds_c pe_bl fun _ => .bl b
theorem ds_non {j pos} : DS X (.Constant .none j pos) (mC .none) := ds_c pe_non fun _ => .non
theorem ds_str {x j pos} : DS X (.Constant (.str x) j pos) (mC (.str x)) := ds_c pe_str fun _ => .str x

/-! ### two-place operators -/
def OpD (X : Cx) (g : Value → Value → Sem Value) (f : Da → Da → (SV → Prop) → Prop) : Prop :=
  ∀ (B : Bs) (env : En) (S : Hp) (σ : L2.St) (H : Hp) (x y : V) (c d : Da) (Q : SV → Prop) (Q' : VK), Rel X.K B env S σ H → IsP X.K B S H c x → IsP X.K B S H d y → f c d Q → Cl X.K B env S σ H Q Q' → uR X g x y H Q'
def mBin (f : Da → Da → (SV → Prop) → Prop) (ma mb : MP) : ME := fun env Q => ma env fun x e1 => mb e1 fun y e2 => f x y fun r => Q r e2
theorem op_run {g : Value → Value → Sem Value} {f : Da → Da → (SV → Prop) → Prop} (ho : OpD X g f) {ma mb : MP} : ∀ σ H Q, tE X.K (mBin f ma mb) σ H Q → tOp (uR X g) (tP X.K ma) (tP X.K mb) σ H Q := fun σ H Q ⟨B, env, S, Q0, R, hm, k⟩ => by
  refine ⟨B, env, S, _, R, hm, fun c e1 hm1 x S1 H1 st1 R1 p1 => ?_⟩
  refine ⟨B, e1, S1, _, R1, hm1, fun d e2 hm2 y S2 H2 st2 R2 p2 => ?_⟩
  exact ho B e2 S2 σ H2 x y c d _ Q R2 (IsP.up st2.s p1) p2 hm2 fun r v S' H' q st R' ir => k r e2 q v S' H' ((st1.trans st2).trans st) R' (ir.back R.w (st1.trans st2))
theorem de_bin {a b : Expr} {op : Operator} {pos : Pos} {f : Da → Da → (SV → Prop) → Prop} {ma mb : MP} (ho : OpD X (binaryOp op) f) (ha : DP X a ma) (hb : DP X b mb) : DE X (.BinOp a op b pos) (mBin f ma mb) := (pe_op OpR.un ha hb).wk (op_run ho)
theorem de_cmp {a b : Expr} {op : CmpOp} {pos : Pos} {f : Da → Da → (SV → Prop) → Prop} {ma mb : MP} (ho : OpD X (compareOp op) f) (ha : DP X a ma) (hb : DP X b mb) (hm : behindInMarks op b = false := by rfl) : DE X (.Compare a [op] [b] pos) (mBin f ma mb) := (pe_cmpR OpR.un ha hb hm).wk (op_run ho)
end
end Pq

set_option Elab.async false
set_option linter.all false
set_option maxRecDepth 100000
set_option maxHeartbeats 4000000
namespace Pq
open PySem PySem.Spec PyProof.Rows L2
/-! ### dicts whose keys are tuples of ints, at the hand layer -/
def tval (kvs : TKv) (k : List Int) : Option V := (kvs.find? fun p => decide (p.1 = k)).map (·.2.2)
def tput (kvs : TKv) (k : List Int) (b : Addr) (v : V) : TKv := if (tval kvs k).isSome then kvs.map (fun p => if p.1 = k then (p.1, p.2.1, v) else p) else kvs ++ [(k, b, v)]
def TObj (H : Hp) (a : Addr) (kvs : TKv) : Prop := (∃ a', H a = some (dtO a' kvs)) ∨ (kvs = [] ∧ Rd H a (.dK []))
def TKeys (K : PySem.W.Frag) (H : Hp) (kvs : TKv) : Prop := ∀ p ∈ kvs, SqT K H p.2.1 (p.1.map V.int)
theorem tEnt_key (P : Program) (w : World) : tEnt = entryOfKey (tupleKind (intKind P w)) := rfl
theorem tPr_val {kvs : TKv} {xs : List (List Int × Addr × Value)} (r : Paired TPr kvs xs) (k : List Int) : RelO (tval kvs k) ((atKey xs k).map (·.2)) := by
  induction r with
  | nil => trivial
  | @cons p q ps qs hq t ih =>
    obtain ⟨e1, e2, e3⟩ := hq
    unfold tval atKey at ih ⊢
    by_cases c : p.1 = k
    · rw [List.find?_cons_of_pos (p := fun p : List Int × Addr × V => decide (p.1 = k)) (decide_eq_true c), List.find?_cons_of_pos (p := fun x : List Int × Addr × Value => decide (x.1 = k)) (by rw [← e1]; exact decide_eq_true c)]
      exact e3
    · rw [List.find?_cons_of_neg (p := fun p : List Int × Addr × V => decide (p.1 = k)) (by rw [decide_eq_false c]; exact Bool.false_ne_true), List.find?_cons_of_neg (p := fun x : List Int × Addr × Value => decide (x.1 = k)) (by rw [← e1, decide_eq_false c]; exact Bool.false_ne_true)]
      exact ih
theorem tPr_len {kvs : TKv} {xs : List (List Int × Addr × Value)} (r : Paired TPr kvs xs) : kvs.length = xs.length := Paired.length r
theorem relO_isSome {o : Option V} {u : Option Value} (r : RelO o u) : o.isSome = u.isSome := RelO.isSome_eq r
theorem tPr_put {kvs : TKv} {xs : List (List Int × Addr × Value)} (r : Paired TPr kvs xs) (k : List Int) (b : Addr) {v : V} {u : Value} (rv : RelV v u) : Paired TPr (tput kvs k b v) (storedH xs k b u) := by
  have e := relO_isSome (tPr_val r k)
  rw [Option.isSome_map] at e
  unfold tput storedH
  rw [e]
  cases z : (atKey xs k).isSome with
  | true =>
    rw [if_pos rfl, if_pos rfl]
    clear e z
    induction r with
    | nil => exact .nil
    | @cons p q ps qs hq t ih =>
      obtain ⟨e1, e2, e3⟩ := hq
      rw [List.map_cons, List.map_cons]
      refine .cons ?_ ih
      unfold putAt
      by_cases c : p.1 = k
      · rw [if_pos c, if_pos (by rw [← e1]; exact c)]
        exact ⟨e1, e2, rv⟩
      · rw [if_neg c, if_neg (by rw [← e1]; exact c)]
        exact ⟨e1, e2, e3⟩
  | false =>
    rw [if_neg Bool.false_ne_true, if_neg Bool.false_ne_true]
    clear e z
    induction r with
    | nil => exact .cons ⟨rfl, rfl, rv⟩ .nil
    | cons hq t ih => exact .cons hq ih
theorem tput_len (kvs : TKv) (k : List Int) (b : Addr) (v : V) : (tput kvs k b v).length ≤ kvs.length + 1 := by
  unfold tput
  split
  · rw [List.length_map]; omega
  · rw [List.length_append]; exact Nat.le_refl _
theorem tput_keys {K : PySem.W.Frag} {H : Hp} {kvs : TKv} {k : List Int} {b : Addr} {v : V} (h : TKeys K H kvs) (hb : SqT K H b (k.map V.int)) : TKeys K H (tput kvs k b v) := fun p hp => by
  unfold tput at hp
  split at hp
  · obtain ⟨q, hq, rfl⟩ := List.mem_map.mp hp
    split
    · exact h q hq
    · exact h q hq
  · rcases List.mem_append.mp hp with w | w
    · exact h p w
    · rw [List.mem_singleton.mp w]; exact hb
/-- the description of an object stands at its own place -/
theorem dtO_at {P : Program} {w : World} {H : Hp} {h : Heap} {a a' : Addr} {kvs : TKv} (x : ObjOk P w H h a (dtO a' kvs)) : a' = a ∧ TDat h a kvs := by
  obtain ⟨p, ⟨o, e⟩, st⟩ := x
  have ea : a' = a := by
    obtain ⟨G, g1, g2⟩ := L2.restrict h (fun b => decide (b = a))
    have pG := st h G p fun o' e' => by rw [g1 a (decide_eq_true rfl)]; exact e'
    obtain ⟨_, _, _, _, o2, _, _, e2, _⟩ := pG
    by_cases c : a' = a
    · exact c
    · rw [g2 a' (decide_eq_false c)] at e2
      cases e2
  subst ea
  exact ⟨rfl, p⟩
theorem dtO_new {P : Program} {w : World} {H : Hp} {h : Heap} {a : Addr} {kvs : TKv} (x : TDat h a kvs) : ObjOk P w H h a (dtO a kvs) := by
  obtain ⟨z, y, xs, r, o, es, ep, e, k⟩ := id x
  refine ⟨x, ⟨o, e⟩, fun h1 h2 p st => ?_⟩
  obtain ⟨z, y, xs, r, o, es, ep, e, k⟩ := p
  exact ⟨z, y, xs, r, o, es, ep, st o e, k⟩
section
variable {X : Cx} {pins : List (Addr × Obj)} {σ : L2.St} {H : Hp} {s : Shared} {a b : Addr} {kvs : TKv} {k : List Int} {y v d : V} {u r : Value} {o : Option V} {A : Around} {E : Value → Shared → Prop}
theorem tk_at (I : Inv X pins σ H s) (T : TObj H a kvs) (hk : TKeys X.K H kvs) : kvs.length ≤ sizeLine ∧ (a == sysModules) = false ∧ ∃ xs, Paired TPr kvs xs ∧ s.heap.DictOfH (tupleKind (intKind X.prog X.w)) a xs := by
  rcases T with ⟨a', e⟩ | ⟨rfl, e⟩
  · obtain ⟨rfl, z, y, xs, r, o, es, ep, h1, h2, h3, h4, h5⟩ := dtO_at (I.hok _ _ e)
    refine ⟨z, y, xs, r, o, es, ep, h1, h2, h3, h4, fun x hx => ?_, h5⟩
    have all : ∀ {l : TKv} {m : List (List Int × Addr × Value)}, Paired TPr l m → TKeys X.K H l → ∀ x ∈ m, (tupleKind (intKind X.prog X.w)).is s.heap x.1 x.2.1 := fun {l m} q => by
      induction q with
      | nil => intro _ x hx; exact nomatch hx
      | @cons p q ps qs hq t ih =>
        intro hk x hx
        rcases List.mem_cons.mp hx with e | hx
        · subst e
          rw [← hq.1, ← hq.2.1]
          exact L2.Inv.isT I (hk p List.mem_cons_self)
        · exact ih (fun p hp => hk p (List.mem_cons_of_mem _ hp)) x hx
    exact all r hk x hx
  · obtain ⟨_, hd, vs, rel, o, es, ep, h1, h2, h3, h4⟩ := dk_rd I.hok e
    cases rel
    obtain ⟨_, hp, _⟩ := h4
    have e0 : es.toList = [] := by
      generalize es.toList = l at hp
      cases hp
      rfl
    refine ⟨Nat.zero_le _, hd, [], .nil, o, es, ep, h1, h2, h3, e0, fun x hx => by simp at hx, List.nodup_nil⟩
theorem t_getItem {Q : Value → Shared → Prop} (hu : A.units + 1 < cLine) (I : Inv X pins σ H s) (T : TObj H a kvs) (hk : TKeys X.K H kvs) (eb : SqT X.K H b (k.map V.int)) (l : tval kvs k = some v) (h : ∀ w' s', Inv X pins σ H s' → RelV v w' → Q w' s') :
    wpAny (model X.prog X.w) A (getItem (.ref a) (.ref b)) Q E s := by
  obtain ⟨z, hd, xs, rel, dd⟩ := tk_at I T hk
  obtain ⟨w', hw, rw'⟩ := RelO.some_of (v := v) (o := (atKey xs k).map (·.2)) (by rw [← l]; exact tPr_val rel k)
  obtain ⟨p, hp, hp2⟩ := Option.map_eq_some_iff.mp hw
  refine wpAny_getItem_heap (tupleKind_room_in1 hu) (L2.Inv.isT I eb) dd hp ?_
  rw [hp2]
  exact h w' _ (I.tok _) rw'
theorem t_in {Q : Value → Shared → Prop} (hu : A.units + 1 < cLine) (I : Inv X pins σ H s) (T : TObj H a kvs) (hk : TKeys X.K H kvs) (eb : SqT X.K H b (k.map V.int)) (h : ∀ s', Inv X pins σ H s' → Q (.bool (tval kvs k).isSome) s') :
    wpAny (model X.prog X.w) A (compareOp .In (.ref b) (.ref a)) Q E s := by
  obtain ⟨z, hd, xs, rel, dd⟩ := tk_at I T hk
  refine wpAny_in_heap (tupleKind_room_in1 hu) (L2.Inv.isT I eb) hd dd ?_
  have q := relO_isSome (tPr_val rel k)
  rw [Option.isSome_map] at q
  rw [← q]
  exact h _ (I.tok _)
theorem t_notIn {Q : Value → Shared → Prop} (hu : A.units + 1 < cLine) (I : Inv X pins σ H s) (T : TObj H a kvs) (hk : TKeys X.K H kvs) (eb : SqT X.K H b (k.map V.int)) (h : ∀ s', Inv X pins σ H s' → Q (.bool (!(tval kvs k).isSome)) s') :
    wpAny (model X.prog X.w) A (compareOp .NotIn (.ref b) (.ref a)) Q E s := by
  obtain ⟨z, hd, xs, rel, dd⟩ := tk_at I T hk
  refine wpAny_notIn_heap (tupleKind_room_in1 hu) (L2.Inv.isT I eb) hd dd ?_
  have q := relO_isSome (tPr_val rel k)
  rw [Option.isSome_map] at q
  rw [← q]
  exact h _ (I.tok _)
theorem t_get2 {Q : Value → Shared → Prop} (hu : A.units + 1 < cLine) (I : Inv X pins σ H s) (T : TObj H a kvs) (hk : TKeys X.K H kvs) (eb : SqT X.K H b (k.map V.int)) (rd : RelV d r) (h : ∀ w' s', Inv X pins σ H s' → RelV ((tval kvs k).getD d) w' → Q w' s') :
    wpAny (model X.prog X.w) A (call (.builtin "dict.get") [.ref a, .ref b, r]) Q E s := by
  obtain ⟨z, hd, xs, rel, dd⟩ := tk_at I T hk
  refine call_meetsIn PySem.F.slot_dict_get dd.typeIs PySem.F.entry_dict_get (PySem.F.args_dict_get_3 _ _ _) (meetsH_dict_get_default (tupleKind (intKind X.prog X.w)) a b hd r) ⟨tupleKind_room_in1 hu, k, xs, L2.Inv.isT I eb, dd, h _ _ (I.tok _) ?_⟩
  exact (tPr_val rel k).getD rd
theorem t_setItem {Q : Unit → Shared → Prop} (hu : A.units + 1 < cLine) (I : Inv X pins σ H s) (T : (∃ a', H a = some (dtO a' kvs)) ∨ (kvs = [] ∧ H a = some (.dK []))) (hk : TKeys X.K H kvs) (hl : kvs.length < sizeLine) (eb : SqT X.K H b (k.map V.int)) (rv : RelV v r)
    (h : ∀ s', Inv X pins σ (upd H a (dtO a (tput kvs k b v))) s' → Q () s') : wpAny (model X.prog X.w) A (setItem (.ref a) (.ref b) r) Q E s := by
  have T' : TObj H a kvs := T.elim .inl fun z => .inr ⟨z.1, .inl z.2⟩
  have mu : Mut (H a) := by
    rcases T with ⟨a', e⟩ | ⟨_, e⟩
    · rw [e]; exact True.intro
    · rw [e]; exact True.intro
  obtain ⟨z, hd, xs, rel, dd⟩ := tk_at I T' hk
  have hz : xs.length ≤ sizeLine := by rw [← tPr_len rel]; exact z
  have hl2 : (tput kvs k b v).length ≤ sizeLine := by have := tput_len kvs k b v; omega
  refine wpAny_setItem_heap (hsz := hz) (tupleKind_room_in1 hu) (L2.Inv.isT I eb) dd fun h' dd' hs => h _ ?_
  obtain ⟨q, es, ep, hq, h2, h3, h4, _, h5⟩ := dd'
  exact d_write I mu hs ⟨q, hq⟩ (dtO_new ⟨hl2, hd, _, tPr_put rel k b rv, q, es, ep, hq, h2, h3, h4, h5⟩)
/-! ### both sorts of dicts -/
def DGX (K : PySem.W.Frag) (H : Hp) (a : Addr) (y : V) (o : Option V) : Prop := DGet H a y o ∨ ∃ kvs k b, TObj H a kvs ∧ TKeys K H kvs ∧ y = .ref b ∧ SqT K H b (k.map V.int) ∧ o = tval kvs k
def IsDX (K : PySem.W.Frag) (H : Hp) (a : Addr) : Prop := IsD H a ∨ ∃ kvs, TObj H a kvs ∧ TKeys K H kvs
theorem d_getItemX {Q : Value → Shared → Prop} (hu : A.units + 1 < cLine) (I : Inv X pins σ H s) (g : DGX X.K H a y (some v)) (ry : RelV y u) (h : ∀ w' s', Inv X pins σ H s' → RelV v w' → Q w' s') :
    wpAny (model X.prog X.w) A (getItem (.ref a) u) Q E s := by
  rcases g with g | ⟨kvs, k, b, T, hk, rfl, eb, l⟩
  · exact d_getItem hu I g ry h
  · cases (show u = Value.ref b from ry)
    exact t_getItem hu I T hk eb l.symm h
theorem d_inX {Q : Value → Shared → Prop} (hu : A.units + 1 < cLine) (I : Inv X pins σ H s) (g : DGX X.K H a y o) (ry : RelV y u) (h : ∀ s', Inv X pins σ H s' → Q (.bool o.isSome) s') :
    wpAny (model X.prog X.w) A (compareOp .In u (.ref a)) Q E s := by
  rcases g with g | ⟨kvs, k, b, T, hk, rfl, eb, l⟩
  · exact d_in hu I g ry h
  · cases (show u = Value.ref b from ry)
    subst l
    exact t_in hu I T hk eb h
theorem d_notInX {Q : Value → Shared → Prop} (hu : A.units + 1 < cLine) (I : Inv X pins σ H s) (g : DGX X.K H a y o) (ry : RelV y u) (h : ∀ s', Inv X pins σ H s' → Q (.bool (!o.isSome)) s') :
    wpAny (model X.prog X.w) A (compareOp .NotIn u (.ref a)) Q E s := by
  rcases g with g | ⟨kvs, k, b, T, hk, rfl, eb, l⟩
  · exact d_notIn hu I g ry h
  · cases (show u = Value.ref b from ry)
    subst l
    exact t_notIn hu I T hk eb h
theorem d_get2X {Q : Value → Shared → Prop} (hu : A.units + 1 < cLine) (I : Inv X pins σ H s) (g : DGX X.K H a y o) (ry : RelV y u) (rd : RelV d r) (h : ∀ w' s', Inv X pins σ H s' → RelV (o.getD d) w' → Q w' s') :
    wpAny (model X.prog X.w) A (call (.builtin "dict.get") [.ref a, u, r]) Q E s := by
  rcases g with g | ⟨kvs, k, b, T, hk, rfl, eb, l⟩
  · exact d_get2 hu I g ry rd h
  · cases (show u = Value.ref b from ry)
    subst l
    exact t_get2 hu I T hk eb rd h
theorem isDX_at (I : Inv X pins σ H s) (d : IsDX X.K H a) : s.TypeIs (.ref a) "dict" ∧ (∀ b, Value.ref a = .ref b → ∃ ob, s.heap.get? b = some ob ∧ ob.dict = none) ∧ (a == sysModules) = false := by
  rcases d with d | ⟨kvs, T, hk⟩
  · exact isD_at I d
  · obtain ⟨_, hd, xs, _, dd⟩ := tk_at I T hk
    refine ⟨dd.typeIs, fun b q => ?_, hd⟩
    cases q
    obtain ⟨ob, _, _, h1, h2, _⟩ := dd
    exact ⟨ob, h1, h2.2.1⟩
theorem dgx_isD (g : DGX X.K H a y o) : IsDX X.K H a := by
  rcases g with g | ⟨kvs, k, b, T, hk, _⟩
  · rcases g with ⟨kvs, k, e, _⟩ | ⟨kvs, k, b, e, _⟩
    · exact .inl (.inl ⟨_, e⟩)
    · exact .inl (.inr ⟨_, e⟩)
  · exact .inr ⟨kvs, T, hk⟩
end
def tDGet2X (K : PySem.W.Frag) (td ty tx : TE) : TE := fun σ H Q => td σ H fun x H1 => ∃ a, x = .ref a ∧ IsDX K H1 a ∧ ty σ H1 fun y H2 => tx σ H2 fun z H3 => ∃ o, DGX K H3 a y o ∧ Q (o.getD z) H3
theorem pe_dget2X {X : Cx} {o e f : Expr} {apos cpos : Pos} {td ty tx : TE} (hu : X.A.units + 1 < cLine) (ho : PE X o td) (he : PE X e ty) (hf : PE X f tx) (m : M2 X o "get" apos e f cpos) : PE X (.Call (.Attribute o "get" apos) [e, f] [] cpos) (tDGet2X X.K td ty tx) := by
  refine ⟨fun pins s σ H Q I h => ?_⟩
  refine wpAny_Call_method m.base m.few m.line PySem.F.plainAttrs_dict PySem.F.slot_dict_get PySem.F.type_dict_get (thn (ho.run pins s σ H _ I h) fun u s1 ⟨x, H1, I1, rx, a, ex, d, q1⟩ => ?_)
  subst ex
  obtain rfl : u = Value.ref a := rx
  obtain ⟨t1, t2, _⟩ := isDX_at I1 d
  refine ⟨t1, t2, ?_⟩
  rw [m.trees]
  refine Calls.callWith_builtin rfl (Calls.evalArgs_plain (Calls.spliced_cons (thn (he.run pins s1 σ H1 _ I1 q1) fun iv s2 ⟨y, H2, I2, ry, q2⟩ =>
    Calls.spliced_cons (thn (hf.run pins s2 σ H2 _ I2 q2) fun fv s3 ⟨z, H3, I3, rz, ov, g, q3⟩ => Calls.spliced_nil ?_))))
  exact d_get2X hu I3 g ry rz fun w' s4 I4 rw' => ⟨_, H3, I4, rw', q3⟩
end Pq

set_option Elab.async false
set_option linter.all false
set_option maxRecDepth 100000
set_option maxHeartbeats 4000000
set_option pp.maxSteps 400
/-! ### sorted of tuples of ints -/
namespace SrtT
open PySem PyProof.Rows Srt SrtO
def lexL : List Int → List Int → Bool
  | [], [] => false
  | [], _ :: _ => true
  | _ :: _, [] => false
  | x :: xs, y :: ys => if x = y then lexL xs ys else decide (x < y)
theorem lexL_irr : ∀ xs : List Int, lexL xs xs = false
  | [] => rfl
  | x :: xs => by rw [lexL, if_pos rfl, lexL_irr xs]
theorem lexL_asym : ∀ xs ys : List Int, lexL xs ys = true → lexL ys xs = false
  | [], [], _ => rfl
  | [], _ :: _, _ => rfl
  | _ :: _, [], h => by cases h
  | x :: xs, y :: ys, h => by
    rw [lexL] at h ⊢
    by_cases e : x = y
    · rw [if_pos e] at h
      rw [if_pos e.symm]
      exact lexL_asym xs ys h
    · rw [if_neg e] at h
      rw [if_neg (Ne.symm e)]
      have := of_decide_eq_true h
      exact decide_eq_false (by omega)
theorem lexL_tr : ∀ xs ys zs : List Int, lexL ys xs = false → lexL zs ys = false → lexL zs xs = false
  | [], ys, zs, h1, h2 => by cases zs <;> first | rfl | (cases ys <;> first | (cases h2; done) | (cases h1; done) | rfl)
  | x :: xs, [], zs, h1, _ => by cases h1
  | x :: xs, y :: ys, [], _, h2 => by cases h2
  | x :: xs, y :: ys, z :: zs, h1, h2 => by
    rw [lexL] at h1 h2 ⊢
    by_cases e1 : y = x
    · rw [if_pos e1] at h1
      by_cases e2 : z = y
      · rw [if_pos e2] at h2
        rw [if_pos (e2.trans e1)]
        exact lexL_tr xs ys zs h1 h2
      · rw [if_neg e2] at h2
        rw [if_neg (by rw [← e1]; exact e2)]
        have := of_decide_eq_false h2
        exact decide_eq_false (by omega)
    · rw [if_neg e1] at h1
      have a := of_decide_eq_false h1
      by_cases e2 : z = y
      · rw [if_neg (by rw [e2]; exact e1)]
        exact decide_eq_false (by omega)
      · rw [if_neg e2] at h2
        have b := of_decide_eq_false h2
        rw [if_neg (by omega)]
        exact decide_eq_false (by omega)
/-- unlike ones are told apart -/
theorem lexL_eq : ∀ xs ys : List Int, lexL xs ys = false → lexL ys xs = false → xs = ys
  | [], [], _, _ => rfl
  | [], _ :: _, h, _ => by cases h
  | _ :: _, [], _, h => by cases h
  | x :: xs, y :: ys, h1, h2 => by
    rw [lexL] at h1 h2
    by_cases e : x = y
    · rw [if_pos e] at h1
      rw [if_pos e.symm] at h2
      rw [e, lexL_eq xs ys h1 h2]
    · rw [if_neg e] at h1
      rw [if_neg (Ne.symm e)] at h2
      have := of_decide_eq_false h1
      have := of_decide_eq_false h2
      omega
theorem swo_L (k : Value → List Int) : Swo fun v u => lexL (k v) (k u) := ⟨fun x y h => lexL_asym _ _ h, fun x y z h1 h2 => lexL_tr _ _ _ h1 h2⟩
theorem lexAt_L (ns ms : List Int) : ∀ (n i : Nat), min ns.length ms.length - i = n → i ≤ min ns.length ms.length →
    Ob.lexAt (fun j => decide (ns.getD j 0 = ms.getD j 0)) (fun j => decide (ns.getD j 0 < ms.getD j 0)) (decide (ns.length < ms.length)) i n = lexL (ns.drop i) (ms.drop i)
  | 0, i, e, hi => by
    rw [Ob.lexAt_zero]
    rcases Nat.le_total ns.length ms.length with c | c
    · have : ns.drop i = [] := List.drop_eq_nil_of_le (by omega)
      rw [this]
      cases z : ms.drop i with
      | nil =>
        have := List.drop_eq_nil_iff.mp z
        exact decide_eq_false (by omega)
      | cons y ys =>
        have l : (ms.drop i).length = ys.length + 1 := by rw [z]; rfl
        rw [List.length_drop] at l
        exact decide_eq_true (by omega)
    · have : ms.drop i = [] := List.drop_eq_nil_of_le (by omega)
      rw [this]
      rw [decide_eq_false (show ¬ ns.length < ms.length by omega)]
      cases ns.drop i <;> rfl
  | n + 1, i, e, hi => by
    have h1 : i < ns.length := by omega
    have h2 : i < ms.length := by omega
    rw [Ob.lexAt_succ, lexAt_L ns ms n (i + 1) (by omega) (by omega), List.drop_eq_getElem_cons h1, List.drop_eq_getElem_cons h2, lexL]
    have g1 : ns.getD i 0 = ns[i] := by rw [List.getD_eq_getElem?_getD, List.getElem?_eq_getElem h1]; rfl
    have g2 : ms.getD i 0 = ms[i] := by rw [List.getD_eq_getElem?_getD, List.getElem?_eq_getElem h2]; rfl
    rw [g1, g2]
    by_cases c : ns[i] = ms[i]
    · rw [if_pos (decide_eq_true c), if_pos c]
    · rw [if_neg (by rw [decide_eq_false c]; exact Bool.false_ne_true), if_neg c]
section
variable {prog : Program} {w : World} {A : Around} {E : Value → Shared → Prop} {s : Shared}
theorem items_at {h : Heap} {v : Value} {ns : List Int} (x : TS.TupInts h v ns) : ∃ a o its n, v = .ref a ∧ h.get? a = some o ∧ o.cls = .type "tuple" ∧ o.data = .seq its n ∧ IntsAre its.toList ns := by
  obtain ⟨a, xs, e, ⟨o, ho, hc, n, hd⟩, hi⟩ := x
  exact ⟨a, o, xs, n, e, ho, hc, hd, hi⟩
theorem katLex_L {b : Bool} {R : Bool} : ∀ {xs ys : List Value} {ns ms : List Int} {fin : Bool} {i : Nat}, IntsAre xs ns → IntsAre ys ms → (i = 0 → b = true ∨ b = false) → fin = decide (ns.length < ms.length) → R = lexL ns ms →
    PySem.W.KatLex prog w A b fin (fun r s' => s' = s ∧ r = R) (xs.zip ys) i s
  | [], ys, ns, ms, fin, i, hx, hy, _, hf, hR => by
    cases hx
    refine PySem.W.kat_nil ⟨rfl, ?_⟩
    rw [hf, hR]
    cases ms <;> rfl
  | x :: xs, [], ns, ms, fin, i, hx, hy, _, hf, hR => by
    cases hy
    cases hx
    refine PySem.W.kat_nil ⟨rfl, ?_⟩
    rw [hf, hR]
    rfl
  | x :: xs, y :: ys, ns, ms, fin, i, hx, hy, _, hf, hR => by
    cases hx with
    | @cons n t _ ns' h1 =>
      cases hy with
      | @cons m u _ ms' h2 =>
        refine PySem.W.kat_cons (SeqAt.EqAt.int_int n t m u prog w _ _ ?_)
        refine PySem.W.kat_go (fun e1 => ?_) (fun e1 => ?_)
        · have ex : n = m := by simpa using e1
          refine PySem.W.kat_yes (katLex_L h1 h2 (fun z => by omega) ?_ ?_)
          · rw [hf, List.length_cons, List.length_cons]
            exact decide_eq_decide.mpr (by omega)
          · rw [hR, lexL, if_pos ex]
        · have ex : ¬ n = m := by simpa using e1
          have eR : R = decide (n < m) := by rw [hR, lexL, if_neg ex]
          cases hb : (b && i == 0) with
          | true =>
            refine PySem.W.kat_no ?_
            rw [hb]
            exact oneLt_int ⟨rfl, eR.symm⟩
          | false =>
            refine PySem.W.kat_no ?_
            rw [hb]
            refine PySem.W.kat_one _ _ (PyProof.Rows.lt_int ?_)
            exact ⟨rfl, eR.symm⟩
theorem rc_L {x y : Value} {ns ms : List Int} (hx : TS.TupInts s.heap x ns) (hy : TS.TupInts s.heap y ms) (hu : A.units < cLine) : ∃ a b, x = .ref a ∧ y = .ref b ∧ (∃ items items2 n n2 dd dd2 sl sl2, s.heap.get? a = some { cls := .type "tuple", dict := dd, data := .seq items n, slots := sl } ∧
    s.heap.get? b = some { cls := .type "tuple", dict := dd2, data := .seq items2 n2, slots := sl2 } ∧ items.size = ns.length ∧ items2.size = ms.length ∧
    (∀ (A : Around) j (h1 : j < items.size) (h2 : j < items2.size), SeqAt.EqAt A s items[j] items2[j] (decide (ns.getD j 0 = ms.getD j 0))) ∧
    (∀ (A : Around) j (h1 : j < items.size) (h2 : j < items2.size), Ob.RcOp .Lt A s items[j] items2[j] (decide (ns.getD j 0 < ms.getD j 0)))) := by
  obtain ⟨a, ⟨cls, dd, data, sl⟩, its, n, rfl, ho, hc, hd, i1⟩ := items_at hx
  obtain ⟨b, ⟨cls2, dd2, data2, sl2⟩, its2, n2, rfl, ho2, hc2, hd2, i2⟩ := items_at hy
  simp only at hc hd hc2 hd2
  subst hc hd hc2 hd2
  have e1 : its.size = ns.length := by rw [← i1.length]; simp
  have e2 : its2.size = ms.length := by rw [← i2.length]; simp
  have at1 : ∀ j (h1 : j < its.size), ∃ t, its[j] = .int (ns.getD j 0) t := fun j h1 => PyProof.Rows.IntsAre.int_at i1 _ _ (by simp [h1])
  have at2 : ∀ j (h1 : j < its2.size), ∃ t, its2[j] = .int (ms.getD j 0) t := fun j h1 => PyProof.Rows.IntsAre.int_at i2 _ _ (by simp [h1])
  refine ⟨a, b, rfl, rfl, its, its2, n, n2, dd, dd2, sl, sl2, ho, ho2, e1, e2, fun A j h1 h2 => ?_, fun A j h1 h2 => ?_⟩
  · obtain ⟨t, et⟩ := at1 j h1
    obtain ⟨t', et'⟩ := at2 j h2
    rw [et, et']
    have z : (ns.getD j 0 == ms.getD j 0) = decide (ns.getD j 0 = ms.getD j 0) := by
      by_cases q : ns.getD j 0 = ms.getD j 0
      · rw [decide_eq_true q]; exact beq_iff_eq.mpr q
      · rw [decide_eq_false q]; exact beq_eq_false_iff_ne.mpr q
    rw [← z]
    exact SeqAt.EqAt.int_int _ _ _ _
  · obtain ⟨t, et⟩ := at1 j h1
    obtain ⟨t', et'⟩ := at2 j h2
    rw [et, et']
    exact Ob.RcOp.lt_int _ _ _ _
theorem oneLt_L {c : Bool} {x y : Value} {ns ms : List Int} (hx : TS.TupInts s.heap x ns) (hy : TS.TupInts s.heap y ms) (hu : A.units < cLine) {Q : Bool → Shared → Prop} (h : Q (lexL ns ms) s) : wpAny (model prog w) A (oneLt' c x y) Q E s := by
  obtain ⟨a, b, rfl, rfl, its, its2, n, n2, dd, dd2, sl, sl2, ho, ho2, e1, e2, he, hr⟩ := rc_L hx hy hu
  have eL := lexAt_L ns ms (min ns.length ms.length) 0 (by omega) (by omega)
  rw [List.drop_zero, List.drop_zero] at eL
  have at' := Ob.tuple_ltAt a b its its2 n n2 dd dd2 sl sl2 (fun j => decide (ns.getD j 0 = ms.getD j 0)) (fun j => decide (ns.getD j 0 < ms.getD j 0))
  have eL' : Ob.lexAt (fun j => decide (ns.getD j 0 = ms.getD j 0)) (fun j => decide (ns.getD j 0 < ms.getD j 0)) (decide (its.size < its2.size)) 0 (min its.size its2.size) = lexL ns ms := by rw [e1, e2]; exact eL
  cases c with
  | true =>
    rw [oneLt'_eq]
    simp only [if_true]
    refine wpAny_bind (wpAny_cRoomFor hu ?_)
    refine wpAny_bind (wpAny_callSpecialIfBound?_slot ⟨_, ho, rfl⟩ F.slot_tuple_lt (call_meets F.slot_tuple_lt ⟨_, ho, rfl⟩ F.entry_tuple_lt (F.args_tuple_lt_2 _ _) at' ⟨ho, ho2, he _, fun j h1 h2 _ => hr _ j h1 h2, ?_⟩))
    rw [eL']
    exact wpAny_truthy_bool h
  | false =>
    refine PySem.W.kat_one _ _ ?_
    exact richCompare_meets_room (op := .Lt) ⟨_, ho, rfl⟩ ⟨_, ho2, rfl⟩ F.slot_tuple_lt F.entry_tuple_lt (F.args_tuple_lt_2 _ _) at' ⟨ho, ho2, he _, fun j h1 h2 _ => hr _ j h1 h2, ⟨(fun x => nomatch x), (by show Q _ s; rw [eL']; exact h)⟩⟩ hu
theorem tups_cmp {κ : SortKind} (hκ : κ = tuples' true ∨ κ = general' ∨ κ = oneType') {vs : List Value} {k : Value → List Int} (hu : A.units < cLine) (hp : ∀ v ∈ vs, TS.TupInts s.heap v (k v)) : Cmp prog w A s κ (fun p => p.1 ∈ vs) (lt2 fun v u => lexL (k v) (k u)) := by
  intro p q hm hm'
  have h1 := hp _ hm
  have h2 := hp _ hm'
  show wpAny (model prog w) A (keyLt' κ p.1 q.1) (fun r s' => s' = s ∧ r = lexL (k p.1) (k q.1)) (fun _ _ => False) s
  rcases hκ with rfl | rfl | rfl
  · obtain ⟨a, o, its, n, e, ho, hc, hd, i1⟩ := items_at h1
    obtain ⟨a', o', its', n', e', ho', hc', hd', i2⟩ := items_at h2
    rw [e, e']
    refine PySem.W.kat_lt ho hd ho' hd' ?_
    refine katLex_L i1 i2 (fun _ => .inl rfl) ?_ (by rw [e, e'])
    rw [← i1.length, ← i2.length]
    simp
  · exact oneLt_L (c := false) h1 h2 hu ⟨rfl, rfl⟩
  · exact oneLt_L (c := true) h1 h2 hu ⟨rfl, rfl⟩
theorem firsts_L : ∀ {vs : List Value} {k : Value → List Int}, (∀ v ∈ vs, TS.TupInts s.heap v (k v)) → ∃ fs : List (Option Value), fs.length = vs.length ∧ (∀ i : Nat, (fs[i]?.bind id).isSome = ((vs[i]?.map k).bind List.head?).isSome) ∧ ∀ (M : Model) (A : Around) (E : Value → Shared → Prop) (Q : List (Option Value) → Shared → Prop), Q fs s → wpAny M A (vs.mapM firstOfTuple') Q E s
  | [], _, _ => ⟨[], rfl, fun i => rfl, fun M A E Q h => by rw [List.mapM_nil]; exact wpAny_pure h⟩
  | v :: vs, k, hp => by
    obtain ⟨fs, l, f, g⟩ := firsts_L (vs := vs) fun v' hm => hp v' (List.mem_cons_of_mem _ hm)
    obtain ⟨a, o, its, n, e, ho, hc, hd, i1⟩ := items_at (hp v List.mem_cons_self)
    refine ⟨its[0]? :: fs, by rw [List.length_cons, List.length_cons, l], fun i => ?_, fun M A E Q h => ?_⟩
    · cases i with
      | zero =>
        show (its[0]?).isSome = (k v).head?.isSome
        rw [← Array.getElem?_toList]
        generalize k v = ns at i1 ⊢
        generalize its.toList = L at i1 ⊢
        cases i1 <;> rfl
      | succ i => simpa using f i
    · rw [List.mapM_cons, PySem.W.kas_first_eq]
      subst e
      refine wpAny_bind (wpAny_bind (PySem.W.Looks.here (show PySem.W.Looks M s.heap (typeOf (.ref a)) o.cls from (PySem.W.Looks.ld ho).andThen .now) ?_))
      rw [hc, if_neg (by first | decide | simp)]
      refine wpAny_bind (listItems_at ho hd (wpAny_pure ?_))
      exact wpAny_bind (g M A E _ (wpAny_pure h))
theorem katTups_L {h : Heap} : ∀ {vs : List Value} {k : Value → List Int}, (∀ v ∈ vs, TS.TupInts h v (k v)) → (∀ v ∈ vs, k v ≠ []) → ∃ fs : List Value, PySem.W.KatTups h vs fs ∧ fs.length = vs.length ∧ ∀ f ∈ fs, ∃ i t, f = Value.int i t
  | [], _, _, _ => ⟨[], PySem.W.KatTups.nil, rfl, fun _ hm => by simp at hm⟩
  | v :: vs, k, hp, hn => by
    obtain ⟨fs, h1, h2, h3⟩ := katTups_L (vs := vs) (fun v' hm => hp v' (List.mem_cons_of_mem _ hm)) fun v' hm => hn v' (List.mem_cons_of_mem _ hm)
    obtain ⟨a, o, its, n, e, ho, hc, hd, i1⟩ := items_at (hp v List.mem_cons_self)
    have ne := hn v List.mem_cons_self
    have : ∃ i t, its[0]? = some (Value.int i t) := by
      rw [← Array.getElem?_toList]
      generalize its.toList = L at i1 ⊢
      generalize k v = ns at i1 ne ⊢
      cases i1 with
      | nil => exact absurd rfl ne
      | cons n t h => exact ⟨n, t, rfl⟩
    obtain ⟨i, t, ei⟩ := this
    subst e
    refine ⟨.int i t :: fs, PySem.W.KatTups.cons ho hc hd ei h1, by rw [List.length_cons, List.length_cons, h2], fun f hm => ?_⟩
    rcases List.mem_cons.mp hm with rfl | hm
    · exact ⟨i, t, rfl⟩
    · exact h3 f hm
theorem perm_map {α β : Type} {f : α → β} : ∀ {xs : List α} {out : List β}, out.Perm (xs.map f) → ∃ ys : List α, ys.Perm xs ∧ out = ys.map f
  | [], out, p => ⟨[], List.Perm.refl _, List.perm_nil.mp p⟩
  | x :: xs, out, p => by
    have hm : f x ∈ out := p.mem_iff.mpr List.mem_cons_self
    obtain ⟨A, B, rfl⟩ := List.append_of_mem hm
    have p2 : (A ++ B).Perm (xs.map f) := by
      have := (List.perm_middle (a := f x) (l₁ := A) (l₂ := B)).symm.trans p
      exact this.cons_inv
    obtain ⟨ys, py, ey⟩ := perm_map p2
    obtain ⟨y1, y2, rfl, e1, e2⟩ := List.append_eq_map_iff.mp ey
    subst e1 e2
    exact ⟨y1 ++ x :: y2, List.perm_middle.trans (py.cons x), by rw [List.map_append, List.map_cons]⟩
theorem tups_kind {vs : List Value} {k : Value → List Int} (h2 : 2 ≤ vs.length) (hp : ∀ v ∈ vs, TS.TupInts s.heap v (k v)) : ∃ κ, (κ = tuples' true ∨ κ = general' ∨ κ = oneType') ∧ ∀ (Q : SortKind → Shared → Prop) (E : Value → Shared → Prop), Q κ s → wpAny (model prog w) A (keyKind' vs.toArray) Q E s := by
  by_cases hall : ∀ v ∈ vs, k v ≠ []
  · obtain ⟨fs, h1, l, h3⟩ := katTups_L hp hall
    refine ⟨tuples' true, .inl rfl, fun Q E hq => ?_⟩
    refine PySem.W.kat_kind (T := .type "int") h1 (by omega) (fun f hm => ?_) (by rfl) ?_
    · obtain ⟨x, t, rfl⟩ := h3 f hm
      exact PySem.W.Looks.now
    · have e : (Value.type "int" != Value.type "tuple") = true := by first | decide +kernel | rfl | decide
      rw [e]
      exact hq
  · obtain ⟨fs, l, f, g⟩ := firsts_L hp
    have hno : ¬ (fs.toArray.all fun x => x.isSome) = true := fun z => hall fun v hv e => by
      obtain ⟨i, hi⟩ := List.mem_iff_getElem?.mp hv
      have fi := f i
      rw [hi] at fi
      have e1 : ((some v).map k).bind List.head? = none := by
        show (k v).head? = none
        rw [e]; rfl
      rw [e1] at fi
      have hl : i < fs.length := by rw [l]; exact (List.getElem?_eq_some_iff.mp hi).1
      rw [List.getElem?_eq_getElem hl] at fi
      simp only [List.all_toArray, List.all_eq_true] at z
      have := z fs[i] (List.getElem_mem hl)
      have fi : (fs[i]).isSome = false := by simpa using fi
      rw [fi] at this
      cases this
    have run : ∀ κ, (∀ (Q : SortKind → Shared → Prop) (E : Value → Shared → Prop), Q κ s → wpAny (model prog w) A (do
        if ((fs.toArray[0]?).bind id).isSome then return general'
        return if (← oneTypeOnly' vs.toArray).isSome then oneType' else general') Q E s) → ∀ (Q : SortKind → Shared → Prop) (E : Value → Shared → Prop), Q κ s → wpAny (model prog w) A (keyKind' vs.toArray) Q E s := fun κ h Q E hq => by
      rw [PyProof.Rows.kat_kind_eq, List.mapM_toArray, map_eq_pure_bind]
      refine wpAny_bind (wpAny_bind (g _ _ _ _ (wpAny_pure ?_)))
      rw [if_neg hno]
      exact h Q E hq
    cases h0 : ((fs.toArray[0]?).bind id).isSome with
    | true =>
      refine ⟨general', .inr (.inl rfl), run _ fun Q E hq => ?_⟩
      rw [h0, if_pos rfl]
      exact wpAny_pure hq
    | false =>
      refine ⟨oneType', .inr (.inr rfl), run _ fun Q E hq => ?_⟩
      rw [h0, if_neg Bool.false_ne_true]
      rw [oneTypeOnly'_eq, List.mapM_toArray, map_eq_pure_bind]
      refine wpAny_bind (wpAny_bind (wpAny_bind (PySem.W.kas_mapM (r := Value.type "tuple") _ (fun v hv Q' hq => ?_) (wpAny_pure ?_))))
      · obtain ⟨a, o, its, n, e, ho, hc, hd, i1⟩ := items_at (hp v hv)
        subst e
        exact wpAny_typeOf_ref ho (by rw [hc]; exact hq)
      · obtain ⟨v₁, v₂, rest, rfl⟩ : ∃ v₁ v₂ rest, vs = v₁ :: v₂ :: rest := by
          match vs, h2 with
          | [], h2 => simp at h2
          | [_], h2 => simp at h2
          | v₁ :: v₂ :: rest, _ => exact ⟨v₁, v₂, rest, rfl⟩
        have hall : ((List.map (fun _ => Value.type "tuple") (v₁ :: v₂ :: rest)).toArray.all fun x => x == Value.type "tuple") = true := by
          simp only [List.all_toArray, List.all_map, List.all_eq_true]
          intro _ _
          rfl
        have h0 : (List.map (fun _ => Value.type "tuple") (v₁ :: v₂ :: rest)).toArray[0]? = some (Value.type "tuple") := by simp
        rw [h0]
        simp only [hall, if_true]
        exact wpAny_pure (wpAny_pure hq)
theorem tups_sortable {a : Addr} {vs : List Value} {k : Value → List Int} (hu : A.units < cLine) (h2 : 2 ≤ vs.length) (hp : ∀ v ∈ vs, TS.TupInts s.heap v (k v)) (ha : ∀ o, s.heap.get? a = some o → o.cls ≠ .type "tuple") : SortableO prog w A s a vs fun v u => lexL (k v) (k u) := by
  intro h' keep
  have hp' : ∀ v ∈ vs, TS.TupInts h' v (k v) := fun v hm => (hp v hm).keeps fun b o e c => keep b o (fun z => by subst z; exact ha o e c) e
  obtain ⟨κ, hκ, hq⟩ := tups_kind (prog := prog) (w := w) (A := A) (s := { s with heap := h' }) h2 hp'
  exact ⟨κ, fun Q E h => hq Q E h, tups_cmp (s := { s with heap := h' }) hκ hu hp'⟩
theorem sorted_tupsL {l : Addr} {vs : List Value} {k : Value → List Int} {Q : Value → Shared → Prop} (hu : A.units + 2 < cLine) (hl : s.heap.IsList l vs.toArray) (hz : vs.length ≤ sizeLine) (hp : ∀ v ∈ vs, TS.TupInts s.heap v (k v))
    (h : ∀ (h' : Heap) (d : Addr) (out : List Value), Srtd (fun v u => lexL (k v) (k u)) out → Stb (fun v u => lexL (k v) (k u)) out vs → (∀ b o, s.heap.get? b = some o → h'.get? b = some o) → s.heap.objs.size ≤ d → (∃ n, h'.get? d = some (seqObj "list" out.toArray n)) → Q (.ref d) { s with heap := h' }) :
    wpAny (model prog w) A (call (.builtin "sorted") [.ref l]) Q E s := by
  refine sorted_ord (swo_L k) hl hz (fun h2 h₁ a ha kk => ?_) fun out hs hb => ?_
  · refine tups_sortable (s := { s with heap := h₁ }) hu h2 (fun v hm => (hp v hm).keeps fun b o e _ => (kk b o e).2) fun o e => ?_
    have e' : some o = some (seqObj "list" vs.toArray 0) := e.symm.trans ha
    cases e'
    intro c
    exact absurd (Value.type.inj c) (by decide)
  · exact h _ _ out hs hb (fun b o e => sortedAll_old e) (Nat.le_succ _) (sortedAll_at s.heap vs out.toArray)
/-- the keys of a dict, whatever they are -/
theorem kdl_raw {d : Addr} {es : Array DictEntry} {ep : Nat} {K : Type} {xs : List (K × Addr × Value)} (lo : (d == sysModules) = false) (hx : ∀ i (hi : i < es.size), ∃ y, xs[i]? = some y ∧ es[i].key = .ref y.2.1 ∧ es[i].val = y.2.2) :
    PySem.W.KdlSrc prog w "dict" d d es.size (fun i v => ∃ y, xs[i]? = some y ∧ v = .ref y.2.1) (fun h => h.DictRaw d es ep) where
  type := fun _ hm => hm.typeIs
  there := fun _ ⟨_, ho, _⟩ => ⟨Heap.lt_size ho, Heap.lt_size ho⟩
  keep := fun _ _ hm hk => hm.at fun o e => hk d (.inl rfl) o e
  notList := by decide
  notTuple := by decide
  hint := fun _ _ _ _ hm hq => PySem.W.kdl_hint_dict hm.typeIs hq
  iter := fun _ s hh hm => ⟨_, _, (fun _ _ hq => wpAny_pyIter_dict_raw lo hm hq), Walks.keysH hh _ d (fun z => by
    obtain ⟨_, ho, _⟩ := hm
    have := Heap.lt_size ho
    rw [z] at this
    exact absurd this (Nat.lt_irrefl _)) es ep hx, ⟨⟨_, Heap.get?_push_size _ rfl, rfl, rfl⟩, hm.at fun _ e => Heap.get?_push_of_some _ e⟩⟩
theorem sorted_tupsD {d : Addr} {xs : List (List Int × Addr × Value)} {Q : Value → Shared → Prop} (hh : A.handled = none) (hu : A.units + 2 < cLine) (lo : (d == sysModules) = false) (dd : s.heap.DictOfH (tupleKind (intKind prog w)) d xs) (hz : xs.length ≤ sizeLine)
    (h : ∀ (h1 h' : Heap) (tk : Nat) (out : List (List Int × Addr × Value)), out.Perm xs → out.Pairwise (fun x y => lexL y.1 x.1 = false) → (∀ b o, s.heap.get? b = some o → h1.get? b = some o) → (∀ b o, h1.get? b = some o → h'.get? b = some o) → (∃ n, h'.get? h1.objs.size = some (seqObj "list" (out.map fun x => Value.ref x.2.1).toArray n)) → Q (.ref h1.objs.size) { s with heap := h', toks := tk }) :
    wpAny (model prog w) A (call (.builtin "sorted") [.ref d]) Q E s := by
  obtain ⟨es, ep, hraw, hsz, hget⟩ := dd.raw
  refine Calls.call_function_entry PyProof.Rows.kind_sorted PyProof.Rows.plain_sorted PyProof.Rows.entry_sorted (PyProof.Rows.args_sorted1 _) ?_
  unfold Builtin.«sorted»
  refine wpAny_bind (m := checkCount "sorted" 1 1 _) (wpAny_pure ?_)
  refine wpAny_bind (PySem.W.kdu_collect (A := A.in1) (kdl_raw (xs := xs) lo fun i hi => by obtain ⟨y, a, b, c, _⟩ := hget i hi; exact ⟨y, a, b, c⟩) hh hraw (by rw [hsz]; exact hz) fun h' tk acc hk hacc => ?_)
  have eacc : acc.toList = xs.map fun x => Value.ref x.2.1 := by
    apply List.ext_getElem?
    intro i
    rw [List.getElem?_map]
    by_cases c : i < acc.toList.length
    · obtain ⟨y, a, b⟩ := hacc.2 i acc.toList[i] (by rw [← Array.getElem?_toList, List.getElem?_eq_getElem c])
      rw [List.getElem?_eq_getElem c, a, b]
      rfl
    · have : acc.toList.length = xs.length := by rw [Array.length_toList, hacc.1, hsz]
      rw [List.getElem?_eq_none (by omega), List.getElem?_eq_none (by omega)]
      rfl
  rw [eacc]
  refine wpAny_bind (wpAny_newList ?_ (by rw [List.length_map]; exact hz))
  have hoL : (h'.push (seqObj "list" (xs.map fun x => Value.ref x.2.1).toArray 0)).get? h'.objs.size = some (seqObj "list" (xs.map fun x => Value.ref x.2.1).toArray 0) := Heap.get?_push_size _ rfl
  show wpAny _ _ _ _ _ { s with heap := h'.push (seqObj "list" (xs.map fun x => Value.ref x.2.1).toArray 0), toks := tk }
  have ty : ∀ x ∈ xs, TS.TupInts (h'.push (seqObj "list" (xs.map fun x => Value.ref x.2.1).toArray 0)) (.ref x.2.1) x.1 := fun x hx => by
    obtain ⟨_, _, _, _, _, _, _, hk2, _⟩ := dd
    exact (L2.tupInts_of (P := prog) (w := w) (hk2 x hx)).keeps fun b o e _ => Heap.get?_push_of_some _ (hk b o e)
  obtain ⟨kf, hkf⟩ : ∃ kf : Value → List Int, ∀ x ∈ xs, kf (.ref x.2.1) = x.1 := by
    refine ⟨fun v => TS.intsOf (h'.push (seqObj "list" (xs.map fun x => Value.ref x.2.1).toArray 0)) v, fun x hx => (ty x hx).ints⟩
  have hp : ∀ v ∈ xs.map (fun x => Value.ref x.2.1), TS.TupInts (h'.push (seqObj "list" (xs.map fun x => Value.ref x.2.1).toArray 0)) v (kf v) := fun v hv => by
    obtain ⟨x, hx, rfl⟩ := List.mem_map.mp hv
    rw [hkf x hx]
    exact ty x hx
  refine wpAny_bind (wpAny_holding (wpAny_call_entry PyProof.Rows.slot_list_sort ⟨_, hoL, rfl⟩ PyProof.Rows.entry_list_sort
    (list_sort_ord (s := { s with heap := h'.push (seqObj "list" (xs.map fun x => Value.ref x.2.1).toArray 0), toks := tk }) (swo_L kf) hoL (by rw [List.length_map]; exact hz) (fun h2 => tups_sortable (s := { s with heap := h'.push (seqObj "list" (xs.map fun x => Value.ref x.2.1).toArray 0), toks := tk }) hu h2 hp fun o e => ?_) fun out h1 h2 => ⟨_, rfl, ?_⟩) (PyProof.Rows.args_list_sort _)))
  · have e' : some o = some (seqObj "list" (xs.map fun x => Value.ref x.2.1).toArray 0) := e.symm.trans hoL
    cases e'
    intro c
    exact absurd (Value.type.inj c) (by decide)
  · obtain ⟨e', he'⟩ := PyProof.Rows.sortedHeap_at (vs := xs.map fun x => Value.ref x.2.1) (out := out.toArray) hoL
    obtain ⟨ys, py, ey⟩ : ∃ ys : List (List Int × Addr × Value), ys.Perm xs ∧ out = ys.map fun x => Value.ref x.2.1 := by
      have := h2.perm
      clear h1 h2 he' e'
      exact perm_map this
    subst ey
    refine wpAny_pure ⟨_, rfl, h h' _ tk ys py ?_ hk (fun b o e => ?_) ⟨e', he'⟩⟩
    · have h1 : (ys.map fun x => Value.ref x.2.1).Pairwise (fun v u => lexL (kf u) (kf v) = false) := h1
      rw [List.pairwise_map] at h1
      exact h1.imp_of_mem fun {a b} ha hb h => by rw [hkf a (py.mem_iff.mp ha), hkf b (py.mem_iff.mp hb)] at h; exact h
    · have hb : b < h'.objs.size := Heap.lt_size e
      rw [PyProof.Rows.sortedHeap_old (Nat.ne_of_lt hb) (by rw [size_push']; exact Nat.lt_succ_of_lt hb)]
      exact Heap.get?_push_of_some _ e
end
end SrtT
namespace Pq
open PySem PySem.Spec PyProof.Rows L2
section
variable {X : Cx}
theorem cr_sortedTL (hu : X.A.units + 2 < cLine) : CallR X (.builtin "sorted") (fun vs H Q => ∃ (a : Addr) (ps : List (List Int × Addr)), vs = [V.ref a] ∧ SqL X.K H a (ps.map fun p => V.ref p.2) ∧ (∀ p ∈ ps, SqT X.K H p.2 (p.1.map V.int)) ∧
    ∀ (ys : List (List Int × Addr)) (l : Addr), ys.Perm ps → ys.Pairwise (fun x y => SrtT.lexL y.1 x.1 = false) → H l = none → Q (.ref l) (upd H l (.lst (ys.map fun p => V.ref p.2)))) := by
  intro pins s σ H vs us Q I r h
  obtain ⟨a, ps, rfl, hs, hx, q⟩ := h
  obtain ⟨its, rv, hl, hz⟩ := I.list hs
  obtain ⟨u, rfl, ru⟩ := vals1 r
  obtain rfl : u = Value.ref a := ru
  have ei : its = ps.map fun p => Value.ref p.2 := by
    have := refs_at (ps := ps.map (·.2)) (us := its) (by rw [List.map_map]; exact rv)
    rw [this, List.map_map]
    rfl
  subst ei
  have ty : ∀ p ∈ ps, TS.TupInts s.heap (.ref p.2) p.1 := fun p hp => L2.tupInts_of (P := X.prog) (w := X.w) (L2.Inv.isT I (hx p hp))
  have hk : ∀ p ∈ ps, TS.intsOf s.heap (.ref p.2) = p.1 := fun p hp => (ty p hp).ints
  rw [List.length_map] at hz
  refine SrtT.sorted_tupsL (k := fun v => TS.intsOf s.heap v) hu hl.isList (by rw [List.length_map]; exact hz) (fun v hv => ?_) fun h' d out h1 h2 kp hd hn => ?_
  · obtain ⟨p, hp, rfl⟩ := List.mem_map.mp hv
    rw [hk p hp]
    exact ty p hp
  · obtain ⟨ys, py, ey⟩ := SrtT.perm_map h2.perm
    subst ey
    obtain ⟨n, hn⟩ := hn
    have h1 : (ys.map fun p : List Int × Addr => Value.ref p.2).Pairwise (fun v u => SrtT.lexL (TS.intsOf s.heap u) (TS.intsOf s.heap v) = false) := h1
    rw [List.pairwise_map] at h1
    have h1 : ys.Pairwise (fun x y => SrtT.lexL y.1 x.1 = false) := h1.imp_of_mem fun {a b} ha hb h => by rw [hk a (py.mem_iff.mp ha), hk b (py.mem_iff.mp hb)] at h; exact h
    have rvl : ∀ ys : List (List Int × Addr), Vals (ys.map fun p => V.ref p.2) (ys.map fun p => Value.ref p.2) := fun ys => by
      induction ys with
      | nil => exact .nil
      | cons p ys ih => exact .cons rfl ih
    refine ⟨.ref d, upd H d (.lst (ys.map fun p => V.ref p.2)), I.laid (t' := s.toks) kp hd ⟨?_, _, n, rvl ys, hn⟩, rfl, q ys d py h1 (I.hok.fresh hd)⟩
    rw [List.length_map, py.length_eq]
    exact hz
theorem cr_sortedTD (hc : X.calm = true) (hu : X.A.units + 2 < cLine) : CallR X (.builtin "sorted") (fun vs H Q => ∃ (a : Addr) (kvs : TKv), vs = [V.ref a] ∧ TObj H a kvs ∧ TKeys X.K H kvs ∧
    ∀ (ys : TKv) (l : Addr), ys.Perm kvs → ys.Pairwise (fun x y => SrtT.lexL y.1 x.1 = false) → H l = none → Q (.ref l) (upd H l (.lst (ys.map fun p => V.ref p.2.1)))) := by
  intro pins s σ H vs us Q I r h
  obtain ⟨a, kvs, rfl, T, hk, q⟩ := h
  obtain ⟨u, rfl, ru⟩ := vals1 r
  obtain rfl : u = Value.ref a := ru
  obtain ⟨z, lo, xs, rel, dd⟩ := tk_at I T hk
  refine SrtT.sorted_tupsD (I.ok.hd hc) hu lo dd (by rw [← tPr_len rel]; exact z) fun h1 h' tk out py hs k1 k2 hn => ?_
  have I1 : Inv X pins σ H { s with heap := h1, toks := tk } := I.kept k1
  have back : ∀ {kvs : TKv} {xs : List (List Int × Addr × Value)}, Paired TPr kvs xs → ∀ {out : List (List Int × Addr × Value)}, out.Perm xs → ∃ ys : TKv, ys.Perm kvs ∧ Paired TPr ys out := fun {kvs xs} r {out} p => by
    have e1 : out.Perm (List.map (fun x => x.2) (kvs.zip xs)) := by
      rw [List.map_snd_zip (Nat.le_of_eq (tPr_len r).symm)]
      exact p
    obtain ⟨zs, pz, ez⟩ := SrtT.perm_map e1
    have all : ∀ z ∈ zs, TPr z.1 z.2 := fun z hz => by
      have hz := pz.mem_iff.mp hz
      clear p e1 pz ez
      induction r with
      | nil => simp at hz
      | cons hq t ih =>
        rw [List.zip_cons_cons] at hz
        rcases List.mem_cons.mp hz with e | hz
        · subst e; exact hq
        · exact ih hz
    refine ⟨zs.map (·.1), ?_, ?_⟩
    · have := pz.map (·.1)
      rw [List.map_fst_zip (Nat.le_of_eq (tPr_len r))] at this
      exact this
    · subst ez
      clear pz e1 p
      induction zs with
      | nil => exact .nil
      | cons z zs ih => exact .cons (all z List.mem_cons_self) (ih fun z hz => all z (List.mem_cons_of_mem _ hz))
  obtain ⟨ys, pys, rys⟩ := back rel py
  obtain ⟨n, hn⟩ := hn
  have rvl : ∀ {ys : TKv} {out : List (List Int × Addr × Value)}, Paired TPr ys out → Vals (ys.map fun p => V.ref p.2.1) (out.map fun x => Value.ref x.2.1) := fun {ys out} r => by
    induction r with
    | nil => exact .nil
    | cons hq t ih => exact .cons (by dsimp only; rw [hq.2.1]; rfl) ih
  have hs2 : ∀ {ys : TKv} {out : List (List Int × Addr × Value)}, Paired TPr ys out → out.Pairwise (fun x y => SrtT.lexL y.1 x.1 = false) → ys.Pairwise (fun x y => SrtT.lexL y.1 x.1 = false) := fun {ys out} r => by
    induction r with
    | nil => intro _; exact .nil
    | @cons p q ps qs hq t ih =>
      intro h
      rw [List.pairwise_cons] at h ⊢
      refine ⟨fun y hy => ?_, ih h.2⟩
      have mem : ∀ {ps : TKv} {qs : List (List Int × Addr × Value)}, Paired TPr ps qs → ∀ y ∈ ps, ∃ x ∈ qs, x.1 = y.1 := fun {ps qs} r => by
        induction r with
        | nil => intro y hy; simp at hy
        | @cons p q ps qs hq t ih =>
          intro y hy
          rcases List.mem_cons.mp hy with e | hy
          · subst e; exact ⟨q, List.mem_cons_self, hq.1.symm⟩
          · obtain ⟨x, hx, e⟩ := ih y hy
            exact ⟨x, List.mem_cons_of_mem _ hx, e⟩
      obtain ⟨x, hx, e⟩ := mem t y hy
      have := h.1 x hx
      rw [e, ← hq.1] at this
      exact this
  refine ⟨.ref h1.objs.size, upd H h1.objs.size (.lst (ys.map fun p => V.ref p.2.1)), I1.laid (t' := tk) k2 (Nat.le_refl _) ⟨?_, _, n, rvl rys, hn⟩, rfl, q ys _ pys (hs2 rys hs) (I1.hok.fresh (Nat.le_refl _))⟩
  rw [List.length_map, pys.length_eq]
  exact z
end
end Pq

set_option Elab.async false
set_option linter.all false
set_option maxRecDepth 100000
set_option maxHeartbeats 4000000
namespace Pq
open PySem PySem.Spec PyProof.Rows L2
/-! ### dicts as data: the keys are ints and texts -/
def keyO : Da → Option Key
  | .int i => some (.inl i)
  | .str x => some (.inr x)
  | _ => none
def isKy (k : Key) (d : Da) : Bool := match k, d with
  | .inl i, .int j => decide (j = i)
  | .inr x, .str y => decide (y = x)
  | _, _ => false
def isTm : List (Da × Da) → Bool
  | (.none, .none) :: _ => true
  | (.bool _, _) :: _ => true
  | _ => false
def dLook (ds : List (Da × Da)) (k : Key) : Option Da := (ds.find? fun p => isKy k p.1).map (·.2)
def dPut (ds : List (Da × Da)) (k : Key) (d : Da) : List (Da × Da) := if ds.any (fun p => isKy k p.1) then ds.map (fun p => if isKy k p.1 then (p.1, d) else p) else ds ++ [(keyD k, d)]
/-- marks of pairs and of the script -/
def isPm : List (Da × Da) → Bool
  | (.bool _, _) :: _ => true
  | _ => false
def intsO : List Da → Option (List Int)
  | [] => some []
  | .int i :: r => (intsO r).map (i :: ·)
  | _ => none
def tkO : Da → Option (List Int)
  | .tuple ds => intsO ds
  | _ => none
def tkI (k : List Int) : Da := .tuple (k.map PyData.int)
def tLook (ds : List (Da × Da)) (k : List Int) : Option Da := (ds.find? fun p => decide (tkO p.1 = some k)).map (·.2)
def tPut (ds : List (Da × Da)) (k : List Int) (d : Da) : List (Da × Da) := if (tLook ds k).isSome then ds.map (fun p => if tkO p.1 = some k then (p.1, d) else p) else ds ++ [(tkI k, d)]
def dGetO (ds : List (Da × Da)) (c : Da) : Option (Option Da) := if isTm ds then (if isPm ds then none else (tkO c).map (tLook ds.tail)) else match keyO c with
  | some k => some (dLook ds k)
  | none => if ds.isEmpty then (tkO c).map (fun _ => none) else none
theorem intsO_map : ∀ k : List Int, intsO (k.map PyData.int) = some k
  | [] => rfl
  | i :: k => by
    show (intsO (k.map PyData.int)).map (i :: ·) = _
    rw [intsO_map k]
    rfl
theorem tkO_I (k : List Int) : tkO (tkI k) = some k := intsO_map k
theorem intsO_eq : ∀ {ds : List Da} {k : List Int}, intsO ds = some k → ds = k.map PyData.int
  | [], k, h => by cases h; rfl
  | d :: ds, k, h => by
    cases d <;> first | cases h; done | skip
    have h : (intsO ds).map _ = some k := h
    cases e : intsO ds with
    | none => rw [e] at h; cases h
    | some j =>
      rw [e] at h
      cases h
      rw [intsO_eq e]
      rfl
theorem tkO_eq {c : Da} {k : List Int} (h : tkO c = some k) : c = tkI k := by
  cases c <;> first | cases h; done | skip
  rw [intsO_eq (show intsO _ = some k from h)]
  rfl
theorem keyO_D (k : Key) : keyO (keyD k) = some k := by cases k <;> rfl
theorem keyO_eq {c : Da} {k : Key} (h : keyO c = some k) : c = keyD k := by
  cases c <;> cases h <;> rfl
theorem isKy_D (k j : Key) : isKy k (keyD j) = decide (j = k) := by
  cases k <;> cases j <;> simp [isKy, keyD]
section
variable {K : PySem.W.Frag} {S H : Hp}
theorem tm_dk : ∀ {kvs : List (Key × V)} {ds : List (Da × Da)}, DqK K S kvs ds → isTm ds = false
  | [], _, h => by cases h; rfl
  | (k, v) :: _, _, h => by
    cases h with
    | cons h1 h2 => cases k <;> rfl
/-- what a look-up finds -/
def RelO2 (K : PySem.W.Frag) (S : Hp) : Option V → Option Da → Prop
  | some v, some d => Dq K S v d
  | none, none => True
  | _, _ => False
theorem look_dk (k : Key) : ∀ {kvs : List (Key × V)} {ds : List (Da × Da)}, DqK K S kvs ds → RelO2 K S (valV kvs k) (dLook ds k)
  | [], _, h => by cases h; trivial
  | (j, v) :: kvs, _, h => by
    cases h with
    | cons h1 h2 =>
      rename_i d ds
      by_cases e : j = k
      · have e2 : dLook ((keyD j, d) :: ds) k = some d := by
          unfold dLook
          rw [List.find?_cons_of_pos (by rw [isKy_D]; exact decide_eq_true e)]; rfl
        rw [valV_pos (p := (j, v)) e, e2]
        exact h1
      · have e2 : dLook ((keyD j, d) :: ds) k = dLook ds k := by
          unfold dLook
          rw [List.find?_cons_of_neg (by rw [isKy_D, decide_eq_false e]; exact Bool.false_ne_true)]
        rw [valV_neg (p := (j, v)) e, e2]
        exact look_dk k h2
theorem DqK.len : ∀ {kvs : List (Key × V)} {ds : List (Da × Da)}, DqK K S kvs ds → kvs.length = ds.length
  | [], _, h => by cases h; rfl
  | _ :: _, _, h => by
    cases h with
    | cons h1 h2 => rw [List.length_cons, List.length_cons, h2.len]
theorem DqK.any (k : Key) : ∀ {kvs : List (Key × V)} {ds : List (Da × Da)}, DqK K S kvs ds → (kvs.any fun kv => decide (kv.1 = k)) = ds.any fun p => isKy k p.1
  | [], _, h => by cases h; rfl
  | (j, v) :: _, _, h => by
    cases h with
    | cons h1 h2 => rw [List.any_cons, List.any_cons, h2.any k, isKy_D]
theorem DqK.repl (k : Key) {u : V} {d : Da} (hd : Dq K S u d) : ∀ {kvs : List (Key × V)} {ds : List (Da × Da)}, DqK K S kvs ds → DqK K S (kvs.map fun kv => if kv.1 = k then (kv.1, u) else kv) (ds.map fun p => if isKy k p.1 then (p.1, d) else p)
  | [], _, h => by cases h; exact .nil
  | (j, v) :: _, _, h => by
    cases h with
    | cons h1 h2 =>
      rw [List.map_cons, List.map_cons]
      by_cases e : j = k
      · rw [if_pos e, if_pos (by rw [isKy_D]; exact decide_eq_true e)]
        exact .cons hd (h2.repl k hd)
      · rw [if_neg e, if_neg (by rw [isKy_D, decide_eq_false e]; exact Bool.false_ne_true)]
        exact .cons h1 (h2.repl k hd)
theorem DqK.snoc {k : Key} {u : V} {d : Da} (hd : Dq K S u d) : ∀ {kvs : List (Key × V)} {ds : List (Da × Da)}, DqK K S kvs ds → DqK K S (kvs ++ [(k, u)]) (ds ++ [(keyD k, d)])
  | [], _, h => by cases h; exact .cons hd .nil
  | (j, v) :: _, _, h => by
    cases h with
    | cons h1 h2 => exact .cons h1 (h2.snoc hd)
theorem DqK.put {k : Key} {u : V} {d : Da} {kvs : List (Key × V)} {ds : List (Da × Da)} (h : DqK K S kvs ds) (hd : Dq K S u d) : DqK K S (putK kvs k u) (dPut ds k d) := by
  unfold putK dPut
  rw [← h.any k]
  cases e : kvs.any fun kv => decide (kv.1 = k) with
  | true => rw [if_pos rfl, if_pos rfl]; exact h.repl k hd
  | false => rw [if_neg Bool.false_ne_true, if_neg Bool.false_ne_true]; exact h.snoc hd
theorem DqK.keys : ∀ {kvs : List (Key × V)} {ds : List (Da × Da)}, DqK K S kvs ds → ds.map (·.1) = (kvs.map (·.1)).map keyD
  | [], _, h => by cases h; rfl
  | (j, v) :: _, _, h => by
    cases h with
    | cons h1 h2 => rw [List.map_cons, List.map_cons, List.map_cons, h2.keys]
theorem Dq.key {c : Da} {k : Key} {v : V} (h : Dq K S v c) (e : keyO c = some k) : v = kV k := by
  cases c <;> cases e <;> cases h <;> rfl
variable {B : Bs}
theorem IsP.flatK {c : Da} {k : Key} {v : V} (h : IsP K B S H c v) (e : keyO c = some k) : v = kV k := by
  rcases h with h | ⟨_, _, rfl, _, _, h⟩
  · exact h.key e
  · cases h <;> cases e
theorem ints_vals {K : PySem.W.Frag} {S : Hp} : ∀ {ks : List Int} {vs : List V}, DqAll K S vs (ks.map PyData.int) → vs = ks.map V.int
  | [], _, h => by cases h; rfl
  | k :: ks, _, h => by
    cases h with
    | cons h1 h2 => cases h1; rw [ints_vals h2]; rfl
theorem IsP.tk {k : List Int} {v : V} (h : IsP K B S H (tkI k) v) : ∃ b, v = .ref b ∧ PlT K S b (k.map V.int) := by
  obtain ⟨a, vs, e, p, d⟩ := h.tupP
  rw [ints_vals d] at p
  exact ⟨a, e, p⟩
theorem dqt_keys : ∀ {kvs : TKv} {ds : List (Da × Da)}, DqT K S kvs ds → TKeys K S kvs
  | [], _, _ => fun p hp => by cases hp
  | p :: kvs, _, h => by
    cases h with
    | cons h0 h1 h2 =>
      intro q hq
      rcases List.mem_cons.mp hq with e | hq
      · subst e; exact h0.sq
      · exact dqt_keys h2 q hq
theorem tkeys_up {kvs : TKv} (w : Wd B S H) (h : TKeys K S kvs) : TKeys K H kvs := fun p hp => SqT.up w.sub (h p hp)
theorem look_dt (k : List Int) : ∀ {kvs : TKv} {ds : List (Da × Da)}, DqT K S kvs ds → RelO2 K S (tval kvs k) (tLook ds k)
  | [], _, h => by cases h; trivial
  | (j, b, v) :: kvs, _, h => by
    cases h with
    | cons h0 h1 h2 =>
      rename_i d ds
      have ej : tkO (PyData.tuple (j.map PyData.int)) = some j := tkO_I j
      unfold tval tLook
      by_cases e : j = k
      · rw [List.find?_cons_of_pos (p := fun p : List Int × Addr × V => decide (p.1 = k)) (decide_eq_true e), List.find?_cons_of_pos (p := fun p : Da × Da => decide (tkO p.1 = some k)) (decide_eq_true (by show tkO (PyData.tuple (j.map PyData.int)) = some k; rw [ej, e]))]
        exact h1
      · rw [List.find?_cons_of_neg (p := fun p : List Int × Addr × V => decide (p.1 = k)) (by rw [decide_eq_false e]; exact Bool.false_ne_true), List.find?_cons_of_neg (p := fun p : Da × Da => decide (tkO p.1 = some k)) (by show ¬ decide (tkO (PyData.tuple (j.map PyData.int)) = some k) = true; rw [decide_eq_false (fun z => e (Option.some.inj (ej.symm.trans z)))]; exact Bool.false_ne_true)]
        exact look_dt k h2
theorem DqT.len : ∀ {kvs : TKv} {ds : List (Da × Da)}, DqT K S kvs ds → kvs.length = ds.length
  | [], _, h => by cases h; rfl
  | _ :: _, _, h => by
    cases h with
    | cons h0 h1 h2 => rw [List.length_cons, List.length_cons, h2.len]
theorem DqT.put {k : List Int} {b : Addr} {u : V} {d : Da} {kvs : TKv} {ds : List (Da × Da)} (h : DqT K S kvs ds) (hb : PlT K S b (k.map V.int)) (hd : Dq K S u d) : DqT K S (tput kvs k b u) (tPut ds k d) := by
  have e := look_dt k h
  have e : (tval kvs k).isSome = (tLook ds k).isSome := by
    generalize tval kvs k = x at e
    generalize tLook ds k = y at e
    cases x <;> cases y <;> first | rfl | exact e.elim
  unfold tput tPut
  rw [e]
  cases (tLook ds k).isSome with
  | true =>
    rw [if_pos rfl, if_pos rfl]
    clear e
    have gen : ∀ {kvs : TKv} {ds : List (Da × Da)}, DqT K S kvs ds → DqT K S (kvs.map fun p => if p.1 = k then (p.1, p.2.1, u) else p) (ds.map fun p => if tkO p.1 = some k then (p.1, d) else p) := fun {kvs} => by
      induction kvs with
      | nil => intro ds h; cases h; exact .nil
      | cons p kvs ih =>
        intro ds h
        cases h with
        | @cons j b' v _ d' ds h0 h1 h2 =>
          have ej : tkO (PyData.tuple (j.map PyData.int)) = some j := tkO_I j
          rw [List.map_cons, List.map_cons]
          dsimp only
          by_cases c : j = k
          · rw [if_pos c, if_pos (show tkO (PyData.tuple (j.map PyData.int)) = some k by rw [ej, c])]
            exact .cons h0 hd (ih h2)
          · rw [if_neg c, if_neg (show ¬ tkO (PyData.tuple (j.map PyData.int)) = some k from fun z => c (Option.some.inj (ej.symm.trans z)))]
            exact .cons h0 h1 (ih h2)
    exact gen h
  | false =>
    rw [if_neg Bool.false_ne_true, if_neg Bool.false_ne_true]
    clear e
    have gen : ∀ {kvs : TKv} {ds : List (Da × Da)}, DqT K S kvs ds → DqT K S (kvs ++ [(k, b, u)]) (ds ++ [(tkI k, d)]) := fun {kvs} => by
      induction kvs with
      | nil => intro ds h; cases h; exact .cons hb hd .nil
      | cons p kvs ih =>
        intro ds h
        cases h with
        | cons h0 h1 h2 => exact .cons h0 h1 (ih h2)
    exact gen h
theorem tm_tail : ∀ {ds : List (Da × Da)}, isTm ds = true → isPm ds = false → ds = (.none, .none) :: ds.tail
  | (.none, .none) :: _, _, _ => rfl
  | (.bool _, _) :: _, _, h => by cases h
/-- a dict that is looked at: what stands under a key -/
theorem dget_of {ds : List (Da × Da)} {c : Da} {x y : V} {o : Option Da} (w : Wd B S H) (hx : IsP K B S H (.dict ds) x) (hy : IsP K B S H c y) (e : dGetO ds c = some o) : ∃ a ov, x = .ref a ∧ DGX K H a y ov ∧ RelO2 K S ov o ∧ IsDX K H a := by
  unfold dGetO at e
  cases tm : isTm ds with
  | true =>
    rw [tm, if_pos rfl] at e
    cases pm : isPm ds with
    | true => rw [pm] at e; cases e
    | false =>
      rw [pm, if_neg Bool.false_ne_true] at e
      cases ke : tkO c with
      | none => rw [ke] at e; cases e
      | some k =>
        rw [ke] at e
        cases e
        rw [tkO_eq ke] at hy
        obtain ⟨b, rfl, pb⟩ := hy.tk
        have eb := SqT.up w.sub pb.sq
        rw [tm_tail tm pm] at hx
        rcases hx with hx | ⟨a, ob, rfl, _, ha, hd⟩
        · cases hx with
          | dk ha hd => exact nomatch (show true = false from tm_dk hd)
          | dt ha hd => exact ⟨_, _, rfl, .inr ⟨_, k, b, .inl ⟨_, w.sub _ _ ha⟩, tkeys_up w (dqt_keys hd), rfl, eb, rfl⟩, look_dt k hd, .inr ⟨_, .inl ⟨_, w.sub _ _ ha⟩, tkeys_up w (dqt_keys hd)⟩⟩
        · cases hd with
          | dk hd => exact nomatch (show true = false from tm_dk hd)
          | dt hd => exact ⟨_, _, rfl, .inr ⟨_, k, b, .inl ⟨_, ha⟩, tkeys_up w (dqt_keys hd), rfl, eb, rfl⟩, look_dt k hd, .inr ⟨_, .inl ⟨_, ha⟩, tkeys_up w (dqt_keys hd)⟩⟩
  | false =>
    rw [tm, if_neg Bool.false_ne_true] at e
    cases ke : keyO c with
    | none =>
      rw [ke] at e
      dsimp only at e
      cases ds with
      | cons p ds => cases e
      | nil =>
        have e : (tkO c).map (fun _ => none) = some o := e
        cases kt : tkO c with
        | none => rw [kt] at e; cases e
        | some k =>
          rw [kt] at e
          cases e
          rw [tkO_eq kt] at hy
          obtain ⟨b, rfl, pb⟩ := hy.tk
          have eb := SqT.up w.sub pb.sq
          rcases hx with hx | ⟨a, ob, rfl, _, ha, hd⟩
          · cases hx with
            | dk ha hd =>
              cases hd
              exact ⟨_, none, rfl, .inr ⟨[], k, b, .inr ⟨rfl, .inl (w.sub _ _ ha)⟩, (fun p hp => by cases hp), rfl, eb, rfl⟩, trivial, .inl (.inl ⟨_, .inl (w.sub _ _ ha)⟩)⟩
          · cases hd with
            | dk hd =>
              cases hd
              exact ⟨_, none, rfl, .inr ⟨[], k, b, .inr ⟨rfl, .inl ha⟩, (fun p hp => by cases hp), rfl, eb, rfl⟩, trivial, .inl (.inl ⟨_, .inl ha⟩)⟩
    | some k =>
      rw [ke] at e
      cases e
      have ey := hy.flatK ke
      subst ey
      rcases hx with hx | ⟨a, ob, rfl, _, ha, hd⟩
      · cases hx with
        | dk ha hd => exact ⟨_, _, rfl, .inl (DGet.k (w.sub _ _ ha)), look_dk k hd, .inl (.inl ⟨_, .inl (w.sub _ _ ha)⟩)⟩
        | dt ha hd => cases tm
        | scr _ => cases tm
        | pr _ _ => cases tm
      · cases hd with
        | dk hd => exact ⟨_, _, rfl, .inl (DGet.k ha), look_dk k hd, .inl (.inl ⟨_, .inl ha⟩)⟩
        | dt hd => cases tm
/-- the script -/
theorem IsP.scr {x : Da} {v : V} (h : IsP K B S H (.dict [(.bool false, x)]) v) : ∃ a ns, v = .ref a ∧ x = .list (List.map PyData.int ns) ∧ SqL K S a (ns.map V.int) := by
  rcases h with h | ⟨_, _, rfl, _, _, h⟩
  · cases h with
    | dk _ z => exact nomatch (show true = false from tm_dk z)
    | scr h => exact ⟨_, _, rfl, rfl, h⟩
  · cases h with
    | dk z => exact nomatch (show true = false from tm_dk z)
end
theorem dq_ints {K : PySem.W.Frag} {S : Hp} : ∀ ys : List Int, DqAll K S (ys.map V.int) (ys.map .int)
  | [] => .nil
  | y :: ys => .cons (.int y) (dq_ints ys)
end Pq

set_option Elab.async false
set_option linter.all false
set_option maxRecDepth 100000
set_option maxHeartbeats 4000000
namespace Pq
open PySem PySem.Spec PyProof.Rows L2

theorem le_sz {n : Nat} (h : n ≤ 1000000) : n ≤ sizeLine := Nat.le_trans h (by decide)
theorem lt_sz {n : Nat} (h : n < 1000000) : n < sizeLine := Nat.lt_of_lt_of_le h (by decide)
theorem hu64 {A : Around} {k : Nat} (hr : Room k A) : A.units + 64 < cLine := by have := hr.un; omega

section
variable {X : Cx}
/-! ### arithmetic -/
theorem op_catR : OpR X (binaryOp .Add) (fun x y H Q => ∃ l b xs zs, x = .ref l ∧ y = .ref b ∧ Rd H l (.lst xs) ∧ Rd H b (.lst zs) ∧ xs.length + zs.length ≤ sizeLine ∧ ∀ p, H p = none → Q (.ref p) (upd H p (.lst (xs ++ zs)))) := by
  intro pins s σ H x y v u Q I rx ry h
  obtain ⟨l, b, xs, zs, rfl, rfl, hH, hB, hz, q⟩ := h
  cases rx
  cases ry
  obtain ⟨z, its, n, r, e⟩ := hH.ok I.hok
  obtain ⟨z2, its2, n2, r2, e2⟩ := hB.ok I.hok
  have hl := r.length
  have hl2 := r2.length
  refine PySem.P.add_list e e2 ?_ (by rw [List.size_toArray, List.size_toArray]; omega)
  have ea : its.toArray ++ its2.toArray = (its ++ its2).toArray := by simp
  rw [ea]
  exact ⟨.ref _, _, I.lnew (t' := s.toks) (r.append r2) (by rw [List.length_append]; omega), rfl, q _ I.fresh⟩
/-- sizes that products may have -/
def Sm (i : Int) : Prop := ∃ n, n ≤ 60000000 ∧ i.natAbs < 2 ^ n
def Dv (i j : Int) : Prop := Builtin.divisionGoesByPylong i j = false
theorem op_fdivV : OpR X (binaryOp .FloorDiv) (rI (fun i j => 0 < j ∧ Dv i j) fun i j => .int (i / j)) := opI fun i j _ _ _ _ _ hc q => by
  have h1 : (0 : Int) < j := hc.1
  exact floordiv_int (by omega) (by rw [Int.fdiv_eq_ediv_of_nonneg i (by omega)]; exact q) (.inl hc.2)
/-- tuples made here are known to have no dict -/
def rCatF (K : PySem.W.Frag) : R2 := fun x y H Q => ∃ a b xs ys, x = .ref a ∧ y = .ref b ∧ SqT K H a xs ∧ SqT K H b ys ∧ xs.length + ys.length ≤ sizeLine ∧
  (xs = [] → Q (.ref b) H) ∧ (xs ≠ [] → ys = [] → Q (.ref a) H) ∧ (xs ≠ [] → ys ≠ [] → ∀ p o, H p = none → o.dict = none → Q (.ref p) (upd H p (.frz o (.tup (xs ++ ys)))))
theorem op_catF : OpR X (binaryOp .Add) (rCatF X.K) := by
  intro pins s σ H x y v u Q I rx ry h
  obtain ⟨a, b, xs, ys, rfl, rfl, ha, hb, hz, q0, q1, q2⟩ := h
  by_cases hx : xs = []
  · exact op_catA pins s σ H _ _ v u Q I rx ry ⟨a, b, xs, ys, rfl, rfl, ha, hb, hz, q0, q1, fun z => absurd hx z⟩
  · cases rx
    cases ry
    obtain ⟨its, r1, p1, _⟩ := I.tuple ha
    obtain ⟨its2, r2, p2, _⟩ := I.tuple hb
    refine HT.cat_tup p1 p2 (fun z => hx (r1.nil_iff.mp z)) (fun z => ⟨.ref a, H, I, rfl, q1 hx (r2.nil_iff.mp z)⟩) (fun z => ?_) (by rw [← r1.length, ← r2.length]; exact hz)
    refine ⟨.ref s.heap.objs.size, _, I.laid (t' := s.toks) (o := .frz _ (.tup (xs ++ ys))) (fun b ob q => Heap.get?_push_of_some _ q) (Nat.le_refl _) ⟨Heap.get?_push_size _ rfl, ?_⟩, rfl, q2 hx (fun w => z (r2.nil_iff.mpr w)) _ _ (I.hok.fresh (Nat.le_refl _)) rfl⟩
    exact ⟨by rw [List.length_append]; exact hz, _, r1.append r2, IsTup.new _ _⟩
def fAdd : Da → Da → (SV → Prop) → Prop
  | .int i, .int j, Q => Q (.val (.int (i + j)))
  | .str x, .str y, Q => x.length + y.length ≤ 1000000 ∧ Q (.val (.str (x ++ y)))
  | .tuple xs, .tuple ys, Q => xs.length + ys.length ≤ 1000000 ∧ Q (.val (.tuple (xs ++ ys)))
  | .list xs, .list ys, Q => xs.length + ys.length ≤ 1000000 ∧ Q (.own true (.list (xs ++ ys)))
  | _, _, _ => False
theorem od_add : OpD X (binaryOp .Add) fAdd := by
  intro B env S σ H x y c d Q Q' R px py h cl
  cases c <;> cases d <;> first | exact h.elim | skip
  · cases px.int; cases py.int
    exact ⟨_, op_add, _, _, rfl, rfl, cl.val R h (.int _)⟩
  · cases px.str; cases py.str
    exact ⟨_, op_add_str, _, _, rfl, rfl, le_sz h.1, cl.val R h.2 (.str _)⟩
  · obtain ⟨a, vs, rfl, ha, da⟩ := px.lst R.w
    obtain ⟨b, us, rfl, hb, db⟩ := py.lst R.w
    exact ⟨_, op_catR, a, b, vs, us, rfl, rfl, ha, hb, by rw [da.length, db.length]; exact le_sz h.1, fun p hp => cl.newL R h.2 (da.app db) hp⟩
  · obtain ⟨a, vs, rfl, ha, da⟩ := px.tupP
    obtain ⟨b, us, rfl, hb, db⟩ := py.tupP
    have up : ∀ {a : Addr} {xs : List V}, SqT X.K S a xs → SqT X.K H a xs := fun h => SqT.up R.w.sub h
    refine ⟨_, op_catF, a, b, vs, us, rfl, rfl, up ha.sq, up hb.sq, by rw [da.length, db.length]; exact le_sz h.1, fun e => ?_, fun _ e => ?_, fun _ _ p o hp ho => cl.newT R h.2 (da.app db) hp ho⟩
    · subst e; cases da
      exact cl.val R h.2 (.tup hb db)
    · subst e; cases db
      refine cl.val R h.2 ?_
      rw [List.append_nil]
      exact .tup ha da
def fSub : Da → Da → (SV → Prop) → Prop
  | .int i, .int j, Q => Q (.val (.int (i - j)))
  | _, _, _ => False
theorem od_sub : OpD X (binaryOp .Sub) fSub := by
  intro B env S σ H x y c d Q Q' R px py h cl
  cases c <;> cases d <;> first | exact h.elim | skip
  cases px.int; cases py.int
  exact ⟨_, op_sub, _, _, rfl, rfl, cl.val R h (.int _)⟩
/-! ### xs * n -/
theorem op_repR : OpR X (binaryOp .Mult) (fun x y H Q => ∃ l k xs, x = .ref l ∧ y = .int k ∧ Rd H l (.lst xs) ∧ -(2 ^ 63) ≤ k ∧ k < 2 ^ 63 ∧ xs.length * k.toNat ≤ sizeLine ∧ ∀ p, H p = none → Q (.ref p) (upd H p (.lst (List.replicate k.toNat xs).flatten))) := by
  intro pins s σ H x y v u Q I rx ry wish
  obtain ⟨l, k, xs, rfl, rfl, rd, k1, k2, few, wish⟩ := wish
  cases rx
  obtain ⟨t, rfl⟩ := ry
  obtain ⟨_, its, n, rel, e⟩ := rd.ok I.hok
  have hl := rel.length
  have size : its.toArray.size * k.toNat ≤ sizeLine := by rw [List.size_toArray, ← hl]; exact few
  have cap : ¬ its.toArray.size * k.toNat > (2 ^ 63 - 1) / 8 := by
    have big : (sizeLine : Nat) ≤ (2 ^ 63 - 1) / 8 := by decide
    omega
  have fits : ¬ (!Builtin.List.listFitsIndex k) = true := by rw [fitsIndex_both k1 k2]; exact Bool.false_ne_true
  have short : ¬ Builtin.List.listTooLong (its.toArray.size * k.toNat) = true := by rw [notLongL size]; exact Bool.false_ne_true
  have made : List.foldl (fun x1 x2 => x1 ++ x2) #[] (List.replicate (if its.toArray.isEmpty = true then 0 else k.toNat) its.toArray) = (List.replicate k.toNat its).flatten.toArray := by
    have all : ∀ m : Nat, List.foldl (fun x1 x2 => x1 ++ x2) #[] (List.replicate m its.toArray) = (List.replicate m its).flatten.toArray := fun m => by simpa using foldl_rep its m []
    rw [all]
    cases its with
    | nil => simp
    | cons b r => rw [if_neg (by simp)]
  refine wpAny_binaryOp_repeat_ref (T := "list") (U := "int") (by decide) ⟨_, e, rfl⟩ (fun s2 => typeIs_int s2 k t) noFill_list_mul F.fills_int_mul F.slot_int_rmul repeat_list F.slot_int_index.lookup ?_
  refine call_meets F.slot_int_rmul (typeIs_int s k t) F.entry_int_rmul (F.args_int_rmul_2 _ _) (int___rmul___int_list k t l its.toArray n) ⟨e, rfl, ⟨_, e, rfl⟩, ?_⟩
  refine call_meets F.slot_list_mul ⟨_, e, rfl⟩ F.entry_list_mul (F.args_list_mul_2 _ _) (AutoListH.list___mul___list_int_3 l its.toArray n k t fits cap short) ⟨e, ?_⟩
  rw [made]
  exact ⟨.ref _, _, I.lnew (t' := s.toks) (rel.rep k.toNat) (by rw [PyProof.Rows.lm_len_rep_flat, Nat.mul_comm]; exact few), rfl, wish _ I.fresh⟩
theorem DqAll.rep {K : PySem.W.Frag} {S : Hp} {ds : List Da} {vs : List V} (h : DqAll K S vs ds) : ∀ n : Nat, DqAll K S (List.replicate n vs).flatten (List.replicate n ds).flatten
  | 0 => .nil
  | n + 1 => by
    rw [List.replicate_succ, List.replicate_succ, List.flatten_cons, List.flatten_cons]
    exact h.app (h.rep n)
/-- a text many times -/
def strRep (x : Str) (n : Int) : Str := ⟨(List.replicate n.toNat x.cps).foldl (· ++ ·) #[]⟩
theorem op_strRep : OpR X (binaryOp .Mult) (fun x y H Q => ∃ a n, x = .str a ∧ y = .int n ∧ (n < 100000 ∧ -100000 < n ∧ a.length ≤ 100 ∧ a.length * n.toNat ≤ 100000) ∧ Q (.str (strRep a n)) H) := by
  intro pins s σ H x y v u Q I rx ry h
  obtain ⟨a, n, rfl, rfl, ⟨h1, h2, h3, h4⟩, q⟩ := h
  obtain ⟨t, rfl⟩ := rx
  obtain ⟨t', rfl⟩ := ry
  refine PySem.P.mul_str (by rw [decide_eq_false (by omega), decide_eq_false (by omega)]; rfl) (fun c _ => ?_) (fun _ _ => ?_) ?_
  · have : (2 ^ 63 - 1) / n ≥ 100 := by
      have n0 : 0 < n := by omega
      have := Int.mul_ediv_self_le (x := (2 ^ 63 - 1 : Int)) (k := n) (by omega)
      have e := Int.emod_lt_of_pos (2 ^ 63 - 1 : Int) n0
      have d := Int.emod_add_mul_ediv (2 ^ 63 - 1 : Int) n
      rcases Int.lt_or_le ((2 ^ 63 - 1) / n) 100 with z | z
      · have m : n * ((2 ^ 63 - 1) / n) ≤ n * 100 := Int.mul_le_mul_of_nonneg_left (by omega) (by omega)
        omega
      · exact z
    have l : (a.length : Int) ≤ 100 := by omega
    omega
  · unfold Builtin.Str.tooLong
    exact decide_eq_false (by rw [sizeLine_eq]; omega)
  · by_cases c : n < 1
    · rw [if_pos c]
      have e : strRep a n = Str.empty := by
        unfold strRep
        rw [show n.toNat = 0 by omega]
        rfl
      rw [e] at q
      exact ⟨by decide, .str _, H, I.tok _, ⟨_, rfl⟩, q⟩
    · rw [if_neg c]
      cases b : (n == 1 || a.length == 0) with
      | true =>
        rw [if_pos rfl]
        have e : strRep a n = a := by
          rcases Bool.or_eq_true _ _ |>.mp b with z | z
          · have z : n = 1 := by simpa using z
            subst z
            unfold strRep
            simp
          · have z : a.length = 0 := by simpa using z
            have ec : a.cps = #[] := Array.eq_empty_of_size_eq_zero z
            unfold strRep
            have rp : ∀ m : Nat, (List.replicate m a.cps).foldl (· ++ ·) #[] = #[] := fun m => by
              rw [ec]
              induction m with
              | zero => rfl
              | succ m ih => rw [List.replicate_succ, List.foldl_cons, Array.empty_append]; exact ih
            rw [rp]
            cases a
            simp at ec
            rw [ec]
        rw [e] at q
        exact ⟨.str a, H, I, ⟨t, rfl⟩, q⟩
      | false =>
        rw [if_neg Bool.false_ne_true]
        refine ⟨?_, .str _, H, I.tok _, ⟨_, rfl⟩, q⟩
        have len : ∀ (m : Nat) (acc : Array Nat), ((List.replicate m a.cps).foldl (· ++ ·) acc).size = acc.size + m * a.cps.size := fun m => by
          induction m with
          | zero => intro acc; simp
          | succ m ih =>
            intro acc
            rw [List.replicate_succ, List.foldl_cons, ih, Array.size_append, Nat.succ_mul]
            omega
        show ((List.replicate n.toNat a.cps).foldl (· ++ ·) #[]).size ≤ sizeLine
        rw [len, sizeLine_eq]
        have : a.cps.size * n.toNat ≤ 100000 := h4
        rw [Nat.mul_comm n.toNat]
        simp
        omega
def fMul : Da → Da → (SV → Prop) → Prop
  | .int i, .int j, Q => Sm i ∧ Sm j ∧ Q (.val (.int (i * j)))
  | .str x, .int n, Q => (n < 100000 ∧ -100000 < n ∧ x.length ≤ 100 ∧ x.length * n.toNat ≤ 100000) ∧ Q (.val (.str (strRep x n)))
  | .list ds, .int n, Q => (n < 1000000 ∧ -1000000 < n ∧ ds.length * n.toNat ≤ 1000000) ∧ Q (.own true (.list (List.replicate n.toNat ds).flatten))
  | _, _, _ => False
theorem od_mul : OpD X (binaryOp .Mult) fMul := by
  intro B env S σ H x y c d Q Q' R px py h cl
  cases c <;> cases d <;> first | exact h.elim | skip
  · cases px.int; cases py.int
    obtain ⟨⟨n, hn, h1⟩, ⟨m, hm, h2⟩, q⟩ := h
    exact ⟨_, op_mulX, _, _, rfl, rfl, mulx_ok h1 h2 (by omega), cl.val R q (.int _)⟩
  · cases px.str; cases py.int
    exact ⟨_, op_strRep, _, _, rfl, rfl, h.1, cl.val R h.2 (.str _)⟩
  · cases py.int
    obtain ⟨⟨h1, h2, h3⟩, q⟩ := h
    obtain ⟨a, us, rfl, ha, da⟩ := px.lst R.w
    exact ⟨_, op_repR, a, _, us, rfl, rfl, ha, by omega, by omega, by rw [da.length, sizeLine_eq]; omega, fun p hp => cl.newL R q (da.rep _) hp⟩
def fDiv : Da → Da → (SV → Prop) → Prop
  | .int i, .int j, Q => 0 < j ∧ Dv i j ∧ Q (.val (.int (i / j)))
  | _, _, _ => False
theorem od_div : OpD X (binaryOp .FloorDiv) fDiv := by
  intro B env S σ H x y c d Q Q' R px py h cl
  cases c <;> cases d <;> first | exact h.elim | skip
  cases px.int; cases py.int
  exact ⟨_, op_fdivV, _, _, rfl, rfl, ⟨h.1, h.2.1⟩, cl.val R h.2.2 (.int _)⟩
def fMod : Da → Da → (SV → Prop) → Prop
  | .int i, .int j, Q => 0 < j ∧ Q (.val (.int (i % j)))
  | _, _, _ => False
theorem od_mod : OpD X (binaryOp .Mod) fMod := by
  intro B env S σ H x y c d Q Q' R px py h cl
  cases c <;> cases d <;> first | exact h.elim | skip
  cases px.int; cases py.int
  exact ⟨_, op_mod, _, _, rfl, rfl, h.1, cl.val R h.2 (.int _)⟩
/-- 10 ** 6: written numbers -/
def fPow : Da → Da → (SV → Prop) → Prop
  | .int i, .int j, Q => 0 ≤ j ∧ j ≤ 1000000 ∧ i.natAbs < 2 ^ 64 ∧ Q (.val (.int (i ^ j.toNat)))
  | _, _, _ => False
theorem od_pow : OpD X (binaryOp .Pow) fPow := by
  intro B env S σ H x y c d Q Q' R px py h cl
  cases c <;> cases d <;> first | exact h.elim | skip
  cases px.int; cases py.int
  exact ⟨_, op_pow, _, _, rfl, rfl, ⟨h.1, h.2.1, h.2.2.1⟩, cl.val R h.2.2.2 (.int _)⟩

/-! ### comparisons -/
def fEq : Da → Da → (SV → Prop) → Prop
  | .int i, .int j, Q => Q (.val (.bool (decide (i = j))))
  | .str i, .str j, Q => Q (.val (.bool (decide (i = j))))
  | .bool i, .bool j, Q => Q (.val (.bool (decide (i = j))))
  | c, d, Q => SeqAt.shaped c = true ∧ SeqAt.shaped d = true ∧ Q (.val (.bool (PyData.eqv c d)))
def fNe : Da → Da → (SV → Prop) → Prop
  | .int i, .int j, Q => Q (.val (.bool (!decide (i = j))))
  | .str i, .str j, Q => Q (.val (.bool (!decide (i = j))))
  | .bool i, .bool j, Q => Q (.val (.bool (!decide (i = j))))
  | c, d, Q => SeqAt.shaped c = true ∧ SeqAt.shaped d = true ∧ Q (.val (.bool (!PyData.eqv c d)))
theorem v_int {i j : Int} : decide (V.int i = V.int j) = decide (i = j) := by simp
theorem v_str {i j : Str} : decide (V.str i = V.str j) = decide (i = j) := by simp
theorem v_bl {i j : Bool} : decide (V.bl i = V.bl j) = decide (i = j) := by simp
theorem od_eq (hu : X.A.units + 64 < cLine) : OpD X (compareOp .Eq) fEq := by
  intro B env S σ H x y c d Q Q' R px py h cl
  have deep : SeqAt.shaped c = true ∧ SeqAt.shaped d = true ∧ Q (.val (.bool (PyData.eqv c d))) → uR X (compareOp .Eq) x y H Q' := fun ⟨h1, h2, h3⟩ =>
    ⟨_, op_eqD hu, c, d, px.dp R.w h1, py.dp R.w h2, h1, h2, cl.val R h3 (.bl _)⟩
  cases c <;> cases d <;> first
    | exact deep h
    | (cases px.int; cases py.int; exact ⟨_, op_eq, rfl, cl.val R (by rw [v_int]; exact h) (.bl _)⟩)
    | (cases px.str; cases py.str; exact ⟨_, op_eq, rfl, cl.val R (by rw [v_str]; exact h) (.bl _)⟩)
    | (cases px.bl; cases py.bl; exact ⟨_, op_eq, rfl, cl.val R (by rw [v_bl]; exact h) (.bl _)⟩)
theorem od_ne (hu : X.A.units + 64 < cLine) : OpD X (compareOp .NotEq) fNe := by
  intro B env S σ H x y c d Q Q' R px py h cl
  have deep : SeqAt.shaped c = true ∧ SeqAt.shaped d = true ∧ Q (.val (.bool (!PyData.eqv c d))) → uR X (compareOp .NotEq) x y H Q' := fun ⟨h1, h2, h3⟩ =>
    ⟨_, op_neD hu, c, d, px.dp R.w h1, py.dp R.w h2, h1, h2, cl.val R h3 (.bl _)⟩
  cases c <;> cases d <;> first
    | exact deep h
    | (cases px.int; cases py.int; exact ⟨_, op_ne, rfl, cl.val R (by rw [v_int]; exact h) (.bl _)⟩)
    | (cases px.str; cases py.str; exact ⟨_, op_ne, rfl, cl.val R (by rw [v_str]; exact h) (.bl _)⟩)
    | (cases px.bl; cases py.bl; exact ⟨_, op_ne, rfl, cl.val R (by rw [v_bl]; exact h) (.bl _)⟩)
def fCmp (p : Int → Int → Bool) : Da → Da → (SV → Prop) → Prop
  | .int i, .int j, Q => Q (.val (.bool (p i j)))
  | _, _, _ => False
theorem od_cmp {g : Value → Value → Sem Value} {p : Int → Int → Bool} (ho : OpR X g (rI0 fun i j => .bl (p i j))) : OpD X g (fCmp p) := by
  intro B env S σ H x y c d Q Q' R px py h cl
  cases c <;> cases d <;> first | exact h.elim | skip
  cases px.int; cases py.int
  exact ⟨_, ho, _, _, rfl, rfl, cl.val R h (.bl _)⟩
abbrev fLt := fCmp fun i j => decide (i < j)
abbrev fLe := fCmp fun i j => decide (i ≤ j)
abbrev fGt := fCmp fun i j => decide (j < i)
abbrev fGe := fCmp fun i j => decide (j ≤ i)
theorem od_lt : OpD X (compareOp .Lt) fLt := od_cmp op_lt
theorem od_le : OpD X (compareOp .LtE) fLe := od_cmp op_le
theorem od_gt : OpD X (compareOp .Gt) fGt := od_cmp op_gt
theorem od_ge : OpD X (compareOp .GtE) fGe := od_cmp op_ge
/-- is None -/
def isNone : Da → Bool
  | .none => true
  | _ => false
def fIs : Da → Da → (SV → Prop) → Prop
  | c, .none, Q => Q (.val (.bool (isNone c)))
  | _, _, _ => False
def fNotIs : Da → Da → (SV → Prop) → Prop
  | c, .none, Q => Q (.val (.bool (!isNone c)))
  | _, _, _ => False
theorem is_non {K : PySem.W.Frag} {B : Bs} {S H : Hp} {c : Da} {v : V} (p : IsP K B S H c v) : decide (v = .non) = isNone c := by
  rcases p with p | ⟨_, _, rfl, _, _, h⟩
  · cases p <;> rfl
  · cases h <;> rfl
theorem od_is : OpD X (compareOp .Is) fIs := by
  intro B env S σ H x y c d Q Q' R px py h cl
  cases d <;> first | exact h.elim | skip
  cases py.non
  exact ⟨_, op_isN, rfl, cl.val R (by rw [is_non px]; exact h) (.bl _)⟩
theorem od_isnot : OpD X (compareOp .IsNot) fNotIs := by
  intro B env S σ H x y c d Q Q' R px py h cl
  cases d <;> first | exact h.elim | skip
  cases py.non
  exact ⟨_, op_notN, rfl, cl.val R (by rw [is_non px]; exact h) (.bl _)⟩
/-- x in xs -/
def flatD : Da → Bool
  | .int _ => true
  | .str _ => true
  | .bool _ => true
  | .none => true
  | _ => false
def fIn (neg : Bool) : Da → Da → (SV → Prop) → Prop
  | .str x, .str y, Q => ∃ c, x = ⟨#[c]⟩ ∧ Q (.val (.bool (xor neg (decide (c ∈ y.cps.toList)))))
  | c, .list ds, Q => ((flatD c = true ∧ ds.all flatD = true) ∨ (SeqAt.shaped c = true ∧ SeqAt.shaped (.list ds) = true)) ∧ Q (.val (.bool (xor neg (ds.any fun z => PyData.eqv z c))))
  | c, .tuple ds, Q => flatD c = true ∧ ds.all flatD = true ∧ Q (.val (.bool (xor neg (ds.any fun z => PyData.eqv z c))))
  | c, .dict ds, Q => match dGetO ds c with
    | some o => Q (.val (.bool (xor neg o.isSome)))
    | none => False
  | _, _, _ => False
theorem op_inDict (hu : X.A.units + 1 < cLine) : OpR X (compareOp .In) (fun y x H Q => ∃ a o, x = .ref a ∧ DGX X.K H a y o ∧ Q (.bl o.isSome) H) := by
  intro pins s σ H x y v u Q I rx ry h
  obtain ⟨a, o, rfl, g, q⟩ := h
  cases ry
  exact d_inX hu I g rx fun s' I' => ⟨.bl o.isSome, H, I', rfl, q⟩
theorem op_notInDict (hu : X.A.units + 1 < cLine) : OpR X (compareOp .NotIn) (fun y x H Q => ∃ a o, x = .ref a ∧ DGX X.K H a y o ∧ Q (.bl (!o.isSome)) H) := by
  intro pins s σ H x y v u Q I rx ry h
  obtain ⟨a, o, rfl, g, q⟩ := h
  cases ry
  exact d_notInX hu I g rx fun s' I' => ⟨.bl (!o.isSome), H, I', rfl, q⟩
theorem some_iff {K : PySem.W.Frag} {S : Hp} {o : Option V} {p : Option Da} (h : RelO2 K S o p) : o.isSome = p.isSome := by
  cases o <;> cases p <;> first | rfl | exact h.elim
theorem flat_dq {K : PySem.W.Frag} {S : Hp} {c : Da} {v : V} (h : Dq K S v c) (f : flatD c = true) : flatV v = true := by
  cases h <;> first | rfl | cases f
theorem eqv_dq {K : PySem.W.Frag} {S : Hp} {c d : Da} {v u : V} (h : Dq K S v c) (f : flatD c = true) (h' : Dq K S u d) (f' : flatD d = true) : eqV v u = PyData.eqv c d := by
  cases h <;> cases h' <;> first | rfl | cases f | cases f'
theorem flat_all {K : PySem.W.Frag} {S : Hp} : ∀ {ds : List Da} {vs : List V}, DqAll K S vs ds → ds.all flatD = true → vs.all flatV = true
  | [], _, h, _ => by cases h; rfl
  | d :: ds, _, h, f => by
    cases h with
    | cons h1 h2 =>
      rw [List.all_cons, Bool.and_eq_true] at f ⊢
      exact ⟨flat_dq h1 f.1, flat_all h2 f.2⟩
theorem inV_dq {K : PySem.W.Frag} {S : Hp} {c : Da} {v : V} (h : Dq K S v c) (f : flatD c = true) : ∀ {ds : List Da} {vs : List V}, DqAll K S vs ds → ds.all flatD = true → inV v vs = ds.any fun z => PyData.eqv z c
  | [], _, h', _ => by cases h'; rfl
  | d :: ds, _, h', f' => by
    cases h' with
    | cons h1 h2 =>
      rw [List.all_cons, Bool.and_eq_true] at f'
      have ih := inV_dq h f h2 f'.2
      unfold inV at ih ⊢
      rw [List.any_cons, List.any_cons, ih, eqv_dq h1 f'.1 h f]
theorem IsP.flat {K : PySem.W.Frag} {B : Bs} {S H : Hp} {c : Da} {v : V} (p : IsP K B S H c v) (f : flatD c = true) : Dq K S v c := by
  rcases p with p | ⟨_, _, rfl, _, _, h⟩
  · exact p
  · cases h <;> cases f
theorem xor_not (a b : Bool) : (if a = true then !b else b) = xor a b := by cases a <;> cases b <;> rfl
theorem od_in (hu : X.A.units + 65 < cLine) : OpD X (compareOp .In) (fIn false) := by
  intro B env S σ H x y c d Q Q' R px py h cl
  have lst : ∀ {ds : List Da}, IsP X.K B S H (.list ds) y → (((flatD c = true ∧ ds.all flatD = true) ∨ (SeqAt.shaped c = true ∧ SeqAt.shaped (.list ds) = true)) ∧ Q (.val (.bool (xor false (ds.any fun z => PyData.eqv z c))))) → uR X (compareOp .In) x y H Q' := fun py h => by
    obtain ⟨h1 | h1, h3⟩ := h
    · obtain ⟨b, us, rfl, hb, db⟩ := py.lst R.w
      have dc := px.flat h1.1
      refine ⟨_, op_in_seq, b, us, rfl, .inl (.inl hb), flat_dq dc h1.1, flat_all db h1.2, ?_⟩
      rw [xor_not, inV_dq dc h1.1 db h1.2]
      exact cl.val R h3 (.bl _)
    · exact ⟨_, op_inD hu, c, _, px.dp R.w h1.1, py.dp R.w h1.2, h1.1, h1.2, cl.val R (by rw [Bool.false_xor] at h3; exact h3) (.bl _)⟩
  have tup : ∀ {ds : List Da}, IsP X.K B S H (.tuple ds) y → (flatD c = true ∧ ds.all flatD = true ∧ Q (.val (.bool (xor false (ds.any fun z => PyData.eqv z c))))) → uR X (compareOp .In) x y H Q' := fun py h => by
    obtain ⟨b, us, rfl, hb, db⟩ := py.tup
    have dc := px.flat h.1
    refine ⟨_, op_in_seq, b, us, rfl, .inr (SqT.up R.w.sub hb), flat_dq dc h.1, flat_all db h.2.1, ?_⟩
    rw [xor_not, inV_dq dc h.1 db h.2.1]
    exact cl.val R h.2.2 (.bl _)
  cases d with
  | list ds => cases c <;> exact lst py h
  | tuple ds => cases c <;> exact tup py h
  | str z =>
    cases c <;> first | exact h.elim | skip
    obtain ⟨k, rfl, q⟩ := h
    cases px.str; cases py.str
    exact ⟨_, op_in_sign, k, z, rfl, rfl, cl.val R (by rw [Bool.false_xor] at q; exact q) (.bl _)⟩
  | dict ds =>
    have h : match dGetO ds c with
      | some o => Q (.val (.bool (xor false o.isSome)))
      | none => False := by cases c <;> exact h
    cases e : dGetO ds c with
    | none => rw [e] at h; exact h.elim
    | some o =>
      rw [e] at h
      obtain ⟨a, ov, rfl, g, ro, _⟩ := dget_of R.w py px e
      refine ⟨_, op_inDict (by omega), a, ov, rfl, g, ?_⟩
      rw [some_iff ro]
      exact cl.val R (by rw [← Bool.false_xor o.isSome]; exact h) (.bl _)
  | _ => cases c <;> exact h.elim
theorem od_notin (hu : X.A.units + 65 < cLine) : OpD X (compareOp .NotIn) (fIn true) := by
  intro B env S σ H x y c d Q Q' R px py h cl
  have lst : ∀ {ds : List Da}, IsP X.K B S H (.list ds) y → (((flatD c = true ∧ ds.all flatD = true) ∨ (SeqAt.shaped c = true ∧ SeqAt.shaped (.list ds) = true)) ∧ Q (.val (.bool (xor true (ds.any fun z => PyData.eqv z c))))) → uR X (compareOp .NotIn) x y H Q' := fun py h => by
    obtain ⟨h1 | h1, h3⟩ := h
    · obtain ⟨b, us, rfl, hb, db⟩ := py.lst R.w
      have dc := px.flat h1.1
      refine ⟨_, op_notIn_seq, b, us, rfl, .inl (.inl hb), flat_dq dc h1.1, flat_all db h1.2, ?_⟩
      rw [xor_not, inV_dq dc h1.1 db h1.2]
      exact cl.val R h3 (.bl _)
    · exact ⟨_, op_notInD hu, c, _, px.dp R.w h1.1, py.dp R.w h1.2, h1.1, h1.2, cl.val R (by rw [Bool.true_xor] at h3; exact h3) (.bl _)⟩
  have tup : ∀ {ds : List Da}, IsP X.K B S H (.tuple ds) y → (flatD c = true ∧ ds.all flatD = true ∧ Q (.val (.bool (xor true (ds.any fun z => PyData.eqv z c))))) → uR X (compareOp .NotIn) x y H Q' := fun py h => by
    obtain ⟨b, us, rfl, hb, db⟩ := py.tup
    have dc := px.flat h.1
    refine ⟨_, op_notIn_seq, b, us, rfl, .inr (SqT.up R.w.sub hb), flat_dq dc h.1, flat_all db h.2.1, ?_⟩
    rw [xor_not, inV_dq dc h.1 db h.2.1]
    exact cl.val R h.2.2 (.bl _)
  cases d with
  | list ds => cases c <;> exact lst py h
  | tuple ds => cases c <;> exact tup py h
  | str z =>
    cases c <;> first | exact h.elim | skip
    obtain ⟨k, rfl, q⟩ := h
    cases px.str; cases py.str
    exact ⟨_, op_notIn_sign, k, z, rfl, rfl, cl.val R (by rw [Bool.true_xor] at q; exact q) (.bl _)⟩
  | dict ds =>
    have h : match dGetO ds c with
      | some o => Q (.val (.bool (xor true o.isSome)))
      | none => False := by cases c <;> exact h
    cases e : dGetO ds c with
    | none => rw [e] at h; exact h.elim
    | some o =>
      rw [e] at h
      obtain ⟨a, ov, rfl, g, ro, _⟩ := dget_of R.w py px e
      refine ⟨_, op_notInDict (by omega), a, ov, rfl, g, ?_⟩
      rw [some_iff ro]
      exact cl.val R (by rw [← Bool.true_xor o.isSome]; exact h) (.bl _)
  | _ => cases c <;> exact h.elim

/-! ### unary minus, not, and, or, conditional expressions, chains -/
def fNeg : Da → (SV → Prop) → Prop
  | .int i, Q => Q (.val (.int (-i)))
  | _, _ => False
def mNeg (ma : MP) : ME := fun env Q => ma env fun x e1 => fNeg x fun r => Q r e1
theorem de_neg {a : Expr} {pos : Pos} {ma : MP} (ha : DP X a ma) : DE X (.UnaryOp .USub a pos) (mNeg ma) := (pe_un un_neg ha).wk fun σ H Q ⟨B, env, S, Q0, R, hm, k⟩ => by
  refine ⟨B, env, S, _, R, hm, fun c e1 hm1 x S1 H1 st1 R1 p1 => ?_⟩
  cases c <;> first | exact hm1.elim | skip
  cases p1.int
  exact ⟨_, rfl, k _ e1 hm1 _ S1 H1 st1 R1 (.int _)⟩
def mTest (m : MP) : MT := fun env Q => m env fun d e => match d with
  | .bool b => Q b e
  | _ => False
/-- a comparison as a test -/
theorem dt_cmp {a b : Expr} {op : CmpOp} {pos : Pos} {f : Da → Da → (SV → Prop) → Prop} {ma mb : MP} (ho : OpD X (compareOp op) f) (ha : DP X a ma) (hb : DP X b mb) (hm : behindInMarks op b = false := by rfl) : DT X (.Compare a [op] [b] pos) (mTest (toD (mBin f ma mb))) :=
  (pt_cmpR OpR.un ha hb hm).wk fun σ H Q ⟨B, env, S, Q0, R, h, k⟩ => by
    refine op_run (X := X) ho σ H _ ⟨B, env, S, _, R, h, fun r e1 q v S' H' st R' ir => ?_⟩
    cases r with
    | val d =>
      cases d <;> first | exact q.elim | skip
      cases ir
      exact ⟨_, rfl, k _ e1 q S' H' st R'⟩
    | own w d =>
      cases d <;> first | exact q.elim | skip
      obtain ⟨_, p, _, ⟨_, _, _, _, z⟩, _⟩ := ir
      cases z
    | no => exact ir.elim
    | deal => exact q.elim
    | bor d => exact q.elim
    | res b d ids => exact q.elim
/-- a call that hands back a truth, as a test -/
theorem dt_val {e : Expr} {m : MP} (h : DS X e m) (he : ∀ whole, isTrue e X.env whole = (do let v ← whole; standAt e.pos; holding [v] (truthy v)) := by intro _; rfl) : DT X e (mTest m) :=
  (pt_val h he).wk fun σ H Q ⟨B, env, S, Q0, R, h, k⟩ => ⟨B, env, S, _, R, h, fun d e1 q v S' H' st R' ir => by
    cases d <;> first | exact q.elim | skip
    cases ir
    exact ⟨_, rfl, k _ e1 q S' H' st R'⟩⟩
def mNot (m : MT) : MT := fun env Q => m env fun b e => Q (!b) e
theorem dt_not {a : Expr} {pos : Pos} {m : MT} (h : DT X a m) : DT X (.UnaryOp .Not a pos) (mNot m) := (pt_not h).wk fun σ H Q ⟨B, env, S, Q0, R, h, k⟩ =>
  ⟨B, env, S, _, R, h, fun b e1 q S' H' st R' => k _ e1 q S' H' st R'⟩
def mAnd (m n : MT) : MT := fun env Q => m env fun b e => if b = true then n e Q else Q false e
def mOr (m n : MT) : MT := fun env Q => m env fun b e => if b = true then Q true e else n e Q
abbrev DW (X : Cx) (e : Expr) (m : MT) : Prop := PW X e (tT X.K m)
theorem dw_and1 {a : Expr} {pos : Pos} {m : MT} (h : DT X a m) : DW X (.BoolOp .And [a] pos) m := pw_and1 h
theorem dw_or1 {a : Expr} {pos : Pos} {m : MT} (h : DT X a m) : DW X (.BoolOp .Or [a] pos) m := pw_or1 h
theorem PW.wk {e : Expr} {t t' : TT} (p : PW X e t) (h : ∀ σ H Q, t' σ H Q → t σ H Q) : PW X e t' := ⟨fun whole pins s σ H Q I h' => p.run whole pins s σ H Q I (h σ H Q h')⟩
theorem dw_and {a b : Expr} {rest : List Expr} {pos : Pos} {m n : MT} (ha : DT X a m) (hb : DW X (.BoolOp .And (b :: rest) pos) n) : DW X (.BoolOp .And (a :: b :: rest) pos) (mAnd m n) :=
  PW.wk (pw_and ha hb) fun σ H Q ⟨B, env, S, Q0, R, h, k⟩ => ⟨B, env, S, _, R, h, fun b e1 q S' H' st R' => by
    cases b with
    | true =>
      show (if true = true then _ else _)
      rw [if_pos rfl] at q ⊢
      exact ⟨B, e1, S', _, R', q, fun b e2 q2 S2 H2 st2 R2 => k _ e2 q2 S2 H2 (st.trans st2) R2⟩
    | false =>
      show (if false = true then _ else _)
      rw [if_neg Bool.false_ne_true] at q ⊢
      exact k _ e1 q S' H' st R'⟩
theorem dw_or {a b : Expr} {rest : List Expr} {pos : Pos} {m n : MT} (ha : DT X a m) (hb : DW X (.BoolOp .Or (b :: rest) pos) n) : DW X (.BoolOp .Or (a :: b :: rest) pos) (mOr m n) :=
  PW.wk (pw_or ha hb) fun σ H Q ⟨B, env, S, Q0, R, h, k⟩ => ⟨B, env, S, _, R, h, fun b e1 q S' H' st R' => by
    cases b with
    | false =>
      show (if false = true then _ else _)
      rw [if_neg Bool.false_ne_true] at q ⊢
      exact ⟨B, e1, S', _, R', q, fun b e2 q2 S2 H2 st2 R2 => k _ e2 q2 S2 H2 (st.trans st2) R2⟩
    | true =>
      show (if true = true then _ else _)
      rw [if_pos rfl] at q ⊢
      exact k _ e1 q S' H' st R'⟩
/-- and, or as values of truths -/
def mAndV (m n : MP) : MP := fun env Q => m env fun d e => match d with
  | .bool b => if b = true then n e (fun d2 e2 => match d2 with | .bool c => Q (.bool c) e2 | _ => False) else Q (.bool false) e
  | _ => False
def mOrV (m n : MP) : MP := fun env Q => m env fun d e => match d with
  | .bool b => if b = true then Q (.bool true) e else n e (fun d2 e2 => match d2 with | .bool c => Q (.bool c) e2 | _ => False)
  | _ => False
theorem ds_and {a b : Expr} {rest : List Expr} {pos : Pos} {m n : MP} (ha : DS X a m) (hb : DS X (.BoolOp .And (b :: rest) pos) n) : DS X (.BoolOp .And (a :: b :: rest) pos) (mAndV m n) :=
  (pe_and ha hb).wk fun σ H Q ⟨B, env, S, Q0, R, h, k⟩ => ⟨B, env, S, _, R, h, fun d e1 q v S' H' st R' ir => by
    cases d <;> first | exact q.elim | skip
    rename_i b
    cases ir
    refine ⟨b, rfl, ?_⟩
    cases b with
    | true =>
      rw [if_pos rfl]
      exact ⟨B, e1, S', _, R', q, fun d e2 q2 v S2 H2 st2 R2 ir2 => by
        cases d <;> first | exact q2.elim | skip
        exact k _ e2 q2 _ S2 H2 (st.trans st2) R2 ir2⟩
    | false =>
      rw [if_neg Bool.false_ne_true]
      exact k _ e1 q _ S' H' st R' (.bl _)⟩
theorem ds_or {a b : Expr} {rest : List Expr} {pos : Pos} {m n : MP} (ha : DS X a m) (hb : DS X (.BoolOp .Or (b :: rest) pos) n) : DS X (.BoolOp .Or (a :: b :: rest) pos) (mOrV m n) :=
  (pe_or ha hb).wk fun σ H Q ⟨B, env, S, Q0, R, h, k⟩ => ⟨B, env, S, _, R, h, fun d e1 q v S' H' st R' ir => by
    cases d <;> first | exact q.elim | skip
    rename_i b
    cases ir
    refine ⟨b, rfl, ?_⟩
    cases b with
    | false =>
      rw [if_neg Bool.false_ne_true]
      exact ⟨B, e1, S', _, R', q, fun d e2 q2 v S2 H2 st2 R2 ir2 => by
        cases d <;> first | exact q2.elim | skip
        exact k _ e2 q2 _ S2 H2 (st.trans st2) R2 ir2⟩
    | true =>
      rw [if_pos rfl]
      exact k _ e1 q _ S' H' st R' (.bl _)⟩
theorem ds_one {a : Expr} {op : BoolOp} {pos : Pos} {m : MP} (ha : DS X a m) : DS X (.BoolOp op [a] pos) m := pe_one ha
def mNotV (m : MP) : MP := fun env Q => m env fun d e => match d with
  | .bool b => Q (.bool (!b)) e
  | _ => False
theorem ds_not {a : Expr} {pos : Pos} {m : MP} (h : DS X a m) : DS X (.UnaryOp .Not a pos) (mNotV m) := (pe_not h).wk fun σ H Q ⟨B, env, S, Q0, R, h, k⟩ =>
  ⟨B, env, S, _, R, h, fun d e1 q v S' H' st R' ir => by
    cases d <;> first | exact q.elim | skip
    cases ir
    exact ⟨_, rfl, k _ e1 q _ S' H' st R' (.bl _)⟩⟩
def mIfE (c : MT) (m n : ME) : ME := fun env Q => c env fun b e => if b = true then m e Q else n e Q
theorem de_if {c a b : Expr} {pos : Pos} {mc : MT} {m n : ME} (hc : DT X c mc) (ha : DE X a m) (hb : DE X b n) : DE X (.IfExp c a b pos) (mIfE mc m n) := (pe_ifExp hc ha hb).wk fun σ H Q ⟨B, env, S, Q0, R, h, k⟩ =>
  ⟨B, env, S, _, R, h, fun b e1 q S' H' st R' => by
    cases b with
    | true =>
      rw [if_pos rfl] at q ⊢
      exact ⟨B, e1, S', _, R', q, fun r e2 q2 v S2 H2 st2 R2 ir => k r e2 q2 v S2 H2 (st.trans st2) R2 (ir.back R.w st)⟩
    | false =>
      rw [if_neg Bool.false_ne_true] at q ⊢
      exact ⟨B, e1, S', _, R', q, fun r e2 q2 v S2 H2 st2 R2 ir => k r e2 q2 v S2 H2 (st.trans st2) R2 (ir.back R.w st)⟩⟩
/-- a < b <= c -/
def mChain (f g : Da → Da → (SV → Prop) → Prop) (ma mb mc : MP) : MP := fun env Q => ma env fun x e1 => mb e1 fun y e2 => f x y fun r => match r with
  | .val (.bool b) => if b = true then mc e2 fun z e3 => g y z fun r2 => match r2 with
      | .val (.bool c) => Q (.bool c) e3
      | _ => False
    else Q (.bool false) e2
  | _ => False
theorem ds_chain {a b c : Expr} {op op' : CmpOp} {pos : Pos} {f g : Da → Da → (SV → Prop) → Prop} {ma mb mc : MP} (ho : OpD X (compareOp op) f) (ho' : OpD X (compareOp op') g) (ha : DP X a ma) (hb : DP X b mb) (hc : DP X c mc)
    (hm : lastMarks [op, op'] [b, c] = false := by with_unfolding_all rfl) : DS X (.Compare a [op, op'] [b, c] pos) (mChain f g ma mb mc) := (pe_chain OpR.un OpR.un ha hb hc hm).wk fun σ H Q ⟨B, env, S, Q0, R, h, k⟩ => by
  refine ⟨B, env, S, _, R, h, fun c e1 hm1 x S1 H1 st1 R1 p1 => ?_⟩
  refine ⟨B, e1, S1, _, R1, hm1, fun d e2 hm2 y S2 H2 st2 R2 p2 => ?_⟩
  refine ho B e2 S2 σ H2 x y c d _ _ R2 (IsP.up st2.s p1) p2 hm2 fun r v S' H' q st R' ir => ?_
  cases r with
  | val t =>
    cases t <;> first | exact q.elim | skip
    rename_i bb
    cases ir
    refine ⟨bb, rfl, ?_⟩
    cases bb with
    | true =>
      rw [if_pos rfl]
      refine ⟨B, e2, S', _, R', q, fun z e3 hm3 w S3 H3 st3 R3 p3 => ?_⟩
      refine ho' B e3 S3 σ H3 y w d z _ _ R3 (IsP.up st3.s (IsP.up st.s p2)) p3 hm3 fun r2 v2 S4 H4 q4 st4 R4 ir4 => ?_
      cases r2 with
      | val t2 =>
        cases t2 <;> first | exact q4.elim | skip
        cases ir4
        exact k _ e3 q4 _ S4 H4 ((((st1.trans st2).trans st).trans st3).trans st4) R4 (.bl _)
      | _ => exact q4.elim
    | false =>
      rw [if_neg Bool.false_ne_true]
      exact k _ e2 q _ S' H' ((st1.trans st2).trans st) R' (.bl _)
  | _ => exact q.elim
end
end Pq

set_option Elab.async false
set_option linter.all false
set_option maxRecDepth 100000
set_option maxHeartbeats 4000000
namespace Pq
open PySem PySem.Spec PyProof.Rows L2
section
variable {X : Cx}
/-! ### argument lists -/
def frz1 : SV → SV
  | .own _ d => .val d
  | r => r
def maNil : MA := fun env Q => Q [] env
def maCons (m : ME) (ma : MA) : MA := fun env Q => m env fun r e1 => ma e1 fun rs e2 => Q (frz1 r :: rs) e2
theorem da_nil : DA X [] maNil := pa_nil.wk fun σ H Q ⟨B, env, S, Q0, R, h, k⟩ => k _ _ h _ S H .refl R rfl
theorem da_cons {e : Expr} {es : List Expr} {m : ME} {ma : MA} (h : DE X e m) (hr : DA X es ma) (hs : starEach (e :: es) X.env = (false, eval e X.env) :: starEach es X.env := by rfl) : DA X (e :: es) (maCons m ma) :=
  (pa_cons h hr hs).wk fun σ H Q ⟨B, env, S, Q0, R, h, k⟩ => ⟨B, env, S, _, R, h, fun r e1 q v S1 H1 st1 R1 ir => by
    have fin : ∀ {r' : SV} {S1' : Hp}, Stq B σ env S H e1 S1' H1 → Rel X.K B e1 S1' σ H1 → frz1 r = r' → (∀ {S2 : Hp} {rs : List SV} {vs : List V}, (∀ a o, S1' a = some o → S2 a = some o) → AllR X.K B.deal S2 rs vs → AllR X.K B.deal S2 (r' :: rs) (v :: vs)) → tAr X.K ma σ H1 fun xs H2 => Q (v :: xs) H2 := fun {r' S1'} st R' er f =>
      ⟨B, e1, S1', _, R', q, fun rs e2 q2 vs S2 H2 st2 R2 al => k _ e2 q2 _ S2 H2 (st.trans st2) R2 (by rw [er]; exact f st2.s.1 al)⟩
    cases r with
    | val d => exact fin st1 R1 rfl fun e al => ⟨v, _, rfl, Dq.up e _ _ ir, al⟩
    | own b d =>
      obtain ⟨S2, st2, R2, dp⟩ := IsR.frz st1 R1 ir
      exact fin st2 R2 rfl fun e al => ⟨v, _, rfl, Dq.up e _ _ dp, al⟩
    | deal =>
      obtain ⟨p, l, a, rfl⟩ := ir
      exact fin st1 R1 rfl fun e al => ⟨p, l, _, rfl, a, al⟩
    | no => exact ir.elim
    | bor d => exact ir.elim
    | res b d ids => exact ir.elim⟩
def mlNil : ML := fun env Q => Q [] env
def mlCons (m : MP) (ma : ML) : ML := fun env Q => m env fun d e1 => ma e1 fun ds e2 => Q (d :: ds) e2
theorem dps_nil : DPs X [] mlNil := pa_nil.wk fun σ H Q ⟨B, env, S, Q0, R, h, k⟩ => k _ _ h _ S H .refl R rfl
theorem dps_cons {e : Expr} {es : List Expr} {m : MP} {ma : ML} (h : DP X e m) (hr : DPs X es ma) (hs : starEach (e :: es) X.env = (false, eval e X.env) :: starEach es X.env := by rfl) : DPs X (e :: es) (mlCons m ma) :=
  (pa_cons h hr hs).wk fun σ H Q ⟨B, env, S, Q0, R, h, k⟩ => ⟨B, env, S, _, R, h, fun d e1 q v S1 H1 st1 R1 ir =>
    ⟨B, e1, S1, _, R1, q, fun ds e2 q2 vs S2 H2 st2 R2 al => k _ e2 q2 _ S2 H2 (st1.trans st2) R2 ⟨v, vs, rfl, ir.up st2.s, al⟩⟩⟩
/-- data alone -/
def dats : List SV → Option (List Da)
  | [] => some []
  | .val d :: rs => (dats rs).map (d :: ·)
  | _ => none
theorem AllR.dats {K : PySem.W.Frag} {dl : Option (Addr × Addr)} {S : Hp} : ∀ {rs : List SV} {vs : List V} {ds : List Da}, AllR K dl S rs vs → Pq.dats rs = some ds → DqAll K S vs ds
  | [], _, _, h, e => by
    cases (show _ = [] from h)
    cases e
    exact .nil
  | .val d :: rs, _, _, h, e => by
    obtain ⟨v, r, rfl, b, c⟩ := h
    unfold Pq.dats at e
    cases z : Pq.dats rs with
    | none => rw [z] at e; cases e
    | some es => rw [z] at e; cases e; exact .cons b (AllR.dats c z)
  | .deal :: rs, _, _, h, e => by cases e
  | .no :: _, _, _, h, _ => h.elim
  | .own _ _ :: _, _, _, h, _ => h.elim
  | .bor _ :: _, _, _, h, _ => h.elim
  | .res _ _ _ :: _, _, _, h, _ => h.elim
def tTupF (t : TA) : TE := fun σ H Q => t σ H fun xs H1 => xs.length ≤ sizeLine ∧ ∀ p o, H1 p = none → o.dict = none → Q (.ref p) (upd H1 p (.frz o (.tup xs)))
theorem pe_tupF {t : TA} {es : List Expr} {pos : Pos} {x1} (h : PA X es t) : PE X (.Tuple es x1 pos) (tTupF t) := by
  refine ⟨fun pins s σ H Q I hq => ?_⟩
  refine wpAny_Tuple_spliced (thn (h.run pos pins s σ H _ I hq) fun us s1 ⟨xs, H1, I1, r, z, q⟩ => ⟨by rw [← r.length]; exact z, ?_⟩)
  have hf : H1 s1.heap.objs.size = none := I1.hok.fresh (Nat.le_refl _)
  refine ⟨.ref s1.heap.objs.size, upd H1 s1.heap.objs.size (.frz _ (.tup xs)), I1.laid (t' := s1.toks) (fun b u e => Heap.get?_push_of_some _ e) (Nat.le_refl _) ⟨Heap.get?_push_size _ rfl, ?_⟩, rfl, q _ _ hf rfl⟩
  exact ⟨z, us, r, ⟨_, Heap.get?_push_size _ rfl, rfl, _, rfl⟩⟩
theorem call_tuple_ofF : CallR X (.type "tuple") (fun xs H Q => ∃ p ys, xs = [.ref p] ∧ SqL X.K H p ys ∧ ∀ l o, H l = none → o.dict = none → Q (.ref l) (upd H l (.frz o (.tup ys)))) := by
  intro pins s σ H xs us Q I r h
  obtain ⟨p, ys, rfl, hq, q⟩ := h
  obtain ⟨u, rfl, rx⟩ := vals1 r
  cases rx
  obtain ⟨its, r', pl, hz⟩ := I.list hq
  have hlen := r'.length
  refine call_tuple_list pl.isList (fun h' kp => ?_) (by simp only [List.size_toArray] <;> omega)
  have I1 : Inv X pins σ H { s with heap := h' } := I.kept (t' := s.toks) kp
  have I2 : Inv X pins σ (upd H h'.objs.size (.frz { cls := .type "tuple", data := .seq its.toArray } (.tup ys))) { s with heap := h'.push { cls := .type "tuple", data := .seq its.toArray } } :=
    I1.laid (t' := s.toks) (fun b o e => Heap.get?_push_of_some _ e) (Nat.le_refl _) ⟨Heap.get?_push_size _ rfl, (show ObjOk X.prog X.w _ _ _ (.tup ys) from ⟨hz, its, r', IsTup.new _ _⟩)⟩
  exact ⟨.ref h'.objs.size, _, I2, rfl, q _ _ (I1.hok.fresh (Nat.le_refl _)) rfl⟩
/-- t[lo:hi]: the whole of it is t itself -/
def rSlF (K : PySem.W.Frag) : V → Option Int → Option Int → Hp → VK → Prop := fun x lo hi H Q => ∃ a xs, x = .ref a ∧ SqT K H a xs ∧
  (HT.sIx xs.length 0 lo = 0 ∧ HT.sIx xs.length xs.length hi = xs.length → Q (.ref a) H) ∧ (¬ (HT.sIx xs.length 0 lo = 0 ∧ HT.sIx xs.length xs.length hi = xs.length) → ∀ p o, H p = none → o.dict = none → Q (.ref p) (upd H p (.frz o (.tup (cutV xs lo hi)))))
theorem sl_tupF : SlR X (rSlF X.K) := by
  intro pins s σ H x v vl vu lo hi sl Q I rx hs pl pu h
  obtain ⟨a, xs, rfl, hx, q1, q2⟩ := h
  by_cases hw : HT.sIx xs.length 0 lo = 0 ∧ HT.sIx xs.length xs.length hi = xs.length
  · exact sl_tupA pins s σ H _ v vl vu lo hi sl Q I rx hs pl pu ⟨a, xs, rfl, hx, q1, fun z => absurd hw z⟩
  · cases rx
    obtain ⟨its, r, ht, hz⟩ := I.tuple hx
    have hlen : its.toArray.size = xs.length := by rw [List.size_toArray]; exact r.length.symm
    refine ⟨"tuple", _, PyProof.Rows.slot_tuple_getitem.lookup, ht.typeIs, ?_⟩
    refine HT.getItem_tuple_cut ht hs pl pu (by rw [hlen]; exact hw) ?_ (by rw [hlen]; exact hz)
    rw [hlen]
    refine ⟨.ref s.heap.objs.size, _, I.laid (t' := s.toks) (o := .frz _ (.tup (cutV xs lo hi))) (fun b ob q => Heap.get?_push_of_some _ q) (Nat.le_refl _) ⟨Heap.get?_push_size _ rfl, ?_⟩, rfl, q2 hw _ _ (I.hok.fresh (Nat.le_refl _)) rfl⟩
    exact ⟨Nat.le_trans (cutV_length xs lo hi) hz, _, (r.drop (HT.sIx xs.length 0 lo)).take (HT.sIx xs.length xs.length hi - HT.sIx xs.length 0 lo), IsTup.new _ _⟩
def mTup (ma : MA) : MP := fun env Q => ma env fun rs e => match dats rs with
  | some ds => ds.length ≤ 1000000 ∧ Q (.tuple ds) e
  | none => False
theorem ds_tup {es : List Expr} {x1} {pos : Pos} {ma : MA} (h : DA X es ma) : DS X (.Tuple es x1 pos) (mTup ma) := (pe_tupF h).wk fun σ H Q ⟨B, env, S, Q0, R, h, k⟩ =>
  ⟨B, env, S, _, R, h, fun rs e1 q vs S1 H1 st1 R1 al => by
    cases z : dats rs with
    | none => rw [z] at q; exact q.elim
    | some ds =>
      rw [z] at q
      have al := al.dats z
      exact ⟨by rw [al.length]; exact le_sz q.1, fun p o hp ho => k _ e1 q.2 _ _ _ (st1.trans (stq_allocS R1.w hp)) (R1.allocS hp) (.tup (.inl ⟨o, upd_same, ho⟩) (DqAll.up (upd_sub (R1.w.snone hp)) _ _ al))⟩⟩
def mLst (ma : MA) : ME := fun env Q => ma env fun rs e => match dats rs with
  | some ds => ds.length ≤ 1000000 ∧ Q (.own true (.list ds)) e
  | none => False
theorem de_lst {es : List Expr} {pos : Pos} {ma : MA} (h : DA X es ma) : DE X (.List es pos) (mLst ma) := (pe_lst h).wk fun σ H Q ⟨B, env, S, Q0, R, h, k⟩ =>
  ⟨B, env, S, _, R, h, fun rs e1 q vs S1 H1 st1 R1 al => by
    cases z : dats rs with
    | none => rw [z] at q; exact q.elim
    | some ds =>
      rw [z] at q
      have al := al.dats z
      have c : Cl X.K B e1 S1 σ H1 (fun r => Q0 r e1) Q := fun r v S' H' q st R' ir => k r e1 q v S' H' (st1.trans st) R' (ir.back R.w st1)
      exact ⟨by rw [al.length]; exact le_sz q.1, fun p hp => c.newL R1 q.2 al hp⟩⟩

/-! ### calls of built-ins -/
def CallD (X : Cx) (f : Value) (g : List Da → (SV → Prop) → Prop) : Prop :=
  ∀ (B : Bs) (env : En) (S : Hp) (σ : L2.St) (H : Hp) (vs : List V) (ds : List Da) (Q : SV → Prop) (Q' : VK), Rel X.K B env S σ H → AllP X.K B S H ds vs → g ds Q → Cl X.K B env S σ H Q Q' → uC X f vs H Q'
def mCB (g : List Da → (SV → Prop) → Prop) (ma : ML) : ME := fun env Q => ma env fun ds e => g ds fun r => Q r e
theorem cb_run {f : Value} {g : List Da → (SV → Prop) → Prop} (hc : CallD X f g) {ma : ML} : ∀ σ H Q, tE X.K (mCB g ma) σ H Q → tCB (uC X f) (tPs X.K ma) σ H Q := fun σ H Q ⟨B, env, S, Q0, R, h, k⟩ =>
  ⟨B, env, S, _, R, h, fun ds e1 q vs S1 H1 st1 R1 al => hc B e1 S1 σ H1 vs ds _ Q R1 al q fun r v S' H' q st R' ir => k r e1 q v S' H' (st1.trans st) R' (ir.back R.w st1)⟩
theorem de_cb {id : String} {x : Str} {e : Expr} {es : List Expr} {p pos : Pos} {g : List Da → (SV → Prop) → Prop} {ma : ML} (hc : CallD X (.builtin id) g) (hg : Gl X x) (hm : X.mg x = none) (hv : bootBuiltins x = some (.builtin id)) (ha : DPs X (e :: es) ma) (hn : x ≠ "__name__" := by decide) (hdb : (x == ("__debug__" : Str)) = false := by decide)
    (he : starEach (e :: es) X.env = (false, eval e X.env) :: starEach es X.env := by rfl) (hpl : (backTo pos (starEach es X.env)).any (·.1) = false := by rfl) : DE X (.Call (.Name x p) (e :: es) [] pos) (mCB g ma) :=
  (pe_callB CallR.un hg hm hv ha hn hdb he hpl).wk (cb_run hc)
theorem de_ct {T : String} {x : Str} {e : Expr} {es : List Expr} {p pos : Pos} {g : List Da → (SV → Prop) → Prop} {ma : ML} (hc : CallD X (.type T) g) (hg : Gl X x) (hm : X.mg x = none) (hv : bootBuiltins x = some (.type T)) (ha : DPs X (e :: es) ma) (hn : x ≠ "__name__" := by decide) (hdb : (x == ("__debug__" : Str)) = false := by decide)
    (he : starEach (e :: es) X.env = (false, eval e X.env) :: starEach es X.env := by rfl) (hpl : (backTo pos (starEach es X.env)).any (·.1) = false := by rfl) : DE X (.Call (.Name x p) (e :: es) [] pos) (mCB g ma) :=
  (pe_callTy CallR.un hg hm hv ha hn hdb he hpl).wk (cb_run hc)
theorem max_if (i j : Int) : (if j > i then j else i) = max i j := by omega
theorem min_if (i j : Int) : (if j < i then j else i) = min i j := by omega
/-- max(a, b), min(a, b) -/
def fMax2 : List Da → (SV → Prop) → Prop
  | [.int i, .int j], Q => Q (.val (.int (max i j)))
  | _, _ => False
def fMin2 : List Da → (SV → Prop) → Prop
  | [.int i, .int j], Q => Q (.val (.int (min i j)))
  | _, _ => False
theorem cd_max2 (hc : X.calm = true) : CallD X (.builtin "max") fMax2 := by
  intro B env S σ H vs ds Q Q' R al h cl
  unfold fMax2 at h
  split at h
  · obtain ⟨v, r, rfl, p1, r2⟩ := al
    obtain ⟨v2, r', rfl, p2, r3⟩ := r2
    cases (show r' = [] from r3)
    cases p1.int; cases p2.int
    refine ⟨_, call_max2 hc, _, _, rfl, cl.val R ?_ (.int _)⟩
    rw [max_if]; exact h
  · exact h.elim
theorem cd_min2 (hc : X.calm = true) : CallD X (.builtin "min") fMin2 := by
  intro B env S σ H vs ds Q Q' R al h cl
  unfold fMin2 at h
  split at h
  · obtain ⟨v, r, rfl, p1, r2⟩ := al
    obtain ⟨v2, r', rfl, p2, r3⟩ := r2
    cases (show r' = [] from r3)
    cases p1.int; cases p2.int
    refine ⟨_, call_min2 hc, _, _, rfl, cl.val R ?_ (.int _)⟩
    rw [min_if]; exact h
  · exact h.elim
def fAbs : List Da → (SV → Prop) → Prop
  | [.int i], Q => Q (.val (.int (if i < 0 then -i else i)))
  | _, _ => False
theorem cd_abs : CallD X (.builtin "abs") fAbs := by
  intro B env S σ H vs ds Q Q' R al h cl
  unfold fAbs at h
  split at h
  · obtain ⟨v, r, rfl, p1, r2⟩ := al
    cases (show r = [] from r2)
    cases p1.int
    exact ⟨_, call_abs, _, rfl, cl.val R h (.int _)⟩
  · exact h.elim
def fOrd : List Da → (SV → Prop) → Prop
  | [.str x], Q => x.length = 1 ∧ Q (.val (.int (x.cps.getD 0 0 : Nat)))
  | _, _ => False
theorem cd_ord : CallD X (.builtin "ord") fOrd := by
  intro B env S σ H vs ds Q Q' R al h cl
  unfold fOrd at h
  split at h
  · obtain ⟨v, r, rfl, p1, r2⟩ := al
    cases (show r = [] from r2)
    cases p1.str
    exact ⟨_, call_ord, _, rfl, h.1, cl.val R h.2 (.int _)⟩
  · exact h.elim
def fInt : List Da → (SV → Prop) → Prop
  | [.int i], Q => Q (.val (.int i))
  | [.bool b], Q => Q (.val (.int (if b then 1 else 0)))
  | _, _ => False
theorem cd_int : CallD X (.type "int") fInt := by
  intro B env S σ H vs ds Q Q' R al h cl
  unfold fInt at h
  split at h
  · obtain ⟨v, r, rfl, p1, r2⟩ := al
    cases (show r = [] from r2)
    cases p1.int
    exact ⟨_, call_int1, .inl ⟨_, rfl, cl.val R h (.int _)⟩⟩
  · obtain ⟨v, r, rfl, p1, r2⟩ := al
    cases (show r = [] from r2)
    cases p1.bl
    exact ⟨_, call_int1, .inr ⟨_, rfl, cl.val R h (.int _)⟩⟩
  · exact h.elim
def fLen : List Da → (SV → Prop) → Prop
  | [.list ds], Q => Q (.val (.int ds.length))
  | [.tuple ds], Q => Q (.val (.int ds.length))
  | [.str z], Q => z.length ≤ 1000000 ∧ Q (.val (.int z.length))
  | _, _ => False
theorem cd_len : CallD X (.builtin "len") fLen := by
  intro B env S σ H vs ds Q Q' R al h cl
  unfold fLen at h
  split at h
  · obtain ⟨v, r, rfl, p1, r2⟩ := al
    cases (show r = [] from r2)
    obtain ⟨a, us, rfl, ha, da⟩ := p1.lst R.w
    exact ⟨_, call_len_seq, a, us, rfl, .inl (.inl ha), cl.val R (by rw [da.length]; exact h) (.int _)⟩
  · obtain ⟨v, r, rfl, p1, r2⟩ := al
    cases (show r = [] from r2)
    obtain ⟨a, us, rfl, ha, da⟩ := p1.tup
    exact ⟨_, call_len_seq, a, us, rfl, .inr (SqT.up R.w.sub ha), cl.val R (by rw [da.length]; exact h) (.int _)⟩
  · obtain ⟨v, r, rfl, p1, r2⟩ := al
    cases (show r = [] from r2)
    cases p1.str
    exact ⟨_, call_len_str, _, rfl, le_sz h.1, cl.val R h.2 (.int _)⟩
  · exact h.elim
/-- tuple(xs), list(xs) -/
def fTuple : List Da → (SV → Prop) → Prop
  | [.list ds], Q => Q (.val (.tuple ds))
  | [.tuple ds], Q => Q (.val (.tuple ds))
  | _, _ => False
theorem cd_tuple : CallD X (.type "tuple") fTuple := by
  intro B env S σ H vs ds Q Q' R al h cl
  unfold fTuple at h
  split at h
  · obtain ⟨v, r, rfl, p1, r2⟩ := al
    cases (show r = [] from r2)
    obtain ⟨a, us, rfl, ha, da⟩ := p1.lst R.w
    exact ⟨_, call_tuple_ofF, a, us, rfl, .inl ha, fun l o hl ho => cl.newT R h da hl ho⟩
  · obtain ⟨v, r, rfl, p1, r2⟩ := al
    cases (show r = [] from r2)
    obtain ⟨a, us, rfl, ha, da⟩ := p1.tupP
    exact ⟨_, call_tuple_of, a, us, rfl, .inr ⟨SqT.up R.w.sub ha.sq, cl.val R h (.tup ha da)⟩⟩
  · exact h.elim
def fList : List Da → (SV → Prop) → Prop
  | [.list ds], Q => Q (.own true (.list ds))
  | [.tuple ds], Q => Q (.own true (.list ds))
  | [.dict [(.bool false, .list ds)]], Q => Q (.own true (.list ds))
  | _, _ => False
theorem cd_list : CallD X (.type "list") fList := by
  intro B env S σ H vs ds Q Q' R al h cl
  unfold fList at h
  split at h
  · obtain ⟨v, r, rfl, p1, r2⟩ := al
    cases (show r = [] from r2)
    obtain ⟨a, us, rfl, ha, da⟩ := p1.lst R.w
    exact ⟨_, call_list_of, a, us, rfl, .inl (.inl ha), fun l hl => cl.newL R h da hl⟩
  · obtain ⟨v, r, rfl, p1, r2⟩ := al
    cases (show r = [] from r2)
    obtain ⟨a, us, rfl, ha, da⟩ := p1.tup
    exact ⟨_, call_list_of, a, us, rfl, .inr (SqT.up R.w.sub ha), fun l hl => cl.newL R h da hl⟩
  · obtain ⟨v, r, rfl, p1, r2⟩ := al
    cases (show r = [] from r2)
    obtain ⟨a, ns, rfl, en, ha⟩ := p1.scr
    cases en
    exact ⟨_, call_list_of, a, _, rfl, .inl (SqL.up R.w.sub ha), fun l hl => cl.newL R h (dq_ints ns) hl⟩
  · exact h.elim
/-- ints, truths out of data -/
def ints? : List Da → Option (List Int)
  | [] => some []
  | .int i :: r => (ints? r).map (i :: ·)
  | _ => none
def bools? : List Da → Option (List Bool)
  | [] => some []
  | .bool i :: r => (bools? r).map (i :: ·)
  | _ => none
theorem ints_dq {K : PySem.W.Frag} {S : Hp} : ∀ {ds : List Da} {vs : List V} {ns : List Int}, DqAll K S vs ds → ints? ds = some ns → vs = ns.map V.int
  | [], _, _, h, e => by cases h; cases e; rfl
  | d :: ds, _, ns, h, e => by
    cases h with
    | cons h1 h2 =>
      cases d <;> first | cases e; done | skip
      cases h1
      unfold ints? at e
      cases z : ints? ds with
      | none => rw [z] at e; cases e
      | some ms => rw [z] at e; cases e; rw [ints_dq h2 z]; rfl
theorem bools_dq {K : PySem.W.Frag} {S : Hp} : ∀ {ds : List Da} {vs : List V} {ns : List Bool}, DqAll K S vs ds → bools? ds = some ns → vs = ns.map V.bl
  | [], _, _, h, e => by cases h; cases e; rfl
  | d :: ds, _, ns, h, e => by
    cases h with
    | cons h1 h2 =>
      cases d <;> first | cases e; done | skip
      cases h1
      unfold bools? at e
      cases z : bools? ds with
      | none => rw [z] at e; cases e
      | some ms => rw [z] at e; cases e; rw [bools_dq h2 z]; rfl
@[irreducible] def fAny : List Da → (SV → Prop) → Prop
  | [.list ds], Q => match bools? ds with
    | some bs => Q (.val (.bool (bs.any id)))
    | none => False
  | _, _ => False
@[irreducible] def fAll : List Da → (SV → Prop) → Prop
  | [.list ds], Q => match bools? ds with
    | some bs => Q (.val (.bool (bs.all id)))
    | none => False
  | _, _ => False
theorem cd_any (hc : X.calm = true) : CallD X (.builtin "any") fAny := by
  intro B env S σ H vs ds Q Q' R al h cl
  unfold fAny at h
  split at h
  · obtain ⟨v, r, rfl, p1, r2⟩ := al
    cases (show r = [] from r2)
    obtain ⟨a, us, rfl, ha, da⟩ := p1.lst R.w
    split at h
    · rename_i bs e
      exact ⟨_, cr_any hc, a, bs, rfl, by rw [← bools_dq da e]; exact .inl ha, cl.val R h (.bl _)⟩
    · exact h.elim
  · exact h.elim
theorem cd_all (hc : X.calm = true) : CallD X (.builtin "all") fAll := by
  intro B env S σ H vs ds Q Q' R al h cl
  unfold fAll at h
  split at h
  · obtain ⟨v, r, rfl, p1, r2⟩ := al
    cases (show r = [] from r2)
    obtain ⟨a, us, rfl, ha, da⟩ := p1.lst R.w
    split at h
    · rename_i bs e
      exact ⟨_, cr_all hc, a, bs, rfl, by rw [← bools_dq da e]; exact .inl ha, cl.val R h (.bl _)⟩
    · exact h.elim
  · exact h.elim
@[irreducible] def fSum : List Da → (SV → Prop) → Prop
  | [.list ds], Q => match ints? ds with
    | some ns => Q (.val (.int ns.sum))
    | none => False
  | _, _ => False
theorem cd_sum (hc : X.calm = true) : CallD X (.builtin "sum") fSum := by
  intro B env S σ H vs ds Q Q' R al h cl
  unfold fSum at h
  split at h
  · obtain ⟨v, r, rfl, p1, r2⟩ := al
    cases (show r = [] from r2)
    obtain ⟨a, us, rfl, ha, da⟩ := p1.lst R.w
    split at h
    · rename_i ns e
      exact ⟨_, cr_sum hc, a, ns, rfl, by rw [← ints_dq da e]; exact .inl ha, cl.val R h (.int _)⟩
    · exact h.elim
  · exact h.elim
/-- isinstance(x, T), T a built-in type -/
def tyD : Da → Value
  | .none => .type "NoneType"
  | .bool _ => .type "bool"
  | .int _ => .type "int"
  | .str _ => .type "str"
  | .list _ => .type "list"
  | .tuple _ => .type "tuple"
  | .dict ((.bool true, _) :: _) => .type "tuple"
  | .dict ((.bool _, _) :: _) => .type "list"
  | .dict ((.none, _) :: _) => .type "mark"
  | .dict _ => .type "dict"
def tyN : Da → String
  | .none => "NoneType"
  | .bool _ => "bool"
  | .int _ => "int"
  | .str _ => "str"
  | .list _ => "list"
  | .tuple _ => "tuple"
  | .dict ((.bool true, _) :: _) => "tuple"
  | .dict ((.bool _, _) :: _) => "list"
  | .dict ((.none, _) :: _) => "mark"
  | .dict _ => "dict"
theorem tyx {K : PySem.W.Frag} {B : Bs} {S H : Hp} {d : Da} {v : V} (w : Wd B S H) (p : IsP K B S H d v) (hm : tyN d ≠ "mark") : TyX K H v (tyD d) := by
  have p := p.dq w
  cases p with
  | non => exact .base .non
  | bl b => exact .base (.bl b)
  | int i => exact .base (.int i)
  | str x => exact .base (.str x)
  | lst h _ =>
    rcases h with h | ⟨o, h⟩
    · exact .base (.lst h)
    · exact .base (.frz h)
  | tup h _ =>
    rcases h with ⟨o, h, _⟩ | ⟨o, its, n, h, hc, _⟩
    · exact .fTuple h
    · exact .kTuple h hc
  | pr h _ =>
    rcases h with (h | ⟨o, h⟩) | ⟨o, its, n, h, hc, _⟩
    · exact .base (.tup h)
    · exact .fTuple h
    · exact .kTuple h hc
  | @dk _ _ ds h z =>
    have e : tyD (.dict ds) = .type "dict" := by
      cases z with
      | nil => rfl
      | @cons k _ _ _ _ _ _ => cases k <;> rfl
    rw [e]
    exact .base (.dK h)
  | dt h _ => exact absurd rfl hm
  | scr h =>
    rcases h with (h | ⟨o, h⟩) | ⟨o, its, n, h, hc, _⟩
    · exact .base (.lst h)
    · exact .base (.frz h)
    · exact .kList h hc
theorem tyN_ty (d : Da) : tyD d = .type (tyN d) := by
  unfold tyD tyN
  split <;> rfl
/-- isinstance(x, T) -/
def isT : String → String → Option Bool
  | "int", "bool" => some false
  | "int", "tuple" => some false
  | "int", "int" => some true
  | "bool", "bool" => some true
  | "bool", "int" => some true
  | "bool", "tuple" => some false
  | "tuple", "tuple" => some true
  | "tuple", "bool" => some false
  | "tuple", "int" => some false
  | "list", "list" => some true
  | "list", "tuple" => some false
  | "str", "str" => some true
  | "str", "int" => some false
  | "str", "bool" => some false
  | "str", "tuple" => some false
  | "tuple", "list" => some false
  | "tuple", "str" => some false
  | "int", "str" => some false
  | "int", "list" => some false
  | "NoneType", "tuple" => some false
  | "NoneType", "int" => some false
  | "NoneType", "bool" => some false
  | _, _ => none
theorem isT_mark (T : String) : isT "mark" T = none := by
  unfold isT
  split <;> first | rfl | (rename_i h _; exact absurd h (by decide)) | (rename_i h; exact absurd h (by decide))
theorem isT_kit {a b : String} {r : Bool} (h : isT a b = some r) : kitB a b = some r := by
  unfold isT at h
  split at h <;> first | (cases h; done) | (cases h; decide +kernel)
def mIsi (T : String) (m : MP) : MP := fun env Q => m env fun d e => match isT (tyN d) T with
  | some b => Q (.bool b) e
  | none => False
theorem ds_isi {T : String} {a : Expr} {y : Str} {p p2 pos : Pos} {m : MP} (hg : Gl X "isinstance") (hm : X.mg "isinstance" = none) (hg2 : Gl X y) (hm2 : X.mg y = none) (hv2 : bootBuiltins y = some (.type T)) (ha : DP X a m) (hv : bootBuiltins "isinstance" = some (.builtin "isinstance") := by decide +kernel) (hn : y ≠ "__name__" := by decide) (hdb : (y == ("__debug__" : Str)) = false := by decide)
    (he : starEach [a, .Name y p2] X.env = (false, eval a X.env) :: starEach [.Name y p2] X.env := by rfl) (he2 : starEach [.Name y p2] X.env = (false, eval (.Name y p2) X.env) :: starEach [] X.env := by rfl) (hpl : (backTo pos (starEach [.Name y p2] X.env)).any (·.1) = false := by rfl) :
    DS X (.Call (.Name "isinstance" p) [a, .Name y p2] [] pos) (mIsi T m) :=
  (pe_callB call_isi hg hm hv (pa_cons ha (pa_cons (pe_bltn (v := .ty T) hg2 hm2 hv2 rfl hn hdb) pa_nil he2) he) (by decide) (by decide) he hpl).wk fun σ H Q ⟨B, env, S, Q0, R, h, k⟩ => by
    refine ⟨B, env, S, _, R, h, fun d e1 q v S1 H1 st1 R1 ip => ?_⟩
    show ∃ (x c : V) (t u : Value) (b : Bool), [v, .ty T] = [x, c] ∧ _
    cases z : isT (tyN d) T with
    | none => rw [z] at q; exact q.elim
    | some b =>
      rw [z] at q
      exact ⟨v, .ty T, tyD d, .type T, b, rfl, .ty T, tyx R1.w ip (fun e => by rw [e, isT_mark] at z; cases z), by rw [tyN_ty]; exact kit_ty (isT_kit z), k _ e1 q _ S1 H1 st1 R1 (.bl b)⟩
/-! ### subscripts and slices -/
@[irreducible] def fIx : Da → Da → (SV → Prop) → Prop
  | .list ds, .int i, Q => match atI ds i with
    | some d => Q (.val d)
    | none => False
  | .tuple ds, .int i, Q => match atI ds i with
    | some d => Q (.val d)
    | none => False
  | .str z, .int i, Q => z.length ≤ 1000000 ∧ match atI z.cps.toList i with
    | some c => Q (.val (.str ⟨#[c]⟩))
    | none => False
  | .dict ds, c, Q => match dGetO ds c with
    | some (some d) => Q (.val d)
    | _ => False
  | _, _, _ => False
theorem ix_dict (hu : X.A.units + 1 < cLine) : IxR X (fun x y H Q => ∃ a v, x = .ref a ∧ DGX X.K H a y (some v) ∧ Q v H) := by
  intro value slice pins s σ H x y v u Q I rx ry h hs
  obtain ⟨a, w, rfl, g, q⟩ := h
  cases rx
  have ty := (isDX_at I (dgx_isD g)).1
  refine tail_any ty PySem.F.slot_dict_getitem.lookup ?_ hs
  exact d_getItemX hu I g ry fun w' s3 I3 rw' => ⟨w, H, I3, rw', q⟩
theorem atI_dq {K : PySem.W.Frag} {S : Hp} {ds : List Da} {vs : List V} {i : Int} {d : Da} (h : DqAll K S vs ds) (e : atI ds i = some d) : ∃ v, atI vs i = some v ∧ Dq K S v d := by
  unfold atI at e ⊢
  rw [h.length]
  cases z : ixN ds.length i with
  | none => rw [z] at e; cases e
  | some j =>
    rw [z] at e
    obtain ⟨v, a, b⟩ := h.get (show ds[j]? = some d from e)
    exact ⟨v, a, b⟩
theorem de_ix {a b : Expr} {pos : Pos} {ma mb : MP} (hu : X.A.units + 1 < cLine) (ha : DP X a ma) (hb : DP X b mb) (hs : PlainIx b := by exact fun _ _ => rfl) : DE X (.Subscript a b pos) (mBin fIx ma mb) := (pe_ix IxR.un ha hb hs).wk fun σ H Q ⟨B, env, S, Q0, R, hm, k⟩ => by
  refine ⟨B, env, S, _, R, hm, fun c e1 hm1 x S1 H1 st1 R1 p1 => ?_⟩
  refine ⟨B, e1, S1, _, R1, hm1, fun d e2 hm2 y S2 H2 st2 R2 p2 => ?_⟩
  have p1 := p1.up st2.s
  have fin : ∀ {d v}, Q0 (.val d) e2 → Dq X.K S2 v d → Q v H2 := fun q ir => k _ e2 q _ S2 H2 (st1.trans st2) R2 ir
  unfold fIx at hm2
  split at hm2
  · cases p2.int
    obtain ⟨a, us, rfl, ha, da⟩ := p1.lst R2.w
    split at hm2
    · rename_i d e
      obtain ⟨v, a1, a2⟩ := atI_dq da e
      exact ⟨_, ix_list, a, us, _, v, rfl, rfl, .inl ha, a1, fin hm2 a2⟩
    · exact hm2.elim
  · cases p2.int
    obtain ⟨a, us, rfl, ha, da⟩ := p1.tup
    split at hm2
    · rename_i d e
      obtain ⟨v, a1, a2⟩ := atI_dq da e
      exact ⟨_, ix_tup, a, us, _, v, rfl, rfl, SqT.up R2.w.sub ha, a1, fin hm2 a2⟩
    · exact hm2.elim
  · cases p2.int
    cases p1.str
    obtain ⟨hz, hm2⟩ := hm2
    split at hm2
    · rename_i c e
      exact ⟨_, ix_str, _, _, c, rfl, rfl, le_sz hz, e, fin hm2 (.str _)⟩
    · exact hm2.elim
  · split at hm2
    · rename_i e
      obtain ⟨a, ov, rfl, g, ro, _⟩ := dget_of R2.w p1 p2 e
      cases ov with
      | none => exact ro.elim
      | some v => exact ⟨_, ix_dict hu, a, v, rfl, g, fin hm2 ro⟩
    · exact hm2.elim
  · exact hm2.elim
/-- a slice's part -/
abbrev MO := En → (Option Int → En → Prop) → Prop
def tOp' (K : PySem.W.Frag) (m : MO) : TO := fun σ H Q => ∃ B env S, ∃ Q0 : Option Int → En → Prop, Rel K B env S σ H ∧ m env Q0 ∧ ∀ o env', Q0 o env' → ∀ S' H', Stq B σ env S H env' S' H' → Rel K B env' S' σ H' → Q o H'
abbrev DO (X : Cx) (e : Option Expr) (m : MO) : Prop := PO X e (tOp' X.K m)
theorem PO.wk {e : Option Expr} {t t' : TO} (p : PO X e t) (h : ∀ σ H Q, t' σ H Q → t σ H Q) : PO X e t' := ⟨fun pins s σ H Q I h' => p.run pins s σ H Q I (h σ H Q h')⟩
def moNone : MO := fun env Q => Q none env
def moSome (m : MP) : MO := fun env Q => m env fun d e => match d with
  | .int i => Q (some i) e
  | _ => False
theorem do_none : DO X none moNone := PO.wk po_none fun σ H Q ⟨B, env, S, Q0, R, h, k⟩ => k _ _ h S H .refl R
theorem do_some {e : Expr} {m : MP} (h : DP X e m) : DO X (some e) (moSome m) := PO.wk (po_some h) fun σ H Q ⟨B, env, S, Q0, R, h, k⟩ => ⟨B, env, S, _, R, h, fun d e1 q v S1 H1 st1 R1 ip => by
  cases d <;> first | exact q.elim | skip
  cases ip.int
  exact ⟨_, rfl, k _ e1 q S1 H1 st1 R1⟩⟩
def cutD (ds : List Da) (lo hi : Option Int) : List Da := (ds.drop (HT.sIx ds.length 0 lo)).take (HT.sIx ds.length ds.length hi - HT.sIx ds.length 0 lo)
theorem cutD_dq {K : PySem.W.Frag} {S : Hp} {ds : List Da} {vs : List V} {lo hi : Option Int} (h : DqAll K S vs ds) : DqAll K S (cutV vs lo hi) (cutD ds lo hi) := by
  unfold cutV cutD
  rw [h.length]
  exact (h.drop _).take _
def fSl (lo hi : Option Int) : Da → (SV → Prop) → Prop
  | .list ds, Q => Q (.own true (.list (cutD ds lo hi)))
  | .tuple ds, Q => Q (.val (.tuple (cutD ds lo hi)))
  | .str z, Q => z.length ≤ 1000000 ∧ Q (.val (.str (cutS z lo hi)))
  | .dict [(.bool false, .list ds)], Q => Q (.own true (.list (cutD ds lo hi)))
  | _, _ => False
def mSl (m : MP) (ml mh : MO) : ME := fun env Q => m env fun d e1 => ml e1 fun lo e2 => mh e2 fun hi e3 => fSl lo hi d fun r => Q r e3
theorem cutD_all {ds : List Da} {lo hi : Option Int} (h : HT.sIx ds.length 0 lo = 0 ∧ HT.sIx ds.length ds.length hi = ds.length) : cutD ds lo hi = ds := by
  unfold cutD
  rw [h.1, h.2]
  simp
theorem de_sl {e : Expr} {lo hi : Option Expr} {p2 pos : Pos} {m : MP} {ml mh : MO} (h : DP X e m) (hl : DO X lo ml) (hh : DO X hi mh) : DE X (.Subscript e (.Slice lo hi none p2) pos) (mSl m ml mh) := (pe_slice SlR.un h hl hh).wk fun σ H Q ⟨B, env, S, Q0, R, hm, k⟩ => by
  refine ⟨B, env, S, _, R, hm, fun c e1 hm1 x S1 H1 st1 R1 p1 => ?_⟩
  refine ⟨B, e1, S1, _, R1, hm1, fun l e2 hm2 S2 H2 st2 R2 => ?_⟩
  refine ⟨B, e2, S2, _, R2, hm2, fun u e3 hm3 S3 H3 st3 R3 => ?_⟩
  have p1 := (p1.up st2.s).up st3.s
  have c : Cl X.K B e3 S3 σ H3 (fun r => Q0 r e3) Q := fun r v S' H' q st R' ir => k r e3 q v S' H' (((st1.trans st2).trans st3).trans st) R' (ir.back R.w ((st1.trans st2).trans st3))
  unfold fSl at hm3
  split at hm3
  · obtain ⟨a, us, rfl, ha, da⟩ := p1.lst R3.w
    exact ⟨_, sl_list, a, us, rfl, .inl ha, fun p hp => c.newL R3 hm3 (cutD_dq da) hp⟩
  · obtain ⟨a, us, rfl, ha, da⟩ := p1.tupP
    refine ⟨_, sl_tupF, a, us, rfl, SqT.up R3.w.sub ha.sq, fun e => ?_, fun _ p o hp ho => c.newT R3 hm3 (cutD_dq da) hp ho⟩
    rw [da.length] at e
    rw [cutD_all e] at hm3
    exact c.val R3 hm3 (.tup ha da)
  · cases p1.str
    exact ⟨_, sl_str, _, rfl, le_sz hm3.1, c.val R3 hm3.2 (.str _)⟩
  · obtain ⟨a, ns, rfl, en, ha⟩ := p1.scr
    cases en
    exact ⟨_, sl_list, a, _, rfl, SqL.up R3.w.sub ha, fun p hp => c.newL R3 hm3 (cutD_dq (dq_ints ns)) hp⟩
  · exact hm3.elim
/-- list(range(..)) -/
def rgD (a b : Int) : List Da := (List.range (b - a).toNat).map fun i => .int (a + (i : Nat))
theorem rg_dq {K : PySem.W.Frag} {S : Hp} (a b : Int) : DqAll K S (rgV a b) (rgD a b) := by
  unfold rgV rgD
  generalize List.range (b - a).toNat = l
  induction l with
  | nil => exact .nil
  | cons i r ih => exact .cons (.int _) ih
def mLRg2 (ma mb : MP) : ME := fun env Q => ma env fun x e1 => mb e1 fun y e2 => match x, y with
  | .int a, .int b => (-1000000 ≤ a ∧ a ≤ 1000000 ∧ -1000000 ≤ b ∧ b ≤ 1000000) ∧ Q (.own true (.list (rgD a b))) e2
  | _, _ => False
def mLRg1 (ma : MP) : ME := fun env Q => ma env fun x e1 => match x with
  | .int b => (-1000000 ≤ b ∧ b ≤ 1000000) ∧ Q (.own true (.list (rgD 0 b))) e1
  | _ => False
theorem de_lrg2 {a b : Expr} {p p2 pos pos2 : Pos} {ma mb : MP} (hc : X.calm = true) (hg : Gl X "list") (hm : X.mg "list" = none) (hg2 : Gl X "range") (hm2 : X.mg "range" = none) (ha : DP X a ma) (hb : DP X b mb)
    (na : starEach [a, b] X.env = (false, eval a X.env) :: starEach [b] X.env := by rfl) (nb : starEach [b] X.env = (false, eval b X.env) :: starEach [] X.env := by rfl) (hp : (backTo pos2 (starEach [b] X.env)).any (·.1) = false := by rfl)
    (na2 : starEach [.Call (.Name "range" p2) [a, b] [] pos2] X.env = (false, eval (.Call (.Name "range" p2) [a, b] [] pos2) X.env) :: starEach [] X.env := by rfl) :
    DE X (.Call (.Name "list" p) [.Call (.Name "range" p2) [a, b] [] pos2] [] pos) (mLRg2 ma mb) := (pe_listRg hc hg hm (prg_2 hg2 hm2 ha hb na nb hp) na2).wk fun σ H Q ⟨B, env, S, Q0, R, h, k⟩ => by
  refine ⟨B, env, S, _, R, h, fun x e1 hm1 v S1 H1 st1 R1 p1 => ?_⟩
  refine ⟨B, e1, S1, _, R1, hm1, fun y e2 hm2 u S2 H2 st2 R2 p2 => ?_⟩
  have c : Cl X.K B e2 S2 σ H2 (fun r => Q0 r e2) Q := fun r v S' H' q st R' ir => k r e2 q v S' H' ((st1.trans st2).trans st) R' (ir.back R.w (st1.trans st2))
  split at hm2
  · cases p1.int; cases p2.int
    exact ⟨_, _, rfl, rfl, ⟨by omega, by omega, by omega, by omega, by omega⟩, fun q hq => c.newL R2 hm2.2 (rg_dq _ _) hq⟩
  · exact hm2.elim
theorem de_lrg1 {a : Expr} {p p2 pos pos2 : Pos} {ma : MP} (hc : X.calm = true) (hg : Gl X "list") (hm : X.mg "list" = none) (hg2 : Gl X "range") (hm2 : X.mg "range" = none) (ha : DP X a ma)
    (na : starEach [a] X.env = (false, eval a X.env) :: starEach [] X.env := by rfl)
    (na2 : starEach [.Call (.Name "range" p2) [a] [] pos2] X.env = (false, eval (.Call (.Name "range" p2) [a] [] pos2) X.env) :: starEach [] X.env := by rfl) :
    DE X (.Call (.Name "list" p) [.Call (.Name "range" p2) [a] [] pos2] [] pos) (mLRg1 ma) := (pe_listRg hc hg hm (prg_1 hg2 hm2 ha na) na2).wk fun σ H Q ⟨B, env, S, Q0, R, h, k⟩ => by
  refine ⟨B, env, S, _, R, h, fun x e1 hm1 v S1 H1 st1 R1 p1 => ?_⟩
  have c : Cl X.K B e1 S1 σ H1 (fun r => Q0 r e1) Q := fun r v S' H' q st R' ir => k r e1 q v S' H' (st1.trans st) R' (ir.back R.w st1)
  split at hm1
  · cases p1.int
    exact ⟨_, rfl, ⟨by omega, by omega, by omega, by omega, by omega⟩, fun q hq => c.newL R1 hm1.2 (rg_dq _ _) hq⟩
  · exact hm1.elim
end
end Pq

set_option Elab.async false
set_option linter.all false
set_option maxRecDepth 100000
set_option maxHeartbeats 4000000
namespace Pq
open PySem PySem.Spec PyProof.Rows L2
section
variable {X : Cx}
/-! ### what is walked -/
/-- over whatever stable heap: turn i yields the i-th piece of data -/
def Walks (K : PySem.W.Frag) (B : Bs) (J : It) (S : Hp) (ds : List Da) : Prop := ∀ S1 H1, (∀ a o, S a = some o → S1 a = some o) → Wd B S1 H1 →
  (∀ i d, ds[i]? = some d → J.go i H1 ∧ ∀ x H2, J.yld i H1 x H2 → ∃ S2, (∀ env σ, Rel K B env S1 σ H1 → Rel K B env S2 σ H2 ∧ Stq B σ env S1 H1 env S2 H2) ∧ (∀ D o, H1 D = some o → S1 D = none → S2 D = none) ∧ Dq K S2 x d) ∧ ∀ i, ds.length ≤ i → J.stop i H1
def tI (K : PySem.W.Frag) (m : ML) : TI := fun σ H R => ∃ B env S, ∃ Q0 : List Da → En → Prop, Rel K B env S σ H ∧ m env Q0 ∧ ∀ ds env', Q0 ds env' → ∀ S' H' J, Stq B σ env S H env' S' H' → Rel K B env' S' σ H' → Walks K B J S' ds → R J H'
abbrev DI (X : Cx) (tg e : Expr) (m : ML) : Prop := PI X tg e (tI X.K m)
theorem PI.wk {tg e : Expr} {t t' : TI} (p : PI X tg e t) (h : ∀ σ H R, t' σ H R → t σ H R) : PI X tg e t' := ⟨fun pins s σ H R I h' => p.run pins s σ H R I (h σ H R h')⟩
theorem walks_list {K : PySem.W.Frag} {B : Bs} {S : Hp} {a : Addr} {vs : List V} {ds : List Da} (h : Rd S a (.lst vs)) (hd : DqAll K S vs ds) : Walks K B (Itl K a) S ds := fun S1 H1 e w => by
  have h1 : SqL K H1 a vs := .inl (Rd.up w.sub (Rd.up e h))
  refine ⟨fun i d hi => ?_, fun i hi => ⟨vs, h1, by rw [hd.length]; exact hi⟩⟩
  obtain ⟨v, hv, dv⟩ := hd.get hi
  refine ⟨⟨vs, v, h1, hv⟩, fun x H2 y => ?_⟩
  obtain ⟨rfl, y⟩ := y
  have ex := y vs h1
  rw [hv] at ex
  cases ex
  exact ⟨S1, fun _ _ r => ⟨r, .refl⟩, fun _ _ _ z => z, Dq.up e _ _ dv⟩
theorem walks_tup {K : PySem.W.Frag} {B : Bs} {S : Hp} {a : Addr} {vs : List V} {ds : List Da} (h : SqT K S a vs) (hd : DqAll K S vs ds) : Walks K B (Itt K a) S ds := fun S1 H1 e w => by
  have h1 : SqT K H1 a vs := SqT.up w.sub (SqT.up e h)
  refine ⟨fun i d hi => ?_, fun i hi => ⟨vs, h1, by rw [hd.length]; exact hi⟩⟩
  obtain ⟨v, hv, dv⟩ := hd.get hi
  refine ⟨⟨vs, v, h1, hv⟩, fun x H2 y => ?_⟩
  obtain ⟨rfl, y⟩ := y
  have ex := y vs h1
  rw [hv] at ex
  cases ex
  exact ⟨S1, fun _ _ r => ⟨r, .refl⟩, fun _ _ _ z => z, Dq.up e _ _ dv⟩
theorem walks_range {K : PySem.W.Frag} {B : Bs} {S : Hp} {a b : Int} : Walks K B (Itr a (b - a).toNat) S (rgD a b) := fun S1 H1 e w => by
  have hl : (rgD a b).length = (b - a).toNat := by unfold rgD; rw [List.length_map, List.length_range]
  refine ⟨fun i d hi => ?_, fun i hi => by rw [hl] at hi; exact hi⟩
  have hlt := (List.getElem?_eq_some_iff.mp hi).1
  rw [hl] at hlt
  refine ⟨hlt, fun x H2 y => ?_⟩
  obtain ⟨rfl, rfl⟩ := y
  unfold rgD at hi
  rw [List.getElem?_map, List.getElem?_range hlt] at hi
  cases hi
  exact ⟨S1, fun _ _ r => ⟨r, .refl⟩, fun _ _ _ z => z, .int _⟩
/-- the signs of a text -/
def sgD (z : Str) : List Da := z.cps.toList.map fun c => .str ⟨#[c]⟩
theorem walks_str {K : PySem.W.Frag} {B : Bs} {S : Hp} {z : Str} : Walks K B (Its z) S (sgD z) := fun S1 H1 e w => by
  have hl : (sgD z).length = z.cps.size := by unfold sgD; rw [List.length_map, Array.length_toList]
  refine ⟨fun i d hi => ?_, fun i hi => by rw [hl] at hi; exact hi⟩
  have hlt := (List.getElem?_eq_some_iff.mp hi).1
  rw [hl] at hlt
  refine ⟨hlt, fun x H2 y => ?_⟩
  obtain ⟨rfl, c, hc, rfl⟩ := y
  unfold sgD at hi
  rw [List.getElem?_map, Array.getElem?_toList, hc] at hi
  cases hi
  exact ⟨S1, fun _ _ r => ⟨r, .refl⟩, fun _ _ _ z => z, .str _⟩
/-- a list, a tuple or a text -/
theorem pi_any {tg l : Expr} {tl : TE} (hl : PE X l tl) : PI X tg l (fun σ H R => tl σ H fun x H1 => (∃ a, x = .ref a ∧ (((∃ xs, SqL X.K H1 a xs) ∧ R (Itl X.K a) H1) ∨ ((∃ xs, SqT X.K H1 a xs) ∧ R (Itt X.K a) H1))) ∨ ∃ z, x = .str z ∧ R (Its z) H1) := by
  refine ⟨fun pins s σ H R I h => ?_⟩
  refine thn (hl.run pins s σ H _ I h) fun v s1 ⟨x, H1, I1, r1, q1⟩ => ?_
  rcases q1 with ⟨a, rfl, ⟨⟨xs, hq⟩, q⟩ | ⟨⟨xs, hq⟩, q⟩⟩ | ⟨z, rfl, q⟩
  · cases r1
    obtain ⟨its, rv, p, hz⟩ := I1.list hq
    refine wpAny_pyIter_list p.isList ?_
    refine ⟨s1.heap.objs.size, [s1.heap.objs.size], _, _, H1, rfl, I1.kept (t' := s1.toks) fun b o e => Heap.get?_push_of_some _ e, turn_list a _, ⟨_, Heap.get?_push_size _ rfl, rfl, rfl⟩, fun b hb => ?_, q⟩
    have e : b = s1.heap.objs.size := by simpa using hb
    subst e
    exact I1.fpOk (Nat.le_refl _) (I1.hok.fresh (Nat.le_refl _))
  · cases r1
    obtain ⟨its, rv, p, hz⟩ := I1.tuple hq
    refine wpAny_pyIter_tuple (show s1.heap.IsTuple a its.toArray from p) ?_
    refine ⟨s1.heap.objs.size, [s1.heap.objs.size], _, _, H1, rfl, I1.kept (t' := s1.toks) fun b o e => Heap.get?_push_of_some _ e, turn_tuple a _, ⟨_, Heap.get?_push_size _ rfl, rfl, rfl⟩, fun b hb => ?_, q⟩
    have e : b = s1.heap.objs.size := by simpa using hb
    subst e
    exact I1.fpOk (Nat.le_refl _) (I1.hok.fresh (Nat.le_refl _))
  · obtain ⟨t, rfl⟩ := r1
    cases ha : z.cps.all (· < 128)
    · exact wpAny_pyIter_wide ha (pi_one (tk := s1.toks) I1 _ (turn_str _ z t "str_iterator" (.inr rfl)) ⟨_, Heap.get?_push_size _ rfl, rfl, rfl⟩ q)
    · exact wpAny_pyIter_ascii ha (pi_one (tk := s1.toks) I1 _ (turn_str _ z t "str_ascii_iterator" (.inl rfl)) ⟨_, Heap.get?_push_size _ rfl, rfl, rfl⟩ q)
def mItems (m : MP) : ML := fun env Q => m env fun d e => match d with
  | .list ds => Q ds e
  | .tuple ds => Q ds e
  | .str z => Q (sgD z) e
  | _ => False
theorem di_any {tg l : Expr} {m : MP} (h : DS X l m) : DI X tg l (mItems m) := PI.wk (pi_any h) fun σ H R ⟨B, env, S, Q0, hR, hm, k⟩ => ⟨B, env, S, _, hR, hm, fun d e1 q v S1 H1 st R1 dv => by
  cases d <;> first | exact q.elim | skip
  · cases dv
    exact .inr ⟨_, rfl, k _ e1 q S1 H1 _ st R1 walks_str⟩
  · cases dv with
    | lst ha da => exact .inl ⟨_, rfl, .inl ⟨⟨_, .inl (Rd.up R1.w.sub ha)⟩, k _ e1 q S1 H1 _ st R1 (walks_list ha da)⟩⟩
  · cases dv with
    | tup ha da =>
      have ha := ha.sq
      exact .inl ⟨_, rfl, .inr ⟨⟨_, SqT.up R1.w.sub ha⟩, k _ e1 q S1 H1 _ st R1 (walks_tup ha da)⟩⟩⟩
def mRg1 (ma : ML) : ML := fun env Q => ma env fun ds e => match ds with
  | [.int b] => (-1000000 ≤ b ∧ b ≤ 1000000) ∧ Q (rgD 0 b) e
  | _ => False
def mRg2 (ma : ML) : ML := fun env Q => ma env fun ds e => match ds with
  | [.int a, .int b] => (-1000000 ≤ a ∧ a ≤ 1000000 ∧ -1000000 ≤ b ∧ b ≤ 1000000) ∧ Q (rgD a b) e
  | _ => False
theorem di_rg1 {tg a : Expr} {p pos : Pos} {ma : ML} (hg : Gl X "range") (hm : X.mg "range" = none) (ha : DPs X [a] ma) (hs : starEach [a] X.env = [(false, eval a X.env)] := by rfl) : DI X tg (.Call (.Name "range" p) [a] [] pos) (mRg1 ma) :=
  PI.wk (pi_range1 hg hm ha hs) fun σ H R ⟨B, env, S, Q0, hR, hm, k⟩ => ⟨B, env, S, _, hR, hm, fun ds e1 q vs S1 H1 st R1 al => by
    split at q
    · obtain ⟨v, r, rfl, p1, r2⟩ := al
      cases (show r = [] from r2)
      cases p1.int
      rename_i b
      refine ⟨_, rfl, by omega, by omega, k _ e1 q.2 S1 H1 _ st R1 ?_⟩
      have w := walks_range (K := X.K) (B := B) (S := S1) (a := 0) (b := b)
      rw [Int.sub_zero] at w
      exact w
    · exact q.elim⟩
theorem di_rg2 {tg a b : Expr} {p pos : Pos} {ma : ML} (hg : Gl X "range") (hm : X.mg "range" = none) (ha : DPs X [a, b] ma) (hs : starEach [a, b] X.env = [(false, eval a X.env), (false, eval b X.env)] := by rfl) (hs2 : starEach [b] X.env = [(false, eval b X.env)] := by rfl) : DI X tg (.Call (.Name "range" p) [a, b] [] pos) (mRg2 ma) :=
  PI.wk (pi_range2 hg hm ha hs hs2) fun σ H R ⟨B, env, S, Q0, hR, hm, k⟩ => ⟨B, env, S, _, hR, hm, fun ds e1 q vs S1 H1 st R1 al => by
    split at q
    · obtain ⟨v, r, rfl, p1, r2⟩ := al
      obtain ⟨v2, r', rfl, p2, r3⟩ := r2
      cases (show r' = [] from r3)
      cases p1.int; cases p2.int
      exact ⟨_, _, rfl, ⟨by omega, by omega, by omega, by omega⟩, k _ e1 q.2 S1 H1 _ st R1 walks_range⟩
    · exact q.elim⟩
/-- a new pair, yielded -/
theorem yield_pair {K : PySem.W.Frag} {B : Bs} {S1 H1 : Hp} {T : Addr} {x y : V} {c d : Da} (w : Wd B S1 H1) (hT : H1 T = none) (hx : Dq K S1 x c) (hy : Dq K S1 y d) : ∃ S2, (∀ env σ, Rel K B env S1 σ H1 → Rel K B env S2 σ (upd H1 T (.tup [x, y])) ∧ Stq B σ env S1 H1 env S2 (upd H1 T (.tup [x, y]))) ∧ (∀ D o, H1 D = some o → S1 D = none → S2 D = none) ∧ Dq K S2 (.ref T) (.dict [(.bool true, c), (.bool true, d)]) := by
  refine ⟨upd S1 T (.tup [x, y]), fun env σ r => ⟨r.allocS hT, stq_allocS w hT⟩, fun D o e s => ?_, .pr (.inl (.inl upd_same)) (DqP.up (upd_sub (w.snone hT)) _ _ (.cons hx (.cons hy .nil)))⟩
  rw [upd_ne (ne_of_none e hT)]
  exact s
def enD : Nat → List Da → List Da
  | _, [] => []
  | k, d :: ds => .dict [(.bool true, .int k), (.bool true, d)] :: enD (k + 1) ds
theorem enD_get : ∀ {ds : List Da} {k i : Nat} {d : Da}, (enD k ds)[i]? = some d → ∃ e, ds[i]? = some e ∧ d = .dict [(.bool true, .int (k + i : Nat)), (.bool true, e)]
  | [], _, _, _, h => by simp [enD] at h
  | e :: ds, k, 0, d, h => by simp [enD] at h; exact ⟨e, rfl, h.symm⟩
  | e :: ds, k, i + 1, d, h => by
    obtain ⟨e', a, b⟩ := enD_get (k := k + 1) (i := i) (by simpa [enD] using h)
    exact ⟨e', by simpa using a, by rw [b, show k + 1 + i = k + (i + 1) by omega]⟩
theorem enD_len : ∀ (k : Nat) (ds : List Da), (enD k ds).length = ds.length
  | _, [] => rfl
  | k, d :: ds => by unfold enD; rw [List.length_cons, List.length_cons, enD_len]
def mEnum (ma : MA) : ML := fun env Q => ma env fun rs e => match rs with
  | [.val (.list ds)] => Q (enD 0 ds) e
  | _ => False
theorem di_enum {a : Expr} {p pos tpos : Pos} {elts : List Expr} {kk : Nat} {ma : MA} (hg : Gl X "enumerate") (hm : X.mg "enumerate" = none) (ha : DA X [a] ma) (hs : starEach [a] X.env = [(false, eval a X.env)] := by rfl) : DI X (.Tuple elts kk tpos) (.Call (.Name "enumerate" p) [a] [] pos) (mEnum ma) :=
  PI.wk (pi_enum hg hm ha hs) fun σ H R ⟨B, env, S, Q0, hR, hm, k⟩ => ⟨B, env, S, _, hR, hm, fun rs e1 q vs S1 H1 st R1 al => by
    split at q
    · obtain ⟨v, r, rfl, p1, r2⟩ := al
      cases (show r = [] from r2)
      cases p1 with
      | lst h hd =>
        refine ⟨_, _, rfl, .inl (Rd.up R1.w.sub h), k _ e1 q S1 H1 _ st R1 fun S2 H2 e w => ?_⟩
        have h1 : SqL X.K H2 _ _ := .inl (Rd.up w.sub (Rd.up e h))
        refine ⟨fun i d hi => ?_, fun i hi => ⟨_, h1, by rw [hd.length]; rw [enD_len] at hi; exact hi⟩⟩
        obtain ⟨d', hd', rfl⟩ := enD_get hi
        obtain ⟨v, hv, dv⟩ := hd.get hd'
        refine ⟨⟨_, v, h1, hv⟩, fun x H3 y => ?_⟩
        obtain ⟨T, x', rfl, hT, rfl, hx⟩ := y
        have ex := hx _ h1
        rw [hv] at ex
        cases ex
        have e0 : (0 + i : Nat) = i := Nat.zero_add i
        rw [e0]
        exact yield_pair w hT (.int _) (Dq.up e _ _ dv)
    · exact q.elim⟩
def zpD : List Da → List Da → List Da
  | c :: cs, d :: ds => .dict [(.bool true, c), (.bool true, d)] :: zpD cs ds
  | _, _ => []
theorem zpD_get : ∀ {cs ds : List Da} {i : Nat} {d : Da}, (zpD cs ds)[i]? = some d → ∃ x y, cs[i]? = some x ∧ ds[i]? = some y ∧ d = .dict [(.bool true, x), (.bool true, y)]
  | [], _, _, _, h => by simp [zpD] at h
  | _ :: _, [], _, _, h => by simp [zpD] at h
  | x :: cs, y :: ds, 0, d, h => by simp [zpD] at h; exact ⟨x, y, rfl, rfl, h.symm⟩
  | x :: cs, y :: ds, i + 1, d, h => by
    obtain ⟨x', y', a, b, c⟩ := zpD_get (i := i) (by simpa [zpD] using h)
    exact ⟨x', y', by simpa using a, by simpa using b, c⟩
theorem zpD_len : ∀ (cs ds : List Da) (i : Nat), (zpD cs ds).length ≤ i → cs.length ≤ i ∨ ds.length ≤ i
  | [], _, _, _ => .inl (Nat.zero_le _)
  | _ :: _, [], _, _ => .inr (Nat.zero_le _)
  | c :: cs, d :: ds, 0, h => by simp [zpD] at h
  | c :: cs, d :: ds, i + 1, h => by
    rcases zpD_len cs ds i (by simpa [zpD] using h) with z | z
    · exact .inl (by simpa using z)
    · exact .inr (by simpa using z)
def mZip (ma : MA) : ML := fun env Q => ma env fun rs e => match rs with
  | [.val (.list cs), .val (.list ds)] => Q (zpD cs ds) e
  | [.val (.tuple cs), .val (.tuple ds)] => Q (zpD cs ds) e
  | _ => False
theorem di_zip {a b : Expr} {p pos tpos : Pos} {elts : List Expr} {kk : Nat} {ma : MA} (hg : Gl X "zip") (hm : X.mg "zip" = none) (ha : DA X [a, b] ma) (hs : starEach [a, b] X.env = (false, eval a X.env) :: starEach [b] X.env := by rfl) (hpl : (backTo pos (starEach [b] X.env)).any (·.1) = false := by rfl) :
    DI X (.Tuple elts kk tpos) (.Call (.Name "zip" p) [a, b] [] pos) (mZip ma) :=
  PI.wk (RZ.pi_zipA hg hm ha hs hpl) fun σ H R ⟨B, env, S, Q0, hR, hm, k⟩ => ⟨B, env, S, _, hR, hm, fun rs e1 q vs S1 H1 st R1 al => by
    split at q
    · obtain ⟨v, r, rfl, p1, r2⟩ := al
      obtain ⟨v2, r', rfl, p2, r3⟩ := r2
      cases (show r' = [] from r3)
      cases p1 with
      | lst h hd =>
        cases p2 with
        | lst h' hd' =>
          refine ⟨_, _, _, _, rfl, .inl ⟨.inl (Rd.up R1.w.sub h), .inl (Rd.up R1.w.sub h'), k _ e1 q S1 H1 _ st R1 fun S2 H2 e w => ?_⟩⟩
          have h1 : SqL X.K H2 _ _ := .inl (Rd.up w.sub (Rd.up e h))
          have h2 : SqL X.K H2 _ _ := .inl (Rd.up w.sub (Rd.up e h'))
          refine ⟨fun i d hi => ?_, fun i hi => ⟨_, _, h1, h2, by rw [hd.length, hd'.length]; exact zpD_len _ _ i hi⟩⟩
          obtain ⟨c1, c2, g1, g2, rfl⟩ := zpD_get hi
          obtain ⟨v, hv, dv⟩ := hd.get g1
          obtain ⟨u, hu, du⟩ := hd'.get g2
          refine ⟨⟨_, _, v, u, h1, h2, hv, hu⟩, fun x H3 y => ?_⟩
          obtain ⟨T, x', y', rfl, hT, rfl, hx, hy⟩ := y
          have ex := hx _ h1
          have ey := hy _ h2
          rw [hv] at ex
          rw [hu] at ey
          cases ex; cases ey
          exact yield_pair w hT (Dq.up e _ _ dv) (Dq.up e _ _ du)
    · obtain ⟨v, r, rfl, p1, r2⟩ := al
      obtain ⟨v2, r', rfl, p2, r3⟩ := r2
      cases (show r' = [] from r3)
      cases p1 with
      | tup h hd =>
        cases p2 with
        | tup h' hd' =>
          have h := h.sq
          have h' := h'.sq
          refine ⟨_, _, _, _, rfl, .inr ⟨SqT.up R1.w.sub h, SqT.up R1.w.sub h', k _ e1 q S1 H1 _ st R1 fun S2 H2 e w => ?_⟩⟩
          have h1 : SqT X.K H2 _ _ := SqT.up w.sub (SqT.up e h)
          have h2 : SqT X.K H2 _ _ := SqT.up w.sub (SqT.up e h')
          refine ⟨fun i d hi => ?_, fun i hi => ⟨_, _, h1, h2, by rw [hd.length, hd'.length]; exact zpD_len _ _ i hi⟩⟩
          obtain ⟨c1, c2, g1, g2, rfl⟩ := zpD_get hi
          obtain ⟨v, hv, dv⟩ := hd.get g1
          obtain ⟨u, hu, du⟩ := hd'.get g2
          refine ⟨⟨_, _, v, u, h1, h2, hv, hu⟩, fun x H3 y => ?_⟩
          obtain ⟨T, x', y', rfl, hT, rfl, hx, hy⟩ := y
          have ex := hx _ h1
          have ey := hy _ h2
          rw [hv] at ex
          rw [hu] at ey
          cases ex; cases ey
          exact yield_pair w hT (Dq.up e _ _ dv) (Dq.up e _ _ du)
    · exact q.elim⟩

/-! ### targets -/
abbrev MG := Da → En → (En → Prop) → Prop
abbrev MGs := List Da → En → (En → Prop) → Prop
def Off (is : List Nat) (σ σ' : L2.St) : Prop := σ'.length = σ.length ∧ ∀ j : Nat, j ∉ is → σ'[j]? = σ[j]?
def tG (K : PySem.W.Frag) (is : List Nat) (g : MG) : TG := fun v σ H Q => ∃ B env S d, ∃ Q0 : En → Prop, Rel K B env S σ H ∧ Dq K S v d ∧ g d env Q0 ∧ ∀ env', Q0 env' → ∀ σ', Rel K B env' S σ' H → Off is σ σ' → (∀ (i : Nat) (b : Bool) (d : Da), env'[i]? = some (.own b d) → env[i]? = some (.own b d)) → Q σ' H
def tGs (K : PySem.W.Frag) (is : List Nat) (g : MGs) : TGs := fun vs σ H Q => ∃ B env S ds, ∃ Q0 : En → Prop, Rel K B env S σ H ∧ DqAll K S vs ds ∧ g ds env Q0 ∧ ∀ env', Q0 env' → ∀ σ', Rel K B env' S σ' H → Off is σ σ' → (∀ (i : Nat) (b : Bool) (d : Da), env'[i]? = some (.own b d) → env[i]? = some (.own b d)) → Q σ' H
abbrev DG (X : Cx) (tg : Expr) (is : List Nat) (g : MG) : Prop := PG X tg (tG X.K is g)
abbrev DGs (X : Cx) (tgs : List Expr) (is : List Nat) (g : MGs) : Prop := PGs X tgs (tGs X.K is g)
theorem PG.wk {tg : Expr} {t t' : TG} (p : PG X tg t) (h : ∀ v σ H Q, t' v σ H Q → t v σ H Q) : PG X tg t' := ⟨fun pins s σ H v u Q I r h' => p.run pins s σ H v u Q I r (h v σ H Q h')⟩
theorem PGs.wk {tg : List Expr} {t t' : TGs} (p : PGs X tg t) (h : ∀ v σ H Q, t' v σ H Q → t v σ H Q) : PGs X tg t' := ⟨fun pins s σ H v u Q I r h' => p.run pins s σ H v u Q I r (h v σ H Q h')⟩
def mgName (i : Nat) : MG := fun d env Q => i < env.length ∧ Q (env.set i (.val d))
theorem dg_name {i : Nat} {x : Str} {pos : Pos} (hN : X.N.Nodup) (hi : X.N[i]? = some x := by rfl) (hx : Loc X.env.scope x := by first | exact Or.inl rfl | exact Or.inr rfl) (hf : X.fn x = true ∨ X.env.scope.names.lookup x = some .local := by first | exact .inl rfl | exact .inr rfl | assumption) : DG X (.Name x pos) [i] (mgName i) :=
  PG.wk (pg_name hN hi hx hf) fun v σ H Q ⟨B, env, S, d, Q0, R, hd, hm, k⟩ => k _ hm.2 _ (R.setV hd hm.1) ⟨by rw [List.length_set], fun j hj => List.getElem?_set_ne fun z => hj (by rw [z]; exact List.mem_singleton_self j)⟩ fun j b e h => by
    rcases getElem?_setp h with ⟨e2, e3⟩ | ⟨e2, e3⟩
    · cases e3
    · exact e3
def mgNil : MGs := fun ds env Q => ds = [] ∧ Q env
def mgCons (g : MG) (gs : MGs) : MGs := fun ds env Q => match ds with
  | d :: r => g d env fun e => gs r e Q
  | [] => False
theorem dgs_nil : DGs X [] [] mgNil := PGs.wk pgs_nil fun vs σ H Q ⟨B, env, S, ds, Q0, R, hd, hm, k⟩ => by
  obtain ⟨rfl, q⟩ := hm
  cases hd
  exact ⟨rfl, k _ q σ R ⟨rfl, fun _ _ => rfl⟩ fun _ _ _ h => h⟩
theorem dgs_cons {e : Expr} {es : List Expr} {is js : List Nat} {g : MG} {gs : MGs} (h1 : DG X e is g) (h2 : DGs X es js gs) (hs : (assignEach (e :: es) X.env).map (·.2) = assign e X.env :: (assignEach es X.env).map (·.2) := by rfl) : DGs X (e :: es) (is ++ js) (mgCons g gs) :=
  PGs.wk (pgs_cons h1 h2 hs) fun vs σ H Q ⟨B, env, S, ds, Q0, R, hd, hm, k⟩ => by
    cases hd with
    | nil => exact hm.elim
    | cons d1 d2 =>
      exact ⟨_, _, rfl, B, env, S, _, _, R, d1, hm, fun e1 q1 σ1 R1 o1 w1 => ⟨B, e1, S, _, _, R1, d2, q1, fun e2 q2 σ2 R2 o2 w2 => k e2 q2 σ2 R2 ⟨o2.1.trans o1.1, fun j hj => by
        rw [List.mem_append, not_or] at hj
        rw [o2.2 j hj.2, o1.2 j hj.1]⟩ fun i b d h => w1 i b d (w2 i b d h)⟩⟩
def mgTup (n : Nat) (gs : MGs) : MG := fun d env Q => match d with
  | .tuple ds => ds.length = n ∧ gs ds env Q
  | .dict ((.bool true, d) :: ds) => ds.length + 1 = n ∧ gs (d :: ds.map (·.2)) env Q
  | .list ds => ds.length = n ∧ gs ds env Q
  | _ => False
theorem pg_or {tg : Expr} {g1 g2 : TG} (h1 : PG X tg g1) (h2 : PG X tg g2) : PG X tg (fun v σ H Q => g1 v σ H Q ∨ g2 v σ H Q) :=
  ⟨fun pins s σ H v u Q I r h => h.elim (h1.run pins s σ H v u Q I r) (h2.run pins s σ H v u Q I r)⟩
theorem dqp_all {K : PySem.W.Frag} {S : Hp} : ∀ {ds : List (Da × Da)} {vs : List V}, DqP K S vs ds → DqAll K S vs (ds.map (·.2))
  | [], _, h => by cases h; exact .nil
  | (_, d) :: ds, _, h => by
    cases h with
    | cons h1 h2 => exact .cons h1 (dqp_all h2)
theorem dg_tup {es : List Expr} {k : Nat} {pos : Pos} {is : List Nat} {gs : MGs} {n : Nat} (hc : X.calm = true) (h : DGs X es is gs) (hn : (assignEach es X.env).length = n := by rfl) (hst : (assignEach es X.env).findIdx? (·.1) = none := by rfl) : DG X (.Tuple es k pos) is (mgTup n gs) :=
  PG.wk (pg_or (pg_tup hc h hn hst) (pg_lst hc h hn hst)) fun v σ H Q ⟨B, env, S, d, Q0, R, hd, hm, k⟩ => by
    unfold mgTup at hm
    split at hm
    · cases hd with
      | tup hs ha => exact .inl ⟨_, _, rfl, SqT.up R.w.sub hs.sq, by rw [ha.length]; exact hm.1, B, env, S, _, Q0, R, ha, hm.2, k⟩
    · cases hd with
      | dk _ z => exact nomatch (show true = false from tm_dk z)
      | pr hs ha =>
        have ha := dqp_all ha
        exact .inl ⟨_, _, rfl, SqT.up R.w.sub hs, by rw [ha.length, List.length_map]; exact hm.1, B, env, S, _, Q0, R, ha, hm.2, k⟩
    · cases hd with
      | lst hs ha => exact .inr ⟨_, _, rfl, .inl (Rd.up R.w.sub hs), by rw [ha.length]; exact hm.1, B, env, S, _, Q0, R, ha, hm.2, k⟩
    · exact hm.elim

/-! ### list comprehensions -/
def hide1 : SV → SV
  | .own _ d => .own false d
  | r => r
def wipeE (env : En) : List Nat → En
  | [] => env.map hide1
  | v :: vs => (wipeE env vs).set v .no
theorem Rel.hide {K : PySem.W.Frag} {B : Bs} {env : En} {S H : Hp} {σ : L2.St} (R : Rel K B env S σ H) : Rel K B (env.map hide1) S σ H := by
  have o : ∀ {i : Nat} {b : Bool} {d : Da}, (env.map hide1)[i]? = some (.own b d) → ∃ c, env[i]? = some (.own c d) := fun {i b d} h => by
    rw [List.getElem?_map] at h
    cases e : env[i]? with
    | none => rw [e] at h; cases h
    | some sv =>
      rw [e] at h
      cases sv <;> cases h
      exact ⟨_, rfl⟩
  have ob : ∀ {i : Nat} {d : Da}, (env.map hide1)[i]? = some (.bor d) → env[i]? = some (.bor d) := fun {i d} h => by
    rw [List.getElem?_map] at h
    cases e : env[i]? with
    | none => rw [e] at h; cases h
    | some sv =>
      rw [e] at h
      cases sv <;> cases h
      rfl
  refine ⟨R.w, by rw [List.length_map]; exact R.len, fun i d h => ?_, fun i h => ?_, fun i b d h => ?_, fun i j b c d e p h1 h2 h3 h4 => ?_, fun i d h => R.bor i d (ob h), fun i j b d e p h1 h2 h3 h4 => ?_, R.binj⟩
  · rw [List.getElem?_map] at h
    cases e : env[i]? with
    | none => rw [e] at h; cases h
    | some sv =>
      rw [e] at h
      cases sv <;> cases h
      exact R.slot i d e
  · rw [List.getElem?_map] at h
    cases e : env[i]? with
    | none => rw [e] at h; cases h
    | some sv =>
      rw [e] at h
      cases sv <;> cases h
      exact R.dl i e
  · obtain ⟨c, e⟩ := o h
    exact R.own i c d e
  · obtain ⟨b', e1⟩ := o h1
    obtain ⟨c', e2⟩ := o h2
    exact R.dist i j b' c' d e p e1 e2 h3 h4
  · obtain ⟨b', e1⟩ := o h1
    exact R.obd i j b' d e p e1 (ob h2) h3 h4
theorem Rel.wipe {K : PySem.W.Frag} {B : Bs} {env : En} {S H : Hp} {σ : L2.St} (R : Rel K B env S σ H) : ∀ vs : List Nat, Rel K B (wipeE env vs) S (wipe σ vs) H
  | [] => R.hide
  | v :: vs => by
    have ih := Rel.wipe R vs
    show Rel K B ((wipeE env vs).set v .no) S ((L2.wipe σ vs).set v none) H
    by_cases h : v < (wipeE env vs).length
    · exact ih.setN h
    · rw [List.set_eq_of_length_le (by omega), List.set_eq_of_length_le (by rw [← ih.len]; omega)]
      exact ih
theorem wipe_get (σ : L2.St) : ∀ (vs : List Nat) (j : Nat), (L2.wipe σ vs)[j]? = if j ∈ vs then (if j < σ.length then some none else none) else σ[j]?
  | [], j => by simp [L2.wipe]
  | v :: vs, j => by
    unfold L2.wipe
    by_cases e : v = j
    · subst e
      by_cases h : v < σ.length
      · rw [List.getElem?_set_self (by rw [wipe_length]; exact h)]; simp [h]
      · rw [List.getElem?_eq_none (by rw [List.length_set, wipe_length]; omega)]; simp [h]
    · rw [List.getElem?_set_ne e, wipe_get σ vs j]
      have : (j ∈ v :: vs) ↔ j ∈ vs := by simp [Ne.symm e]
      simp only [this]
theorem wipe_off {σ σ2 : L2.St} {vs is : List Nat} (h : Off is (wipe σ vs) σ2) (hi : ∀ i ∈ is, i ∈ vs) : wipe σ2 vs = wipe σ vs := by
  apply List.ext_getElem?
  intro j
  have hl : σ2.length = σ.length := by rw [h.1, wipe_length]
  rw [wipe_get, wipe_get, hl]
  by_cases hj : j ∈ vs
  · rw [if_pos hj, if_pos hj]
  · rw [if_neg hj, if_neg hj, h.2 j (fun z => hj (hi j z)), wipe_get, if_neg hj]
def lcGo (env : En) (g : MG) (mt : MT) (me : ME) : List Da → List Da → (List Da → Prop) → Prop
  | [], acc, Q => Q acc
  | d :: ds, acc, Q => g d env fun e2 => mt e2 fun b e3 => if b = true then me e3 fun r _ => (match r with
      | .val x => lcGo env g mt me ds (acc ++ [x]) Q
      | .own _ x => lcGo env g mt me ds (acc ++ [x]) Q
      | _ => False) else lcGo env g mt me ds acc Q
def noOwn (env : En) (vs : List Nat) : Prop := ∀ i ∈ vs, match env[i]? with
  | some (.own _ _) => False
  | _ => True
def mLc (vs : List Nat) (mi : ML) (g : MG) (mt : MT) (me : ME) : ME := fun env Q => mi env fun ds e1 => (ds.length ≤ 1000000 ∧ noOwn e1 vs) ∧ lcGo (wipeE e1 vs) g mt me ds [] fun acc => Q (.own true (.list acc)) e1
def mYes : MT := fun env Q => Q true env
abbrev DTs (X : Cx) (ifs : List Expr) (m : MT) : Prop := PTs X ifs (tT X.K m)
theorem PTs.wk {ifs : List Expr} {t t' : TT} (p : PTs X ifs t) (h : ∀ σ H Q, t' σ H Q → t σ H Q) : PTs X ifs t' := ⟨fun pins s σ H Q I h' => p.run pins s σ H Q I (h σ H Q h')⟩
theorem dts_nil : DTs X [] mYes := PTs.wk pts_nil fun σ H Q ⟨B, env, S, Q0, R, h, k⟩ => k _ _ h S H .refl R
theorem dts_one {c : Expr} {m : MT} (h : DT X c m) : DTs X [c] m := pts_one h
/-- an object that no slot owns is changed -/
theorem Rel.other {K : PySem.W.Frag} {B : Bs} {env : En} {S H : Hp} {σ : L2.St} {D : Addr} {o : HO} (R : Rel K B env S σ H) (hB : B.H D = none) (hS : S D = none) (hn : ∀ (i : Nat) (sv : SV), env[i]? = some sv → OB sv → σ[i]? ≠ some (some (.ref D))) : Rel K B env S σ (upd H D o) := by
  have nfp : ¬ FP B D := R.w.nfp hB
  have w : Wd B S (upd H D o) := by
    refine ⟨fun a x e => ?_, R.w.bS, fun a x f e => ?_, R.w.bN, fun q l e => ?_⟩
    · have q : a ≠ D := fun z => by subst z; rw [hS] at e; cases e
      rw [upd_ne q]; exact R.w.sub a x e
    · have q : a ≠ D := fun z => by subst z; rw [hB] at e; cases e
      rw [upd_ne q]; exact R.w.bH a x f e
    · obtain ⟨d1, d2⟩ := R.w.deal q l e
      exact ⟨d1.up (upd_ne fun z => nfp ⟨q, l, e, .inl z.symm⟩) (upd_ne fun z => nfp ⟨q, l, e, .inr z.symm⟩), d2⟩
  refine ⟨w, R.len, R.slot, R.dl, fun i b d h => ?_, R.dist, fun i d h => ?_, R.obd, R.binj⟩
  · obtain ⟨p, a, b', c, o', d2, d3⟩ := R.own i b d h
    have nq : p ≠ D := fun z => by subst z; exact hn i _ h trivial a
    exact ⟨p, a, b', c, o', by rw [upd_ne nq]; exact d2, d3⟩
  · obtain ⟨p, q, a, b', c, o', d2, d3⟩ := R.bor i d h
    have nq : p ≠ D := fun z => by subst z; exact hn i _ h trivial a
    exact ⟨p, q, a, b', c, o', by rw [upd_ne nq]; exact d2, d3⟩
theorem wipeE_own {env : En} : ∀ {vs : List Nat} {i : Nat} {b : Bool} {d : Da}, (wipeE env vs)[i]? = some (.own b d) → b = false
  | [], i, b, d, h => by
    unfold wipeE at h
    rw [List.getElem?_map] at h
    cases e : env[i]? with
    | none => rw [e] at h; cases h
    | some sv =>
      rw [e] at h
      cases sv <;> cases h
      rfl
  | v :: vs, i, b, d, h => by
    unfold wipeE at h
    rcases getElem?_setp h with ⟨e2, e3⟩ | ⟨e2, e3⟩
    · cases e3
    · exact wipeE_own e3
/-- what is kept through a comprehension's turns -/
structure LcI (K : PySem.W.Frag) (B : Bs) (e1 : En) (S1 H1 : Hp) (σ : L2.St) (D : Addr) (acc : List Da) (S' H' : Hp) : Prop where
  r1 : Rel K B e1 S' σ H'
  up : ∀ a o, S1 a = some o → S' a = some o
  fr : ∀ a o, ¬ FP B a → H1 a = some o → H' a = some o
  fz : ∀ a o, ¬ FP B a → H1 a = some o → S1 a = none → S' a = none
  dn : S' D = none
  dd : ∃ us, H' D = some (.lst us) ∧ DqAll K S' us acc
/-- nothing is frozen -/
def Nf (B : Bs) (S H S' : Hp) : Prop := ∀ a o, ¬ FP B a → H a = some o → S a = none → S' a = none
theorem LcI.go {K : PySem.W.Frag} {B : Bs} {e1 : En} {S1 H1 : Hp} {σ : L2.St} {D : Addr} {acc : List Da} {S' H' S2 H2 : Hp} (I : LcI K B e1 S1 H1 σ D acc S' H') (hBD : B.H D = none) (w : Wd B S2 H2) (st : Stp B S' H' S2 H2) (nf : Nf B S' H' S2) : LcI K B e1 S1 H1 σ D acc S2 H2 := by
  obtain ⟨us, hu, du⟩ := I.dd
  have nD : ¬ FP B D := w.nfp hBD
  refine ⟨I.r1.stp w st fun i sv p a ob c => ?_, fun a o e => st.1 a o (I.up a o e), fun a o f e => st.2 a o f (I.fr a o f e), fun a o f e n => nf a o f (I.fr a o f e) (I.fz a o f e n), nf D _ nD hu I.dn, us, st.2 _ _ nD hu, DqAll.up st.1 _ _ du⟩
  obtain ⟨p', d, a', b', c', _, d2, _⟩ := I.r1.ob a ob
  rw [c] at a'; cases a'
  exact nf p _ (w.nfp b') d2 c'
theorem nf_of {B : Bs} {σ : L2.St} {env env' : En} {S H S' H' : Hp} (h : ∀ (i : Nat) (d : Da), env[i]? ≠ some (.own true d)) (st : Stq B σ env S H env' S' H') : Nf B S H S' := fun a o f e n => by
  rcases st.fz a o f e n with z | ⟨i, d, z, _⟩
  · exact z
  · exact absurd z (h i d)
theorem lc_run {own : List (Str × Nat)} {is : List Nat} {mi : ML} {g : MG} {mt : MT} {me : ME} (his : ∀ i ∈ is, i ∈ own.map (·.2)) : ∀ σ H Q, tE X.K (mLc (own.map (·.2)) mi g mt me) σ H Q → tLc (tI X.K mi) (tG X.K is g) (tT X.K mt) (tE X.K me) (own.map (·.2)) σ H Q := fun σ H Q ⟨B, env, S, Q0, R, hm, k⟩ => by
  refine ⟨B, env, S, _, R, hm, fun ds e1 q1 S1 H1 J st1 R1 wk => ?_⟩
  obtain ⟨⟨hlen, no⟩, q⟩ := q1
  intro D hD
  have hBD := R1.w.bnone hD
  have hSD := R1.w.snone hD
  have hnD : ∀ (i : Nat) (sv : SV), e1[i]? = some sv → OB sv → σ[i]? ≠ some (some (.ref D)) := R1.fresh hD
  have nD : ¬ FP B D := R1.w.nfp hBD
  refine ⟨fun i m H' => m = ds.length - i ∧ i ≤ ds.length ∧ ∃ acc S', acc.length ≤ i ∧ LcI X.K B e1 S1 H1 σ D acc S' H' ∧ lcGo (wipeE e1 (own.map (·.2))) g mt me (ds.drop i) acc fun acc => Q0 (.own true (.list acc)) e1,
    ⟨ds.length, rfl, Nat.zero_le _, [], S1, Nat.le_refl _, ⟨R1.alloc hD, fun _ _ z => z, fun a o _ z => upd_sub hD a o z, fun _ _ _ _ z => z, hSD, [], upd_same, .nil⟩, q⟩, ?_⟩
  rintro i m H' ⟨rfl, hil, acc, S', ha, I, go⟩
  by_cases hlt : i < ds.length
  · refine .inr ?_
    have hd : ds[i]? = some ds[i] := List.getElem?_eq_getElem hlt
    have ed : ds.drop i = ds[i] :: ds.drop (i + 1) := List.drop_eq_getElem_cons hlt
    rw [ed, lcGo] at go
    obtain ⟨wg, _⟩ := wk S' H' I.up I.r1.w
    obtain ⟨g1, g2⟩ := wg i _ hd
    refine ⟨g1, fun H'' => ∃ acc S'', acc.length ≤ i + 1 ∧ LcI X.K B e1 S1 H1 σ D acc S'' H'' ∧ lcGo (wipeE e1 (own.map (·.2))) g mt me (ds.drop (i + 1)) acc fun acc => Q0 (.own true (.list acc)) e1,
      fun H'' z => ⟨ds.length - (i + 1), by omega, rfl, hlt, z⟩, fun x H2 y => ?_⟩
    obtain ⟨S2, r2, kd, dx⟩ := g2 x H2 y
    have Rb : Rel X.K B (wipeE e1 (own.map (·.2))) S' (wipe σ (own.map (·.2))) H' := I.r1.wipe _
    obtain ⟨Rb2, stb2⟩ := r2 _ _ Rb
    have I2 := I.go hBD Rb2.w stb2.s fun a o _ e n => kd a o e n
    refine ⟨B, wipeE e1 (own.map (·.2)), S2, _, _, Rb2, dx, go, fun e2 q2 σ2 R2 off ow => ⟨wipe_off off his, ?_⟩⟩
    have n2 : ∀ (i : Nat) (d : Da), e2[i]? ≠ some (.own true d) := fun i d z => by cases wipeE_own (ow i true d z)
    refine ⟨B, e2, S2, _, R2, q2, fun b e3 q3 S3 H3 st3 R3 => ?_⟩
    have I3 := I2.go hBD R3.w st3.s (nf_of n2 st3)
    have n3 : ∀ (i : Nat) (d : Da), e3[i]? ≠ some (.own true d) := fun i d z => n2 i d (st3.ow i _ z trivial)
    cases b with
    | false =>
      rw [if_neg Bool.false_ne_true] at q3
      refine iteF ?_
      exact ⟨acc, S3, by omega, I3, q3⟩
    | true =>
      rw [if_pos rfl] at q3
      refine iteT ?_
      refine ⟨B, e3, S3, _, R3, q3, fun r e4 q4 v S4 H4 st4 R4 ir => ?_⟩
      have fin : ∀ {S5 : Hp} {y : Da}, Stq B σ2 e3 S3 H3 e4 S5 H4 → Rel X.K B e4 S5 σ2 H4 → Dq X.K S5 v y → lcGo (wipeE e1 (own.map (·.2))) g mt me (ds.drop (i + 1)) (acc ++ [y]) (fun acc => Q0 (.own true (.list acc)) e1) →
          ∃ acc_1, H4 D = some (.lst acc_1) ∧ acc_1.length < sizeLine ∧ ∃ acc S'', acc.length ≤ i + 1 ∧ LcI X.K B e1 S1 H1 σ D acc S'' (upd H4 D (.lst (acc_1 ++ [v]))) ∧ lcGo (wipeE e1 (own.map (·.2))) g mt me (ds.drop (i + 1)) acc fun acc => Q0 (.own true (.list acc)) e1 := fun {S5 y} st5 R5 dy g5 => by
        have I5 := I3.go hBD R5.w st5.s (nf_of n3 st5)
        obtain ⟨us, hu, du⟩ := I5.dd
        refine ⟨us, hu, by rw [du.length]; exact lt_sz (by omega), acc ++ [y], S5, by rw [List.length_append]; exact Nat.succ_le_succ ha, ⟨I5.r1.other hBD I5.dn hnD, I5.up, fun a o f e => ?_, I5.fz, I5.dn, us ++ [v], upd_same, du.app (.cons dy .nil)⟩, g5⟩
        rw [upd_ne (ne_of_none e hD)]
        exact I5.fr a o f e
      cases r with
      | val y => exact fin st4 R4 ir q4
      | own bb y =>
        obtain ⟨S5, st5, R5, dp⟩ := IsR.frz st4 R4 ir
        exact fin st5 R5 dp q4
      | no => exact ir.elim
      | deal => exact q4.elim
      | bor d => exact q4.elim
      | res b d ids => exact q4.elim
  · have e : i = ds.length := by omega
    subst e
    rw [List.drop_length, lcGo] at go
    obtain ⟨us, hu, du⟩ := I.dd
    refine .inl ⟨(wk S' H' I.up I.r1.w).2 _ (Nat.le_refl _), ?_⟩
    have st : Stq B σ e1 S1 H1 e1 S' H' := ⟨⟨I.up, I.fr⟩, fun _ _ z _ => z, fun a o f e n => .inl (I.fz a o f e n)⟩
    refine k _ e1 go (.ref D) S' H' (st1.trans st) I.r1 (IsR.back R.w st1 ?_)
    exact ⟨rfl, D, rfl, ⟨hBD, I.dn, _, hu, .lst du⟩, hD, hnD⟩
theorem de_lc {elt tg iter : Expr} {ifs : List Expr} {scope : Scope} {own : List (Str × Nat)} {is : List Nat} {pos : Pos} {mi : ML} {g : MG} {mt : MT} {me : ME} (hc : X.calm = true) (hN : X.N.Nodup) (hi : DI X tg iter mi) (ok : BlkOk X.N X.env.scope scope own)
    (hg : ∀ (s : Shared) (H : Hp) (C : Addr) (cl : List (Str × Addr)) (fp : List Addr), DG (X.blk s H scope (compEnvC scope cl C X.env) fp) tg is g)
    (ht : ∀ (s : Shared) (H : Hp) (C : Addr) (cl : List (Str × Addr)) (fp : List Addr), DTs (X.blk s H scope (compEnvC scope cl C X.env) fp) ifs mt)
    (he : ∀ (s : Shared) (H : Hp) (C : Addr) (cl : List (Str × Addr)) (fp : List Addr), DE (X.blk s H scope (compEnvC scope cl C X.env) fp) elt me)
    (his : ∀ i ∈ is, i ∈ own.map (·.2) := by decide) (hs : ∀ x, foldedSetIterable iter X.env x = pure x := by intro _; rfl) :
    DE X (.ListComp elt [⟨tg, iter, ifs, 0⟩] scope pos) (mLc (own.map (·.2)) mi g mt me) := (pe_lc (wi := tI X.K mi) (g := tG X.K is g) (tt := tT X.K mt) (te := tE X.K me) hc hN hi ok hg ht he hs).wk (lc_run his)
end
end Pq

set_option Elab.async false
set_option linter.all false
set_option maxRecDepth 100000
set_option maxHeartbeats 4000000
namespace Pq
open PySem PySem.Spec PyProof.Rows L2
/-! ### a def's promise where no repr is under way: what repr(x) asks -/
/-- room for k calls, and no repr under way -/
structure RmG (k : Nat) (A : Around) : Prop where
  rm : Room k A
  gd : A.guards = some []
theorem RmG.mono {j k : Nat} {A : Around} (r : RmG k A) (h : j ≤ k) : RmG j A := ⟨r.rm.mono h, r.gd⟩
theorem RmG.u1 {k : Nat} {A : Around} (r : RmG k A) : A.units + 1 < cLine := by have := r.rm.un; omega
theorem RmG.units {k : Nat} {A : Around} (r : RmG k A) : A.units + 64 < cLine := r.rm.units
structure FnG (P : Program) (w : World) (K : PySem.W.Frag) (mg : Str → Option Value) (base : Heap) (CX : CXT) (k : Nat) (f : Addr) (fd : FuncData) (ps : List Str) (sp : Sp) : Prop where
  len : ∀ (vs : List V) (H : Hp) (Q : VK) (E : XK), sp vs H Q E → vs.length = ps.length
  run : ∀ (A : Around) (outs : List Env) (sh : Shared) (H : Hp) (ags : Args) (us : List Value) (vs : List V) (Q : VK) (E : XK), RmG k A → Env0 P w K mg base A outs sh H → BindsTo sh fd ags (ps.zip us) → Vals vs us → sp vs H Q E →
    codeAny (model P w) A (.call (.ref f) ags) (CR CX outs P w H sh Q E) sh
theorem fn_g {CX : CXT} {P : Program} {w : World} {K : PySem.W.Frag} {mg : Str → Option Value} {base : Heap} {k : Nat} {f : Addr} {fd : FuncData} {ps : List Str} {sp : Sp} (F : FnOk P w K mg base CX k f fd ps sp) : FnG P w K mg base CX k f fd ps sp :=
  ⟨F.len, fun A outs sh H ags us vs Q E rg => F.run A outs sh H ags us vs Q E rg.rm⟩
theorem FnG.mono {CX : CXT} {P : Program} {w : World} {K : PySem.W.Frag} {mg : Str → Option Value} {base : Heap} {j k : Nat} {f : Addr} {fd : FuncData} {ps : List Str} {sp : Sp} (F : FnG P w K mg base CX j f fd ps sp) (h : j ≤ k) : FnG P w K mg base CX k f fd ps sp :=
  ⟨F.len, fun A outs sh H ags us vs Q E rg => F.run A outs sh H ags us vs Q E (rg.mono h)⟩
/-- by its body -/
theorem fun_g {P : Program} {w : World} {K : PySem.W.Frag} {mg : Str → Option Value} {base : Heap} {x qual : Str} {st : Stmt} {f : Addr} {fd : FuncData} {N ps : List Str} {k : Nat} {sp : Sp} (Fu : Fun K x qual st f fd) (sc : FnScope N ps (defScope st)) (len : ∀ (vs : List V) (H : Hp) (Q : VK) (E : XK), sp vs H Q E → vs.length = ps.length)
    (body : ∀ (cdv : Value) (A : Around) (outs : List Env) (sh : Shared) (H : Hp) (vs : List V) (Q : VK) (E : XK), RmG k (A.deeper (envOfC qual (defScope st) sh.heap.objs.size f cdv)) → sp vs H Q E →
      ∃ t, PSs (cxOf CX0 P w K mg base N qual (defScope st) f cdv A outs sh H E).nox (defBody st) t ∧ t { nx := fun _ H' => Q .non H', rt := Q } (L2.start N vs) H) : FnG P w K mg base CX0 (k + 1) f fd ps sp := by
  obtain ⟨oc, od, kV, dc, pm, an, cdv, ct, sl, rfl, look, code⟩ := Fu.ex
  refine ⟨len, fun A outs sh H ags us vs Q E rg env0 bnd rel hyp => ?_⟩
  have lenV := len _ _ _ _ hyp
  have kin : K.In sh.heap := env0.mod.kin.keeps fun b o e => (env0.bs b o e).1
  have noLim : sh.heap.NoLimit := env0.mod.nolimit.keeps fun b o e => (env0.bs b o e).1
  have kinds : ∀ y ∈ ps.zip us, (defScope st).names.lookup y.1 = some .local ∨ ((defScope st).names.lookup y.1 = some .cell ∧ ((cellsFrom (sh.heap.objs.size + 1) (defScope st).names []).lookup y.1).isSome = true) := by
    rintro ⟨nm, val⟩ hy
    rcases sc.par nm (List.of_mem_zip hy).1 with z | z
    · exact Or.inl z
    · exact Or.inr ⟨z, PySem.W.cellsFrom_some _ _ _ (Or.inl z)⟩
  refine codeAny_call_function rg.rm.depth (kin _ _ look) rfl sc.co sc.gen rfl (PySem.W.codeRec_of kin code) (bnd _ _ _ _ ?_)
  refine wpAny_newFunctionEnv_cells sc.kind kinds fun env eqn s2 step => ?_
  subst eqn
  refine ⟨noLim.keeps step.toInCall.keep, codeAny_func ?_⟩
  obtain ⟨t, walk, holds⟩ := body cdv A outs sh H vs Q E ⟨rg.rm.deeper _, rg.gd⟩ hyp
  have inv : Inv (cxOf CX0 P w K mg base N qual (defScope st) f cdv A outs sh H E) [] (L2.start N vs) H s2 := inv_start sc rg.rm.hd env0 lenV rel step
  refine wpAny_mono (walk.nox.run [] s2 (L2.start N vs) H _ inv holds) (fun flow s3 done => ?_) fun e s3 done => done
  have leave : ∀ {σ3 : L2.St} {H3 : Hp} {v : V} {u : Value}, Inv (cxOf CX0 P w K mg base N qual (defScope st) f cdv A outs sh H E) [] σ3 H3 s3 → RelV v u → Q v H3 → CE outs P w H sh Q u s3 := fun {σ3 H3 v u} I3 rv z => ⟨v, H3, I3.os, I3.bare, I3.base, I3.hok, rv, z⟩
  cases flow with
  | ret u =>
    obtain ⟨v, σ3, H3, I3, rv, z⟩ := done
    exact leave I3 rv z
  | next =>
    obtain ⟨σ3, H3, I3, z⟩ := done
    exact leave (v := .non) (u := .none) I3 rfl z
  | brk =>
    obtain ⟨_, _, _, z⟩ := done
    exact z.elim
  | cont =>
    obtain ⟨_, _, _, z⟩ := done
    exact z.elim
section
variable {X : Cx}
/-- f(e, ..) -/
theorem pe_callG {k : Nat} {f : Addr} {fd : FuncData} {ps : List Str} {sp : Sp} {x : Str} {e : Expr} {es : List Expr} {p pos : Pos} {t : TA} (F : FnG X.prog X.w X.K X.mg X.base CX0 k f fd ps sp) (rg : RmG k X.A) (gl : Gl X x) (mx : X.mg x = some (.ref f)) (kp : PySem.W.keepIn X.K (.ref f) = true) (bd : Binds X.K fd ps [])
    (ar : PA X (e :: es) t) (hdb : (x == ("__debug__" : Str)) = false := by decide) (he : starEach (e :: es) X.env = (false, eval e X.env) :: starEach es X.env := by rfl) (hpl : (backTo pos (starEach es X.env)).any (·.1) = false := by rfl) :
    PE X (.Call (.Name x p) (e :: es) [] pos) (fun σ H Q => t σ H fun vs H1 => sp vs H1 Q E0) := by
  refine ⟨fun pins sh σ H Q I wish => wpAny_Call_Name_kw (ld_glob I gl mx ?_ hdb)⟩
  refine PySem.W.callWith_K (h₀ := X.base) I.ok.mod.kin kp (thn (ar.run pos pins sh σ H _ I wish) fun us s2 ⟨vs, H2, I2, rel, z⟩ => ⟨I2.kIn, ?_⟩) he hpl
  have lenU : (us ++ []).length = ps.length := by rw [List.append_nil, ← rel.length]; exact F.len _ _ _ _ z
  have bnd := bd s2 us I2.kIn lenU
  rw [List.append_nil] at bnd
  refine wpAny_call (codeAny_mono (F.run X.A X.stack s2 H2 ⟨us, []⟩ us vs Q E0 rg I2.env0 bnd rel z) fun res s3 done => ?_)
  cases res with
  | error e => exact pass0 pins σ H2 s2 e s3 I2 done
  | ok flow =>
    cases flow with
    | ret u => exact I2.after done
    | next => exact done.elim
    | brk => exact done.elim
    | cont => exact done.elim
end
/-! ### the head -/
theorem law_g {P : Program} {w : World} {K : PySem.W.Frag} {mg mb : Str → Option Value} {k : Nat} {fa a : Addr} {fd : FuncData} {x : Str} {sp : Sp} {s0 : Shared} {us : List Value} {ns : List Int}
    (kin : K.In s0.heap) (top : s0.heap.Ns mainGlobals mg) (bi : s0.heap.Ns builtinsNs mb) (boot : ∀ x : Str, x ≠ "__name__" → mb x = bootBuiltins x) (noLim : s0.heap.NoLimit) (gens : s0.gens = #[])
    (at_a : s0.heap.get? a = some { cls := .type "list", data := .seq us.toArray }) (ivs : IntsAre us ns) (few : ns.length ≤ sizeLine) (rg : RmG k callerA)
    (F : ∀ base : Heap, K.In base → base.Ns mainGlobals mg → FnG P w K mg base CX0 k fa fd [x] sp) (bnd : ∀ (sh : Shared) (u : Value), BindsTo sh fd ⟨[u], []⟩ [(x, u)])
    (wish : ∀ H : Hp, Only H → SqL K H a (ns.map V.int) → sp [.ref a] H (fun v _ => v = .bl true) fun _ _ _ => False) :
    codeAny (model P w) callerA (.call (.ref fa) ⟨[.ref a], []⟩) (fun r s2 => r = .ok (.ret (.bool true)) ∧ OldK s0.heap s2.heap ∧ s2.os = s0.os ∧ AllBare s2.gens) s0 := by
  have rels := vals_ints ivs
  have lenU := ivs.length
  have main : ∀ H : Hp, Only H → SqL K H a (ns.map V.int) → HOk P w H s0.heap → (∀ b, H b ≠ none → b = a) → (H a ≠ none → K.lookup a = none) →
      codeAny (model P w) callerA (.call (.ref fa) ⟨[.ref a], []⟩) (fun r s2 => r = .ok (.ret (.bool true)) ∧ OldK s0.heap s2.heap ∧ s2.os = s0.os ∧ AllBare s2.gens) s0 := by
    intro H only seq hok onlyA notK
    have toBase : ∀ {b : Addr} {o : Obj}, s0.heap.get? b = some o → H b = none → (hidT s0.heap H).get? b = some o := fun e n => hidT_get e n
    have noDict : ∀ {b : Addr} {o : Obj} {es : Array DictEntry} {ep : Nat}, s0.heap.get? b = some o → o.data = .dict es ep → H b = none := by
      intro b o es ep e d
      cases q : H b with
      | none => rfl
      | some u =>
        have same : b = a := onlyA b (by rw [q]; simp)
        subst same
        rw [at_a] at e
        cases e
        have d2 : Data.seq us.toArray _ = Data.dict es ep := d
        cases d2
    have nsB : ∀ {b : Addr} {m : Str → Option Value}, s0.heap.Ns b m → (hidT s0.heap H).Ns b m := fun {b m} ⟨o, es, ep, e, d, r⟩ => ⟨o, es, ep, toBase e (noDict e d), d, r⟩
    have kinB : K.In (hidT s0.heap H) := by
      intro b o e
      refine toBase (kin b o e) ?_
      cases q : H b with
      | none => rfl
      | some u =>
        have same : b = a := onlyA b (by rw [q]; simp)
        subst same
        rw [notK (by rw [q]; simp)] at e
        cases e
    have md : Mod K mg (hidT s0.heap H) := ⟨kinB, nsB top, ⟨mb, nsB bi, boot⟩, let ⟨mc, h1, h2⟩ := noLim; ⟨mc, nsB h1, h2⟩⟩
    have env0 : Env0 P w K mg (hidT s0.heap H) callerA [] s0 H := ⟨rfl, md, fun b o e => of_hidT e, Nat.le_of_eq (hidT_size _ _), trivial, fun b hb => absurd (show b ∈ ([] : List Addr) from hb) (by simp), hok, .of_eq gens⟩
    refine codeAny_mono ((F _ kinB (nsB top)).run callerA [] s0 H ⟨[.ref a], []⟩ [.ref a] [.ref a] _ _ rg env0 (bnd s0 (.ref a)) (.cons rfl .nil) (wish H only seq)) fun res s2 done => ?_
    cases res with
    | error e => exact (show False from done).elim
    | ok flow =>
      cases flow with
      | next => exact done.elim
      | brk => exact done.elim
      | cont => exact done.elim
      | ret u =>
        obtain ⟨v, H2, os, bare, un, hok2, rv, z⟩ := done
        have z : v = .bl true := z
        subst z
        obtain rfl : u = Value.bool true := rv
        refine ⟨rfl, OldK.of_keep fun b o e => ?_, os, bare⟩
        cases q : H b with
        | none => exact un.keep b o e q (by intro z; exact absurd (show b ∈ ([] : List Addr) from z) (by simp)) (by simp)
        | some u =>
          rcases only b with z | ⟨ob, xs, z⟩
          · rw [q] at z
            cases z
          · have z2 := un.frzs b ob _ z
            obtain ⟨e1, _⟩ := hok b _ z
            obtain ⟨e2, _⟩ := hok2 b _ z2
            rw [e] at e1
            cases e1
            exact e2
  cases look : K.lookup a with
  | some o =>
    have e := kin a o look
    rw [at_a] at e
    cases e
    refine main (fun _ => none) (fun _ => Or.inl rfl) (Or.inr ⟨_, us.toArray, _, look, rfl, rfl, rfl, by rw [List.size_toArray, lenU]; exact few, by simpa using rels⟩) (fun b u z => by have z2 : (none : Option HO) = some u := z; cases z2) (fun b z => absurd rfl z) fun z => absurd rfl z
  | none =>
    refine main (fun b => if b = a then some (.frz { cls := .type "list", data := .seq us.toArray } (.lst (ns.map V.int))) else none) (fun b => ?_) (Or.inl (Or.inr ⟨{ cls := .type "list", data := .seq us.toArray }, if_pos rfl⟩)) (fun b u z => ?_) (fun b z => ?_) fun _ => look
    · by_cases hb : b = a
      · exact Or.inr ⟨_, _, if_pos hb⟩
      · exact Or.inl (if_neg hb)
    · by_cases hb : b = a
      · have z2 := (if_pos hb).symm.trans z
        cases z2
        subst hb
        exact ⟨at_a, by rw [List.length_map]; exact few, us, _, rels, at_a⟩
      · have z2 := (if_neg hb).symm.trans z
        cases z2
    · by_cases hb : b = a
      · exact hb
      · exact absurd (if_neg hb) z
theorem walk_g {l : PySem.W.OpenLaw} {n k : Nat} {q : Program} {loose : List Str} {XP : (Str → Option Value) → Heap → Prop} {YP : World → Heap → Prop} {d : DefRec} {K : Params → PySem.W.Frag} {sp : World → Sp} {x : Str}
    (most : l.most = some n) (few : n ≤ sizeLine) (plain : d.params.defaults = []) (rg : RmG k callerA) (inK : ∀ (w : World) (h : Heap), YP w h → (K w.params).In h)
    (F : ∀ (w : World) (mg : Str → Option Value) (fa : Addr) (h : Heap), (K w.params).In h → h.Ns mainGlobals mg → mg d.name = some (.ref fa) →
      ∃ fd : FuncData, (∀ (sh : Shared) (u : Value), BindsTo sh fd ⟨[u], []⟩ [(x, u)]) ∧ ∀ base : Heap, (K w.params).In base → base.Ns mainGlobals mg → FnG l.prog w (K w.params) mg base CX0 k fa fd [x] (sp w))
    (wish : ∀ (w : World) (H : Hp) (a : Addr) (ns : List Int), ns.length ≤ n → Only H → SqL (K w.params) H a (ns.map V.int) → sp w [.ref a] H (fun v _ => v = .bl true) fun _ _ _ => False) : PySem.W.WalkO q loose XP YP l.row.toRowW d [] (fun f vs => PySem.call f vs) := by
  refine Att.attach_call most plain fun w s9 s0 mg mb fa o pm cd dc a us ns G Y ho hd hcd named obj ivs len gens => ?_
  have kin := inK w _ Y
  obtain ⟨fd, bnd, hF⟩ := F w mg fa _ kin G.T.g named
  exact law_g kin G.T.g G.T.b G.T.builtins G.T.nolimit gens obj ivs (Nat.le_trans len few) rg hF bnd fun H only seq => wish w H a ns len only seq
end Pq

set_option Elab.async false
set_option linter.all false
set_option maxRecDepth 100000
set_option maxHeartbeats 4000000
namespace Pq
open PySem PySem.Spec PyProof.Rows L2
/-- what is wanted behind a statement -/
structure EM where
  nx : En → Prop
  rt : SV → Prop
  bk : En → Prop
  ct : En → Prop
abbrev MS := En → EM → Prop
def IsRet (K : PySem.W.Frag) (B : Bs) (S H : Hp) : SV → V → Prop
  | .val d, v => Dq K S v d
  | .own b d, v => b = true ∧ ∃ p, v = .ref p ∧ Own K B S H d p
  | .res b d ids, v => ids ≠ [] ∧ (if b = true then ∃ p, v = .ref p ∧ Own K B S H d p ∧ ∀ x ∈ ids, B.bo x.1 ≠ some p else Dq K S v d) ∧ ∀ x ∈ ids, ∃ q, B.bo x.1 = some q ∧ Own K B S H x.2 q
  | _, _ => False
/-- the data of a slot that knows alone -/
def dat : SV → Da
  | .own _ d => d
  | .bor d => d
  | _ => .none
theorem Rel.ob2 {K : PySem.W.Frag} {B : Bs} {env : En} {S : Hp} {σ : L2.St} {H : Hp} (R : Rel K B env S σ H) {i : Nat} {sv : SV} (h : env[i]? = some sv) (o : OB sv) : ∃ p, σ[i]? = some (some (.ref p)) ∧ Own K B S H (dat sv) p := by
  cases sv with
  | own b d => exact R.own i b d h
  | bor d =>
    obtain ⟨p, _, a, c⟩ := R.bor i d h
    exact ⟨p, a, c⟩
  | _ => exact o.elim
abbrev Up (S S' : Hp) : Prop := ∀ a o, S a = some o → S' a = some o
def Nx (K : PySem.W.Frag) (B : Bs) (S : Hp) (P : En → Prop) (Q : L2.St → Hp → Prop) : Prop := ∀ env' σ' S' H', P env' → Rel K B env' S' σ' H' → Up S S' → Q σ' H'
def Rt (K : PySem.W.Frag) (B : Bs) (P : SV → Prop) (Q : VK) : Prop := ∀ r v S' H', P r → Wd B S' H' → IsRet K B S' H' r v → Q v H'
structure Eok (K : PySem.W.Frag) (B : Bs) (S : Hp) (E : EM) (D : Ends) : Prop where
  nx : Nx K B S E.nx D.nx
  rt : Rt K B E.rt D.rt
  bk : Nx K B S E.bk D.bk
  ct : Nx K B S E.ct D.ct
theorem Nx.up {K : PySem.W.Frag} {B : Bs} {S S' : Hp} {P : En → Prop} {Q : L2.St → Hp → Prop} (u : Up S S') (h : Nx K B S P Q) : Nx K B S' P Q := fun e σ S2 H p R w => h e σ S2 H p R fun a o z => w a o (u a o z)
theorem Eok.up {K : PySem.W.Frag} {B : Bs} {S S' : Hp} {E : EM} {D : Ends} (u : Up S S') (h : Eok K B S E D) : Eok K B S' E D := ⟨h.nx.up u, h.rt, h.bk.up u, h.ct.up u⟩
def tSt (K : PySem.W.Frag) (m : MS) : TS := fun D σ H => ∃ B env S E, Rel K B env S σ H ∧ m env E ∧ Eok K B S E D
section
variable {X : Cx}
abbrev DSt (X : Cx) (st : Stmt) (m : MS) : Prop := PS X st (tSt X.K m)
abbrev DSs (X : Cx) (sts : List Stmt) (m : MS) : Prop := PSs X sts (tSt X.K m)
def msNext : MS := fun env E => E.nx env
def msSeq (m n : MS) : MS := fun env E => m env { E with nx := fun e => n e E }
theorem dss_nil : DSs X [] msNext := pss_nil.wk fun D σ H ⟨B, env, S, E, R, h, k⟩ => k.nx _ σ S H h R fun _ _ z => z
theorem dss_cons {st : Stmt} {rest : List Stmt} {m n : MS} (h1 : DSt X st m) (h2 : DSs X rest n) : DSs X (st :: rest) (msSeq m n) := (pss_cons h1 h2).wk fun D σ H ⟨B, env, S, E, R, h, k⟩ =>
  ⟨B, env, S, _, R, h, ⟨fun e σ' S' H' p R' u => ⟨B, e, S', E, R', p, k.up u⟩, k.rt, k.bk, k.ct⟩⟩
theorem dss_one {st : Stmt} {m : MS} (h : DSt X st m) : DSs X [st] m := pss_one h
theorem dst_pass {pos : Pos} : DSt X (.Pass pos) msNext := ps_pass.wk fun D σ H ⟨B, env, S, E, R, h, k⟩ => k.nx _ σ S H h R fun _ _ z => z
def msBrk : MS := fun env E => E.bk env
def msCont : MS := fun env E => E.ct env
theorem dst_break {pos : Pos} : DSt X (.Break pos) msBrk := ps_break.wk fun D σ H ⟨B, env, S, E, R, h, k⟩ => k.bk _ σ S H h R fun _ _ z => z
theorem dst_cont {pos : Pos} : DSt X (.Continue pos) msCont := ps_continue.wk fun D σ H ⟨B, env, S, E, R, h, k⟩ => k.ct _ σ S H h R fun _ _ z => z
/-! ### stores -/
def putR (i : Nat) (r : SV) (e : En) (Q : En → Prop) : Prop := match r with
  | .val d => i < e.length ∧ Q (e.set i (.val d))
  | .own b d => i < e.length ∧ Q (e.set i (.own b d))
  | _ => False
def msSet (i : Nat) (m : ME) : MS := fun env E => m env fun r e => putR i r e E.nx
theorem set_run {i : Nat} {m : ME} {te : TE} (hr : ∀ σ H Q, tE X.K m σ H Q → te σ H Q) : ∀ D σ H, tSt X.K (msSet i m) D σ H → tAsg te (gName i) D σ H := fun D σ H ⟨B, env, S, E, R, h, k⟩ =>
  hr σ H _ ⟨B, env, S, _, R, h, fun r e1 q v S1 H1 st R1 ir => by
    cases r with
    | val d => exact k.nx _ _ S1 H1 q.2 (R1.setV ir q.1) st.s.1
    | own b d =>
      obtain ⟨hb, p, rfl, o, _, hn⟩ := ir
      subst hb
      exact k.nx _ _ S1 H1 q.2 (R1.setO o hn q.1) st.s.1
    | no => exact q.elim
    | deal => exact q.elim
    | bor d => exact q.elim
    | res b d ids => exact q.elim⟩
theorem dst_set {i : Nat} {x : Str} {e : Expr} {m : ME} {pos' pos : Pos} (hN : X.N.Nodup) (he : DE X e m) (hi : X.N[i]? = some x := by rfl) (hx : Loc X.env.scope x := by first | exact Or.inl rfl | exact Or.inr rfl) (hs : swapsWith e (some (.Name x pos')) pos.line X.env = pure false := by rfl) (hf : X.fn x = true ∨ X.env.scope.names.lookup x = some .local := by first | exact .inl rfl | exact .inr rfl | assumption) :
    DSt X (.Assign [.Name x pos'] e pos) (msSet i m) := (ps_set hN hi hx he hs hf).wk (set_run fun _ _ _ z => z)
theorem dst_setLc {i : Nat} {y : Str} {py : Pos} {elt tg iter : Expr} {ifs : List Expr} {scope : Scope} {own : List (Str × Nat)} {is : List Nat} {pos spos : Pos} {mi : ML} {g : MG} {mt : MT} {me : ME} (hc : X.calm = true) (hN : X.N.Nodup) (hi : DI X tg iter mi) (ok : BlkOk X.N X.env.scope scope own)
    (hg : ∀ (s : Shared) (H : Hp) (C : Addr) (cl : List (Str × Addr)) (fp : List Addr), DG (X.blk s H scope (compEnvC scope cl C X.env) fp) tg is g)
    (ht : ∀ (s : Shared) (H : Hp) (C : Addr) (cl : List (Str × Addr)) (fp : List Addr), DTs (X.blk s H scope (compEnvC scope cl C X.env) fp) ifs mt)
    (he : ∀ (s : Shared) (H : Hp) (C : Addr) (cl : List (Str × Addr)) (fp : List Addr), DE (X.blk s H scope (compEnvC scope cl C X.env) fp) elt me)
    (hsw : swapsWith (.ListComp elt [⟨tg, iter, ifs, 0⟩] scope pos) (some (.Name y py)) spos.line X.env = pure true)
    (hy : X.N[i]? = some y := by rfl) (hyl : X.env.scope.names.lookup y = some .local := by rfl) (his : ∀ i ∈ is, i ∈ own.map (·.2) := by decide) (hs : ∀ x, foldedSetIterable iter X.env x = pure x := by intro _; rfl) :
    DSt X (.Assign [.Name y py] (.ListComp elt [⟨tg, iter, ifs, 0⟩] scope pos) spos) (msSet i (mLc (own.map (·.2)) mi g mt me)) :=
  (ps_setLc (wi := tI X.K mi) (g := tG X.K is g) (tt := tT X.K mt) (te := tE X.K me) hc hN hy hyl hsw hi ok hg ht he hs).wk (set_run (lc_run his))
/-- a tuple of targets -/
def msAsg (m : MP) (g : MG) : MS := fun env E => m env fun d e => g d e E.nx
theorem dst_asg {tg e : Expr} {is : List Nat} {m : MP} {g : MG} {pos : Pos} (he : DS X e m) (hg : DG X tg is g) (hs : swapsWithSole [tg] e pos.line X.env = pure false := by rfl) (hw : swappedStores [tg] e X.env = pure none := by rfl)
    (h1 : (assignEach [tg] X.env).map (·.2) = [assign tg X.env] := by rfl) : DSt X (.Assign [tg] e pos) (msAsg m g) := (ps_asg he hg hs hw h1).wk fun D σ H ⟨B, env, S, E, R, h, k⟩ =>
  ⟨B, env, S, _, R, h, fun d e1 q v S1 H1 st R1 dv => ⟨B, e1, S1, d, _, R1, dv, q, fun e2 q2 σ2 R2 _ _ => k.nx e2 σ2 S1 H1 q2 R2 st.s.1⟩⟩
def retR (r : SV) (Q : SV → Prop) : Prop := match r with
  | .val d => Q (.val d)
  | .own b d => Q (.own b d)
  | _ => False
def msRet (m : ME) : MS := fun env E => m env fun r _ => retR r E.rt
theorem dst_ret {e : Expr} {m : ME} {pos : Pos} (he : DE X e m) : DSt X (.Return (some e) pos) (msRet m) := (ps_ret he).wk fun D σ H ⟨B, env, S, E, R, h, k⟩ =>
  ⟨B, env, S, _, R, h, fun r e1 q v S1 H1 st R1 ir => by
    cases r with
    | val d => exact k.rt _ v S1 H1 q R1.w ir
    | own b d =>
      obtain ⟨hb, p, rfl, o, _, hn⟩ := ir
      exact k.rt _ _ S1 H1 q R1.w ⟨hb, p, rfl, o⟩
    | no => exact ir.elim
    | deal => exact q.elim
    | bor d => exact q.elim
    | res b d ids => exact q.elim⟩
/-! ### lists changed in place -/
def ownL (env : En) (i : Nat) : Prop := match env[i]? with
  | some (.own true (.list _)) => True
  | some (.bor (.list _)) => True
  | _ => False
theorem ownL_at {K : PySem.W.Frag} {B : Bs} {env : En} {S H : Hp} {σ : L2.St} {i : Nat} (R : Rel K B env S σ H) (h : ownL env i) : ∃ ds p vs, True ∧ σ[i]? = some (some (.ref p)) ∧ B.H p = none ∧ S p = none ∧ H p = some (.lst vs) ∧ DqAll K S vs ds := by
  have fin : ∀ {sv : SV} {ds : List Da}, OB sv → dat sv = .list ds → env[i]? = some sv → ∃ ds p vs, True ∧ σ[i]? = some (some (.ref p)) ∧ B.H p = none ∧ S p = none ∧ H p = some (.lst vs) ∧ DqAll K S vs ds := fun {sv ds} ob ed e => by
    obtain ⟨p, a, b, c, o, d2, d3⟩ := R.ob2 e ob
    rw [ed] at d3
    cases d3 with
    | lst d3 => exact ⟨ds, p, _, trivial, a, b, c, d2, d3⟩
  unfold ownL at h
  split at h
  · rename_i ds e
    exact fin (sv := .own true (.list ds)) trivial rfl e
  · rename_i ds e
    exact fin (sv := .bor (.list ds)) trivial rfl e
  · exact h.elim
/-- x.append(e) -/
def msApp (i : Nat) (m : MP) : MS := fun env E => ownL env i ∧ m env fun d e => match e[i]? with
  | some (.own true (.list ds)) => ds.length < 1000000 ∧ E.nx (e.set i (.own true (.list (ds ++ [d]))))
  | some (.bor (.list ds)) => ds.length < 1000000 ∧ E.nx (e.set i (.bor (.list (ds ++ [d]))))
  | _ => False
theorem ob_lst {K : PySem.W.Frag} {B : Bs} {e : En} {S1 H1 : Hp} {σ : L2.St} {i : Nat} {ds : List Da} {sv : SV} (R1 : Rel K B e S1 σ H1) (o : OB sv) (ed : dat sv = .list ds) (h : e[i]? = some sv) : ∃ p vs, σ[i]? = some (some (.ref p)) ∧ B.H p = none ∧ S1 p = none ∧ H1 p = some (.lst vs) ∧ DqAll K S1 vs ds := by
  obtain ⟨p, a, b, c, u, d2, d3⟩ := R1.ob2 h o
  rw [ed] at d3
  cases d3 with
  | lst d3 => exact ⟨p, _, a, b, c, d2, d3⟩
theorem own_same {K : PySem.W.Frag} {B : Bs} {env e : En} {S H S1 H1 : Hp} {σ : L2.St} {i : Nat} {ds : List Da} (st : Stq B σ env S H e S1 H1) (R1 : Rel K B e S1 σ H1) (h : e[i]? = some (.own true (.list ds))) : ∃ p vs, σ[i]? = some (some (.ref p)) ∧ B.H p = none ∧ S1 p = none ∧ H1 p = some (.lst vs) ∧ DqAll K S1 vs ds := by
  obtain ⟨p, a, b, c, o, d2, d3⟩ := R1.own i _ _ h
  cases d3 with
  | lst d3 => exact ⟨p, _, a, b, c, d2, d3⟩
theorem dst_app (i : Nat) {x : Str} {e : Expr} {m : MP} {p apos cpos pos : Pos} (he : DS X e m) (hN : X.N[i]? = some x := by rfl) (hv : Vis X.env.scope x := by first | exact Or.inl rfl | exact Or.inr (Or.inl rfl) | exact Or.inr (Or.inr rfl)) (hd : (x == ("__debug__" : Str)) = false := by decide)
    (hcd : (x == ("__classdict__" : Str)) = false := by decide) (hbase : attributeBase (.Name x p) "append" X.env (eval (.Name x p) X.env) = eval (.Name x p) X.env := by rfl)
    (hfew : ((backTo cpos (starEach [e] X.env)).all (fun x => !x.1) && (backToKw cpos (keywordEach [] X.env)).all (fun x => x.1.isSome) && decide ([e].length + ([] : List Keyword).length + (if ([] : List Keyword).isEmpty then 0 else 1) < 30)) = true := by rfl)
    (hline : (apos.endLine == cpos.line) = true := by rfl) (hs : starEach [e] X.env = (false, eval e X.env) :: starEach [] X.env := by rfl) (hplain : (backTo cpos (starEach [] X.env)).any (·.1) = false := by rfl)
    (hsw : swapsWith (.Call (.Attribute (.Name x p) "append" apos) [e] [] cpos) none pos.line X.env = pure false := by rfl) :
    DSt X (.Expr (.Call (.Attribute (.Name x p) "append" apos) [e] [] cpos) pos) (msApp i m) :=
  (ps_expr (pe_bm PySem.F.plainAttrs_list PySem.F.slot_list_append PySem.F.type_list_append mt_append (pe_var hN hv hd hcd) (pa_cons he pa_nil hs) hbase hfew hline hs hplain) hsw).wk fun D σ H ⟨B, env, S, E, R, h, k⟩ => by
    obtain ⟨ds0, p0, vs0, e0, a0, _, _, h0, _⟩ := ownL_at R h.1
    refine ⟨.ref p0, a0, .inl ⟨rfl, vs0, .inl (.inl h0)⟩, B, env, S, _, R, h.2, fun d e1 q v S1 H1 st R1 dv => ?_⟩
    have fin : ∀ {sv : SV} {ds : List Da} {P : Prop}, OB sv → dat sv = .list ds → e1[i]? = some sv → ds.length < 1000000 → E.nx (e1.set i (kin sv (.list (ds ++ [d])))) → (∀ vs' : List V, H1 p0 = some (.lst vs') → vs'.length < sizeLine → D.nx σ (upd H1 p0 (.lst (vs' ++ [v]))) → P) → P := fun {sv ds P} ob ed e2 hl hn g => by
      obtain ⟨p1, vs, b1, b2, b3, b4, b5⟩ := ob_lst R1 ob ed e2
      rw [a0] at b1; cases b1
      exact g vs b4 (by rw [b5.length]; exact lt_sz hl) (k.nx _ _ S1 _ hn (R1.chgK ob e2 a0 b2 b3 (.lst (b5.app (.cons dv .nil)))) st.s.1)
    split at q
    · rename_i ds e2
      exact fin (sv := .own true (.list ds)) trivial rfl e2 q.1 q.2 fun vs b4 hz g => ⟨p0, vs, v, rfl, rfl, b4, hz, g⟩
    · rename_i ds e2
      exact fin (sv := .bor (.list ds)) trivial rfl e2 q.1 q.2 fun vs b4 hz g => ⟨p0, vs, v, rfl, rfl, b4, hz, g⟩
    · exact q.elim
/-- x.extend(list) -/
theorem mt_extendR : MtR X "list.extend" (fun x vs H Q => ∃ l b xs zs, x = .ref l ∧ vs = [.ref b] ∧ H l = some (.lst xs) ∧ Rd H b (.lst zs) ∧ xs.length + zs.length ≤ sizeLine ∧ Q .non (upd H l (.lst (xs ++ zs)))) := by
  intro pins s σ H x vs v us Q I rx rv h
  obtain ⟨l, b, xs, zs, rfl, rfl, hH, hB, hz, q⟩ := h
  cases rx
  obtain ⟨u, rfl, ru⟩ := rv.one
  cases ru
  obtain ⟨z, its, n, r, hl, e⟩ := I.lstM hH
  obtain ⟨z2, its2, n2, r2, e2⟩ := hB.ok I.hok
  have hl2 := r2.length
  have hsz : its.toArray.size + its2.toArray.size ≤ sizeLine := by rw [List.size_toArray, List.size_toArray]; omega
  have hlong : ¬ (!its.toArray.isEmpty && Builtin.List.listTooLong (its.toArray.size + its2.toArray.size)) = true := by
    rw [notLongL hsz, Bool.and_false]
    exact Bool.false_ne_true
  refine call_meets PySem.F.slot_list_extend ⟨_, e, rfl⟩ PySem.F.entry_list_extend (PySem.F.args_list_extend_2 _ _)
    (PySem.AutoSeq1.list_extend_list_list_0 l its.toArray n b its2.toArray n2 hlong (by rw [List.size_toArray]; omega) (by omega)) ⟨e, e2, ?_⟩
  refine ⟨.non, _, I.lset (its' := its ++ its2) hH e (by simp) (r.append r2) ?_, rfl, q⟩
  rw [List.length_append]
  omega
def msExt (i : Nat) (m : MP) : MS := fun env E => ownL env i ∧ m env fun d e => match e[i]?, d with
  | some (.own true (.list ds)), .list es => ds.length + es.length ≤ 1000000 ∧ E.nx (e.set i (.own true (.list (ds ++ es))))
  | some (.bor (.list ds)), .list es => ds.length + es.length ≤ 1000000 ∧ E.nx (e.set i (.bor (.list (ds ++ es))))
  | _, _ => False
theorem dst_ext (i : Nat) {x : Str} {e : Expr} {m : MP} {p apos cpos pos : Pos} (he : DP X e m) (hN : X.N[i]? = some x := by rfl) (hv : Vis X.env.scope x := by first | exact Or.inl rfl | exact Or.inr (Or.inl rfl) | exact Or.inr (Or.inr rfl)) (hd : (x == ("__debug__" : Str)) = false := by decide)
    (hcd : (x == ("__classdict__" : Str)) = false := by decide) (hbase : attributeBase (.Name x p) "extend" X.env (eval (.Name x p) X.env) = eval (.Name x p) X.env := by rfl)
    (hfew : ((backTo cpos (starEach [e] X.env)).all (fun x => !x.1) && (backToKw cpos (keywordEach [] X.env)).all (fun x => x.1.isSome) && decide ([e].length + ([] : List Keyword).length + (if ([] : List Keyword).isEmpty then 0 else 1) < 30)) = true := by rfl)
    (hline : (apos.endLine == cpos.line) = true := by rfl) (hs : starEach [e] X.env = (false, eval e X.env) :: starEach [] X.env := by rfl) (hplain : (backTo cpos (starEach [] X.env)).any (·.1) = false := by rfl)
    (hsw : swapsWith (.Call (.Attribute (.Name x p) "extend" apos) [e] [] cpos) none pos.line X.env = pure false := by rfl) :
    DSt X (.Expr (.Call (.Attribute (.Name x p) "extend" apos) [e] [] cpos) pos) (msExt i m) :=
  (ps_expr (pe_bm PySem.F.plainAttrs_list PySem.F.slot_list_extend PySem.F.type_list_extend mt_extendR (pe_var hN hv hd hcd) (pa_cons he pa_nil hs) hbase hfew hline hs hplain) hsw).wk fun D σ H ⟨B, env, S, E, R, h, k⟩ => by
    obtain ⟨ds0, p0, vs0, e0, a0, _, _, h0, _⟩ := ownL_at R h.1
    refine ⟨.ref p0, a0, .inl ⟨rfl, vs0, .inl (.inl h0)⟩, B, env, S, _, R, h.2, fun d e1 q v S1 H1 st R1 ip => ?_⟩
    split at q
    · rename_i ds es e2
      obtain ⟨p1, vs, b1, b2, b3, b4, b5⟩ := ob_lst (sv := .own true (.list ds)) R1 trivial rfl e2
      rw [a0] at b1; cases b1
      obtain ⟨b, us, rfl, hb, db⟩ := ip.lst R1.w
      exact ⟨p0, b, vs, us, rfl, rfl, b4, hb, by rw [b5.length, db.length]; exact le_sz q.1, k.nx _ _ S1 _ q.2 (R1.chgK (sv := .own true (.list ds)) trivial e2 a0 b2 b3 (.lst (b5.app db))) st.s.1⟩
    · rename_i ds es e2
      obtain ⟨p1, vs, b1, b2, b3, b4, b5⟩ := ob_lst (sv := .bor (.list ds)) R1 trivial rfl e2
      rw [a0] at b1; cases b1
      obtain ⟨b, us, rfl, hb, db⟩ := ip.lst R1.w
      exact ⟨p0, b, vs, us, rfl, rfl, b4, hb, by rw [b5.length, db.length]; exact le_sz q.1, k.nx _ _ S1 _ q.2 (R1.chgK (sv := .bor (.list ds)) trivial e2 a0 b2 b3 (.lst (b5.app db))) st.s.1⟩
    · exact q.elim
/-- a list or a dict that this slot owns -/
def ownM (env : En) (i : Nat) : Prop := match env[i]? with
  | some (.own true (.list _)) => True
  | some (.own true (.dict _)) => True
  | some (.bor _) => True
  | _ => False
theorem ownM_at {K : PySem.W.Frag} {B : Bs} {env : En} {S H : Hp} {σ : L2.St} {i : Nat} (R : Rel K B env S σ H) (h : ownM env i) : ∃ p, σ[i]? = some (some (.ref p)) := by
  unfold ownM at h
  split at h
  · rename_i e
    obtain ⟨p, a, _⟩ := R.own i _ _ e
    exact ⟨p, a⟩
  · rename_i e
    obtain ⟨p, a, _⟩ := R.own i _ _ e
    exact ⟨p, a⟩
  · rename_i e
    obtain ⟨p, _, a, _⟩ := R.bor i _ e
    exact ⟨p, a⟩
  · exact h.elim
def tPutM (ds : List (Da × Da)) (k : List Int) (d : Da) : List (Da × Da) := (.none, .none) :: tPut ds.tail k d
/-- c[j] = d, of what is owned -/
@[irreducible] def fPut : Da → Da → Da → (Da → Prop) → Prop := fun c j d Q => match c, j with
  | .list ds, .int k => match ixN ds.length k with
    | some n => Q (.list (ds.set n d))
    | none => False
  | .dict ds, j => match keyO j with
    | some k => isTm ds = false ∧ ds.length < 1000000 ∧ Q (.dict (dPut ds k d))
    | none => match tkO j with
      | some k => (ds = [] ∨ (isTm ds = true ∧ isPm ds = false)) ∧ ds.length < 1000000 ∧ Q (.dict (tPutM ds k d))
      | none => False
  | _, _ => False
def msPut (i : Nat) (mk mv : MP) : MS := fun env E => mv env fun d e1 => ownM e1 i ∧ mk e1 fun j e2 => match e2[i]? with
  | some (.own true c) => fPut c j d fun c' => E.nx (e2.set i (.own true c'))
  | some (.bor c) => fPut c j d fun c' => E.nx (e2.set i (.bor c'))
  | _ => False
theorem w_putL {ds : List Da} {i : Int} {d : Da} {Q : Da → Prop} (h0 : 0 ≤ i) (h1 : i < ds.length) (q : Q (.list (ds.set i.toNat d))) : fPut (.list ds) (.int i) d Q := by
  have e : ixN ds.length i = some i.toNat := by
    unfold ixN
    rw [if_pos h0, if_pos h1]
  unfold fPut
  dsimp only
  rw [e]
  exact q
theorem w_putD {ds : List (Da × Da)} {c d : Da} {k : Key} {Q : Da → Prop} (hk : keyO c = some k) (ht : isTm ds = false) (hl : ds.length < 1000000) (q : Q (.dict (dPut ds k d))) : fPut (.dict ds) c d Q := by
  unfold fPut
  dsimp only
  rw [hk]
  exact ⟨ht, hl, q⟩
theorem w_putT {ds : List (Da × Da)} {k : List Int} {d : Da} {Q : Da → Prop} (ht : ds = [] ∨ (isTm ds = true ∧ isPm ds = false)) (hl : ds.length < 1000000) (q : Q (.dict (tPutM ds k d))) : fPut (.dict ds) (tkI k) d Q := by
  unfold fPut
  dsimp only
  rw [show keyO (tkI k) = none from rfl, tkO_I]
  exact ⟨ht, hl, q⟩
def uSt (X : Cx) : TSet := fun o i v H Q => ∃ t, PSet X t ∧ t o i v H Q
theorem set_un : PSet X (uSt X) := fun pins s σ H o i v ov iv u Q I ro ri rv h => by
  obtain ⟨t, p, q⟩ := h
  exact p pins s σ H o i v ov iv u Q I ro ri rv q
theorem set_dict (hu : X.A.units + 1 < cLine) : PSet X (fun o i v H Q => ∃ a H', o = .ref a ∧ DPut H a i v H' ∧ Q H') := fun pins s σ H o i v ov iv u Q I ro ri rv h => by
  obtain ⟨a, H', rfl, g, q⟩ := h
  cases ro
  exact d_setItem hu I g ri rv fun s' I' => ⟨H', I', q⟩
theorem set_tdict (hu : X.A.units + 1 < cLine) : PSet X (fun o i v H Q => ∃ (a : Addr) (kvs : TKv) (k : List Int) (b : Addr), o = .ref a ∧ i = .ref b ∧ ((∃ a', H a = some (dtO a' kvs)) ∨ (kvs = [] ∧ H a = some (.dK []))) ∧ TKeys X.K H kvs ∧ kvs.length < sizeLine ∧ SqT X.K H b (k.map V.int) ∧ Q (upd H a (dtO a (tput kvs k b v)))) := fun pins s σ H o i v ov iv u Q I ro ri rv h => by
  obtain ⟨a, kvs, k, b, rfl, rfl, T, hk, hl, eb, q⟩ := h
  cases ro
  cases ri
  exact t_setItem hu I T hk hl eb rv fun s' I' => ⟨_, I', q⟩
theorem dst_put (i : Nat) {x : Str} {ei e : Expr} {mk mv : MP} {p tpos pos : Pos} (hu : X.A.units + 1 < cLine) (hk : DP X ei mk) (he : DS X e mv) (hN : X.N[i]? = some x := by rfl) (hv : Vis X.env.scope x := by first | exact Or.inl rfl | exact Or.inr (Or.inl rfl) | exact Or.inr (Or.inr rfl)) (hd : (x == ("__debug__" : Str)) = false := by decide)
    (hcd : (x == ("__classdict__" : Str)) = false := by decide)
    (ha : ∀ v, assign (.Subscript (.Name x p) ei tpos) X.env v = (do
      let ov ← holding [v] (eval (.Name x p) X.env)
      let iv ← holding [v, ov] (eval ei X.env)
      standAt tpos
      holding [v, ov, iv] (setItem ov iv v)
      release [v, ov, iv] []) := by intro _; rfl)
    (hs : swapsWithSole [.Subscript (.Name x p) ei tpos] e pos.line X.env = pure false := by rfl) (hw : swappedStores [.Subscript (.Name x p) ei tpos] e X.env = pure none := by rfl)
    (h1 : (assignEach [.Subscript (.Name x p) ei tpos] X.env).map (·.2) = [assign (.Subscript (.Name x p) ei tpos) X.env] := by rfl) :
    DSt X (.Assign [.Subscript (.Name x p) ei tpos] e pos) (msPut i mk mv) :=
  (ps_asg he (pg_sub (pe_var hN hv hd hcd) hk set_un ha) hs hw h1).wk fun D σ H ⟨B, env, S, E, R, h, k⟩ => by
    refine ⟨B, env, S, _, R, h, fun d e1 q v S1 H1 st R1 dv => ?_⟩
    obtain ⟨p0, a0⟩ := ownM_at R1 q.1
    refine ⟨.ref p0, a0, B, e1, S1, _, R1, q.2, fun j e2 q2 u S2 H2 st2 R2 ip => ?_⟩
    revert q2
    have fin : ∀ {sv : SV} {c : Da}, OB sv → dat sv = c → e2[i]? = some sv → fPut c j d (fun c' => E.nx (e2.set i (kin sv c'))) → uSt X (.ref p0) u v H2 fun H3 => D.nx σ H3 := fun {sv c} ob ed e3 q2 => by
      unfold fPut at q2
      split at q2
      · rename_i ds k0
        cases ip.int
        split at q2
        · rename_i n en
          obtain ⟨p1, vs, b1, b2, b3, b4, b5⟩ := ob_lst R2 ob ed e3
          rw [a0] at b1; cases b1
          exact ⟨_, set_list, p0, vs, k0, n, rfl, rfl, b4, by rw [b5.length]; exact en, k.nx _ _ S2 _ q2 (R2.chgK ob e3 a0 b2 b3 (.lst (b5.set n (Dq.up st2.s.1 _ _ dv)))) fun a o z => st2.s.1 a o (st.s.1 a o z)⟩
        · exact q2.elim
      · rename_i ds
        split at q2
        · rename_i k0 ek
          have ey := ip.flatK ek
          subst ey
          obtain ⟨p1, b1, b2, b3, o, b4, b5⟩ := R2.ob2 e3 ob
          rw [ed] at b5
          rw [a0] at b1; cases b1
          cases b5 with
          | dk b5 =>
            exact ⟨_, set_dict hu, p0, _, rfl, DPut.k b4 (by rw [b5.len]; exact lt_sz q2.2.1), k.nx _ _ S2 _ q2.2.2 (R2.chgK ob e3 a0 b2 b3 (.dk (b5.put (Dq.up st2.s.1 _ _ dv)))) fun a o z => st2.s.1 a o (st.s.1 a o z)⟩
          | dt b5 => exact absurd q2.1 (fun z => by cases z)
        · split at q2
          · rename_i k0 ek
            rw [tkO_eq ek] at ip
            obtain ⟨b, rfl, pb⟩ := ip.tk
            have eb := SqT.up R2.w.sub pb.sq
            obtain ⟨p1, b1, b2, b3, o, b4, b5⟩ := R2.ob2 e3 ob
            rw [ed] at b5
            rw [a0] at b1; cases b1
            obtain ⟨hc, hl, q2⟩ := q2
            cases b5 with
            | dk b5 =>
              rcases hc with rfl | ⟨h1, _⟩
              · cases b5
                exact ⟨_, set_tdict hu, p0, [], k0, b, rfl, rfl, .inr ⟨rfl, b4⟩, (fun p hp => by cases hp), lt_sz hl, eb, k.nx _ _ S2 _ q2 (R2.chgK ob e3 a0 b2 b3 (.dt (DqT.put .nil pb (Dq.up st2.s.1 _ _ dv)))) fun a o z => st2.s.1 a o (st.s.1 a o z)⟩
              · rw [tm_dk b5] at h1; cases h1
            | dt b5 =>
              exact ⟨_, set_tdict hu, p0, _, k0, b, rfl, rfl, .inl ⟨_, b4⟩, tkeys_up R2.w (dqt_keys b5), (by rw [b5.len]; rw [List.length_cons] at hl; exact lt_sz (by omega)), eb, k.nx _ _ S2 _ q2 (R2.chgK ob e3 a0 b2 b3 (.dt (b5.put pb (Dq.up st2.s.1 _ _ dv)))) fun a o z => st2.s.1 a o (st.s.1 a o z)⟩
          · exact q2.elim
      · exact q2.elim
    intro q2
    split at q2
    · rename_i c e3
      exact fin (sv := .own true c) trivial rfl e3 q2
    · rename_i c e3
      exact fin (sv := .bor c) trivial rfl e3 q2
    · exact q2.elim
def msIf (c : MT) (m n : MS) : MS := fun env E => c env fun b e => if b = true then m e E else n e E
theorem dst_if {c : Expr} {a b : List Stmt} {mc : MT} {m n : MS} {pos : Pos} (hc : DT X c mc) (ha : DSs X a m) (hb : DSs X b n) : DSt X (.If c a b pos) (msIf mc m n) := (ps_if hc ha hb).wk fun D σ H ⟨B, env, S, E, R, h, k⟩ =>
  ⟨B, env, S, _, R, h, fun b e1 q S1 H1 st R1 => by
    cases b with
    | true =>
      rw [if_pos rfl] at q
      exact iteT ⟨B, e1, S1, E, R1, q, k.up st.s.1⟩
    | false =>
      rw [if_neg Bool.false_ne_true] at q
      exact iteF ⟨B, e1, S1, E, R1, q, k.up st.s.1⟩⟩
/-! ### loops -/
def forGo (g : MG) (body : MS) : List Da → En → EM → Prop
  | [], env, E => E.nx env
  | d :: ds, env, E => g d env fun e2 => body e2 ⟨fun e => forGo g body ds e E, E.rt, E.nx, fun e => forGo g body ds e E⟩
def msFor (mi : ML) (g : MG) (body : MS) : MS := fun env E => mi env fun ds e1 => forGo g body ds e1 E
theorem dst_for {tg iter : Expr} {body : List Stmt} {is : List Nat} {mi : ML} {g : MG} {mb : MS} {pos : Pos} (hp : PassesOwn (model X.prog X.w) X.A X.env X.xe) (hc : X.calm = true) (hi : DI X tg iter mi) (hg : DG X tg is g) (hb : DSs X body mb)
    (hs : ∀ x, foldedSetIterable iter X.env x = pure x := by intro _; rfl) : DSt X (.For tg iter body [] pos) (msFor mi g mb) := (ps_for hp hc hi hg hb hs).wk fun D σ H ⟨B, env, S, E, R, h, k⟩ => by
  refine ⟨B, env, S, _, R, h, fun ds e1 q S1 H1 J st R1 wk => ?_⟩
  refine ⟨fun i m σ' H' => m = ds.length - i ∧ i ≤ ds.length ∧ ∃ env' S', Rel X.K B env' S' σ' H' ∧ Up S1 S' ∧ forGo g mb (ds.drop i) env' E, ⟨ds.length, rfl, Nat.zero_le _, e1, S1, R1, fun _ _ z => z, q⟩, ?_⟩
  rintro i m σ' H' ⟨rfl, hil, env', S', R', u, go⟩
  have k' : Eok X.K B S' E D := (k.up st.s.1).up u
  by_cases hlt : i < ds.length
  · refine .inr ?_
    have hd : ds[i]? = some ds[i] := List.getElem?_eq_getElem hlt
    have ed : ds.drop i = ds[i] :: ds.drop (i + 1) := List.drop_eq_getElem_cons hlt
    rw [ed, forGo] at go
    obtain ⟨wg, _⟩ := wk S' H' u R'.w
    obtain ⟨g1, g2⟩ := wg i _ hd
    refine ⟨g1, fun σ2 H2 => ∃ env' S', Rel X.K B env' S' σ2 H2 ∧ Up S1 S' ∧ forGo g mb (ds.drop (i + 1)) env' E, fun σ2 H2 z => ⟨ds.length - (i + 1), by omega, rfl, hlt, z⟩, fun x H2 y => ?_⟩
    obtain ⟨S2, r2, _, dx⟩ := g2 x H2 y
    obtain ⟨R2, st2⟩ := r2 _ _ R'
    refine ⟨B, env', S2, _, _, R2, dx, go, fun e2 q2 σ2 R3 _ _ => ⟨B, e2, S2, _, R3, q2, ?_⟩⟩
    have k2 := k'.up st2.s.1
    have u2 : Up S1 S2 := fun a o z => st2.s.1 a o (u a o z)
    exact ⟨fun e σ3 S3 H3 p R4 w => ⟨e, S3, R4, fun a o z => w a o (u2 a o z), p⟩, k2.rt, k2.nx, fun e σ3 S3 H3 p R4 w => ⟨e, S3, R4, fun a o z => w a o (u2 a o z), p⟩⟩
  · have e : i = ds.length := by omega
    subst e
    rw [List.drop_length, forGo] at go
    exact .inl ⟨(wk S' H' u R'.w).2 _ (Nat.le_refl _), k'.nx _ _ S' H' go R' fun _ _ z => z⟩
def whGo (c : MT) (body : MS) : Nat → En → EM → Prop
  | 0, _, _ => False
  | n + 1, env, E => c env fun b e => if b = true then body e ⟨fun e2 => whGo c body n e2 E, E.rt, E.nx, fun e2 => whGo c body n e2 E⟩ else E.nx e
def msWhile (c : MT) (body : MS) : MS := fun env E => ∃ n, whGo c body n env E
theorem dst_while {c : Expr} {body : List Stmt} {mc : MT} {mb : MS} {pos : Pos} (hp : PassesOwn (model X.prog X.w) X.A X.env X.xe) (hc : DT X c mc) (hb : DSs X body mb) : DSt X (.While c body [] pos) (msWhile mc mb) := (ps_while hp hc hb).wk fun D σ H ⟨B, env, S, E, R, h, k⟩ => by
  obtain ⟨n, h⟩ := h
  refine ⟨fun m σ' H' => ∃ env' S', Rel X.K B env' S' σ' H' ∧ Up S S' ∧ whGo mc mb m env' E, ⟨n, env, S, R, fun _ _ z => z, h⟩, ?_⟩
  rintro m σ' H' ⟨env', S', R', u, go⟩
  cases m with
  | zero => exact go.elim
  | succ m =>
    rw [whGo] at go
    refine ⟨B, env', S', _, R', go, fun b e1 q S1 H1 st R1 => ?_⟩
    have u1 : Up S S1 := fun a o z => st.s.1 a o (u a o z)
    have k1 := k.up u1
    cases b with
    | true =>
      rw [if_pos rfl] at q
      refine iteT ⟨fun σ2 H2 => ∃ env' S', Rel X.K B env' S' σ2 H2 ∧ Up S S' ∧ whGo mc mb m env' E, fun σ2 H2 z => ⟨m, Nat.lt_succ_self m, z⟩, B, e1, S1, _, R1, q, ?_⟩
      exact ⟨fun e σ3 S3 H3 p R4 w => ⟨e, S3, R4, fun a o z => w a o (u1 a o z), p⟩, k1.rt, k1.nx, fun e σ3 S3 H3 p R4 w => ⟨e, S3, R4, fun a o z => w a o (u1 a o z), p⟩⟩
    | false =>
      rw [if_neg Bool.false_ne_true] at q
      exact iteF (k1.nx _ _ S1 H1 q R1 fun _ _ z => z)
/-- x += e, ints -/
def msAug (i : Nat) (f : Int → Int → Int) (m : MP) : MS := fun env E => match env[i]? with
  | some (.val (.int a)) => m env fun d e => match d with
    | .int b => i < e.length ∧ E.nx (e.set i (.val (.int (f a b))))
    | _ => False
  | _ => False
theorem dst_aug (i : Nat) {f : Int → Int → Int} {x : Str} {e : Expr} {op : Operator} {m : MP} {pos' pos : Pos} (hN : X.N.Nodup) (ho : PIp X op (ipI f)) (he : DP X e m) (hi : X.N[i]? = some x := by rfl) (hx : Loc X.env.scope x := by first | exact Or.inl rfl | exact Or.inr rfl)
    (hf : X.fn x = true ∨ X.env.scope.names.lookup x = some .local := by first | exact .inl rfl | exact .inr rfl | assumption) : DSt X (.AugAssign (.Name x pos') op e pos) (msAug i f m) := (ps_aug hN hi hx he ho hf).wk fun D σ H ⟨B, env, S, E, R, h, k⟩ => by
  unfold msAug at h
  split at h
  · rename_i a e0
    obtain ⟨v, hv, dv⟩ := R.slot i _ e0
    cases dv
    refine ⟨_, hv, B, env, S, _, R, h, fun d e1 q v S1 H1 st R1 ip => ?_⟩
    split at q
    · cases ip.int
      exact ⟨a, _, rfl, rfl, k.nx _ _ S1 H1 q.2 (R1.setV (.int _) q.1) st.s.1⟩
    · exact q.elim
  · exact h.elim
end

/-! ### defs -/
theorem AllR.get {K : PySem.W.Frag} {dl : Option (Addr × Addr)} {S : Hp} : ∀ {rs : List SV} {vs : List V} {i : Nat} {r : SV}, AllR K dl S rs vs → rs[i]? = some r → ∃ v, vs[i]? = some v ∧ match r with
    | .val d => Dq K S v d
    | .deal => ∃ p l, dl = some (p, l) ∧ v = .ref p
    | _ => False
  | [], _, _, _, _, e => by simp at e
  | .val d :: rs, _, 0, r, h, e => by
    obtain ⟨v, r', rfl, b, c⟩ := h
    simp at e; subst e
    exact ⟨v, rfl, b⟩
  | .val d :: rs, _, i + 1, r, h, e => by
    obtain ⟨v, r', rfl, b, c⟩ := h
    obtain ⟨v', x, y⟩ := AllR.get (i := i) c (by simpa using e)
    exact ⟨v', by simpa using x, y⟩
  | .deal :: rs, _, 0, r, h, e => by
    obtain ⟨p, l, r', rfl, b, c⟩ := h
    simp at e; subst e
    exact ⟨_, rfl, p, l, b, rfl⟩
  | .deal :: rs, _, i + 1, r, h, e => by
    obtain ⟨p, l, r', rfl, b, c⟩ := h
    obtain ⟨v', x, y⟩ := AllR.get (i := i) c (by simpa using e)
    exact ⟨v', by simpa using x, y⟩
  | .no :: _, _, _, _, h, _ => h.elim
  | .own _ _ :: _, _, _, _, h, _ => h.elim
  | .bor _ :: _, _, _, _, h, _ => h.elim
  | .res _ _ _ :: _, _, _, _, h, _ => h.elim
abbrev FS := List SV → (SV → Prop) → Prop
/-- the promise of a def that answers by data -/
def spD (K : PySem.W.Frag) (n : Nat) (F : FS) : Sp := fun vs H Q _ => ∃ S dl rs, ∃ Q0 : SV → Prop, Up S H ∧ (∀ p l, dl = some (p, l) → DealAt H p l ∧ S p = none ∧ S l = none) ∧ AllR K dl S rs vs ∧ rs.length = n ∧ F rs Q0 ∧
  ∀ r v S' H', Q0 r → Wd ⟨S, H, dl, fun _ => none⟩ S' H' → IsRet K ⟨S, H, dl, fun _ => none⟩ S' H' r v → Q v H'
def fnD (N n : Nat) (m : MS) : FS := fun rs Q => m (rs ++ List.replicate (N - n) SV.no) ⟨fun _ => Q (.val .none), Q, fun _ => False, fun _ => False⟩
theorem fn_d {P : Program} {w : World} {K : PySem.W.Frag} {mg : Str → Option Value} {base : Heap} {x qual : Str} {st : Stmt} {f : Addr} {fd : FuncData} {N ps : List Str} {k : Nat} {m : MS} (Fu : Fun K x qual st f fd) (sc : FnScope N ps (defScope st))
    (hb : ∀ (cdv : Value) (A : Around) (outer : List Env) (s : Shared) (H : Hp) (E : XK), RmG k (A.deeper (envOfC qual (defScope st) s.heap.objs.size f cdv)) → DSs (cxOf CX0 P w K mg base N qual (defScope st) f cdv A outer s H E).nox (defBody st) m) :
    FnG P w K mg base CX0 (k + 1) f fd ps (spD K ps.length (fnD N.length ps.length m)) := by
  refine fun_g Fu sc (fun vs H Q E h => ?_) (fun cdv A outer s H vs Q E hr h => ?_)
  · obtain ⟨S, dl, rs, Q0, _, _, al, hl, _⟩ := h
    rw [al.length, hl]
  · refine ⟨_, hb cdv A outer s H E hr, ?_⟩
    obtain ⟨S, dl, rs, Q0, up, dk, al, hl, hF, q⟩ := h
    have hv : vs.length = ps.length := by rw [al.length, hl]
    have hN : ps.length ≤ N.length := by
      have := congrArg List.length sc.pre
      rw [List.length_take] at this
      omega
    have lft : ∀ {i : Nat} {r : SV}, (rs ++ List.replicate (N.length - ps.length) SV.no)[i]? = some r → r = .no ∨ (rs[i]? = some r) := fun {i r} h => by
      by_cases hi : i < rs.length
      · rw [List.getElem?_append_left hi] at h; exact .inr h
      · rw [List.getElem?_append_right (by omega)] at h
        exact .inl (List.eq_of_mem_replicate (List.mem_of_getElem? h))
    have stv : ∀ {i : Nat} {v : V}, vs[i]? = some v → (L2.start N vs)[i]? = some (some v) := fun {i v} h => by
      have hi := (List.getElem?_eq_some_iff.mp h).1
      unfold L2.start
      rw [List.getElem?_append_left (by rw [List.length_map]; exact hi), List.getElem?_map, h]
      rfl
    refine ⟨⟨S, H, dl, fun _ => none⟩, rs ++ List.replicate (N.length - ps.length) SV.no, S, ⟨fun _ => Q0 (.val .none), Q0, fun _ => False, fun _ => False⟩, ⟨⟨up, fun _ _ z => z, fun _ _ _ z => z, fun _ _ _ z => z, fun p l e => ?_⟩, ?_, fun i d h => ?_, fun i h => ?_, fun i b d h => ?_, fun i j b c d e p h => ?_, fun i d h => ?_, fun i j b d e p h => ?_, fun i j p h => nomatch h⟩, hF, ⟨fun e σ' S' H' p R' _ => ?_, fun r v S' H' p w' ir => q r v S' H' p w' ir, fun _ _ _ _ z => z.elim, fun _ _ _ _ z => z.elim⟩⟩
    · obtain ⟨d1, d2, d3⟩ := dk p l e
      obtain ⟨_, _, _, _, a1, a2, _⟩ := id d1
      exact ⟨d1, ⟨_, a1⟩, ⟨_, a2⟩, d2, d3⟩
    · unfold L2.start
      rw [List.length_append, List.length_append, List.length_map, List.length_replicate, List.length_replicate, hl, hv]
    · rcases lft h with z | z
      · cases z
      · obtain ⟨v, a, b⟩ := al.get z
        exact ⟨v, stv a, b⟩
    · rcases lft h with z | z
      · cases z
      · obtain ⟨v, a, p, l, b, rfl⟩ := al.get z
        exact ⟨p, l, b, stv a⟩
    · rcases lft h with z | z
      · cases z
      · obtain ⟨v, a, b⟩ := al.get z
        exact b.elim
    · rcases lft h with z | z
      · cases z
      · obtain ⟨v, a, b⟩ := al.get z
        exact b.elim
    · rcases lft h with z | z
      · cases z
      · obtain ⟨v, a, b⟩ := al.get z
        exact b.elim
    · rcases lft h with z | z
      · cases z
      · obtain ⟨v, a, b⟩ := al.get z
        exact b.elim
    · exact q _ _ S' H' p R'.w .non
section
variable {X : Cx}
def mCall (n : Nat) (F : FS) (ma : MA) : ME := fun env Q => ma env fun rs e1 => rs.length = n ∧ F rs fun r => Q r e1
theorem de_call {k : Nat} {f : Addr} {fd : FuncData} {ps : List Str} {n : Nat} {F : FS} {x : Str} {e : Expr} {es : List Expr} {p pos : Pos} {ma : MA} (Fk : FnG X.prog X.w X.K X.mg X.base CX0 k f fd ps (spD X.K n F)) (hr : RmG k X.A) (hg : Gl X x) (hm : X.mg x = some (.ref f)) (hk : PySem.W.keepIn X.K (.ref f) = true) (hb : Binds X.K fd ps [])
    (ha : DA X (e :: es) ma) (hdb : (x == ("__debug__" : Str)) = false := by decide) (he : starEach (e :: es) X.env = (false, eval e X.env) :: starEach es X.env := by rfl) (hpl : (backTo pos (starEach es X.env)).any (·.1) = false := by rfl) :
    DE X (.Call (.Name x p) (e :: es) [] pos) (mCall n F ma) := (pe_callG Fk hr hg hm hk hb ha hdb he hpl).wk fun σ H Q ⟨B, env, S, Q0, R, h, k⟩ => by
  refine ⟨B, env, S, _, R, h, fun rs e1 q vs S1 H1 st R1 al => ?_⟩
  show spD X.K n F vs H1 Q E0
  refine ⟨S1, B.deal, rs, _, R1.w.sub, fun p l e => ?_, al, q.1, q.2, fun r v S' H' q2 w' ir => ?_⟩
  · obtain ⟨d1, d2, d3, d4, d5⟩ := R1.w.deal p l e
    obtain ⟨⟨o, b1⟩, ⟨o', b2⟩⟩ := And.intro d2 d3
    exact ⟨d1, R1.w.bN p o b1 d4, R1.w.bN l o' b2 d5⟩
  · have fpe : ∀ a, FP ⟨S1, H1, B.deal, fun _ => none⟩ a ↔ FP B a := fun a => Iff.rfl
    have hst : Stq B σ e1 S1 H1 e1 S' H' := ⟨⟨w'.bS, fun a o f e => w'.bH a o f e⟩, fun _ _ z _ => z, fun a o f e n => .inl (w'.bN a o e n)⟩
    have hw : Wd B S' H' := by
      refine ⟨w'.sub, fun a o e => w'.bS a o (R1.w.bS a o e), fun a o f e => w'.bH a o f (R1.w.bH a o f e), fun a o e n => ?_, fun p l e => ?_⟩
      · by_cases f : FP B a
        · obtain ⟨_, n2, o2, h2⟩ := R1.w.fp f
          exact w'.bN a o2 h2 (R1.w.bN a o e n)
        · exact w'.bN a o (R1.w.bH a o f e) (R1.w.bN a o e n)
      · obtain ⟨d1, d2⟩ := R1.w.deal p l e
        exact ⟨(w'.deal p l e).1, d2⟩
    have R' : Rel X.K B e1 S' σ H' := R1.stp hw hst.s fun i sv p a ob c => by
      obtain ⟨p', d, a', b', c', _, d2, _⟩ := R1.ob a ob
      rw [c] at a'; cases a'
      exact w'.bN p _ d2 c'
    refine k r e1 q2 v S' H' (st.trans hst) R' ?_
    cases r with
    | val d => exact ir
    | own b d =>
      obtain ⟨hb, p, rfl, o1, o2, o, o3, o4⟩ := ir
      refine IsR.back R.w st ⟨hb, p, rfl, ⟨R1.w.bnone o1, o2, o, o3, o4⟩, o1, R1.fresh o1⟩
    | no => exact ir.elim
    | deal => exact ir.elim
    | bor d => exact ir.elim
    | res b d ids =>
      obtain ⟨ne, _, h⟩ := ir
      cases ids with
      | nil => exact absurd rfl ne
      | cons x ids =>
        obtain ⟨q, e, _⟩ := h x List.mem_cons_self
        exact nomatch e
end
end Pq

set_option Elab.async false
set_option linter.all false
set_option maxRecDepth 100000
set_option maxHeartbeats 4000000
namespace Pq
open PySem PySem.Spec PyProof.Rows L2 RT
section
variable {prog : Program} {w : World} {A : Around} {E : Value → Shared → Prop} {s : Shared}
theorem extend_rev {R : Result → Shared → Prop} {it l : Addr} {items : Array Value} (hh : A.handled = none) (hit : s.heap.IsRevIter it l ((items.size : Int) - 1)) (hl : s.heap.IsList l items) (hne : l ≠ it) (hn : items.size ≤ sizeLine) (S : Addr) (res : Value) (c0 : Nat) (hSi : S ≠ it) (hSl : S ≠ l)
    (hS : s.heap.get? S = some { cls := .type "list", data := .seq #[] c0 })
    (hR : ∀ h' tk acc' c', (∀ b o, b ≠ S → b ≠ it → s.heap.get? b = some o → h'.get? b = some o) → h'.get? S = some { cls := .type "list", dict := none, data := .seq acc' c', slots := #[] } →
      ItemsOf (fun i v => items[items.size - 1 - i]? = some v) acc' items.size → R (.ok (.ret res)) { s with heap := h', toks := tk }) :
    wpAny (model prog w) A.in1 (Builtin.List.listExtendWith (.ref S) (.ref it) res)
      (fun fin s' => match fin with | .done f => R (.ok f) s' | .again c' => c'.quiet = true ∧ codeAny (model prog w) A c' R s') (fun e s' => R (.error e) s') s := by
  have W := (Walks.listRev (prog := prog) (w := w) (A := A.in1) hh it l hne items).toS
  have hSf : S ∉ [it, l] := by simp only [List.mem_cons, List.not_mem_nil, or_false, not_or]; exact ⟨hSi, hSl⟩
  have hT : s.TypeIs (.ref it) "list_reverseiterator" := hit.typeIs
  have h1 : Builtin.List.listSameRef (.ref S) (.ref it) = false := by simp [Builtin.List.listSameRef, hSi]
  have h2 : (Value.type "list_reverseiterator" == Value.type "list") = false := by decide
  have h3 : (Value.type "list_reverseiterator" == Value.type "tuple") = false := by decide
  unfold Builtin.List.listExtendWith
  refine wpAny_bind (wpAny_typeOf hT ?_)
  simp only [h1, h2, h3, Bool.or_false, Bool.false_eq_true, if_false]
  refine wpAny_bind (wpAny_pyIter_revIter hit ?_)
  refine wpAny_bind (wpAny_holding ?_)
  unfold Builtin.List.listLengthHint
  refine wpAny_bind (wpAny_specialOf hT nolen_lri ?_)
  show wpAny _ A.in1 (specialOf (Value.ref it) (Str.ofString "__length_hint__") >>= _) _ _ _
  refine wpAny_bind (wpAny_specialOf hT hint_lri ?_)
  generalize hid : ("list_reverseiterator.__length_hint__" : String) = id0
  wp_delta
  rw [show splitId id0 = some ("list_reverseiterator", "__length_hint__") from by subst hid; decide +kernel]
  subst hid
  refine wpAny_bind (wpAny_isInstance (b := true) hT (by rw [isSubtype_type]; kernel_rfl) ?_)
  refine wpAny_pure ?_
  rw [if_neg (by decide)]
  have e0 : ((items.size : Nat) : Int) - 1 - ((0 : Nat) : Int) = (items.size : Int) - 1 := by omega
  refine wpAny_pure ⟨plainId_quiet F.plain_extend_loop _, codeAny_extend_loopS W hn _ hSf _ items.size 0 _ _ _ rfl (Nat.zero_le _) ⟨Nat.zero_le _, by rw [e0]; exact hit, hl⟩ hS (ItemsOf.nil _) fun s' acc' c' hm hS' hacc => ?_⟩
  rw [Moved.eq_with hm]
  refine hR s'.heap s'.toks acc' c' (fun b o hb hb2 e => hm.heap b o (fun hmem => ?_) e) hS' hacc
  rcases List.mem_cons.mp hmem with e' | hmem
  · exact hb e'
  · exact hb2 (List.mem_singleton.mp hmem)
theorem init_rev {R : Result → Shared → Prop} {it l : Addr} {items : Array Value} (hh : A.handled = none) (hit : s.heap.IsRevIter it l ((items.size : Int) - 1)) (hl : s.heap.IsList l items) (hne : l ≠ it) (hn : items.size ≤ sizeLine) (S : Addr) (hSi : S ≠ it) (hSl : S ≠ l)
    (hS : s.heap.get? S = some { cls := .type "list", data := .seq #[] })
    (hR : ∀ h' tk acc' c', (∀ b o, b ≠ S → b ≠ it → s.heap.get? b = some o → h'.get? b = some o) → h'.get? S = some { cls := .type "list", dict := none, data := .seq acc' c', slots := #[] } →
      ItemsOf (fun i v => items[items.size - 1 - i]? = some v) acc' items.size → R (.ok (.ret .none)) { s with heap := h', toks := tk }) :
    wpAny (model prog w) A.in1 (Builtin.«list.__init__» ⟨[.ref S, .ref it], []⟩)
      (fun fin s' => match fin with | .done f => R (.ok f) s' | .again c' => c'.quiet = true ∧ codeAny (model prog w) A c' R s') (fun e s' => R (.error e) s') s := by
  show wpAny _ _ (do let old ← Builtin.List.listItems (.ref S); Builtin.List.listUpdate (.ref S) (fun _ => #[]); letGo old.toList.reverse; Builtin.List.listExtendWith (.ref S) (.ref it) .none) _ _ s
  refine wpAny_bind ?_
  unfold Builtin.List.listItems
  refine wpAny_bind (wpAny_seqItems hS rfl (wpAny_pure ?_))
  show wpAny _ _ (updateSeq S (fun _ => #[]) >>= fun _ => letGo (#[] : Array Value).toList.reverse >>= fun _ => Builtin.List.listExtendWith (.ref S) (.ref it) .none) _ _ s
  refine wpAny_bind (wpAny_updateSeq hS rfl ?_)
  have hS₂ := Heap.get?_update_self (Obj.mapSeq (fun _ => (#[] : Array Value))) hS rfl
  have oth : ∀ b o, b ≠ S → s.heap.get? b = some o → (s.heap.update S (Obj.mapSeq (fun _ => (#[] : Array Value)))).get? b = some o :=
    fun b o hb e => (Heap.get?_update_other _ _ (Ne.symm hb)).trans e
  refine wpAny_bind (wpAny_letGo ?_)
  refine extend_rev hh (hit.at fun o e => oth it o (Ne.symm hSi) e) ?_ hne hn S .none _ hSi hSl hS₂ fun h' tk acc' c' hk hS' hacc => ?_
  · obtain ⟨o, ho, r⟩ := hl
    exact ⟨o, oth l o (Ne.symm hSl) ho, r⟩
  · exact hR h' tk acc' c' (fun b o hb hb2 e => hk b o hb hb2 (oth b o hb e)) hS' hacc
theorem call_list_rev {it l : Addr} {items : Array Value} {Q : Value → Shared → Prop} (hh : A.handled = none) (hit : s.heap.IsRevIter it l ((items.size : Int) - 1)) (hl : s.heap.IsList l items) (hne : l ≠ it) (hn : items.size ≤ sizeLine)
    (hQ : ∀ h' tk acc' c', (∀ b o, b ≠ it → s.heap.get? b = some o → h'.get? b = some o) →
      h'.get? s.heap.objs.size = some { cls := .type "list", dict := none, data := .seq acc' c', slots := #[] } → ItemsOf (fun i v => items[items.size - 1 - i]? = some v) acc' items.size → Q (.ref s.heap.objs.size) { s with heap := h', toks := tk }) :
    wpAny (model prog w) A (call (.type "list") [.ref it]) Q E s := by
  obtain ⟨oi, hoi, _⟩ := id hit
  obtain ⟨ol, hol, _⟩ := id hl
  have hSi : s.heap.objs.size ≠ it := Nat.ne_of_gt (Heap.lt_size hoi)
  have hSl : s.heap.objs.size ≠ l := Nat.ne_of_gt (Heap.lt_size hol)
  refine callType_codes (Q₁ := fun obj s₁ => obj = .ref s.heap.objs.size ∧ s₁ = { s with heap := s.heap.push { cls := .type "list", data := .seq #[] } }) PySem.F.called_list (PySem.F.typeCall_list_1 _) PySem.F.entry_list_init
    (code_list_new _ ⟨rfl, rfl⟩) fun obj s₁ h₁ => ?_
  obtain ⟨rfl, rfl⟩ := h₁
  have hS : (s.heap.push { cls := .type "list", data := .seq #[] }).get? s.heap.objs.size = some { cls := .type "list", data := .seq #[] } := Heap.get?_push_size _ rfl
  refine ⟨⟨_, hS, rfl⟩, PySem.F.args_list_init_2 _ _, init_rev (A := A.in1) hh (hit.at fun o e => Heap.get?_push_of_some _ e) (hl.push _) hne hn _ hSi hSl hS fun h' tk acc' c' hk hS' hacc => ?_⟩
  exact ⟨rfl, hQ h' tk acc' c' (fun b o hb e => hk b o (Nat.ne_of_lt (Heap.lt_size e)) hb (Heap.get?_push_of_some _ e)) hS' hacc⟩
end
/-- list(reversed(xs)) -/
def tLstRev (te : TE) : TE := fun σ H Q => te σ H fun v H1 => ∃ (a : Addr) (xs : List V), v = .ref a ∧ Rd H1 a (.lst xs) ∧ ∀ q, H1 q = none → Q (.ref q) (upd H1 q (.lst xs.reverse))
section
variable {X : Cx}
theorem pe_lstRev {e : Expr} {te : TE} {p p2 pos pos2 : Pos} (hc : X.calm = true) (hg : Gl X "list") (hm : X.mg "list" = none) (hg2 : Gl X "reversed") (hm2 : X.mg "reversed" = none) (he : PE X e te)
    (hs : starEach [e] X.env = (false, eval e X.env) :: starEach [] X.env := by rfl)
    (hs2 : starEach [.Call (.Name "reversed" p2) [e] [] pos2] X.env = (false, eval (.Call (.Name "reversed" p2) [e] [] pos2) X.env) :: starEach [] X.env := by rfl) :
    PE X (.Call (.Name "list" p) [.Call (.Name "reversed" p2) [e] [] pos2] [] pos) (tLstRev te) := by
  refine ⟨fun pins s σ H Q I h => ?_⟩
  refine Call_ (ld_blt I hg hm boot_list (PyProof.Rows.callWith_type1 (args_cons (Call_ (ld_blt I hg2 hm2 PyProof.Rows.boot_reversed (PyProof.Rows.callWith_type1 (args_cons (thn (he.run pins s σ H _ I h) fun u s1 ⟨v, H1, I1, r1, q1⟩ => args_nil ?_) hs) hs rfl))) hs2) hs2 rfl))
  obtain ⟨a, xs, ev, hq, q⟩ := q1
  subst ev
  obtain rfl : u = Value.ref a := r1
  obtain ⟨its, rv, p', hz⟩ := I1.list (.inl hq)
  refine call_reversed_list p'.isList (args_nil ?_)
  have k0 : ∀ b o, s1.heap.get? b = some o → (s1.heap.push (revObj a ((its.toArray.size : Int) - 1))).get? b = some o := fun b o e => Heap.get?_push_of_some _ e
  have I2 : Inv X pins σ H1 { s1 with heap := s1.heap.push (revObj a ((its.toArray.size : Int) - 1)) } := I1.kept (t' := s1.toks) k0
  obtain ⟨f0, f1, f2, f3, f4, f5⟩ := I1.fpOk (H' := H1) (b := s1.heap.objs.size) (Nat.le_refl _) (I1.hok.fresh (Nat.le_refl _))
  have hl := p'.isList
  obtain ⟨ol, hol, _⟩ := id hl
  have hne : a ≠ s1.heap.objs.size := Nat.ne_of_lt (Heap.lt_size hol)
  have hn : its.toArray.size ≤ sizeLine := by rw [List.size_toArray, ← rv.length]; exact hz
  have hS0 : H1 (s1.heap.push (revObj a ((its.toArray.size : Int) - 1))).objs.size = none := I1.hok.fresh (by rw [Heap.size_push]; exact Nat.le_succ _)
  refine call_list_rev (s := { s1 with heap := s1.heap.push (revObj a ((its.toArray.size : Int) - 1)) }) (I1.ok.hd hc) ⟨_, Heap.get?_push_size _ rfl, rfl, rfl⟩ (hl.push _) hne hn fun h' tk acc c' hk hS' hi => ?_
  have I3 : Inv X pins σ H1 { s1 with heap := h', toks := tk } := I2.turned (t' := tk) (fun b o hb e => hk b o hb e) f0 f1 f3 f4 f5
  have up1 : ∀ (b : Addr) (o : HO), H1 b = some o → upd H1 (s1.heap.push (revObj a ((its.toArray.size : Int) - 1))).objs.size (.lst xs.reverse) b = some o := fun b o e => by rw [upd_ne (ne_of_none e hS0)]; exact e
  have hokS : HOk X.prog X.w (upd H1 (s1.heap.push (revObj a ((its.toArray.size : Int) - 1))).objs.size (.lst xs.reverse)) h' := fun b u e => by
    by_cases hb : b = (s1.heap.push (revObj a ((its.toArray.size : Int) - 1))).objs.size
    · subst hb
      rw [upd_same] at e; cases e
      exact ⟨by rw [List.length_reverse]; exact hz, acc.toList, c', vals_rev rv hi, by rw [Array.toArray_toList]; exact hS'⟩
    · rw [upd_ne hb] at e
      exact (I3.hok b u e).stay (fun c v _ q => q) (fun c q => up1 c _ q) fun c ys q => up1 c _ q
  have J : L2.Inv X pins σ (upd H1 (s1.heap.push (revObj a ((its.toArray.size : Int) - 1))).objs.size (.lst xs.reverse)) { s1 with heap := h', toks := tk } := by
    refine Inv.step (s := { s1 with heap := s1.heap.push (revObj a ((its.toArray.size : Int) - 1)) }) (h' := h') I2 (g' := s1.gens) (d' := s1.drawn) (t' := tk) (ch := [s1.heap.objs.size]) (fun b hb => ?_) (fun b o _ _ hc e _ => hk b o (fun z => hc (by simp [z])) e) (fun b o _ _ hc e _ => ⟨o.slots, hk b o (fun z => hc (by simp [z])) e⟩) (fun b o _ e n => ?_)
      (fun b o hc e => ⟨o, hk b o (fun z => hc (by simp [z])) e⟩) (fun b ys e => up1 b _ e) (fun b o u e => up1 b _ e) (fun b ps e => ⟨#[], by rw [up1 b _ e]; simp⟩) (fun m hm => ?_) hokS I2.bare
    · have e : b = s1.heap.objs.size := by simpa using hb
      subst e
      exact ⟨f3, f1, f4, f5⟩
    · have nb : b ≠ (s1.heap.push (revObj a ((its.toArray.size : Int) - 1))).objs.size := Nat.ne_of_lt (Heap.lt_size e)
      rw [upd_ne nb]; exact n
    · obtain ⟨o, es, ep, ho, r⟩ := hm
      exact ⟨o, es, ep, hk _ o (Ne.symm f1) ho, r⟩
  exact ⟨.ref _, _, J, rfl, q _ hS0⟩
end
end Pq

set_option Elab.async false
set_option linter.all false
set_option maxRecDepth 100000
set_option maxHeartbeats 4000000
namespace Pq
open PySem PySem.Spec PyProof.Rows L2
/-! ### the deal: a dict of three -/
abbrev kSeed : Key := Sum.inr "seed"
abbrev kNum : Key := Sum.inr "number"
abbrev kLeft : Key := Sum.inr "left"
def dk3 (s n l : V) : List (Key × V) := [(kSeed, s), (kNum, n), (kLeft, l)]
theorem ne_sn : ¬ (Str.ofString "seed" = Str.ofString "number") := by decide +kernel
theorem ne_sl : ¬ (Str.ofString "seed" = Str.ofString "left") := by decide +kernel
theorem ne_nl : ¬ (Str.ofString "number" = Str.ofString "left") := by decide +kernel
theorem ne_ns : ¬ (Str.ofString "number" = Str.ofString "seed") := by decide +kernel
theorem ne_ls : ¬ (Str.ofString "left" = Str.ofString "seed") := by decide +kernel
theorem ne_ln : ¬ (Str.ofString "left" = Str.ofString "number") := by decide +kernel
theorem get_seed (s n l : V) : valV (dk3 s n l) kSeed = some s := by simp [valV, dk3]
theorem get_num (s n l : V) : valV (dk3 s n l) kNum = some n := by simp [valV, dk3, ne_sn]
theorem get_left (s n l : V) : valV (dk3 s n l) kLeft = some l := by simp [valV, dk3, ne_sl, ne_nl]
theorem put_num (s n l v : V) : putK (dk3 s n l) kNum v = dk3 s v l := by simp [putK, dk3, ne_sn, ne_ln]
theorem put_seed (s n l v : V) : putK (dk3 s n l) kSeed v = dk3 v n l := by simp [putK, dk3, ne_ns, ne_ls]
theorem merge3 (s n l : V) : mergeK [] [(kSeed, s), (kNum, n), (kLeft, l)] = dk3 s n l := by
  simp [mergeK, putK, dk3, ne_sn, ne_sl, ne_nl]
/-- the deal while it is drawn from -/
structure Dl (H : Hp) (p l : Addr) (seed num : Int) (left : List Int) (H' : Hp) : Prop where
  ne : p ≠ l
  hp : H' p = some (.dK (dk3 (.int seed) (.int num) (.ref l)))
  hl : H' l = some (.lst (left.map V.int))
  s0 : 0 ≤ seed
  s1 : seed < 2 ^ 32
  n0 : 0 ≤ num
  few : left.length ≤ 63
  pos : ∀ x ∈ left, 0 ≤ x
  off : ∀ a, a ≠ p → a ≠ l → H' a = H a
theorem Dl.at {H H' : Hp} {p l : Addr} {seed num : Int} {left : List Int} (d : Dl H p l seed num left H') : DealAt H' p l := ⟨d.ne, seed, num, left, d.hp, d.hl, d.s0, d.s1, d.n0, d.few, d.pos⟩
theorem Dl.start {H : Hp} {p l : Addr} (d : DealAt H p l) : ∃ seed num left, Dl H p l seed num left H := by
  obtain ⟨ne, seed, num, left, a, b, c, e, f, g, h⟩ := d
  exact ⟨seed, num, left, ne, a, b, c, e, f, g, h, fun _ _ _ => rfl⟩
theorem Dl.num {H H' : Hp} {p l : Addr} {seed num x : Int} {left : List Int} (d : Dl H p l seed num left H') (hx : 0 ≤ x) : Dl H p l seed x left (upd H' p (.dK (putK (dk3 (.int seed) (.int num) (.ref l)) kNum (.int x)))) :=
  ⟨d.ne, by rw [upd_same, put_num], by rw [upd_ne d.ne.symm]; exact d.hl, d.s0, d.s1, hx, d.few, d.pos, fun a h1 h2 => by rw [upd_ne h1]; exact d.off a h1 h2⟩
theorem Dl.seed {H H' : Hp} {p l : Addr} {seed num x : Int} {left : List Int} (d : Dl H p l seed num left H') (hx : 0 ≤ x) (hx1 : x < 2 ^ 32) : Dl H p l x num left (upd H' p (.dK (putK (dk3 (.int seed) (.int num) (.ref l)) kSeed (.int x)))) :=
  ⟨d.ne, by rw [upd_same, put_seed], by rw [upd_ne d.ne.symm]; exact d.hl, hx, hx1, d.n0, d.few, d.pos, fun a h1 h2 => by rw [upd_ne h1]; exact d.off a h1 h2⟩
theorem Dl.left {H H' : Hp} {p l : Addr} {seed num : Int} {left left' : List Int} (d : Dl H p l seed num left H') (h1 : left'.length ≤ 63) (h2 : ∀ x ∈ left', 0 ≤ x) : Dl H p l seed num left' (upd H' l (.lst (left'.map V.int))) :=
  ⟨d.ne, by rw [upd_ne d.ne]; exact d.hp, upd_same, d.s0, d.s1, d.n0, h1, h2, fun a e1 e2 => by rw [upd_ne e2]; exact d.off a e1 e2⟩
theorem Dl.gnum {H H' : Hp} {p l : Addr} {seed num : Int} {left : List Int} (d : Dl H p l seed num left H') : DGet H' p (.str "number") (some (.int num)) := by
  have h := DGet.k (k := kNum) d.hp
  rw [get_num] at h
  exact h
theorem Dl.gseed {H H' : Hp} {p l : Addr} {seed num : Int} {left : List Int} (d : Dl H p l seed num left H') : DGet H' p (.str "seed") (some (.int seed)) := by
  have h := DGet.k (k := kSeed) d.hp
  rw [get_seed] at h
  exact h
theorem Dl.gleft {H H' : Hp} {p l : Addr} {seed num : Int} {left : List Int} (d : Dl H p l seed num left H') : DGet H' p (.str "left") (some (.ref l)) := by
  have h := DGet.k (k := kLeft) d.hp
  rw [get_left] at h
  exact h
theorem Dl.pnum {H H' : Hp} {p l : Addr} {seed num x : Int} {left : List Int} (d : Dl H p l seed num left H') : DPut H' p (.str "number") (.int x) (upd H' p (.dK (putK (dk3 (.int seed) (.int num) (.ref l)) kNum (.int x)))) :=
  DPut.k (k := kNum) d.hp (by show 3 < sizeLine; decide)
theorem Dl.pseed {H H' : Hp} {p l : Addr} {seed num x : Int} {left : List Int} (d : Dl H p l seed num left H') : DPut H' p (.str "seed") (.int x) (upd H' p (.dK (putK (dk3 (.int seed) (.int num) (.ref l)) kSeed (.int x)))) :=
  DPut.k (k := kSeed) d.hp (by show 3 < sizeLine; decide)
/-- a draw: any number below many -/
def fDraw : FS := fun rs Q => match rs with
  | [.deal, .val (.int many)] => (0 < many ∧ many < 2 ^ 64) ∧ ∀ r, 0 ≤ r → r < many → Q (.val (.int r))
  | _ => False
theorem draw_spec {K : PySem.W.Frag} {vs : List V} {H : Hp} {Q : VK} {E : XK} (h : spD K 2 fDraw vs H Q E) : ∃ p l many, vs = [.ref p, .int many] ∧ DealAt H p l ∧ 0 < many ∧ many < 2 ^ 64 ∧
    ∀ r H' seed num left, 0 ≤ r → r < many → Dl H p l seed num left H' → Q (.int r) H' := by
  obtain ⟨S, dl, rs, Q0, up, dk, al, hl, hF, q⟩ := h
  unfold fDraw at hF
  split at hF
  · rename_i many
    obtain ⟨p, l, r', rfl, e, al2⟩ := al
    obtain ⟨v, r2, rfl, dv, al3⟩ := al2
    cases (show r2 = [] from al3)
    cases dv
    obtain ⟨d1, d2, d3⟩ := dk p l e
    obtain ⟨_, _, _, _, b1, b2, _⟩ := id d1
    refine ⟨p, l, many, rfl, d1, hF.1.1, hF.1.2, fun r H' seed num left h0 h1 d => q _ _ S H' (hF.2 r h0 h1) ⟨fun a o x => ?_, fun _ _ z => z, fun a o f x => ?_, fun _ _ _ z => z, fun p' l' e' => ?_⟩ (.int r)⟩
    · have na : a ≠ p := fun z => by subst z; rw [d2] at x; cases x
      have nl : a ≠ l := fun z => by subst z; rw [d3] at x; cases x
      rw [d.off a na nl]; exact up a o x
    · have na : a ≠ p := fun z => f ⟨p, l, e, .inl z⟩
      have nl : a ≠ l := fun z => f ⟨p, l, e, .inr z⟩
      rw [d.off a na nl]; exact x
    · have e' : dl = some (p', l') := e'
      rw [e] at e'; cases e'
      exact ⟨d.at, ⟨_, b1⟩, ⟨_, b2⟩, d2, d3⟩
  · exact hF.elim
theorem spD_len {K : PySem.W.Frag} {n : Nat} {F : FS} {vs : List V} {H : Hp} {Q : VK} {E : XK} (h : spD K n F vs H Q E) : vs.length = n := by
  obtain ⟨S, dl, rs, Q0, _, _, al, hl, _⟩ := h
  rw [al.length, hl]
/-- a def that may be called by its name -/
structure Cal (P : Program) (w : World) (K : PySem.W.Frag) (mg : Str → Option Value) (base : Heap) (x : Str) (k n : Nat) (F : FS) : Prop where
  ex : ∃ (f : Addr) (fd : FuncData) (ps : List Str), FnG P w K mg base CX0 k f fd ps (spD K n F) ∧ Binds K fd ps [] ∧ mg x = some (.ref f) ∧ PySem.W.keepIn K (.ref f) = true
theorem de_callC {X : Cx} {k j n : Nat} {F : FS} {x : Str} {e : Expr} {es : List Expr} {p pos : Pos} {ma : MA} (C : Cal X.prog X.w X.K X.mg X.base x k n F) (hr : RmG j X.A) (hkj : k ≤ j) (hg : Gl X x)
    (ha : DA X (e :: es) ma) (hdb : (x == ("__debug__" : Str)) = false := by decide) (he : starEach (e :: es) X.env = (false, eval e X.env) :: starEach es X.env := by rfl) (hpl : (backTo pos (starEach es X.env)).any (·.1) = false := by rfl) :
    DE X (.Call (.Name x p) (e :: es) [] pos) (mCall n F ma) := by
  obtain ⟨f, fd, ps, G, b, m, kp⟩ := C.ex
  exact de_call G (hr.mono hkj) hg m kp b ha hdb he hpl
theorem hu65 {A : Around} {k : Nat} (hr : RmG k A) : A.units + 65 < cLine := by have := hr.rm.un; omega
theorem pz (n : Nat) (h : 0 < n) : (0 : Int) < (n : Int) := by omega
/-- the deal's promise -/
def spDeal (K : PySem.W.Frag) : Sp := fun vs H Q _ => ∃ (a : Addr) (ns : List Int) (b : Int), vs = [.ref a, .int b] ∧ SqL K H a (ns.map V.int) ∧ ns.length ≤ 63 ∧ 0 ≤ b ∧ b ≤ 63 ∧
  ∀ p l H', Same H H' → H p = none → H l = none → DealAt H' p l → Q (.ref p) H'
theorem cut_ints (ns : List Int) (lo hi : Option Int) : ∃ ms : List Int, cutV (ns.map V.int) lo hi = ms.map V.int ∧ ms.length ≤ ns.length := by
  refine ⟨((ns.drop (HT.sIx (ns.map V.int).length 0 lo)).take (HT.sIx (ns.map V.int).length (ns.map V.int).length hi - HT.sIx (ns.map V.int).length 0 lo)), ?_, ?_⟩
  · unfold cutV
    rw [List.map_take, List.map_drop]
  · rw [List.length_take, List.length_drop]
    omega
theorem same_new {H : Hp} {p : Addr} {o : HO} (h : H p = none) : Same H (upd H p o) := fun b x e => by
  rw [upd_ne (ne_of_none e h)]
  exact e
theorem map_at {ms : List Int} {i : Nat} {x : V} (h : (ms.map V.int)[i]? = some x) : ∃ z, ms[i]? = some z ∧ x = .int z := by
  rw [List.getElem?_map] at h
  cases e : ms[i]? with
  | none => rw [e] at h; cases h
  | some z => rw [e] at h; exact ⟨z, rfl, (Option.some.inj h).symm⟩
/-- law's promise: whatever the script, True -/
def spLaw (K : PySem.W.Frag) : Sp := fun vs H Q _ => ∃ (a : Addr) (ns : List Int), vs = [.ref a] ∧ SqL K H a (ns.map V.int) ∧ ns.length ≤ 63 ∧ ∀ H', Q (.bl true) H'
def eTrue : EM := ⟨fun _ => False, fun r => r = .val (.bool true), fun _ => False, fun _ => False⟩
theorem law_read {X : Cx} {N : List Str} {m : Nat} {M : MS} {a : Addr} {ns : List Int} {H : Hp} {Q : VK} (hN : N.length = m + 2) (hM : M (.no :: .deal :: List.replicate m .no) eTrue) (hS : SqL X.K H a (ns.map V.int)) (hlen : ns.length ≤ 63) (q : ∀ H', Q (.bl true) H') :
    tSeq (tAsg (tCall (spDeal X.K) [] E0 (tCons (tVar 0) (tCons (tC (.int 0)) tNil))) (gName 1)) (tSt X.K M) { nx := fun _ H' => Q .non H', rt := Q } (L2.start N [.ref a]) H := by
  have e0 : L2.start N [V.ref a] = some (V.ref a) :: none :: List.replicate m none := by
    unfold L2.start
    rw [hN]
    show some (V.ref a) :: List.replicate (m + 2 - 1) none = _
    rw [show m + 2 - 1 = m + 1 by omega, List.replicate_succ]
  rw [e0]
  refine ⟨.ref a, rfl, a, ns, 0, rfl, hS, hlen, Int.le_refl 0, by decide, fun p l H' same np nl dl => ?_⟩
  obtain ⟨_, _, _, _, b1, b2, _⟩ := id dl
  refine ⟨⟨H, H', some (p, l), fun _ => none⟩, .no :: .deal :: List.replicate m .no, H, eTrue, ⟨⟨same, fun _ _ z => z, fun _ _ _ z => z, fun _ _ _ z => z, fun p' l' e => ?_⟩, ?_, fun i d h => ?_, fun i h => ?_, fun i b d h => ?_, fun i j b c d e p h => ?_, fun i d h => ?_, fun i j b d e p h => ?_, fun i j p h => nomatch h⟩, hM, ⟨fun _ _ _ _ z => z.elim, fun r v S' H' z _ ir => ?_, fun _ _ _ _ z => z.elim, fun _ _ _ _ z => z.elim⟩⟩
  · have e : some (p, l) = some (p', l') := e
    cases e
    exact ⟨dl, ⟨_, b1⟩, ⟨_, b2⟩, np, nl⟩
  · simp
  · match i, h with
    | 0, h => cases h
    | 1, h => cases h
    | i + 2, h => cases List.eq_of_mem_replicate (List.mem_of_getElem? (show (List.replicate m SV.no)[i]? = some _ from h))
  · match i, h with
    | 0, h => cases h
    | 1, h => exact ⟨p, l, rfl, rfl⟩
    | i + 2, h => cases List.eq_of_mem_replicate (List.mem_of_getElem? (show (List.replicate m SV.no)[i]? = some _ from h))
  · match i, h with
    | 0, h => cases h
    | 1, h => cases h
    | i + 2, h => cases List.eq_of_mem_replicate (List.mem_of_getElem? (show (List.replicate m SV.no)[i]? = some _ from h))
  · match i, h with
    | 0, h => cases h
    | 1, h => cases h
    | i + 2, h => cases List.eq_of_mem_replicate (List.mem_of_getElem? (show (List.replicate m SV.no)[i]? = some _ from h))
  · match i, h with
    | 0, h => cases h
    | 1, h => cases h
    | i + 2, h => cases List.eq_of_mem_replicate (List.mem_of_getElem? (show (List.replicate m SV.no)[i]? = some _ from h))
  · match i, h with
    | 0, h => cases h
    | 1, h => cases h
    | i + 2, h => cases List.eq_of_mem_replicate (List.mem_of_getElem? (show (List.replicate m SV.no)[i]? = some _ from h))
  · subst z
    cases ir
    exact q H'
def scrD (ns : List Int) : Da := .dict [(.bool false, .list (ns.map .int))]
theorem law_readS {X : Cx} {N : List Str} {m : Nat} {M : MS} {a : Addr} {ns : List Int} {H : Hp} {Q : VK} (hN : N.length = m + 2) (hM : ∀ ns : List Int, ns.length ≤ 63 → M (.val (scrD ns) :: .deal :: List.replicate m .no) eTrue) (hS : SqL X.K H a (ns.map V.int)) (hlen : ns.length ≤ 63) (q : ∀ H', Q (.bl true) H') :
    tSeq (tAsg (tCall (spDeal X.K) [] E0 (tCons (tVar 0) (tCons (tC (.int 0)) tNil))) (gName 1)) (tSt X.K M) { nx := fun _ H' => Q .non H', rt := Q } (L2.start N [.ref a]) H := by
  have e0 : L2.start N [V.ref a] = some (V.ref a) :: none :: List.replicate m none := by
    unfold L2.start
    rw [hN]
    show some (V.ref a) :: List.replicate (m + 2 - 1) none = _
    rw [show m + 2 - 1 = m + 1 by omega, List.replicate_succ]
  rw [e0]
  refine ⟨.ref a, rfl, a, ns, 0, rfl, hS, hlen, Int.le_refl 0, by decide, fun p l H' same np nl dl => ?_⟩
  obtain ⟨_, _, _, _, b1, b2, _⟩ := id dl
  refine ⟨⟨H, H', some (p, l), fun _ => none⟩, .val (scrD ns) :: .deal :: List.replicate m .no, H, eTrue, ⟨⟨same, fun _ _ z => z, fun _ _ _ z => z, fun _ _ _ z => z, fun p' l' e => ?_⟩, ?_, fun i d h => ?_, fun i h => ?_, fun i b d h => ?_, fun i j b c d e p h => ?_, fun i d h => ?_, fun i j b d e p h => ?_, fun i j p h => nomatch h⟩, hM ns hlen, ⟨fun _ _ _ _ z => z.elim, fun r v S' H' z _ ir => ?_, fun _ _ _ _ z => z.elim, fun _ _ _ _ z => z.elim⟩⟩
  · have e : some (p, l) = some (p', l') := e
    cases e
    exact ⟨dl, ⟨_, b1⟩, ⟨_, b2⟩, np, nl⟩
  · simp
  · match i, h with
    | 0, h => cases h; exact ⟨.ref a, rfl, .scr hS⟩
    | 1, h => cases h
    | i + 2, h => cases List.eq_of_mem_replicate (List.mem_of_getElem? (show (List.replicate m SV.no)[i]? = some _ from h))
  · match i, h with
    | 0, h => cases h
    | 1, h => exact ⟨p, l, rfl, rfl⟩
    | i + 2, h => cases List.eq_of_mem_replicate (List.mem_of_getElem? (show (List.replicate m SV.no)[i]? = some _ from h))
  · match i, h with
    | 0, h => cases h
    | 1, h => cases h
    | i + 2, h => cases List.eq_of_mem_replicate (List.mem_of_getElem? (show (List.replicate m SV.no)[i]? = some _ from h))
  · match i, h with
    | 0, h => cases h
    | 1, h => cases h
    | i + 2, h => cases List.eq_of_mem_replicate (List.mem_of_getElem? (show (List.replicate m SV.no)[i]? = some _ from h))
  · match i, h with
    | 0, h => cases h
    | 1, h => cases h
    | i + 2, h => cases List.eq_of_mem_replicate (List.mem_of_getElem? (show (List.replicate m SV.no)[i]? = some _ from h))
  · match i, h with
    | 0, h => cases h
    | 1, h => cases h
    | i + 2, h => cases List.eq_of_mem_replicate (List.mem_of_getElem? (show (List.replicate m SV.no)[i]? = some _ from h))
  · subst z
    cases ir
    exact q H'
theorem walk_law {l : PySem.W.OpenLaw} {q : Program} {loose : List Str} {XP : (Str → Option Value) → Heap → Prop} {YP : World → Heap → Prop} {d : DefRec} {K : Params → PySem.W.Frag} {k : Nat} (hn : l.most = some 63) (hdf : d.params.defaults = []) (hr : RmG k callerA)
    (hY : ∀ (w : World) (h : Heap), YP w h → (K w.params).In h)
    (F : ∀ (w : World) (mg : Str → Option Value) (fa : Addr) (h : Heap), (K w.params).In h → h.Ns mainGlobals mg → mg d.name = some (.ref fa) →
      ∃ fd : FuncData, (∀ (s : Shared) (u : Value), BindsTo s fd ⟨[u], []⟩ [("_law_script", u)]) ∧ ∀ base : Heap, (K w.params).In base → base.Ns mainGlobals mg → FnG l.prog w (K w.params) mg base CX0 k fa fd ["_law_script"] (spLaw (K w.params))) :
    PySem.W.WalkO q loose XP YP l.row.toRowW d [] (fun f vs => PySem.call f vs) :=
  walk_g (n := 63) (k := k) (x := "_law_script") (sp := fun w => spLaw (K w.params)) hn (by decide) hdf hr hY F fun _ _ a ns hl _ hS => ⟨a, ns, rfl, hS, hl, fun _ => rfl⟩
end Pq

set_option Elab.async false
set_option linter.all false
set_option maxRecDepth 100000
set_option maxHeartbeats 4000000
namespace Pq
open PySem PySem.Spec PyProof.Rows L2
theorem iteD {p A B : Prop} [Decidable p] (h1 : p → A) (h2 : ¬ p → B) : if decide p = true then A else B := by
  by_cases h : p
  · rw [if_pos (decide_eq_true h)]; exact h1 h
  · rw [if_neg (by rw [decide_eq_false h]; exact Bool.false_ne_true)]; exact h2 h
theorem iteDn {p A B : Prop} [Decidable p] (h1 : ¬ p → A) (h2 : p → B) : if (!decide p) = true then A else B := by
  by_cases h : p
  · rw [if_neg (by rw [decide_eq_true h]; exact Bool.false_ne_true)]; exact h2 h
  · rw [if_pos (by rw [decide_eq_false h]; rfl)]; exact h1 h
theorem iteB (b : Bool) {A B : Prop} (h1 : b = true → A) (h2 : b = false → B) : if b = true then A else B := by
  cases b with
  | true => rw [if_pos rfl]; exact h1 rfl
  | false => rw [if_neg Bool.false_ne_true]; exact h2 rfl
/-- a comprehension: its tests and elements one by one -/
theorem lc_all {env : En} {g : MG} {mt : MT} {me : ME} (p : Da → Bool) (f : Da → Da) : ∀ (ds acc : List Da) (Q : List Da → Prop),
    (∀ d ∈ ds, ∀ (K : Da → Prop) (N : Prop), (p d = true → K (f d)) → (p d = false → N) → g d env fun e2 => mt e2 fun b e3 => if b = true then me e3 fun r _ => (match r with
      | .val x => K x
      | .own _ x => K x
      | _ => False) else N) → (∀ res, res = acc ++ (ds.filter p).map f → Q res) → lcGo env g mt me ds acc Q
  | [], acc, Q, _, q => by
    rw [lcGo]
    exact q acc (by simp)
  | d :: ds, acc, Q, h, q => by
    rw [lcGo]
    refine h d List.mem_cons_self (fun x => lcGo env g mt me ds (acc ++ [x]) Q) _ (fun hp => ?_) (fun hp => ?_)
    · refine lc_all p f ds _ Q (fun d hd => h d (List.mem_cons_of_mem _ hd)) ?_
      intro res e
      exact q res (by rw [e, List.filter_cons_of_pos hp]; simp)
    · refine lc_all p f ds _ Q (fun d hd => h d (List.mem_cons_of_mem _ hd)) ?_
      intro res e
      exact q res (by rw [e, List.filter_cons_of_neg (by simp [hp])])
/-- without tests -/
theorem lc_map {env : En} {g : MG} {me : ME} (f : Da → Da) (ds acc : List Da) (Q : List Da → Prop)
    (h : ∀ d ∈ ds, ∀ (K : Da → Prop), K (f d) → g d env fun e2 => me e2 fun r _ => (match r with
      | .val x => K x
      | .own _ x => K x
      | _ => False)) (q : ∀ res, res = acc ++ ds.map f → Q res) : lcGo env g mYes me ds acc Q := by
  refine lc_all (fun _ => true) f ds acc Q (fun d hd K N hK _ => ?_) (fun res e => q res (by rw [e, List.filter_eq_self.mpr (fun _ _ => rfl)]))
  exact h d hd K (hK rfl)
/-- a for loop by its invariant -/
theorem for_inv {g : MG} {body : MS} {E : EM} (I : List Da → En → Prop) : ∀ (ds : List Da) (env : En), I ds env →
    (∀ d r e, I (d :: r) e → ∀ N : En → Prop, (∀ e', I r e' → N e') → g d e fun e2 => body e2 ⟨N, E.rt, E.nx, N⟩) → (∀ e, I [] e → E.nx e) → forGo g body ds env E
  | [], env, h, _, q => by
    rw [forGo]
    exact q env h
  | d :: ds, env, h, st, q => by
    rw [forGo]
    exact st d ds env h _ fun e' i => for_inv I ds e' i st q
theorem wh_go {c : MT} {body : MS} {E : EM} (I : Nat → En → Prop)
    (st : ∀ m e, I m e → ∀ N : En → Prop, (∀ m' e', m' < m → I m' e' → N e') → c e fun b e1 => if b = true then body e1 ⟨N, E.rt, E.nx, N⟩ else E.nx e1) : ∀ (n m : Nat) (env : En), m < n → I m env → whGo c body n env E
  | 0, _, _, h, _ => absurd h (Nat.not_lt_zero _)
  | n + 1, m, env, h, i => by
    rw [whGo]
    exact st m env i _ fun m' e' hm i' => wh_go I st n m' e' (by omega) i'
/-- a while loop by its invariant and a measure -/
theorem wh_inv {c : MT} {body : MS} {env : En} {E : EM} (I : Nat → En → Prop) (m : Nat) (h : I m env)
    (st : ∀ m e, I m e → ∀ N : En → Prop, (∀ m' e', m' < m → I m' e' → N e') → c e fun b e1 => if b = true then body e1 ⟨N, E.rt, E.nx, N⟩ else E.nx e1) : msWhile c body env E := ⟨m + 1, wh_go I st (m + 1) m env (Nat.lt_succ_self m) h⟩
mutual
theorem eqv_refl : ∀ d : Da, d.canLay0 = true → PyData.eqv d d = true
  | .none, _ => by simp [PyData.eqv]
  | .bool b, _ => by simp [PyData.eqv]
  | .int i, _ => by simp [PyData.eqv]
  | .str x, _ => by simp [PyData.eqv]
  | .list ds, h => by
    have h1 : PyData.canLayAll0 ds = true := by simpa [PyData.canLay0] using h
    simp only [PyData.eqv]
    exact eqvAll_refl ds h1
  | .tuple ds, h => by
    have h1 : PyData.canLayAll0 ds = true := by simpa [PyData.canLay0] using h
    simp only [PyData.eqv]
    exact eqvAll_refl ds h1
  | .dict kvs, h => by simp [PyData.canLay0] at h
theorem eqvAll_refl : ∀ ds : List Da, PyData.canLayAll0 ds = true → PyData.eqvAll ds ds = true
  | [], _ => by simp [PyData.eqvAll]
  | d :: ds, h => by
    have h' : d.canLay0 = true ∧ PyData.canLayAll0 ds = true := by simpa [PyData.canLayAll0] using h
    simp only [PyData.eqvAll, eqv_refl d h'.1, eqvAll_refl ds h'.2, Bool.and_self]
end
/-- data that may be compared, of at most such a depth -/
def Lay (n : Nat) (d : Da) : Prop := d.canLay0 = true ∧ d.depth ≤ n
theorem Lay.shaped {n : Nat} {d : Da} (h : Lay n d) (hn : n ≤ 64) : SeqAt.shaped d = true := by
  unfold SeqAt.shaped
  rw [h.1, Bool.true_and]
  exact decide_eq_true (Nat.le_trans h.2 hn)
theorem lay_int {n : Nat} {i : Int} : Lay n (.int i) := ⟨by simp [PyData.canLay0], by simp [PyData.depth]⟩
theorem lay_bool {n : Nat} {i : Bool} : Lay n (.bool i) := ⟨by simp [PyData.canLay0], by simp [PyData.depth]⟩
theorem lay_none {n : Nat} : Lay n .none := ⟨by simp [PyData.canLay0], by simp [PyData.depth]⟩
theorem layAll {n : Nat} : ∀ {ds : List Da}, (∀ d ∈ ds, Lay n d) → PyData.canLayAll0 ds = true ∧ PyData.depthAll ds ≤ n
  | [], _ => ⟨by simp [PyData.canLayAll0], by simp [PyData.depthAll]⟩
  | d :: ds, h => by
    obtain ⟨a, b⟩ := layAll (ds := ds) fun x hx => h x (List.mem_cons_of_mem _ hx)
    obtain ⟨c, e⟩ := h d List.mem_cons_self
    refine ⟨by simp [PyData.canLayAll0, a, c], ?_⟩
    simp only [PyData.depthAll]
    omega
theorem lay_tup {n : Nat} {ds : List Da} (h : ∀ d ∈ ds, Lay n d) : Lay (n + 1) (.tuple ds) := by
  obtain ⟨a, b⟩ := layAll h
  exact ⟨by simp [PyData.canLay0, a], by simp only [PyData.depth]; omega⟩
theorem lay_lst {n : Nat} {ds : List Da} (h : ∀ d ∈ ds, Lay n d) : Lay (n + 1) (.list ds) := by
  obtain ⟨a, b⟩ := layAll h
  exact ⟨by simp [PyData.canLay0, a], by simp only [PyData.depth]; omega⟩
theorem Lay.up {n m : Nat} {d : Da} (h : Lay n d) (hm : n ≤ m) : Lay m d := ⟨h.1, Nat.le_trans h.2 hm⟩
theorem lay_pair {n : Nat} {c d : Da} (h1 : Lay n c) (h2 : Lay n d) : Lay (n + 1) (.tuple [c, d]) := lay_tup fun x hx => by
  rcases List.mem_cons.mp hx with rfl | hx
  · exact h1
  · rw [List.mem_singleton.mp hx]; exact h2
theorem Lay.refl {n : Nat} {d : Da} (h : Lay n d) : PyData.eqv d d = true := eqv_refl d h.1
theorem bools_map {α : Type} (f : α → Bool) : ∀ L : List α, bools? (L.map fun x => .bool (f x)) = some (L.map f)
  | [] => rfl
  | x :: L => by
    have ih := bools_map f L
    rw [List.map_cons, bools?, ih]
    rfl
theorem w_any {α : Type} (L : List α) (f : α → Bool) (Q : SV → Prop) (h : Q (.val (.bool (L.any f)))) : fAny [.list (L.map fun x => .bool (f x))] Q := by
  unfold fAny
  simp only [bools_map]
  rw [List.any_map]
  exact h
theorem w_all {α : Type} (L : List α) (f : α → Bool) (Q : SV → Prop) (h : Q (.val (.bool (L.all f)))) : fAll [.list (L.map fun x => .bool (f x))] Q := by
  unfold fAll
  simp only [bools_map]
  rw [List.all_map]
  exact h
/-! ### ranges -/
def rgI (a b : Int) : List Int := (List.range (b - a).toNat).map fun i => a + (i : Nat)
theorem rgD_I (a b : Int) : rgD a b = (rgI a b).map .int := by unfold rgD rgI; rw [List.map_map]; rfl
theorem mem_rgI {a b x : Int} : x ∈ rgI a b ↔ a ≤ x ∧ x < b := by
  unfold rgI
  rw [List.mem_map]
  constructor
  · rintro ⟨i, hi, rfl⟩
    rw [List.mem_range] at hi
    omega
  · rintro ⟨h1, h2⟩
    exact ⟨(x - a).toNat, by rw [List.mem_range]; omega, by omega⟩
theorem rgI_len (a b : Int) : (rgI a b).length = (b - a).toNat := by unfold rgI; rw [List.length_map, List.length_range]
theorem rgI_nil {a b : Int} (h : b ≤ a) : rgI a b = [] := by
  have : (b - a).toNat = 0 := by omega
  unfold rgI; rw [this]; rfl
theorem rgI_app {a b c : Int} (h1 : a ≤ b) (h2 : b ≤ c) : rgI a c = rgI a b ++ rgI b c := by
  unfold rgI
  have e : (c - a).toNat = (b - a).toNat + (c - b).toNat := by omega
  rw [e, List.range_add, List.map_append, List.map_map]
  congr 1
  apply List.map_congr_left
  intro i _
  show a + (((b - a).toNat + i : Nat) : Int) = b + (i : Nat)
  omega
theorem rgI_one (a : Int) : rgI a (a + 1) = [a] := by
  have : (a + 1 - a).toNat = 1 := by omega
  unfold rgI; rw [this]; simp
theorem rgI_cons {a b : Int} (h : a < b) : rgI a b = a :: rgI (a + 1) b := by
  rw [rgI_app (b := a + 1) (by omega) (by omega), rgI_one]; rfl
end Pq

set_option Elab.async false
set_option linter.all false
set_option maxRecDepth 100000
set_option maxHeartbeats 4000000
namespace Pq
open PySem PySem.Spec PyProof.Rows L2
/-! ### max, min of one list or tuple of ints -/
theorem best_gt (f : Nat → Int) : ∀ k, (∀ i, i ≤ k → f i ≤ f (argBest (fun i j => decide (f i > f j)) k)) ∧ argBest (fun i j => decide (f i > f j)) k ≤ k
  | 0 => ⟨fun i hi => by cases Nat.le_zero.mp hi; exact Int.le_refl _, Nat.le_refl _⟩
  | k + 1 => by
    obtain ⟨ih, lk⟩ := best_gt f k
    rw [argBest]
    by_cases c : f (k + 1) > f (argBest (fun i j => decide (f i > f j)) k)
    · rw [if_pos (decide_eq_true c)]
      refine ⟨fun i hi => ?_, Nat.le_refl _⟩
      rcases Nat.lt_or_ge k i with z | z
      · rw [show i = k + 1 by omega]; exact Int.le_refl _
      · have := ih i z; omega
    · rw [if_neg (by simpa using c)]
      refine ⟨fun i hi => ?_, by omega⟩
      rcases Nat.lt_or_ge k i with z | z
      · rw [show i = k + 1 by omega]; omega
      · exact ih i z
theorem best_lt (f : Nat → Int) : ∀ k, (∀ i, i ≤ k → f (argBest (fun i j => decide (f i < f j)) k) ≤ f i) ∧ argBest (fun i j => decide (f i < f j)) k ≤ k
  | 0 => ⟨fun i hi => by cases Nat.le_zero.mp hi; exact Int.le_refl _, Nat.le_refl _⟩
  | k + 1 => by
    obtain ⟨ih, lk⟩ := best_lt f k
    rw [argBest]
    by_cases c : f (k + 1) < f (argBest (fun i j => decide (f i < f j)) k)
    · rw [if_pos (decide_eq_true c)]
      refine ⟨fun i hi => ?_, Nat.le_refl _⟩
      rcases Nat.lt_or_ge k i with z | z
      · rw [show i = k + 1 by omega]; exact Int.le_refl _
      · have := ih i z; omega
    · rw [if_neg (by simpa using c)]
      refine ⟨fun i hi => ?_, by omega⟩
      rcases Nat.lt_or_ge k i with z | z
      · rw [show i = k + 1 by omega]; omega
      · exact ih i z
section
variable {X : Cx}
theorem int_at {ns : List Int} {its : List Value} (r : Vals (ns.map V.int) its) (i : Nat) (v : Value) (h : its.toArray[i]? = some v) : ∃ t, v = .int (ns.getD i 0) t := by
  have h1 : its[i]? = some v := by simpa using h
  have hl := r.length
  rw [List.length_map] at hl
  have hi : i < ns.length := by
    have := (List.getElem?_eq_some_iff.mp h1).1
    omega
  obtain ⟨u, hu, t, e⟩ := Vals.get (i := i) (x := .int ns[i]) r (by rw [List.getElem?_map, List.getElem?_eq_getElem hi]; rfl)
  rw [h1] at hu
  cases hu
  exact ⟨t, by rw [e, List.getD_eq_getElem?_getD, List.getElem?_eq_getElem hi]; rfl⟩
abbrev Mx (ns : List Int) (m : Int) : Prop := m ∈ ns ∧ ∀ x ∈ ns, x ≤ m
abbrev Mn (ns : List Int) (m : Int) : Prop := m ∈ ns ∧ ∀ x ∈ ns, m ≤ x
theorem mx_of {ns : List Int} (h : ns ≠ []) : Mx ns (ns.getD (argBest (fun i j => decide (ns.getD i 0 > ns.getD j 0)) (ns.length - 1)) 0) := by
  obtain ⟨a, b⟩ := best_gt (fun i => ns.getD i 0) (ns.length - 1)
  have hl : 0 < ns.length := List.length_pos_iff.mpr h
  refine ⟨?_, fun x hx => ?_⟩
  · rw [List.getD_eq_getElem?_getD, List.getElem?_eq_getElem (by omega)]; exact List.getElem_mem _
  · obtain ⟨i, hi, rfl⟩ := List.getElem_of_mem hx
    have := a i (by omega)
    rw [show ns[i] = ns.getD i 0 by rw [List.getD_eq_getElem?_getD, List.getElem?_eq_getElem hi]; rfl]
    exact this
theorem mn_of {ns : List Int} (h : ns ≠ []) : Mn ns (ns.getD (argBest (fun i j => decide (ns.getD i 0 < ns.getD j 0)) (ns.length - 1)) 0) := by
  obtain ⟨a, b⟩ := best_lt (fun i => ns.getD i 0) (ns.length - 1)
  have hl : 0 < ns.length := List.length_pos_iff.mpr h
  refine ⟨?_, fun x hx => ?_⟩
  · rw [List.getD_eq_getElem?_getD, List.getElem?_eq_getElem (by omega)]; exact List.getElem_mem _
  · obtain ⟨i, hi, rfl⟩ := List.getElem_of_mem hx
    have := a i (by omega)
    rw [show ns[i] = ns.getD i 0 by rw [List.getD_eq_getElem?_getD, List.getElem?_eq_getElem hi]; rfl]
    exact this
def rBest (K : PySem.W.Frag) (M : List Int → Int → Prop) : List V → Hp → VK → Prop := fun vs H Q => ∃ (a : Addr) (ns : List Int), vs = [.ref a] ∧ (SqL K H a (ns.map V.int) ∨ SqT K H a (ns.map V.int)) ∧ ns ≠ [] ∧ ∀ m, M ns m → Q (.int m) H
theorem old_of {s : Shared} {x : Obj} {h' : Heap} (hk : ∀ b o, b ∉ [s.heap.objs.size] → (s.heap.push x).get? b = some o → h'.get? b = some o) : ∀ b o, s.heap.get? b = some o → h'.get? b = some o := fun b o eo => by
  refine hk b o (fun hm => ?_) (Heap.get?_push_of_some _ eo)
  rcases List.mem_cons.mp hm with e1 | hm
  · exact absurd (e1 ▸ Heap.lt_size eo) (Nat.lt_irrefl _)
  · cases hm
theorem fp_of {s : Shared} {a : Addr} {x : Obj} (ha : a < s.heap.objs.size) : ∀ b ∈ [s.heap.objs.size, a], b < (s.heap.push x).objs.size := fun b hb => by
  rw [Heap.size_push]
  rcases List.mem_cons.mp hb with e1 | hm
  · rw [e1]; exact Nat.lt_succ_self _
  · rw [List.mem_singleton.mp hm]; exact Nat.lt_succ_of_lt ha
theorem cr_max1 (hc : X.calm = true) : CallR X (.builtin "max") (rBest X.K Mx) := by
  intro pins s σ H vs us Q I r h
  obtain ⟨a, ns, rfl, hs, hne, q⟩ := h
  rw [Vals.ref1 r]
  have hlen : 0 < ns.length := List.length_pos_iff.mpr hne
  rcases hs with hs | hs
  · obtain ⟨its, rv, hl, _⟩ := I.list hs
    have sz : its.toArray.size = ns.length := by rw [List.size_toArray, ← rv.length, List.length_map]
    have lt : a < s.heap.objs.size := by obtain ⟨_, e, _⟩ := hl.isList; exact Heap.lt_size e
    refine call_max_walk (wpAny_pyIter_list hl.isList ?_)
    refine ⟨_, _, _, _, _, _, _, rfl, Walks.list (A := X.A.in1) (I.ok.hd hc) _ a (Nat.ne_of_lt lt) its.toArray, ⟨⟨_, Heap.get?_push_size _ rfl, rfl, rfl⟩, hl.isList.push _⟩, fp_of lt, by rw [sz]; exact hlen, CmpOf.ints_gt (fun i => ns.getD i 0) (int_at rv), fun v h' tk hP hk => ?_⟩
    obtain ⟨t, rfl⟩ := int_at rv _ _ hP
    rw [sz]
    exact ⟨.int _, H, I.kept (old_of hk), ⟨t, rfl⟩, q _ (mx_of hne)⟩
  · obtain ⟨its, rv, hl, _⟩ := I.tuple hs
    have sz : its.toArray.size = ns.length := by rw [List.size_toArray, ← rv.length, List.length_map]
    have lt : a < s.heap.objs.size := by obtain ⟨_, e, _⟩ := hl; exact Heap.lt_size e
    refine call_max_walk (wpAny_pyIter_tuple hl ?_)
    refine ⟨_, _, _, _, _, _, _, rfl, Walks.tuple (A := X.A.in1) (I.ok.hd hc) _ a (Nat.ne_of_lt lt) its.toArray, ⟨⟨_, Heap.get?_push_size _ rfl, rfl, rfl⟩, Heap.IsTuple.push hl _⟩, fp_of lt, by rw [sz]; exact hlen, CmpOf.ints_gt (fun i => ns.getD i 0) (int_at rv), fun v h' tk hP hk => ?_⟩
    obtain ⟨t, rfl⟩ := int_at rv _ _ hP
    rw [sz]
    exact ⟨.int _, H, I.kept (old_of hk), ⟨t, rfl⟩, q _ (mx_of hne)⟩
theorem cr_min1 (hc : X.calm = true) : CallR X (.builtin "min") (rBest X.K Mn) := by
  intro pins s σ H vs us Q I r h
  obtain ⟨a, ns, rfl, hs, hne, q⟩ := h
  rw [Vals.ref1 r]
  have hlen : 0 < ns.length := List.length_pos_iff.mpr hne
  rcases hs with hs | hs
  · obtain ⟨its, rv, hl, _⟩ := I.list hs
    have sz : its.toArray.size = ns.length := by rw [List.size_toArray, ← rv.length, List.length_map]
    have lt : a < s.heap.objs.size := by obtain ⟨_, e, _⟩ := hl.isList; exact Heap.lt_size e
    refine call_min_walk (wpAny_pyIter_list hl.isList ?_)
    refine ⟨_, _, _, _, _, _, _, rfl, Walks.list (A := X.A.in1) (I.ok.hd hc) _ a (Nat.ne_of_lt lt) its.toArray, ⟨⟨_, Heap.get?_push_size _ rfl, rfl, rfl⟩, hl.isList.push _⟩, fp_of lt, by rw [sz]; exact hlen, CmpOf.ints_lt (fun i => ns.getD i 0) (int_at rv), fun v h' tk hP hk => ?_⟩
    obtain ⟨t, rfl⟩ := int_at rv _ _ hP
    rw [sz]
    exact ⟨.int _, H, I.kept (old_of hk), ⟨t, rfl⟩, q _ (mn_of hne)⟩
  · obtain ⟨its, rv, hl, _⟩ := I.tuple hs
    have sz : its.toArray.size = ns.length := by rw [List.size_toArray, ← rv.length, List.length_map]
    have lt : a < s.heap.objs.size := by obtain ⟨_, e, _⟩ := hl; exact Heap.lt_size e
    refine call_min_walk (wpAny_pyIter_tuple hl ?_)
    refine ⟨_, _, _, _, _, _, _, rfl, Walks.tuple (A := X.A.in1) (I.ok.hd hc) _ a (Nat.ne_of_lt lt) its.toArray, ⟨⟨_, Heap.get?_push_size _ rfl, rfl, rfl⟩, Heap.IsTuple.push hl _⟩, fp_of lt, by rw [sz]; exact hlen, CmpOf.ints_lt (fun i => ns.getD i 0) (int_at rv), fun v h' tk hP hk => ?_⟩
    obtain ⟨t, rfl⟩ := int_at rv _ _ hP
    rw [sz]
    exact ⟨.int _, H, I.kept (old_of hk), ⟨t, rfl⟩, q _ (mn_of hne)⟩
end
def seqD : Da → Option (List Da)
  | .list ds => some ds
  | .tuple ds => some ds
  | _ => none
def fBest (M : List Int → Int → Prop) : List Da → (SV → Prop) → Prop
  | [d], Q => ∃ ds ns, seqD d = some ds ∧ ints? ds = some ns ∧ ns ≠ [] ∧ ∀ m, M ns m → Q (.val (.int m))
  | _, _ => False
abbrev fMax1 := fBest Mx
abbrev fMin1 := fBest Mn
section
variable {X : Cx}
theorem cd_best {b : String} {M : List Int → Int → Prop} (h0 : CallR X (.builtin b) (rBest X.K M)) : CallD X (.builtin b) (fBest M) := by
  intro B env S σ H vs ds Q Q' R al h cl
  unfold fBest at h
  split at h
  · rename_i d
    obtain ⟨v, r, rfl, p1, r2⟩ := al
    cases (show r = [] from r2)
    obtain ⟨ds, ns, e1, e2, hne, q⟩ := h
    cases d <;> first | cases e1; done | skip
    · cases e1
      obtain ⟨a, us, rfl, ha, da⟩ := p1.lst R.w
      exact ⟨_, h0, a, ns, rfl, .inl (by rw [← ints_dq da e2]; exact .inl ha), hne, fun m hm => cl.val R (q m hm) (.int _)⟩
    · cases e1
      obtain ⟨a, us, rfl, ha, da⟩ := p1.tup
      exact ⟨_, h0, a, ns, rfl, .inr (by rw [← ints_dq da e2]; exact SqT.up R.w.sub ha), hne, fun m hm => cl.val R (q m hm) (.int _)⟩
  · exact h.elim
theorem cd_max1 (hc : X.calm = true) : CallD X (.builtin "max") fMax1 := cd_best (cr_max1 hc)
theorem cd_min1 (hc : X.calm = true) : CallD X (.builtin "min") fMin1 := cd_best (cr_min1 hc)
end
/-! ### a, b = x, y and a, b, c = x, y, z with plain local names -/
def msPar (i j : Nat) (ma : MA) : MS := fun env E => ma env fun rs e => match rs with
  | [.val a, .val b] => i < e.length ∧ j < e.length ∧ E.nx ((e.set i (.val a)).set j (.val b))
  | _ => False
def msPar3 (i j l : Nat) (ma : MA) : MS := fun env E => ma env fun rs e => match rs with
  | [.val a, .val b, .val c] => i < e.length ∧ j < e.length ∧ l < e.length ∧ E.nx (((e.set i (.val a)).set j (.val b)).set l (.val c))
  | _ => False
section
variable {X : Cx}
theorem dst_par {i j : Nat} {x y : Str} {a b : Expr} {ma : MA} {px py pt pos : Pos} {kt k2 pt2} (hc : X.calm = true) (hN : X.N.Nodup) (ha : DA X [a, b] ma)
    (hw : swappedStores [.Tuple [.Name x px, .Name y py] kt pt] (.Tuple [a, b] k2 pt2) X.env = pure (some [x, y]))
    (hi : X.N[i]? = some x := by rfl) (hj : X.N[j]? = some y := by rfl) (hij : i ≠ j := by decide)
    (hx : X.env.scope.names.lookup x = some .local := by rfl) (hy : X.env.scope.names.lookup y = some .local := by rfl)
    (hs : swapsWithSole [.Tuple [.Name x px, .Name y py] kt pt] (.Tuple [a, b] k2 pt2) pos.line X.env = pure false := by rfl) :
    DSt X (.Assign [.Tuple [.Name x px, .Name y py] kt pt] (.Tuple [a, b] k2 pt2) pos) (msPar i j ma) := (ps_par hc hN hi hj hij hx hy ha hw hs).wk fun D σ H ⟨B, env, S, E, R, h, k⟩ =>
  ⟨B, env, S, _, R, h, fun rs e1 q vs S1 H1 st R1 al => by
    split at q
    · obtain ⟨v, r, rfl, d1, r2⟩ := al
      obtain ⟨w, r', rfl, d2, r3⟩ := r2
      cases (show r' = [] from r3)
      exact ⟨v, w, rfl, k.nx _ _ S1 H1 q.2.2 ((R1.setV d1 q.1).setV d2 (by rw [List.length_set]; exact q.2.1)) st.s.1⟩
    · exact q.elim⟩
theorem dst_par3 {i j l : Nat} {x y z : Str} {a b c : Expr} {ma : MA} {px py pz pt pos : Pos} {kt k2 pt2} (hc : X.calm = true) (hN : X.N.Nodup) (ha : DA X [a, b, c] ma)
    (hw : swappedStores [.Tuple [.Name x px, .Name y py, .Name z pz] kt pt] (.Tuple [a, b, c] k2 pt2) X.env = pure (some [x, y, z]))
    (hi : X.N[i]? = some x := by rfl) (hj : X.N[j]? = some y := by rfl) (hl : X.N[l]? = some z := by rfl) (hij : i ≠ j := by decide) (hil : i ≠ l := by decide) (hjl : j ≠ l := by decide)
    (hx : X.env.scope.names.lookup x = some .local := by rfl) (hy : X.env.scope.names.lookup y = some .local := by rfl) (hz : X.env.scope.names.lookup z = some .local := by rfl)
    (hs : swapsWithSole [.Tuple [.Name x px, .Name y py, .Name z pz] kt pt] (.Tuple [a, b, c] k2 pt2) pos.line X.env = pure false := by rfl) :
    DSt X (.Assign [.Tuple [.Name x px, .Name y py, .Name z pz] kt pt] (.Tuple [a, b, c] k2 pt2) pos) (msPar3 i j l ma) := (ps_par3 hc hN hi hj hl hij hil hjl hx hy hz ha hw hs).wk fun D σ H ⟨B, env, S, E, R, h, k⟩ =>
  ⟨B, env, S, _, R, h, fun rs e1 q vs S1 H1 st R1 al => by
    split at q
    · obtain ⟨v, r, rfl, d1, r2⟩ := al
      obtain ⟨w, r', rfl, d2, r3⟩ := r2
      obtain ⟨u, r'', rfl, d3, r4⟩ := r3
      cases (show r'' = [] from r4)
      exact ⟨v, w, u, rfl, k.nx _ _ S1 H1 q.2.2.2 (((R1.setV d1 q.1).setV d2 (by rw [List.length_set]; exact q.2.1)).setV d3 (by rw [List.length_set, List.length_set]; exact q.2.2.1)) st.s.1⟩
    · exact q.elim⟩
end
end Pq

set_option Elab.async false
set_option linter.all false
set_option maxRecDepth 100000
set_option maxHeartbeats 4000000
namespace Pq
open PySem PySem.Spec PyProof.Rows L2
/-! ### repr -/
section
variable {X : Cx}
theorem repr_dp (hg : X.A.guards = some []) (hu : X.A.units + 65 < cLine) : CallR X (.builtin "repr") (fun vs H Q => ∃ v d, vs = [v] ∧ Dp X.K H v d ∧ d.canLay0 = true ∧ d.depth ≤ 64 ∧ d.showable = true ∧ d.shown.length ≤ sizeLine ∧ Q (.str d.shown) H) := by
  intro pins s σ H vs us Q I r h
  obtain ⟨v, d, rfl, dp, cl, dep, sh, sz, q⟩ := h
  obtain ⟨u, rfl, rv⟩ := vals1 r
  have deep : ∀ a, u = .ref a → wpAny (model X.prog X.w) X.A (call (.builtin "repr") [u]) (EP X pins σ Q) X.xe s := fun a e => by
    subst e
    obtain ⟨as, rd⟩ := Dp.reads I d v _ dp rv
    exact PySem.repr_of_reads' rd sh (PyData.noDict_hsm (PyData.hasDict_of_canLay d cl)) hg (by omega) (fun _ _ e => e) (fun h' u tk hk => ⟨.str d.shown, H, I.kept hk, ⟨_, rfl⟩, q⟩) sz
  cases dp with
  | non =>
    cases rv
    exact PySem.P.repr_of_none ⟨.str _, H, I.tok _, ⟨_, rfl⟩, by simpa [PyData.shown] using q⟩
  | bl b =>
    cases rv
    exact PySem.P.repr_of_bool ⟨.str _, H, I.tok _, ⟨_, rfl⟩, by simpa [PyData.shown] using q⟩
  | int i =>
    obtain ⟨t, rfl⟩ := rv
    have hz : i.natAbs.log2 < 1920 := by simpa [PyData.showable] using sh
    exact PySem.P.repr_of_int hz ⟨.str _, H, I.tok _, ⟨_, rfl⟩, by simpa [PyData.shown] using q⟩
  | str x =>
    obtain ⟨t, rfl⟩ := rv
    have sz' : (reprText x).length ≤ sizeLine := by simpa [PyData.shown] using sz
    exact PySem.P.repr_of_str ⟨.str _, H, I.tok _, ⟨_, rfl⟩, by simpa [PyData.shown] using q⟩ sz'
  | lst _ _ => exact deep _ rv
  | tup _ _ => exact deep _ rv
/-- may be shown, in at most n signs -/
def Tx (n : Nat) (d : Da) : Prop := d.showable = true ∧ d.shown.length ≤ n
@[irreducible] def fRepr : List Da → (SV → Prop) → Prop
  | [d], Q => d.canLay0 = true ∧ d.depth ≤ 64 ∧ d.showable = true ∧ d.shown.length ≤ 16000000 ∧ Q (.val (.str d.shown))
  | _, _ => False
theorem cd_repr {k : Nat} (hr : RmG k X.A) : CallD X (.builtin "repr") fRepr := by
  intro B env S σ H vs ds Q Q' R al h cl
  unfold fRepr at h
  split at h
  · rename_i d
    obtain ⟨v, r, rfl, p1, r2⟩ := al
    cases (show r = [] from r2)
    obtain ⟨h1, h2, h3, h4, h5⟩ := h
    have un := hr.rm.un
    exact ⟨_, repr_dp hr.gd (by omega), v, d, rfl, Dq.dp _ _ h1 (p1.dq R.w), h1, h2, h3, by rw [sizeLine_eq]; omega, cl.val R h5 (.str _)⟩
  · exact h.elim
end
theorem tx_int {i : Int} (h : i.natAbs.log2 < 1900) : Tx 1910 (.int i) := by
  refine ⟨by simp only [PyData.showable]; exact decide_eq_true (by omega), ?_⟩
  have e := int_text_length_le (a := i) (k := 1900) (by decide) h
  show (Str.ofString (toString i)).length ≤ 1910
  rw [PySem.ofString_length]
  omega
theorem tx_tup {n : Nat} {ds : List Da} (h : ∀ d ∈ ds, Tx n d) : Tx (ds.length * (n + 2) + 2) (.tuple ds) := by
  have sh : PyData.showableAll ds = true ∧ piled (PyData.shownAll ds) ≤ ds.length * (n + 2) := by
    induction ds with
    | nil => exact ⟨by simp only [PyData.showableAll], by simp [PyData.shownAll, piled]⟩
    | cons d ds ih =>
      obtain ⟨a, b⟩ := ih fun x hx => h x (List.mem_cons_of_mem _ hx)
      obtain ⟨c, e⟩ := h d List.mem_cons_self
      refine ⟨by simp only [PyData.showableAll, c, a, Bool.and_self], ?_⟩
      rw [show PyData.shownAll (d :: ds) = PyData.shown d :: PyData.shownAll ds by simp only [PyData.shownAll], piled_cons, List.length_cons, Nat.add_mul, Nat.one_mul]
      omega
  refine ⟨by simp only [PyData.showable]; exact sh.1, ?_⟩
  have f := fmt_text (PyData.shownAll ds)
  rw [show PyData.shown (.tuple ds) = tupleText (PyData.shownAll ds) by simp only [PyData.shown]]
  omega
theorem Tx.mono {n m : Nat} {d : Da} (h : Tx n d) (hm : n ≤ m) : Tx m d := ⟨h.1, Nat.le_trans h.2 hm⟩
theorem w_repr {n m : Nat} {d : Da} (l : Lay n d) (t : Tx m d) (hn : n ≤ 64) (hm : m ≤ 16000000) (Q : SV → Prop) (h : Q (.val (.str d.shown))) : fRepr [d] Q := by
  unfold fRepr
  exact ⟨l.1, Nat.le_trans l.2 hn, t.1, Nat.le_trans t.2 hm, h⟩
/-! ### dicts -/
section
variable {X : Cx}
/-- {} -/
def mDict : ME := fun env Q => Q (.own true (.dict [])) env
theorem de_dict {pos : Pos} : DE X (.Dict [] [] pos) mDict := pe_dnewK.wk fun σ H Q ⟨B, env, S, Q0, R, h, k⟩ p hp =>
  k _ env h _ _ _ (stq_alloc hp) (R.alloc hp) ⟨rfl, p, rfl, ⟨R.w.bnone hp, R.w.snone hp, _, upd_same, .dk .nil⟩, hp, R.fresh hp⟩
/-- d.get(k, x) -/
@[irreducible] def fGet2 (ds : List (Da × Da)) (j x : Da) (Q : Da → Prop) : Prop := match dGetO ds j with
  | some o => Q (o.getD x)
  | none => False
theorem w_get2 {ds : List (Da × Da)} {j x : Da} {o : Option Da} {Q : Da → Prop} (h : dGetO ds j = some o) (q : Q (o.getD x)) : fGet2 ds j x Q := by
  unfold fGet2
  rw [h]
  exact q
def mGet2 (md mk mx : MP) : MP := fun env Q => md env fun c e1 => match c with
  | .dict ds => isPm ds = false ∧ mk e1 fun j e2 => mx e2 fun x e3 => fGet2 ds j x fun d => Q d e3
  | _ => False
theorem de_get2 {o e f : Expr} {md mk mx : MP} {apos cpos : Pos} (hu : X.A.units + 1 < cLine) (ho : DP X o md) (he : DP X e mk) (hf : DS X f mx) (m : M2 X o "get" apos e f cpos := by exact ⟨by rfl, by rfl, by rfl, by rfl⟩) : DS X (.Call (.Attribute o "get" apos) [e, f] [] cpos) (mGet2 md mk mx) :=
  (pe_dget2X hu ho he hf m).wk fun σ H Q ⟨B, env, S, Q0, R, h, k⟩ => by
    refine ⟨B, env, S, _, R, h, fun c e1 q1 v S1 H1 st1 R1 p1 => ?_⟩
    cases c <;> first | exact q1.elim | skip
    rename_i ds
    obtain ⟨tm, q1⟩ := q1
    have pre : ∃ a, v = .ref a ∧ IsDX X.K H1 a := by
      have p := p1.dq R1.w
      cases p with
      | dk ha _ => exact ⟨_, rfl, .inl (.inl ⟨_, .inl ha⟩)⟩
      | dt ha hd => exact ⟨_, rfl, .inr ⟨_, .inl ⟨_, ha⟩, dqt_keys hd⟩⟩
      | scr _ => cases tm
      | pr _ _ => cases tm
    obtain ⟨a, rfl, isd⟩ := pre
    refine ⟨a, rfl, isd, B, e1, S1, _, R1, q1, fun j e2 q2 y S2 H2 st2 R2 p2 => ?_⟩
    refine ⟨B, e2, S2, _, R2, q2, fun x e3 q3 z S3 H3 st3 R3 dz => ?_⟩
    unfold fGet2 at q3
    cases eo : dGetO ds j with
    | none => rw [eo] at q3; exact q3.elim
    | some o =>
      rw [eo] at q3
      obtain ⟨a', ov, e', g, ro, _⟩ := dget_of R3.w ((p1.up st2.s).up st3.s) (p2.up st3.s) eo
      cases e'
      refine ⟨ov, g, k _ e3 q3 _ S3 H3 ((st1.trans st2).trans st3) R3 ?_⟩
      cases ov with
      | none =>
        cases o with
        | none => exact dz
        | some d => exact ro.elim
      | some v =>
        cases o with
        | none => exact ro.elim
        | some d => exact ro
/-- sorted of a dict's keys, of a list -/
@[irreducible] def fSorted : List Da → (SV → Prop) → Prop
  | [.dict ds], Q => (∃ ks : List Int, ds.map (·.1) = ks.map .int ∧ ks.length < 64 ∧ ∀ ys : List Int, ys.Perm ks → ys.Pairwise (· ≤ ·) → Q (.own true (.list (ys.map .int)))) ∨
    (∃ ks : List Str, ds ≠ [] ∧ ds.map (·.1) = ks.map .str ∧ ks.length < 64 ∧ ∀ ys : List Str, ys.Perm ks → sortedS ys = true → Q (.own true (.list (ys.map .str)))) ∨
    ∃ (r : List (Da × Da)) (ks : List (List Int)), ds = (.none, .none) :: r ∧ r.map (·.1) = ks.map tkI ∧ ∀ ys : List (List Int), ys.Perm ks → ys.Pairwise (fun x y => SrtT.lexL y x = false) → Q (.own true (.list (ys.map tkI)))
  | [.list ds], Q => (∃ ks : List Int, ds = ks.map .int ∧ ks.length < 64 ∧ ∀ ys : List Int, ys.Perm ks → ys.Pairwise (· ≤ ·) → Q (.own true (.list (ys.map .int)))) ∨
    (∃ ks : List Str, ds = ks.map .str ∧ ks.length < 64 ∧ ∀ ys : List Str, ys.Perm ks → sortedS ys = true → Q (.own true (.list (ys.map .str)))) ∨
    ∃ ks : List (List Int), ds = ks.map tkI ∧ ∀ ys : List (List Int), ys.Perm ks → ys.Pairwise (fun x y => SrtT.lexL y x = false) → Q (.own true (.list (ys.map tkI)))
  | _, _ => False
theorem dqt_ks {K : PySem.W.Frag} {S : Hp} : ∀ {kvs : TKv} {r : List (Da × Da)} {ks : List (List Int)}, DqT K S kvs r → r.map (·.1) = ks.map tkI → kvs.map (·.1) = ks
  | [], _, ks, h, e => by
    cases h
    cases ks with
    | nil => rfl
    | cons k ks => cases e
  | p :: kvs, _, ks, h, e => by
    cases h with
    | cons h0 h1 h2 =>
      cases ks with
      | nil => cases e
      | cons j ks =>
        rw [List.map_cons, List.map_cons] at e
        injection e with e1 e2
        rw [List.map_cons, dqt_ks h2 e2]
        have := congrArg tkO (show tkI _ = tkI j from e1)
        rw [tkO_I, tkO_I] at this
        rw [Option.some.inj this]
theorem dqt_pl {K : PySem.W.Frag} {S : Hp} : ∀ {kvs : TKv} {r : List (Da × Da)}, DqT K S kvs r → ∀ p ∈ kvs, PlT K S p.2.1 (p.1.map V.int)
  | [], _, _ => fun p hp => by cases hp
  | p :: kvs, _, h => by
    cases h with
    | cons h0 h1 h2 =>
      intro q hq
      rcases List.mem_cons.mp hq with e | hq
      · subst e; exact h0
      · exact dqt_pl h2 q hq
theorem dq_ints2 {K : PySem.W.Frag} {S : Hp} : ∀ ys : List Int, DqAll K S (ys.map V.int) (ys.map .int)
  | [] => .nil
  | y :: ys => .cons (.int y) (dq_ints2 ys)
theorem dq_tks {K : PySem.W.Frag} {S : Hp} : ∀ {ps : List (List Int × Addr)}, (∀ p ∈ ps, PlT K S p.2 (p.1.map V.int)) → DqAll K S (ps.map fun p => V.ref p.2) ((ps.map (·.1)).map tkI)
  | [], _ => .nil
  | p :: ps, h => .cons (.tup (h p List.mem_cons_self) (dq_ints2 _)) (dq_tks fun q hq => h q (List.mem_cons_of_mem _ hq))
theorem tks_of {K : PySem.W.Frag} {S : Hp} : ∀ {ks : List (List Int)} {us : List V}, DqAll K S us (ks.map tkI) → ∃ ps : List (List Int × Addr), ps.map (·.1) = ks ∧ us = ps.map (fun p => V.ref p.2) ∧ ∀ p ∈ ps, PlT K S p.2 (p.1.map V.int)
  | [], _, h => by cases h; exact ⟨[], rfl, rfl, fun p hp => by cases hp⟩
  | k :: ks, _, h => by
    cases h with
    | cons h1 h2 =>
      obtain ⟨ps, e1, e2, e3⟩ := tks_of h2
      obtain ⟨b, rfl, pb⟩ := IsP.tk (B := ⟨fun _ => none, fun _ => none, none, fun _ => none⟩) (H := S) (.inl h1)
      refine ⟨(k, b) :: ps, by rw [List.map_cons, e1], by rw [e2]; rfl, fun p hp => ?_⟩
      rcases List.mem_cons.mp hp with e | hp
      · subst e; exact pb
      · exact e3 p hp
theorem dq_strs {K : PySem.W.Frag} {S : Hp} : ∀ ys : List Str, DqAll K S (ys.map V.str) (ys.map .str)
  | [] => .nil
  | y :: ys => .cons (.str y) (dq_strs ys)
theorem int_keys {K : PySem.W.Frag} {S : Hp} : ∀ {kvs : List (Key × V)} {ds : List (Da × Da)} {ks : List Int}, DqK K S kvs ds → ds.map (·.1) = ks.map .int → kvs.map (·.1) = ks.map Sum.inl
  | [], _, ks, h, e => by
    cases h
    cases ks with
    | nil => rfl
    | cons k ks => cases e
  | (k, v) :: _, _, ks, h, e => by
    cases h with
    | cons h1 h2 =>
      cases ks with
      | nil => cases e
      | cons j ks =>
        rw [List.map_cons, List.map_cons] at e
        injection e with e1 e2
        rw [List.map_cons, List.map_cons, int_keys h2 e2]
        cases k <;> cases e1
        rfl
theorem str_keys {K : PySem.W.Frag} {S : Hp} : ∀ {kvs : List (Key × V)} {ds : List (Da × Da)} {ks : List Str}, DqK K S kvs ds → ds.map (·.1) = ks.map .str → kvs.map (·.1) = ks.map Sum.inr
  | [], _, ks, h, e => by
    cases h
    cases ks with
    | nil => rfl
    | cons k ks => cases e
  | (k, v) :: _, _, ks, h, e => by
    cases h with
    | cons h1 h2 =>
      cases ks with
      | nil => cases e
      | cons j ks =>
        rw [List.map_cons, List.map_cons] at e
        injection e with e1 e2
        rw [List.map_cons, List.map_cons, str_keys h2 e2]
        cases k <;> cases e1
        rfl
theorem ints_v {K : PySem.W.Frag} {S : Hp} : ∀ {ks : List Int} {vs : List V}, DqAll K S vs (ks.map .int) → vs = ks.map V.int
  | [], _, h => by cases h; rfl
  | k :: ks, _, h => by
    cases h with
    | cons h1 h2 => cases h1; rw [ints_v h2]; rfl
theorem strs_v {K : PySem.W.Frag} {S : Hp} : ∀ {ks : List Str} {vs : List V}, DqAll K S vs (ks.map .str) → vs = ks.map V.str
  | [], _, h => by cases h; rfl
  | k :: ks, _, h => by
    cases h with
    | cons h1 h2 => cases h1; rw [strs_v h2]; rfl
theorem cd_sorted (hc : X.calm = true) (hu : X.A.units + 65 < cLine) : CallD X (.builtin "sorted") fSorted := by
  intro B env S σ H vs ds Q Q' R al h cl
  unfold fSorted at h
  split at h
  · rename_i ds
    obtain ⟨v, r, rfl, p1, r2⟩ := al
    cases (show r = [] from r2)
    have p := p1.dq R.w
    rcases h with ⟨ks, e, h64, q⟩ | ⟨ks, hne, e, h64, q⟩ | ⟨r, ks, rfl, e, q⟩
    · cases p with
      | dk ha hd => exact ⟨_, call_sortedDI hc, _, _, ks, rfl, .inl ha, int_keys hd e, h64, fun ys p pm pw hp => cl.newL R (q ys pm pw) (dq_ints ys) hp⟩
      | dt ha hd =>
        cases ks with
        | nil => cases e
        | cons k ks => cases e
      | scr _ =>
        cases ks with
        | nil => cases e
        | cons k ks => cases e
      | pr _ _ =>
        cases ks with
        | nil => cases e
        | cons k ks => cases e
    · cases p with
      | dk ha hd => exact ⟨_, call_sortedD hc, _, _, ks, rfl, .inl ha, str_keys hd e, h64, fun ys p pm pw hp => cl.newL R (q ys pm pw) (dq_strs ys) hp⟩
      | dt ha hd =>
        cases ks with
        | nil => cases e
        | cons k ks => cases e
      | scr _ =>
        cases ks with
        | nil => cases e
        | cons k ks => cases e
      | pr _ _ =>
        cases ks with
        | nil => cases e
        | cons k ks => cases e
    · have fin : ∀ (a a' : Addr) (kvs : TKv), H a = some (dtO a' kvs) → DqT X.K S kvs r → uC X (.builtin "sorted") [.ref a] H Q' := fun a a' kvs ha hd => by
        refine ⟨_, cr_sortedTD hc (by omega), _, kvs, rfl, .inl ⟨_, ha⟩, tkeys_up R.w (dqt_keys hd), fun ys l pm pw hp => ?_⟩
        have e2 := dqt_ks hd e
        have d := dq_tks (K := X.K) (S := S) (ps := ys.map fun p => (p.1, p.2.1)) fun p hp => by
          obtain ⟨x, hx, rfl⟩ := List.mem_map.mp hp
          exact dqt_pl hd x (pm.mem_iff.mp hx)
        simp only [List.map_map] at d
        have d : DqAll X.K S (ys.map fun p => V.ref p.2.1) ((ys.map (·.1)).map tkI) := by rw [List.map_map]; exact d
        exact cl.newL R (q (ys.map (·.1)) (by rw [← e2]; exact pm.map _) (List.pairwise_map.mpr pw)) d hp
      rcases p1 with p1 | ⟨p0, o, rfl, _, ho, hd⟩
      · cases p1 with
        | dk ha hd => exact nomatch (show true = false from tm_dk hd)
        | dt ha hd => exact fin _ _ _ (R.w.sub _ _ ha) hd
      · cases hd with
        | dk hd => exact nomatch (show true = false from tm_dk hd)
        | dt hd => exact fin _ _ _ ho hd
  · rename_i ds
    obtain ⟨v, r, rfl, p1, r2⟩ := al
    cases (show r = [] from r2)
    obtain ⟨a, us, rfl, ha, da⟩ := p1.lst R.w
    rcases h with ⟨ks, rfl, h64, q⟩ | ⟨ks, rfl, h64, q⟩ | ⟨ks, rfl, q⟩
    · exact ⟨_, cr_sorted, a, ks, rfl, by rw [← ints_v da]; exact .inl ha, h64, fun ys p pm pw hp => cl.newL R (q ys pm pw) (dq_ints ys) hp⟩
    · exact ⟨_, cr_sortedS, a, ks, rfl, by rw [← strs_v da]; exact .inl ha, h64, fun ys p pm pw hp => cl.newL R (q ys pm pw) (dq_strs ys) hp⟩
    · obtain ⟨ps, e1, rfl, e3⟩ := tks_of da
      refine ⟨_, cr_sortedTL (by omega), a, ps, rfl, .inl ha, fun p hp => SqT.up R.w.sub (e3 p hp).sq, fun ys l pm pw hl => ?_⟩
      have d := dq_tks (K := X.K) (S := S) (ps := ys) fun p hp => e3 p (pm.mem_iff.mp hp)
      exact cl.newL R (q (ys.map (·.1)) (by rw [← e1]; exact pm.map _) (List.pairwise_map.mpr pw)) d hl
  · exact h.elim
/-! ### names of the module: numbers and texts -/
theorem ds_glob {x : Str} {d : Da} {v : V} {u : Value} {pos : Pos} (hg : Gl X x) (c : X.mg x = some u ∧ RelV v u ∧ ∀ S, Dq X.K S v d) (hd : (x == ("__debug__" : Str)) = false := by decide) : DS X (.Name x pos) (mC d) := ds_c (pe_glob hg c.1 c.2.1 hd) c.2.2
theorem ds_globX {x : Str} {d : Da} {pos : Pos} (hg : Gl X x) (c : ∃ (v : V) (u : Value), X.mg x = some u ∧ RelV v u ∧ ∀ S, Dq X.K S v d) (hd : (x == ("__debug__" : Str)) = false := by decide) : DS X (.Name x pos) (mC d) := by
  obtain ⟨v, u, c⟩ := c
  exact ds_glob hg c hd
/-- a raise that is never reached -/
def msNever : MS := fun _ _ => False
theorem dst_never {st : Stmt} : DSt X st msNever := ⟨fun pins s σ H D I ⟨B, env, S, E, R, h, k⟩ => h.elim⟩
end
/-- a call that is never made -/
theorem fn_none {P : Program} {w : World} {K : PySem.W.Frag} {mg : Str → Option Value} {base : Heap} {k n : Nat} {f : Addr} {fd : FuncData} {ps : List Str} : FnG P w K mg base CX0 k f fd ps (spD K n fun _ _ => False) :=
  ⟨fun vs H Q E ⟨_, _, _, _, _, _, _, _, z, _⟩ => z.elim, fun A outs sh H ags us vs Q E _ _ _ _ ⟨_, _, _, _, _, _, _, _, z, _⟩ => z.elim⟩
end Pq

set_option Elab.async false
set_option linter.all false
set_option maxRecDepth 100000
set_option maxHeartbeats 4000000
namespace Pq
open PySem PySem.Spec PyProof.Rows L2
/-! ### methods of texts -/
section
variable {X : Cx}
/-- a method of a text with one argument, looked at -/
def StrD1 (X : Cx) (id : String) (f : Str → Da → (SV → Prop) → Prop) : Prop :=
  ∀ (B : Bs) (env : En) (S : Hp) (σ : L2.St) (H : Hp) (a : Str) (y : V) (d : Da) (Q : SV → Prop) (Q' : VK), Rel X.K B env S σ H → IsP X.K B S H d y → f a d Q → Cl X.K B env S σ H Q Q' → uM X id (.str a) [y] H Q'
def mStr1 (f : Str → Da → (SV → Prop) → Prop) (ma mb : MP) : ME := fun env Q => ma env fun c e1 => match c with
  | .str a => mb e1 fun d e2 => f a d fun r => Q r e2
  | _ => False
theorem de_str1 {id : String} {name : Str} {o e : Expr} {f : Str → Da → (SV → Prop) → Prop} {ma mb : MP} {apos pos : Pos} (slot : Slot "str" name id) (ty : typeOf (.builtin id) = pure (.type "method_descriptor")) (hf : StrD1 X id f) (ho : DP X o ma) (he : DP X e mb)
    (hs : starEach [e] X.env = [(false, eval e X.env)] := by rfl) (hbase : attributeBase o name X.env (eval o X.env) = eval o X.env := by rfl) (hline : (apos.endLine == pos.line) = true := by rfl) :
    DE X (.Call (.Attribute o name apos) [e] [] pos) (mStr1 f ma mb) := (pe_m1 slot ty MtR.un ho he hs hbase hline).wk fun σ H Q ⟨B, env, S, Q0, R, h, k⟩ => by
  refine ⟨B, env, S, _, R, h, fun c e1 q1 v S1 H1 st1 R1 p1 => ?_⟩
  cases c <;> first | exact q1.elim | skip
  rename_i a
  cases p1.str
  refine ⟨⟨a, rfl⟩, B, e1, S1, _, R1, q1, fun d e2 q2 y S2 H2 st2 R2 p2 => ?_⟩
  exact hf B e2 S2 σ H2 a y d _ Q R2 p2 q2 fun r v S' H' q st R' ir => k r e2 q v S' H' ((st1.trans st2).trans st) R' (ir.back R.w (st1.trans st2))
/-- s.join(xs) -/
@[irreducible] def fJoin : Str → Da → (SV → Prop) → Prop := fun a d Q => ∃ ys : List Str, (d = .list (ys.map .str) ∨ d = .tuple (ys.map .str)) ∧ (ys.map (·.length)).sum + ys.length * a.length ≤ 16777216 ∧ Q (.val (.str (Txt.join a ys)))
theorem sd_join : StrD1 X "str.join" fJoin := by
  intro B env S σ H a y d Q Q' R p h cl
  unfold fJoin at h
  obtain ⟨ys, e, sz, q⟩ := h
  rcases e with rfl | rfl
  · obtain ⟨b, us, rfl, hb, db⟩ := p.lst R.w
    exact ⟨_, mt_join, a, b, ys, rfl, rfl, .inl (by rw [← strs_v db]; exact .inl hb), sz, cl.val R q (.str _)⟩
  · obtain ⟨b, us, rfl, hb, db⟩ := p.tup
    exact ⟨_, mt_join, a, b, ys, rfl, rfl, .inr (by rw [← strs_v db]; exact SqT.up R.w.sub hb), sz, cl.val R q (.str _)⟩
theorem de_join {o e : Expr} {ma mb : MP} {apos pos : Pos} (ho : DP X o ma) (he : DP X e mb) (hs : starEach [e] X.env = [(false, eval e X.env)] := by rfl) (hbase : attributeBase o "join" X.env (eval o X.env) = eval o X.env := by rfl) (hline : (apos.endLine == pos.line) = true := by rfl) :
    DE X (.Call (.Attribute o "join" apos) [e] [] pos) (mStr1 fJoin ma mb) := de_str1 F.slot_str_join F.type_str_join sd_join ho he hs hbase hline
/-- list(reversed(xs)) -/
def mLRev (m : MP) : ME := fun env Q => m env fun d e => match d with
  | .list ds => Q (.own true (.list ds.reverse)) e
  | _ => False
theorem DqAll.rev {K : PySem.W.Frag} {S : Hp} : ∀ {ds : List Da} {vs : List V}, DqAll K S vs ds → DqAll K S vs.reverse ds.reverse
  | [], _, h => by cases h; exact .nil
  | d :: ds, _, h => by
    cases h with
    | cons h1 h2 =>
      rw [List.reverse_cons, List.reverse_cons]
      exact (DqAll.rev h2).app (.cons h1 .nil)
theorem de_lrev {e : Expr} {m : MP} {p p2 pos pos2 : Pos} (hc : X.calm = true) (hg : Gl X "list") (hm : X.mg "list" = none) (hg2 : Gl X "reversed") (hm2 : X.mg "reversed" = none) (he : DP X e m)
    (hs : starEach [e] X.env = (false, eval e X.env) :: starEach [] X.env := by rfl)
    (hs2 : starEach [.Call (.Name "reversed" p2) [e] [] pos2] X.env = (false, eval (.Call (.Name "reversed" p2) [e] [] pos2) X.env) :: starEach [] X.env := by rfl) :
    DE X (.Call (.Name "list" p) [.Call (.Name "reversed" p2) [e] [] pos2] [] pos) (mLRev m) := (pe_lstRev hc hg hm hg2 hm2 he hs hs2).wk fun σ H Q ⟨B, env, S, Q0, R, h, k⟩ => by
  refine ⟨B, env, S, _, R, h, fun d e1 q v S1 H1 st1 R1 p1 => ?_⟩
  cases d <;> first | exact q.elim | skip
  obtain ⟨a, us, rfl, ha, da⟩ := p1.lst R1.w
  refine ⟨a, us, rfl, ha, fun q' hq => k _ e1 q _ S1 _ (st1.trans (stq_alloc hq)) (R1.alloc hq) (IsR.back R.w st1 ?_)⟩
  refine ⟨rfl, q', rfl, ⟨R1.w.bnone hq, R1.w.snone hq, _, upd_same, .lst da.rev⟩, hq, R1.fresh hq⟩
end
end Pq

set_option Elab.async false
set_option linter.all false
set_option maxRecDepth 100000
set_option maxHeartbeats 4000000
namespace Pq
open PySem PySem.Spec PyProof.Rows L2
/-! ### xs[k] += e, d[k] += e -/
section
variable {X : Cx}
theorem get_lst : PGet X (fun o i H Q => ∃ p xs k v, o = .ref p ∧ i = .int k ∧ Rd H p (.lst xs) ∧ 0 ≤ k ∧ k < xs.length ∧ xs[k.toNat]? = some v ∧ Q v H) := by
  intro pins s σ H o i ov iv Q I ro ri h
  obtain ⟨p, xs, k, v, rfl, rfl, rd, k0, k1, ev, q⟩ := h
  cases ro
  obtain ⟨t, rfl⟩ := ri
  obtain ⟨its, r, pl, hz⟩ := I.list (.inl rd : SqL X.K H p xs)
  obtain ⟨w, ew, rw'⟩ := Vals.get r ev
  have hn := line63
  exact wpAny_getItem_list (x := w) pl.isList k0 (by omega) (by simpa using ew) ⟨v, H, I, rw', q⟩
theorem get_dict (hu : X.A.units + 1 < cLine) : PGet X (fun o i H Q => ∃ a v, o = .ref a ∧ DGX X.K H a i (some v) ∧ Q v H) := by
  intro pins s σ H o i ov iv Q I ro ri h
  obtain ⟨a, v, rfl, g, q⟩ := h
  cases ro
  exact d_getItemX hu I g ri fun w' s' I' rw' => ⟨v, H, I', rw', q⟩
def uGt (X : Cx) : V → V → Hp → VK → Prop := fun o i H Q => ∃ t, PGet X t ∧ t o i H Q
theorem get_un : PGet X (uGt X) := fun pins s σ H o i ov iv Q I ro ri h => by
  obtain ⟨t, p, q⟩ := h
  exact p pins s σ H o i ov iv Q I ro ri q
/-- c[j], of what is owned -/
@[irreducible] def fAt : Da → Da → (Da → Prop) → Prop := fun c j Q => match c, j with
  | .list ds, .int k => 0 ≤ k ∧ k < ds.length ∧ ∀ d, ds[k.toNat]? = some d → Q d
  | .dict ds, j => match dGetO ds j with
    | some (some d) => Q d
    | _ => False
  | _, _ => False
def msAugS (i : Nat) (f : Int → Int → Int) (mk mv : MP) : MS := fun env E => ownM env i ∧ mk env fun j e1 => match e1[i]? with
  | some (.own true c) => fAt c j fun x => mv e1 fun d e2 => match x, d with
    | .int a, .int b => match e2[i]? with
      | some (.own true c2) => fPut c2 j (.int (f a b)) fun c' => E.nx (e2.set i (.own true c'))
      | _ => False
    | _, _ => False
  | _ => False
theorem dst_augS (i : Nat) {f : Int → Int → Int} {x : Str} {ei e : Expr} {mk mv : MP} {p tpos pos : Pos} {op : Operator} (hu : X.A.units + 1 < cLine) (hp : PIp X op (ipI f)) (hk : DP X ei mk) (he : DP X e mv) (hN : X.N[i]? = some x := by rfl) (hv : Vis X.env.scope x := by first | exact Or.inl rfl | exact Or.inr (Or.inl rfl) | exact Or.inr (Or.inr rfl)) (hd : (x == ("__debug__" : Str)) = false := by decide)
    (hcd : (x == ("__classdict__" : Str)) = false := by decide)
    (ha : ∀ ov iv new, augStore ei ov iv new = (do holding [new, ov, iv] (setItem ov iv new); release [new, ov, iv] []; pure .next) := by intros; rfl) :
    DSt X (.AugAssign (.Subscript (.Name x p) ei tpos) op e pos) (msAugS i f mk mv) :=
  (ps_augS (pe_var hN hv hd hcd) hk get_un he hp set_un ha).wk fun D σ H ⟨B, env, S, E, R, h, k⟩ => by
    obtain ⟨p0, a0⟩ := ownM_at R h.1
    refine ⟨.ref p0, a0, B, env, S, _, R, h.2, fun j e1 q1 u S1 H1 st1 R1 ip1 => ?_⟩
    split at q1
    · rename_i c e3
      have fin : ∀ (xd : Da) (v : V), Dq X.K S1 v xd → (mv e1 fun d e2 => match xd, d with
          | .int a, .int b => match e2[i]? with
            | some (.own true c2) => fPut c2 j (.int (f a b)) fun c' => E.nx (e2.set i (.own true c'))
            | _ => False
          | _, _ => False) → tP X.K mv σ H1 fun y H4 => ipI f v y H4 fun z H5 => uSt X (.ref p0) u z H5 fun H6 => D.nx σ H6 := fun xd v dv q => by
        refine ⟨B, e1, S1, _, R1, q, fun d e2 q2 y S2 H2 st2 R2 ip2 => ?_⟩
        cases xd <;> first | exact q2.elim | skip
        cases d <;> first | exact q2.elim | skip
        rename_i a b
        cases dv
        cases ip2.int
        refine ⟨a, b, rfl, rfl, ?_⟩
        dsimp only at q2
        split at q2
        · rename_i c2 e4
          have ip1 := ip1.up st2.s
          unfold fPut at q2
          split at q2
          · rename_i ds k0 ip1
            cases ip1.int
            split at q2
            · rename_i n en
              obtain ⟨p1, b1, b2, b3, o, b4, b5⟩ := R2.own _ _ _ e4
              rw [a0] at b1; cases b1
              cases b5 with
              | lst b5 => exact ⟨_, set_list, p0, _, k0, n, rfl, rfl, b4, by rw [b5.length]; exact en, k.nx _ _ S2 _ q2 (R2.chg e4 a0 b2 b3 (.lst (b5.set n (.int _)))) fun a o z => st2.s.1 a o (st1.s.1 a o z)⟩
            · exact q2.elim
          · rename_i ds
            split at q2
            · rename_i k0 ek
              have ey := ip1.flatK ek
              subst ey
              obtain ⟨p1, b1, b2, b3, o, b4, b5⟩ := R2.own _ _ _ e4
              rw [a0] at b1; cases b1
              cases b5 with
              | dk b5 => exact ⟨_, set_dict hu, p0, _, rfl, DPut.k b4 (by rw [b5.len]; exact lt_sz q2.2.1), k.nx _ _ S2 _ q2.2.2 (R2.chg e4 a0 b2 b3 (.dk (b5.put (.int _)))) fun a o z => st2.s.1 a o (st1.s.1 a o z)⟩
              | dt b5 => exact absurd q2.1 (fun z => by cases z)
            · split at q2
              · rename_i k0 ek
                rw [tkO_eq ek] at ip1
                obtain ⟨b, rfl, pb⟩ := ip1.tk
                have eb := SqT.up R2.w.sub pb.sq
                obtain ⟨p1, b1, b2, b3, o, b4, b5⟩ := R2.own _ _ _ e4
                rw [a0] at b1; cases b1
                obtain ⟨hc, hl, q2⟩ := q2
                cases b5 with
                | dk b5 =>
                  rcases hc with rfl | ⟨h1, _⟩
                  · cases b5
                    exact ⟨_, set_tdict hu, p0, [], k0, b, rfl, rfl, .inr ⟨rfl, b4⟩, (fun p hp => by cases hp), lt_sz hl, eb, k.nx _ _ S2 _ q2 (R2.chg e4 a0 b2 b3 (.dt (DqT.put .nil pb (.int _)))) fun a o z => st2.s.1 a o (st1.s.1 a o z)⟩
                  · rw [tm_dk b5] at h1; cases h1
                | dt b5 =>
                  exact ⟨_, set_tdict hu, p0, _, k0, b, rfl, rfl, .inl ⟨_, b4⟩, tkeys_up R2.w (dqt_keys b5), (by rw [b5.len]; rw [List.length_cons] at hl; exact lt_sz (by omega)), eb, k.nx _ _ S2 _ q2 (R2.chg e4 a0 b2 b3 (.dt (b5.put pb (.int _)))) fun a o z => st2.s.1 a o (st1.s.1 a o z)⟩
              · exact q2.elim
          · exact q2.elim
        · exact q2.elim
      unfold fAt at q1
      split at q1
      · rename_i ds k0
        cases ip1.int
        obtain ⟨k0', k1, q1⟩ := q1
        obtain ⟨p1, b1, b2, b3, o, b4, b5⟩ := R1.own _ _ _ e3
        rw [a0] at b1; cases b1
        cases b5 with
        | lst b5 =>
          have hk : k0.toNat < ds.length := by omega
          obtain ⟨v, ev, dv⟩ := b5.get (List.getElem?_eq_getElem hk)
          exact ⟨_, get_lst, p0, _, k0, v, rfl, rfl, .inl b4, k0', by rw [b5.length]; exact k1, ev, fin _ v dv (q1 _ (List.getElem?_eq_getElem hk))⟩
      · rename_i ds
        split at q1
        · rename_i d eo
          obtain ⟨p1, b1, b2, b3, o, b4, b5⟩ := R1.own _ _ _ e3
          rw [a0] at b1; cases b1
          obtain ⟨a', ov, e', g, ro, _⟩ := dget_of R1.w (.inr ⟨p0, o, rfl, R1.w.nfp b2, b4, b5⟩ : IsP X.K B S1 H1 (.dict ds) (.ref p0)) ip1 eo
          cases e'
          cases ov with
          | none => exact ro.elim
          | some v => exact ⟨_, get_dict hu, p0, v, rfl, g, fin _ v ro q1⟩
        · exact q1.elim
      · exact q1.elim
    · exact q1.elim
end
end Pq

set_option Elab.async false
set_option linter.all false
set_option maxRecDepth 100000
set_option maxHeartbeats 4000000
namespace Pq
open PySem PySem.Spec PyProof.Rows L2
/-! ### dict(xs) of pairs: keys ints and texts -/
section
variable {X : Cx}
theorem refs_v : ∀ {vs : List V} {L : List Da} {K : PySem.W.Frag} {S : Hp}, DqAll K S vs L → (∀ d ∈ L, ∃ ds, d = .tuple ds) → ∃ ps : List Addr, vs = ps.map V.ref
  | _, [], _, _, h, _ => by cases h; exact ⟨[], rfl⟩
  | _, d :: L, K, S, h, hd => by
    cases h with
    | cons h1 h2 =>
      obtain ⟨ps, e⟩ := refs_v h2 fun x hx => hd x (List.mem_cons_of_mem _ hx)
      obtain ⟨ds, e2⟩ := hd _ List.mem_cons_self
      subst e2
      obtain ⟨a, us, e3, _, _⟩ := IsP.tup (B := ⟨fun _ => none, fun _ => none, none, fun _ => none⟩) (H := S) (.inl h1)
      subst e3
      exact ⟨a :: ps, by rw [e]; rfl⟩
/-- dict(t), t a tuple of pairs -/
theorem call_dictPT (hcalm : X.calm = true) : CallR X (.type "dict") (fun xs H Q => ∃ (a : Addr) (ps : List Addr) (kvs : List (L2.Key × V)), xs = [.ref a] ∧ PlT X.K H a (ps.map V.ref) ∧ Paired (fun p kv => SqT X.K H p [kV kv.1, kv.2]) ps kvs ∧
    ∀ p, H p = none → Q (.ref p) (upd H p (.dK (mergeK [] kvs)))) := by
  intro pins s σ H xs us Q I r q
  obtain ⟨a, ps, kvs, ex, hq, hp, q⟩ := q
  subst ex
  obtain ⟨u, eu, rx⟩ := vals1 r
  subst eu
  cases rx
  have pl : ∃ (o : Obj) (its : List Value) (n : Nat), s.heap.get? a = some o ∧ o.cls = .type "tuple" ∧ o.dict = none ∧ o.data = .seq its.toArray n ∧ Vals (ps.map V.ref) its ∧ (ps.map V.ref).length ≤ sizeLine := by
    rcases hq with ⟨o, h, hd⟩ | ⟨o, its, n, h1, h2, h3, h4, h5, h6⟩
    · obtain ⟨e1, z, its, r, o', e2, c, n, d⟩ := I.hok a _ h
      rw [e1] at e2
      cases e2
      exact ⟨o, its, n, e1, c, hd, d, r, z⟩
    · exact ⟨o, its.toList, n, I.kIn a o h1, h2, h3, by simpa using h4, h6, by rw [h6.length]; simpa using h5⟩
  obtain ⟨o, its, n, ho, hc, hd, hdat, rv, hz⟩ := pl
  have ei := refs_at rv
  subst ei
  rw [List.length_map] at hz
  obtain ⟨prs, rel, hl, hpr⟩ := pairs_of I hp
  have ux : ∀ j : Nat, ∃ u : Value, ∀ q, prs[j]? = some q → ∃ b, ps[j]? = some b ∧ IsTup s.heap b #[u, q.2] ∧ keyIs q.1 u = true := fun j => by
    cases e : prs[j]? with
    | none => exact ⟨.none, fun _ z => nomatch z⟩
    | some q =>
      obtain ⟨b, u, e1, e2, e3⟩ := hpr j q e
      exact ⟨u, fun q' z => by cases z; exact ⟨b, e1, e2, e3⟩⟩
  obtain ⟨uf, huf⟩ := Classical.axiomOfChoice ux
  have hL : ∃ L : List (Value × Value), L.length = prs.length ∧ ∀ (j : Nat) (k v : Value), L[j]? = some (k, v) → ∃ (q : L2.Key × Value) (b : Addr), prs[j]? = some q ∧ ps[j]? = some b ∧ IsTup s.heap b #[k, v] ∧ v = q.2 ∧ keyIs q.1 k = true := by
    refine ⟨prs.mapIdx fun j q => (uf j, q.2), List.length_mapIdx, fun j k v e => ?_⟩
    rw [List.getElem?_mapIdx] at e
    cases e2 : prs[j]? with
    | none => rw [e2] at e; cases e
    | some q =>
      rw [e2] at e
      cases e
      obtain ⟨b, c1, c2, c3⟩ := huf j q e2
      exact ⟨q, b, rfl, c1, c2, rfl, c3⟩
  obtain ⟨L, l1, l2⟩ := hL
  have P := PairArg.tuple (prog := X.prog) (w := X.w) a (ps.map Value.ref).toArray (fun j => (ps[j]?).getD 0) L
  refine PySem.call_dict_pairs (knd := mixKind X.prog X.w) (kvs := prs) P (I.ok.hd hcalm) ⟨⟨o, n, ho, hc, hd, hdat⟩, by rw [List.size_toArray, List.length_map, l1, hl], fun j k v e => ?_⟩ ⟨l1.symm, fun i key v e => ?_⟩ (by rw [l1, hl]; exact hz) fun h' tk hd' k => ?_
  · obtain ⟨q, b, _, e2, e3, _⟩ := l2 j k v e
    refine ⟨by simp [e2], .inl ?_⟩
    show IsTup s.heap ((ps[j]?).getD 0) _
    rw [e2]
    exact e3
  · obtain ⟨q, b, e1, _, _, e4, e5⟩ := l2 i key v e
    exact ⟨q.1, by rw [e1, e4], e5⟩
  · have hm : (s.heap.objs.size == sysModules) = false := beq_eq_false_iff_ne.mpr (Nat.ne_of_gt I.big)
    have hlen : (mergeK [] kvs).length ≤ sizeLine := by
      refine Nat.le_trans (length_mergeK kvs []) ?_
      rw [List.length_nil, Nat.zero_add, rel.length, hl]
      exact hz
    exact ⟨.ref s.heap.objs.size, upd H s.heap.objs.size (.dK (mergeK [] kvs)), I.laid (t' := tk) (fun b o e => k b o (by simp) e) (Nat.le_refl _) (show ObjOk X.prog X.w _ _ _ (.dK (mergeK [] kvs)) from ⟨hlen, hm, merged [] prs, KV.merge rel .nil, hd'⟩), rfl, q _ (I.hok.fresh (Nat.le_refl _))⟩
def prsD : List Da → Option (List (L2.Key × Da))
  | [] => some []
  | .tuple [c, x] :: r => match keyO c, prsD r with
    | some k, some q => some ((k, x) :: q)
    | _, _ => none
  | _ => none
def mergeD (acc : List (Da × Da)) (ps : List (L2.Key × Da)) : List (Da × Da) := ps.foldl (fun a p => dPut a p.1 p.2) acc
theorem prs_of {K : PySem.W.Frag} {S : Hp} : ∀ {ds : List Da} {us : List V} {pr : List (L2.Key × Da)}, DqAll K S us ds → prsD ds = some pr →
    ∃ (as : List Addr) (kvs : List (L2.Key × V)), us = as.map V.ref ∧ Paired (fun p kv => SqT K S p [kV kv.1, kv.2]) as kvs ∧ Paired (fun (kv : L2.Key × V) (q : L2.Key × Da) => kv.1 = q.1 ∧ Dq K S kv.2 q.2) kvs pr
  | [], _, _, h, e => by cases h; cases e; exact ⟨[], [], rfl, .nil, .nil⟩
  | d :: ds, _, pr, h, e => by
    cases h with
    | @cons v vs _ _ h1 h2 =>
      unfold prsD at e
      split at e
      · rename_i z; cases z
      · rename_i c x r z
        cases z
        split at e
        · rename_i k q ek eq
          cases e
          obtain ⟨as, kvs, e1, p1, p2⟩ := prs_of h2 eq
          cases h1 with
          | @tup a xs _ ha da =>
            cases da with
            | cons d1 d2 =>
              cases d2 with
              | @cons vx _ _ _ dx dn =>
                cases dn
                cases Dq.key d1 ek
                exact ⟨a :: as, (k, vx) :: kvs, by rw [e1]; rfl, .cons ha.sq p1, .cons ⟨rfl, dx⟩ p2⟩
        · cases e
      · cases e
theorem merge_dk {K : PySem.W.Frag} {S : Hp} : ∀ {kvs : List (L2.Key × V)} {pr : List (L2.Key × Da)} {akv : List (L2.Key × V)} {acc : List (Da × Da)}, Paired (fun (kv : L2.Key × V) (q : L2.Key × Da) => kv.1 = q.1 ∧ Dq K S kv.2 q.2) kvs pr → DqK K S akv acc → DqK K S (mergeK akv kvs) (mergeD acc pr)
  | _, _, _, _, .nil, h => h
  | _, _, _, _, .cons (a := kv) (b := q) ⟨e, d⟩ t, h => by
    have h2 := h.put (k := kv.1) d
    have := merge_dk t h2
    rw [e] at this
    show DqK K S (mergeK (putK _ kv.1 kv.2) _) (mergeD (dPut _ q.1 q.2) _)
    rw [e]
    exact this
/-- dict(xs) of pairs whose keys are tuples of ints -/
def mergeT (acc kvs : TKv) : TKv := kvs.foldl (fun a p => tput a p.1 p.2.1 p.2.2) acc
theorem mergeT_keys {K : PySem.W.Frag} {H : Hp} : ∀ {kvs acc : TKv}, TKeys K H acc → TKeys K H kvs → TKeys K H (mergeT acc kvs)
  | [], _, h, _ => h
  | p :: kvs, acc, h, hk => mergeT_keys (acc := tput acc p.1 p.2.1 p.2.2) (tput_keys h (hk p List.mem_cons_self)) fun q hq => hk q (List.mem_cons_of_mem _ hq)
theorem mergeT_pr : ∀ {kvs : TKv} {xs : List (List Int × Addr × Value)} {acc : TKv} {ax : List (List Int × Addr × Value)}, Paired TPr acc ax → Paired TPr kvs xs → Paired TPr (mergeT acc kvs) (PySem.storedAllH ax xs)
  | _, _, acc, ax, ha, .nil => ha
  | _, _, acc, ax, ha, .cons (a := p) (b := q) hq t => by
    obtain ⟨e1, e2, e3⟩ := hq
    have h2 := tPr_put ha p.1 p.2.1 e3
    rw [e1, e2] at h2
    have := mergeT_pr h2 t
    show Paired TPr (mergeT (tput acc p.1 p.2.1 p.2.2) _) (PySem.storedAllH (storedH ax q.1 q.2.1 q.2.2) _)
    rw [e1, e2]
    exact this
theorem mergeT_len : ∀ (kvs acc : TKv), (mergeT acc kvs).length ≤ acc.length + kvs.length
  | [], acc => Nat.le_refl _
  | p :: kvs, acc => by
    have := mergeT_len kvs (tput acc p.1 p.2.1 p.2.2)
    have := tput_len acc p.1 p.2.1 p.2.2
    show (mergeT (tput acc p.1 p.2.1 p.2.2) kvs).length ≤ _
    rw [List.length_cons]
    omega
theorem pairsT_of {pins : List (Addr × Obj)} {σ : L2.St} {H : Hp} {s : Shared} (I : L2.Inv X pins σ H s) : ∀ {ps : List Addr} {kvs : TKv}, Paired (fun p kv => SqT X.K H p [.ref kv.2.1, kv.2.2]) ps kvs →
    ∃ prs : List (List Int × Addr × Value), Paired TPr kvs prs ∧ prs.length = ps.length ∧ ∀ (j : Nat) (q : List Int × Addr × Value), prs[j]? = some q → ∃ (b : Addr), ps[j]? = some b ∧ IsTup s.heap b #[.ref q.2.1, q.2.2]
  | _, _, .nil => ⟨[], .nil, rfl, fun j q e => by simp at e⟩
  | _, _, .cons (a := p) (b := kv) h t => by
    obtain ⟨prs, r, hl, hp⟩ := pairsT_of I t
    obtain ⟨its, rv, ht, _⟩ := I.tuple h
    obtain ⟨u, y, ei, ru, ry⟩ := vals2 rv
    subst ei
    obtain rfl : u = Value.ref kv.2.1 := ru
    refine ⟨(kv.1, kv.2.1, y) :: prs, .cons ⟨rfl, rfl, ry⟩ r, by rw [List.length_cons, List.length_cons, hl], fun j q e => ?_⟩
    cases j with
    | zero =>
      have e' : (kv.1, kv.2.1, y) = q := Option.some.inj e
      subst e'
      exact ⟨p, rfl, ht⟩
    | succ j =>
      obtain ⟨b, e1, e2⟩ := hp j q (by simpa using e)
      exact ⟨b, by simpa using e1, e2⟩
theorem call_dictTk (hcalm : X.calm = true) (hu : X.A.units + 65 < cLine) : CallR X (.type "dict") (fun xs H Q => ∃ (a : Addr) (ps : List Addr) (kvs : TKv), xs = [.ref a] ∧ (PlT X.K H a (ps.map V.ref) ∨ SqL X.K H a (ps.map V.ref)) ∧ Paired (fun p kv => SqT X.K H p [.ref kv.2.1, kv.2.2]) ps kvs ∧ TKeys X.K H kvs ∧
    ∀ p, H p = none → Q (.ref p) (upd H p (dtO p (mergeT [] kvs)))) := by
  intro pins s σ H xs us Q I r q
  obtain ⟨a, ps, kvs, ex, hq, hp, hk, q⟩ := q
  subst ex
  obtain ⟨u, eu, rx⟩ := vals1 r
  subst eu
  cases rx
  obtain ⟨prs, rel, hl, hpr⟩ := pairsT_of I hp
  have hL : ∀ (j : Nat) (k v : Value), (prs.map fun q => (Value.ref q.2.1, q.2.2))[j]? = some (k, v) → ∃ (q : List Int × Addr × Value) (b : Addr), prs[j]? = some q ∧ ps[j]? = some b ∧ IsTup s.heap b #[k, v] ∧ v = q.2.2 ∧ k = .ref q.2.1 := fun j k v e => by
    rw [List.getElem?_map] at e
    cases e2 : prs[j]? with
    | none => rw [e2] at e; cases e
    | some q =>
      rw [e2] at e
      cases e
      obtain ⟨b, c1, c2⟩ := hpr j q e2
      exact ⟨q, b, rfl, c1, c2, rfl, rfl⟩
  have hz : ps.length ≤ sizeLine := by
    rcases hq with hq | hq
    · obtain ⟨its, rv, _, z⟩ := I.tuple hq.sq
      rw [List.length_map] at z
      exact z
    · obtain ⟨its, rv, _, z⟩ := I.list hq
      rw [List.length_map] at z
      exact z
  have stay : PySem.KeysStay (tupleKind (intKind X.prog X.w)) s.heap s.heap.objs.size [] prs := fun h' hh x hx => by
    have mem : ∀ {kvs : TKv} {prs : List (List Int × Addr × Value)}, Paired TPr kvs prs → TKeys X.K H kvs → ∀ x ∈ prs, SqT X.K H x.2.1 (x.1.map V.int) := fun {kvs prs} r => by
      induction r with
      | nil => intro _ x hx; simp at hx
      | @cons p q l m hq t ih =>
        intro hk x hx
        rcases List.mem_cons.mp hx with e | hx
        · subst e
          rw [← hq.1, ← hq.2.1]
          exact hk p List.mem_cons_self
        · exact ih (fun y hy => hk y (List.mem_cons_of_mem _ hy)) x hx
    obtain ⟨o, items, n, ho, r⟩ := L2.Inv.isT I (mem rel hk x hx)
    exact ⟨o, items, n, hh _ _ (Nat.ne_of_lt (Heap.lt_size ho)) (by simp) ho, r⟩
  have have_ : PySem.PairsHaveH (tupleKind (intKind X.prog X.w)) prs.length (PySem.PairRel (prs.map fun q => (Value.ref q.2.1, q.2.2))) prs := ⟨rfl, fun i key v e => by
    obtain ⟨q, b, e1, _, _, e4, e5⟩ := hL i key v e
    exact ⟨q.1, q.2.1, by rw [e1, e4], e5⟩⟩
  have fin : ∀ h' tk, h'.DictOfH (tupleKind (intKind X.prog X.w)) s.heap.objs.size (PySem.storedAllH [] prs) → (∀ b o, b ∉ ([] : List Addr) → s.heap.get? b = some o → h'.get? b = some o) → EP X pins σ Q (.ref s.heap.objs.size) { s with heap := h', toks := tk } := fun h' tk hd' k => by
    have hm : (s.heap.objs.size == sysModules) = false := beq_eq_false_iff_ne.mpr (Nat.ne_of_gt I.big)
    have hlen : (mergeT [] kvs).length ≤ sizeLine := by
      refine Nat.le_trans (mergeT_len kvs []) ?_
      rw [List.length_nil, Nat.zero_add, tPr_len rel, hl]
      exact hz
    obtain ⟨o, es, ep, h1, h2, h3, h4, _, h5⟩ := hd'
    exact ⟨.ref s.heap.objs.size, upd H s.heap.objs.size (dtO s.heap.objs.size (mergeT [] kvs)), I.laid (t' := tk) (fun b o e => k b o (by simp) e) (Nat.le_refl _) (dtO_new ⟨hlen, hm, _, mergeT_pr .nil rel, o, es, ep, h1, h2, h3, h4, h5⟩), rfl, q _ (I.hok.fresh (Nat.le_refl _))⟩
  have room : (tupleKind (intKind X.prog X.w)).room X.A.in1.in1 := show X.A.units + 2 < cLine by omega
  rcases hq with hq | hq
  · have pl : ∃ (o : Obj) (its : List Value) (n : Nat), s.heap.get? a = some o ∧ o.cls = .type "tuple" ∧ o.dict = none ∧ o.data = .seq its.toArray n ∧ Vals (ps.map V.ref) its := by
      rcases hq with ⟨o, h, hd⟩ | ⟨o, its, n, h1, h2, h3, h4, h5, h6⟩
      · obtain ⟨e1, z, its, r, o', e2, c, n, d⟩ := I.hok a _ h
        rw [e1] at e2
        cases e2
        exact ⟨o, its, n, e1, c, hd, d, r⟩
      · exact ⟨o, its.toList, n, I.kIn a o h1, h2, h3, by simpa using h4, h6⟩
    obtain ⟨o, its, n, ho, hc, hd, hdat, rv⟩ := pl
    have ei := refs_at rv
    subst ei
    have P := PySem.PairArg.tuple (prog := X.prog) (w := X.w) a (ps.map Value.ref).toArray (fun j => (ps[j]?).getD 0) (prs.map fun q => (Value.ref q.2.1, q.2.2))
    rw [List.length_map] at P
    refine PySem.call_dict_pairsH P (I.ok.hd hcalm) room ⟨⟨o, n, ho, hc, hd, hdat⟩, by rw [List.size_toArray, List.length_map, List.length_map, hl], fun j k v e => ?_⟩ have_ stay (by rw [hl]; exact hz) fin
    obtain ⟨q, b, e1, e2, e3, _⟩ := hL j k v e
    refine ⟨by simp [e2], .inl ?_⟩
    show IsTup s.heap ((ps[j]?).getD 0) _
    rw [e2]
    exact e3
  · obtain ⟨its, rv, pl, _⟩ := I.list hq
    have ei := refs_at rv
    subst ei
    obtain ⟨o, n, ho, hc, hd, hdat⟩ := pl
    have P := PySem.PairArg.list (prog := X.prog) (w := X.w) a (ps.map Value.ref).toArray (fun j => (ps[j]?).getD 0) (prs.map fun q => (Value.ref q.2.1, q.2.2))
    rw [List.length_map] at P
    refine PySem.call_dict_pairsH P (I.ok.hd hcalm) room ⟨⟨o, n, ho, hc, hd, hdat⟩, by rw [List.size_toArray, List.length_map, List.length_map, hl], fun j k v e => ?_⟩ have_ stay (by rw [hl]; exact hz) fin
    obtain ⟨q, b, e1, e2, e3, _⟩ := hL j k v e
    refine ⟨by simp [e2], .inl ?_⟩
    show IsTup s.heap ((ps[j]?).getD 0) _
    rw [e2]
    exact e3
theorem call_dictCopy : CallR X (.type "dict") (fun xs H Q => ∃ (a : Addr) (kvs : List (L2.Key × V)), xs = [.ref a] ∧ Rd H a (.dK kvs) ∧ ∀ p, H p = none → Q (.ref p) (upd H p (.dK kvs))) := by
  intro pins s σ H xs us Q I r q
  obtain ⟨a, kvs, ex, hd, q⟩ := q
  subst ex
  obtain ⟨u, eu, rx⟩ := vals1 r
  subst eu
  cases rx
  exact d_copyOf I hd fun p s' hp I' => ⟨.ref p, _, I', rfl, q p hp⟩
def tprsD : List Da → Option (List (List Int × Da))
  | [] => some []
  | .tuple [c, x] :: r => match tkO c, tprsD r with
    | some k, some q => some ((k, x) :: q)
    | _, _ => none
  | _ => none
def mergeTD (acc : List (Da × Da)) (ps : List (List Int × Da)) : List (Da × Da) := ps.foldl (fun a p => tPut a p.1 p.2) acc
theorem tprs_of {K : PySem.W.Frag} {S : Hp} : ∀ {ds : List Da} {us : List V} {pr : List (List Int × Da)}, DqAll K S us ds → tprsD ds = some pr →
    ∃ (as : List Addr) (kvs : TKv), us = as.map V.ref ∧ Paired (fun p (kv : List Int × Addr × V) => SqT K S p [.ref kv.2.1, kv.2.2]) as kvs ∧ Paired (fun (kv : List Int × Addr × V) (q : List Int × Da) => kv.1 = q.1 ∧ PlT K S kv.2.1 (kv.1.map V.int) ∧ Dq K S kv.2.2 q.2) kvs pr
  | [], _, _, h, e => by cases h; cases e; exact ⟨[], [], rfl, .nil, .nil⟩
  | d :: ds, _, pr, h, e => by
    cases h with
    | @cons v vs _ _ h1 h2 =>
      unfold tprsD at e
      split at e
      · rename_i z; cases z
      · rename_i c x r z
        cases z
        split at e
        · rename_i k q ek eq
          cases e
          obtain ⟨as, kvs, e1, p1, p2⟩ := tprs_of h2 eq
          cases h1 with
          | @tup a xs _ ha da =>
            cases da with
            | cons d1 d2 =>
              cases d2 with
              | @cons vx _ _ _ dx dn =>
                cases dn
                rw [tkO_eq ek] at d1
                obtain ⟨b, rfl, pb⟩ := IsP.tk (B := ⟨fun _ => none, fun _ => none, none, fun _ => none⟩) (H := S) (.inl d1)
                exact ⟨a :: as, (k, b, vx) :: kvs, by rw [e1]; rfl, .cons ha.sq p1, .cons ⟨rfl, pb, dx⟩ p2⟩
        · cases e
      · cases e
theorem merge_dt {K : PySem.W.Frag} {S : Hp} : ∀ {kvs : TKv} {pr : List (List Int × Da)} {akv : TKv} {acc : List (Da × Da)}, Paired (fun (kv : List Int × Addr × V) (q : List Int × Da) => kv.1 = q.1 ∧ PlT K S kv.2.1 (kv.1.map V.int) ∧ Dq K S kv.2.2 q.2) kvs pr → DqT K S akv acc → DqT K S (mergeT akv kvs) (mergeTD acc pr)
  | _, _, _, _, .nil, h => h
  | _, _, akv, acc, .cons (a := kv) (b := q) ⟨e, p, d⟩ t, h => by
    have h2 := h.put (k := kv.1) p d
    have := merge_dt t h2
    show DqT K S (mergeT (tput akv kv.1 kv.2.1 kv.2.2) _) (mergeTD (tPut acc q.1 q.2) _)
    rw [← e]
    exact this
/-- dict(xs) -/
@[irreducible] def fDict : List Da → (SV → Prop) → Prop
  | [.tuple ds], Q => (∃ pr, prsD ds = some pr ∧ Q (.own true (.dict (mergeD [] pr)))) ∨ ∃ pr, tprsD ds = some pr ∧ Q (.own true (.dict ((.none, .none) :: mergeTD [] pr)))
  | [.list ds], Q => (∃ pr, prsD ds = some pr ∧ Q (.own true (.dict (mergeD [] pr)))) ∨ ∃ pr, tprsD ds = some pr ∧ Q (.own true (.dict ((.none, .none) :: mergeTD [] pr)))
  | [.dict ds], Q => isTm ds = false ∧ Q (.own true (.dict ds))
  | _, _ => False
theorem cd_dict (hc : X.calm = true) (hu : X.A.units + 65 < cLine) : CallD X (.type "dict") fDict := by
  intro B env S σ H vs ds Q Q' R al h cl
  have newD : ∀ {ds : List (Da × Da)} {kvs : List (L2.Key × V)} {p : Addr}, Q (.own true (.dict ds)) → DqK X.K S kvs ds → H p = none → Q' (.ref p) (upd H p (.dK kvs)) := fun q h hp =>
    cl _ _ _ _ q (stq_alloc hp) (R.alloc hp) ⟨rfl, _, rfl, ⟨R.w.bnone hp, R.w.snone hp, _, upd_same, .dk h⟩, hp, R.fresh hp⟩
  have newT : ∀ {ds : List (Da × Da)} {kvs : TKv} {p : Addr}, Q (.own true (.dict ((.none, .none) :: ds))) → DqT X.K S kvs ds → H p = none → Q' (.ref p) (upd H p (dtO p kvs)) := fun q h hp =>
    cl _ _ _ _ q (stq_alloc hp) (R.alloc hp) ⟨rfl, _, rfl, ⟨R.w.bnone hp, R.w.snone hp, _, upd_same, .dt h⟩, hp, R.fresh hp⟩
  have keys : ∀ {kvs : TKv} {pr : List (List Int × Da)}, Paired (fun (kv : List Int × Addr × V) (q : List Int × Da) => kv.1 = q.1 ∧ PlT X.K S kv.2.1 (kv.1.map V.int) ∧ Dq X.K S kv.2.2 q.2) kvs pr → TKeys X.K H kvs := fun {kvs pr} r => by
    induction r with
    | nil => intro p hp; simp at hp
    | @cons p q l m hq t ih =>
      intro x hx
      rcases List.mem_cons.mp hx with e | hx
      · subst e; exact SqT.up R.w.sub hq.2.1.sq
      · exact ih x hx
  unfold fDict at h
  split at h
  · obtain ⟨v, r, rfl, p1, r2⟩ := al
    cases (show r = [] from r2)
    obtain ⟨a, us, rfl, ha, da⟩ := p1.tupP
    rcases h with h | ⟨pr, e, q⟩
    rotate_left
    · obtain ⟨as, kvs, rfl, x1, x2⟩ := tprs_of da e
      exact ⟨_, call_dictTk hc hu, a, as, kvs, rfl, .inl (PlT.up R.w.sub ha), Paired.mapP x1 fun _ _ z => SqT.up R.w.sub z, keys x2, fun p hp => newT q (merge_dt x2 .nil) hp⟩
    obtain ⟨pr, e, q⟩ := h
    obtain ⟨as, kvs, rfl, x1, x2⟩ := prs_of da e
    exact ⟨_, call_dictPT hc, a, as, kvs, rfl, PlT.up R.w.sub ha, Paired.mapP x1 fun _ _ z => SqT.up R.w.sub z, fun p hp => newD q (merge_dk x2 .nil) hp⟩
  · obtain ⟨v, r, rfl, p1, r2⟩ := al
    cases (show r = [] from r2)
    obtain ⟨a, us, rfl, ha, da⟩ := p1.lst R.w
    rcases h with h | ⟨pr, e, q⟩
    rotate_left
    · obtain ⟨as, kvs, rfl, x1, x2⟩ := tprs_of da e
      exact ⟨_, call_dictTk hc hu, a, as, kvs, rfl, .inr (.inl ha), Paired.mapP x1 fun _ _ z => SqT.up R.w.sub z, keys x2, fun p hp => newT q (merge_dt x2 .nil) hp⟩
    obtain ⟨pr, e, q⟩ := h
    obtain ⟨as, kvs, rfl, x1, x2⟩ := prs_of da e
    exact ⟨_, call_dictP hc, a, as, kvs, rfl, .inl ha, Paired.mapP x1 fun _ _ z => SqT.up R.w.sub z, fun p hp => newD q (merge_dk x2 .nil) hp⟩
  · obtain ⟨v, r, rfl, p1, r2⟩ := al
    cases (show r = [] from r2)
    obtain ⟨tm, q⟩ := h
    rcases p1 with p1 | ⟨p0, o, rfl, _, ho, hd⟩
    · cases p1 with
      | dk ha hd => exact ⟨_, call_dictCopy, _, _, rfl, .inl (R.w.sub _ _ ha), fun p hp => newD q hd hp⟩
      | dt ha hd => cases tm
      | scr _ => cases tm
      | pr _ _ => cases tm
    · cases hd with
      | dk hd => exact ⟨_, call_dictCopy, _, _, rfl, .inl ho, fun p hp => newD q hd hp⟩
      | dt hd => cases tm
  · exact h.elim
theorem w_dictT {ds : List Da} {pr : List (L2.Key × Da)} {Q : SV → Prop} (e : prsD ds = some pr) (q : Q (.own true (.dict (mergeD [] pr)))) : fDict [.tuple ds] Q := by
  unfold fDict
  exact .inl ⟨pr, e, q⟩
theorem w_dictL {ds : List Da} {pr : List (L2.Key × Da)} {Q : SV → Prop} (e : prsD ds = some pr) (q : Q (.own true (.dict (mergeD [] pr)))) : fDict [.list ds] Q := by
  unfold fDict
  exact .inl ⟨pr, e, q⟩
theorem w_dictTk {ds : List Da} {pr : List (List Int × Da)} {Q : SV → Prop} (e : tprsD ds = some pr) (q : Q (.own true (.dict ((.none, .none) :: mergeTD [] pr)))) : fDict [.tuple ds] Q := by
  unfold fDict
  exact .inr ⟨pr, e, q⟩
theorem w_dictLk {ds : List Da} {pr : List (List Int × Da)} {Q : SV → Prop} (e : tprsD ds = some pr) (q : Q (.own true (.dict ((.none, .none) :: mergeTD [] pr)))) : fDict [.list ds] Q := by
  unfold fDict
  exact .inr ⟨pr, e, q⟩
theorem w_dictC {ds : List (Da × Da)} {Q : SV → Prop} (e : isTm ds = false) (q : Q (.own true (.dict ds))) : fDict [.dict ds] Q := by
  unfold fDict
  exact ⟨e, q⟩
/-- xs.insert(k, e) -/
def msIns (i : Nat) (mk : MP) (m : MP) : MS := fun env E => ownL env i ∧ mk env fun j e0 => m e0 fun d e => match e[i]?, j with
  | some (.own true (.list ds)), .int k => (0 ≤ k ∧ k ≤ 1000000) ∧ ds.length < 1000000 ∧ E.nx (e.set i (.own true (.list (ds.take k.toNat ++ d :: ds.drop k.toNat))))
  | _, _ => False
theorem dst_ins (i : Nat) {x : Str} {ek e : Expr} {mk m : MP} {p apos cpos pos : Pos} (hk : DP X ek mk) (he : DS X e m) (hN : X.N[i]? = some x := by rfl) (hv : Vis X.env.scope x := by first | exact Or.inl rfl | exact Or.inr (Or.inl rfl) | exact Or.inr (Or.inr rfl)) (hd : (x == ("__debug__" : Str)) = false := by decide)
    (hcd : (x == ("__classdict__" : Str)) = false := by decide) (hbase : attributeBase (.Name x p) "insert" X.env (eval (.Name x p) X.env) = eval (.Name x p) X.env := by rfl)
    (hfew : ((backTo cpos (starEach [ek, e] X.env)).all (fun x => !x.1) && (backToKw cpos (keywordEach [] X.env)).all (fun x => x.1.isSome) && decide ([ek, e].length + ([] : List Keyword).length + (if ([] : List Keyword).isEmpty then 0 else 1) < 30)) = true := by rfl)
    (hline : (apos.endLine == cpos.line) = true := by rfl) (hs : starEach [ek, e] X.env = (false, eval ek X.env) :: starEach [e] X.env := by rfl) (hs2 : starEach [e] X.env = (false, eval e X.env) :: starEach [] X.env := by rfl) (hplain : (backTo cpos (starEach [e] X.env)).any (·.1) = false := by rfl)
    (hsw : swapsWith (.Call (.Attribute (.Name x p) "insert" apos) [ek, e] [] cpos) none pos.line X.env = pure false := by rfl) :
    DSt X (.Expr (.Call (.Attribute (.Name x p) "insert" apos) [ek, e] [] cpos) pos) (msIns i mk m) :=
  (ps_expr (pe_bm PySem.F.plainAttrs_list PySem.F.slot_list_insert PySem.F.type_list_insert mt_insert (pe_var hN hv hd hcd) (pa_cons hk (pa_cons he pa_nil hs2) hs) hbase hfew hline hs hplain) hsw).wk fun D σ H ⟨B, env, S, E, R, h, k⟩ => by
    obtain ⟨ds0, p0, vs0, e0, a0, _, _, h0, _⟩ := ownL_at R h.1
    refine ⟨.ref p0, a0, .inl ⟨rfl, vs0, .inl (.inl h0)⟩, B, env, S, _, R, h.2, fun j e1 q v S1 H1 st R1 ip => ?_⟩
    refine ⟨B, e1, S1, _, R1, q, fun d e2 q2 y S2 H2 st2 R2 dy => ?_⟩
    split at q2
    · rename_i ds k0 e3
      cases ip.int
      obtain ⟨p1, vs, b1, b2, b3, b4, b5⟩ := own_same (st.trans st2) R2 e3
      rw [a0] at b1; cases b1
      have hl : (ds.take k0.toNat ++ d :: ds.drop k0.toNat) = ds.take k0.toNat ++ [d] ++ ds.drop k0.toNat := by rw [List.append_assoc]; rfl
      refine ⟨p0, vs, k0, y, rfl, rfl, b4, by rw [b5.length]; exact lt_sz q2.2.1, q2.1.1, by omega, ?_⟩
      rw [hl] at q2
      exact k.nx _ _ S2 _ q2.2.2 (R2.chg e3 a0 b2 b3 (.lst (((b5.take _).app (.cons dy .nil)).app (b5.drop _)))) (st.trans st2).s.1
    · exact q2.elim
end
end Pq

set_option Elab.async false
set_option linter.all false
set_option maxRecDepth 100000
set_option maxHeartbeats 4000000
namespace Pq
open PySem PySem.Spec PyProof.Rows L2
section
variable {X : Cx}
/-! ### a comprehension over a list that one slot owns, or that is shared -/
def WalksF (K : PySem.W.Frag) (B : Bs) (J : It) (S H : Hp) (ds : List Da) : Prop := ∀ S1 H1, (∀ a o, S a = some o → S1 a = some o) → Wd B S1 H1 → (∀ a o, ¬ FP B a → H a = some o → H1 a = some o) →
  (∀ i d, ds[i]? = some d → J.go i H1 ∧ ∀ x H2, J.yld i H1 x H2 → ∃ S2, (∀ env σ, Rel K B env S1 σ H1 → Rel K B env S2 σ H2 ∧ Stq B σ env S1 H1 env S2 H2) ∧ (∀ D o, H1 D = some o → S1 D = none → S2 D = none) ∧ Dq K S2 x d) ∧ ∀ i, ds.length ≤ i → J.stop i H1
theorem walks_own {K : PySem.W.Frag} {B : Bs} {S H : Hp} {a : Addr} {vs : List V} {ds : List Da} (hn : ¬ FP B a) (h : H a = some (.lst vs)) (hd : DqAll K S vs ds) : WalksF K B (Itl K a) S H ds := fun S1 H1 e w fr => by
  have h1 : SqL K H1 a vs := .inl (.inl (fr a _ hn h))
  refine ⟨fun i d hi => ?_, fun i hi => ⟨vs, h1, by rw [hd.length]; exact hi⟩⟩
  obtain ⟨v, hv, dv⟩ := hd.get hi
  refine ⟨⟨vs, v, h1, hv⟩, fun x H2 y => ?_⟩
  obtain ⟨rfl, y⟩ := y
  have ex := y vs h1
  rw [hv] at ex
  cases ex
  exact ⟨S1, fun _ _ r => ⟨r, .refl⟩, fun _ _ _ z => z, Dq.up e _ _ dv⟩
theorem lc_turns {K : PySem.W.Frag} {B : Bs} {own : List (Str × Nat)} {is : List Nat} {g : MG} {mt : MT} {me : ME} (his : ∀ i ∈ is, i ∈ own.map (·.2)) {σ : L2.St} {e1 : En} {S1 H1 : Hp} {J : It} {ds : List Da} {Q0 : SV → En → Prop} {Q : VK} (R1 : Rel K B e1 S1 σ H1) (wk : WalksF K B J S1 H1 ds)
    (hlen : ds.length ≤ 1000000) (q : lcGo (wipeE e1 (own.map (·.2))) g mt me ds [] fun acc => Q0 (.own true (.list acc)) e1) (k : ∀ r env', Q0 r env' → ∀ v S' H', Stq B σ e1 S1 H1 env' S' H' → Rel K B env' S' σ H' → IsR K B env' S' σ H1 H' r v → Q v H') :
    ∀ D, H1 D = none → ∃ W : Nat → Nat → Hp → Prop, (∃ m, W 0 m (upd H1 D (.lst []))) ∧ ∀ i m H, W i m H →
      (J.stop i H ∧ Q (.ref D) H) ∨ (J.go i H ∧ ∃ Nx : Hp → Prop, (∀ H', Nx H' → ∃ m', m' < m ∧ W (i + 1) m' H') ∧ ∀ x H', J.yld i H x H' → tG K is g x (wipe σ (own.map (·.2))) H' fun σ2 H2 => wipe σ2 (own.map (·.2)) = wipe σ (own.map (·.2)) ∧ tT K mt σ2 H2 fun b H3 =>
        if b = true then tE K me σ2 H3 fun y H4 => ∃ acc, H4 D = some (.lst acc) ∧ acc.length < sizeLine ∧ Nx (upd H4 D (.lst (acc ++ [y]))) else Nx H3) := by
  intro D hD
  have hBD := R1.w.bnone hD
  have hSD := R1.w.snone hD
  have hnD : ∀ (i : Nat) (sv : SV), e1[i]? = some sv → OB sv → σ[i]? ≠ some (some (.ref D)) := R1.fresh hD
  have nD : ¬ FP B D := R1.w.nfp hBD
  refine ⟨fun i m H' => m = ds.length - i ∧ i ≤ ds.length ∧ ∃ acc S', acc.length ≤ i ∧ LcI K B e1 S1 H1 σ D acc S' H' ∧ lcGo (wipeE e1 (own.map (·.2))) g mt me (ds.drop i) acc fun acc => Q0 (.own true (.list acc)) e1,
    ⟨ds.length, rfl, Nat.zero_le _, [], S1, Nat.le_refl _, ⟨R1.alloc hD, fun _ _ z => z, fun a o _ z => upd_sub hD a o z, fun _ _ _ _ z => z, hSD, [], upd_same, .nil⟩, q⟩, ?_⟩
  rintro i m H' ⟨rfl, hil, acc, S', ha, I, go⟩
  by_cases hlt : i < ds.length
  · refine .inr ?_
    have hd : ds[i]? = some ds[i] := List.getElem?_eq_getElem hlt
    have ed : ds.drop i = ds[i] :: ds.drop (i + 1) := List.drop_eq_getElem_cons hlt
    rw [ed, lcGo] at go
    obtain ⟨wg, _⟩ := wk S' H' I.up I.r1.w I.fr
    obtain ⟨g1, g2⟩ := wg i _ hd
    refine ⟨g1, fun H'' => ∃ acc S'', acc.length ≤ i + 1 ∧ LcI K B e1 S1 H1 σ D acc S'' H'' ∧ lcGo (wipeE e1 (own.map (·.2))) g mt me (ds.drop (i + 1)) acc fun acc => Q0 (.own true (.list acc)) e1,
      fun H'' z => ⟨ds.length - (i + 1), by omega, rfl, hlt, z⟩, fun x H2 y => ?_⟩
    obtain ⟨S2, r2, kd, dx⟩ := g2 x H2 y
    have Rb : Rel K B (wipeE e1 (own.map (·.2))) S' (wipe σ (own.map (·.2))) H' := I.r1.wipe _
    obtain ⟨Rb2, stb2⟩ := r2 _ _ Rb
    have I2 := I.go hBD Rb2.w stb2.s fun a o _ e n => kd a o e n
    refine ⟨B, wipeE e1 (own.map (·.2)), S2, _, _, Rb2, dx, go, fun e2 q2 σ2 R2 off ow => ⟨wipe_off off his, ?_⟩⟩
    have n2 : ∀ (i : Nat) (d : Da), e2[i]? ≠ some (.own true d) := fun i d z => by cases wipeE_own (ow i true d z)
    refine ⟨B, e2, S2, _, R2, q2, fun b e3 q3 S3 H3 st3 R3 => ?_⟩
    have I3 := I2.go hBD R3.w st3.s (nf_of n2 st3)
    have n3 : ∀ (i : Nat) (d : Da), e3[i]? ≠ some (.own true d) := fun i d z => n2 i d (st3.ow i _ z trivial)
    cases b with
    | false =>
      rw [if_neg Bool.false_ne_true] at q3
      refine iteF ?_
      exact ⟨acc, S3, by omega, I3, q3⟩
    | true =>
      rw [if_pos rfl] at q3
      refine iteT ?_
      refine ⟨B, e3, S3, _, R3, q3, fun r e4 q4 v S4 H4 st4 R4 ir => ?_⟩
      have fin : ∀ {S5 : Hp} {y : Da}, Stq B σ2 e3 S3 H3 e4 S5 H4 → Rel K B e4 S5 σ2 H4 → Dq K S5 v y → lcGo (wipeE e1 (own.map (·.2))) g mt me (ds.drop (i + 1)) (acc ++ [y]) (fun acc => Q0 (.own true (.list acc)) e1) →
          ∃ acc_1, H4 D = some (.lst acc_1) ∧ acc_1.length < sizeLine ∧ ∃ acc S'', acc.length ≤ i + 1 ∧ LcI K B e1 S1 H1 σ D acc S'' (upd H4 D (.lst (acc_1 ++ [v]))) ∧ lcGo (wipeE e1 (own.map (·.2))) g mt me (ds.drop (i + 1)) acc fun acc => Q0 (.own true (.list acc)) e1 := fun {S5 y} st5 R5 dy g5 => by
        have I5 := I3.go hBD R5.w st5.s (nf_of n3 st5)
        obtain ⟨us, hu, du⟩ := I5.dd
        refine ⟨us, hu, by rw [du.length]; exact lt_sz (by omega), acc ++ [y], S5, by rw [List.length_append]; exact Nat.succ_le_succ ha, ⟨I5.r1.other hBD I5.dn hnD, I5.up, fun a o f e => ?_, I5.fz, I5.dn, us ++ [v], upd_same, du.app (.cons dy .nil)⟩, g5⟩
        rw [upd_ne (ne_of_none e hD)]
        exact I5.fr a o f e
      cases r with
      | val y => exact fin st4 R4 ir q4
      | own bb y =>
        obtain ⟨S5, st5, R5, dp⟩ := IsR.frz st4 R4 ir
        exact fin st5 R5 dp q4
      | no => exact ir.elim
      | deal => exact q4.elim
      | bor d => exact q4.elim
      | res b d ids => exact q4.elim
  · have e : i = ds.length := by omega
    subst e
    rw [List.drop_length, lcGo] at go
    obtain ⟨us, hu, du⟩ := I.dd
    refine .inl ⟨(wk S' H' I.up I.r1.w I.fr).2 _ (Nat.le_refl _), ?_⟩
    have st : Stq B σ e1 S1 H1 e1 S' H' := ⟨⟨I.up, I.fr⟩, fun _ _ z _ => z, fun a o f e n => .inl (I.fz a o f e n)⟩
    refine k _ e1 go (.ref D) S' H' st I.r1 ?_
    exact ⟨rfl, D, rfl, ⟨hBD, I.dn, _, hu, .lst du⟩, hD, hnD⟩
def mLcO (vs : List Nat) (k : Nat) (g : MG) (mt : MT) (me : ME) : ME := fun env Q => match env[k]? with
  | some (.own _ (.list ds)) => (ds.length ≤ 1000000 ∧ noOwn env vs) ∧ lcGo (wipeE env vs) g mt me ds [] fun acc => Q (.own true (.list acc)) env
  | some (.val (.list ds)) => (ds.length ≤ 1000000 ∧ noOwn env vs) ∧ lcGo (wipeE env vs) g mt me ds [] fun acc => Q (.own true (.list acc)) env
  | some (.bor (.list ds)) => (ds.length ≤ 1000000 ∧ noOwn env vs) ∧ lcGo (wipeE env vs) g mt me ds [] fun acc => Q (.own true (.list acc)) env
  | _ => False
theorem Walks.f {K : PySem.W.Frag} {B : Bs} {J : It} {S H : Hp} {ds : List Da} (h : Walks K B J S ds) : WalksF K B J S H ds := fun S1 H1 e w _ => h S1 H1 e w
theorem lc_runO {own : List (Str × Nat)} {is : List Nat} {i : Nat} {g : MG} {mt : MT} {me : ME} (his : ∀ i ∈ is, i ∈ own.map (·.2)) : ∀ σ H Q, tE X.K (mLcO (own.map (·.2)) i g mt me) σ H Q →
    tLc (fun σ H R => tVar i σ H fun x H1 => (∃ a, x = .ref a ∧ (((∃ xs, SqL X.K H1 a xs) ∧ R (Itl X.K a) H1) ∨ ((∃ xs, SqT X.K H1 a xs) ∧ R (Itt X.K a) H1))) ∨ ∃ z, x = .str z ∧ R (Its z) H1) (tG X.K is g) (tT X.K mt) (tE X.K me) (own.map (·.2)) σ H Q := fun σ H Q ⟨B, env, S, Q0, R, hm, k⟩ => by
  unfold mLcO at hm
  split at hm
  · rename_i b ds e
    obtain ⟨⟨hlen, no⟩, q⟩ := hm
    obtain ⟨p, hp, hB, hS, o, ho, dk⟩ := R.own _ _ _ e
    cases dk with
    | lst da =>
      refine ⟨.ref p, hp, .inl ⟨p, rfl, .inl ⟨⟨_, .inl (.inl ho)⟩, ?_⟩⟩⟩
      exact lc_turns his R (walks_own (R.w.nfp hB) ho da) hlen q k
  · rename_i ds e
    obtain ⟨⟨hlen, no⟩, q⟩ := hm
    obtain ⟨v, hv, dv⟩ := R.slot _ _ e
    cases dv with
    | lst ha da =>
      refine ⟨_, hv, .inl ⟨_, rfl, .inl ⟨⟨_, .inl (Rd.up R.w.sub ha)⟩, ?_⟩⟩⟩
      exact lc_turns his R (walks_list ha da).f hlen q k
  · rename_i ds e
    obtain ⟨⟨hlen, no⟩, q⟩ := hm
    obtain ⟨p, _, hp, hB, hS, o, ho, dk⟩ := R.bor _ _ e
    cases dk with
    | lst da =>
      refine ⟨.ref p, hp, .inl ⟨p, rfl, .inl ⟨⟨_, .inl (.inl ho)⟩, ?_⟩⟩⟩
      exact lc_turns his R (walks_own (R.w.nfp hB) ho da) hlen q k
  · exact hm.elim
theorem de_lcO (k : Nat) {x : Str} {elt tg : Expr} {ifs : List Expr} {scope : Scope} {own : List (Str × Nat)} {is : List Nat} {pos p : Pos} {g : MG} {mt : MT} {me : ME} (hc : X.calm = true) (hN : X.N.Nodup) (ok : BlkOk X.N X.env.scope scope own)
    (hg : ∀ (s : Shared) (H : Hp) (C : Addr) (cl : List (Str × Addr)) (fp : List Addr), DG (X.blk s H scope (compEnvC scope cl C X.env) fp) tg is g)
    (ht : ∀ (s : Shared) (H : Hp) (C : Addr) (cl : List (Str × Addr)) (fp : List Addr), DTs (X.blk s H scope (compEnvC scope cl C X.env) fp) ifs mt)
    (he : ∀ (s : Shared) (H : Hp) (C : Addr) (cl : List (Str × Addr)) (fp : List Addr), DE (X.blk s H scope (compEnvC scope cl C X.env) fp) elt me)
    (hNk : X.N[k]? = some x := by rfl) (hv : Vis X.env.scope x := by first | exact Or.inl rfl | exact Or.inr (Or.inl rfl) | exact Or.inr (Or.inr rfl)) (hd : (x == ("__debug__" : Str)) = false := by decide)
    (hcd : (x == ("__classdict__" : Str)) = false := by decide)
    (his : ∀ i ∈ is, i ∈ own.map (·.2) := by decide) (hs : ∀ y, foldedSetIterable (.Name x p) X.env y = pure y := by intro _; rfl) :
    DE X (.ListComp elt [⟨tg, .Name x p, ifs, 0⟩] scope pos) (mLcO (own.map (·.2)) k g mt me) := (pe_lc (g := tG X.K is g) (tt := tT X.K mt) (te := tE X.K me) hc hN (pi_any (pe_var hNk hv hd hcd)) ok hg ht he hs).wk (lc_runO his)
/-! ### a, b, .. = a list -/
def mgLst (n : Nat) (gs : MGs) : MG := fun d env Q => match d with
  | .list ds => ds.length = n ∧ gs ds env Q
  | _ => False
theorem dg_lst {es : List Expr} {k : Nat} {pos : Pos} {is : List Nat} {gs : MGs} {n : Nat} (hc : X.calm = true) (h : DGs X es is gs) (hn : (assignEach es X.env).length = n := by rfl) (hst : (assignEach es X.env).findIdx? (·.1) = none := by rfl) : DG X (.Tuple es k pos) is (mgLst n gs) :=
  PG.wk (pg_lst hc h hn hst) fun v σ H Q ⟨B, env, S, d, Q0, R, hd, hm, k⟩ => by
    unfold mgLst at hm
    split at hm
    · cases hd with
      | lst hs ha => exact ⟨_, _, rfl, .inl (Rd.up R.w.sub hs), by rw [ha.length]; exact hm.1, B, env, S, _, Q0, R, ha, hm.2, k⟩
    · exact hm.elim
end
end Pq

set_option Elab.async false
set_option linter.all false
set_option maxRecDepth 100000
set_option maxHeartbeats 4000000
namespace Pq
open PySem PySem.Spec PyProof.Rows L2
section
variable {X : Cx}
/-! ### a, b = x, y of new lists or dicts, that only these names know -/
def msParO (i j : Nat) (m n : ME) : MS := fun env E => m env fun r e1 => n e1 fun r2 e2 => match r, r2 with
  | .own _ a, .own _ b => i < e2.length ∧ j < e2.length ∧ E.nx ((e2.set i (.own true a)).set j (.own true b))
  | _, _ => False
theorem dst_parO {i j : Nat} {x y : Str} {a b : Expr} {m n : ME} {px py pt pos : Pos} {kt k2 pt2} (hc : X.calm = true) (hN : X.N.Nodup) (ha : DE X a m) (hb : DE X b n)
    (hw : swappedStores [.Tuple [.Name x px, .Name y py] kt pt] (.Tuple [a, b] k2 pt2) X.env = pure (some [x, y]))
    (hi : X.N[i]? = some x := by rfl) (hj : X.N[j]? = some y := by rfl) (hij : i ≠ j := by decide)
    (hx : X.env.scope.names.lookup x = some .local := by rfl) (hy : X.env.scope.names.lookup y = some .local := by rfl)
    (hs : swapsWithSole [.Tuple [.Name x px, .Name y py] kt pt] (.Tuple [a, b] k2 pt2) pos.line X.env = pure false := by rfl) (hs1 : starEach [a, b] X.env = (false, eval a X.env) :: starEach [b] X.env := by rfl) (hs2 : starEach [b] X.env = (false, eval b X.env) :: starEach [] X.env := by rfl) :
    DSt X (.Assign [.Tuple [.Name x px, .Name y py] kt pt] (.Tuple [a, b] k2 pt2) pos) (msParO i j m n) := (ps_par hc hN hi hj hij hx hy (pa_cons ha (pa_cons hb pa_nil hs2) hs1) hw hs).wk fun D σ H ⟨B, env, S, E, R, h, k⟩ => by
  refine ⟨B, env, S, _, R, h, fun r e1 q v S1 H1 st R1 ir => ?_⟩
  refine ⟨B, e1, S1, _, R1, q, fun r2 e2 q2 u S2 H2 st2 R2 ir2 => ?_⟩
  split at q2
  · rename_i _ _ w1 a w2 b
    obtain ⟨hb1, p, rfl, ⟨o1, o2, o, o3, o4⟩, hn, hno⟩ := ir
    obtain ⟨hb2, p2, rfl, ow2, hn2, hno2⟩ := ir2
    have nf : ¬ FP B p := R1.w.nfp o1
    have s2 : S2 p = none := by
      rcases st2.fz p o nf o3 o2 with z | ⟨j', d', z1, z2⟩
      · exact z
      · exact absurd z2 (hno j' _ z1 trivial)
    have own1 : Own X.K B S2 H2 a p := ⟨o1, s2, o, st2.s.2 p o nf o3, o4.up st2.s.1⟩
    have R3 := R2.setO (w := true) own1 (fun j' sv e z => hno j' sv (st2.ow j' sv e z) z) q2.1
    refine ⟨.ref p, .ref p2, rfl, k.nx _ _ S2 H2 q2.2.2 (R3.setO (w := true) ow2 (fun j' sv z ob => ?_) (by rw [List.length_set]; exact q2.2.1)) (fun a o z => st2.s.1 a o (st.s.1 a o z))⟩
    rcases getElem?_setp z with ⟨e2', e3⟩ | ⟨e2', e3⟩
    · subst e2'
      rw [List.getElem?_set_self (by rw [← R2.len]; exact q2.1)]
      intro y
      have : p = p2 := by injection y with y; injection y with y; injection y
      subst this
      rw [hn2] at o3
      cases o3
    · rw [List.getElem?_set_ne e2']
      exact hno2 j' sv e3 ob
  · exact q2.elim
/-! ### xs.pop(k) as a statement -/
def msPopAt (i : Nat) (mk : MP) : MS := fun env E => ownL env i ∧ mk env fun j e => match e[i]?, j with
  | some (.own true (.list ds)), .int k => (0 ≤ k ∧ k < ds.length) ∧ ds.length ≤ 1000000 ∧ E.nx (e.set i (.own true (.list (ds.eraseIdx k.toNat))))
  | _, _ => False
theorem dq_erase {K : PySem.W.Frag} {S : Hp} : ∀ {ds : List Da} {vs : List V} (n : Nat), DqAll K S vs ds → DqAll K S (vs.eraseIdx n) (ds.eraseIdx n)
  | [], _, n, h => by cases h; exact .nil
  | d :: ds, _, 0, h => by cases h with | cons h1 h2 => exact h2
  | d :: ds, _, n + 1, h => by cases h with | cons h1 h2 => exact .cons h1 (dq_erase n h2)
theorem dst_popAt (i : Nat) {x : Str} {ek : Expr} {mk : MP} {p apos cpos pos : Pos} (hk : DP X ek mk) (hN : X.N[i]? = some x := by rfl) (hv : Vis X.env.scope x := by first | exact Or.inl rfl | exact Or.inr (Or.inl rfl) | exact Or.inr (Or.inr rfl)) (hd : (x == ("__debug__" : Str)) = false := by decide)
    (hcd : (x == ("__classdict__" : Str)) = false := by decide) (hbase : attributeBase (.Name x p) "pop" X.env (eval (.Name x p) X.env) = eval (.Name x p) X.env := by rfl)
    (hfew : ((backTo cpos (starEach [ek] X.env)).all (fun x => !x.1) && (backToKw cpos (keywordEach [] X.env)).all (fun x => x.1.isSome) && decide ([ek].length + ([] : List Keyword).length + (if ([] : List Keyword).isEmpty then 0 else 1) < 30)) = true := by rfl)
    (hline : (apos.endLine == cpos.line) = true := by rfl) (hs : starEach [ek] X.env = (false, eval ek X.env) :: starEach [] X.env := by rfl) (hplain : (backTo cpos (starEach [] X.env)).any (·.1) = false := by rfl)
    (hsw : swapsWith (.Call (.Attribute (.Name x p) "pop" apos) [ek] [] cpos) none pos.line X.env = pure false := by rfl) :
    DSt X (.Expr (.Call (.Attribute (.Name x p) "pop" apos) [ek] [] cpos) pos) (msPopAt i mk) :=
  (ps_expr (pe_bm PySem.F.plainAttrs_list PySem.F.slot_list_pop PySem.F.type_list_pop mt_popAt (pe_var hN hv hd hcd) (pa_cons hk pa_nil hs) hbase hfew hline hs hplain) hsw).wk fun D σ H ⟨B, env, S, E, R, h, k⟩ => by
    obtain ⟨ds0, p0, vs0, e0, a0, _, _, h0, _⟩ := ownL_at R h.1
    refine ⟨.ref p0, a0, .inl ⟨rfl, vs0, .inl (.inl h0)⟩, B, env, S, _, R, h.2, fun j e1 q v S1 H1 st R1 ip => ?_⟩
    split at q
    · rename_i ds k0 e3
      cases ip.int
      obtain ⟨p1, vs, b1, b2, b3, b4, b5⟩ := own_same st R1 e3
      rw [a0] at b1; cases b1
      have hk : k0.toNat < ds.length := by have := q.1; omega
      obtain ⟨y, hy, dy⟩ := b5.get (List.getElem?_eq_getElem hk)
      refine ⟨p0, vs, k0, k0.toNat, y, rfl, rfl, b4, by have := q.1; omega, by have := q.1; omega, ?_, hy, k.nx _ _ S1 _ q.2.2 (R1.chg e3 a0 b2 b3 (.lst (dq_erase _ b5))) st.s.1⟩
      rw [b5.length]
      have := q.1
      unfold seqIndex?
      simp
      omega
    · exact q.elim
end
end Pq

set_option Elab.async false
set_option linter.all false
set_option maxRecDepth 100000
set_option maxHeartbeats 4000000
namespace Lb
open PySem PySem.Spec PyProof.Rows L2 Pq
abbrev F_law_draw : FS := fDraw
abbrev iv (i : Int) : SV := .val (.int i)
/-- a comprehension whose elements are told only by a promise -/
theorem lc_any {env : En} {g : MG} {me : ME} (R : Da → Prop) : ∀ (ds acc : List Da) (Q : List Da → Prop),
    (∀ d ∈ ds, ∀ (K : Da → Prop), (∀ x, R x → K x) → g d env fun e2 => me e2 fun r _ => (match r with
      | .val x => K x
      | .own _ x => K x
      | _ => False)) → (∀ res, res.length = acc.length + ds.length → (∀ x ∈ res, x ∈ acc ∨ R x) → Q res) → lcGo env g mYes me ds acc Q
  | [], acc, Q, _, q => by
    rw [lcGo]
    exact q acc rfl fun x hx => .inl hx
  | d :: ds, acc, Q, h, q => by
    rw [lcGo]
    refine h d List.mem_cons_self (fun x => lcGo env g mYes me ds (acc ++ [x]) Q) fun x hx => ?_
    refine lc_any R ds _ Q (fun d hd => h d (List.mem_cons_of_mem _ hd)) fun res hl hr => q res (by rw [hl, List.length_append, List.length_cons, List.length_cons, List.length_nil]; omega) fun y hy => ?_
    rcases hr y hy with z | z
    · rcases List.mem_append.mp z with z | z
      · exact .inl z
      · rw [List.mem_singleton.mp z]; exact .inr hx
    · exact .inr z
theorem atI_mem {ds : List Da} {i : Int} (h0 : 0 ≤ i) (h1 : i < ds.length) : ∃ d, d ∈ ds ∧ atI ds i = some d := by
  have hi : i.toNat < ds.length := by omega
  refine ⟨ds[i.toNat], List.getElem_mem hi, ?_⟩
  unfold atI ixN
  rw [if_pos h0, if_pos h1]
  exact List.getElem?_eq_getElem hi
theorem ixN_ok {n : Nat} {i : Int} (h0 : 0 ≤ i) (h1 : i < n) : ixN n i = some i.toNat := by
  unfold ixN
  rw [if_pos h0, if_pos h1]
/-- xs[i] -/
def ixD : Da → Int → Option Da
  | .list ds, i => atI ds i
  | .tuple ds, i => atI ds i
  | _, _ => none
theorem ix {c d : Da} {i : Int} {Q : SV → Prop} (e : ixD c i = some d) (h : Q (.val d)) : fIx c (.int i) Q := by
  unfold fIx
  cases c <;> first | (cases e; done) | skip
  · have e : atI _ i = some d := e
    dsimp only
    rw [e]; exact h
  · have e : atI _ i = some d := e
    dsimp only
    rw [e]; exact h
theorem w_ix {ds : List Da} {i : Int} (h0 : 0 ≤ i) (h1 : i < ds.length) (Q : SV → Prop) (h : ∀ d ∈ ds, Q (.val d)) : fIx (.list ds) (.int i) Q := by
  obtain ⟨d, hd, e⟩ := atI_mem h0 h1
  exact ix e (h d hd)
theorem w_ixT {ds : List Da} {i : Int} (h0 : 0 ≤ i) (h1 : i < ds.length) (Q : SV → Prop) (h : ∀ d ∈ ds, Q (.val d)) : fIx (.tuple ds) (.int i) Q := by
  obtain ⟨d, hd, e⟩ := atI_mem h0 h1
  exact ix e (h d hd)
def M_divisor : MS := (msSeq (msWhile (mTest (toD (mBin fGt (mPk 1) (mC (.int 0))))) (msPar 0 1 (maCons (mVar 1) (maCons (mBin fMod (mPk 0) (mPk 1)) maNil))))
    (msRet (mVar 0)))
abbrev F_divisor : FS := fnD 2 2 M_divisor
def M_lowest : MS := (msSeq (msSet 2 (mCall 2 F_divisor (maCons (mVar 0) (maCons (mVar 1) maNil))))
    (msRet (toE (mTup (maCons (mBin fDiv (mPk 0) (mPk 2)) (maCons (mBin fDiv (mPk 1) (mPk 2)) maNil))))))
abbrev F_lowest : FS := fnD 3 2 M_lowest
def M_added : MS := (msRet (mCall 2 F_lowest (maCons (mBin fAdd (toD (mBin fMul (toD (mBin fIx (mPk 0) (mC (.int 0)))) (toD (mBin fIx (mPk 1) (mC (.int 1)))))) (toD (mBin fMul (toD (mBin fIx (mPk 1) (mC (.int 0)))) (toD (mBin fIx (mPk 0) (mC (.int 1))))))) (maCons (mBin fMul (toD (mBin fIx (mPk 0) (mC (.int 1)))) (toD (mBin fIx (mPk 1) (mC (.int 1))))) maNil))))
abbrev F_added : FS := fnD 2 2 M_added
def M_times : MS := (msRet (mCall 2 F_lowest (maCons (mBin fMul (toD (mBin fIx (mPk 0) (mC (.int 0)))) (toD (mBin fIx (mPk 1) (mC (.int 0))))) (maCons (mBin fMul (toD (mBin fIx (mPk 0) (mC (.int 1)))) (toD (mBin fIx (mPk 1) (mC (.int 1))))) maNil))))
abbrev F_times : FS := fnD 2 2 M_times
def M_power : MS := (msSeq (msSet 2 (toE (mTup (maCons (toE (mC (.int 1))) (maCons (toE (mC (.int 1))) maNil)))))
    (msSeq (msFor (mRg1 (mlCons (mPk 1) mlNil)) (mgName 3) (msSet 2 (toE (mTup (maCons (mBin fMul (toD (mBin fIx (mPk 2) (mC (.int 0)))) (toD (mBin fIx (mPk 0) (mC (.int 0))))) (maCons (mBin fMul (toD (mBin fIx (mPk 2) (mC (.int 1)))) (toD (mBin fIx (mPk 0) (mC (.int 1))))) maNil))))))
    (msRet (mVar 2))))
abbrev F_power : FS := fnD 4 2 M_power
def M_less : MS := (msRet (mBin fLt (toD (mBin fMul (toD (mBin fIx (mPk 0) (mC (.int 0)))) (toD (mBin fIx (mPk 1) (mC (.int 1)))))) (toD (mBin fMul (toD (mBin fIx (mPk 1) (mC (.int 0)))) (toD (mBin fIx (mPk 0) (mC (.int 1))))))))
abbrev F_less : FS := fnD 2 2 M_less
/-! ### fractions -/
def fr (q : Rat) : Da := .tuple [.int q.num, .int (q.den : Int)]
abbrev frv (q : Rat) : SV := .val (fr q)
/-- numbers below 2 ^ n -/
def Sz (n : Nat) (q : Rat) : Prop := q.num.natAbs < 2 ^ n ∧ q.den < 2 ^ n
theorem pow_le {n m : Nat} (h : n ≤ m) : 2 ^ n ≤ 2 ^ m := Nat.pow_le_pow_right (by decide) h
theorem Sz.mono {n m : Nat} {q : Rat} (s : Sz n q) (h : n ≤ m) : Sz m q := ⟨Nat.lt_of_lt_of_le s.1 (pow_le h), Nat.lt_of_lt_of_le s.2 (pow_le h)⟩
theorem sm_of {n : Nat} {i : Int} (h : i.natAbs < 2 ^ n) (hn : n ≤ 60000000) : Sm i := ⟨n, hn, h⟩
theorem mul_bits {a b n m : Nat} (ha : a < 2 ^ n) (hb : b < 2 ^ m) : a * b < 2 ^ (n + m) := by
  rw [Nat.pow_add]
  exact Nat.mul_lt_mul'' ha hb
theorem add_bits {a b n : Nat} (ha : a < 2 ^ n) (hb : b < 2 ^ n) : a + b < 2 ^ (n + 1) := by
  rw [Nat.pow_succ]; omega
theorem div_le_natAbs (a : Int) (g : Nat) : (a / (g : Int)).natAbs ≤ a.natAbs := Int.natAbs_ediv_le_natAbs a g
theorem sz_divInt {n : Nat} {a b : Int} (ha : a.natAbs < 2 ^ n) (hb : b.natAbs < 2 ^ n) (h0 : 0 < b) : Sz n ((a : Rat) / (b : Rat)) := by
  rw [← Rat.divInt_eq_div]
  refine ⟨?_, ?_⟩
  · rw [Rat.num_divInt, Int.sign_eq_one_of_pos h0, Int.one_mul]
    exact Nat.lt_of_le_of_lt (div_le_natAbs _ _) ha
  · rw [Rat.den_divInt, if_neg (by omega)]
    exact Nat.lt_of_le_of_lt (Nat.div_le_self _ _) hb
theorem fr_div {a b : Int} (h0 : 0 < b) : fr ((a : Rat) / (b : Rat)) = .tuple [.int (a / (Int.gcd a b : Nat)), .int (b / (Int.gcd a b : Nat))] := by
  unfold fr
  rw [← Rat.divInt_eq_div, Rat.num_divInt, Rat.den_divInt, Int.sign_eq_one_of_pos h0, Int.one_mul, if_neg (by omega), Int.gcd_comm b a, Int.natCast_ediv, Int.natAbs_of_nonneg (by omega)]
theorem cast_ne {b : Int} (h : 0 < b) : (b : Rat) ≠ 0 := fun z => by
  have := Rat.intCast_eq_zero_iff.mp z
  omega
theorem cast_pos {b : Int} (h : 0 < b) : (0 : Rat) < (b : Rat) := Rat.intCast_pos.mpr h
theorem num_div_den (q : Rat) : (q.num : Rat) / ((q.den : Int) : Rat) = q := by
  rw [← Rat.divInt_eq_div]; exact Rat.num_divInt_den q
theorem den0 (q : Rat) : (0 : Int) < (q.den : Int) := by have := q.den_pos; omega
theorem num0 {q : Rat} (h : 0 ≤ q) : 0 ≤ q.num := Rat.num_nonneg.mpr h
theorem add_fr (p q : Rat) : ((p.num * q.den + q.num * p.den : Int) : Rat) / ((p.den * q.den : Int) : Rat) = p + q := by
  rw [← Rat.divInt_eq_div, Rat.add_def', ← Rat.divInt_ofNat]
  congr 1
theorem mul_fr (p q : Rat) : ((p.num * q.num : Int) : Rat) / ((p.den * q.den : Int) : Rat) = p * q := by
  rw [← Rat.divInt_eq_div, Rat.mul_def', ← Rat.divInt_ofNat]
  congr 1
theorem Sz.add {n m : Nat} {p q : Rat} (hp : Sz n p) (hq : Sz m q) : Sz (n + m + 1) (p + q) := by
  rw [← add_fr]
  refine sz_divInt ?_ ?_ (Int.mul_pos (den0 p) (den0 q))
  · have h1 := mul_bits hp.1 hq.2
    have h2 := mul_bits hq.1 hp.2
    rw [Nat.add_comm m n] at h2
    refine Nat.lt_of_le_of_lt (Int.natAbs_add_le _ _) ?_
    rw [Int.natAbs_mul, Int.natAbs_mul, Int.natAbs_natCast, Int.natAbs_natCast]
    exact add_bits h1 h2
  · rw [Int.natAbs_mul, Int.natAbs_natCast, Int.natAbs_natCast]
    exact Nat.lt_of_lt_of_le (mul_bits hp.2 hq.2) (pow_le (by omega))
theorem Sz.mul {n m : Nat} {p q : Rat} (hp : Sz n p) (hq : Sz m q) : Sz (n + m) (p * q) := by
  rw [← mul_fr]
  refine sz_divInt ?_ ?_ (Int.mul_pos (den0 p) (den0 q))
  · rw [Int.natAbs_mul]; exact mul_bits hp.1 hq.1
  · rw [Int.natAbs_mul, Int.natAbs_natCast, Int.natAbs_natCast]
    exact mul_bits hp.2 hq.2
theorem pow_bits {a n : Nat} (h : a < 2 ^ n) : ∀ k : Nat, a ^ k < 2 ^ (n * k + 1)
  | 0 => by simp
  | k + 1 => by
    have ih := pow_bits h k
    have : a ^ (k + 1) < 2 ^ (n * k + 1 + n) := by rw [Nat.pow_succ]; exact mul_bits ih h
    rw [Nat.mul_succ]
    exact Nat.lt_of_lt_of_le this (pow_le (by omega))
theorem Sz.pow {n : Nat} {p : Rat} (hp : Sz n p) (k : Nat) : Sz (n * k + 1) (p ^ k) := by
  refine ⟨?_, ?_⟩
  · rw [Rat.num_pow, Int.natAbs_pow]; exact pow_bits hp.1 k
  · rw [Rat.den_pow]; exact pow_bits hp.2 k
theorem fr_inj {p q : Rat} : fr p = fr q ↔ p = q := by
  constructor
  · intro h
    unfold fr at h
    injection h with h
    injection h with h1 h2
    injection h2 with h2 _
    injection h1 with h1
    injection h2 with h2
    exact Rat.ext h1 (by omega)
  · rintro rfl; rfl
theorem lay_fr (q : Rat) : Lay 1 (fr q) := lay_pair lay_int lay_int
/-! ### the functions of fractions -/
theorem gcd_mod {a b : Int} : Int.gcd b (a % b) = Int.gcd a b := by
  rw [Int.gcd_comm a b, ← Int.gcd_add_mul_left_right b (a % b) (a / b), Int.emod_add_mul_ediv]
theorem dv_of {a : Int} {g n : Nat} (h : g < 2 ^ n) (hn : n ≤ 8999) : Dv a (g : Int) := by
  refine PyProof.noPylong_of_log2 ?_
  rw [Int.natAbs_natCast]
  by_cases z : g = 0
  · subst z; decide
  · exact Nat.lt_of_lt_of_le ((Nat.log2_lt z).mpr h) (by omega)
theorem w_divisor {a b : Int} (ha : 0 ≤ a) (hb : 0 ≤ b) (Q : SV → Prop) (h : Q (iv (Int.gcd a b : Nat))) : F_divisor [iv a, iv b] Q := by
  refine wh_inv (fun m e => ∃ x y : Int, e = [iv x, iv y] ∧ 0 ≤ x ∧ 0 ≤ y ∧ Int.gcd x y = Int.gcd a b ∧ y.toNat = m) b.toNat ⟨a, b, rfl, ha, hb, rfl, rfl⟩ ?_
  rintro m e ⟨x, y, rfl, hx, hy, hg, rfl⟩ N hN
  refine iteD (fun c => ?_) (fun c => ?_)
  · have c : 0 < y := c
    have l1 := Int.emod_nonneg x (show y ≠ 0 by omega)
    have l2 := Int.emod_lt_of_pos x c
    exact ⟨c, show 0 < 2 by decide, show 1 < 2 by decide, hN _ _ (by omega) ⟨y, x % y, rfl, hy, l1, by rw [gcd_mod, hg], rfl⟩⟩
  · have c : ¬ 0 < y := c
    have : y = 0 := by omega
    subst this
    show Q (iv x)
    rw [← hg, Int.gcd_zero_right, Int.natAbs_of_nonneg hx] at h
    exact h
theorem gcd_bits {a b : Int} {n : Nat} (h0 : 0 < b) (hb : b.natAbs < 2 ^ n) : 0 < Int.gcd a b ∧ Int.gcd a b < 2 ^ n := by
  have p : 0 < Int.gcd a b := Int.gcd_pos_of_ne_zero_right a (by omega)
  have := Int.gcd_le_natAbs_right a (show b ≠ 0 by omega)
  exact ⟨p, by omega⟩
theorem w_lowest {a b : Int} {n : Nat} (ha : 0 ≤ a) (hb : 0 < b) (hn : b.natAbs < 2 ^ n) (h8 : n ≤ 8999) (Q : SV → Prop) (h : Q (frv ((a : Rat) / (b : Rat)))) : F_lowest [iv a, iv b] Q := by
  obtain ⟨g0, g1⟩ := gcd_bits (a := a) hb hn
  refine ⟨rfl, w_divisor ha (by omega) _ ⟨show 2 < 3 by decide, ?_⟩⟩
  have g2 : (0 : Int) < (Int.gcd a b : Nat) := by omega
  unfold frv at h
  rw [fr_div hb] at h
  exact ⟨g2, dv_of g1 h8, g2, dv_of g1 h8, show 2 ≤ 1000000 by decide, h⟩
theorem den_abs (q : Rat) : (q.den : Int).natAbs = q.den := Int.natAbs_natCast _
theorem w_added {p q : Rat} {n m : Nat} (hp : 0 ≤ p) (hq : 0 ≤ q) (sp : Sz n p) (sq : Sz m q) (h8 : n + m ≤ 8999) (Q : SV → Prop) (h : Q (frv (p + q))) : F_added [frv p, frv q] Q := by
  have s1 := sm_of sp.1 (by omega)
  have s2 := sm_of sq.1 (by omega)
  have s3 : Sm (p.den : Int) := sm_of (n := n) (by rw [den_abs]; exact sp.2) (by omega)
  have s4 : Sm (q.den : Int) := sm_of (n := m) (by rw [den_abs]; exact sq.2) (by omega)
  refine ix rfl (ix rfl ⟨s1, s4, ix rfl (ix rfl ⟨s2, s3, ix rfl (ix rfl ⟨s3, s4, rfl, ?_⟩)⟩)⟩)
  rw [← add_fr] at h
  refine w_lowest ?_ (Int.mul_pos (den0 p) (den0 q)) ?_ h8 _ h
  · have := num0 hp; have := num0 hq; have := den0 p; have := den0 q
    exact Int.add_nonneg (Int.mul_nonneg (by omega) (by omega)) (Int.mul_nonneg (by omega) (by omega))
  · rw [Int.natAbs_mul, den_abs, den_abs]; exact mul_bits sp.2 sq.2
theorem w_times {p q : Rat} {n m : Nat} (hp : 0 ≤ p) (hq : 0 ≤ q) (sp : Sz n p) (sq : Sz m q) (h8 : n + m ≤ 8999) (Q : SV → Prop) (h : Q (frv (p * q))) : F_times [frv p, frv q] Q := by
  have s1 := sm_of sp.1 (by omega)
  have s2 := sm_of sq.1 (by omega)
  have s3 : Sm (p.den : Int) := sm_of (n := n) (by rw [den_abs]; exact sp.2) (by omega)
  have s4 : Sm (q.den : Int) := sm_of (n := m) (by rw [den_abs]; exact sq.2) (by omega)
  refine ix rfl (ix rfl ⟨s1, s2, ix rfl (ix rfl ⟨s3, s4, rfl, ?_⟩)⟩)
  rw [← mul_fr] at h
  refine w_lowest ?_ (Int.mul_pos (den0 p) (den0 q)) ?_ h8 _ h
  · have := num0 hp; have := num0 hq
    exact Int.mul_nonneg (by omega) (by omega)
  · rw [Int.natAbs_mul, den_abs, den_abs]; exact mul_bits sp.2 sq.2
theorem w_less {p q : Rat} {n m : Nat} (sp : Sz n p) (sq : Sz m q) (hn : n ≤ 60000000) (hm : m ≤ 60000000) (Q : SV → Prop) (h : Q (.val (.bool (decide (p < q))))) : F_less [frv p, frv q] Q := by
  have s1 := sm_of sp.1 hn
  have s2 := sm_of sq.1 hm
  have s3 : Sm (p.den : Int) := sm_of (n := n) (by rw [den_abs]; exact sp.2) hn
  have s4 : Sm (q.den : Int) := sm_of (n := m) (by rw [den_abs]; exact sq.2) hm
  refine ix rfl (ix rfl ⟨s1, s4, ix rfl (ix rfl ⟨s2, s3, ?_⟩)⟩)
  have e : decide (p < q) = decide (p.num * q.den < q.num * p.den) := by
    rw [Bool.eq_iff_iff, decide_eq_true_iff, decide_eq_true_iff]; exact Rat.lt_iff p q
  rw [e] at h
  exact h
/-- powers: any top and bottom -/
theorem w_power {a b : Int} {k n : Nat} (ha : a.natAbs < 2 ^ n) (hb : b.natAbs < 2 ^ n) (hk : k ≤ 1000000) (hn : n * k + 1 ≤ 60000000) (Q : SV → Prop) (h : Q (.val (.tuple [.int (a ^ k), .int (b ^ k)]))) : F_power [.val (.tuple [.int a, .int b]), iv (k : Nat)] Q := by
  refine ⟨show 2 ≤ 1000000 by decide, show 2 < 4 by decide, ⟨by omega, ?_⟩⟩
  show forGo _ _ (rgD 0 k) _ _
  rw [rgD_I]
  refine for_inv (fun L e => ∃ (j : Nat) (t : SV), L = (rgI j k).map .int ∧ j ≤ k ∧ e = [.val (.tuple [.int a, .int b]), iv k, .val (.tuple [.int (a ^ j), .int (b ^ j)]), t]) _ _ ?_ ?_ ?_
  · exact ⟨0, .no, rfl, by omega, by rw [Int.pow_zero, Int.pow_zero]; rfl⟩
  · rintro d L e ⟨j, t, hL, hj, rfl⟩ N hN
    have lt : (j : Int) < k := by
      rcases Nat.lt_or_ge j k with z | z
      · omega
      · rw [rgI_nil (by omega)] at hL; cases hL
    rw [rgI_cons lt, List.map_cons] at hL
    injection hL with e1 e2
    subst e1 e2
    have bj : n * j + 1 ≤ 60000000 := by
      have := Nat.mul_le_mul_left n hj
      omega
    have bn : n ≤ 60000000 := by
      have h1 : 1 ≤ k := by omega
      have := Nat.mul_le_mul_left n h1
      omega
    have p1 : Sm (a ^ j) := sm_of (n := n * j + 1) (by rw [Int.natAbs_pow]; exact pow_bits ha j) bj
    have p2 : Sm (b ^ j) := sm_of (n := n * j + 1) (by rw [Int.natAbs_pow]; exact pow_bits hb j) bj
    refine ⟨show 3 < 4 by decide, ix rfl (ix rfl ⟨p1, sm_of ha bn, ix rfl (ix rfl ⟨p2, sm_of hb bn, show 2 ≤ 1000000 by decide, show 2 < 4 by decide, hN _ ⟨j + 1, iv j, rfl, by omega, ?_⟩⟩)⟩)⟩
    rw [Int.pow_succ, Int.pow_succ]
    rfl
  · rintro e ⟨j, t, hL, hj, rfl⟩
    have : j = k := by
      rcases Nat.lt_or_ge j k with z | z
      · rw [rgI_cons (by omega)] at hL; cases hL
      · omega
    subst this
    exact h
theorem w_powerR {p : Rat} {k n : Nat} (sp : Sz n p) (hk : k ≤ 1000000) (hn : n * k + 1 ≤ 60000000) (Q : SV → Prop) (h : Q (frv (p ^ k))) : F_power [frv p, iv (k : Nat)] Q := by
  refine w_power sp.1 (by rw [den_abs]; exact sp.2) hk hn Q ?_
  have e : fr (p ^ k) = .tuple [.int (p.num ^ k), .int ((p.den : Int) ^ k)] := by
    unfold fr
    rw [Rat.num_pow, Rat.den_pow, Int.natCast_pow]
  unfold frv at h
  rw [e] at h
  exact h
end Lb

set_option Elab.async false
set_option linter.all false
set_option maxRecDepth 100000
set_option maxHeartbeats 4000000
set_option pp.maxSteps 600
namespace Lb
open PySem PySem.Spec PyProof.Rows L2 Pq
def M_share_of : MS := (msSeq (msAsg (toD (mVar 0)) (mgTup 2 (mgCons (mgName 2) (mgCons (mgName 3) mgNil))))
    (msRet (mCall 2 F_times (maCons (mCall 2 F_lowest (maCons (mBin fSub (mPk 3) (mPk 2)) (maCons (mBin fAdd (mPk 3) (mPk 2)) maNil))) (maCons (mCall 2 F_power (maCons (mVar 0) (maCons (mCB fAbs (mlCons (mPk 1) mlNil)) maNil))) maNil)))))
abbrev F_share_of : FS := fnD 4 2 M_share_of
def M_tail_of (F_tail_of : FS) : MS := (msSeq (msAsg (toD (mVar 0)) (mgTup 2 (mgCons (mgName 2) (mgCons (mgName 3) mgNil))))
    (msSeq (msIf (mTest (toD (mBin fLt (mPk 1) (mC (.int 0))))) (msSeq (msAsg (toD (mCall 2 F_tail_of (maCons (mVar 0) (maCons (mBin fSub (mC (.int 1)) (mPk 1)) maNil)))) (mgTup 2 (mgCons (mgName 4) (mgCons (mgName 5) mgNil))))
    (msRet (mCall 2 F_lowest (maCons (mBin fSub (mPk 5) (mPk 4)) (maCons (mVar 5) maNil))))) msNext)
    (msRet (mCall 2 F_times (maCons (mCall 2 F_lowest (maCons (mVar 3) (maCons (mBin fAdd (mPk 3) (mPk 2)) maNil))) (maCons (mCall 2 F_power (maCons (mVar 0) (maCons (mVar 1) maNil))) maNil))))))
def F_tail_of : Nat → FS
  | 0 => fun _ _ => False
  | n + 1 => fnD 6 2 (M_tail_of (F_tail_of n))
def M_law_power : MS := (msSeq (msSet 2 (toE (mC (.int 1))))
    (msSeq (msFor (mRg1 (mlCons (mPk 1) mlNil)) (mgName 3) (msSet 2 (mBin fMul (mPk 2) (mPk 0))))
    (msRet (mVar 2))))
abbrev F_law_power : FS := fnD 4 2 M_law_power
def M_law_lowest : MS := (msSeq (msPar 2 3 (maCons (mVar 0) (maCons (mVar 1) maNil)))
    (msSeq (msWhile (mTest (toD (mBin fGt (mPk 3) (mC (.int 0))))) (msPar 2 3 (maCons (mVar 3) (maCons (mBin fMod (mPk 2) (mPk 3)) maNil))))
    (msRet (toE (mTup (maCons (mBin fDiv (mPk 0) (mPk 2)) (maCons (mBin fDiv (mPk 1) (mPk 2)) maNil)))))))
abbrev F_law_lowest : FS := fnD 4 2 M_law_lowest
def M_law_steepness : MS := (msSeq (msSet 2 (mBin fAdd (mC (.int 2)) (toD (mCall 2 F_law_draw (maCons (mVar 0) (maCons (toE (mC (.int 8))) maNil))))))
    (msRet (mCall 2 F_law_lowest (maCons (mBin fAdd (mC (.int 1)) (toD (mCall 2 F_law_draw (maCons (mVar 0) (maCons (mBin fIx (toD (mLst (maCons (mBin fSub (mPk 2) (mC (.int 1))) (maCons (mBin fDiv (mPk 2) (mC (.int 2))) maNil)))) (toD (mCB fInt (mlCons (mPk 1) mlNil)))) maNil))))) (maCons (mVar 2) maNil)))))
abbrev F_law_steepness : FS := fnD 3 2 M_law_steepness
/-! ### the laws' own fractions -/
theorem w_llowest {a b : Int} {n : Nat} (ha : 0 ≤ a) (hb : 0 < b) (hn : b.natAbs < 2 ^ n) (h8 : n ≤ 8999) (Q : SV → Prop) (h : Q (frv ((a : Rat) / (b : Rat)))) : F_law_lowest [iv a, iv b] Q := by
  obtain ⟨g0, g1⟩ := gcd_bits (a := a) hb hn
  have g2 : (0 : Int) < (Int.gcd a b : Nat) := by omega
  refine ⟨show 2 < 4 by decide, show 3 < 4 by decide, wh_inv (fun m e => ∃ x y : Int, e = [iv a, iv b, iv x, iv y] ∧ 0 ≤ x ∧ 0 ≤ y ∧ Int.gcd x y = Int.gcd a b ∧ y.toNat = m) b.toNat ⟨a, b, rfl, ha, by omega, rfl, rfl⟩ ?_⟩
  rintro m e ⟨x, y, rfl, hx, hy, hg, rfl⟩ N hN
  refine iteD (fun c => ?_) (fun c => ?_)
  · have c : 0 < y := c
    have l1 := Int.emod_nonneg x (show y ≠ 0 by omega)
    have l2 := Int.emod_lt_of_pos x c
    exact ⟨c, show 2 < 4 by decide, show 3 < 4 by decide, hN _ _ (by omega) ⟨y, x % y, rfl, hy, l1, by rw [gcd_mod, hg], rfl⟩⟩
  · have c : ¬ 0 < y := c
    have : y = 0 := by omega
    subst this
    have ex : x = (Int.gcd a b : Nat) := by rw [← hg, Int.gcd_zero_right, Int.natAbs_of_nonneg hx]
    subst ex
    unfold frv at h
    rw [fr_div hb] at h
    exact ⟨g2, dv_of g1 h8, g2, dv_of g1 h8, show 2 ≤ 1000000 by decide, h⟩
theorem w_lpow {a : Int} {j : Int} {n : Nat} (k : Nat) (hj : j = k) (ha : a.natAbs < 2 ^ n) (hk : k ≤ 1000000) (hn : n * k + 1 ≤ 60000000) (Q : SV → Prop) (h : Q (iv (a ^ k))) : F_law_power [iv a, iv j] Q := by
  subst hj
  refine ⟨show 2 < 4 by decide, ⟨by omega, ?_⟩⟩
  show forGo _ _ (rgD 0 k) _ _
  rw [rgD_I]
  refine for_inv (fun L e => ∃ (j : Nat) (t : SV), L = (rgI j k).map .int ∧ j ≤ k ∧ e = [iv a, iv k, iv (a ^ j), t]) _ _ ?_ ?_ ?_
  · exact ⟨0, .no, rfl, by omega, by rw [Int.pow_zero]; rfl⟩
  · rintro d L e ⟨j, t, hL, hj, rfl⟩ N hN
    have lt : (j : Int) < k := by
      rcases Nat.lt_or_ge j k with z | z
      · omega
      · rw [rgI_nil (by omega)] at hL; cases hL
    rw [rgI_cons lt, List.map_cons] at hL
    injection hL with e1 e2
    subst e1 e2
    have bj : n * j + 1 ≤ 60000000 := by
      have := Nat.mul_le_mul_left n hj
      omega
    have bn : n ≤ 60000000 := by
      have h1 : 1 ≤ k := by omega
      have := Nat.mul_le_mul_left n h1
      omega
    have p1 : Sm (a ^ j) := sm_of (n := n * j + 1) (by rw [Int.natAbs_pow]; exact pow_bits ha j) bj
    refine ⟨show 3 < 4 by decide, p1, sm_of ha bn, show 2 < 4 by decide, hN _ ⟨j + 1, iv j, rfl, by omega, ?_⟩⟩
    rw [Int.pow_succ]
    rfl
  · rintro e ⟨j, t, hL, hj, rfl⟩
    have : j = k := by
      rcases Nat.lt_or_ge j k with z | z
      · rw [rgI_cons (by omega)] at hL; cases hL
      · omega
    subst this
    exact h
/-! ### steepnesses, shares, tails -/
/-- a steepness: top and bottom below 16 -/
structure St (a : Rat) : Prop where
  p0 : 0 < a
  l1 : a < 1
  n4 : a.num < 16
  d4 : a.den < 16
theorem St.num {a : Rat} (s : St a) : 0 < a.num := by
  have h := Rat.num_nonneg.mpr (Rat.le_of_lt s.p0)
  have : a.num ≠ 0 := fun z => by
    have := Rat.num_eq_zero.mp z
    rw [this] at s
    exact absurd s.p0 (by decide)
  omega
theorem St.lt {a : Rat} (s : St a) : a.num < a.den := by
  have h := (Rat.lt_iff a 1).mp s.l1
  simpa using h
theorem St.sz {a : Rat} (s : St a) : Sz 4 a := by
  have := s.num
  have := s.n4
  exact ⟨by show a.num.natAbs < 16; omega, s.d4⟩
theorem St.eq {a : Rat} : a = (a.num : Rat) / ((a.den : Int) : Rat) := (num_div_den a).symm
theorem rat_ne {b : Int} (h : b ≠ 0) : (b : Rat) ≠ 0 := fun z => h (Rat.intCast_eq_zero_iff.mp z)
def shR (a : Rat) (k : Int) : Rat := (1 - a) / (1 + a) * a ^ k.natAbs
def tlR (a : Rat) (k : Int) : Rat := if 0 ≤ k then 1 / (1 + a) * a ^ k.toNat else 1 - 1 / (1 + a) * a ^ (1 - k).toNat
theorem St.one_add {a : Rat} (s : St a) : (1 + a : Rat) ≠ 0 := fun z => by
  have := s.p0
  grind
theorem sh0 {a : Rat} (s : St a) : ((a.den : Int) - a.num : Int) / ((a.den : Int) + a.num : Int) = ((1 - a) / (1 + a) : Rat) := by
  have e : a * ((a.den : Int) : Rat) = (a.num : Rat) := by
    have := num_div_den a
    have d := cast_ne (den0 a)
    grind
  have d := cast_ne (den0 a)
  have d2 := s.one_add
  have d3 : ((a.den : Int) : Rat) + (a.num : Rat) ≠ 0 := by
    rw [← Rat.intCast_add]
    exact rat_ne (by have := den0 a; have := s.num; omega)
  rw [Rat.intCast_sub, Rat.intCast_add]
  grind
theorem tl0 {a : Rat} (s : St a) : ((a.den : Int) : Rat) / (((a.den : Int) + a.num : Int) : Rat) = 1 / (1 + a) := by
  have e : a * ((a.den : Int) : Rat) = (a.num : Rat) := by
    have := num_div_den a
    have d := cast_ne (den0 a)
    grind
  have d := cast_ne (den0 a)
  have d2 := s.one_add
  have d3 : ((a.den : Int) : Rat) + (a.num : Rat) ≠ 0 := by
    rw [← Rat.intCast_add]
    exact rat_ne (by have := den0 a; have := s.num; omega)
  rw [Rat.intCast_add]
  grind
theorem w_powI {p : Rat} {j : Int} {n : Nat} (k : Nat) (hj : j = k) (sp : Sz n p) (hk : k ≤ 1000000) (hn : n * k + 1 ≤ 60000000) (Q : SV → Prop) (h : Q (frv (p ^ k))) : F_power [frv p, iv j] Q := by
  subst hj
  exact w_powerR sp hk hn Q h
theorem abs_int (k : Int) : (if k < 0 then -k else k) = ((k.natAbs : Nat) : Int) := by split <;> omega
theorem pow0 {a : Rat} (h : 0 ≤ a) (k : Nat) : 0 ≤ a ^ k := Rat.pow_nonneg h
theorem St.sub {a : Rat} (s : St a) : 0 < (a.den : Int) - a.num ∧ ((a.den : Int) - a.num).natAbs < 2 ^ 5 ∧ 0 < (a.den : Int) + a.num ∧ ((a.den : Int) + a.num).natAbs < 2 ^ 5 := by
  have := s.num; have := s.lt; have := s.n4; have := s.d4
  have : (2 : Nat) ^ 5 = 32 := by decide
  refine ⟨by omega, by omega, by omega, by omega⟩
theorem div0 {a b : Int} (ha : 0 ≤ a) (hb : 0 < b) : (0 : Rat) ≤ (a : Rat) / (b : Rat) := by
  rw [← Rat.divInt_eq_div]
  exact Rat.divInt_nonneg ha (by omega)
theorem w_share_of {a : Rat} {k : Int} (s : St a) (hk : k.natAbs ≤ 1000) (Q : SV → Prop) (h : Q (frv (shR a k))) : F_share_of [frv a, iv k] Q := by
  obtain ⟨u0, u1, v0, v1⟩ := s.sub
  refine ⟨rfl, show 2 < 4 by decide, show 3 < 4 by decide, rfl, rfl, w_lowest (n := 5) (by omega) v0 v1 (by decide) _ ⟨rfl, w_powI k.natAbs (abs_int k) s.sz (by omega) (by omega) _ ?_⟩⟩
  refine ⟨rfl, w_times (n := 5) (m := 4 * k.natAbs + 1) (div0 (by omega) v0) (pow0 (Rat.le_of_lt s.p0) _) (sz_divInt u1 v1 v0) (s.sz.pow _) (by omega) _ ?_⟩
  rw [sh0 s]
  exact h
theorem w_tail1 {a : Rat} {k : Int} (F : FS) (s : St a) (h0 : 0 ≤ k) (hk : k ≤ 1001) (Q : SV → Prop) (h : Q (frv (1 / (1 + a) * a ^ k.toNat))) : fnD 6 2 (M_tail_of F) [frv a, iv k] Q := by
  obtain ⟨u0, u1, v0, v1⟩ := s.sub
  have d5 : ((a.den : Int)).natAbs < 2 ^ 5 := by
    have := s.d4
    have : (2 : Nat) ^ 5 = 32 := by decide
    omega
  refine ⟨rfl, show 2 < 6 by decide, show 3 < 6 by decide, rfl, iteD (fun c => ?_) (fun c => ?_)⟩
  · have c : k < 0 := c
    omega
  · refine ⟨rfl, w_lowest (n := 5) (by have := den0 a; omega) v0 v1 (by decide) _ ⟨rfl, w_powI k.toNat (by omega) s.sz (by omega) (by omega) _ ?_⟩⟩
    refine ⟨rfl, w_times (n := 5) (m := 4 * k.toNat + 1) (div0 (by have := den0 a; omega) v0) (pow0 (Rat.le_of_lt s.p0) _) (sz_divInt d5 v1 v0) (s.sz.pow _) (by omega) _ ?_⟩
    rw [tl0 s]
    exact h
theorem pow_le_one {a : Rat} (h0 : 0 ≤ a) (h1 : a ≤ 1) : ∀ k : Nat, a ^ k ≤ 1
  | 0 => by rw [Rat.pow_zero]; exact Rat.le_refl
  | k + 1 => by
    have ih := pow_le_one h0 h1 k
    have p := pow0 h0 k
    rw [Rat.pow_succ]
    have := Rat.mul_le_mul_of_nonneg_right ih h0
    rw [Rat.one_mul] at this
    exact Rat.le_trans this h1
/-- a tail from 1 on is below 1 -/
theorem tl_le {a : Rat} (s : St a) (k : Nat) : 1 / (1 + a) * a ^ k ≤ 1 ∧ 0 ≤ 1 / (1 + a) * a ^ k := by
  have p := pow0 (Rat.le_of_lt s.p0) k
  have q := pow_le_one (Rat.le_of_lt s.p0) (Rat.le_of_lt s.l1) k
  have e : (1 + a) * (1 / (1 + a)) = 1 := by
    have := s.one_add
    grind
  have pa := s.p0
  have i0 : 0 ≤ 1 / (1 + a) := by
    rw [Rat.div_def, Rat.one_mul]
    exact Rat.le_of_lt (Rat.inv_pos.mpr (by grind))
  have i1 : 1 / (1 + a) ≤ 1 := by
    have := Rat.mul_nonneg (Rat.le_of_lt pa) i0
    grind
  have m := Rat.mul_le_mul_of_nonneg_left q i0
  rw [Rat.mul_one] at m
  exact ⟨Rat.le_trans m i1, Rat.mul_nonneg i0 p⟩
theorem sz_tl {a : Rat} (s : St a) (k : Nat) : Sz (5 + (4 * k + 1)) (1 / (1 + a) * a ^ k) := by
  obtain ⟨u0, u1, v0, v1⟩ := s.sub
  have d5 : ((a.den : Int)).natAbs < 2 ^ 5 := by
    have := s.d4
    have : (2 : Nat) ^ 5 = 32 := by decide
    omega
  rw [← tl0 s]
  exact (sz_divInt d5 v1 v0).mul (s.sz.pow _)
theorem one_sub (q : Rat) : (((q.den : Int) - q.num : Int) : Rat) / ((q.den : Int) : Rat) = 1 - q := by
  have e := num_div_den q
  have d := cast_ne (den0 q)
  rw [Rat.intCast_sub]
  grind
theorem num_le {q : Rat} (h : q ≤ 1) : q.num ≤ q.den := by
  have := (Rat.le_iff q 1).mp h
  simpa using this
theorem w_tail_of {a : Rat} {k : Int} (s : St a) (hk : k.natAbs ≤ 1000) (Q : SV → Prop) (h : Q (frv (tlR a k))) : F_tail_of 2 [frv a, iv k] Q := by
  unfold tlR at h
  by_cases c : 0 ≤ k
  · rw [if_pos c] at h
    exact w_tail1 _ s c (by omega) Q h
  · rw [if_neg c] at h
    refine ⟨rfl, show 2 < 6 by decide, show 3 < 6 by decide, rfl, iteD (fun c => ?_) (fun c => ?_)⟩
    · obtain ⟨t1, t0⟩ := tl_le s (1 - k).toNat
      have tz := sz_tl s (1 - k).toNat
      have tn := num0 t0
      have tl := num_le t1
      refine ⟨rfl, w_tail1 (k := 1 - k) _ s (by omega) (by omega) _ ?_⟩
      refine ⟨rfl, show 4 < 6 by decide, show 5 < 6 by decide, rfl, rfl, w_lowest (n := 5 + (4 * (1 - k).toNat + 1)) (Int.sub_nonneg_of_le tl) (den0 _) (by rw [den_abs]; exact tz.2) (by omega) _ ?_⟩
      rw [one_sub]
      exact h
    · have c : ¬ k < 0 := c
      omega
theorem st_div {p q : Int} (h1 : 1 ≤ p) (h2 : p < q) (h3 : q < 10) : St ((p : Rat) / (q : Rat)) := by
  have hq : (0 : Int) < q := by omega
  have qr := cast_pos hq
  have p16 : (2 : Nat) ^ 4 = 16 := by decide
  have z := sz_divInt (n := 4) (a := p) (b := q) (by omega) (by omega) hq
  refine ⟨?_, ?_, ?_, by have := z.2; omega⟩
  · rw [Rat.lt_div_iff qr, Rat.zero_mul]; exact cast_pos (by omega)
  · rw [Rat.div_lt_iff qr, Rat.one_mul]; exact Rat.intCast_lt_intCast.mpr h2
  · have := z.1
    omega
theorem half_div {p q : Int} (h1 : 1 ≤ p) (h2 : 2 * p ≤ q) : 2 * ((p : Rat) / (q : Rat)) ≤ 1 := by
  have hq : (0 : Int) < q := by omega
  have qr := cast_pos hq
  have e : (p : Rat) / (q : Rat) * (q : Rat) = p := Rat.div_mul_cancel (cast_ne hq)
  have l : (2 : Rat) * (p : Rat) ≤ (q : Rat) := by
    have := Rat.intCast_le_intCast.mpr h2
    rw [Rat.intCast_mul] at this
    exact this
  refine Rat.le_of_mul_le_mul_right (c := (q : Rat)) ?_ qr
  grind
theorem w_steepness (b : Bool) (Q : SV → Prop) (h : ∀ a, St a → (b = true → 2 * a ≤ 1) → Q (frv a)) : F_law_steepness [.deal, .val (.bool b)] Q := by
  refine ⟨rfl, ⟨by decide, by decide⟩, fun r r0 r1 => ⟨show 2 < 3 by decide, ?_⟩⟩
  refine ⟨by decide, PyProof.noPylong_of_log2 (by decide), show 2 ≤ 1000000 by decide, ?_⟩
  cases b with
  | false =>
    refine ix (d := .int (2 + r - 1)) rfl ⟨rfl, ⟨by omega, by omega⟩, fun p p0 p1 => ⟨rfl, ?_⟩⟩
    refine w_llowest (n := 4) (by omega) (by omega) (by have : (2 : Nat) ^ 4 = 16 := by decide
                                                        omega) (by decide) _ (h _ (st_div (by omega) (by omega) (by omega)) fun z => by cases z)
  | true =>
    refine ix (d := .int ((2 + r) / 2)) rfl ⟨rfl, ⟨by omega, by omega⟩, fun p p0 p1 => ⟨rfl, ?_⟩⟩
    refine w_llowest (n := 4) (by omega) (by omega) (by have : (2 : Nat) ^ 4 = 16 := by decide
                                                        omega) (by decide) _ (h _ (st_div (by omega) (by omega) (by omega)) fun _ => half_div (by omega) (by omega))
theorem log_bits {i : Int} {n : Nat} (h : i.natAbs < 2 ^ n) (hn : n ≤ 1900) : i.natAbs.log2 < 1900 := by
  by_cases z : i.natAbs = 0
  · rw [z]; decide
  · exact Nat.lt_of_lt_of_le ((Nat.log2_lt z).mpr h) hn
theorem tx_fr {q : Rat} {n : Nat} (s : Sz n q) (hn : n ≤ 1900) : Tx 4000 (fr q) := by
  refine (tx_tup (n := 1910) fun d hd => ?_).mono (show 2 * (1910 + 2) + 2 ≤ 4000 by decide)
  rcases List.mem_cons.mp hd with rfl | hd
  · exact tx_int (log_bits s.1 hn)
  · rw [List.mem_singleton.mp hd]
    exact tx_int (log_bits (n := n) (by rw [den_abs]; exact s.2) hn)
theorem mul_divI (x y u v : Int) : ((x * u : Int) : Rat) / ((y * v : Int) : Rat) = (x : Rat) / (y : Rat) * ((u : Rat) / (v : Rat)) := by
  rw [← Rat.divInt_eq_div, ← Rat.divInt_eq_div, ← Rat.divInt_eq_div, Rat.divInt_mul_divInt]
theorem pow_divI (a : Rat) (k : Nat) : ((a.num ^ k : Int) : Rat) / (((a.den : Int) ^ k : Int) : Rat) = a ^ k := by
  have e := num_div_den (a ^ k)
  rw [Rat.num_pow, Rat.den_pow, Int.natCast_pow] at e
  exact e
theorem sz_sh {a : Rat} (s : St a) (k : Nat) : Sz (5 + (4 * k + 1)) ((1 - a) / (1 + a) * a ^ k) := by
  obtain ⟨u0, u1, v0, v1⟩ := s.sub
  rw [← sh0 s]
  exact (sz_divInt u1 v1 v0).mul (s.sz.pow _)
theorem St.q5 {a : Rat} (s : St a) : ((a.den : Int)).natAbs < 2 ^ 4 ∧ a.num.natAbs < 2 ^ 4 := ⟨by rw [den_abs]; exact s.sz.2, s.sz.1⟩
end Lb

set_option Elab.async false
set_option linter.all false
set_option maxRecDepth 100000
set_option maxHeartbeats 4000000
set_option pp.maxSteps 600
namespace Lb
open PySem PySem.Spec PyProof.Rows L2 Pq
def M_merged : MS := (msSeq (msSet 1 mDict)
    (msSeq (msFor (mItems (toD (mVar 0))) (mgTup 2 (mgCons (mgName 2) (mgCons (mgName 3) mgNil))) (msPut 1 (mPk 2) (toD (mCall 2 F_added (maCons (toE (mGet2 (mPk 1) (mPk 2) (mTup (maCons (toE (mC (.int 0))) (maCons (toE (mC (.int 1))) maNil))))) (maCons (mVar 3) maNil))))))
    (msRet (mCB fTuple (mlCons (toD (mLc [2] (mItems (toD (mCB fSorted (mlCons (mPk 1) mlNil)))) (mgName 2) (mTest (toD (mBin fNe (toD (mBin fIx (mPk 1) (mPk 2))) (mTup (maCons (toE (mC (.int 0))) (maCons (toE (mC (.int 1))) maNil)))))) (toE (mTup (maCons (mVar 2) (maCons (mBin fIx (mPk 1) (mPk 2)) maNil)))))) mlNil)))))
abbrev F_merged : FS := fnD 4 1 M_merged
def M_cut : MS := (msRet (mCB fMax2 (mlCons (mPk 1) (mlCons (toD (mCB fMin2 (mlCons (mPk 2) (mlCons (mPk 0) mlNil)))) mlNil))))
abbrev F_cut : FS := fnD 3 3 M_cut
def M_sums_of : MS := (msSeq (msIf (mTest (toD (mBin fEq (toD (mBin fIx (mPk 0) (mC (.int 0)))) (mC (.str "choose"))))) (msRet (mBin fIx (mPk 0) (mC (.int 2)))) msNext)
    (msSeq (msIf (mTest (toD (mBin fEq (toD (mBin fIx (mPk 0) (mC (.int 0)))) (mC (.str "first"))))) (msRet (mBin fIx (mPk 0) (mC (.int 5)))) msNext)
    (msRet (toE (mTup (maCons (mBin fIx (mPk 0) (mC (.int 2))) maNil))))))
abbrev F_sums_of : FS := fnD 1 1 M_sums_of
def M_ends_of : MS := (msSeq (msIf (mTest (toD (mBin fEq (toD (mBin fIx (mPk 0) (mC (.int 0)))) (mC (.str "first"))))) (msRet (toE (mTup (maCons (mBin fIx (mPk 0) (mC (.int 6))) (maCons (mBin fSub (toD (mBin fIx (mPk 0) (mC (.int 7)))) (mC (.int 1))) maNil))))) msNext)
    (msRet (toE (mTup (maCons (mBin fIx (mPk 0) (mC (.int 4))) (maCons (mBin fIx (mPk 0) (mC (.int 5))) maNil))))))
abbrev F_ends_of : FS := fnD 1 1 M_ends_of
def M_number_of : MS := (msSeq (msAsg (toD (mCall 1 F_ends_of (maCons (mVar 0) maNil))) (mgTup 2 (mgCons (mgName 2) (mgCons (mgName 3) mgNil))))
    (msSeq (msSet 4 (mLst maNil))
    (msSeq (msFor (mItems (toD (mCall 1 F_sums_of (maCons (mVar 0) maNil)))) (mgName 5) (msSeq (msSet 6 (mCB fSum (mlCons (toD (mLc [7, 8] (mZip (maCons (mVar 1) (maCons (mVar 5) maNil))) (mgTup 2 (mgCons (mgName 7) (mgCons (mgName 8) mgNil))) mYes (mBin fMul (mPk 7) (mPk 8)))) mlNil)))
    (msApp 4 (toD (mCall 3 F_cut (maCons (mVar 6) (maCons (mVar 2) (maCons (mVar 3) maNil))))))))
    (msRet (mCB fTuple (mlCons (mPk 4) mlNil))))))
abbrev F_number_of : FS := fnD 9 2 M_number_of
def M_laddered : MS := (msSeq (msIf (mTest (toD (mBin fEq (mPk 2) (mPk 3)))) (msRet (toE (mTup (maCons (toE (mTup (maCons (mVar 2) (maCons (toE (mTup (maCons (toE (mC (.int 1))) (maCons (toE (mC (.int 1))) maNil)))) maNil)))) maNil)))) msNext)
    (msSeq (msSet 4 (mLst (maCons (toE (mTup (maCons (mVar 2) (maCons (mCall 2 (F_tail_of 2) (maCons (mVar 0) (maCons (mBin fSub (mPk 1) (mPk 2)) maNil))) maNil)))) maNil)))
    (msSeq (msFor (mRg2 (mlCons (toD (mBin fAdd (mPk 2) (mC (.int 1)))) (mlCons (mPk 3) mlNil))) (mgName 5) (msApp 4 (mTup (maCons (mVar 5) (maCons (mCall 2 F_share_of (maCons (mVar 0) (maCons (mBin fSub (mPk 5) (mPk 1)) maNil))) maNil)))))
    (msSeq (msApp 4 (mTup (maCons (mVar 3) (maCons (mCall 2 (F_tail_of 2) (maCons (mVar 0) (maCons (mBin fSub (mPk 3) (mPk 1)) maNil))) maNil))))
    (msRet (mCall 1 F_merged (maCons (mVar 4) maNil)))))))
abbrev F_laddered : FS := fnD 6 4 M_laddered
def M_flat : MS := (msRet (mCall 1 F_merged (maCons (mLc [4] (mRg2 (mlCons (toD (mBin fSub (mC (.int 0)) (mPk 0))) (mlCons (toD (mBin fAdd (mPk 0) (mC (.int 1)))) mlNil))) (mgName 4) mYes (toE (mTup (maCons (mCall 3 F_cut (maCons (mBin fAdd (mPk 1) (mPk 4)) (maCons (mVar 2) (maCons (mVar 3) maNil)))) (maCons (toE (mTup (maCons (toE (mC (.int 1))) (maCons (mBin fAdd (toD (mBin fMul (mC (.int 2)) (mPk 0))) (mC (.int 1))) maNil)))) maNil))))) maNil)))
abbrev F_flat : FS := fnD 5 4 M_flat
def M_chosen : MS := (msSeq (msAsg (toD (mVar 0)) (mgTup 2 (mgCons (mgName 2) (mgCons (mgName 3) mgNil))))
    (msSeq (msSet 4 (mLc [7] (mItems (toD (mVar 1))) (mgName 7) mYes (mCall 2 F_power (maCons (toE (mTup (maCons (mVar 3) (maCons (mVar 2) maNil)))) (maCons (mVar 7) maNil)))))
    (msSeq (msSet 5 (toE (mTup (maCons (toE (mC (.int 0))) (maCons (toE (mC (.int 1))) maNil)))))
    (msSeq (msFor (mItems (toD (mVar 4))) (mgName 6) (msSet 5 (mCall 2 F_added (maCons (mVar 5) (maCons (mVar 6) maNil)))))
    (msRet (mCall 1 F_merged (maCons (mLc [8, 6] (mEnum (maCons (mVar 4) maNil)) (mgTup 2 (mgCons (mgName 8) (mgCons (mgName 6) mgNil))) mYes (toE (mTup (maCons (mVar 8) (maCons (mCall 2 F_times (maCons (mVar 6) (maCons (toE (mTup (maCons (mBin fIx (mPk 5) (mC (.int 1))) (maCons (mBin fIx (mPk 5) (mC (.int 0))) maNil)))) maNil))) maNil))))) maNil)))))))
abbrev F_chosen : FS := fnD 9 2 M_chosen
def M_share_from : MS := (msSeq (msSet 2 (toE (mTup (maCons (toE (mC (.int 0))) (maCons (toE (mC (.int 1))) maNil)))))
    (msSeq (msFor (mItems (toD (mVar 0))) (mgTup 2 (mgCons (mgName 3) (mgCons (mgName 4) mgNil))) (msIf (mTest (toD (mBin fGe (mPk 3) (mPk 1)))) (msSet 2 (mCall 2 F_added (maCons (mVar 2) (maCons (mVar 4) maNil)))) msNext))
    (msRet (mVar 2))))
abbrev F_share_from : FS := fnD 5 2 M_share_from
def M_first_from : MS := (msSeq (msSet 2 (mLst maNil))
    (msSeq (msFor (mItems (toD (mVar 0))) (mgTup 2 (mgCons (mgName 3) (mgCons (mgName 4) mgNil))) (msSeq (msFor (mEnum (maCons (mVar 1) maNil)) (mgTup 2 (mgCons (mgName 5) (mgCons (mgName 6) mgNil))) (msSeq (msAsg (toD (mCall 2 F_share_from (maCons (mVar 6) (maCons (mVar 3) maNil)))) (mgTup 2 (mgCons (mgName 7) (mgCons (mgName 8) mgNil))))
    (msSeq (msApp 2 (mTup (maCons (mVar 5) (maCons (mCall 2 F_times (maCons (mVar 4) (maCons (toE (mTup (maCons (mVar 7) (maCons (mVar 8) maNil)))) maNil))) maNil))))
    (msSet 4 (mCall 2 F_times (maCons (mVar 4) (maCons (mCall 2 F_lowest (maCons (mBin fSub (mPk 8) (mPk 7)) (maCons (mVar 8) maNil))) maNil)))))))
    (msApp 2 (mTup (maCons (mCB fLen (mlCons (mPk 1) mlNil)) (maCons (mVar 4) maNil))))))
    (msRet (mCall 1 F_merged (maCons (mVar 2) maNil)))))
abbrev F_first_from : FS := fnD 9 2 M_first_from
def M_thrown : MS := (msSeq (msSet 2 (mCall 2 F_number_of (maCons (mVar 0) (maCons (mVar 1) maNil))))
    (msSeq (msIf (mTest (toD (mBin fEq (toD (mBin fIx (mPk 0) (mC (.int 0)))) (mC (.str "ladder"))))) (msRet (mCall 4 F_laddered (maCons (mBin fIx (mPk 0) (mC (.int 3))) (maCons (mBin fIx (mPk 2) (mC (.int 0))) (maCons (mBin fIx (mPk 0) (mC (.int 4))) (maCons (mBin fIx (mPk 0) (mC (.int 5))) maNil)))))) msNext)
    (msSeq (msIf (mTest (toD (mBin fEq (toD (mBin fIx (mPk 0) (mC (.int 0)))) (mC (.str "flat"))))) (msRet (mCall 4 F_flat (maCons (mBin fIx (mPk 0) (mC (.int 3))) (maCons (mBin fIx (mPk 2) (mC (.int 0))) (maCons (mBin fIx (mPk 0) (mC (.int 4))) (maCons (mBin fIx (mPk 0) (mC (.int 5))) maNil)))))) msNext)
    (msSeq (msIf (mTest (toD (mBin fEq (toD (mBin fIx (mPk 0) (mC (.int 0)))) (mC (.str "choose"))))) (msRet (mCall 2 F_chosen (maCons (mBin fIx (mPk 0) (mC (.int 3))) (maCons (mVar 2) maNil)))) msNext)
    (msSeq (msSet 3 (mLc [4] (mItems (toD (mVar 2))) (mgName 4) mYes (mCall 4 F_laddered (maCons (mBin fIx (mPk 0) (mC (.int 4))) (maCons (mVar 4) (maCons (mBin fIx (mPk 0) (mC (.int 6))) (maCons (mBin fSub (toD (mBin fIx (mPk 0) (mC (.int 7)))) (mC (.int 1))) maNil)))))))
    (msRet (mCall 2 F_first_from (maCons (mCall 4 F_laddered (maCons (mBin fIx (mPk 0) (mC (.int 3))) (maCons (mBin fIx (mPk 0) (mC (.int 2))) (maCons (mBin fIx (mPk 0) (mC (.int 6))) (maCons (mBin fIx (mPk 0) (mC (.int 7))) maNil))))) (maCons (mVar 3) maNil)))))))))
abbrev F_thrown : FS := fnD 5 2 M_thrown
/-! ### dicts from ints to fractions -/
abbrev Pr := List (Int × Rat)
def ek (p : Int × Rat) : Da × Da := (.int p.1, fr p.2)
def en (p : Int × Rat) : Da := .tuple [.int p.1, fr p.2]
def sumAt : Pr → Int → Rat
  | [], _ => 0
  | p :: r, y => (if p.1 = y then p.2 else 0) + sumAt r y
def look : Pr → Int → Option Rat
  | [], _ => none
  | p :: r, y => if p.1 = y then some p.2 else look r y
def putI : Pr → Int → Rat → Pr
  | [], y, q => [(y, q)]
  | p :: r, y, q => if p.1 = y then (y, q) :: r else p :: putI r y q
theorem sumAt_snoc : ∀ (L : Pr) (z : Int) (q : Rat) (y : Int), sumAt (L ++ [(z, q)]) y = sumAt L y + if z = y then q else 0
  | [], z, q, y => by
    show (if z = y then q else 0) + 0 = 0 + _
    rw [Rat.add_zero, Rat.zero_add]
  | p :: r, z, q, y => by
    show (if p.1 = y then p.2 else 0) + sumAt (r ++ [(z, q)]) y = _
    rw [sumAt_snoc r z q y, ← Rat.add_assoc]
    rfl
theorem tm_ek : ∀ D : Pr, isTm (D.map ek) = false
  | [] => rfl
  | _ :: _ => rfl
theorem pm_ek : ∀ D : Pr, isPm (D.map ek) = false
  | [] => rfl
  | _ :: _ => rfl
theorem dlook_ek (y : Int) : ∀ D : Pr, dLook (D.map ek) (.inl y) = (look D y).map fr
  | [] => rfl
  | p :: r => by
    have ih := dlook_ek y r
    unfold dLook at ih ⊢
    rw [List.map_cons]
    by_cases c : p.1 = y
    · rw [List.find?_cons_of_pos (by show decide (p.1 = y) = true; exact decide_eq_true c), look, if_pos c]
      rfl
    · rw [List.find?_cons_of_neg (by show ¬ decide (p.1 = y) = true; rw [decide_eq_false c]; exact Bool.false_ne_true), look, if_neg c]
      exact ih
theorem dget_ek (D : Pr) (y : Int) : dGetO (D.map ek) (.int y) = some ((look D y).map fr) := by
  unfold dGetO
  rw [tm_ek, if_neg Bool.false_ne_true]
  show some (dLook (D.map ek) (.inl y)) = _
  rw [dlook_ek]
theorem look_none (y : Int) : ∀ D : Pr, look D y = none ↔ y ∉ D.map (·.1)
  | [] => by simp [look]
  | p :: r => by
    rw [look, List.map_cons, List.mem_cons]
    by_cases c : p.1 = y
    · rw [if_pos c]; simp [c]
    · rw [if_neg c, look_none y r]
      exact ⟨fun h z => z.elim (fun e => c e.symm) h, fun h z => h (.inr z)⟩
theorem any_ek (y : Int) : ∀ D : Pr, ((D.map ek).any fun p => isKy (.inl y) p.1) = (look D y).isSome
  | [] => rfl
  | p :: r => by
    rw [List.map_cons, List.any_cons, any_ek y r, look]
    show (decide (p.1 = y) || _) = _
    by_cases c : p.1 = y
    · rw [decide_eq_true c, if_pos c]; rfl
    · rw [decide_eq_false c, if_neg c]; rfl
theorem putI_none (y : Int) (q : Rat) : ∀ D : Pr, look D y = none → putI D y q = D ++ [(y, q)]
  | [], _ => rfl
  | p :: r, h => by
    rw [look] at h
    by_cases c : p.1 = y
    · rw [if_pos c] at h; cases h
    · rw [if_neg c] at h
      rw [putI, if_neg c, putI_none y q r h]; rfl
theorem repl_none (y : Int) (d : Da) : ∀ D : Pr, look D y = none → ((D.map ek).map fun p => if isKy (.inl y) p.1 = true then (p.1, d) else p) = D.map ek
  | [], _ => rfl
  | p :: r, h => by
    rw [look] at h
    by_cases c : p.1 = y
    · rw [if_pos c] at h; cases h
    · rw [if_neg c] at h
      rw [List.map_cons, List.map_cons, repl_none y d r h, if_neg (by show ¬ decide (p.1 = y) = true; rw [decide_eq_false c]; exact Bool.false_ne_true)]
theorem repl_ek (y : Int) (q : Rat) : ∀ D : Pr, (D.map (·.1)).Nodup → (look D y).isSome = true → ((D.map ek).map fun p => if isKy (.inl y) p.1 = true then (p.1, fr q) else p) = (putI D y q).map ek
  | [], _, h => by cases h
  | p :: r, nd, h => by
    rw [List.map_cons, List.nodup_cons] at nd
    rw [look] at h
    by_cases c : p.1 = y
    · rw [putI, if_pos c, List.map_cons, List.map_cons, if_pos (by show decide (p.1 = y) = true; exact decide_eq_true c), repl_none y _ r ((look_none y r).mpr (by rw [← c]; exact nd.1))]
      show (PyData.int p.1, fr q) :: _ = _
      rw [c]; rfl
    · rw [if_neg c] at h
      rw [putI, if_neg c, List.map_cons, List.map_cons, repl_ek y q r nd.2 h, if_neg (by show ¬ decide (p.1 = y) = true; rw [decide_eq_false c]; exact Bool.false_ne_true)]
      rfl
theorem dput_ek {D : Pr} (nd : (D.map (·.1)).Nodup) (y : Int) (q : Rat) : dPut (D.map ek) (.inl y) (fr q) = (putI D y q).map ek := by
  unfold dPut
  rw [any_ek]
  cases h : (look D y).isSome with
  | true => rw [if_pos rfl, repl_ek y q D nd h]
  | false =>
    rw [if_neg Bool.false_ne_true]
    have h0 : look D y = none := by
      cases z : look D y with
      | none => rfl
      | some v => rw [z] at h; cases h
    rw [putI_none y q D h0, List.map_append]
    rfl
theorem look_put (y : Int) (q : Rat) (x : Int) : ∀ D : Pr, look (putI D y q) x = if y = x then some q else look D x
  | [] => by
    show (if y = x then some q else none) = _
    rfl
  | p :: r => by
    rw [putI]
    by_cases c : p.1 = y
    · rw [if_pos c]
      show (if y = x then some q else look r x) = _
      by_cases e : y = x
      · rw [if_pos e, if_pos e]
      · rw [if_neg e, if_neg e, look, if_neg (by rw [c]; exact e)]
    · rw [if_neg c]
      show (if p.1 = x then some p.2 else look (putI r y q) x) = _
      rw [look_put y q x r, look]
      by_cases e : p.1 = x
      · rw [if_pos e, if_pos e, if_neg (fun z => c (e.trans z.symm))]
      · rw [if_neg e, if_neg e]
theorem keys_put (y : Int) (q : Rat) : ∀ D : Pr, (D.map (·.1)).Nodup → ((putI D y q).map (·.1)).Nodup ∧ ∀ x, x ∈ (putI D y q).map (·.1) ↔ x = y ∨ x ∈ D.map (·.1)
  | [], _ => by simp [putI]
  | p :: r, nd => by
    rw [List.map_cons, List.nodup_cons] at nd
    rw [putI]
    by_cases c : p.1 = y
    · rw [if_pos c, List.map_cons, List.nodup_cons]
      refine ⟨⟨by rw [← c]; exact nd.1, nd.2⟩, fun x => ?_⟩
      rw [List.map_cons, List.mem_cons, List.mem_cons, c]
      exact ⟨fun h => .inr h, fun h => h.elim .inl id⟩
    · obtain ⟨a, b⟩ := keys_put y q r nd.2
      rw [if_neg c, List.map_cons, List.nodup_cons]
      refine ⟨⟨fun z => ((b _).mp z).elim c nd.1, a⟩, fun x => ?_⟩
      rw [List.mem_cons, List.map_cons, List.mem_cons, b x]
      exact ⟨fun h => h.elim (fun z => .inr (.inl z)) fun z => z.elim .inl fun z => .inr (.inr z), fun h => h.elim (fun z => .inr (.inl z)) fun z => z.elim .inl fun z => .inr (.inr z)⟩
theorem len_put (y : Int) (q : Rat) : ∀ D : Pr, (putI D y q).length ≤ D.length + 1
  | [] => Nat.le_refl _
  | p :: r => by
    rw [putI]
    by_cases c : p.1 = y
    · rw [if_pos c, List.length_cons, List.length_cons]; omega
    · rw [if_neg c, List.length_cons, List.length_cons]
      have := len_put y q r
      omega
/-- what the dict holds when done is merged -/
structure MgI (D done : Pr) : Prop where
  nd : (D.map (·.1)).Nodup
  lk : ∀ y, look D y = if y ∈ done.map (·.1) then some (sumAt done y) else none
  ln : D.length ≤ done.length
theorem MgI.nil : MgI [] [] := ⟨List.nodup_nil, fun y => rfl, Nat.le_refl _⟩
theorem sumAt_none (y : Int) : ∀ L : Pr, y ∉ L.map (·.1) → sumAt L y = 0
  | [], _ => rfl
  | p :: r, h => by
    rw [List.map_cons, List.mem_cons, not_or] at h
    rw [sumAt, if_neg (fun e => h.1 e.symm), sumAt_none y r h.2, Rat.zero_add]
theorem MgI.get {D done : Pr} (h : MgI D done) (y : Int) : ((look D y).map fr).getD (.tuple [.int 0, .int 1]) = fr (sumAt done y) := by
  rw [h.lk y]
  by_cases c : y ∈ done.map (·.1)
  · rw [if_pos c]; rfl
  · rw [if_neg c, sumAt_none y done c]; rfl
theorem MgI.step {D done : Pr} (h : MgI D done) (y : Int) (q : Rat) : MgI (putI D y (sumAt done y + q)) (done ++ [(y, q)]) := by
  obtain ⟨k1, k2⟩ := keys_put y (sumAt done y + q) D h.nd
  refine ⟨k1, fun x => ?_, ?_⟩
  · rw [look_put, h.lk x, sumAt_snoc, List.map_append, List.map_cons, List.map_nil]
    by_cases e : y = x
    · subst e
      rw [if_pos rfl, if_pos (List.mem_append_right _ List.mem_cons_self), if_pos rfl]
    · rw [if_neg e, if_neg e, Rat.add_zero]
      by_cases c : x ∈ done.map (·.1)
      · rw [if_pos c, if_pos (List.mem_append_left _ c)]
      · rw [if_neg c, if_neg (fun z => (List.mem_append.mp z).elim c fun w => e (List.mem_singleton.mp w).symm)]
  · have := len_put y (sumAt done y + q) D
    rw [List.length_append]
    have := h.ln
    show _ ≤ done.length + 1
    omega
/-- the sorted list of some keys -/
theorem sorted_eq : ∀ {K L : List Int}, K.Pairwise (· < ·) → L.Pairwise (· ≤ ·) → L.Perm K → L = K
  | [], L, _, _, p => List.perm_nil.mp p
  | k :: K, [], _, _, p => absurd p.length_eq (by simp)
  | k :: K, l :: L, hk, hl, p => by
    rw [List.pairwise_cons] at hk hl
    have e : l = k := by
      have h1 : k ∈ l :: L := p.mem_iff.mpr List.mem_cons_self
      have h2 : l ∈ k :: K := p.mem_iff.mp List.mem_cons_self
      rcases List.mem_cons.mp h1 with z | z
      · exact z.symm
      · rcases List.mem_cons.mp h2 with y | y
        · exact y
        · have := hl.1 _ z
          have := hk.1 _ y
          omega
    subst e
    rw [sorted_eq hk.2 hl.2 (List.perm_cons l |>.mp p)]
theorem keys_perm {D done : Pr} (h : MgI D done) {K : List Int} (hK : K.Pairwise (· < ·)) (hm : ∀ y, y ∈ K ↔ y ∈ done.map (·.1)) {ys : List Int} (p : ys.Perm (D.map (·.1))) (s : ys.Pairwise (· ≤ ·)) : ys = K := by
  refine sorted_eq hK s (p.trans ?_)
  refine (List.perm_ext_iff_of_nodup h.nd (hK.imp fun a => by omega)).mpr fun y => ?_
  rw [hm y, ← Decidable.not_iff_not, ← look_none, h.lk y]
  by_cases c : y ∈ done.map (·.1)
  · rw [if_pos c]; simp [c]
  · rw [if_neg c]; simp [c]
end Lb

set_option Elab.async false
set_option linter.all false
set_option maxRecDepth 100000
set_option maxHeartbeats 4000000
set_option pp.maxSteps 600
namespace Lb
open PySem PySem.Spec PyProof.Rows L2 Pq
theorem ixd {ds : List (Da × Da)} {c d : Da} {Q : SV → Prop} (e : dGetO ds c = some (some d)) (h : Q (.val d)) : fIx (.dict ds) c Q := by
  unfold fIx
  cases c <;> (dsimp only; rw [e]; exact h)
theorem eqv_fr (p q : Rat) : PyData.eqv (fr p) (fr q) = decide (p = q) := by
  by_cases e : p = q
  · subst e
    rw [(lay_fr p).refl, decide_eq_true rfl]
  · rw [decide_eq_false e]
    unfold fr
    simp only [PyData.eqv, PyData.eqvAll]
    have : ¬ (p.num = q.num ∧ (p.den : Int) = (q.den : Int)) := fun ⟨a, b⟩ => e (Rat.ext a (by omega))
    simp
    intro a b
    exact this ⟨a, by omega⟩
/-- what merged tells -/
def mgT (L : Pr) (K : List Int) : List Da := (K.filter fun y => decide (sumAt L y ≠ 0)).map fun y => en (y, sumAt L y)
def tstL (L : Pr) : Da → Bool
  | .int y => decide (sumAt L y ≠ 0)
  | _ => false
def enL (L : Pr) : Da → Da
  | .int y => en (y, sumAt L y)
  | _ => .none
theorem sumAt_ge (y : Int) : ∀ L : Pr, (∀ p ∈ L, 0 ≤ p.2) → 0 ≤ sumAt L y
  | [], _ => Rat.le_refl
  | p :: r, h => by
    have a := sumAt_ge y r fun x hx => h x (List.mem_cons_of_mem _ hx)
    have b := h p List.mem_cons_self
    rw [sumAt]
    by_cases c : p.1 = y
    · rw [if_pos c]; exact Rat.add_nonneg b a
    · rw [if_neg c, Rat.zero_add]; exact a
theorem w_merged {L : Pr} {K : List Int} {n m : Nat} (pos : ∀ p ∈ L, 0 ≤ p.2) (sz : ∀ p ∈ L, Sz n p.2) (sm : ∀ (i : Nat) (y : Int), Sz m (sumAt (L.take i) y)) (hnm : m + n ≤ 8999) (hl : L.length < 64) (hK : K.Pairwise (· < ·)) (hm : ∀ y, y ∈ K ↔ y ∈ L.map (·.1))
    (Q : SV → Prop) (h : Q (.val (.tuple (mgT L K)))) : F_merged [.val (.list (L.map en))] Q := by
  refine ⟨show 1 < 4 by decide, ?_⟩
  show forGo _ _ (L.map en) _ _
  refine for_inv (fun R e => ∃ (done rest D : Pr) (a s : SV), L = done ++ rest ∧ R = rest.map en ∧ e = [.val (.list (L.map en)), .own true (.dict (D.map ek)), a, s] ∧ MgI D done ∧ (∀ b d, a ≠ .own b d)) _ _ ⟨[], L, [], .no, .no, rfl, rfl, rfl, MgI.nil, fun _ _ z => by cases z⟩ ?_ ?_
  · rintro d R e ⟨done, rest, D, a, s, hL, hR, rfl, I, _⟩ N hN
    cases rest with
    | nil => cases hR
    | cons p rest =>
      obtain ⟨y, q⟩ := p
      rw [List.map_cons] at hR
      injection hR with e1 e2
      subst e1 e2
      have hp : (y, q) ∈ L := by rw [hL]; exact List.mem_append_right _ List.mem_cons_self
      have pd : ∀ p ∈ done, 0 ≤ p.2 := fun p hp => pos p (by rw [hL]; exact List.mem_append_left _ hp)
      have sd : Sz m (sumAt done y) := by
        have := sm done.length y
        rw [hL, List.take_left] at this
        exact this
      have ld : D.length < 1000000 := by
        have := I.ln
        rw [hL, List.length_append] at hl
        omega
      refine ⟨rfl, show 2 < 4 by decide, show 3 < 4 by decide, rfl, pm_ek D, show 2 ≤ 1000000 by decide, w_get2 (dget_ek D y) ?_⟩
      rw [I.get y]
      refine ⟨rfl, w_added (sumAt_ge y done pd) (pos _ hp) sd (sz _ hp) hnm _ ⟨trivial, w_putD (k := .inl y) rfl (tm_ek D) (by rw [List.length_map]; exact ld) ?_⟩⟩
      rw [dput_ek I.nd]
      exact hN _ ⟨done ++ [(y, q)], rest, _, _, _, by rw [hL, List.append_assoc]; rfl, rfl, rfl, I.step y q, fun _ _ z => by cases z⟩
  · rintro e ⟨done, rest, D, a, s, hL, hR, rfl, I, ha⟩
    have hr : rest = [] := List.map_eq_nil_iff.mp hR.symm
    subst hr
    rw [List.append_nil] at hL
    subst hL
    have lD : D.length < 64 := Nat.lt_of_le_of_lt I.ln hl
    have sorted : ∀ Q' : SV → Prop, Q' (.own true (.list (K.map .int))) → fSorted [.dict (D.map ek)] Q' := fun Q' hq => by
      unfold fSorted
      refine .inl ⟨D.map (·.1), by rw [List.map_map, List.map_map]; rfl, by rw [List.length_map]; exact lD, fun ys p s => ?_⟩
      rw [keys_perm I hK hm p s]
      exact hq
    refine sorted _ ⟨⟨?_, fun i hi => ?_⟩, ?_⟩
    · rw [List.length_map]
      have p1 : K.Perm (D.map (·.1)) := (List.perm_ext_iff_of_nodup (hK.imp fun a => by omega) I.nd).mpr fun y => by
        rw [hm y, ← Decidable.not_iff_not, ← look_none y D, I.lk y]
        by_cases c : y ∈ L.map (·.1)
        · rw [if_pos c]; simp [c]
        · rw [if_neg c]; simp [c]
      have := p1.length_eq
      rw [List.length_map] at this
      omega
    · rw [List.mem_singleton.mp hi]
      cases a with
      | own b d => exact absurd rfl (ha b d)
      | _ => trivial
    · refine lc_all (tstL L) (enL L) _ _ _ (fun d hd Kc N hK' hN => ?_) fun res er => ?_
      · obtain ⟨y, hy, rfl⟩ := List.mem_map.mp hd
        have ly : look D y = some (sumAt L y) := by rw [I.lk y, if_pos ((hm y).mp hy)]
        have dg : dGetO (D.map ek) (.int y) = some (some (fr (sumAt L y))) := by rw [dget_ek, ly]; rfl
        refine ⟨show 2 < 4 by decide, ixd dg ⟨show 2 ≤ 1000000 by decide, (lay_fr _).shaped (by decide), (lay_fr 0).shaped (by decide), ?_⟩⟩
        have e0 : PyData.eqv (fr (sumAt L y)) (.tuple [.int 0, .int 1]) = decide (sumAt L y = 0) := eqv_fr _ 0
        rw [e0]
        refine iteDn (fun c => ?_) fun c => ?_
        · exact ixd dg ⟨show 2 ≤ 1000000 by decide, hK' (decide_eq_true c)⟩
        · exact hN (decide_eq_false fun z => z c)
      · rw [List.nil_append] at er
        subst er
        have e1 : (List.filter (tstL L) (K.map PyData.int)).map (enL L) = mgT L K := by
          unfold mgT
          rw [List.filter_map, List.map_map]
          rfl
        rw [e1]
        exact h
end Lb

set_option Elab.async false
set_option linter.all false
set_option maxRecDepth 100000
set_option maxHeartbeats 4000000
set_option pp.maxSteps 600
namespace Lb
open PySem PySem.Spec PyProof.Rows L2 Pq
theorem w_cut {n lo hi : Int} (Q : SV → Prop) (h : Q (iv (max lo (min hi n)))) : F_cut [iv n, iv lo, iv hi] Q := h
theorem ints_map : ∀ L : List Int, ints? (L.map .int) = some L
  | [] => rfl
  | x :: L => by rw [List.map_cons, ints?, ints_map L]; rfl
theorem w_sum (L : List Int) (Q : SV → Prop) (h : Q (iv L.sum)) : fSum [.list (L.map .int)] Q := by
  unfold fSum
  dsimp only
  rw [ints_map]
  exact h
def prods (cs ws : List Int) : List Int := List.zipWith (· * ·) cs ws
def dot (cs ws : List Int) : Int := (prods cs ws).sum
def mulD : Da → Da
  | .dict [(_, .int c), (_, .int w)] => .int (c * w)
  | _ => .none
theorem zp_mul : ∀ cs ws : List Int, (zpD (cs.map .int) (ws.map .int)).map mulD = (prods cs ws).map .int
  | [], _ => rfl
  | _ :: _, [] => rfl
  | c :: cs, w :: ws => by
    show mulD (.dict [(.bool true, .int c), (.bool true, .int w)]) :: (zpD (cs.map .int) (ws.map .int)).map mulD = _
    rw [zp_mul cs ws]
    rfl
theorem zp_mem : ∀ {cs ws : List Int} {d : Da}, d ∈ zpD (cs.map .int) (ws.map .int) → ∃ c w, c ∈ cs ∧ w ∈ ws ∧ d = .dict [(.bool true, .int c), (.bool true, .int w)]
  | [], _, _, h => by cases h
  | _ :: _, [], _, h => by cases h
  | c :: cs, w :: ws, d, h => by
    rcases List.mem_cons.mp (show d ∈ PyData.dict [(.bool true, .int c), (.bool true, .int w)] :: zpD (cs.map .int) (ws.map .int) from h) with z | z
    · exact ⟨c, w, List.mem_cons_self, List.mem_cons_self, z⟩
    · obtain ⟨c', w', a, b, e⟩ := zp_mem z
      exact ⟨c', w', List.mem_cons_of_mem _ a, List.mem_cons_of_mem _ b, e⟩
theorem zp_len : ∀ cs ws : List Int, (zpD (cs.map .int) (ws.map .int)).length ≤ cs.length
  | [], _ => Nat.le_refl _
  | _ :: _, [] => Nat.zero_le _
  | c :: cs, w :: ws => Nat.succ_le_succ (zp_len cs ws)
/-- numbers that are no wider than 40 bits -/
def Fw (L : List Int) : Prop := ∀ x ∈ L, x.natAbs < 2 ^ 40
theorem Fw.sm {L : List Int} (h : Fw L) {x : Int} (hx : x ∈ L) : Sm x := sm_of (h x hx) (by decide)
/-- a row as its ends and sums are told -/
structure RowI (row : Da) (lo hi : Int) (S : List (List Int)) : Prop where
  ends : ∀ Q : SV → Prop, Q (.val (.tuple [.int lo, .int hi])) → F_ends_of [.val row] Q
  sums : ∀ Q : SV → Prop, Q (.val (.tuple (S.map fun ws => .tuple (ws.map .int)))) → F_sums_of [.val row] Q
def num (cs : List Int) (lo hi : Int) (ws : List Int) : Int := max lo (min hi (dot cs ws))
theorem w_number_of {row : Da} {lo hi : Int} {S : List (List Int)} {cs : List Int} (r : RowI row lo hi S) (fc : Fw cs) (fs : ∀ ws ∈ S, Fw ws) (lc : cs.length ≤ 1000) (ls : S.length ≤ 1000)
    (Q : SV → Prop) (h : Q (.val (.tuple (S.map fun ws => .int (num cs lo hi ws))))) : F_number_of [.val row, .val (.tuple (cs.map .int))] Q := by
  refine ⟨rfl, r.ends _ ⟨rfl, show 2 < 9 by decide, show 3 < 9 by decide, rfl, show 0 ≤ 1000000 by decide, show 4 < 9 by decide, rfl, r.sums _ ?_⟩⟩
  show forGo _ _ (S.map fun ws => PyData.tuple (ws.map .int)) _ _
  refine for_inv (fun R e => ∃ (done rest : List (List Int)) (a b : SV), S = done ++ rest ∧ R = rest.map (fun ws => PyData.tuple (ws.map .int)) ∧ e = [.val row, .val (.tuple (cs.map .int)), iv lo, iv hi, .own true (.list (done.map fun ws => .int (num cs lo hi ws))), a, b, .no, .no]) _ _ ⟨[], S, .no, .no, rfl, rfl, rfl⟩ ?_ ?_
  · rintro d R e ⟨done, rest, a, b, hS, hR, rfl⟩ N hN
    cases rest with
    | nil => cases hR
    | cons ws rest =>
      rw [List.map_cons] at hR
      injection hR with e1 e2
      subst e1 e2
      have fw : Fw ws := fs ws (by rw [hS]; exact List.mem_append_right _ List.mem_cons_self)
      have ld : done.length < 1000000 := by
        rw [hS, List.length_append] at ls
        omega
      refine ⟨show 5 < 9 by decide, ⟨by have := zp_len cs ws; omega, fun i hi => ?_⟩, ?_⟩
      · rcases List.mem_cons.mp hi with rfl | hi
        · trivial
        · rw [List.mem_singleton.mp hi]; trivial
      · refine lc_map mulD _ _ _ (fun d hd K hK => ?_) fun res er => ?_
        · obtain ⟨c, w, hc, hw, rfl⟩ := zp_mem hd
          exact ⟨rfl, show 7 < 9 by decide, show 8 < 9 by decide, rfl, fc.sm hc, fw.sm hw, hK⟩
        · rw [List.nil_append, zp_mul] at er
          subst er
          refine w_sum _ _ ⟨show 6 < 9 by decide, trivial, rfl, w_cut _ ⟨by rw [List.length_map]; exact ld, ?_⟩⟩
          exact hN _ ⟨done ++ [ws], rest, _, _, by rw [hS, List.append_assoc]; rfl, rfl, by rw [List.map_append]; rfl⟩
  · rintro e ⟨done, rest, a, b, hS, hR, rfl⟩
    have hr : rest = [] := List.map_eq_nil_iff.mp hR.symm
    subst hr
    rw [List.append_nil] at hS
    subst hS
    exact h
/-! ### rows -/
def ladRow (nm : Str) (ws : List Int) (a : Rat) (lo hi : Int) : Da := .tuple [.str "ladder", .str nm, .tuple (ws.map .int), fr a, .int lo, .int hi]
theorem lad_row {nm : Str} {ws : List Int} {a : Rat} {lo hi : Int} : RowI (ladRow nm ws a lo hi) lo hi [ws] := by
  refine ⟨fun Q h => ?_, fun Q h => ?_⟩
  · exact ix rfl (ix rfl (ix rfl ⟨show 2 ≤ 1000000 by decide, h⟩))
  · exact ix rfl (ix rfl (ix rfl ⟨show 1 ≤ 1000000 by decide, h⟩))
/-! ### ladders -/
def ladS (a : Rat) (n lo hi y : Int) : Rat := if y = lo then tlR a (n - lo) else if y = hi then tlR a (hi - n) else shR a (y - n)
def ladL (a : Rat) (n lo hi : Int) : Pr := if lo = hi then [(lo, 1)] else (rgI lo (hi + 1)).map fun y => (y, ladS a n lo hi y)
end Lb

set_option Elab.async false
set_option linter.all false
set_option maxRecDepth 100000
set_option maxHeartbeats 4000000
set_option pp.maxSteps 600
namespace Lb
open PySem PySem.Spec PyProof.Rows L2 Pq
theorem sumAt_fun (f : Int → Rat) (y : Int) : ∀ ks : List Int, ks.Nodup → sumAt (ks.map fun z => (z, f z)) y = if y ∈ ks then f y else 0
  | [], _ => rfl
  | k :: ks, nd => by
    rw [List.nodup_cons] at nd
    rw [List.map_cons, sumAt, sumAt_fun f y ks nd.2]
    by_cases c : k = y
    · subst c
      rw [if_pos rfl, if_neg nd.1, if_pos List.mem_cons_self, Rat.add_zero]
    · rw [if_neg c, Rat.zero_add]
      by_cases e : y ∈ ks
      · rw [if_pos e, if_pos (List.mem_cons_of_mem _ e)]
      · rw [if_neg e, if_neg (fun z => (List.mem_cons.mp z).elim (fun w => c w.symm) e)]
theorem rgI_pw : ∀ (n : Nat) (a b : Int), (b - a).toNat = n → (rgI a b).Pairwise (· < ·)
  | 0, a, b, h => by rw [rgI_nil (by omega)]; exact List.Pairwise.nil
  | n + 1, a, b, h => by
    rw [rgI_cons (by omega), List.pairwise_cons]
    refine ⟨fun x hx => ?_, rgI_pw n (a + 1) b (by omega)⟩
    have := mem_rgI.mp hx
    omega
theorem rgI_nodup (a b : Int) : (rgI a b).Nodup := (rgI_pw _ a b rfl).imp fun h => by omega
/-- merged of pairs whose answers are all other: these -/
theorem w_mergedF {f : Int → Rat} {ks : List Int} {n : Nat} (hK : ks.Pairwise (· < ·)) (pos : ∀ y ∈ ks, 0 < f y) (sz : ∀ y ∈ ks, Sz n (f y)) (hn : n ≤ 4000) (hl : ks.length < 64) (Q : SV → Prop) (h : Q (.val (.tuple (ks.map fun y => en (y, f y))))) : F_merged [.val (.list (ks.map fun y => en (y, f y)))] Q := by
  have nd : ks.Nodup := hK.imp fun h => by omega
  have e1 : (ks.map fun y => en (y, f y)) = (ks.map fun z => (z, f z)).map en := by rw [List.map_map]; rfl
  rw [e1]
  refine w_merged (L := ks.map fun z => (z, f z)) (K := ks) (n := n) (m := n + 1) (fun p hp => ?_) (fun p hp => ?_) (fun i y => ?_) (by omega) (by rw [List.length_map]; exact hl) hK (fun y => by rw [List.map_map]; simp) Q ?_
  · obtain ⟨y, hy, rfl⟩ := List.mem_map.mp hp
    exact Rat.le_of_lt (pos y hy)
  · obtain ⟨y, hy, rfl⟩ := List.mem_map.mp hp
    exact sz y hy
  · rw [← List.map_take, sumAt_fun f y _ (nd.sublist (List.take_sublist _ _))]
    by_cases c : y ∈ ks.take i
    · rw [if_pos c]; exact (sz y (List.mem_of_mem_take c)).mono (by omega)
    · rw [if_neg c]
      exact ⟨by show (0 : Nat) < 2 ^ (n + 1); exact Nat.two_pow_pos _, by show 1 < 2 ^ (n + 1); exact Nat.one_lt_two_pow (by omega)⟩
  · have e2 : mgT (ks.map fun z => (z, f z)) ks = ks.map fun y => en (y, f y) := by
      unfold mgT
      rw [List.filter_eq_self.mpr (fun y hy => by
        rw [sumAt_fun f y ks nd, if_pos hy]
        exact decide_eq_true (Rat.ne_of_gt (pos y hy)))]
      apply List.map_congr_left
      intro y hy
      rw [sumAt_fun f y ks nd, if_pos hy]
    rw [e2]
    exact h
theorem pow_pos' {a : Rat} (s : St a) (k : Nat) : 0 < a ^ k := Rat.pow_pos s.p0
theorem inv_pos' {a : Rat} (s : St a) : 0 < 1 / (1 + a) := by
  have pa := s.p0
  rw [Rat.div_def, Rat.one_mul]
  exact Rat.inv_pos.mpr (by grind)
theorem shR_pos {a : Rat} (s : St a) (k : Int) : 0 < shR a k := by
  have i := inv_pos' s
  have l := s.l1
  have e : (1 - a) / (1 + a) = (1 - a) * (1 / (1 + a)) := by
    rw [Rat.div_def, Rat.div_def, Rat.one_mul]
  unfold shR
  rw [e]
  exact Rat.mul_pos (Rat.mul_pos (by grind) i) (pow_pos' s _)
theorem tlR_pos {a : Rat} (s : St a) {k : Int} (h : 0 ≤ k) : 0 < tlR a k := by
  unfold tlR
  rw [if_pos h]
  exact Rat.mul_pos (inv_pos' s) (pow_pos' s _)
theorem sz_tlR {a : Rat} (s : St a) {k : Int} (h : 0 ≤ k) (hk : k ≤ 30) : Sz 200 (tlR a k) := by
  unfold tlR
  rw [if_pos h]
  exact (sz_tl s _).mono (by omega)
theorem sz_shR {a : Rat} (s : St a) {k : Int} (hk : k.natAbs ≤ 30) : Sz 200 (shR a k) := (sz_sh s _).mono (by omega)
/-- where a ladder is asked -/
structure LadOk (n lo hi : Int) : Prop where
  l0 : 0 ≤ lo
  ln : lo ≤ n
  nh : n ≤ hi
  h9 : hi ≤ 20
theorem ladS_pos {a : Rat} {n lo hi y : Int} (s : St a) (o : LadOk n lo hi) : 0 < ladS a n lo hi y := by
  have := o.ln; have := o.nh
  unfold ladS
  split
  · exact tlR_pos s (by omega)
  · split
    · exact tlR_pos s (by omega)
    · exact shR_pos s _
theorem sz_ladS {a : Rat} {n lo hi y : Int} (s : St a) (o : LadOk n lo hi) (h1 : lo ≤ y) (h2 : y ≤ hi) : Sz 200 (ladS a n lo hi y) := by
  have := o.ln; have := o.nh; have := o.l0; have := o.h9
  unfold ladS
  split
  · exact sz_tlR s (by omega) (by omega)
  · split
    · exact sz_tlR s (by omega) (by omega)
    · exact sz_shR s (by omega)
theorem w_laddered {a : Rat} {n lo hi : Int} (s : St a) (o : LadOk n lo hi) (Q : SV → Prop) (h : Q (.val (.tuple ((ladL a n lo hi).map en)))) : F_laddered [frv a, iv n, iv lo, iv hi] Q := by
  have o1 := o.l0; have o2 := o.ln; have o3 := o.nh; have o4 := o.h9
  unfold ladL at h
  refine iteD (fun c => ?_) (fun c => ?_)
  · rw [if_pos c] at h
    exact ⟨show 2 ≤ 1000000 by decide, show 2 ≤ 1000000 by decide, show 1 ≤ 1000000 by decide, h⟩
  · rw [if_neg c, List.map_map] at h
    have c : ¬ lo = hi := c
    have f0 : ladS a n lo hi lo = tlR a (n - lo) := by unfold ladS; rw [if_pos rfl]
    have fh : ladS a n lo hi hi = tlR a (hi - n) := by unfold ladS; rw [if_neg (fun z => c z.symm), if_pos rfl]
    refine ⟨rfl, w_tail_of s (by omega) _ ⟨show 2 ≤ 1000000 by decide, show 1 ≤ 1000000 by decide, show 4 < 6 by decide, ⟨by omega, ?_⟩⟩⟩
    show forGo _ _ (rgD (lo + 1) hi) _ _
    rw [rgD_I]
    refine for_inv (fun L e => ∃ (y : Int) (t : SV), lo + 1 ≤ y ∧ y ≤ hi ∧ L = (rgI y hi).map .int ∧ e = [frv a, iv n, iv lo, iv hi, .own true (.list ((rgI lo y).map fun y => en (y, ladS a n lo hi y))), t]) _ _ ?_ ?_ ?_
    · refine ⟨lo + 1, .no, by omega, by omega, rfl, ?_⟩
      rw [rgI_one, List.map_cons, List.map_nil, f0]
      rfl
    · rintro d L e ⟨y, t, y0, y1, hL, rfl⟩ N hN
      have lt : y < hi := by
        rcases Int.lt_or_le y hi with z | z
        · exact z
        · rw [rgI_nil z] at hL; cases hL
      rw [rgI_cons lt, List.map_cons] at hL
      injection hL with e1 e2
      subst e1 e2
      refine ⟨show 5 < 6 by decide, trivial, rfl, w_share_of s (by omega) _ ⟨show 2 ≤ 1000000 by decide, by rw [List.length_map, rgI_len]; omega, hN _ ⟨y + 1, iv y, by omega, by omega, rfl, ?_⟩⟩⟩
      have fy : ladS a n lo hi y = shR a (y - n) := by unfold ladS; rw [if_neg (by omega), if_neg (by omega)]
      rw [rgI_app (a := lo) (b := y) (c := y + 1) (by omega) (by omega), rgI_one, List.map_append, List.map_cons, List.map_nil, fy]
      rfl
    · rintro e ⟨y, t, y0, y1, hL, rfl⟩
      have ey : y = hi := by
        rcases Int.lt_or_le y hi with z | z
        · rw [rgI_cons z] at hL; cases hL
        · omega
      subst ey
      refine ⟨trivial, rfl, w_tail_of s (by omega) _ ⟨show 2 ≤ 1000000 by decide, by rw [List.length_map, rgI_len]; omega, rfl, ?_⟩⟩
      have e1 : ((rgI lo y).map fun z => en (z, ladS a n lo y z)) ++ [.tuple [.int y, fr (tlR a (y - n))]] = (rgI lo (y + 1)).map fun z => en (z, ladS a n lo y z) := by
        rw [rgI_app (a := lo) (b := y) (c := y + 1) (by omega) (by omega), rgI_one, List.map_append, List.map_cons, List.map_nil, fh]
        rfl
      rw [e1]
      refine w_mergedF (n := 200) (rgI_pw _ _ _ rfl) (fun z _ => ladS_pos s o) (fun z hz => ?_) (by decide) (by rw [rgI_len]; omega) _ h
      have := mem_rgI.mp hz
      exact sz_ladS s o (by omega) (by omega)
theorem w_thrown_lad {nm : Str} {ws cs : List Int} {a : Rat} {lo hi : Int} (s : St a) (h0 : 0 ≤ lo) (h1 : lo ≤ hi) (h2 : hi ≤ 20) (fc : Fw cs) (fw : Fw ws) (lc : cs.length ≤ 1000) (Q : SV → Prop) (h : Q (.val (.tuple ((ladL a (num cs lo hi ws) lo hi).map en)))) : F_thrown [.val (ladRow nm ws a lo hi), .val (.tuple (cs.map .int))] Q := by
  refine ⟨rfl, w_number_of lad_row fc (fun w hw => by rw [List.mem_singleton.mp hw]; exact fw) lc (show 1 ≤ 1000 by decide) _ ⟨show 2 < 5 by decide, ?_⟩⟩
  refine ix rfl (ix rfl (ix rfl (ix rfl (ix rfl ⟨rfl, w_laddered s ⟨h0, ?_, ?_, h2⟩ _ h⟩))))
  · unfold num; omega
  · unfold num; omega
end Lb

set_option Elab.async false
set_option linter.all false
set_option maxRecDepth 100000
set_option maxHeartbeats 4000000
set_option pp.maxSteps 600
namespace Lb
open PySem PySem.Spec PyProof.Rows L2 Pq
/-! ### texts -/
theorem strs_of : ∀ res : List Da, (∀ x ∈ res, ∃ s : Str, x = .str s ∧ s.length ≤ 1) → ∃ ys : List Str, res = ys.map .str ∧ ys.length = res.length ∧ (ys.map (·.length)).sum ≤ res.length
  | [], _ => ⟨[], rfl, rfl, Nat.le_refl _⟩
  | x :: r, h => by
    obtain ⟨ys, e, l, s⟩ := strs_of r fun y hy => h y (List.mem_cons_of_mem _ hy)
    obtain ⟨z, rfl, hz⟩ := h x List.mem_cons_self
    refine ⟨z :: ys, by rw [e]; rfl, by rw [List.length_cons, List.length_cons, l], ?_⟩
    rw [List.map_cons, List.sum_cons, List.length_cons]
    omega
theorem w_ixS {z : Str} {i : Int} (hz : z.length ≤ 1000000) (h0 : 0 ≤ i) (h1 : i < z.cps.toList.length) (Q : SV → Prop) (h : ∀ c, Q (.val (.str ⟨#[c]⟩))) : fIx (.str z) (.int i) Q := by
  have hi : i.toNat < z.cps.toList.length := by omega
  have e : atI z.cps.toList i = some z.cps.toList[i.toNat] := by
    unfold atI ixN
    rw [if_pos h0, if_pos h1]
    exact List.getElem?_eq_getElem hi
  unfold fIx
  dsimp only
  rw [e]
  exact ⟨hz, h _⟩
theorem w_joinE {res : List Da} (h : ∀ x ∈ res, ∃ s : Str, x = .str s ∧ s.length ≤ 1) (hl : res.length ≤ 1000) (Q : SV → Prop) (q : ∀ s : Str, s.length ≤ res.length → Q (.val (.str s))) : fJoin "" (.list res) Q := by
  obtain ⟨ys, e, l, s⟩ := strs_of res h
  have e0 : ("" : Str).length = 0 := rfl
  unfold fJoin
  refine ⟨ys, .inl (by rw [e]), by rw [e0]; omega, q _ ?_⟩
  have := StrLaws.join_length_le "" ys
  rw [e0] at this
  have t : (Txt.join "" ys).length ≤ (ys.map (·.length)).sum + ys.length * 0 := by
    show (Builtin.Str.glued _ ys).length ≤ _
    rw [StrLaws.glued_eq_join]
    exact this
  omega
end Lb

set_option Elab.async false
set_option linter.all false
set_option maxRecDepth 100000
set_option maxHeartbeats 4000000
set_option pp.maxSteps 600
namespace Lb
open PySem PySem.Spec PyProof.Rows L2 Pq
def M_law_name : MS := (msSeq (msSet 1 (mStr1 fJoin (mC (.str "")) (toD (mLc [3] (mRg1 (mlCons (toD (mBin fAdd (mC (.int 1)) (toD (mCall 2 F_law_draw (maCons (mVar 0) (maCons (toE (mC (.int 8))) maNil)))))) mlNil)) (mgName 3) mYes (mBin fIx (mC (.str "abcdefghijklmnopqrstuvwxyz")) (toD (mCall 2 F_law_draw (maCons (mVar 0) (maCons (toE (mC (.int 26))) maNil)))))))))
    (msSeq (msSet 2 (mLst (maCons (toE (mC (.str "kinds"))) (maCons (toE (mC (.str "ladder"))) (maCons (toE (mC (.str "flat"))) (maCons (toE (mC (.str "choose"))) (maCons (toE (mC (.str "first"))) (maCons (toE (mC (.str "let"))) (maCons (toE (mC (.str "tell"))) (maCons (toE (mC (.str "when"))) (maCons (toE (mC (.str "else"))) (maCons (toE (mC (.str "times"))) (maCons (toE (mC (.str "end"))) (maCons (toE (mC (.str "of"))) maNil))))))))))))))
    (msRet (mBin fAdd (mPk 1) (toD (mBin fMul (mC (.str "q")) (toD (mCB fInt (mlCons (toD (mBin (fIn false) (mPk 1) (mPk 2))) mlNil)))))))))
abbrev F_law_name : FS := fnD 4 1 M_law_name
def M_law_ends : MS := (msSeq (msSet 2 (mCall 2 F_law_draw (maCons (mVar 0) (maCons (mBin fSub (mC (.int 10)) (mPk 1)) maNil))))
    (msRet (toE (mTup (maCons (mVar 2) (maCons (mBin fAdd (toD (mBin fAdd (mPk 2) (mPk 1))) (toD (mCall 2 F_law_draw (maCons (mVar 0) (maCons (mBin fSub (toD (mBin fSub (mC (.int 10)) (mPk 1))) (mPk 2)) maNil))))) maNil))))))
abbrev F_law_ends : FS := fnD 3 2 M_law_ends
def M_law_crowd : MS := (msSeq (msSet 2 (mLst maNil))
    (msSeq (msFor (mRg1 (mlCons (mPk 1) mlNil)) (mgName 3) (msSeq (msSet 4 (mCall 2 F_law_draw (maCons (mVar 0) (maCons (toE (mC (.int 8))) maNil))))
    (msSeq (msSet 5 (mBin fIx (toD (mLst (maCons (mCall 2 F_law_draw (maCons (mVar 0) (maCons (toE (mC (.int 5))) maNil))) (maCons (mCall 2 F_law_draw (maCons (mVar 0) (maCons (toE (mC (.int 12))) maNil))) maNil)))) (toD (mCB fInt (mlCons (toD (mBin fEq (mPk 4) (mC (.int 5)))) mlNil)))))
    (msSeq (msIf (mTest (toD (mBin fGt (mPk 4) (mC (.int 5))))) (msSet 5 (mBin fIx (toD (mLst (maCons (mBin fSub (toD (mBin fPow (mC (.int 10)) (mC (.int 6)))) (toD (mCall 2 F_law_draw (maCons (mVar 0) (maCons (toE (mC (.int 2))) maNil))))) (maCons (mCall 2 F_law_draw (maCons (mVar 0) (maCons (mBin fAdd (toD (mBin fPow (mC (.int 10)) (mC (.int 6)))) (mC (.int 1))) maNil))) maNil)))) (toD (mBin fSub (mPk 4) (mC (.int 6)))))) msNext)
    (msApp 2 (toD (mVar 5)))))))
    (msRet (mCB fTuple (mlCons (mPk 2) mlNil)))))
abbrev F_law_crowd : FS := fnD 6 2 M_law_crowd
def M_law_sum : MS := (msRet (mCB fTuple (mlCons (toD (mLc [2] (mRg1 (mlCons (mPk 1) mlNil)) (mgName 2) mYes (mCall 2 F_law_draw (maCons (mVar 0) (maCons (toE (mC (.int 4))) maNil))))) mlNil)))
abbrev F_law_sum : FS := fnD 3 2 M_law_sum
def M_law_number : MS := (msSeq (msSet 4 (mCB fSum (mlCons (toD (mLc [5, 6] (mZip (maCons (mVar 1) (maCons (mVar 0) maNil))) (mgTup 2 (mgCons (mgName 5) (mgCons (mgName 6) mgNil))) mYes (mBin fMul (mPk 5) (mPk 6)))) mlNil)))
    (msRet (mCB fMin2 (mlCons (toD (mCB fMax2 (mlCons (mPk 4) (mlCons (mPk 2) mlNil)))) (mlCons (mPk 3) mlNil)))))
abbrev F_law_number : FS := fnD 7 4 M_law_number
def M_law_rungs : MS := (msSeq (msAsg (toD (mVar 0)) (mgTup 2 (mgCons (mgName 4) (mgCons (mgName 5) mgNil))))
    (msSeq (msIf (mTest (toD (mBin fEq (mPk 2) (mPk 3)))) (msRet (toE (mTup (maCons (mLst (maCons (toE (mC (.int 1))) maNil)) (maCons (toE (mC (.int 1))) maNil))))) msNext)
    (msSeq (msSet 6 (mBin fSub (mPk 3) (mPk 2)))
    (msSeq (msSet 7 (mLst maNil))
    (msSeq (msFor (mRg2 (mlCons (mPk 2) (mlCons (toD (mBin fAdd (mPk 3) (mC (.int 1)))) mlNil))) (mgName 8) (msSeq (msSet 9 (mCB fMax2 (mlCons (toD (mBin fSub (mPk 8) (mPk 1))) (mlCons (toD (mBin fSub (mPk 1) (mPk 8))) mlNil))))
    (msSeq (msSet 10 (mBin fMul (toD (mCall 2 F_law_power (maCons (mVar 4) (maCons (mVar 9) maNil)))) (toD (mCall 2 F_law_power (maCons (mVar 5) (maCons (mBin fSub (mPk 6) (mPk 9)) maNil))))))
    (msApp 7 (toD (mBin fMul (mPk 10) (toD (mBin fIx (toD (mLst (maCons (mBin fSub (mPk 5) (mPk 4)) (maCons (mVar 5) maNil)))) (toD (mCB fInt (mlCons (mOrV (toD (mBin fEq (mPk 8) (mPk 2))) (toD (mBin fEq (mPk 8) (mPk 3)))) mlNil)))))))))))
    (msRet (toE (mTup (maCons (mVar 7) (maCons (mBin fMul (toD (mBin fAdd (mPk 5) (mPk 4))) (toD (mCall 2 F_law_power (maCons (mVar 5) (maCons (mVar 6) maNil))))) maNil))))))))))
abbrev F_law_rungs : FS := fnD 11 4 M_law_rungs
def M_law_table : MS := (msSeq (msSet 3 (mLst maNil))
    (msSeq (msFor (mEnum (maCons (mVar 0) maNil)) (mgTup 2 (mgCons (mgName 4) (mgCons (mgName 5) mgNil))) (msIf (mTest (toD (mBin fGt (mPk 5) (mC (.int 0))))) (msApp 3 (mTup (maCons (mBin fAdd (mPk 2) (mPk 4)) (maCons (mCall 2 F_law_lowest (maCons (mVar 5) (maCons (mVar 1) maNil))) maNil)))) msNext))
    (msRet (mCB fTuple (mlCons (mPk 3) mlNil)))))
abbrev F_law_table : FS := fnD 6 3 M_law_table
theorem w_name (Q : SV → Prop) (h : ∀ s : Str, Q (.val (.str s))) : F_law_name [.deal] Q := by
  refine ⟨rfl, ⟨by decide, by decide⟩, fun r r0 r1 => ⟨⟨by omega, by omega⟩, ⟨⟨?_, fun i hi => ?_⟩, ?_⟩⟩⟩
  · show (rgD 0 (1 + r)).length ≤ 1000000
    rw [rgD_I, List.length_map, rgI_len]; omega
  · rw [List.mem_singleton.mp hi]; trivial
  · refine lc_any (fun d => ∃ s : Str, d = .str s ∧ s.length ≤ 1) _ _ _ (fun d hd K hK => ⟨show 3 < 4 by decide, rfl, ⟨by decide, by decide⟩, fun c c0 c1 => w_ixS (by decide) c0 (by show c < 26; exact c1) _ fun z => hK _ ⟨⟨#[z]⟩, rfl, by show 1 ≤ 1; decide⟩⟩) fun res hl hr => ?_
    have hr : ∀ x ∈ res, ∃ s : Str, x = .str s ∧ s.length ≤ 1 := fun x hx => (hr x hx).resolve_left fun z => by cases z
    have hl : res.length ≤ 8 := by
      have : (rgD 0 (1 + r)).length = (1 + r - 0).toNat := by rw [rgD_I, List.length_map, rgI_len]
      rw [hl, this]
      show 0 + _ ≤ 8
      omega
    refine w_joinE hr (by omega) _ fun s hs => ⟨show 1 < 4 by decide, show 12 ≤ 1000000 by decide, show 2 < 4 by decide, ⟨.inl ⟨rfl, rfl⟩, ?_⟩⟩
    generalize (List.any _ _) = b
    have e : (xor false b) = b := Bool.false_xor b
    rw [e]
    refine ⟨⟨by split <;> decide, by split <;> decide, by decide, by split <;> decide⟩, ?_⟩
    refine ⟨?_, h _⟩
    have : (strRep "q" (if b = true then 1 else 0)).length ≤ 1 := by cases b <;> decide
    omega
theorem w_ends {m : Int} (m0 : 0 ≤ m) (m1 : m ≤ 9) (Q : SV → Prop) (h : ∀ lo hi : Int, 0 ≤ lo → lo + m ≤ hi → hi ≤ 9 → Q (.val (.tuple [.int lo, .int hi]))) : F_law_ends [.deal, iv m] Q := by
  refine ⟨rfl, ⟨by omega, by omega⟩, fun lo l0 l1 => ⟨show 2 < 3 by decide, rfl, ⟨by omega, by omega⟩, fun d d0 d1 => ⟨show 2 ≤ 1000000 by decide, h _ _ l0 (by omega) (by omega)⟩⟩⟩
theorem ints_of : ∀ (p : Int → Prop) (res : List Da), (∀ x ∈ res, ∃ i : Int, x = .int i ∧ p i) → ∃ L : List Int, res = L.map .int ∧ L.length = res.length ∧ ∀ x ∈ L, p x
  | p, [], _ => ⟨[], rfl, rfl, fun _ z => by cases z⟩
  | p, x :: r, h => by
    obtain ⟨L, e, l, s⟩ := ints_of p r fun y hy => h y (List.mem_cons_of_mem _ hy)
    obtain ⟨z, rfl, hz⟩ := h x List.mem_cons_self
    exact ⟨z :: L, by rw [e]; rfl, by rw [List.length_cons, List.length_cons, l], fun y hy => (List.mem_cons.mp hy).elim (fun w => by rw [w]; exact hz) (s y)⟩
theorem fw_of {L : List Int} {b : Int} (h : ∀ x ∈ L, 0 ≤ x ∧ x ≤ b) (hb : b ≤ 1000000) : Fw L := fun x hx => by
  have := h x hx
  have : (2 : Nat) ^ 40 = 1099511627776 := by decide
  omega
theorem w_sumD {k : Int} (k0 : 0 ≤ k) (k1 : k ≤ 10) (Q : SV → Prop) (h : ∀ ws : List Int, (∀ x ∈ ws, 0 ≤ x ∧ x ≤ 3) → ws.length = k.toNat → Q (.val (.tuple (ws.map .int)))) : F_law_sum [.deal, iv k] Q := by
  have len : (rgD 0 k).length = k.toNat := by rw [rgD_I, List.length_map, rgI_len]; omega
  refine ⟨⟨by omega, by omega⟩, ⟨⟨?_, fun i hi => ?_⟩, ?_⟩⟩
  · show (rgD 0 k).length ≤ 1000000
    rw [len]; omega
  · rw [List.mem_singleton.mp hi]; trivial
  · refine lc_any (fun d => ∃ i : Int, d = .int i ∧ 0 ≤ i ∧ i ≤ 3) _ _ _ (fun d hd K hK => ⟨show 2 < 3 by decide, rfl, ⟨by decide, by decide⟩, fun c c0 c1 => hK _ ⟨c, rfl, c0, by omega⟩⟩) fun res hl hr => ?_
    obtain ⟨L, rfl, l, s⟩ := ints_of _ res fun x hx => (hr x hx).resolve_left fun z => by cases z
    exact h L s (by rw [l, hl]; show 0 + (rgD 0 k).length = _; rw [len]; omega)
theorem w_crowd {k : Int} (k0 : 0 ≤ k) (k1 : k ≤ 10) (Q : SV → Prop) (h : ∀ cs : List Int, (∀ x ∈ cs, 0 ≤ x ∧ x ≤ 1000000) → cs.length = k.toNat → Q (.val (.tuple (cs.map .int)))) : F_law_crowd [.deal, iv k] Q := by
  refine ⟨show 0 ≤ 1000000 by decide, show 2 < 6 by decide, ⟨by omega, by omega⟩, ?_⟩
  show forGo _ _ (rgD 0 k) _ _
  rw [rgD_I]
  refine for_inv (fun L e => ∃ (y : Int) (cs : List Int) (a b c : SV), 0 ≤ y ∧ y ≤ k ∧ L = (rgI y k).map .int ∧ cs.length = y.toNat ∧ (∀ x ∈ cs, 0 ≤ x ∧ x ≤ 1000000) ∧ e = [.deal, iv k, .own true (.list (cs.map .int)), a, b, c]) _ _ ⟨0, [], .no, .no, .no, by omega, k0, rfl, rfl, (fun _ z => by cases z), rfl⟩ ?_ ?_
  · rintro d L e ⟨y, cs, a, b, c, y0, y1, hL, hl, hc, rfl⟩ N hN
    have lt : y < k := by
      rcases Int.lt_or_le y k with z | z
      · exact z
      · rw [rgI_nil z] at hL; cases hL
    rw [rgI_cons lt, List.map_cons] at hL
    injection hL with e1 e2
    subst e1 e2
    have fin : ∀ (way m : Int), 0 ≤ m → m ≤ 1000000 → N [.deal, iv k, .own true (.list (cs.map .int ++ [.int m])), iv y, iv way, iv m] := fun way m m0 m1 => hN _ ⟨y + 1, cs ++ [m], _, _, _, by omega, by omega, rfl, by rw [List.length_append, hl]; show y.toNat + 1 = _; omega, fun x hx => (List.mem_append.mp hx).elim (hc x) fun w => by rw [List.mem_singleton.mp w]; exact ⟨m0, m1⟩, by rw [List.map_append]; rfl⟩
    refine ⟨show 3 < 6 by decide, rfl, ⟨by decide, by decide⟩, fun way w0 w1 => ⟨show 4 < 6 by decide, rfl, ⟨by decide, by decide⟩, fun m1 a0 a1 => ⟨rfl, ⟨by decide, by decide⟩, fun m2 b0 b1 => ⟨show 2 ≤ 1000000 by decide, ?_⟩⟩⟩⟩
    refine w_ix (ds := [.int m1, .int m2]) (by split <;> decide) (by show (if decide (way = 5) = true then (1 : Int) else 0) < 2; split <;> decide) _ fun d hd => ?_
    have hd : ∃ m : Int, d = .int m ∧ 0 ≤ m ∧ m ≤ 1000000 := by
      simp only [List.mem_cons, List.not_mem_nil, or_false] at hd
      rcases hd with rfl | rfl
      · exact ⟨m1, rfl, a0, by omega⟩
      · exact ⟨m2, rfl, b0, by omega⟩
    obtain ⟨m, rfl, m0, mm⟩ := hd
    refine ⟨show 5 < 6 by decide, iteD (fun c => ?_) (fun c => ?_)⟩
    · have c : 5 < way := c
      refine ⟨by decide, by decide, by decide, rfl, ⟨by decide, by decide⟩, fun n1 c0 c1 => ⟨by decide, by decide, by decide, rfl, ⟨by decide, by decide⟩, fun n2 d0 d1 => ⟨show 2 ≤ 1000000 by decide, ?_⟩⟩⟩
      refine w_ix (ds := [.int (1000000 - n1), .int n2]) (by omega) (by show way - 6 < 2; omega) _ fun d hd => ?_
      have hd : ∃ m : Int, d = .int m ∧ 0 ≤ m ∧ m ≤ 1000000 := by
        simp only [List.mem_cons, List.not_mem_nil, or_false] at hd
        rcases hd with rfl | rfl
        · exact ⟨_, rfl, by omega, by omega⟩
        · exact ⟨n2, rfl, d0, by have d1 : n2 < 1000001 := d1; omega⟩
      obtain ⟨m', rfl, m0', mm'⟩ := hd
      exact ⟨show 5 < 6 by decide, trivial, by rw [List.length_map]; omega, fin way m' m0' mm'⟩
    · exact ⟨trivial, by rw [List.length_map]; omega, fin way m m0 mm⟩
  · rintro e ⟨y, cs, a, b, c, y0, y1, hL, hl, hc, rfl⟩
    have ey : y = k := by
      rcases Int.lt_or_le y k with z | z
      · rw [rgI_cons z] at hL; cases hL
      · omega
    subst ey
    exact h cs hc hl
theorem w_lnumber {ws cs : List Int} {lo hi : Int} (fc : Fw cs) (fw : Fw ws) (lc : cs.length ≤ 1000) (h0 : lo ≤ hi) (Q : SV → Prop) (h : Q (iv (num cs lo hi ws))) : F_law_number [.val (.tuple (ws.map .int)), .val (.tuple (cs.map .int)), iv lo, iv hi] Q := by
  refine ⟨⟨by have := zp_len cs ws; omega, fun i hi => ?_⟩, ?_⟩
  · rcases List.mem_cons.mp hi with rfl | hi
    · trivial
    · rw [List.mem_singleton.mp hi]; trivial
  · refine lc_map mulD _ _ _ (fun d hd K hK => ?_) fun res er => ?_
    · obtain ⟨c, w, hc, hw, rfl⟩ := zp_mem hd
      exact ⟨rfl, show 5 < 7 by decide, show 6 < 7 by decide, rfl, fc.sm hc, fw.sm hw, hK⟩
    · rw [List.nil_append, zp_mul] at er
      subst er
      refine w_sum _ _ ⟨show 4 < 7 by decide, ?_⟩
      have e : min (max (prods cs ws).sum lo) hi = num cs lo hi ws := by unfold num dot; omega
      show Q (iv (min (max (prods cs ws).sum lo) hi))
      rw [e]
      exact h
/-- the law's own share, over (q + p) q ** wide -/
def shI (a : Rat) (n lo hi y : Int) : Int := a.num ^ (y - n).natAbs * (a.den : Int) ^ ((hi - lo).toNat - (y - n).natAbs) * (if y = lo ∨ y = hi then (a.den : Int) else (a.den : Int) - a.num)
def btI (a : Rat) (lo hi : Int) : Int := ((a.den : Int) + a.num) * (a.den : Int) ^ (hi - lo).toNat
theorem rung_div {a : Rat} (s : St a) (c : Int) (f g : Nat) : ((a.num ^ f * (a.den : Int) ^ g * c : Int) : Rat) / ((((a.den : Int) + a.num) * (a.den : Int) ^ (f + g) : Int) : Rat) = ((c : Rat) / (((a.den : Int) + a.num : Int) : Rat)) * a ^ f := by
  obtain ⟨_, _, v0, _⟩ := s.sub
  have e := pow_divI a f
  have qf := cast_ne (show (0 : Int) < (a.den : Int) ^ f from Int.pow_pos (den0 a))
  have qg := cast_ne (show (0 : Int) < (a.den : Int) ^ g from Int.pow_pos (den0 a))
  have qs := cast_ne v0
  rw [← e, Int.pow_add, Rat.intCast_mul, Rat.intCast_mul, Rat.intCast_mul, Rat.intCast_mul]
  generalize ((a.num ^ f : Int) : Rat) = P at *
  generalize (((a.den : Int) ^ f : Int) : Rat) = F at *
  generalize (((a.den : Int) ^ g : Int) : Rat) = G at *
  generalize (((a.den : Int) + a.num : Int) : Rat) = S at *
  grind
theorem sh_div {a : Rat} {n lo hi y : Int} (s : St a) (o : LadOk n lo hi) (h1 : lo ≤ y) (h2 : y ≤ hi) : ((shI a n lo hi y : Int) : Rat) / ((btI a lo hi : Int) : Rat) = ladS a n lo hi y := by
  have o2 := o.ln; have o3 := o.nh
  have e : (hi - lo).toNat = (y - n).natAbs + ((hi - lo).toNat - (y - n).natAbs) := by omega
  unfold shI btI
  rw [show ((a.den : Int) ^ (hi - lo).toNat) = (a.den : Int) ^ ((y - n).natAbs + ((hi - lo).toNat - (y - n).natAbs)) by rw [← e], rung_div s]
  unfold ladS
  by_cases c : y = lo
  · rw [if_pos (.inl c), if_pos c, tl0 s]
    unfold tlR
    rw [if_pos (by omega), show (n - lo).toNat = (y - n).natAbs by omega]
  · by_cases d : y = hi
    · rw [if_pos (.inr d), if_neg c, if_pos d, tl0 s]
      unfold tlR
      rw [if_pos (by omega), show (hi - n).toNat = (y - n).natAbs by omega]
    · rw [if_neg (fun z => z.elim c d), if_neg c, if_neg d, sh0 s]
      rfl
theorem sh_pos {a : Rat} {n lo hi y : Int} (s : St a) : 0 < shI a n lo hi y := by
  obtain ⟨u0, _, _, _⟩ := s.sub
  unfold shI
  refine Int.mul_pos (Int.mul_pos (Int.pow_pos s.num) (Int.pow_pos (den0 a))) ?_
  split
  · exact den0 a
  · exact u0
theorem bt_pos {a : Rat} {lo hi : Int} (s : St a) : 0 < btI a lo hi := by
  obtain ⟨_, _, v0, _⟩ := s.sub
  exact Int.mul_pos v0 (Int.pow_pos (den0 a))
theorem bt_bits {a : Rat} {lo hi : Int} (s : St a) (h : hi - lo ≤ 20) : (btI a lo hi).natAbs < 2 ^ 200 := by
  obtain ⟨_, _, v0, v1⟩ := s.sub
  obtain ⟨q4, p4⟩ := s.q5
  unfold btI
  rw [Int.natAbs_mul, Int.natAbs_pow]
  exact Nat.lt_of_lt_of_le (mul_bits v1 (pow_bits q4 _)) (pow_le (by omega))
theorem w_rungs {a : Rat} {n lo hi : Int} (s : St a) (o : LadOk n lo hi) (ne : lo ≠ hi) (Q : SV → Prop) (h : Q (.val (.tuple [.list ((rgI lo (hi + 1)).map fun y => .int (shI a n lo hi y)), .int (btI a lo hi)]))) : F_law_rungs [frv a, iv n, iv lo, iv hi] Q := by
  have o1 := o.l0; have o2 := o.ln; have o3 := o.nh; have o4 := o.h9
  obtain ⟨u0, u1, v0, v1⟩ := s.sub
  obtain ⟨q4, p4⟩ := s.q5
  refine ⟨rfl, show 4 < 11 by decide, show 5 < 11 by decide, rfl, iteD (fun c => absurd c ne) fun _ => ?_⟩
  refine ⟨show 6 < 11 by decide, show 0 ≤ 1000000 by decide, show 7 < 11 by decide, ⟨by omega, ?_⟩⟩
  show forGo _ _ (rgD lo (hi + 1)) _ _
  rw [rgD_I]
  refine for_inv (fun L e => ∃ (y : Int) (t u v : SV), lo ≤ y ∧ y ≤ hi + 1 ∧ L = (rgI y (hi + 1)).map .int ∧ e = [frv a, iv n, iv lo, iv hi, iv a.num, iv (a.den : Int), iv (hi - lo), .own true (.list ((rgI lo y).map fun y => .int (shI a n lo hi y))), t, u, v]) _ _ ?_ ?_ ?_
  · exact ⟨lo, .no, .no, .no, by omega, by omega, rfl, by rw [rgI_nil (Int.le_refl lo)]; rfl⟩
  · rintro d L e ⟨y, t, u, v, y0, y1, hL, rfl⟩ N hN
    have lt : y < hi + 1 := by
      rcases Int.lt_or_le y (hi + 1) with z | z
      · exact z
      · rw [rgI_nil z] at hL; cases hL
    rw [rgI_cons lt, List.map_cons] at hL
    injection hL with e1 e2
    subst e1 e2
    have bp : (a.num ^ (y - n).natAbs).natAbs < 2 ^ (4 * (y - n).natAbs + 1) := by rw [Int.natAbs_pow]; exact pow_bits p4 _
    have bq : ((a.den : Int) ^ ((hi - lo).toNat - (y - n).natAbs)).natAbs < 2 ^ (4 * ((hi - lo).toNat - (y - n).natAbs) + 1) := by rw [Int.natAbs_pow]; exact pow_bits q4 _
    have bs : (a.num ^ (y - n).natAbs * (a.den : Int) ^ ((hi - lo).toNat - (y - n).natAbs)).natAbs < 2 ^ 200 := by
      rw [Int.natAbs_mul]
      exact Nat.lt_of_lt_of_le (mul_bits bp bq) (pow_le (by omega))
    have nx : ((rgI lo y).map fun y => PyData.int (shI a n lo hi y)) ++ [.int (shI a n lo hi y)] = (rgI lo (y + 1)).map fun y => .int (shI a n lo hi y) := by
      rw [rgI_app (a := lo) (b := y) (c := y + 1) (by omega) (by omega), rgI_one, List.map_append]
      rfl
    have fin : ∀ c : Int, c.natAbs < 2 ^ 5 → c = (if y = lo ∨ y = hi then (a.den : Int) else (a.den : Int) - a.num) → ∀ w z t : SV, (Sm (a.num ^ (y - n).natAbs * (a.den : Int) ^ ((hi - lo).toNat - (y - n).natAbs)) ∧ Sm c ∧ ((rgI lo y).map fun y => PyData.int (shI a n lo hi y)).length < 1000000 ∧ N [frv a, iv n, iv lo, iv hi, iv a.num, iv (a.den : Int), iv (hi - lo), .own true (.list (((rgI lo y).map fun y => PyData.int (shI a n lo hi y)) ++ [.int (a.num ^ (y - n).natAbs * (a.den : Int) ^ ((hi - lo).toNat - (y - n).natAbs) * c)])), w, z, t]) := fun c hc e w z t => by
      refine ⟨sm_of bs (by decide), sm_of hc (by decide), by rw [List.length_map, rgI_len]; omega, hN _ ⟨y + 1, w, z, t, by omega, by omega, rfl, ?_⟩⟩
      have e2 : a.num ^ (y - n).natAbs * (a.den : Int) ^ ((hi - lo).toNat - (y - n).natAbs) * c = shI a n lo hi y := by rw [e]; rfl
      rw [e2, nx]
    have d5 : ((a.den : Int)).natAbs < 2 ^ 5 := by have : (2 : Nat) ^ 5 = 32 := by decide
                                                   have := s.d4
                                                   omega
    refine ⟨show 8 < 11 by decide, show 9 < 11 by decide, rfl, w_lpow (y - n).natAbs (by omega) p4 (by omega) (by omega) _ ⟨rfl, w_lpow ((hi - lo).toNat - (y - n).natAbs) (by omega) q4 (by omega) (by omega) _ ⟨sm_of bp (by omega), sm_of bq (by omega), show 10 < 11 by decide, trivial, show 2 ≤ 1000000 by decide, iteD (fun c => ?_) fun c => ?_⟩⟩⟩
    · exact ix (d := .int (a.den : Int)) rfl (fin _ d5 (by rw [if_pos (.inl c)]) _ _ _)
    · by_cases d : y = hi
      · exact ix (d := .int (a.den : Int)) (by rw [if_pos (decide_eq_true d)]; rfl) (fin _ d5 (by rw [if_pos (.inr d)]) _ _ _)
      · exact ix (d := .int ((a.den : Int) - a.num)) (by rw [if_neg (fun z => d (of_decide_eq_true z))]; rfl) (fin _ u1 (by rw [if_neg (fun z => z.elim c d)]) _ _ _)
  · rintro e ⟨y, t, u, v, y0, y1, hL, rfl⟩
    have ey : y = hi + 1 := by
      rcases Int.lt_or_le y (hi + 1) with z | z
      · rw [rgI_cons z] at hL; cases hL
      · omega
    subst ey
    have bq : ((a.den : Int) ^ (hi - lo).toNat).natAbs < 2 ^ (4 * (hi - lo).toNat + 1) := by rw [Int.natAbs_pow]; exact pow_bits q4 _
    exact ⟨rfl, w_lpow (hi - lo).toNat (by omega) q4 (by omega) (by omega) _ ⟨sm_of v1 (by decide), sm_of bq (by omega), show 2 ≤ 1000000 by decide, h⟩⟩
theorem w_rungs1 {a : Rat} {n lo : Int} (Q : SV → Prop) (h : Q (.val (.tuple [.list [.int 1], .int 1]))) : F_law_rungs [frv a, iv n, iv lo, iv lo] Q := by
  refine ⟨rfl, show 4 < 11 by decide, show 5 < 11 by decide, rfl, iteD (fun _ => ?_) fun c => absurd rfl c⟩
  exact ⟨show 1 ≤ 1000000 by decide, show 2 ≤ 1000000 by decide, h⟩
theorem w_table {f : Int → Int} {lo hi b : Int} (f0 : ∀ y, 0 < f y) (b0 : 0 < b) (bb : b.natAbs < 2 ^ 200) (hh : hi - lo ≤ 20) (Q : SV → Prop) (h : Q (.val (.tuple ((rgI lo (hi + 1)).map fun y => en (y, (f y : Rat) / (b : Rat)))))) : F_law_table [.val (.list ((rgI lo (hi + 1)).map fun y => .int (f y))), iv b, iv lo] Q := by
  refine ⟨show 0 ≤ 1000000 by decide, show 3 < 6 by decide, ?_⟩
  show forGo _ _ (enD 0 ((rgI lo (hi + 1)).map fun y => .int (f y))) _ _
  by_cases le : lo ≤ hi + 1
  · refine for_inv (fun L e => ∃ (j : Nat) (t u : SV), lo + j ≤ hi + 1 ∧ L = enD j ((rgI (lo + j) (hi + 1)).map fun y => .int (f y)) ∧ e = [.val (.list ((rgI lo (hi + 1)).map fun y => .int (f y))), iv b, iv lo, .own true (.list ((rgI lo (lo + j)).map fun y => en (y, (f y : Rat) / (b : Rat)))), t, u]) _ _ ?_ ?_ ?_
    · refine ⟨0, .no, .no, by omega, by rw [show lo + ((0 : Nat) : Int) = lo by omega], ?_⟩
      rw [rgI_nil (b := lo + ((0 : Nat) : Int)) (by omega)]
      rfl
    · rintro d L e ⟨j, t, u, hj, hL, rfl⟩ N hN
      have lt : lo + j < hi + 1 := by
        rcases Int.lt_or_le (lo + j) (hi + 1) with z | z
        · exact z
        · rw [rgI_nil z] at hL; cases hL
      rw [rgI_cons lt, List.map_cons, enD] at hL
      injection hL with e1 e2
      subst e1 e2
      refine ⟨rfl, show 4 < 6 by decide, show 5 < 6 by decide, rfl, iteD (fun _ => ?_) fun c => absurd (f0 _) c⟩
      refine ⟨trivial, rfl, w_llowest (n := 200) (Int.le_of_lt (f0 _)) b0 bb (by decide) _ ⟨show 2 ≤ 1000000 by decide, by rw [List.length_map, rgI_len]; omega, hN _ ⟨j + 1, iv j, iv (f (lo + j)), by omega, by rw [show lo + ((j + 1 : Nat) : Int) = lo + j + 1 by omega], ?_⟩⟩⟩
      rw [show lo + ((j + 1 : Nat) : Int) = lo + j + 1 by omega, rgI_app (a := lo) (b := lo + j) (c := lo + j + 1) (by omega) (by omega), rgI_one, List.map_append]
      rfl
    · rintro e ⟨j, t, u, hj, hL, rfl⟩
      have ej : lo + j = hi + 1 := by
        rcases Int.lt_or_le (lo + j) (hi + 1) with z | z
        · rw [rgI_cons z] at hL; cases hL
        · omega
      rw [ej]
      exact h
  · rw [rgI_nil (by omega)] at h ⊢
    exact h
theorem lay_en (p : Int × Rat) : Lay 2 (en p) := lay_pair lay_int (lay_fr _)
theorem tx_en {p : Int × Rat} {n : Nat} (h : p.1.natAbs < 2 ^ 40) (s : Sz n p.2) (hn : n ≤ 1900) : Pq.Tx 8006 (en p) := by
  refine (tx_tup (n := 4000) fun d hd => ?_).mono (show 2 * (4000 + 2) + 2 ≤ 8006 by decide)
  rcases List.mem_cons.mp hd with rfl | hd
  · exact (tx_int (log_bits h (by decide))).mono (by decide)
  · rw [List.mem_singleton.mp hd]
    exact tx_fr s hn
theorem num_le' {cs : List Int} {lo hi : Int} {ws : List Int} (h : lo ≤ hi) : lo ≤ num cs lo hi ws ∧ num cs lo hi ws ≤ hi := by unfold num; omega
theorem lad_due {a : Rat} {n lo hi : Int} (s : St a) (o : LadOk n lo hi) : Lay 3 (.tuple ((ladL a n lo hi).map en)) ∧ Pq.Tx 200000 (.tuple ((ladL a n lo hi).map en)) := by
  have o1 := o.l0; have o2 := o.ln; have o3 := o.nh; have o4 := o.h9
  have p40 : (2 : Nat) ^ 40 = 1099511627776 := by decide
  refine ⟨lay_tup fun d hd => ?_, ?_⟩
  · obtain ⟨p, _, rfl⟩ := List.mem_map.mp hd
    exact lay_en p
  · refine (tx_tup (n := 8006) fun d hd => ?_).mono ?_
    · obtain ⟨p, hp, rfl⟩ := List.mem_map.mp hd
      unfold ladL at hp
      split at hp
      · rw [List.mem_singleton.mp hp]
        exact tx_en (n := 10) (by show lo.natAbs < _; omega) ⟨show 1 < 2 ^ 10 by decide, show 1 < 2 ^ 10 by decide⟩ (by decide)
      · obtain ⟨y, hy, rfl⟩ := List.mem_map.mp hp
        have := mem_rgI.mp hy
        exact tx_en (n := 200) (by show y.natAbs < _; omega) (sz_ladS s o (by omega) (by omega)) (by decide)
    · have l : (ladL a n lo hi).length ≤ 21 := by
        unfold ladL
        split
        · show 1 ≤ 21; decide
        · rw [List.length_map, rgI_len]; omega
      rw [List.length_map]
      have := Nat.mul_le_mul_right (8006 + 2) l
      omega
end Lb

set_option Elab.async false
set_option linter.all false
set_option maxRecDepth 100000
set_option maxHeartbeats 4000000
set_option pp.maxSteps 600
namespace Lb
open PySem PySem.Spec PyProof.Rows L2 Pq
/-! ### the laws' own table, noughts left out -/
def tabG (b : Int) : Int → List Int → List Da
  | _, [] => []
  | k, s :: r => if 0 < s then en (k, (s : Rat) / (b : Rat)) :: tabG b (k + 1) r else tabG b (k + 1) r
theorem w_tableG {S : List Int} {b first : Int} {n : Nat} (s0 : ∀ x ∈ S, 0 ≤ x) (b0 : 0 < b) (bb : b.natAbs < 2 ^ n) (hn : n ≤ 8999) (hl : S.length ≤ 1000) (Q : SV → Prop) (h : Q (.val (.tuple (tabG b first S)))) : F_law_table [.val (.list (S.map .int)), iv b, iv first] Q := by
  refine ⟨show 0 ≤ 1000000 by decide, show 3 < 6 by decide, ?_⟩
  show forGo _ _ (enD 0 (S.map .int)) _ _
  refine for_inv (fun L e => ∃ (j : Nat) (R : List Int) (acc : List Da) (t u : SV), (∀ x ∈ R, 0 ≤ x) ∧ L = enD j (R.map .int) ∧ acc.length + R.length ≤ 1000 ∧ acc ++ tabG b (first + j) R = tabG b first S ∧ e = [.val (.list (S.map .int)), iv b, iv first, .own true (.list acc), t, u]) _ _ ?_ ?_ ?_
  · exact ⟨0, S, [], .no, .no, s0, rfl, by simpa using hl, by rw [show first + ((0 : Nat) : Int) = first by omega]; rfl, rfl⟩
  · rintro d L e ⟨j, R, acc, t, u, hR, hL, hl, ha, rfl⟩ N hN
    cases R with
    | nil => cases hL
    | cons s R =>
      rw [List.map_cons, enD] at hL
      injection hL with e1 e2
      subst e1 e2
      rw [List.length_cons] at hl
      rw [tabG] at ha
      refine ⟨rfl, show 4 < 6 by decide, show 5 < 6 by decide, rfl, iteD (fun c => ?_) fun c => ?_⟩
      · rw [if_pos c] at ha
        refine ⟨trivial, rfl, w_llowest (n := n) (hR s List.mem_cons_self) b0 bb hn _ ⟨show 2 ≤ 1000000 by decide, by omega, hN _ ⟨j + 1, R, acc ++ [en (first + j, (s : Rat) / (b : Rat))], iv j, iv s, fun x hx => hR x (List.mem_cons_of_mem _ hx), rfl, by rw [List.length_append]; show acc.length + 1 + R.length ≤ 1000; omega, ?_, rfl⟩⟩⟩
        rw [show first + ((j + 1 : Nat) : Int) = first + j + 1 by omega, List.append_assoc]
        exact ha
      · rw [if_neg c] at ha
        refine hN _ ⟨j + 1, R, acc, iv j, iv s, fun x hx => hR x (List.mem_cons_of_mem _ hx), rfl, by omega, ?_, rfl⟩
        rw [show first + ((j + 1 : Nat) : Int) = first + j + 1 by omega]
        exact ha
  · rintro e ⟨j, R, acc, t, u, hR, hL, hl, ha, rfl⟩
    cases R with
    | cons s R => cases hL
    | nil =>
      rw [tabG, List.append_nil] at ha
      rw [ha]
      exact h
/-! ### flat throws -/
def cutI (n lo hi : Int) : Int := max lo (min hi n)
/-- how many of us lead to y -/
def cnt (n lo hi : Int) (us : List Int) (y : Int) : Nat := (us.filter fun u => decide (cutI (n + u) lo hi = y)).length
def flL (r n lo hi : Int) : Pr := (rgI (0 - r) (r + 1)).map fun u => (cutI (n + u) lo hi, (1 : Rat) / ((2 * r + 1 : Int) : Rat))
theorem fr_one {d : Int} (h : 0 < d) : fr ((1 : Rat) / (d : Rat)) = .tuple [.int 1, .int d] := by
  have e := fr_div (a := 1) h
  rw [Rat.intCast_one] at e
  rw [e]
  have g : Int.gcd 1 d = 1 := Int.one_gcd
  rw [g]
  simp
theorem sumAt_cnt (n lo hi : Int) (q : Rat) (y : Int) : ∀ us : List Int, sumAt (us.map fun u => (cutI (n + u) lo hi, q)) y = ((cnt n lo hi us y : Nat) : Rat) * q
  | [] => by show (0 : Rat) = ((0 : Nat) : Rat) * q; simp
  | u :: us => by
    rw [List.map_cons, sumAt, sumAt_cnt n lo hi q y us]
    unfold cnt
    by_cases c : cutI (n + u) lo hi = y
    · rw [if_pos c, List.filter_cons, if_pos (decide_eq_true c), List.length_cons, Rat.natCast_add]
      have : ((1 : Nat) : Rat) = 1 := rfl
      rw [this]
      grind
    · rw [if_neg c, List.filter_cons, if_neg (by rw [decide_eq_false c]; exact Bool.false_ne_true), Rat.zero_add]
theorem tabG_map (f : Int → Int) (b : Int) : ∀ (n : Nat) (lo h : Int), (h - lo).toNat = n → tabG b lo ((rgI lo h).map f) = ((rgI lo h).filter fun y => decide (0 < f y)).map fun y => en (y, (f y : Rat) / (b : Rat))
  | 0, lo, h, e => by rw [rgI_nil (by omega)]; rfl
  | n + 1, lo, h, e => by
    rw [rgI_cons (by omega), List.map_cons, tabG, tabG_map f b n (lo + 1) h (by omega), List.filter_cons]
    by_cases c : 0 < f lo
    · rw [if_pos c, if_pos (decide_eq_true c), List.map_cons]
    · rw [if_neg c, if_neg (by rw [decide_eq_false c]; exact Bool.false_ne_true)]
theorem cnt_le (n lo hi : Int) (us : List Int) (y : Int) : cnt n lo hi us y ≤ us.length := List.length_filter_le _ _
theorem cnt_pos {n lo hi : Int} {us : List Int} {y : Int} : 0 < cnt n lo hi us y ↔ ∃ u ∈ us, cutI (n + u) lo hi = y := by
  unfold cnt
  rw [List.length_pos_iff_exists_mem]
  constructor
  · rintro ⟨u, hu⟩
    obtain ⟨a, b⟩ := List.mem_filter.mp hu
    exact ⟨u, a, of_decide_eq_true b⟩
  · rintro ⟨u, a, b⟩
    exact ⟨u, List.mem_filter.mpr ⟨a, decide_eq_true b⟩⟩
/-- what a flat throw tells -/
def flT (r n lo hi : Int) : List Da := ((rgI lo (hi + 1)).filter fun y => decide (0 < (cnt n lo hi (rgI (0 - r) (r + 1)) y : Int))).map fun y => en (y, (((cnt n lo hi (rgI (0 - r) (r + 1)) y : Nat) : Int) : Rat) / ((2 * r + 1 : Int) : Rat))
theorem cnt_q {c : Nat} {d : Int} (h : 0 < d) : (c : Rat) * ((1 : Rat) / (d : Rat)) = (((c : Nat) : Int) : Rat) / (d : Rat) := by
  have e : (((c : Nat) : Int) : Rat) = (c : Rat) := Rat.intCast_natCast c
  have d0 := cast_ne h
  rw [e]
  grind
theorem w_flat {r n lo hi : Int} (r0 : 0 ≤ r) (r1 : r ≤ 20) (h0 : lo ≤ hi) (h1 : hi - lo ≤ 30) (Q : SV → Prop) (h : Q (.val (.tuple (flT r n lo hi)))) : F_flat [iv r, iv n, iv lo, iv hi] Q := by
  have d0 : (0 : Int) < 2 * r + 1 := by omega
  have p10 : (2 : Nat) ^ 10 = 1024 := by decide
  have b10 : r.natAbs < 2 ^ 10 := by omega
  have len : (rgI (0 - r) (r + 1)).length ≤ 41 := by rw [rgI_len]; omega
  refine ⟨⟨by omega, by omega, by omega, by omega⟩, ⟨⟨?_, fun i hi => ?_⟩, ?_⟩⟩
  · show (rgD (0 - r) (r + 1)).length ≤ 1000000
    rw [rgD_I, List.length_map]; omega
  · rw [List.mem_singleton.mp hi]; trivial
  · show lcGo _ _ _ _ (rgD (0 - r) (r + 1)) _ _
    rw [rgD_I]
    refine lc_map (fun d => match d with | .int u => en (cutI (n + u) lo hi, (1 : Rat) / ((2 * r + 1 : Int) : Rat)) | _ => .none) _ _ _ (fun d hd K hK => ?_) fun res er => ?_
    · obtain ⟨u, hu, rfl⟩ := List.mem_map.mp hd
      refine ⟨show 4 < 5 by decide, rfl, w_cut _ ⟨sm_of (n := 3) (by decide) (by decide), sm_of (n := 10) b10 (by decide), show 2 ≤ 1000000 by decide, show 2 ≤ 1000000 by decide, ?_⟩⟩
      have e : en (cutI (n + u) lo hi, (1 : Rat) / ((2 * r + 1 : Int) : Rat)) = .tuple [.int (max lo (min hi (n + u))), .tuple [.int 1, .int (2 * r + 1)]] := by
        unfold en
        rw [fr_one d0]
        rfl
      dsimp only at hK
      rw [e] at hK
      exact hK
    · have e1 : res = (flL r n lo hi).map en := by
        rw [er, List.nil_append, List.map_map]
        unfold flL
        rw [List.map_map]
        rfl
      subst e1
      have cpos : (0 : Rat) ≤ (1 : Rat) / ((2 * r + 1 : Int) : Rat) := by
        have := div0 (a := 1) (by decide) d0
        rw [Rat.intCast_one] at this
        exact this
      have p10 : (2 : Nat) ^ 10 = 1024 := by decide
      have szc : ∀ c : Nat, c ≤ 41 → Sz 10 (((c : Nat) : Rat) * ((1 : Rat) / ((2 * r + 1 : Int) : Rat))) := fun c hc => by
        rw [cnt_q d0]
        exact sz_divInt (by omega) (by omega) d0
      refine ⟨rfl, w_merged (L := flL r n lo hi) (K := (rgI lo (hi + 1)).filter fun y => decide (0 < (cnt n lo hi (rgI (0 - r) (r + 1)) y : Int))) (n := 10) (m := 10) (fun p hp => ?_) (fun p hp => ?_) (fun i y => ?_) (by decide) (by unfold flL; rw [List.length_map]; omega) ((rgI_pw _ _ _ rfl).filter _) (fun y => ?_) _ ?_⟩
      · obtain ⟨u, _, rfl⟩ := List.mem_map.mp hp
        exact cpos
      · obtain ⟨u, _, rfl⟩ := List.mem_map.mp hp
        have := szc 1 (by decide)
        have e : ((1 : Nat) : Rat) = 1 := rfl
        rw [e, Rat.one_mul] at this
        exact this
      · unfold flL
        rw [← List.map_take, sumAt_cnt]
        exact szc _ (Nat.le_trans (cnt_le _ _ _ _ _) (Nat.le_trans (by rw [List.length_take]; omega) len))
      · rw [List.mem_filter, decide_eq_true_iff, mem_rgI]
        unfold flL
        rw [List.map_map]
        constructor
        · rintro ⟨a, b⟩
          obtain ⟨u, hu, e⟩ := cnt_pos.mp (show 0 < cnt n lo hi (rgI (0 - r) (r + 1)) y by omega)
          exact List.mem_map.mpr ⟨u, hu, e⟩
        · intro z
          obtain ⟨u, hu, e⟩ := List.mem_map.mp z
          have e : cutI (n + u) lo hi = y := e
          have := cnt_pos.mpr ⟨u, hu, e⟩
          unfold cutI at e
          exact ⟨by omega, by omega⟩
      · have e2 : mgT (flL r n lo hi) ((rgI lo (hi + 1)).filter fun y => decide (0 < (cnt n lo hi (rgI (0 - r) (r + 1)) y : Int))) = flT r n lo hi := by
          unfold mgT flT flL
          rw [List.filter_eq_self.mpr (fun y hy => ?_)]
          · apply List.map_congr_left
            intro y hy
            rw [sumAt_cnt, cnt_q d0]
          · rw [sumAt_cnt, cnt_q d0]
            obtain ⟨_, c⟩ := List.mem_filter.mp hy
            have c := of_decide_eq_true c
            refine decide_eq_true (Rat.ne_of_gt ?_)
            rw [Rat.lt_div_iff (cast_pos d0), Rat.zero_mul]
            exact cast_pos c
        rw [e2]
        exact h
end Lb

set_option Elab.async false
set_option linter.all false
set_option maxRecDepth 100000
set_option maxHeartbeats 4000000
set_option pp.maxSteps 600
namespace Lb
open PySem PySem.Spec PyProof.Rows L2 Pq
def flRow (nm : Str) (ws : List Int) (r lo hi : Int) : Da := .tuple [.str "flat", .str nm, .tuple (ws.map .int), .int r, .int lo, .int hi]
theorem fl_row {nm : Str} {ws : List Int} {r lo hi : Int} : RowI (flRow nm ws r lo hi) lo hi [ws] := by
  refine ⟨fun Q h => ?_, fun Q h => ?_⟩
  · exact ix rfl (ix rfl (ix rfl ⟨show 2 ≤ 1000000 by decide, h⟩))
  · exact ix rfl (ix rfl (ix rfl ⟨show 1 ≤ 1000000 by decide, h⟩))
theorem w_thrown_fl {nm : Str} {ws cs : List Int} {r lo hi : Int} (r0 : 0 ≤ r) (r1 : r ≤ 20) (h1 : lo ≤ hi) (h2 : hi - lo ≤ 30) (fc : Fw cs) (fw : Fw ws) (lc : cs.length ≤ 1000) (Q : SV → Prop) (h : Q (.val (.tuple (flT r (num cs lo hi ws) lo hi)))) : F_thrown [.val (flRow nm ws r lo hi), .val (.tuple (cs.map .int))] Q := by
  refine ⟨rfl, w_number_of fl_row fc (fun w hw => by rw [List.mem_singleton.mp hw]; exact fw) lc (show 1 ≤ 1000 by decide) _ ⟨show 2 < 5 by decide, ?_⟩⟩
  exact ix rfl (ix rfl (ix rfl (ix rfl (ix rfl (ix rfl ⟨rfl, w_flat r0 r1 h1 h2 _ h⟩)))))
/-! ### choosing -/
def chRow (nm : Str) (S : List (List Int)) (a : Rat) (lo hi : Int) : Da := .tuple [.str "choose", .str nm, .tuple (S.map fun ws => .tuple (ws.map .int)), fr a, .int lo, .int hi]
theorem ch_row {nm : Str} {S : List (List Int)} {a : Rat} {lo hi : Int} : RowI (chRow nm S a lo hi) lo hi S := by
  refine ⟨fun Q h => ?_, fun Q h => ?_⟩
  · exact ix rfl (ix rfl (ix rfl ⟨show 2 ≤ 1000000 by decide, h⟩))
  · exact ix rfl (ix rfl h)
/-- the turned steepness, as a fraction -/
theorem fr_inv {a : Rat} (s : St a) : fr a⁻¹ = .tuple [.int (a.den : Int), .int a.num] := by
  have n0 := s.num
  unfold fr
  rw [Rat.num_inv, Rat.den_inv, if_neg (by omega), Int.sign_eq_one_of_pos n0, Int.one_mul, Int.natAbs_of_nonneg (by omega)]
theorem sz_inv {a : Rat} (s : St a) : Sz 4 a⁻¹ := by
  have n0 := s.num
  have n4 := s.n4
  have d4 := s.d4
  refine ⟨?_, ?_⟩
  · rw [Rat.num_inv, Int.sign_eq_one_of_pos n0, Int.one_mul, Int.natAbs_natCast]; exact d4
  · rw [Rat.den_inv, if_neg (by omega)]
    show a.num.natAbs < 16
    omega
theorem inv_pos {a : Rat} (s : St a) : 0 < a⁻¹ := Rat.inv_pos.mpr s.p0
def chS (a : Rat) (ns : List Int) : List Rat := ns.map fun n => a⁻¹ ^ n.toNat
def sumR : List Rat → Rat
  | [] => 0
  | q :: r => q + sumR r
theorem sumR_snoc (q : Rat) : ∀ L : List Rat, sumR (L ++ [q]) = sumR L + q
  | [] => by show q + 0 = 0 + q; rw [Rat.add_zero, Rat.zero_add]
  | p :: r => by
    show p + sumR (r ++ [q]) = _
    rw [sumR_snoc q r, ← Rat.add_assoc]
    rfl
theorem sumR_ge : ∀ L : List Rat, (∀ q ∈ L, 0 < q) → 0 ≤ sumR L
  | [], _ => Rat.le_refl
  | p :: r, h => Rat.add_nonneg (Rat.le_of_lt (h p List.mem_cons_self)) (sumR_ge r fun q hq => h q (List.mem_cons_of_mem _ hq))
theorem sumR_pos {L : List Rat} (h : ∀ q ∈ L, 0 < q) (hl : L ≠ []) : 0 < sumR L := by
  cases L with
  | nil => exact absurd rfl hl
  | cons p r =>
    have a := h p List.mem_cons_self
    have b := sumR_ge r fun q hq => h q (List.mem_cons_of_mem _ hq)
    show 0 < p + sumR r
    grind
theorem sz_sumR {n : Nat} : ∀ L : List Rat, (∀ q ∈ L, Sz n q) → Sz ((n + 1) * L.length + 1) (sumR L)
  | [], _ => ⟨by show (0 : Nat) < _; exact Nat.two_pow_pos _, by show 1 < 2 ^ _; exact Nat.one_lt_two_pow (by omega)⟩
  | p :: r, h => by
    have a := (h p List.mem_cons_self).add (sz_sumR r fun q hq => h q (List.mem_cons_of_mem _ hq))
    refine a.mono ?_
    rw [List.length_cons, Nat.mul_succ]
    omega
theorem fr_invP {q : Rat} (h : 0 < q) : fr q⁻¹ = .tuple [.int (q.den : Int), .int q.num] ∧ 0 < q.num := by
  have n0 : 0 < q.num := by
    have h1 := Rat.num_nonneg.mpr (Rat.le_of_lt h)
    have h2 : q.num ≠ 0 := fun z => by
      have z2 := Rat.num_eq_zero.mp z
      rw [z2] at h
      exact absurd h (by decide)
    omega
  refine ⟨?_, n0⟩
  unfold fr
  rw [Rat.num_inv, Rat.den_inv, if_neg (by omega), Int.sign_eq_one_of_pos n0, Int.one_mul, Int.natAbs_of_nonneg (by omega)]
theorem sz_invP {q : Rat} {n : Nat} (h : 0 < q) (s : Sz n q) : Sz n q⁻¹ := by
  have n0 := (fr_invP h).2
  refine ⟨?_, ?_⟩
  · rw [Rat.num_inv, Int.sign_eq_one_of_pos n0, Int.one_mul, Int.natAbs_natCast]; exact s.2
  · rw [Rat.den_inv, if_neg (by omega)]; exact s.1
theorem w_powInv {a : Rat} (s : St a) {j : Int} (h0 : 0 ≤ j) (h1 : j ≤ 20) (Q : SV → Prop) (h : Q (frv (a⁻¹ ^ j.toNat))) : F_power [.val (.tuple [.int (a.den : Int), .int a.num]), iv j] Q := by
  rw [← fr_inv s]
  exact w_powI j.toNat (by omega) (sz_inv s) (by omega) (by omega) Q h
def enF (w : Rat) : Da → Da
  | .dict [(_, .int k), (_, .tuple [.int t, .int b])] => en (k, (t : Rat) / (b : Rat) * w)
  | _ => .none
theorem enF_fr (w : Rat) (k : Int) (q : Rat) : enF w (.dict [(.bool true, .int k), (.bool true, fr q)]) = en (k, q * w) := by
  show en (k, (q.num : Rat) / ((q.den : Int) : Rat) * w) = _
  rw [num_div_den]
theorem en_map (w : Rat) : ∀ (S : List Rat) (j : Nat), (enD j (S.map fr)).map (enF w) = (rgI j (j + S.length)).map fun k => en (k, S.getD (k - j).toNat 0 * w)
  | [], j => by rw [rgI_nil (by simp)]; rfl
  | q :: S, j => by
    rw [List.map_cons, enD, List.map_cons, enF_fr, en_map w S (j + 1), rgI_cons (a := (j : Int)) (b := (j : Int) + ((q :: S).length : Nat)) (by rw [List.length_cons]; omega), List.map_cons]
    congr 1
    · rw [show ((j : Int) - j).toNat = 0 by omega]; rfl
    · rw [show ((j + 1 : Nat) : Int) = (j : Int) + 1 by omega, show (j : Int) + 1 + (S.length : Int) = (j : Int) + ((q :: S).length : Nat) by rw [List.length_cons]; omega]
      apply List.map_congr_left
      intro k hk
      have := mem_rgI.mp hk
      rw [show (k - (j : Int)).toNat = (k - ((j : Int) + 1)).toNat + 1 by omega, List.getD_cons_succ]
def chT (a : Rat) (ns : List Int) : List Da := (rgI 0 ns.length).map fun k => en (k, (chS a ns).getD k.toNat 0 * (sumR (chS a ns))⁻¹)
end Lb

set_option Elab.async false
set_option linter.all false
set_option maxRecDepth 100000
set_option maxHeartbeats 4000000
set_option pp.maxSteps 600
namespace Lb
open PySem PySem.Spec PyProof.Rows L2 Pq
def invD (a : Rat) : Da → Da
  | .int n => fr (a⁻¹ ^ n.toNat)
  | _ => .none
theorem ch_pos {a : Rat} (s : St a) {ns : List Int} : ∀ q ∈ chS a ns, 0 < q := fun q hq => by
  obtain ⟨n, _, rfl⟩ := List.mem_map.mp hq
  exact Rat.pow_pos (inv_pos s)
theorem ch_sz {a : Rat} (s : St a) {ns : List Int} (h : ∀ n ∈ ns, 0 ≤ n ∧ n ≤ 20) : ∀ q ∈ chS a ns, Sz 81 q := fun q hq => by
  obtain ⟨n, hn, rfl⟩ := List.mem_map.mp hq
  have := h n hn
  exact ((sz_inv s).pow _).mono (by omega)
theorem w_chosen {a : Rat} {ns : List Int} (s : St a) (h : ∀ n ∈ ns, 0 ≤ n ∧ n ≤ 20) (ne : ns ≠ []) (hl : ns.length ≤ 5) (Q : SV → Prop) (hq : Q (.val (.tuple (chT a ns)))) : F_chosen [frv a, .val (.tuple (ns.map .int))] Q := by
  have cp := ch_pos s (ns := ns)
  have cz := ch_sz s h
  have cl : (chS a ns).length = ns.length := by unfold chS; rw [List.length_map]
  have cne : chS a ns ≠ [] := fun z => ne (List.map_eq_nil_iff.mp z)
  have wp := sumR_pos cp cne
  have wz : Sz 420 (sumR (chS a ns)) := (sz_sumR _ cz).mono (by rw [cl]; omega)
  refine ⟨rfl, show 2 < 9 by decide, show 3 < 9 by decide, rfl, ⟨by rw [List.length_map]; omega, fun i hi => ?_⟩, ?_⟩
  · rw [List.mem_singleton.mp hi]; trivial
  · refine lc_map (invD a) _ _ _ (fun d hd K hK => ?_) fun res er => ?_
    · obtain ⟨n, hn, rfl⟩ := List.mem_map.mp hd
      obtain ⟨n0, n1⟩ := h n hn
      exact ⟨show 7 < 9 by decide, show 2 ≤ 1000000 by decide, rfl, w_powInv s n0 n1 _ hK⟩
    · have e1 : res = (chS a ns).map fr := by
        rw [er, List.nil_append, List.map_map]
        unfold chS
        rw [List.map_map]
        rfl
      subst e1
      refine ⟨show 4 < 9 by decide, show 2 ≤ 1000000 by decide, show 5 < 9 by decide, ?_⟩
      show forGo _ _ ((chS a ns).map fr) _ _
      refine for_inv (fun L e => ∃ (done rest : List Rat) (t : SV), chS a ns = done ++ rest ∧ L = rest.map fr ∧ (∀ b d, t ≠ .own b d) ∧ e = [frv a, .val (.tuple (ns.map .int)), iv a.num, iv (a.den : Int), .val (.list ((chS a ns).map fr)), frv (sumR done), t, .no, .no]) _ _ ⟨[], chS a ns, .no, rfl, rfl, (fun _ _ z => by cases z), rfl⟩ ?_ ?_
      · rintro d L e ⟨done, rest, t, hd, hL, ht, rfl⟩ N hN
        cases rest with
        | nil => cases hL
        | cons q rest =>
          rw [List.map_cons] at hL
          injection hL with e1 e2
          subst e1 e2
          have hm : q ∈ chS a ns := by rw [hd]; exact List.mem_append_right _ List.mem_cons_self
          have sd : ∀ x ∈ done, x ∈ chS a ns := fun x hx => by rw [hd]; exact List.mem_append_left _ hx
          have ld : done.length ≤ 5 := by
            have := congrArg List.length hd
            rw [cl, List.length_append] at this
            omega
          refine ⟨show 6 < 9 by decide, rfl, w_added (n := 420) (m := 81) (sumR_ge _ fun x hx => cp x (sd x hx)) (Rat.le_of_lt (cp q hm)) ((sz_sumR done fun x hx => cz x (sd x hx)).mono (by omega)) (cz q hm) (by decide) _ ⟨show 5 < 9 by decide, hN _ ⟨done ++ [q], rest, frv q, by rw [hd, List.append_assoc]; rfl, rfl, (fun _ _ z => by cases z), ?_⟩⟩⟩
          rw [sumR_snoc]
          rfl
      · rintro e ⟨done, rest, t, hd, hL, ht, rfl⟩
        have hr : rest = [] := List.map_eq_nil_iff.mp hL.symm
        subst hr
        rw [List.append_nil] at hd
        rw [← hd]
        obtain ⟨ei, _⟩ := fr_invP wp
        have el : (enD 0 ((chS a ns).map fr)).length = ns.length := by
          have := congrArg List.length (en_map 1 (chS a ns) 0)
          rw [List.length_map, List.length_map, rgI_len, cl] at this
          omega
        refine ⟨⟨by rw [el]; omega, fun i hi => ?_⟩, ?_⟩
        · rcases List.mem_cons.mp hi with rfl | hi
          · trivial
          · rw [List.mem_singleton.mp hi]
            cases t with
            | own b d => exact absurd rfl (ht b d)
            | _ => trivial
        · refine lc_map (enF (sumR (chS a ns))⁻¹) _ _ _ (fun d hd K hK => ?_) fun res er => ?_
          · obtain ⟨i, hi⟩ := List.getElem?_of_mem hd
            obtain ⟨e', he, rfl⟩ := enD_get hi
            rw [List.getElem?_map] at he
            cases hc : (chS a ns)[i]? with
            | none => rw [hc] at he; cases he
            | some q =>
              rw [hc] at he
              cases he
              have hm := List.mem_of_getElem? hc
              rw [enF_fr] at hK
              refine ⟨rfl, show 8 < 9 by decide, show 6 < 9 by decide, rfl, ix rfl (ix rfl ⟨show 2 ≤ 1000000 by decide, rfl, ?_⟩)⟩
              have tm : ∀ Q2 : SV → Prop, Q2 (frv (q * (sumR (chS a ns))⁻¹)) → F_times [frv q, .val (.tuple [.int ((sumR (chS a ns)).den : Int), .int (sumR (chS a ns)).num])] Q2 := fun Q2 h2 => by
                rw [← ei]
                exact w_times (n := 81) (m := 420) (Rat.le_of_lt (cp q hm)) (Rat.le_of_lt (Rat.inv_pos.mpr wp)) (cz q hm) (sz_invP wp wz) (by decide) Q2 h2
              exact tm _ ⟨show 2 ≤ 1000000 by decide, hK⟩
          · have e2 : res = (rgI 0 ns.length).map fun k => en (k, (chS a ns).getD k.toNat 0 * (sumR (chS a ns))⁻¹) := by
              rw [er, List.nil_append, en_map, cl]
              rw [show ((0 : Nat) : Int) + (ns.length : Int) = (ns.length : Int) by omega]
              apply List.map_congr_left
              intro k _
              rw [show k - ((0 : Nat) : Int) = k by omega]
            subst e2
            have at_ : ∀ k : Int, k ∈ rgI 0 ns.length → (chS a ns).getD k.toNat 0 ∈ chS a ns := fun k hk => by
              have := mem_rgI.mp hk
              have hk2 : k.toNat < (chS a ns).length := by rw [cl]; omega
              rw [List.getD_eq_getElem?_getD, List.getElem?_eq_getElem hk2]
              exact List.getElem_mem hk2
            refine ⟨rfl, w_mergedF (f := fun k => (chS a ns).getD k.toNat 0 * (sumR (chS a ns))⁻¹) (n := 501) (rgI_pw _ _ _ rfl) (fun y hy => Rat.mul_pos (cp _ (at_ y hy)) (Rat.inv_pos.mpr wp)) (fun y hy => (cz _ (at_ y hy)).mul (sz_invP wp wz)) (by decide) (by rw [rgI_len]; omega) _ hq⟩
theorem w_thrown_ch {nm : Str} {S : List (List Int)} {cs : List Int} {a : Rat} {lo hi : Int} (s : St a) (h0 : 0 ≤ lo) (h1 : lo ≤ hi) (h2 : hi ≤ 20) (fc : Fw cs) (fs : ∀ ws ∈ S, Fw ws) (lc : cs.length ≤ 1000) (ne : S ≠ []) (ls : S.length ≤ 5) (Q : SV → Prop) (h : Q (.val (.tuple (chT a (S.map fun ws => num cs lo hi ws))))) : F_thrown [.val (chRow nm S a lo hi), .val (.tuple (cs.map .int))] Q := by
  refine ⟨rfl, w_number_of ch_row fc fs lc (by omega) _ ⟨show 2 < 5 by decide, ?_⟩⟩
  have e : (S.map fun ws => PyData.int (num cs lo hi ws)) = (S.map fun ws => num cs lo hi ws).map .int := by rw [List.map_map]; rfl
  rw [e]
  refine ix rfl (ix rfl (ix rfl (ix rfl ⟨rfl, w_chosen s (fun n hn => ?_) (fun z => ne (List.map_eq_nil_iff.mp z)) (by rw [List.length_map]; exact ls) _ h⟩)))
  obtain ⟨ws, _, rfl⟩ := List.mem_map.mp hn
  unfold num
  omega
end Lb

set_option Elab.async false
set_option linter.all false
set_option maxRecDepth 100000
set_option maxHeartbeats 4000000
set_option pp.maxSteps 600
namespace Lb
open PySem PySem.Spec PyProof.Rows L2 Pq
def M_law_throw : MS := (msSeq (msAsg (toD (mCall 2 F_law_ends (maCons (mVar 0) (maCons (mCB fInt (mlCons (toD (mBin fEq (mPk 1) (mC (.str "first")))) mlNil)) maNil)))) (mgTup 2 (mgCons (mgName 3) (mgCons (mgName 4) mgNil))))
    (msSeq (msSet 5 (mCall 1 F_law_name (maCons (mVar 0) maNil)))
    (msSeq (msIf (mTest (toD (mBin fEq (mPk 1) (mC (.str "ladder"))))) (msRet (toE (mTup (maCons (mVar 1) (maCons (mVar 5) (maCons (mCall 2 F_law_sum (maCons (mVar 0) (maCons (mVar 2) maNil))) (maCons (mCall 2 F_law_steepness (maCons (mVar 0) (maCons (toE (mC (.bool false))) maNil))) (maCons (mVar 3) (maCons (mVar 4) maNil))))))))) msNext)
    (msSeq (msIf (mTest (toD (mBin fEq (mPk 1) (mC (.str "flat"))))) (msRet (toE (mTup (maCons (mVar 1) (maCons (mVar 5) (maCons (mCall 2 F_law_sum (maCons (mVar 0) (maCons (mVar 2) maNil))) (maCons (mCall 2 F_law_draw (maCons (mVar 0) (maCons (toE (mC (.int 5))) maNil))) (maCons (mVar 3) (maCons (mVar 4) maNil))))))))) msNext)
    (msSeq (msSet 6 (mCB fTuple (mlCons (toD (mLc [8] (mRg1 (mlCons (toD (mBin fAdd (mC (.int 1)) (toD (mCall 2 F_law_draw (maCons (mVar 0) (maCons (toE (mC (.int 4))) maNil)))))) mlNil)) (mgName 8) mYes (mCall 2 F_law_sum (maCons (mVar 0) (maCons (mVar 2) maNil))))) mlNil)))
    (msSeq (msIf (mTest (toD (mBin fEq (mPk 1) (mC (.str "choose"))))) (msRet (toE (mTup (maCons (mVar 1) (maCons (mVar 5) (maCons (mVar 6) (maCons (mCall 2 F_law_steepness (maCons (mVar 0) (maCons (toE (mC (.bool false))) maNil))) (maCons (mVar 3) (maCons (mVar 4) maNil))))))))) msNext)
    (msSeq (msSet 7 (mBin fAdd (mPk 3) (toD (mCall 2 F_law_draw (maCons (mVar 0) (maCons (mBin fAdd (toD (mBin fSub (mPk 4) (mPk 3))) (mC (.int 1))) maNil))))))
    (msRet (toE (mTup (maCons (mVar 1) (maCons (mVar 5) (maCons (mVar 7) (maCons (mCall 2 F_law_steepness (maCons (mVar 0) (maCons (toE (mC (.bool false))) maNil))) (maCons (mCall 2 F_law_steepness (maCons (mVar 0) (maCons (toE (mC (.bool true))) maNil))) (maCons (mVar 6) (maCons (mVar 3) (maCons (mVar 4) maNil))))))))))))))))))
abbrev F_law_throw : FS := fnD 9 3 M_law_throw
/-! ### the laws' own throws -/
theorem w_throw_fl {k : Int} (k0 : 0 ≤ k) (k1 : k ≤ 10) (Q : SV → Prop) (h : ∀ (nm : Str) (ws : List Int) (r lo hi : Int), (∀ x ∈ ws, 0 ≤ x ∧ x ≤ 3) → ws.length = k.toNat → 0 ≤ r → r < 5 → 0 ≤ lo → lo ≤ hi → hi ≤ 9 → Q (.val (flRow nm ws r lo hi))) : F_law_throw [.deal, .val (.str "flat"), iv k] Q := by
  refine ⟨rfl, w_ends (m := 0) (by decide) (by decide) _ fun lo hi l0 l1 l2 => ?_⟩
  refine ⟨rfl, show 3 < 9 by decide, show 4 < 9 by decide, rfl, rfl, w_name _ fun nm => ⟨show 5 < 9 by decide, ?_⟩⟩
  refine ⟨rfl, w_sumD k0 k1 _ fun ws hws hwl => ⟨rfl, ⟨by decide, by decide⟩, fun r r0 r1 => ⟨show 6 ≤ 1000000 by decide, h nm ws r lo hi hws hwl r0 r1 l0 (by omega) l2⟩⟩⟩
theorem lists_of {k : Nat} : ∀ (res : List Da), (∀ x ∈ res, ∃ ws : List Int, x = .tuple (ws.map .int) ∧ (∀ x ∈ ws, 0 ≤ x ∧ x ≤ 3) ∧ ws.length = k) → ∃ S : List (List Int), res = S.map (fun ws => .tuple (ws.map .int)) ∧ S.length = res.length ∧ ∀ ws ∈ S, (∀ x ∈ ws, 0 ≤ x ∧ x ≤ 3) ∧ ws.length = k
  | [], _ => ⟨[], rfl, rfl, fun _ z => by cases z⟩
  | x :: r, h => by
    obtain ⟨L, e, l, s⟩ := lists_of r fun y hy => h y (List.mem_cons_of_mem _ hy)
    obtain ⟨z, rfl, hz⟩ := h x List.mem_cons_self
    exact ⟨z :: L, by rw [e]; rfl, by rw [List.length_cons, List.length_cons, l], fun y hy => (List.mem_cons.mp hy).elim (fun w => by rw [w]; exact hz) (s y)⟩
theorem w_throw_ch {k : Int} (k0 : 0 ≤ k) (k1 : k ≤ 10) (Q : SV → Prop) (h : ∀ (nm : Str) (S : List (List Int)) (a : Rat) (lo hi : Int), (∀ ws ∈ S, (∀ x ∈ ws, 0 ≤ x ∧ x ≤ 3) ∧ ws.length = k.toNat) → S ≠ [] → S.length ≤ 4 → St a → 0 ≤ lo → lo ≤ hi → hi ≤ 9 → Q (.val (chRow nm S a lo hi))) : F_law_throw [.deal, .val (.str "choose"), iv k] Q := by
  refine ⟨rfl, w_ends (m := 0) (by decide) (by decide) _ fun lo hi l0 l1 l2 => ?_⟩
  refine ⟨rfl, show 3 < 9 by decide, show 4 < 9 by decide, rfl, rfl, w_name _ fun nm => ⟨show 5 < 9 by decide, ?_⟩⟩
  refine ⟨rfl, ⟨by decide, by decide⟩, fun m m0 m1 => ⟨⟨by omega, by omega⟩, ?_⟩⟩
  have len : (rgD 0 (1 + m)).length = (1 + m).toNat := by rw [rgD_I, List.length_map, rgI_len]; omega
  refine ⟨⟨by show (rgD 0 (1 + m)).length ≤ 1000000; rw [len]; omega, fun i hi => by rw [List.mem_singleton.mp hi]; trivial⟩, ?_⟩
  refine lc_any (fun d => ∃ ws : List Int, d = .tuple (ws.map .int) ∧ (∀ x ∈ ws, 0 ≤ x ∧ x ≤ 3) ∧ ws.length = k.toNat) _ _ _ (fun d hd K hK => ⟨show 8 < 9 by decide, rfl, w_sumD k0 k1 _ fun ws hws hwl => hK _ ⟨ws, rfl, hws, hwl⟩⟩) fun res hl hr => ?_
  obtain ⟨S, rfl, l, s⟩ := lists_of res fun x hx => (hr x hx).resolve_left fun z => by cases z
  have hl : S.length = (1 + m).toNat := by rw [l, hl]; show 0 + (rgD 0 (1 + m)).length = _; rw [len]; omega
  refine ⟨show 6 < 9 by decide, ?_⟩
  refine ⟨rfl, w_steepness false _ fun a sa _ => ⟨show 6 ≤ 1000000 by decide, h nm S a lo hi s (fun z => by rw [z] at hl; have : (0 : Nat) = (1 + m).toNat := hl; omega) (by omega) sa l0 (by omega) l2⟩⟩
/-- a first: the mark, its steepness, the sums' -/
def fiRow (nm : Str) (mk : Int) (a b : Rat) (S : List (List Int)) (lo hi : Int) : Da := .tuple [.str "first", .str nm, .int mk, fr a, fr b, .tuple (S.map fun ws => .tuple (ws.map .int)), .int lo, .int hi]
theorem w_throw_fi {k : Int} (k0 : 0 ≤ k) (k1 : k ≤ 10) (Q : SV → Prop) (h : ∀ (nm : Str) (mk : Int) (S : List (List Int)) (a b : Rat) (lo hi : Int), (∀ ws ∈ S, (∀ x ∈ ws, 0 ≤ x ∧ x ≤ 3) ∧ ws.length = k.toNat) → S ≠ [] → S.length ≤ 4 → St a → St b → 2 * b ≤ 1 → 0 ≤ lo → lo < hi → hi ≤ 9 → lo ≤ mk → mk ≤ hi → Q (.val (fiRow nm mk a b S lo hi))) : F_law_throw [.deal, .val (.str "first"), iv k] Q := by
  refine ⟨rfl, w_ends (m := 1) (by decide) (by decide) _ fun lo hi l0 l1 l2 => ?_⟩
  refine ⟨rfl, show 3 < 9 by decide, show 4 < 9 by decide, rfl, rfl, w_name _ fun nm => ⟨show 5 < 9 by decide, ?_⟩⟩
  refine ⟨rfl, ⟨by decide, by decide⟩, fun m m0 m1 => ⟨⟨by omega, by omega⟩, ?_⟩⟩
  have len : (rgD 0 (1 + m)).length = (1 + m).toNat := by rw [rgD_I, List.length_map, rgI_len]; omega
  refine ⟨⟨by show (rgD 0 (1 + m)).length ≤ 1000000; rw [len]; omega, fun i hi => by rw [List.mem_singleton.mp hi]; trivial⟩, ?_⟩
  refine lc_any (fun d => ∃ ws : List Int, d = .tuple (ws.map .int) ∧ (∀ x ∈ ws, 0 ≤ x ∧ x ≤ 3) ∧ ws.length = k.toNat) _ _ _ (fun d hd K hK => ⟨show 8 < 9 by decide, rfl, w_sumD k0 k1 _ fun ws hws hwl => hK _ ⟨ws, rfl, hws, hwl⟩⟩) fun res hl hr => ?_
  obtain ⟨S, rfl, l, s⟩ := lists_of res fun x hx => (hr x hx).resolve_left fun z => by cases z
  have hl : S.length = (1 + m).toNat := by rw [l, hl]; show 0 + (rgD 0 (1 + m)).length = _; rw [len]; omega
  refine ⟨show 6 < 9 by decide, rfl, ⟨by omega, by omega⟩, fun mk q0 q1 => ⟨show 7 < 9 by decide, ?_⟩⟩
  refine ⟨rfl, w_steepness false _ fun a s1 _ => ⟨rfl, w_steepness true _ fun b s2 hb => ⟨show 8 ≤ 1000000 by decide, h nm (lo + mk) S a b lo hi s (fun z => by rw [z] at hl; have : (0 : Nat) = (1 + m).toNat := hl; omega) (by omega) s1 s2 (hb rfl) l0 (by omega) l2 (by omega) (by omega)⟩⟩⟩
end Lb

set_option Elab.async false
set_option linter.all false
set_option maxRecDepth 100000
set_option maxHeartbeats 4000000
set_option pp.maxSteps 600
namespace Lb
open PySem PySem.Spec PyProof.Rows L2 Pq
/-! ### rungs, their whole -/
def rgS (a : Rat) (n lo hi y : Int) : Int := if lo = hi then 1 else shI a n lo hi y
def rgB (a : Rat) (lo hi : Int) : Int := if lo = hi then 1 else btI a lo hi
theorem rgS_pos {a : Rat} {n lo hi y : Int} (s : St a) : 0 < rgS a n lo hi y := by
  unfold rgS
  split
  · decide
  · exact sh_pos s
theorem rgB_pos {a : Rat} {lo hi : Int} (s : St a) : 0 < rgB a lo hi := by
  unfold rgB
  split
  · decide
  · exact bt_pos s
theorem rgB_bits {a : Rat} {lo hi : Int} (s : St a) (h : hi - lo ≤ 9) : (rgB a lo hi).natAbs < 2 ^ 42 := by
  obtain ⟨_, _, v0, v1⟩ := s.sub
  obtain ⟨q4, p4⟩ := s.q5
  unfold rgB
  split
  · decide
  · unfold btI
    rw [Int.natAbs_mul, Int.natAbs_pow]
    exact Nat.lt_of_lt_of_le (mul_bits v1 (pow_bits q4 _)) (pow_le (by omega))
theorem w_rungsU {a : Rat} {n lo hi : Int} (s : St a) (o : LadOk n lo hi) (Q : SV → Prop) (h : Q (.val (.tuple [.list ((rgI lo (hi + 1)).map fun y => .int (rgS a n lo hi y)), .int (rgB a lo hi)]))) : F_law_rungs [frv a, iv n, iv lo, iv hi] Q := by
  unfold rgS rgB at h
  by_cases c : lo = hi
  · subst c
    simp only [if_pos rfl, rgI_one] at h
    exact w_rungs1 _ h
  · simp only [if_neg c] at h
    exact w_rungs s o c _ h
theorem lad_U {a : Rat} {n lo hi : Int} (s : St a) (o : LadOk n lo hi) : ladL a n lo hi = (rgI lo (hi + 1)).map fun y => (y, ((rgS a n lo hi y : Int) : Rat) / ((rgB a lo hi : Int) : Rat)) := by
  have o2 := o.ln; have o3 := o.nh
  unfold ladL rgS rgB
  by_cases c : lo = hi
  · subst c
    have e1 : (((1 : Int) : Rat)) / ((1 : Int) : Rat) = 1 := by
      rw [Rat.intCast_one]
      grind
    simp only [if_true, rgI_one, List.map_cons, List.map_nil, e1]
  · simp only [if_neg c]
    apply List.map_congr_left
    intro y hy
    have := mem_rgI.mp hy
    rw [sh_div s o (by omega) (by omega)]
/-! the whole is one -/
theorem tl_step {a : Rat} (s : St a) (k : Int) : tlR a (k - 1) = tlR a k + shR a (k - 1) := by
  have p := s.one_add
  unfold tlR shR
  by_cases c : 1 ≤ k
  · rw [if_pos (by omega), if_pos (by omega), show k.toNat = (k - 1).toNat + 1 by omega, show (k - 1).natAbs = (k - 1).toNat by omega, Rat.pow_succ]
    generalize a ^ (k - 1).toNat = P
    grind
  · by_cases d : k = 0
    · subst d
      rw [if_neg (by omega), if_pos (by omega), show (1 - ((0 : Int) - 1)).toNat = 1 + 1 by decide, show ((0 : Int) - 1).natAbs = 0 + 1 by decide, show (0 : Int).toNat = 0 by decide, Rat.pow_succ, Rat.pow_succ, Rat.pow_zero]
      grind
    · rw [if_neg (by omega), if_neg (by omega), show (1 - (k - 1)).toNat = (1 - k).toNat + 1 by omega, show (k - 1).natAbs = (1 - k).toNat by omega, Rat.pow_succ]
      generalize a ^ (1 - k).toNat = P
      grind
theorem tl_flip {a : Rat} (s : St a) (k : Int) : tlR a (1 - k) = 1 - tlR a k := by
  have p := s.one_add
  unfold tlR
  by_cases c : 0 ≤ k
  · by_cases d : k = 0
    · subst d
      rw [if_pos (by omega), if_pos (by omega), show (1 - (0 : Int)).toNat = 0 + 1 by decide, show (0 : Int).toNat = 0 by decide, Rat.pow_succ, Rat.pow_zero]
      grind
    · by_cases e : k = 1
      · subst e
        rw [if_pos (by omega), if_pos (by omega), show (1 - (1 : Int)).toNat = 0 by decide, show (1 : Int).toNat = 0 + 1 by decide, Rat.pow_succ, Rat.pow_zero]
        grind
      · rw [if_neg (by omega), if_pos c, show 1 - (1 - k) = k by omega]
  · rw [if_pos (by omega), if_neg c]
    grind
theorem sh_sym (a : Rat) {k j : Int} (h : j = -k) : shR a j = shR a k := by
  subst h
  unfold shR
  rw [Int.natAbs_neg]
def qsum : List Rat → Rat
  | [] => 0
  | q :: r => q + qsum r
theorem qsum_app : ∀ L M : List Rat, qsum (L ++ M) = qsum L + qsum M
  | [], M => by show qsum M = 0 + qsum M; rw [Rat.zero_add]
  | q :: L, M => by
    show q + qsum (L ++ M) = q + qsum L + qsum M
    rw [qsum_app L M, Rat.add_assoc]
theorem lad_part {a : Rat} {n lo hi : Int} (s : St a) (o : LadOk n lo hi) : ∀ (m : Nat) (y : Int), (y - lo).toNat = m → lo ≤ y → y < hi → qsum ((rgI lo (y + 1)).map (ladS a n lo hi)) = tlR a (n - y)
  | 0, y, e, h0, h1 => by
    have : y = lo := by omega
    subst this
    rw [rgI_one]
    show ladS a n y hi y + 0 = _
    unfold ladS
    rw [if_pos rfl, Rat.add_zero]
  | m + 1, y, e, h0, h1 => by
    have ih := lad_part s o m (y - 1) (by omega) (by omega) (by omega)
    rw [rgI_app (a := lo) (b := y) (c := y + 1) (by omega) (by omega), rgI_one, List.map_append, qsum_app]
    rw [show y - 1 + 1 = y by omega] at ih
    rw [ih]
    show _ + (ladS a n lo hi y + 0) = _
    unfold ladS
    rw [if_neg (by omega), if_neg (by omega), Rat.add_zero, show n - (y - 1) = (n - y) + 1 by omega, sh_sym a (show y - n = -(n - y) by omega)]
    have := tl_step s (n - y + 1)
    rw [show n - y + 1 - 1 = n - y by omega] at this
    rw [this]
theorem lad_whole {a : Rat} {n lo hi : Int} (s : St a) (o : LadOk n lo hi) (c : lo ≠ hi) : qsum ((rgI lo (hi + 1)).map (ladS a n lo hi)) = 1 := by
  have o2 := o.ln; have o3 := o.nh
  have ih := lad_part s o _ (hi - 1) rfl (by omega) (by omega)
  rw [show hi - 1 + 1 = hi by omega] at ih
  rw [rgI_app (a := lo) (b := hi) (c := hi + 1) (by omega) (by omega), rgI_one, List.map_append, qsum_app, ih]
  show _ + (ladS a n lo hi hi + 0) = _
  unfold ladS
  rw [if_neg (by omega), if_pos rfl, Rat.add_zero, show n - (hi - 1) = 1 - (hi - n) by omega, tl_flip s]
  grind
theorem qsum_int (f : Int → Int) {b : Int} (h : 0 < b) : ∀ L : List Int, qsum (L.map fun y => (f y : Rat) / (b : Rat)) = (((L.map f).sum : Int) : Rat) / (b : Rat)
  | [] => by
    show (0 : Rat) = ((0 : Int) : Rat) / _
    have : ((0 : Int) : Rat) = 0 := rfl
    rw [this, Rat.div_def, Rat.zero_mul]
  | y :: L => by
    have b0 := cast_ne h
    rw [List.map_cons, List.map_cons, List.sum_cons, Rat.intCast_add]
    show _ + qsum _ = _
    rw [qsum_int f h L]
    grind
theorem rg_whole {a : Rat} {n lo hi : Int} (s : St a) (o : LadOk n lo hi) : ((rgI lo (hi + 1)).map (rgS a n lo hi)).sum = rgB a lo hi := by
  by_cases c : lo = hi
  · subst c
    unfold rgS rgB
    simp only [if_pos rfl, rgI_one]
    rfl
  · have w := lad_whole s o c
    have b0 := bt_pos (lo := lo) (hi := hi) s
    have e : (rgI lo (hi + 1)).map (ladS a n lo hi) = (rgI lo (hi + 1)).map fun y => ((shI a n lo hi y : Int) : Rat) / ((btI a lo hi : Int) : Rat) := by
      apply List.map_congr_left
      intro y hy
      have := mem_rgI.mp hy
      rw [sh_div s o (by omega) (by omega)]
    rw [e, qsum_int _ b0] at w
    have b1 := cast_ne b0
    have w2 : (((((rgI lo (hi + 1)).map (shI a n lo hi)).sum : Int)) : Rat) = ((btI a lo hi : Int) : Rat) := by grind
    have e2 : (rgI lo (hi + 1)).map (rgS a n lo hi) = (rgI lo (hi + 1)).map (shI a n lo hi) := by
      apply List.map_congr_left
      intro y _
      unfold rgS
      rw [if_neg c]
    rw [e2]
    unfold rgB
    rw [if_neg c]
    exact Rat.intCast_inj.mp w2
end Lb

set_option Elab.async false
set_option linter.all false
set_option maxRecDepth 100000
set_option maxHeartbeats 4000000
set_option pp.maxSteps 600
namespace Lb
open PySem PySem.Spec PyProof.Rows L2 Pq
/-! ### firsts -/
def up (b : Rat) (n lo h m : Int) : Int := ((rgI m (h + 1)).map (rgS b n lo h)).sum
def dn (b : Rat) (n lo h m : Int) : Int := ((rgI lo m).map (rgS b n lo h)).sum
theorem sum0 {b : Rat} {n lo h : Int} (s : St b) : ∀ L : List Int, 0 ≤ (L.map (rgS b n lo h)).sum
  | [] => Int.le_refl 0
  | y :: L => by
    rw [List.map_cons, List.sum_cons]
    have := rgS_pos (n := n) (lo := lo) (hi := h) (y := y) s
    have := sum0 (n := n) (lo := lo) (h := h) s L
    omega
theorem up_dn {b : Rat} {n lo h m : Int} (s : St b) (o : LadOk n lo h) (h0 : lo ≤ m) (h1 : m ≤ h + 1) : up b n lo h m + dn b n lo h m = rgB b lo h := by
  rw [← rg_whole s o, rgI_app h0 h1, List.map_append, List.sum_append]
  unfold up dn
  omega
theorem up_bd {b : Rat} {n lo h m : Int} (s : St b) (o : LadOk n lo h) (h0 : lo ≤ m) (h1 : m ≤ h + 1) : 0 ≤ up b n lo h m ∧ up b n lo h m ≤ rgB b lo h ∧ 0 ≤ dn b n lo h m ∧ dn b n lo h m ≤ rgB b lo h := by
  have := up_dn s o h0 h1
  have a1 : 0 ≤ up b n lo h m := sum0 s _
  have a2 : 0 ≤ dn b n lo h m := sum0 s _
  omega
theorem frv0 : frv 0 = .val (.tuple [.int 0, .int 1]) := rfl
theorem part_le {b : Rat} {n lo h m y : Int} (s : St b) (o : LadOk n lo h) (h0 : lo ≤ m) (h1 : y ≤ h + 1) : ((rgI m y).map (rgS b n lo h)).sum ≤ rgB b lo h := by
  rcases Int.le_total m y with c | c
  · rw [← rg_whole s o, rgI_app (a := lo) (b := m) (c := h + 1) h0 (by omega), rgI_app (a := m) (b := y) (c := h + 1) c h1, List.map_append, List.sum_append, List.map_append, List.sum_append]
    have := sum0 (n := n) (lo := lo) (h := h) s (rgI lo m)
    have := sum0 (n := n) (lo := lo) (h := h) s (rgI y (h + 1))
    omega
  · rw [rgI_nil c]
    exact Int.le_of_lt (rgB_pos s)
theorem w_share_from {b : Rat} {n lo h m : Int} (s : St b) (o : LadOk n lo h) (hd : h - lo ≤ 9) (h0 : lo ≤ m) (h1 : m ≤ h + 1) (Q : SV → Prop) (hq : Q (frv (((up b n lo h m : Int) : Rat) / ((rgB b lo h : Int) : Rat)))) : F_share_from [.val (.tuple ((ladL b n lo h).map en)), iv m] Q := by
  have b0 := rgB_pos (lo := lo) (hi := h) s
  have b1 := rgB_bits (lo := lo) (hi := h) s hd
  refine ⟨show 2 ≤ 1000000 by decide, show 2 < 5 by decide, ?_⟩
  show forGo _ _ ((ladL b n lo h).map en) _ _
  have le : (ladL b n lo h).map en = (rgI lo (h + 1)).map fun y => en (y, ((rgS b n lo h y : Int) : Rat) / ((rgB b lo h : Int) : Rat)) := by
    rw [lad_U s o, List.map_map]
    rfl
  have z0 : ((((rgI m lo).map (rgS b n lo h)).sum : Int) : Rat) / ((rgB b lo h : Int) : Rat) = 0 := by
    rw [rgI_nil h0]
    show ((0 : Int) : Rat) / _ = 0
    have : ((0 : Int) : Rat) = 0 := rfl
    rw [this, Rat.div_def, Rat.zero_mul]
  rw [le]
  refine for_inv (fun L e => ∃ (y : Int) (t u : SV), lo ≤ y ∧ y ≤ h + 1 ∧ L = (rgI y (h + 1)).map (fun y => en (y, ((rgS b n lo h y : Int) : Rat) / ((rgB b lo h : Int) : Rat))) ∧ e = [.val (.tuple ((ladL b n lo h).map en)), iv m, frv (((((rgI m y).map (rgS b n lo h)).sum : Int) : Rat) / ((rgB b lo h : Int) : Rat)), t, u]) _ _ ⟨lo, .no, .no, by omega, by have := o.ln; have := o.nh; omega, rfl, by rw [z0, le]; rfl⟩ ?_ ?_
  · rintro d L e ⟨y, t, u, y0, y1, hL, rfl⟩ N hN
    have lt : y < h + 1 := by
      rcases Int.lt_or_le y (h + 1) with z | z
      · exact z
      · rw [rgI_nil z] at hL; cases hL
    rw [rgI_cons lt, List.map_cons] at hL
    injection hL with e1 e2
    subst e1 e2
    refine ⟨rfl, show 3 < 5 by decide, show 4 < 5 by decide, rfl, iteD (fun c => ?_) fun c => ?_⟩
    · have c : m ≤ y := c
      have p0 := sum0 (n := n) (lo := lo) (h := h) s (rgI m y)
      have p1 := part_le (m := m) (y := y) s o h0 (by omega)
      have r0 := rgS_pos (n := n) (lo := lo) (hi := h) (y := y) s
      have r1 : rgS b n lo h y ≤ rgB b lo h := by
        have := part_le (m := y) (y := y + 1) s o y0 (by omega)
        rw [rgI_one] at this
        have e : (([y].map (rgS b n lo h)).sum : Int) = rgS b n lo h y := by show rgS b n lo h y + 0 = _; omega
        omega
      refine ⟨rfl, w_added (n := 42) (m := 42) (div0 p0 b0) (div0 (Int.le_of_lt r0) b0) (sz_divInt (by omega) b1 b0) (sz_divInt (by omega) b1 b0) (by decide) _ ⟨show 2 < 5 by decide, hN _ ⟨y + 1, iv y, frv (((rgS b n lo h y : Int) : Rat) / ((rgB b lo h : Int) : Rat)), by omega, by omega, rfl, ?_⟩⟩⟩
      have e : ((((rgI m y).map (rgS b n lo h)).sum : Int) : Rat) / ((rgB b lo h : Int) : Rat) + ((rgS b n lo h y : Int) : Rat) / ((rgB b lo h : Int) : Rat) = ((((rgI m (y + 1)).map (rgS b n lo h)).sum : Int) : Rat) / ((rgB b lo h : Int) : Rat) := by
        rw [rgI_app (a := m) (b := y) (c := y + 1) (by omega) (by omega), rgI_one, List.map_append, List.sum_append]
        have e : (([y].map (rgS b n lo h)).sum : Int) = rgS b n lo h y := by show rgS b n lo h y + 0 = _; omega
        rw [e, Rat.intCast_add]
        have := cast_ne b0
        grind
      rw [← e]
      rfl
    · have c : ¬ m ≤ y := c
      refine hN _ ⟨y + 1, iv y, frv (((rgS b n lo h y : Int) : Rat) / ((rgB b lo h : Int) : Rat)), by omega, by omega, rfl, ?_⟩
      rw [rgI_nil (show y + 1 ≤ m by omega), rgI_nil (show y ≤ m by omega)]
      rfl
  · rintro e ⟨y, t, u, y0, y1, hL, rfl⟩
    have ey : y = h + 1 := by
      rcases Int.lt_or_le y (h + 1) with z | z
      · rw [rgI_cons z] at hL; cases hL
      · omega
    subst ey
    exact hq
end Lb

set_option Elab.async false
set_option linter.all false
set_option maxRecDepth 100000
set_option maxHeartbeats 4000000
set_option pp.maxSteps 600
namespace Lb
open PySem PySem.Spec PyProof.Rows L2 Pq
/-- what one rung of the mark tells, over A B ** (how many sums) -/
def fz (b : Rat) (lo h m : Int) : List Int → Int → Int → List (Int × Int)
  | [], j, l => [(j, l)]
  | n :: r, j, l => (j, l * up b n lo h m * rgB b lo h ^ r.length) :: fz b lo h m r (j + 1) (l * dn b n lo h m)
def fzA (a b : Rat) (mk lo hi : Int) (ns ms : List Int) : List (Int × Int) := ms.flatMap fun m => fz b lo (hi - 1) m ns 0 (rgS a mk lo hi m)
def fzD (a b : Rat) (lo hi : Int) (ns : List Int) : Int := rgB a lo hi * rgB b lo (hi - 1) ^ ns.length
def enZ (D : Int) (p : Int × Int) : Int × Rat := (p.1, (p.2 : Rat) / (D : Rat))
def sumZ : List (Int × Int) → Int → Int
  | [], _ => 0
  | p :: r, y => (if p.1 = y then p.2 else 0) + sumZ r y
theorem sumZ_app : ∀ (L M : List (Int × Int)) (y : Int), sumZ (L ++ M) y = sumZ L y + sumZ M y
  | [], M, y => by show sumZ M y = 0 + _; omega
  | p :: L, M, y => by
    show _ + sumZ (L ++ M) y = _ + sumZ L y + _
    rw [sumZ_app L M y]
    omega
theorem sumAt_Z {D : Int} (h : 0 < D) (y : Int) : ∀ L : List (Int × Int), sumAt (L.map (enZ D)) y = ((sumZ L y : Int) : Rat) / (D : Rat)
  | [] => by
    show (0 : Rat) = ((0 : Int) : Rat) / _
    have : ((0 : Int) : Rat) = 0 := rfl
    rw [this, Rat.div_def, Rat.zero_mul]
  | p :: L => by
    have b0 := cast_ne h
    rw [List.map_cons, sumAt, sumAt_Z h y L]
    show (if p.1 = y then (p.2 : Rat) / (D : Rat) else 0) + _ = (((if p.1 = y then p.2 else 0) + sumZ L y : Int) : Rat) / _
    rw [Rat.intCast_add]
    split
    · grind
    · have : ((0 : Int) : Rat) = 0 := rfl
      rw [this]
      grind
theorem sumZ_bd {D y : Int} : ∀ L : List (Int × Int), (∀ p ∈ L, 0 ≤ p.2 ∧ p.2 ≤ D) → 0 ≤ D → 0 ≤ sumZ L y ∧ sumZ L y ≤ L.length * D
  | [], _, _ => ⟨Int.le_refl 0, by show (0 : Int) ≤ ((0 : Nat) : Int) * D; simp⟩
  | p :: L, h, h0 => by
    have ih := sumZ_bd (y := y) L (fun q hq => h q (List.mem_cons_of_mem _ hq)) h0
    have a := h p List.mem_cons_self
    show 0 ≤ (if p.1 = y then p.2 else 0) + sumZ L y ∧ (if p.1 = y then p.2 else 0) + sumZ L y ≤ _
    rw [List.length_cons]
    have e : (((L.length + 1 : Nat) : Int)) * D = (L.length : Int) * D + D := by
      rw [Int.natCast_add, Int.add_mul]
      show _ + 1 * D = _
      rw [Int.one_mul]
    rw [e]
    split <;> omega
theorem fz_bd {b : Rat} {lo h m : Int} (s : St b) (h0 : lo ≤ m) (h1 : m ≤ h + 1) : ∀ (ns : List Int), (∀ n ∈ ns, LadOk n lo h) → ∀ (j l : Int), 0 ≤ l → ∀ p ∈ fz b lo h m ns j l, 0 ≤ p.2 ∧ p.2 ≤ l * rgB b lo h ^ ns.length
  | [], _, j, l, l0, p, hp => by
    rw [fz, List.mem_singleton] at hp
    subst hp
    rw [List.length_nil, Int.pow_zero, Int.mul_one]
    exact ⟨l0, Int.le_refl _⟩
  | n :: r, o, j, l, l0, p, hp => by
    have b0 := rgB_pos (lo := lo) (hi := h) s
    have bd := up_bd s (o n List.mem_cons_self) h0 h1
    have pw : 0 ≤ rgB b lo h ^ r.length := Int.le_of_lt (Int.pow_pos b0)
    rw [fz] at hp
    rw [List.length_cons, Int.pow_succ, show rgB b lo h ^ r.length * rgB b lo h = rgB b lo h * rgB b lo h ^ r.length from Int.mul_comm _ _, ← Int.mul_assoc]
    rcases List.mem_cons.mp hp with rfl | hp
    · refine ⟨Int.mul_nonneg (Int.mul_nonneg l0 bd.1) pw, ?_⟩
      exact Int.mul_le_mul_of_nonneg_right (Int.mul_le_mul_of_nonneg_left bd.2.1 l0) pw
    · have ih := fz_bd s h0 h1 r (fun x hx => o x (List.mem_cons_of_mem _ hx)) (j + 1) (l * dn b n lo h m) (Int.mul_nonneg l0 bd.2.2.1) p hp
      exact ⟨ih.1, Int.le_trans ih.2 (Int.mul_le_mul_of_nonneg_right (Int.mul_le_mul_of_nonneg_left bd.2.2.2 l0) pw)⟩
theorem fz_len (b : Rat) (lo h m : Int) : ∀ (ns : List Int) (j l : Int), (fz b lo h m ns j l).length = ns.length + 1
  | [], _, _ => rfl
  | n :: r, j, l => by rw [fz, List.length_cons, fz_len b lo h m r, List.length_cons]
theorem fz_fst (b : Rat) (lo h m : Int) : ∀ (ns : List Int) (j l : Int), (fz b lo h m ns j l).map (·.1) = rgI j (j + ns.length + 1)
  | [], j, _ => by
    show [j] = _
    rw [show j + ((([] : List Int).length : Nat) : Int) + 1 = j + 1 by simp, rgI_one]
  | n :: r, j, l => by
    rw [fz, List.map_cons, fz_fst b lo h m r, rgI_cons (a := j) (b := j + ((n :: r).length : Nat) + 1) (by omega), List.length_cons]
    congr 2
    omega
theorem fzA_len (a b : Rat) (mk lo hi : Int) (ns : List Int) : ∀ ms : List Int, (fzA a b mk lo hi ns ms).length = ms.length * (ns.length + 1)
  | [] => by show 0 = 0 * _; omega
  | m :: ms => by
    show ((fz b lo (hi - 1) m ns 0 (rgS a mk lo hi m)) ++ fzA a b mk lo hi ns ms).length = _
    rw [List.length_append, fz_len, fzA_len a b mk lo hi ns ms, List.length_cons, Nat.succ_mul]
    omega
theorem fzA_snoc (a b : Rat) (mk lo hi : Int) (ns ms : List Int) (m : Int) : fzA a b mk lo hi ns (ms ++ [m]) = fzA a b mk lo hi ns ms ++ fz b lo (hi - 1) m ns 0 (rgS a mk lo hi m) := by
  unfold fzA
  rw [List.flatMap_append, List.flatMap_singleton]
theorem fzD_pos {a b : Rat} {lo hi : Int} {ns : List Int} (sa : St a) (sb : St b) : 0 < fzD a b lo hi ns := Int.mul_pos (rgB_pos sa) (Int.pow_pos (rgB_pos sb))
theorem AB_bits {a b : Rat} {lo hi : Int} (sa : St a) (sb : St b) (h : hi - lo ≤ 9) (j : Nat) (hj : j ≤ 4) : (rgB a lo hi * rgB b lo (hi - 1) ^ j).natAbs < 2 ^ 211 := by
  rw [Int.natAbs_mul, Int.natAbs_pow]
  exact Nat.lt_of_lt_of_le (mul_bits (rgB_bits sa h) (pow_bits (rgB_bits sb (by omega)) j)) (pow_le (by omega))
theorem fzA_bd {a b : Rat} {mk lo hi : Int} (sa : St a) (sb : St b) (o : LadOk mk lo hi) {ns : List Int} (on : ∀ n ∈ ns, LadOk n lo (hi - 1)) : ∀ ms : List Int, (∀ m ∈ ms, lo ≤ m ∧ m ≤ hi) → ∀ p ∈ fzA a b mk lo hi ns ms, 0 ≤ p.2 ∧ p.2 ≤ fzD a b lo hi ns := fun ms hm p hp => by
  obtain ⟨m, h1, h2⟩ := List.mem_flatMap.mp hp
  have hb := hm m h1
  have r0 := rgS_pos (n := mk) (lo := lo) (hi := hi) (y := m) sa
  have r1 : rgS a mk lo hi m ≤ rgB a lo hi := by
    have := part_le (m := m) (y := m + 1) sa o hb.1 (by omega)
    rw [rgI_one] at this
    have e : (([m].map (rgS a mk lo hi)).sum : Int) = rgS a mk lo hi m := by show rgS a mk lo hi m + 0 = _; omega
    omega
  have := fz_bd sb hb.1 (by omega) ns on 0 _ (Int.le_of_lt r0) p h2
  refine ⟨this.1, Int.le_trans this.2 ?_⟩
  exact Int.mul_le_mul_of_nonneg_right r1 (Int.le_of_lt (Int.pow_pos (rgB_pos sb)))
theorem cast_step {A B l u : Int} (A0 : 0 < A) (B0 : 0 < B) (j r : Nat) : ((l : Rat) / ((A * B ^ j : Int) : Rat)) * ((u : Rat) / (B : Rat)) = ((l * u * B ^ r : Int) : Rat) / ((A * B ^ (j + 1 + r) : Int) : Rat) := by
  have a0 := cast_ne A0
  have b0 := cast_ne B0
  have bj := cast_ne (show (0 : Int) < B ^ j from Int.pow_pos B0)
  have br := cast_ne (show (0 : Int) < B ^ r from Int.pow_pos B0)
  rw [Int.pow_add, Int.pow_succ, Rat.intCast_mul, Rat.intCast_mul, Rat.intCast_mul, Rat.intCast_mul, Rat.intCast_mul, Rat.intCast_mul]
  generalize ((B ^ j : Int) : Rat) = J at *
  generalize ((B ^ r : Int) : Rat) = R at *
  generalize (A : Rat) = A' at *
  generalize (B : Rat) = B' at *
  grind
end Lb

set_option Elab.async false
set_option linter.all false
set_option maxRecDepth 100000
set_option maxHeartbeats 4000000
set_option pp.maxSteps 600
namespace Lb
open PySem PySem.Spec PyProof.Rows L2 Pq
def ladD (b : Rat) (lo h n : Int) : Da := .tuple ((ladL b n lo h).map en)
def fiT (a b : Rat) (mk lo hi : Int) (ns : List Int) : List Da :=
  ((rgI 0 (ns.length + 1)).filter fun k => decide (0 < sumZ (fzA a b mk lo hi ns (rgI lo (hi + 1))) k)).map fun k => en (k, ((sumZ (fzA a b mk lo hi ns (rgI lo (hi + 1))) k : Int) : Rat) / ((fzD a b lo hi ns : Int) : Rat))
theorem num_le_den {g : Rat} (h : g ≤ 1) : g.num ≤ (g.den : Int) := by
  have d := cast_pos (den0 g)
  have e : (g.num : Rat) = g * ((g.den : Int) : Rat) := by
    have := num_div_den g
    have := cast_ne (den0 g)
    grind
  have : (g.num : Rat) ≤ ((g.den : Int) : Rat) := by
    rw [e]
    have := Rat.mul_le_mul_of_nonneg_right h (Rat.le_of_lt d)
    rw [Rat.one_mul] at this
    exact this
  exact Rat.intCast_le_intCast.mp this
theorem w_first_from {a b : Rat} {mk lo hi : Int} {ns : List Int} (sa : St a) (sb : St b) (o : LadOk mk lo hi) (h9 : hi - lo ≤ 9) (on : ∀ n ∈ ns, LadOk n lo (hi - 1)) (hl : ns.length ≤ 4) (Q : SV → Prop) (h : Q (.val (.tuple (fiT a b mk lo hi ns)))) :
    F_first_from [.val (.tuple ((ladL a mk lo hi).map en)), .val (.list (ns.map (ladD b lo (hi - 1))))] Q := by
  have a0 := rgB_pos (lo := lo) (hi := hi) sa
  have b0 := rgB_pos (lo := lo) (hi := hi - 1) sb
  have dp := fzD_pos (lo := lo) (hi := hi) (ns := ns) sa sb
  have le : (ladL a mk lo hi).map en = (rgI lo (hi + 1)).map fun y => en (y, ((rgS a mk lo hi y : Int) : Rat) / ((rgB a lo hi : Int) : Rat)) := by
    rw [lad_U sa o, List.map_map]
    rfl
  refine ⟨show 0 ≤ 1000000 by decide, show 2 < 9 by decide, ?_⟩
  show forGo _ _ ((ladL a mk lo hi).map en) _ _
  rw [le]
  have ol := o.l0; have o2 := o.ln; have o3 := o.nh
  refine for_inv (fun L e => ∃ (y : Int) (s t u v w x : SV), lo ≤ y ∧ y ≤ hi + 1 ∧ L = (rgI y (hi + 1)).map (fun y => en (y, ((rgS a mk lo hi y : Int) : Rat) / ((rgB a lo hi : Int) : Rat))) ∧ e = [.val (.tuple ((rgI lo (hi + 1)).map fun y => en (y, ((rgS a mk lo hi y : Int) : Rat) / ((rgB a lo hi : Int) : Rat)))), .val (.list (ns.map (ladD b lo (hi - 1)))), .own true (.list ((fzA a b mk lo hi ns (rgI lo y)).map fun p => en (enZ (fzD a b lo hi ns) p))), s, t, u, v, w, x]) _ _ ⟨lo, _, _, _, _, _, _, by omega, by omega, rfl, by rw [rgI_nil (Int.le_refl lo)]; rfl⟩ ?_ ?_
  · rintro d L e ⟨y, s, t, u, v, w, x, y0, y1, hL, rfl⟩ N hN
    have lt : y < hi + 1 := by
      rcases Int.lt_or_le y (hi + 1) with z | z
      · exact z
      · rw [rgI_nil z] at hL; cases hL
    rw [rgI_cons lt, List.map_cons] at hL
    injection hL with e1 e2
    subst e1 e2
    have r0 := rgS_pos (n := mk) (lo := lo) (hi := hi) (y := y) sa
    have r1 : rgS a mk lo hi y ≤ rgB a lo hi := by
      have := part_le (m := y) (y := y + 1) sa o y0 (by omega)
      rw [rgI_one] at this
      have e : (([y].map (rgS a mk lo hi)).sum : Int) = rgS a mk lo hi y := by show rgS a mk lo hi y + 0 = _; omega
      omega
    have len : ∀ z : Int, z ≤ hi + 1 → ((fzA a b mk lo hi ns (rgI lo z)).length ≤ 50) := fun z hz => by
      rw [fzA_len, rgI_len]
      exact Nat.mul_le_mul (show (z - lo).toNat ≤ 10 by omega) (show ns.length + 1 ≤ 5 by omega)
    refine ⟨rfl, show 3 < 9 by decide, show 4 < 9 by decide, rfl, ?_⟩
    show forGo _ _ (enD 0 (ns.map (ladD b lo (hi - 1)))) _ _
    refine for_inv (fun L e => ∃ (j : Nat) (R : List Int) (l : Int) (acc : List (Int × Int)) (u v w x : SV), (∀ n ∈ R, LadOk n lo (hi - 1)) ∧ j + R.length = ns.length ∧ L = enD j (R.map (ladD b lo (hi - 1))) ∧ acc ++ fz b lo (hi - 1) y R j l = fzA a b mk lo hi ns (rgI lo (y + 1)) ∧ 0 ≤ l ∧ l ≤ rgB a lo hi * rgB b lo (hi - 1) ^ j ∧ e = [.val (.tuple ((rgI lo (hi + 1)).map fun y => en (y, ((rgS a mk lo hi y : Int) : Rat) / ((rgB a lo hi : Int) : Rat)))), .val (.list (ns.map (ladD b lo (hi - 1)))), .own true (.list (acc.map fun p => en (enZ (fzD a b lo hi ns) p))), iv y, frv ((l : Rat) / ((rgB a lo hi * rgB b lo (hi - 1) ^ j : Int) : Rat)), u, v, w, x]) _ _ ?_ ?_ ?_
    · refine ⟨0, ns, rgS a mk lo hi y, fzA a b mk lo hi ns (rgI lo y), u, v, w, x, on, by omega, rfl, ?_, Int.le_of_lt r0, by rw [Int.pow_zero, Int.mul_one]; exact r1, ?_⟩
      · rw [rgI_app (a := lo) (b := y) (c := y + 1) (by omega) (by omega), rgI_one, fzA_snoc]
        rfl
      · rw [Int.pow_zero, Int.mul_one]
        rfl
    · rintro d L e ⟨j, R, l, acc, u, v, w, x, oR, jR, hL, hacc, l0, l1, rfl⟩ N2 hN2
      cases R with
      | nil => cases hL
      | cons n R =>
        rw [List.map_cons, enD] at hL
        injection hL with e1 e2
        subst e1 e2
        rw [List.length_cons] at jR
        have on1 := oR n List.mem_cons_self
        have bd := up_bd (m := y) sb on1 y0 (by omega)
        have ud := up_dn (m := y) sb on1 y0 (by omega)
        have g0 : (0 : Rat) ≤ ((up b n lo (hi - 1) y : Int) : Rat) / ((rgB b lo (hi - 1) : Int) : Rat) := div0 bd.1 b0
        have bb := rgB_bits (lo := lo) (hi := hi - 1) sb (by omega)
        have gs : Sz 42 (((up b n lo (hi - 1) y : Int) : Rat) / ((rgB b lo (hi - 1) : Int) : Rat)) := sz_divInt (by omega) bb b0
        have gd : 1 - ((up b n lo (hi - 1) y : Int) : Rat) / ((rgB b lo (hi - 1) : Int) : Rat) = ((dn b n lo (hi - 1) y : Int) : Rat) / ((rgB b lo (hi - 1) : Int) : Rat) := by
          have e : dn b n lo (hi - 1) y = rgB b lo (hi - 1) - up b n lo (hi - 1) y := by omega
          have := cast_ne b0
          rw [e, Rat.intCast_sub]
          grind
        have g1 : ((up b n lo (hi - 1) y : Int) : Rat) / ((rgB b lo (hi - 1) : Int) : Rat) ≤ 1 := by
          have := div0 bd.2.2.1 b0
          rw [← gd] at this
          grind
        have Ap : 0 < rgB a lo hi * rgB b lo (hi - 1) ^ j := Int.mul_pos a0 (Int.pow_pos b0)
        have Ab := AB_bits (lo := lo) (hi := hi) sa sb h9 j (by omega)
        have f0 : (0 : Rat) ≤ (l : Rat) / ((rgB a lo hi * rgB b lo (hi - 1) ^ j : Int) : Rat) := div0 l0 Ap
        have fs : Sz 211 ((l : Rat) / ((rgB a lo hi * rgB b lo (hi - 1) ^ j : Int) : Rat)) := sz_divInt (by omega) Ab Ap
        have st1 := cast_step (l := l) (u := up b n lo (hi - 1) y) a0 b0 j R.length
        have st2 := cast_step (l := l) (u := dn b n lo (hi - 1) y) a0 b0 j 0
        rw [show j + 1 + R.length = ns.length by omega] at st1
        rw [Int.pow_zero, Int.mul_one, Nat.add_zero] at st2
        have al : acc.length ≤ 50 := by
          have := congrArg List.length hacc
          have := len (y + 1) (by omega)
          rw [List.length_append] at *
          omega
        rw [fz] at hacc
        generalize hg : ((up b n lo (hi - 1) y : Int) : Rat) / ((rgB b lo (hi - 1) : Int) : Rat) = g at *
        generalize hf : (l : Rat) / ((rgB a lo hi * rgB b lo (hi - 1) ^ j : Int) : Rat) = f at *
        have nd := num_le_den g1
        have d0 := den0 g
        have e1 : (((g.den : Int) - g.num : Int) : Rat) / ((g.den : Int) : Rat) = 1 - g := by
          have := num_div_den g
          have := cast_ne d0
          rw [Rat.intCast_sub]
          grind
        refine ⟨rfl, show 5 < 9 by decide, show 6 < 9 by decide, rfl, rfl, w_share_from sb on1 (by omega) y0 (by omega) _ ?_⟩
        rw [hg]
        refine ⟨rfl, show 7 < 9 by decide, show 8 < 9 by decide, rfl, trivial, show 2 ≤ 1000000 by decide, rfl, w_times (q := g) f0 g0 fs gs (by decide) _ ?_⟩
        rw [st1]
        refine ⟨show 2 ≤ 1000000 by decide, by rw [List.length_map]; omega, rfl, w_lowest (n := 42) (by omega) d0 (by rw [den_abs]; exact gs.2) (by decide) _ ?_⟩
        rw [e1, gd]
        have h0 : (0 : Rat) ≤ ((dn b n lo (hi - 1) y : Int) : Rat) / ((rgB b lo (hi - 1) : Int) : Rat) := div0 bd.2.2.1 b0
        have hs : Sz 42 (((dn b n lo (hi - 1) y : Int) : Rat) / ((rgB b lo (hi - 1) : Int) : Rat)) := sz_divInt (by omega) bb b0
        refine ⟨rfl, w_times f0 h0 fs hs (by decide) _ ?_⟩
        rw [st2]
        refine ⟨show 4 < 9 by decide, hN2 _ ⟨j + 1, R, l * dn b n lo (hi - 1) y, acc ++ [((j : Int), l * up b n lo (hi - 1) y * rgB b lo (hi - 1) ^ R.length)], iv (j : Int), .val (ladD b lo (hi - 1) n), iv g.num, iv (g.den : Int), fun z hz => oR z (List.mem_cons_of_mem _ hz), by omega, rfl, ?_, Int.mul_nonneg l0 bd.2.2.1, ?_, ?_⟩⟩
        · rw [List.append_assoc]
          exact hacc
        · rw [Int.pow_succ, ← Int.mul_assoc]
          exact Int.le_trans (Int.mul_le_mul_of_nonneg_left bd.2.2.2 l0) (Int.mul_le_mul_of_nonneg_right l1 (Int.le_of_lt b0))
        · rw [List.map_append]
          rfl
    · rintro e ⟨j, R, l, acc, u, v, w, x, oR, jR, hL, hacc, l0, l1, rfl⟩
      cases R with
      | cons n R => cases hL
      | nil =>
        have jR : j = ns.length := jR
        subst jR
        rw [fz] at hacc
        have al : acc.length ≤ 50 := by
          have := congrArg List.length hacc
          have := len (y + 1) (by omega)
          rw [List.length_append] at *
          omega
        refine ⟨trivial, show 2 ≤ 1000000 by decide, by rw [List.length_map]; omega, hN _ ⟨y + 1, iv y, frv ((l : Rat) / ((rgB a lo hi * rgB b lo (hi - 1) ^ ns.length : Int) : Rat)), u, v, w, x, by omega, by omega, rfl, ?_⟩⟩
        rw [← hacc, List.map_append, List.length_map]
        rfl
  · rintro e ⟨y, s, t, u, v, w, x, y0, y1, hL, rfl⟩
    have ey : y = hi + 1 := by
      rcases Int.lt_or_le y (hi + 1) with z | z
      · rw [rgI_cons z] at hL; cases hL
      · omega
    subst ey
    have bdA := fzA_bd sa sb o on (rgI lo (hi + 1)) fun m hm => by have := mem_rgI.mp hm; omega
    have len : ((fzA a b mk lo hi ns (rgI lo (hi + 1))).length ≤ 50) := by
      rw [fzA_len, rgI_len]
      exact Nat.mul_le_mul (show (hi + 1 - lo).toNat ≤ 10 by omega) (show ns.length + 1 ≤ 5 by omega)
    have Db := AB_bits (lo := lo) (hi := hi) sa sb h9 ns.length hl
    have Db : (fzD a b lo hi ns).natAbs < 2 ^ 211 := Db
    have szz : ∀ z : Int, 0 ≤ z → z ≤ 50 * fzD a b lo hi ns → Sz 220 ((z : Rat) / ((fzD a b lo hi ns : Int) : Rat)) := fun z z0 z1 => by
      have p1 : (2 : Nat) ^ 211 = 3291009114642412084309938365114701009965471731267159726697218048 := by decide
      have p2 : (2 : Nat) ^ 220 = 1684996666696914987166688442938726917102321526408785780068975640576 := by decide
      refine sz_divInt (by omega) (by omega) dp
    generalize hZ : fzA a b mk lo hi ns (rgI lo (hi + 1)) = Z at *
    have eL : (Z.map fun p => en (enZ (fzD a b lo hi ns) p)) = (Z.map (enZ (fzD a b lo hi ns))).map en := by rw [List.map_map]; rfl
    rw [eL]
    have sz1 : ∀ p ∈ Z, 0 ≤ p.2 ∧ p.2 ≤ 50 * fzD a b lo hi ns := fun p hp => by have := bdA p hp; omega
    have smz : ∀ (M : List (Int × Int)) (y : Int), (∀ p ∈ M, p ∈ Z) → M.length ≤ 50 → 0 ≤ sumZ M y ∧ sumZ M y ≤ 50 * fzD a b lo hi ns := fun M y hM lM => by
      have := sumZ_bd (y := y) M (fun p hp => bdA p (hM p hp)) (Int.le_of_lt dp)
      refine ⟨this.1, Int.le_trans this.2 (Int.mul_le_mul_of_nonneg_right (by omega) (Int.le_of_lt dp))⟩
    refine ⟨rfl, w_merged (L := Z.map (enZ (fzD a b lo hi ns))) (K := rgI 0 (ns.length + 1)) (n := 220) (m := 220) (fun p hp => ?_) (fun p hp => ?_) (fun i y => ?_) (by decide) (by rw [List.length_map]; omega) (rgI_pw _ _ _ rfl) (fun y => ?_) _ ?_⟩
    · obtain ⟨q, hq, rfl⟩ := List.mem_map.mp hp
      exact div0 (sz1 q hq).1 dp
    · obtain ⟨q, hq, rfl⟩ := List.mem_map.mp hp
      exact szz _ (sz1 q hq).1 (sz1 q hq).2
    · rw [← List.map_take, sumAt_Z dp]
      have := smz (Z.take i) y (fun p hp => List.mem_of_mem_take hp) (by rw [List.length_take]; omega)
      exact szz _ this.1 this.2
    · rw [List.map_map]
      show y ∈ _ ↔ y ∈ Z.map (·.1)
      rw [← hZ, mem_rgI]
      unfold fzA
      rw [List.map_flatMap]
      constructor
      · rintro ⟨c0, c1⟩
        refine List.mem_flatMap.mpr ⟨lo, mem_rgI.mpr (by omega), ?_⟩
        rw [fz_fst]
        exact mem_rgI.mpr (by omega)
      · intro z
        obtain ⟨m, _, hm⟩ := List.mem_flatMap.mp z
        rw [fz_fst] at hm
        have := mem_rgI.mp hm
        omega
    · have e2 : mgT (Z.map (enZ (fzD a b lo hi ns))) (rgI 0 (ns.length + 1)) = fiT a b mk lo hi ns := by
        unfold mgT fiT
        rw [hZ]
        have ef : (rgI 0 (ns.length + 1)).filter (fun y => decide (sumAt (Z.map (enZ (fzD a b lo hi ns))) y ≠ 0)) = (rgI 0 (ns.length + 1)).filter fun k => decide (0 < sumZ Z k) := by
          apply List.filter_congr
          intro y _
          rw [sumAt_Z dp]
          have := smz Z y (fun p hp => hp) len
          apply decide_eq_decide.mpr
          constructor
          · intro ne
            rcases Int.lt_or_le 0 (sumZ Z y) with c | c
            · exact c
            · have e0 : sumZ Z y = 0 := by omega
              refine absurd ?_ ne
              rw [e0]
              have : ((0 : Int) : Rat) = 0 := rfl
              rw [this, Rat.div_def, Rat.zero_mul]
          · intro c
            refine Rat.ne_of_gt ?_
            rw [Rat.lt_div_iff (cast_pos dp), Rat.zero_mul]
            exact cast_pos c
        rw [ef]
        apply List.map_congr_left
        intro y _
        rw [sumAt_Z dp]
      rw [e2]
      exact h
end Lb

set_option Elab.async false
set_option linter.all false
set_option maxRecDepth 100000
set_option maxHeartbeats 4000000
set_option pp.maxSteps 600
namespace Lb
open PySem PySem.Spec PyProof.Rows L2 Pq
theorem fi_row {nm : Str} {mk : Int} {a b : Rat} {S : List (List Int)} {lo hi : Int} : RowI (fiRow nm mk a b S lo hi) lo (hi - 1) S := by
  refine ⟨fun Q h => ?_, fun Q h => ?_⟩
  · exact ix rfl (ix rfl (ix rfl ⟨show 2 ≤ 1000000 by decide, h⟩))
  · exact ix rfl (ix rfl (ix rfl h))
def ladDD (b : Rat) (lo h : Int) : Da → Da
  | .int n => ladD b lo h n
  | _ => .none
theorem w_thrown_fi {nm : Str} {mk : Int} {a b : Rat} {S : List (List Int)} {cs : List Int} {lo hi : Int} (sa : St a) (sb : St b) (h0 : 0 ≤ lo) (h1 : lo < hi) (h2 : hi ≤ 9) (m0 : lo ≤ mk) (m1 : mk ≤ hi) (fc : Fw cs) (fs : ∀ ws ∈ S, Fw ws) (lc : cs.length ≤ 1000) (ls : S.length ≤ 4) (Q : SV → Prop) (h : Q (.val (.tuple (fiT a b mk lo hi (S.map fun ws => num cs lo (hi - 1) ws))))) : F_thrown [.val (fiRow nm mk a b S lo hi), .val (.tuple (cs.map .int))] Q := by
  refine ⟨rfl, w_number_of fi_row fc fs lc (by omega) _ ⟨show 2 < 5 by decide, ?_⟩⟩
  have e : (S.map fun ws => PyData.int (num cs lo (hi - 1) ws)) = (S.map fun ws => num cs lo (hi - 1) ws).map .int := by rw [List.map_map]; rfl
  rw [e]
  have on : ∀ n ∈ (S.map fun ws => num cs lo (hi - 1) ws), LadOk n lo (hi - 1) := fun n hn => by
    obtain ⟨ws, _, rfl⟩ := List.mem_map.mp hn
    have := num_le' (cs := cs) (ws := ws) (lo := lo) (hi := hi - 1) (by omega)
    exact ⟨h0, this.1, this.2, by omega⟩
  have ln : (S.map fun ws => num cs lo (hi - 1) ws).length ≤ 4 := by rw [List.length_map]; exact ls
  generalize (S.map fun ws => num cs lo (hi - 1) ws) = ns at *
  refine ix rfl (ix rfl (ix rfl ⟨⟨by rw [List.length_map]; omega, fun i hi => by rw [List.mem_singleton.mp hi]; trivial⟩, ?_⟩))
  refine lc_map (ladDD b lo (hi - 1)) _ _ _ (fun d hd K hK => ?_) fun res er => ?_
  · obtain ⟨n, hn, rfl⟩ := List.mem_map.mp hd
    exact ⟨show 4 < 5 by decide, ix rfl (ix rfl (ix rfl ⟨rfl, w_laddered sb (on n hn) _ hK⟩))⟩
  · have e1 : res = ns.map (ladD b lo (hi - 1)) := by
      rw [er, List.nil_append, List.map_map]
      rfl
    subst e1
    refine ⟨show 3 < 5 by decide, ?_⟩
    exact ix rfl (ix rfl (ix rfl (ix rfl ⟨rfl, w_laddered sa ⟨h0, m0, m1, by omega⟩ _ ⟨rfl, w_first_from sa sb ⟨h0, m0, m1, by omega⟩ (by omega) on ln _ h⟩⟩)))
end Lb

set_option Elab.async false
set_option linter.all false
set_option maxRecDepth 100000
set_option maxHeartbeats 4000000
set_option pp.maxSteps 600
namespace Lb
open PySem PySem.Spec PyProof.Rows L2 Pq
/-! ### tables as functions, what is above -/
theorem radd_le {a b c d : Rat} (h1 : a ≤ b) (h2 : c ≤ d) : a + c ≤ b + d := by grind
theorem rpow_add (x : Rat) (m : Nat) : ∀ k : Nat, x ^ (m + k) = x ^ m * x ^ k
  | 0 => by rw [Rat.pow_zero, Nat.add_zero, Rat.mul_one]
  | k + 1 => by rw [← Nat.add_assoc, Rat.pow_succ, Rat.pow_succ, rpow_add x m k]; grind
def posR (q : Rat) : Rat := if 0 < q then q else 0
theorem posR0 (q : Rat) : 0 ≤ posR q := by
  unfold posR
  split
  · exact Rat.le_of_lt (by assumption)
  · exact Rat.le_refl
theorem posR_le {q r : Rat} (h : q ≤ r) (h0 : 0 ≤ r) : posR q ≤ r := by
  unfold posR
  split
  · exact h
  · exact h0
/-- the table of f, noughts left out -/
def tb (lo hi : Int) (f : Int → Rat) : Pr := ((rgI lo hi).filter fun y => decide (0 < f y)).map fun y => (y, f y)
/-- what is above F g -/
def exc (lo hi : Int) (F : Rat) (f g : Int → Rat) : Rat := qsum ((rgI lo hi).map fun y => posR (f y - F * g y))
theorem qsum_le {α : Type} (f g : α → Rat) : ∀ L : List α, (∀ x ∈ L, f x ≤ g x) → qsum (L.map f) ≤ qsum (L.map g)
  | [], _ => Rat.le_refl
  | x :: L, h => radd_le (h x List.mem_cons_self) (qsum_le f g L fun y hy => h y (List.mem_cons_of_mem _ hy))
theorem qsum0 {α : Type} (f : α → Rat) : ∀ L : List α, (∀ x ∈ L, 0 ≤ f x) → 0 ≤ qsum (L.map f)
  | [], _ => Rat.le_refl
  | x :: L, h => Rat.add_nonneg (h x List.mem_cons_self) (qsum0 f L fun y hy => h y (List.mem_cons_of_mem _ hy))
theorem qsum_zero {α : Type} (f : α → Rat) : ∀ L : List α, (∀ x ∈ L, f x = 0) → qsum (L.map f) = 0
  | [], _ => rfl
  | x :: L, h => by
    show f x + qsum (L.map f) = 0
    rw [h x List.mem_cons_self, qsum_zero f L fun y hy => h y (List.mem_cons_of_mem _ hy), Rat.zero_add]
theorem qsum_addf {α : Type} (f g : α → Rat) : ∀ L : List α, qsum (L.map fun x => f x + g x) = qsum (L.map f) + qsum (L.map g)
  | [] => by show (0 : Rat) = 0 + 0; rw [Rat.add_zero]
  | x :: L => by
    show f x + g x + qsum (L.map fun x => f x + g x) = f x + qsum (L.map f) + (g x + qsum (L.map g))
    rw [qsum_addf f g L]
    grind
theorem qsum_mulf {α : Type} (c : Rat) (f : α → Rat) : ∀ L : List α, qsum (L.map fun x => c * f x) = c * qsum (L.map f)
  | [] => by show (0 : Rat) = c * 0; rw [Rat.mul_zero]
  | x :: L => by
    show c * f x + qsum (L.map fun x => c * f x) = c * (f x + qsum (L.map f))
    rw [qsum_mulf c f L]
    grind
/-- sums change places -/
theorem qsum_swap {α β : Type} (f : α → β → Rat) : ∀ (L : List α) (M : List β), qsum (L.map fun x => qsum (M.map fun y => f x y)) = qsum (M.map fun y => qsum (L.map fun x => f x y))
  | [], M => by
    rw [qsum_zero (fun y => qsum (([] : List α).map fun x => f x y)) M (fun _ _ => rfl)]
    rfl
  | x :: L, M => by
    have e : (M.map fun y => qsum ((x :: L).map fun x => f x y)) = M.map fun y => f x y + qsum (L.map fun x => f x y) := rfl
    rw [e, qsum_addf]
    show _ + qsum (L.map fun x => qsum (M.map fun y => f x y)) = _
    rw [qsum_swap f L M]
theorem exc_le {lo hi : Int} {F : Rat} {f g ρ : Int → Rat} (h : ∀ y, lo ≤ y → y < hi → f y ≤ F * g y + ρ y) (h0 : ∀ y, lo ≤ y → y < hi → 0 ≤ ρ y) : exc lo hi F f g ≤ qsum ((rgI lo hi).map ρ) := by
  refine qsum_le _ _ _ fun y hy => ?_
  obtain ⟨a, b⟩ := mem_rgI.mp hy
  refine posR_le ?_ (h0 y a b)
  have := h y a b
  grind
theorem exc_zero {lo hi : Int} {F : Rat} {f g : Int → Rat} (h : ∀ y, lo ≤ y → y < hi → f y ≤ F * g y) : exc lo hi F f g = 0 := by
  refine qsum_zero _ _ fun y hy => ?_
  obtain ⟨a, b⟩ := mem_rgI.mp hy
  have := h y a b
  unfold posR
  rw [if_neg]
  intro z
  grind
/-! ### ladders with one member more -/
def cE (a : Rat) (e : Bool) : Rat := (if e then 1 else 1 - a) / (1 + a)
theorem cE0 {a : Rat} (s : St a) (e : Bool) : 0 ≤ cE a e := by
  have p := s.p0
  have l := s.l1
  have i : 0 ≤ (1 + a)⁻¹ := Rat.le_of_lt (Rat.inv_pos.mpr (by grind))
  unfold cE
  rw [Rat.div_def]
  refine Rat.mul_nonneg ?_ i
  cases e <;> simp <;> grind
theorem lad_form {a : Rat} {n lo hi y : Int} (s : St a) (o : LadOk n lo hi) (h1 : lo ≤ y) (h2 : y ≤ hi) : ladS a n lo hi y = cE a (decide (y = lo ∨ y = hi)) * a ^ (y - n).natAbs := by
  have o2 := o.ln; have o3 := o.nh
  unfold ladS cE
  by_cases c : y = lo
  · rw [if_pos c, decide_eq_true (.inl c), if_pos rfl]
    unfold tlR
    rw [if_pos (by omega), show (n - lo).toNat = (y - n).natAbs by omega]
  · by_cases d : y = hi
    · rw [if_neg c, if_pos d, decide_eq_true (.inr d), if_pos rfl]
      unfold tlR
      rw [if_pos (by omega), show (hi - n).toNat = (y - n).natAbs by omega]
    · rw [if_neg c, if_neg d, decide_eq_false (fun z => z.elim c d)]
      rfl
theorem pow_anti {a : Rat} (s : St a) {i j : Nat} (h : i ≤ j) : a ^ j ≤ a ^ i := by
  obtain ⟨k, rfl⟩ := Nat.exists_eq_add_of_le h
  induction k with
  | zero => exact Rat.le_refl
  | succ k ih =>
    have ih := ih (by omega)
    rw [← Nat.add_assoc, Rat.pow_succ]
    have p := pow0 (Rat.le_of_lt s.p0) (i + k)
    have l := s.l1
    have : a ^ (i + k) * a ≤ a ^ (i + k) * 1 := Rat.mul_le_mul_of_nonneg_left (Rat.le_of_lt l) p
    rw [Rat.mul_one] at this
    exact Rat.le_trans this ih
theorem inv_mul_pow {a : Rat} (s : St a) : ∀ w : Nat, a⁻¹ ^ w * a ^ w = 1
  | 0 => by rw [Rat.pow_zero, Rat.pow_zero, Rat.mul_one]
  | w + 1 => by
    have ih := inv_mul_pow s w
    have p : a ≠ 0 := fun z => by have := s.p0; grind
    have : a⁻¹ * a = 1 := Rat.inv_mul_cancel _ p
    rw [Rat.pow_succ, Rat.pow_succ]
    generalize a⁻¹ ^ w = A at *
    generalize a ^ w = B at *
    grind
theorem invp0 {a : Rat} (s : St a) (w : Nat) : 0 ≤ a⁻¹ ^ w := pow0 (Rat.le_of_lt (inv_pos s)) w
theorem one_le_inv {a : Rat} (s : St a) (w : Nat) : 1 ≤ a⁻¹ ^ w := by
  have e := inv_mul_pow s w
  have l := pow_anti s (Nat.zero_le w)
  rw [Rat.pow_zero] at l
  have p := invp0 s w
  have := Rat.mul_le_mul_of_nonneg_left l p
  rw [e, Rat.mul_one] at this
  exact this
/-- a ** i is at most (1/a) ** w a ** j -/
theorem pow_far {a : Rat} (s : St a) {i j w : Nat} (h : j ≤ i + w) : a ^ i ≤ a⁻¹ ^ w * a ^ j := by
  have e := inv_mul_pow s w
  have l := pow_anti s h
  have p := invp0 s w
  have := Rat.mul_le_mul_of_nonneg_left l p
  rw [rpow_add] at this
  generalize a⁻¹ ^ w = A at *
  generalize a ^ w = B at *
  generalize a ^ i = C at *
  generalize a ^ j = D at *
  have e2 : A * (C * B) = C * (A * B) := by grind
  rw [e2, e, Rat.mul_one] at this
  exact this
theorem lad_far {a : Rat} {n n' lo hi y : Int} {w : Nat} (s : St a) (o : LadOk n lo hi) (o' : LadOk n' lo hi) (h1 : lo ≤ y) (h2 : y ≤ hi) (h : (n - n').natAbs ≤ w) : ladS a n lo hi y ≤ a⁻¹ ^ w * ladS a n' lo hi y := by
  rw [lad_form s o h1 h2, lad_form s o' h1 h2]
  have p := pow_far s (i := (y - n).natAbs) (j := (y - n').natAbs) (w := w) (by omega)
  have := Rat.mul_le_mul_of_nonneg_left p (cE0 s (decide (y = lo ∨ y = hi)))
  generalize cE a (decide (y = lo ∨ y = hi)) = c at *
  generalize a ^ (y - n).natAbs = A at *
  generalize a ^ (y - n').natAbs = B at *
  generalize a⁻¹ ^ w = D at *
  have e : D * (c * B) = c * (D * B) := by grind
  rw [e]
  exact this
/-- a ladder's share at y -/
def laF (a : Rat) (n lo hi y : Int) : Rat := ((rgS a n lo hi y : Int) : Rat) / ((rgB a lo hi : Int) : Rat)
theorem laF_pos {a : Rat} {n lo hi y : Int} (s : St a) : 0 < laF a n lo hi y := by
  unfold laF
  rw [Rat.div_def]
  exact Rat.mul_pos (cast_pos (rgS_pos s)) (Rat.inv_pos.mpr (cast_pos (rgB_pos s)))
theorem laF_lad {a : Rat} {n lo hi y : Int} (s : St a) (o : LadOk n lo hi) (c : lo ≠ hi) (h1 : lo ≤ y) (h2 : y ≤ hi) : laF a n lo hi y = ladS a n lo hi y := by
  unfold laF rgS rgB
  rw [if_neg c, if_neg c, sh_div s o h1 h2]
theorem laF_far {a : Rat} {n n' lo hi y : Int} {w : Nat} (s : St a) (o : LadOk n lo hi) (o' : LadOk n' lo hi) (h1 : lo ≤ y) (h2 : y ≤ hi) (h : (n - n').natAbs ≤ w) : laF a n lo hi y ≤ a⁻¹ ^ w * laF a n' lo hi y := by
  by_cases c : lo = hi
  · subst c
    have e : laF a n lo lo y = 1 := by
      unfold laF rgS rgB
      rw [if_pos rfl, if_pos rfl, Rat.intCast_one]
      grind
    have e' : laF a n' lo lo y = 1 := by
      unfold laF rgS rgB
      rw [if_pos rfl, if_pos rfl, Rat.intCast_one]
      grind
    rw [e, e', Rat.mul_one]
    exact one_le_inv s w
  · rw [laF_lad s o c h1 h2, laF_lad s o' c h1 h2]
    exact lad_far s o o' h1 h2 h
theorem laF_sum {a : Rat} {n lo hi : Int} (s : St a) (o : LadOk n lo hi) : qsum ((rgI lo (hi + 1)).map (laF a n lo hi)) = 1 := by
  have b0 := rgB_pos (lo := lo) (hi := hi) s
  show qsum ((rgI lo (hi + 1)).map fun y => ((rgS a n lo hi y : Int) : Rat) / ((rgB a lo hi : Int) : Rat)) = 1
  rw [qsum_int _ b0, rg_whole s o]
  have := cast_ne b0
  grind
theorem la_tb {a : Rat} {n lo hi : Int} (s : St a) (o : LadOk n lo hi) : ladL a n lo hi = tb lo (hi + 1) (laF a n lo hi) := by
  rw [lad_U s o]
  unfold tb
  rw [List.filter_eq_self.mpr (fun y _ => decide_eq_true (laF_pos s))]
  rfl
end Lb

set_option Elab.async false
set_option linter.all false
set_option maxRecDepth 100000
set_option maxHeartbeats 4000000
set_option pp.maxSteps 600
namespace Lb
open PySem PySem.Spec PyProof.Rows L2 Pq
/-! ### chooses -/
def chF (a : Rat) (ns : List Int) (k : Int) : Rat := (chS a ns).getD k.toNat 0 * (sumR (chS a ns))⁻¹
theorem pow_mono_inv {a : Rat} (s : St a) {i j : Nat} (h : i ≤ j) : a⁻¹ ^ i ≤ a⁻¹ ^ j := by
  obtain ⟨k, rfl⟩ := Nat.exists_eq_add_of_le h
  rw [rpow_add]
  have := Rat.mul_le_mul_of_nonneg_left (one_le_inv s k) (invp0 s i)
  rw [Rat.mul_one] at this
  exact this
theorem sumR_le : ∀ {L M : List Rat} (c : Rat), L.length = M.length → (∀ i (h : i < L.length) (h' : i < M.length), L[i] ≤ c * M[i]) → sumR L ≤ c * sumR M
  | [], [], c, _, _ => by show (0 : Rat) ≤ c * 0; rw [Rat.mul_zero]; exact Rat.le_refl
  | x :: L, y :: M, c, l, h => by
    have a := h 0 (by simp) (by simp)
    have b := sumR_le (L := L) (M := M) c (by simpa using l) fun i h1 h2 => by
      have := h (i + 1) (by simpa using h1) (by simpa using h2)
      simpa using this
    have a : x ≤ c * y := a
    show x + sumR L ≤ c * (y + sumR M)
    have e : c * (y + sumR M) = c * y + c * sumR M := Rat.mul_add _ _ _
    rw [e]
    exact radd_le a b
theorem ch_le {A S A' S' c : Rat} (S0 : 0 < S) (S0' : 0 < S') (A0 : 0 ≤ A') (c0 : 0 ≤ c) (hA : A ≤ A') (hS : S' ≤ c * S) : A * S⁻¹ ≤ c * (A' * S'⁻¹) := by
  have n1 : S * S⁻¹ = 1 := Rat.mul_inv_cancel _ (fun z => by rw [z] at S0; exact absurd S0 (by decide))
  have n2 : S' * S'⁻¹ = 1 := Rat.mul_inv_cancel _ (fun z => by rw [z] at S0'; exact absurd S0' (by decide))
  have h1 : A * S' ≤ A' * S' := Rat.mul_le_mul_of_nonneg_right hA (Rat.le_of_lt S0')
  have h2 : A' * S' ≤ A' * (c * S) := Rat.mul_le_mul_of_nonneg_left hS A0
  have h3 := Rat.mul_le_mul_of_nonneg_right (Rat.le_trans h1 h2) (Rat.mul_nonneg (Rat.le_of_lt (Rat.inv_pos.mpr S0)) (Rat.le_of_lt (Rat.inv_pos.mpr S0')))
  generalize S⁻¹ = I at *
  generalize S'⁻¹ = J at *
  have e1 : A * S' * (I * J) = A * I := by grind
  have e2 : A' * (c * S) * (I * J) = c * (A' * J) := by grind
  rw [e1, e2] at h3
  exact h3
theorem chS_len (a : Rat) (ns : List Int) : (chS a ns).length = ns.length := by unfold chS; rw [List.length_map]
theorem chS_at (a : Rat) (ns : List Int) {i : Nat} (h : i < ns.length) : (chS a ns).getD i 0 = a⁻¹ ^ (ns[i]).toNat := by
  unfold chS
  rw [List.getD_eq_getElem?_getD, List.getElem?_map, List.getElem?_eq_getElem h]
  rfl
/-- the shares of one crowd and of that with a member more -/
theorem chF_far {a : Rat} {ns ms : List Int} {w : Nat} (s : St a) (ne : ns ≠ []) (hl : ms.length = ns.length) (h0 : ∀ n ∈ ns, 0 ≤ n) (h : ∀ i (h1 : i < ns.length) (h2 : i < ms.length), ns[i] ≤ ms[i] ∧ ms[i] ≤ ns[i] + w) {k : Int} (k0 : 0 ≤ k) (k1 : k < ns.length) :
    chF a ns k ≤ a⁻¹ ^ w * chF a ms k ∧ chF a ms k ≤ a⁻¹ ^ w * chF a ns k := by
  have me : ms ≠ [] := fun z => ne (List.length_eq_zero_iff.mp (by rw [← hl, z]; rfl))
  have S0 : 0 < sumR (chS a ns) := sumR_pos (ch_pos s) (fun z => ne (List.map_eq_nil_iff.mp z))
  have S0' : 0 < sumR (chS a ms) := sumR_pos (ch_pos s) (fun z => me (List.map_eq_nil_iff.mp z))
  have up : ∀ i (h1 : i < ns.length) (h2 : i < ms.length), a⁻¹ ^ (ns[i]).toNat ≤ a⁻¹ ^ (ms[i]).toNat ∧ a⁻¹ ^ (ms[i]).toNat ≤ a⁻¹ ^ w * a⁻¹ ^ (ns[i]).toNat := fun i h1 h2 => by
    have hh := h i h1 h2
    have hn := h0 _ (List.getElem_mem h1)
    refine ⟨pow_mono_inv s (by omega), ?_⟩
    rw [← rpow_add]
    exact pow_mono_inv s (by omega)
  have k2 : k.toNat < ns.length := by omega
  have k3 : k.toNat < ms.length := by omega
  have u := up k.toNat k2 k3
  have s1 : sumR (chS a ns) ≤ 1 * sumR (chS a ms) := sumR_le 1 (by rw [chS_len, chS_len, hl]) fun i h1 h2 => by
    rw [chS_len] at h1 h2
    have := (up i h1 h2).1
    rw [Rat.one_mul]
    simp only [chS, List.getElem_map]
    exact this
  have s2 : sumR (chS a ms) ≤ a⁻¹ ^ w * sumR (chS a ns) := sumR_le _ (by rw [chS_len, chS_len, hl]) fun i h1 h2 => by
    rw [chS_len] at h1 h2
    have := (up i h2 h1).2
    simp only [chS, List.getElem_map]
    exact this
  unfold chF
  rw [chS_at a ns k2, chS_at a ms k3]
  refine ⟨ch_le S0 S0' (invp0 s _) (invp0 s w) u.1 s2, ?_⟩
  have v := ch_le S0' S0 (Rat.mul_nonneg (invp0 s w) (invp0 s _)) (by decide : (0 : Rat) ≤ 1) u.2 s1
  rw [Rat.one_mul, Rat.mul_assoc] at v
  exact v
theorem qsum_getD : ∀ (L : List Rat) (c : Rat), qsum ((rgI 0 L.length).map fun k => L.getD k.toNat 0 * c) = sumR L * c := by
  have gen : ∀ (L : List Rat) (j : Int) (c : Rat), qsum ((rgI j (j + L.length)).map fun k => L.getD (k - j).toNat 0 * c) = sumR L * c := fun L => by
    induction L with
    | nil =>
      intro j c
      rw [rgI_nil (by simp)]
      show (0 : Rat) = 0 * c
      rw [Rat.zero_mul]
    | cons x L ih =>
      intro j c
      rw [rgI_cons (a := j) (b := j + ((x :: L).length : Nat)) (by rw [List.length_cons]; omega), List.map_cons]
      have e : ((rgI (j + 1) (j + ((x :: L).length : Nat))).map fun k => (x :: L).getD (k - j).toNat 0 * c) = (rgI (j + 1) (j + 1 + (L.length : Nat))).map fun k => L.getD (k - (j + 1)).toNat 0 * c := by
        rw [show j + ((x :: L).length : Nat) = j + 1 + (L.length : Nat) by rw [List.length_cons]; omega]
        apply List.map_congr_left
        intro k hk
        have := mem_rgI.mp hk
        rw [show (k - j).toNat = (k - (j + 1)).toNat + 1 by omega, List.getD_cons_succ]
      show (x :: L).getD (j - j).toNat 0 * c + qsum _ = _
      rw [e, ih (j + 1) c, show (j - j).toNat = 0 by omega]
      show x * c + sumR L * c = (x + sumR L) * c
      rw [Rat.add_mul]
  intro L c
  have := gen L 0 c
  rw [Int.zero_add] at this
  rw [← this]
  congr 1
  apply List.map_congr_left
  intro k _
  rw [Int.sub_zero]
theorem chF_sum {a : Rat} {ns : List Int} (s : St a) (ne : ns ≠ []) : qsum ((rgI 0 ns.length).map (chF a ns)) = 1 := by
  have S0 : 0 < sumR (chS a ns) := sumR_pos (ch_pos s) (fun z => ne (List.map_eq_nil_iff.mp z))
  have := qsum_getD (chS a ns) (sumR (chS a ns))⁻¹
  rw [chS_len] at this
  show qsum ((rgI 0 ns.length).map fun k => (chS a ns).getD k.toNat 0 * (sumR (chS a ns))⁻¹) = 1
  rw [this]
  exact Rat.mul_inv_cancel _ (fun z => by rw [z] at S0; exact absurd S0 (by decide))
theorem chF_pos {a : Rat} {ns : List Int} (s : St a) (ne : ns ≠ []) {k : Int} (k0 : 0 ≤ k) (k1 : k < ns.length) : 0 < chF a ns k := by
  have S0 : 0 < sumR (chS a ns) := sumR_pos (ch_pos s) (fun z => ne (List.map_eq_nil_iff.mp z))
  unfold chF
  rw [chS_at a ns (by omega : k.toNat < ns.length)]
  exact Rat.mul_pos (Rat.pow_pos (inv_pos s)) (Rat.inv_pos.mpr S0)
theorem ch_tb {a : Rat} {ns : List Int} (s : St a) (ne : ns ≠ []) : chT a ns = (tb 0 ns.length (chF a ns)).map en := by
  unfold tb chT
  rw [List.filter_eq_self.mpr (fun y hy => by have := mem_rgI.mp hy; exact decide_eq_true (chF_pos s ne this.1 this.2)), List.map_map]
  rfl
/-! ### flats -/
def cV (lo hi : Int) (V : List Int) (y : Int) : Nat := (V.filter fun v => decide (cutI v lo hi = y)).length
theorem cV_app (lo hi : Int) (V W : List Int) (y : Int) : cV lo hi (V ++ W) y = cV lo hi V y + cV lo hi W y := by
  unfold cV
  rw [List.filter_append, List.length_append]
theorem cnt_cV (r n lo hi y : Int) : Lb.cnt n lo hi (rgI (0 - r) (r + 1)) y = cV lo hi (rgI (n - r) (n + r + 1)) y := by
  have e : rgI (n - r) (n + r + 1) = (rgI (0 - r) (r + 1)).map fun u => n + u := by
    unfold rgI
    rw [List.map_map, show (n + r + 1 - (n - r)).toNat = (r + 1 - (0 - r)).toNat by omega]
    apply List.map_congr_left
    intro i _
    show n - r + (i : Int) = n + (0 - r + (i : Int))
    omega
  rw [e]
  unfold Lb.cnt cV
  rw [List.filter_map, List.length_map]
  rfl
theorem cV_sum {lo hi : Int} (h : lo ≤ hi) : ∀ V : List Int, qsum ((rgI lo (hi + 1)).map fun y => ((cV lo hi V y : Nat) : Rat)) = ((V.length : Nat) : Rat)
  | [] => qsum_zero _ _ fun _ _ => rfl
  | v :: V => by
    have e : ((rgI lo (hi + 1)).map fun y => ((cV lo hi (v :: V) y : Nat) : Rat)) = (rgI lo (hi + 1)).map fun y => (if cutI v lo hi = y then (1 : Rat) else 0) + ((cV lo hi V y : Nat) : Rat) := by
      apply List.map_congr_left
      intro y _
      unfold cV
      rw [List.filter_cons]
      by_cases c : cutI v lo hi = y
      · rw [if_pos (decide_eq_true c), if_pos c, List.length_cons, Rat.natCast_add]
        have : ((1 : Nat) : Rat) = 1 := rfl
        rw [this, Rat.add_comm]
      · rw [if_neg (by rw [decide_eq_false c]; exact Bool.false_ne_true), if_neg c, Rat.zero_add]
    have one : ∀ (L : List Int) (z : Int), L.Nodup → z ∈ L → qsum (L.map fun y => if z = y then (1 : Rat) else 0) = 1 := fun L => by
      induction L with
      | nil => intro z _ h; cases h
      | cons x L ih =>
        intro z nd h
        rw [List.nodup_cons] at nd
        show (if z = x then (1 : Rat) else 0) + qsum _ = 1
        by_cases c : z = x
        · subst c
          rw [if_pos rfl, qsum_zero (fun y => if z = y then (1 : Rat) else 0) L (fun y hy => if_neg (fun (e : z = y) => nd.1 (by rw [e]; exact hy))), Rat.add_zero]
        · rw [if_neg c, ih z nd.2 ((List.mem_cons.mp h).resolve_left c), Rat.zero_add]
    rw [e, qsum_addf, cV_sum h V, one _ _ (rgI_nodup _ _) (mem_rgI.mpr (by unfold cutI; omega)), List.length_cons, Rat.natCast_add]
    have : ((1 : Nat) : Rat) = 1 := rfl
    rw [this, Rat.add_comm]
def flF (r n lo hi y : Int) : Rat := ((cV lo hi (rgI (n - r) (n + r + 1)) y : Nat) : Rat) / ((2 * r + 1 : Int) : Rat)
end Lb

set_option Elab.async false
set_option linter.all false
set_option maxRecDepth 100000
set_option maxHeartbeats 4000000
set_option pp.maxSteps 600
namespace Lb
open PySem PySem.Spec PyProof.Rows L2 Pq
theorem over_d {d : Int} (h : 0 < d) (V : List Int) {lo hi : Int} (hl : lo ≤ hi) : qsum ((rgI lo (hi + 1)).map fun y => ((cV lo hi V y : Nat) : Rat) / (d : Rat)) = ((V.length : Nat) : Rat) / (d : Rat) := by
  have e : ((rgI lo (hi + 1)).map fun y => ((cV lo hi V y : Nat) : Rat) / (d : Rat)) = (rgI lo (hi + 1)).map fun y => (d : Rat)⁻¹ * ((cV lo hi V y : Nat) : Rat) := by
    apply List.map_congr_left
    intro y _
    rw [Rat.div_def, Rat.mul_comm]
  rw [e, qsum_mulf, cV_sum hl, Rat.div_def, Rat.mul_comm]
theorem flF_sum {r n lo hi : Int} (r0 : 0 ≤ r) (hl : lo ≤ hi) : qsum ((rgI lo (hi + 1)).map (flF r n lo hi)) = 1 := by
  have d0 : (0 : Int) < 2 * r + 1 := by omega
  have := over_d d0 (rgI (n - r) (n + r + 1)) hl
  show qsum ((rgI lo (hi + 1)).map fun y => ((cV lo hi (rgI (n - r) (n + r + 1)) y : Nat) : Rat) / ((2 * r + 1 : Int) : Rat)) = 1
  rw [this, rgI_len, show n + r + 1 - (n - r) = 2 * r + 1 by omega]
  have e : (((2 * r + 1).toNat : Nat) : Rat) = ((2 * r + 1 : Int) : Rat) := by
    rw [← Rat.intCast_natCast]
    congr 1
    omega
  rw [e]
  have := cast_ne d0
  grind
theorem fl_tb {r n lo hi : Int} : flT r n lo hi = (tb lo (hi + 1) (flF r n lo hi)).map en ∨ ¬ 0 ≤ r := by
  by_cases r0 : 0 ≤ r
  · refine .inl ?_
    have d0 : (0 : Int) < 2 * r + 1 := by omega
    unfold flT tb
    rw [List.map_map]
    have e : ((rgI lo (hi + 1)).filter fun y => decide (0 < (Lb.cnt n lo hi (rgI (0 - r) (r + 1)) y : Int))) = (rgI lo (hi + 1)).filter fun y => decide (0 < flF r n lo hi y) := by
      apply List.filter_congr
      intro y _
      rw [cnt_cV]
      apply decide_eq_decide.mpr
      unfold flF
      rw [Rat.lt_div_iff (cast_pos d0), Rat.zero_mul, ← Rat.intCast_natCast]
      constructor
      · intro c
        exact cast_pos c
      · intro c
        have z : (0 : Rat) = ((0 : Int) : Rat) := rfl
        rw [z] at c
        exact Rat.intCast_lt_intCast.mp c
    rw [e]
    apply List.map_congr_left
    intro y _
    show en (y, (((Lb.cnt n lo hi (rgI (0 - r) (r + 1)) y : Nat) : Int) : Rat) / _) = en (y, flF r n lo hi y)
    rw [cnt_cV, Rat.intCast_natCast]
    rfl
  · exact .inr r0
theorem fl_extra {r n n' lo hi w : Int} (r0 : 0 ≤ r) (w0 : 0 ≤ w) (h1 : n' ≤ n + w) (h2 : n ≤ n' + w) : ∃ X : List Int, (∀ y, cV lo hi (rgI (n - r) (n + r + 1)) y ≤ cV lo hi (rgI (n' - r) (n' + r + 1)) y + cV lo hi X y) ∧ (X.length : Int) ≤ min w (2 * r + 1) := by
  by_cases big : n + 2 * r + 1 < n' ∨ n' + 2 * r + 1 < n
  · refine ⟨rgI (n - r) (n + r + 1), fun y => by omega, ?_⟩
    rw [rgI_len]
    omega
  · rcases Int.le_total n n' with c | c
    · refine ⟨rgI (n - r) (n' - r), fun y => ?_, by rw [rgI_len]; omega⟩
      rw [rgI_app (a := n - r) (b := n' - r) (c := n + r + 1) (by omega) (by omega), rgI_app (a := n' - r) (b := n + r + 1) (c := n' + r + 1) (by omega) (by omega), cV_app, cV_app]
      omega
    · refine ⟨rgI (n' + r + 1) (n + r + 1), fun y => ?_, by rw [rgI_len]; omega⟩
      rw [rgI_app (a := n - r) (b := n' + r + 1) (c := n + r + 1) (by omega) (by omega), rgI_app (a := n' - r) (b := n - r) (c := n' + r + 1) (by omega) (by omega), cV_app, cV_app]
      omega
theorem cast_leN {a b : Nat} (h : a ≤ b) : (a : Rat) ≤ (b : Rat) := by
  rw [← Rat.intCast_natCast, ← Rat.intCast_natCast]
  exact Rat.intCast_le_intCast.mpr (by omega)
theorem div_mono {a b d : Rat} (h : a ≤ b) (d0 : 0 < d) : a / d ≤ b / d := by
  rw [Rat.div_def, Rat.div_def]
  exact Rat.mul_le_mul_of_nonneg_right h (Rat.le_of_lt (Rat.inv_pos.mpr d0))
theorem fl_far {r n n' lo hi w : Int} (r0 : 0 ≤ r) (hl : lo ≤ hi) (w0 : 0 ≤ w) (h1 : n' ≤ n + w) (h2 : n ≤ n' + w) : exc lo (hi + 1) 1 (flF r n lo hi) (flF r n' lo hi) ≤ ((min w (2 * r + 1) : Int) : Rat) / ((2 * r + 1 : Int) : Rat) := by
  have d0 : (0 : Int) < 2 * r + 1 := by omega
  have d1 := cast_pos d0
  obtain ⟨X, hX, lX⟩ := fl_extra (lo := lo) (hi := hi) r0 w0 h1 h2
  have step := exc_le (lo := lo) (hi := hi + 1) (F := 1) (f := flF r n lo hi) (g := flF r n' lo hi) (ρ := fun y => ((cV lo hi X y : Nat) : Rat) / ((2 * r + 1 : Int) : Rat)) (fun y _ _ => by
    rw [Rat.one_mul]
    unfold flF
    have := cast_leN (hX y)
    rw [Rat.natCast_add] at this
    have := div_mono this d1
    rw [Rat.div_def (_ + _), Rat.add_mul, ← Rat.div_def, ← Rat.div_def] at this
    exact this) (fun y _ _ => by
    have := div_mono (cast_leN (Nat.zero_le (cV lo hi X y))) d1
    have z : ((0 : Nat) : Rat) = 0 := rfl
    rw [z, Rat.div_def, Rat.zero_mul] at this
    exact this)
  rw [over_d d0 X hl] at step
  refine Rat.le_trans step (div_mono ?_ d1)
  rw [← Rat.intCast_natCast]
  exact Rat.intCast_le_intCast.mpr lX
end Lb

set_option Elab.async false
set_option linter.all false
set_option maxRecDepth 100000
set_option maxHeartbeats 4000000
set_option pp.maxSteps 600
namespace Lb
open PySem PySem.Spec PyProof.Rows L2 Pq
/-! ### tails -/
theorem tl_anti1 {a : Rat} (s : St a) (k : Int) : tlR a (k + 1) ≤ tlR a k := by
  have e := tl_step s (k + 1)
  rw [show k + 1 - 1 = k by omega] at e
  have p := shR_pos s k
  rw [e]
  grind
theorem tl_anti {a : Rat} (s : St a) : ∀ (d : Nat) (k : Int), tlR a (k + d) ≤ tlR a k
  | 0, k => by rw [show k + ((0 : Nat) : Int) = k by omega]; exact Rat.le_refl
  | d + 1, k => by
    have h := tl_anti1 s (k + d)
    rw [show k + ((d + 1 : Nat) : Int) = k + d + 1 by omega]
    exact Rat.le_trans h (tl_anti s d k)
theorem tl_down {a : Rat} (s : St a) {j k : Int} (h : j ≤ k) : tlR a k ≤ tlR a j := by
  have := tl_anti s (k - j).toNat j
  rwa [show j + ((k - j).toNat : Int) = k by omega] at this
theorem tl_pos {a : Rat} (s : St a) (k : Int) : 0 < tlR a k := by
  by_cases c : 0 ≤ k
  · exact tlR_pos s c
  · have h := tl_down s (show k ≤ 0 by omega)
    have p := tlR_pos s (show (0 : Int) ≤ 0 by omega)
    grind
theorem tl_le1 {a : Rat} (s : St a) (k : Int) : tlR a k ≤ 1 := by
  have e := tl_flip s k
  have p := tl_pos s (1 - k)
  grind
theorem tl_far1 {a : Rat} (s : St a) (k : Int) : tlR a k ≤ a⁻¹ * tlR a (k + 1) := by
  have p := s.p0
  have l := s.l1
  have o := s.one_add
  have an : a ≠ 0 := fun z => by grind
  have ia : a⁻¹ * a = 1 := Rat.inv_mul_cancel _ an
  have i1 : 1 ≤ a⁻¹ := by
    have := one_le_inv s 1
    rw [show (1 : Nat) = 0 + 1 by rfl, Rat.pow_succ, Rat.pow_zero, Rat.one_mul] at this
    exact this
  by_cases c : 0 ≤ k
  · unfold tlR
    rw [if_pos c, if_pos (by omega), show (k + 1).toNat = k.toNat + 1 by omega, Rat.pow_succ]
    generalize a ^ k.toNat = P
    generalize a⁻¹ = I at *
    have e : I * (1 / (1 + a) * (P * a)) = 1 / (1 + a) * P * (I * a) := by grind
    rw [e, ia, Rat.mul_one]
    exact Rat.le_refl
  · have e := tl_step s (k + 1)
    rw [show k + 1 - 1 = k by omega] at e
    rw [e]
    have t0 : tlR a 0 ≤ tlR a (k + 1) := tl_down s (by omega)
    have e0 : tlR a 0 = (1 + a)⁻¹ := by
      unfold tlR
      rw [if_pos (by omega), show (0 : Int).toNat = 0 from rfl, Rat.pow_zero, Rat.mul_one, Rat.div_def, Rat.one_mul]
    have sh : shR a k ≤ (1 - a) * (1 + a)⁻¹ := by
      unfold shR
      have q := pow_le_one (Rat.le_of_lt p) (Rat.le_of_lt l) k.natAbs
      have q0 : 0 ≤ (1 - a) * (1 + a)⁻¹ := Rat.mul_nonneg (by grind) (Rat.le_of_lt (Rat.inv_pos.mpr (by grind)))
      have := Rat.mul_le_mul_of_nonneg_left q q0
      rw [Rat.mul_one] at this
      rw [Rat.div_def]
      exact this
    rw [e0] at t0
    have i0 : 0 ≤ (1 + a)⁻¹ := Rat.le_of_lt (Rat.inv_pos.mpr (by grind))
    -- (1/a - 1) tl(k+1) is at least (1 - a) / (1 + a)
    have d0 : 0 ≤ a⁻¹ - 1 := by grind
    have m1 := Rat.mul_le_mul_of_nonneg_left t0 d0
    have m2 : (1 - a) * (1 + a)⁻¹ ≤ (a⁻¹ - 1) * (1 + a)⁻¹ := by
      refine Rat.mul_le_mul_of_nonneg_right ?_ i0
      have : (1 - a) * 1 ≤ (1 - a) * a⁻¹ := Rat.mul_le_mul_of_nonneg_left i1 (by grind)
      have e3 : (1 - a) * a⁻¹ = a⁻¹ - 1 := by grind
      rw [e3, Rat.mul_one] at this
      exact this
    generalize tlR a (k + 1) = t at *
    generalize a⁻¹ = I at *
    generalize (1 + a)⁻¹ = J at *
    grind
theorem tl_far {a : Rat} (s : St a) : ∀ (w : Nat) (k : Int), tlR a k ≤ a⁻¹ ^ w * tlR a (k + w)
  | 0, k => by rw [Rat.pow_zero, Rat.one_mul, show k + ((0 : Nat) : Int) = k by omega]; exact Rat.le_refl
  | w + 1, k => by
    have h := tl_far s w k
    have h1 := tl_far1 s (k + w)
    have := Rat.mul_le_mul_of_nonneg_left h1 (invp0 s w)
    rw [Rat.pow_succ, Rat.mul_assoc, show k + ((w + 1 : Nat) : Int) = k + w + 1 by omega]
    exact Rat.le_trans h this
/-- with steepness at most a half, one is at most (1/a) ** 2w of the tail from w on -/
theorem tl_half {a : Rat} (s : St a) (h : 2 * a ≤ 1) {w : Nat} (w0 : 1 ≤ w) : 1 ≤ a⁻¹ ^ (2 * w) * tlR a w := by
  have p := s.p0
  have ew := inv_mul_pow s w
  have e : tlR a (w : Int) = (1 + a)⁻¹ * a ^ w := by
    unfold tlR
    rw [if_pos (by omega), Int.toNat_natCast, Rat.div_def, Rat.one_mul]
  have n1 : (1 + a) * (1 + a)⁻¹ = 1 := Rat.mul_inv_cancel _ s.one_add
  have b1 : 1 + a ≤ a⁻¹ ^ w := by
    have i2 : 2 ≤ a⁻¹ := by
      have an : a ≠ 0 := fun z => by grind
      have ia : a * a⁻¹ = 1 := Rat.mul_inv_cancel _ an
      have := Rat.mul_le_mul_of_nonneg_right h (Rat.le_of_lt (inv_pos s))
      have e2 : 2 * a * a⁻¹ = 2 * (a * a⁻¹) := Rat.mul_assoc _ _ _
      rw [e2, ia, Rat.one_mul, Rat.mul_one] at this
      exact this
    have m := pow_mono_inv s (show 1 ≤ w from w0)
    rw [show (1 : Nat) = 0 + 1 by rfl, Rat.pow_succ, Rat.pow_zero, Rat.one_mul] at m
    grind
  rw [e, show 2 * w = w + w by omega, rpow_add]
  have i0 : 0 ≤ (1 + a)⁻¹ := Rat.le_of_lt (Rat.inv_pos.mpr (by grind))
  have m := Rat.mul_le_mul_of_nonneg_right b1 i0
  rw [n1] at m
  generalize a⁻¹ ^ w = A at *
  generalize a ^ w = B at *
  generalize (1 + a)⁻¹ = J at *
  have e3 : A * A * (J * B) = (A * J) * (A * B) := by grind
  rw [e3, ew, Rat.mul_one]
  exact m
end Lb

set_option Elab.async false
set_option linter.all false
set_option maxRecDepth 100000
set_option maxHeartbeats 4000000
set_option pp.maxSteps 600
namespace Lb
open PySem PySem.Spec PyProof.Rows L2 Pq
/-! ### firsts as sums over the mark's rungs -/
def uQ (b : Rat) (n lo h m : Int) : Rat := ((up b n lo h m : Int) : Rat) / ((rgB b lo h : Int) : Rat)
def dQ (b : Rat) (n lo h m : Int) : Rat := ((dn b n lo h m : Int) : Rat) / ((rgB b lo h : Int) : Rat)
theorem uQ0 {b : Rat} {n lo h m : Int} (s : St b) : 0 ≤ uQ b n lo h m := div0 (sum0 s _) (rgB_pos s)
theorem dQ0 {b : Rat} {n lo h m : Int} (s : St b) : 0 ≤ dQ b n lo h m := div0 (sum0 s _) (rgB_pos s)
theorem ud1 {b : Rat} {n lo h m : Int} (s : St b) (o : LadOk n lo h) (h0 : lo ≤ m) (h1 : m ≤ h + 1) : uQ b n lo h m + dQ b n lo h m = 1 := by
  have e := up_dn s o h0 h1
  have b0 := cast_ne (rgB_pos (lo := lo) (hi := h) s)
  have e2 : ((up b n lo h m : Int) : Rat) + ((dn b n lo h m : Int) : Rat) = ((rgB b lo h : Int) : Rat) := by
    rw [← Rat.intCast_add, e]
  unfold uQ dQ
  grind
theorem dQ_lo {b : Rat} {n lo h : Int} : dQ b n lo h lo = 0 := by
  unfold dQ dn
  rw [rgI_nil (Int.le_refl lo)]
  show ((0 : Int) : Rat) / _ = 0
  have : ((0 : Int) : Rat) = 0 := rfl
  rw [this, Rat.div_def, Rat.zero_mul]
theorem uQ_lo {b : Rat} {n lo h : Int} (s : St b) (o : LadOk n lo h) : uQ b n lo h lo = 1 := by
  have := ud1 s o (Int.le_refl lo) (by have := o.ln; have := o.nh; omega)
  rw [dQ_lo, Rat.add_zero] at this
  exact this
theorem uQ_hi {b : Rat} {n lo h : Int} : uQ b n lo h (h + 1) = 0 := by
  unfold uQ up
  rw [rgI_nil (Int.le_refl _)]
  show ((0 : Int) : Rat) / _ = 0
  have : ((0 : Int) : Rat) = 0 := rfl
  rw [this, Rat.div_def, Rat.zero_mul]
/-- up to y -/
theorem la_part {a : Rat} {n lo hi y : Int} (s : St a) (o : LadOk n lo hi) (h0 : lo ≤ y) (h1 : y < hi) : qsum ((rgI lo (y + 1)).map (laF a n lo hi)) = tlR a (n - y) := by
  rw [← lad_part s o _ y rfl h0 h1]
  congr 1
  apply List.map_congr_left
  intro z hz
  have := mem_rgI.mp hz
  exact laF_lad s o (by omega) (by omega) (by omega)
theorem uQ_tl {b : Rat} {n lo h m : Int} (s : St b) (o : LadOk n lo h) (h0 : lo < m) (h1 : m ≤ h) : uQ b n lo h m = tlR b (m - n) := by
  have e := ud1 (m := m) s o (by omega) (by omega)
  have d : dQ b n lo h m = tlR b (n - (m - 1)) := by
    rw [← la_part s o (show lo ≤ m - 1 by omega) (by omega), show m - 1 + 1 = m by omega]
    show _ = qsum ((rgI lo m).map fun y => ((rgS b n lo h y : Int) : Rat) / ((rgB b lo h : Int) : Rat))
    rw [qsum_int _ (rgB_pos s)]
    rfl
  rw [d, show n - (m - 1) = 1 - (m - n) by omega, tl_flip s] at e
  grind
/-- where the sums stop, the mark at m -/
def cF (b : Rat) (lo h m : Int) : List Int → Int → Int → Rat
  | [], j, k => if j = k then 1 else 0
  | n :: r, j, k => (if j = k then uQ b n lo h m else 0) + dQ b n lo h m * cF b lo h m r (j + 1) k
theorem cF0 {b : Rat} {lo h m : Int} (s : St b) : ∀ (ns : List Int) (j k : Int), 0 ≤ cF b lo h m ns j k
  | [], j, k => by
    unfold cF
    split
    · decide
    · exact Rat.le_refl
  | n :: r, j, k => by
    unfold cF
    refine Rat.add_nonneg ?_ (Rat.mul_nonneg (dQ0 s) (cF0 s r _ _))
    split
    · exact uQ0 s
    · exact Rat.le_refl
theorem cF_low {b : Rat} {lo h m : Int} : ∀ (ns : List Int) (j k : Int), k < j → cF b lo h m ns j k = 0
  | [], j, k, c => by unfold cF; rw [if_neg (by omega)]
  | n :: r, j, k, c => by unfold cF; rw [if_neg (by omega), cF_low r (j + 1) k (by omega), Rat.mul_zero, Rat.add_zero]
theorem cF_sum {b : Rat} {lo h m : Int} (s : St b) (h0 : lo ≤ m) (h1 : m ≤ h + 1) : ∀ (ns : List Int) (j : Int), (∀ n ∈ ns, LadOk n lo h) → qsum ((rgI j (j + ns.length + 1)).map (cF b lo h m ns j)) = 1
  | [], j, _ => by
    rw [show j + (([] : List Int).length : Int) + 1 = j + 1 by simp, rgI_one]
    show cF b lo h m [] j j + 0 = 1
    unfold cF
    rw [if_pos rfl, Rat.add_zero]
  | n :: r, j, o => by
    have ih := cF_sum s h0 h1 r (j + 1) fun x hx => o x (List.mem_cons_of_mem _ hx)
    rw [rgI_cons (a := j) (b := j + ((n :: r).length : Nat) + 1) (by omega), List.map_cons]
    show cF b lo h m (n :: r) j j + qsum _ = 1
    have e : ((rgI (j + 1) (j + ((n :: r).length : Nat) + 1)).map (cF b lo h m (n :: r) j)) = (rgI (j + 1) (j + 1 + (r.length : Nat) + 1)).map fun k => dQ b n lo h m * cF b lo h m r (j + 1) k := by
      rw [show j + ((n :: r).length : Nat) + 1 = j + 1 + (r.length : Nat) + 1 by rw [List.length_cons]; omega]
      apply List.map_congr_left
      intro k hk
      have := mem_rgI.mp hk
      show (if j = k then _ else (0 : Rat)) + _ = _
      rw [if_neg (by omega), Rat.zero_add]
    rw [e, qsum_mulf, ih, Rat.mul_one]
    show (if j = j then uQ b n lo h m else 0) + dQ b n lo h m * cF b lo h m r (j + 1) j + dQ b n lo h m = 1
    rw [if_pos rfl, cF_low r (j + 1) j (by omega), Rat.mul_zero, Rat.add_zero]
    exact ud1 s (o n List.mem_cons_self) h0 h1
theorem sumZ_fz {b : Rat} {lo h m : Int} (s : St b) : ∀ (ns : List Int) (j l k : Int), ((sumZ (fz b lo h m ns j l) k : Int) : Rat) = (l : Rat) * cF b lo h m ns j k * ((rgB b lo h ^ ns.length : Int) : Rat)
  | [], j, l, k => by
    show (((if j = k then l else 0) + 0 : Int) : Rat) = (l : Rat) * (if j = k then 1 else 0) * ((rgB b lo h ^ 0 : Int) : Rat)
    rw [Int.pow_zero, Rat.intCast_one, Rat.mul_one, Int.add_zero]
    split
    · rw [Rat.mul_one]
    · rw [Rat.mul_zero]; rfl
  | n :: r, j, l, k => by
    have ih := sumZ_fz (lo := lo) (h := h) (m := m) s r (j + 1) (l * dn b n lo h m) k
    have b0 := cast_ne (rgB_pos (lo := lo) (hi := h) s)
    show (((if j = k then l * up b n lo h m * rgB b lo h ^ r.length else 0) + sumZ (fz b lo h m r (j + 1) (l * dn b n lo h m)) k : Int) : Rat) = (l : Rat) * ((if j = k then uQ b n lo h m else 0) + dQ b n lo h m * cF b lo h m r (j + 1) k) * ((rgB b lo h ^ (r.length + 1) : Int) : Rat)
    rw [Rat.intCast_add, ih, Int.pow_succ, Rat.intCast_mul, Rat.intCast_mul]
    have hu : ((up b n lo h m : Int) : Rat) = uQ b n lo h m * ((rgB b lo h : Int) : Rat) := by unfold uQ; grind
    have hd : ((dn b n lo h m : Int) : Rat) = dQ b n lo h m * ((rgB b lo h : Int) : Rat) := by unfold dQ; grind
    rw [hd]
    generalize cF b lo h m r (j + 1) k = C
    generalize dQ b n lo h m = D
    split
    · rw [Rat.intCast_mul, Rat.intCast_mul, hu]
      generalize uQ b n lo h m = U
      generalize ((rgB b lo h : Int) : Rat) = B
      generalize ((rgB b lo h ^ r.length : Int) : Rat) = P
      grind
    · have z : ((0 : Int) : Rat) = 0 := rfl
      rw [z]
      generalize ((rgB b lo h : Int) : Rat) = B
      generalize ((rgB b lo h ^ r.length : Int) : Rat) = P
      grind
def fiF (a b : Rat) (mk lo hi : Int) (ns : List Int) (k : Int) : Rat := ((sumZ (fzA a b mk lo hi ns (rgI lo (hi + 1))) k : Int) : Rat) / ((fzD a b lo hi ns : Int) : Rat)
theorem fi_form {a b : Rat} {mk lo hi : Int} {ns : List Int} (sa : St a) (sb : St b) (k : Int) : fiF a b mk lo hi ns k = qsum ((rgI lo (hi + 1)).map fun m => laF a mk lo hi m * cF b lo (hi - 1) m ns 0 k) := by
  have a0 := cast_ne (rgB_pos (lo := lo) (hi := hi) sa)
  have b0 := cast_ne (show (0 : Int) < rgB b lo (hi - 1) ^ ns.length from Int.pow_pos (rgB_pos sb))
  have gen : ∀ ms : List Int, ((sumZ (fzA a b mk lo hi ns ms) k : Int) : Rat) = qsum (ms.map fun m => laF a mk lo hi m * cF b lo (hi - 1) m ns 0 k) * ((fzD a b lo hi ns : Int) : Rat) := fun ms => by
    induction ms with
    | nil =>
      show ((0 : Int) : Rat) = 0 * _
      rw [Rat.zero_mul]
      rfl
    | cons m ms ih =>
      show ((sumZ (fz b lo (hi - 1) m ns 0 (rgS a mk lo hi m) ++ fzA a b mk lo hi ns ms) k : Int) : Rat) = (laF a mk lo hi m * cF b lo (hi - 1) m ns 0 k + qsum _) * _
      rw [sumZ_app, Rat.intCast_add, ih, sumZ_fz sb]
      unfold fzD laF
      rw [Rat.intCast_mul]
      generalize cF b lo (hi - 1) m ns 0 k = C
      generalize qsum _ = T
      generalize ((rgB b lo (hi - 1) ^ ns.length : Int) : Rat) = P at *
      generalize ((rgB a lo hi : Int) : Rat) = A at *
      grind
  unfold fiF
  rw [gen]
  have d0 := cast_ne (fzD_pos (lo := lo) (hi := hi) (ns := ns) sa sb)
  grind
theorem fiF0 {a b : Rat} {mk lo hi : Int} {ns : List Int} (sa : St a) (sb : St b) (k : Int) : 0 ≤ fiF a b mk lo hi ns k := by
  rw [fi_form sa sb]
  exact qsum0 _ _ fun m _ => Rat.mul_nonneg (Rat.le_of_lt (laF_pos sa)) (cF0 sb _ _ _)
theorem fiF_sum {a b : Rat} {mk lo hi : Int} {ns : List Int} (sa : St a) (sb : St b) (o : LadOk mk lo hi) (on : ∀ n ∈ ns, LadOk n lo (hi - 1)) : qsum ((rgI 0 (ns.length + 1)).map (fiF a b mk lo hi ns)) = 1 := by
  have e : ((rgI 0 (ns.length + 1)).map (fiF a b mk lo hi ns)) = (rgI 0 (ns.length + 1)).map fun k => qsum ((rgI lo (hi + 1)).map fun m => laF a mk lo hi m * cF b lo (hi - 1) m ns 0 k) := by
    apply List.map_congr_left
    intro k _
    exact fi_form sa sb k
  rw [e, qsum_swap]
  have e2 : ((rgI lo (hi + 1)).map fun m => qsum ((rgI 0 (ns.length + 1)).map fun k => laF a mk lo hi m * cF b lo (hi - 1) m ns 0 k)) = (rgI lo (hi + 1)).map (laF a mk lo hi) := by
    apply List.map_congr_left
    intro m hm
    have := mem_rgI.mp hm
    have c := cF_sum (m := m) sb (by omega) (by omega) ns 0 on
    rw [show (0 : Int) + (ns.length : Int) + 1 = ns.length + 1 by omega] at c
    rw [qsum_mulf, c, Rat.mul_one]
  rw [e2]
  exact laF_sum sa o
end Lb

set_option Elab.async false
set_option linter.all false
set_option maxRecDepth 100000
set_option maxHeartbeats 4000000
set_option pp.maxSteps 600
namespace Lb
open PySem PySem.Spec PyProof.Rows L2 Pq
inductive A2 (R : Int → Int → Prop) : List Int → List Int → Prop
  | nil : A2 R [] []
  | cons {n m : Int} {ns ms : List Int} : R n m → A2 R ns ms → A2 R (n :: ns) (m :: ms)
theorem A2.mono {R T : Int → Int → Prop} (h : ∀ n m, R n m → T n m) : ∀ {ns ms : List Int}, A2 R ns ms → A2 T ns ms
  | _, _, .nil => .nil
  | _, _, .cons a b => .cons (h _ _ a) (b.mono h)
theorem A2.len {R : Int → Int → Prop} : ∀ {ns ms : List Int}, A2 R ns ms → ns.length = ms.length
  | _, _, .nil => rfl
  | _, _, .cons _ b => by rw [List.length_cons, List.length_cons, b.len]
theorem cF_le {b β : Rat} {lo h m m' : Int} (s : St b) (h1 : 1 ≤ β) : ∀ {ns ns' : List Int}, A2 (fun n n' => dQ b n lo h m ≤ dQ b n' lo h m' ∧ uQ b n lo h m ≤ β * uQ b n' lo h m') ns ns' → ∀ j k : Int, cF b lo h m ns j k ≤ β * cF b lo h m' ns' j k
  | _, _, .nil, j, k => by
    unfold cF
    split
    · rw [Rat.mul_one]; exact h1
    · rw [Rat.mul_zero]; exact Rat.le_refl
  | _, _, .cons (n := n) (m := n') (ns := r) (ms := r') ⟨hd, hu⟩ t, j, k => by
    have ih := cF_le s h1 t (j + 1) k
    have c0 := cF0 (b := b) (lo := lo) (h := h) (m := m) s r (j + 1) k
    have d0 := dQ0 (b := b) (n := n') (lo := lo) (h := h) (m := m') s
    have p1 : dQ b n lo h m * cF b lo h m r (j + 1) k ≤ dQ b n' lo h m' * cF b lo h m r (j + 1) k := Rat.mul_le_mul_of_nonneg_right hd c0
    have p2 := Rat.mul_le_mul_of_nonneg_left ih d0
    have p3 := Rat.le_trans p1 p2
    have q : (if j = k then uQ b n lo h m else 0) ≤ β * (if j = k then uQ b n' lo h m' else 0) := by
      split
      · exact hu
      · rw [Rat.mul_zero]; exact Rat.le_refl
    have := radd_le q p3
    show (if j = k then uQ b n lo h m else 0) + dQ b n lo h m * cF b lo h m r (j + 1) k ≤ β * ((if j = k then uQ b n' lo h m' else 0) + dQ b n' lo h m' * cF b lo h m' r' (j + 1) k)
    have e : β * ((if j = k then uQ b n' lo h m' else 0) + dQ b n' lo h m' * cF b lo h m' r' (j + 1) k) = β * (if j = k then uQ b n' lo h m' else 0) + dQ b n' lo h m' * (β * cF b lo h m' r' (j + 1) k) := by grind
    rw [e]
    exact this
/-- the numbers of a crowd and of that with a member more -/
def Nb (lo h : Int) (w : Nat) (n n' : Int) : Prop := LadOk n lo h ∧ LadOk n' lo h ∧ n ≤ n' ∧ n' ≤ n + w
/-- more members: no rung of the mark need move -/
theorem fi_far2 {a b : Rat} {mk lo hi : Int} {ns ns' : List Int} {w : Nat} (sa : St a) (sb : St b) (h : A2 (Nb lo (hi - 1) w) ns ns') (k : Int) : fiF a b mk lo hi ns' k ≤ (a⁻¹ ^ w * b⁻¹ ^ (2 * w)) * fiF a b mk lo hi ns k := by
  rw [fi_form sa sb, fi_form sa sb, ← qsum_mulf]
  refine qsum_le _ _ _ fun m hm => ?_
  have hm := mem_rgI.mp hm
  have A1 := one_le_inv sa w
  have B1 := one_le_inv sb (2 * w)
  have sw : ∀ {ns ns' : List Int}, A2 (Nb lo (hi - 1) w) ns ns' → A2 (fun n n' => dQ b n lo (hi - 1) m ≤ dQ b n' lo (hi - 1) m ∧ uQ b n lo (hi - 1) m ≤ b⁻¹ ^ (2 * w) * uQ b n' lo (hi - 1) m) ns' ns := by
    intro ns ns' h
    induction h with
    | nil => exact .nil
    | @cons n n' ns ns' hn _ ih =>
      refine .cons ?_ ih
      obtain ⟨o, o', le1, le2⟩ := hn
      by_cases c : m = lo
      · subst c
        rw [dQ_lo, dQ_lo, uQ_lo sb o, uQ_lo sb o', Rat.mul_one]
        exact ⟨Rat.le_refl, B1⟩
      · by_cases d : m = hi - 1 + 1
        · have u1 := ud1 (m := m) sb o (by omega) (by omega)
          have u2 := ud1 (m := m) sb o' (by omega) (by omega)
          rw [d, uQ_hi, Rat.zero_add] at u1 u2
          rw [d, uQ_hi, uQ_hi, u1, u2, Rat.mul_zero]
          exact ⟨Rat.le_refl, Rat.le_refl⟩
        · have u1 := ud1 (m := m) sb o (by omega) (by omega)
          have u2 := ud1 (m := m) sb o' (by omega) (by omega)
          have t1 := uQ_tl (m := m) sb o (by omega) (by omega)
          have t2 := uQ_tl (m := m) sb o' (by omega) (by omega)
          have l1 := tl_down sb (show m - n' ≤ m - n by omega)
          refine ⟨?_, ?_⟩
          · rw [t1] at u1
            rw [t2] at u2
            grind
          · rw [t1, t2]
            have l2 := tl_far sb (2 * w) (m - n')
            have l3 := tl_down sb (show m - n ≤ m - n' + ((2 * w : Nat) : Int) by omega)
            exact Rat.le_trans l2 (Rat.mul_le_mul_of_nonneg_left l3 (invp0 sb _))
  have c := cF_le (b := b) (lo := lo) (h := hi - 1) (m := m) (m' := m) sb B1 (sw h) 0 k
  have L0 := laF_pos (n := mk) (lo := lo) (hi := hi) (y := m) sa
  have c1 := Rat.mul_le_mul_of_nonneg_left c (Rat.le_of_lt L0)
  have c2 : laF a mk lo hi m * (b⁻¹ ^ (2 * w) * cF b lo (hi - 1) m ns 0 k) ≤ a⁻¹ ^ w * (laF a mk lo hi m * (b⁻¹ ^ (2 * w) * cF b lo (hi - 1) m ns 0 k)) := by
    have := Rat.mul_le_mul_of_nonneg_right A1 (Rat.mul_nonneg (Rat.le_of_lt L0) (Rat.mul_nonneg (invp0 sb (2 * w)) (cF0 (b := b) (lo := lo) (h := hi - 1) (m := m) sb ns 0 k)))
    rw [Rat.one_mul] at this
    exact this
  have e : a⁻¹ ^ w * (laF a mk lo hi m * (b⁻¹ ^ (2 * w) * cF b lo (hi - 1) m ns 0 k)) = a⁻¹ ^ w * b⁻¹ ^ (2 * w) * (laF a mk lo hi m * cF b lo (hi - 1) m ns 0 k) := by grind
  rw [e] at c2
  exact Rat.le_trans c1 c2
/-- what of a rung of the mark can be moved up by w -/
def lam (a : Rat) (mk lo hi w m : Int) : Rat := if m = lo then tlR a (mk - min (hi - w - 1) lo) else if m ≤ hi - w - 1 then laF a mk lo hi m else 0
theorem laF_lo {a : Rat} {mk lo hi : Int} (s : St a) (o : LadOk mk lo hi) (c : lo < hi) : laF a mk lo hi lo = tlR a (mk - lo) := by
  rw [laF_lad s o (by omega) (Int.le_refl lo) (by omega)]
  unfold ladS
  rw [if_pos rfl]
theorem lam0 {a : Rat} {mk lo hi w m : Int} (s : St a) : 0 ≤ lam a mk lo hi w m := by
  unfold lam
  split
  · exact Rat.le_of_lt (tl_pos s _)
  · split
    · exact Rat.le_of_lt (laF_pos s)
    · exact Rat.le_refl
theorem lam_le {a : Rat} {mk lo hi w m : Int} (s : St a) (o : LadOk mk lo hi) (c : lo < hi) : lam a mk lo hi w m ≤ laF a mk lo hi m := by
  unfold lam
  by_cases d : m = lo
  · rw [if_pos d, d, laF_lo s o c]
    exact tl_down s (by omega)
  · rw [if_neg d]
    split
    · exact Rat.le_refl
    · exact Rat.le_of_lt (laF_pos s)
theorem lam_sum {a : Rat} {mk lo hi : Int} {w : Nat} (s : St a) (o : LadOk mk lo hi) (c : lo < hi) (w0 : 1 ≤ w) : qsum ((rgI lo (hi + 1)).map (lam a mk lo hi w)) = tlR a (mk - (hi - w - 1)) := by
  rw [rgI_cons (a := lo) (b := hi + 1) (by omega), List.map_cons]
  show lam a mk lo hi w lo + qsum _ = _
  by_cases e : lo ≤ hi - w - 1
  · rw [rgI_app (a := lo + 1) (b := hi - w - 1 + 1) (c := hi + 1) (by omega) (by omega), List.map_append, qsum_app]
    have z : qsum ((rgI (hi - w - 1 + 1) (hi + 1)).map (lam a mk lo hi w)) = 0 := qsum_zero _ _ fun m hm => by
      have := mem_rgI.mp hm
      unfold lam
      rw [if_neg (by omega), if_neg (by omega)]
    have e1 : (rgI (lo + 1) (hi - w - 1 + 1)).map (lam a mk lo hi w) = (rgI (lo + 1) (hi - w - 1 + 1)).map (laF a mk lo hi) := by
      apply List.map_congr_left
      intro m hm
      have := mem_rgI.mp hm
      unfold lam
      rw [if_neg (by omega), if_pos (by omega)]
    have e2 : lam a mk lo hi w lo = laF a mk lo hi lo := by
      unfold lam
      rw [if_pos rfl, laF_lo s o c, show min (hi - (w : Int) - 1) lo = lo by omega]
    have p := la_part s o (show lo ≤ hi - w - 1 from e) (by omega)
    rw [rgI_cons (a := lo) (b := hi - w - 1 + 1) (by omega), List.map_cons] at p
    have p : laF a mk lo hi lo + qsum ((rgI (lo + 1) (hi - w - 1 + 1)).map (laF a mk lo hi)) = _ := p
    rw [z, e1, e2, Rat.add_zero, p]
  · have z : qsum ((rgI (lo + 1) (hi + 1)).map (lam a mk lo hi w)) = 0 := qsum_zero _ _ fun m hm => by
      have := mem_rgI.mp hm
      unfold lam
      rw [if_neg (by omega), if_neg (by omega)]
    rw [z, Rat.add_zero]
    unfold lam
    rw [if_pos rfl, show min (hi - (w : Int) - 1) lo = hi - w - 1 by omega]
theorem rgI_shift (a b w : Int) : rgI (a + w) (b + w) = (rgI a b).map (· + w) := by
  unfold rgI
  rw [List.map_map, show (b + w - (a + w)).toNat = (b - a).toNat by omega]
  apply List.map_congr_left
  intro i _
  show a + w + (i : Int) = a + (i : Int) + w
  omega
theorem qsum_sub {f : Int → Rat} (h : ∀ m, 0 ≤ f m) {x y z t : Int} (h1 : x ≤ y) (h2 : y ≤ z) (h3 : z ≤ t) : qsum ((rgI x y).map f) + qsum ((rgI y z).map f) ≤ qsum ((rgI x t).map f) := by
  rw [rgI_app (a := x) (b := y) (c := t) h1 (by omega), rgI_app (a := y) (b := z) (c := t) h2 h3, List.map_append, List.map_append, qsum_app, qsum_app]
  have := qsum0 f (rgI z t) fun m _ => h m
  grind
end Lb

set_option Elab.async false
set_option linter.all false
set_option maxRecDepth 100000
set_option maxHeartbeats 4000000
set_option pp.maxSteps 600
namespace Lb
open PySem PySem.Spec PyProof.Rows L2 Pq
theorem laF_up {a : Rat} {mk lo hi m : Int} {w : Nat} (s : St a) (o : LadOk mk lo hi) (h0 : lo < m) (h1 : m + w < hi) : laF a mk lo hi m ≤ a⁻¹ ^ w * laF a mk lo hi (m + w) := by
  rw [laF_lad s o (by omega) (by omega) (by omega), laF_lad s o (by omega) (by omega) (by omega), lad_form s o (by omega) (by omega), lad_form s o (by omega) (by omega), decide_eq_false (show ¬ (m = lo ∨ m = hi) by omega), decide_eq_false (show ¬ (m + (w : Int) = lo ∨ m + (w : Int) = hi) by omega)]
  have p := pow_far s (i := (m - mk).natAbs) (j := (m + w - mk).natAbs) (w := w) (by omega)
  have := Rat.mul_le_mul_of_nonneg_left p (cE0 s false)
  generalize cE a false = c at *
  generalize a ^ (m - mk).natAbs = A at *
  generalize a ^ (m + w - mk).natAbs = B at *
  generalize a⁻¹ ^ w = D at *
  have e : D * (c * B) = c * (D * B) := by grind
  rw [e]
  exact this
theorem fi_move {a b : Rat} {mk lo hi : Int} {ns ns' : List Int} {w : Nat} (sa : St a) (sb : St b) (hb : 2 * b ≤ 1) (o : LadOk mk lo hi) (c : lo < hi) (w0 : 1 ≤ w) (h : A2 (Nb lo (hi - 1) w) ns ns') (ne : ns ≠ []) (k : Int) :
    qsum ((rgI lo (hi + 1)).map fun m => lam a mk lo hi w m * cF b lo (hi - 1) m ns 0 k) ≤ (a⁻¹ ^ w * b⁻¹ ^ (2 * w)) * fiF a b mk lo hi ns' k := by
  have g0 : ∀ m, 0 ≤ laF a mk lo hi m * cF b lo (hi - 1) m ns' 0 k := fun m => Rat.mul_nonneg (Rat.le_of_lt (laF_pos sa)) (cF0 sb _ _ _)
  have F0 : 0 ≤ a⁻¹ ^ w * b⁻¹ ^ (2 * w) := Rat.mul_nonneg (invp0 sa w) (invp0 sb _)
  have A0 := invp0 sa w
  have B0 := invp0 sb (2 * w)
  have A1 := one_le_inv sa w
  have B1 := one_le_inv sb (2 * w)
  have M1 : lo ≤ min (lo + w) (hi - 1) := by omega
  have sub := qsum_sub g0 (x := lo) (y := min (lo + w) (hi - 1) + 1) (z := hi) (t := hi + 1) (by omega) (by omega) (by omega)
  rw [fi_form sa sb, rgI_cons (a := lo) (b := hi + 1) (by omega), List.map_cons]
  show lam a mk lo hi w lo * cF b lo (hi - 1) lo ns 0 k + qsum _ ≤ _
  -- the lowest rung
  have PA : lam a mk lo hi w lo * cF b lo (hi - 1) lo ns 0 k ≤ (a⁻¹ ^ w * b⁻¹ ^ (2 * w)) * qsum ((rgI lo (min (lo + w) (hi - 1) + 1)).map fun m => laF a mk lo hi m * cF b lo (hi - 1) m ns' 0 k) := by
    cases h with
    | nil => exact absurd rfl ne
    | @cons n n' r r' hn t =>
      obtain ⟨on, on', le1, le2⟩ := hn
      have cl : cF b lo (hi - 1) lo (n :: r) 0 k = if 0 = k then 1 else 0 := by
        unfold cF
        rw [uQ_lo sb on, dQ_lo, Rat.zero_mul, Rat.add_zero]
      rw [cl]
      by_cases k0 : 0 = k
      · subst k0
        rw [if_pos rfl, Rat.mul_one]
        have each : ∀ m ∈ rgI lo (min (lo + w) (hi - 1) + 1), laF a mk lo hi m ≤ b⁻¹ ^ (2 * w) * (laF a mk lo hi m * cF b lo (hi - 1) m (n' :: r') 0 0) := fun m hm => by
          have hm := mem_rgI.mp hm
          have cu : cF b lo (hi - 1) m (n' :: r') 0 0 = uQ b n' lo (hi - 1) m := by
            show (if (0 : Int) = 0 then uQ b n' lo (hi - 1) m else 0) + _ * cF b lo (hi - 1) m r' (0 + 1) 0 = _
            rw [if_pos rfl, cF_low r' (0 + 1) 0 (by omega), Rat.mul_zero, Rat.add_zero]
          have one : 1 ≤ b⁻¹ ^ (2 * w) * uQ b n' lo (hi - 1) m := by
            by_cases d : m = lo
            · rw [d, uQ_lo sb on', Rat.mul_one]; exact B1
            · rw [uQ_tl sb on' (by omega) (by omega)]
              have l := tl_down sb (show m - n' ≤ (w : Int) by have := on'.ln; omega)
              exact Rat.le_trans (tl_half sb hb w0) (Rat.mul_le_mul_of_nonneg_left l B0)
          rw [cu]
          have := Rat.mul_le_mul_of_nonneg_left one (Rat.le_of_lt (laF_pos (n := mk) (lo := lo) (hi := hi) (y := m) sa))
          rw [Rat.mul_one] at this
          have e : b⁻¹ ^ (2 * w) * (laF a mk lo hi m * uQ b n' lo (hi - 1) m) = laF a mk lo hi m * (b⁻¹ ^ (2 * w) * uQ b n' lo (hi - 1) m) := by grind
          rw [e]
          exact this
        have s1 := qsum_le _ _ _ each
        rw [qsum_mulf, la_part sa o M1 (by omega)] at s1
        have l1 : lam a mk lo hi w lo ≤ tlR a (mk - min (lo + w) (hi - 1)) := by
          unfold lam
          rw [if_pos rfl]
          exact tl_down sa (by omega)
        have l2 := Rat.le_trans l1 s1
        have X0 := qsum0 (fun m => laF a mk lo hi m * cF b lo (hi - 1) m (n' :: r') 0 0) (rgI lo (min (lo + w) (hi - 1) + 1)) fun m _ => g0 m
        generalize qsum ((rgI lo (min (lo + w) (hi - 1) + 1)).map fun m => laF a mk lo hi m * cF b lo (hi - 1) m (n' :: r') 0 0) = X at *
        have l3 := Rat.mul_le_mul_of_nonneg_right A1 (Rat.mul_nonneg B0 X0)
        rw [Rat.one_mul] at l3
        rw [Rat.mul_assoc]
        exact Rat.le_trans l2 l3
      · rw [if_neg k0, Rat.mul_zero]
        exact Rat.mul_nonneg F0 (qsum0 _ _ fun m _ => g0 m)
  -- the others
  have PB : qsum ((rgI (lo + 1) (hi + 1)).map fun m => lam a mk lo hi w m * cF b lo (hi - 1) m ns 0 k) ≤ (a⁻¹ ^ w * b⁻¹ ^ (2 * w)) * qsum ((rgI (min (lo + w) (hi - 1) + 1) hi).map fun m => laF a mk lo hi m * cF b lo (hi - 1) m ns' 0 k) := by
    by_cases e : lo ≤ hi - w - 1
    · rw [rgI_app (a := lo + 1) (b := hi - w - 1 + 1) (c := hi + 1) (by omega) (by omega), List.map_append, qsum_app]
      have z : qsum ((rgI (hi - w - 1 + 1) (hi + 1)).map fun m => lam a mk lo hi w m * cF b lo (hi - 1) m ns 0 k) = 0 := qsum_zero _ _ fun m hm => by
        have := mem_rgI.mp hm
        unfold lam
        rw [if_neg (by omega), if_neg (by omega), Rat.zero_mul]
      rw [z, Rat.add_zero, show min (lo + (w : Int)) (hi - 1) + 1 = lo + 1 + w by omega]
      have sh := rgI_shift (lo + 1) (hi - w - 1 + 1) w
      rw [show hi - (w : Int) - 1 + 1 + w = hi by omega] at sh
      rw [sh, List.map_map, ← qsum_mulf]
      refine qsum_le _ _ _ fun m hm => ?_
      have hm := mem_rgI.mp hm
      have el : lam a mk lo hi w m = laF a mk lo hi m := by
        unfold lam
        rw [if_neg (by omega), if_pos (by omega)]
      rw [el]
      show _ ≤ a⁻¹ ^ w * b⁻¹ ^ (2 * w) * (laF a mk lo hi (m + w) * cF b lo (hi - 1) (m + w) ns' 0 k)
      have L := laF_up (w := w) sa o (show lo < m by omega) (by omega)
      have h2 : A2 (fun n n' => dQ b n lo (hi - 1) m ≤ dQ b n' lo (hi - 1) (m + w) ∧ uQ b n lo (hi - 1) m ≤ b⁻¹ ^ (2 * w) * uQ b n' lo (hi - 1) (m + w)) ns ns' := h.mono fun n n' ⟨on, on', le1, le2⟩ => by
        have u1 := ud1 (m := m) sb on (by omega) (by omega)
        have u2 := ud1 (m := m + w) sb on' (by omega) (by omega)
        have t1 := uQ_tl (m := m) sb on (by omega) (by omega)
        have t2 := uQ_tl (m := m + w) sb on' (by omega) (by omega)
        have l1 := tl_down sb (show m - n ≤ m + w - n' by omega)
        refine ⟨?_, ?_⟩
        · rw [t1] at u1
          rw [t2] at u2
          grind
        · rw [t1, t2]
          have l2 := tl_far sb (2 * w) (m - n)
          have l3 := tl_down sb (show m + w - n' ≤ m - n + ((2 * w : Nat) : Int) by omega)
          exact Rat.le_trans l2 (Rat.mul_le_mul_of_nonneg_left l3 (invp0 sb _))
      have C := cF_le (b := b) (lo := lo) (h := hi - 1) (m := m) (m' := m + w) sb B1 h2 0 k
      have C0 := cF0 (b := b) (lo := lo) (h := hi - 1) (m := m) sb ns 0 k
      have L0 := laF_pos (n := mk) (lo := lo) (hi := hi) (y := m + w) sa
      have q1 := Rat.mul_le_mul_of_nonneg_right L C0
      have q2 := Rat.mul_le_mul_of_nonneg_left C (Rat.mul_nonneg A0 (Rat.le_of_lt L0))
      have e2 : a⁻¹ ^ w * laF a mk lo hi (m + w) * (b⁻¹ ^ (2 * w) * cF b lo (hi - 1) (m + w) ns' 0 k) = a⁻¹ ^ w * b⁻¹ ^ (2 * w) * (laF a mk lo hi (m + w) * cF b lo (hi - 1) (m + w) ns' 0 k) := by grind
      rw [e2] at q2
      exact Rat.le_trans q1 q2
    · have z : qsum ((rgI (lo + 1) (hi + 1)).map fun m => lam a mk lo hi w m * cF b lo (hi - 1) m ns 0 k) = 0 := qsum_zero _ _ fun m hm => by
        have := mem_rgI.mp hm
        unfold lam
        rw [if_neg (by omega), if_neg (by omega), Rat.zero_mul]
      rw [z]
      exact Rat.mul_nonneg F0 (qsum0 _ _ fun m _ => g0 m)
  have s := radd_le PA PB
  rw [← Rat.mul_add] at s
  rw [rgI_cons (a := lo) (b := hi + 1) (by omega)] at sub
  exact Rat.le_trans s (Rat.mul_le_mul_of_nonneg_left sub F0)
/-- fewer members: what the mark's last rungs tell is left over -/
theorem fi_far1 {a b : Rat} {mk lo hi : Int} {ns ns' : List Int} {w : Nat} (sa : St a) (sb : St b) (hb : 2 * b ≤ 1) (o : LadOk mk lo hi) (c : lo < hi) (w0 : 1 ≤ w) (h : A2 (Nb lo (hi - 1) w) ns ns') (ne : ns ≠ []) :
    exc 0 (ns.length + 1) (a⁻¹ ^ w * b⁻¹ ^ (2 * w)) (fiF a b mk lo hi ns) (fiF a b mk lo hi ns') ≤ tlR a (hi - w - mk) := by
  have on : ∀ {ns ns' : List Int}, A2 (Nb lo (hi - 1) w) ns ns' → ∀ n ∈ ns, LadOk n lo (hi - 1) := by
    intro ns ns' h
    induction h with
    | nil => intro n hn; cases hn
    | @cons n n' ns ns' hn _ ih =>
      intro x hx
      rcases List.mem_cons.mp hx with rfl | hx
      · exact hn.1
      · exact ih x hx
  have ρ0 : ∀ m, 0 ≤ laF a mk lo hi m - lam a mk lo hi w m := fun m => by have := lam_le (w := (w : Int)) (m := m) sa o c; grind
  have step := exc_le (lo := 0) (hi := ns.length + 1) (F := a⁻¹ ^ w * b⁻¹ ^ (2 * w)) (f := fiF a b mk lo hi ns) (g := fiF a b mk lo hi ns') (ρ := fun k => qsum ((rgI lo (hi + 1)).map fun m => (laF a mk lo hi m - lam a mk lo hi w m) * cF b lo (hi - 1) m ns 0 k)) (fun k _ _ => by
    have mv := fi_move sa sb hb o c w0 h ne k
    rw [fi_form (ns := ns) sa sb]
    have e : ((rgI lo (hi + 1)).map fun m => laF a mk lo hi m * cF b lo (hi - 1) m ns 0 k) = (rgI lo (hi + 1)).map fun m => lam a mk lo hi w m * cF b lo (hi - 1) m ns 0 k + (laF a mk lo hi m - lam a mk lo hi w m) * cF b lo (hi - 1) m ns 0 k := by
      apply List.map_congr_left
      intro m _
      grind
    rw [e, qsum_addf]
    exact radd_le mv Rat.le_refl) (fun k _ _ => qsum0 _ _ fun m _ => Rat.mul_nonneg (ρ0 m) (cF0 sb _ _ _))
  refine Rat.le_trans step ?_
  rw [qsum_swap]
  have e2 : ((rgI lo (hi + 1)).map fun m => qsum ((rgI 0 (ns.length + 1)).map fun k => (laF a mk lo hi m - lam a mk lo hi w m) * cF b lo (hi - 1) m ns 0 k)) = (rgI lo (hi + 1)).map fun m => laF a mk lo hi m - lam a mk lo hi w m := by
    apply List.map_congr_left
    intro m hm
    have := mem_rgI.mp hm
    have c := cF_sum (m := m) sb (by omega) (by omega) ns 0 (on h)
    rw [show (0 : Int) + (ns.length : Int) + 1 = ns.length + 1 by omega] at c
    rw [qsum_mulf, c, Rat.mul_one]
  rw [e2]
  have tot := qsum_addf (fun m => laF a mk lo hi m - lam a mk lo hi w m) (lam a mk lo hi w) (rgI lo (hi + 1))
  have e3 : ((rgI lo (hi + 1)).map fun m => laF a mk lo hi m - lam a mk lo hi w m + lam a mk lo hi w m) = (rgI lo (hi + 1)).map (laF a mk lo hi) := by
    apply List.map_congr_left
    intro m _
    grind
  rw [e3, laF_sum sa o, lam_sum sa o c w0] at tot
  have fl := tl_flip sa (mk - (hi - w - 1))
  rw [show 1 - (mk - (hi - (w : Int) - 1)) = hi - w - mk by omega] at fl
  rw [fl]
  grind
end Lb

set_option Elab.async false
set_option linter.all false
set_option maxRecDepth 100000
set_option maxHeartbeats 4000000
set_option pp.maxSteps 600
namespace Lb
open PySem PySem.Spec PyProof.Rows L2 Pq
/-! ### merged, of more pairs than answers -/
theorem w_mergedK {L : Pr} {K : List Int} {n m : Nat} (pos : ∀ p ∈ L, 0 ≤ p.2) (sz : ∀ p ∈ L, Sz n p.2) (sm : ∀ (i : Nat) (p : Int × Rat), L[i]? = some p → Sz m (sumAt (L.take i) p.1)) (hnm : m + n ≤ 8999) (hl : L.length ≤ 1000) (hKl : K.length < 64) (hK : K.Pairwise (· < ·)) (hm : ∀ y, y ∈ K ↔ y ∈ L.map (·.1))
    (Q : SV → Prop) (h : Q (.val (.tuple (mgT L K)))) : F_merged [.val (.list (L.map en))] Q := by
  refine ⟨show 1 < 4 by decide, ?_⟩
  show forGo _ _ (L.map en) _ _
  refine for_inv (fun R e => ∃ (done rest D : Pr) (a s : SV), L = done ++ rest ∧ R = rest.map en ∧ e = [.val (.list (L.map en)), .own true (.dict (D.map ek)), a, s] ∧ MgI D done ∧ (∀ b d, a ≠ .own b d)) _ _ ⟨[], L, [], .no, .no, rfl, rfl, rfl, MgI.nil, fun _ _ z => by cases z⟩ ?_ ?_
  · rintro d R e ⟨done, rest, D, a, s, hL, hR, rfl, I, _⟩ N hN
    cases rest with
    | nil => cases hR
    | cons p rest =>
      obtain ⟨y, q⟩ := p
      rw [List.map_cons] at hR
      injection hR with e1 e2
      subst e1 e2
      have hp : (y, q) ∈ L := by rw [hL]; exact List.mem_append_right _ List.mem_cons_self
      have pd : ∀ p ∈ done, 0 ≤ p.2 := fun p hp => pos p (by rw [hL]; exact List.mem_append_left _ hp)
      have sd : Sz m (sumAt done y) := by
        have := sm done.length (y, q) (by rw [hL, List.getElem?_append_right (Nat.le_refl _), Nat.sub_self]; rfl)
        rw [hL, List.take_left] at this
        exact this
      have ld : D.length < 1000000 := by
        have := I.ln
        rw [hL, List.length_append] at hl
        omega
      refine ⟨rfl, show 2 < 4 by decide, show 3 < 4 by decide, rfl, pm_ek D, show 2 ≤ 1000000 by decide, w_get2 (dget_ek D y) ?_⟩
      rw [I.get y]
      refine ⟨rfl, w_added (sumAt_ge y done pd) (pos _ hp) sd (sz _ hp) hnm _ ⟨trivial, w_putD (k := .inl y) rfl (tm_ek D) (by rw [List.length_map]; exact ld) ?_⟩⟩
      rw [dput_ek I.nd]
      exact hN _ ⟨done ++ [(y, q)], rest, _, _, _, by rw [hL, List.append_assoc]; rfl, rfl, rfl, I.step y q, fun _ _ z => by cases z⟩
  · rintro e ⟨done, rest, D, a, s, hL, hR, rfl, I, ha⟩
    have hr : rest = [] := List.map_eq_nil_iff.mp hR.symm
    subst hr
    rw [List.append_nil] at hL
    subst hL
    have p1 : K.Perm (D.map (·.1)) := (List.perm_ext_iff_of_nodup (hK.imp fun a => by omega) I.nd).mpr fun y => by
      rw [hm y, ← Decidable.not_iff_not, ← look_none y D, I.lk y]
      by_cases c : y ∈ L.map (·.1)
      · rw [if_pos c]; simp [c]
      · rw [if_neg c]; simp [c]
    have lD : D.length < 64 := by
      have := p1.length_eq
      rw [List.length_map] at this
      omega
    have sorted : ∀ Q' : SV → Prop, Q' (.own true (.list (K.map .int))) → fSorted [.dict (D.map ek)] Q' := fun Q' hq => by
      unfold fSorted
      refine .inl ⟨D.map (·.1), by rw [List.map_map, List.map_map]; rfl, by rw [List.length_map]; exact lD, fun ys p s => ?_⟩
      rw [keys_perm I hK hm p s]
      exact hq
    refine sorted _ ⟨⟨?_, fun i hi => ?_⟩, ?_⟩
    · rw [List.length_map]
      have := p1.length_eq
      rw [List.length_map] at this
      omega
    · rw [List.mem_singleton.mp hi]
      cases a with
      | own b d => exact absurd rfl (ha b d)
      | _ => trivial
    · refine lc_all (tstL L) (enL L) _ _ _ (fun d hd Kc N hK' hN => ?_) fun res er => ?_
      · obtain ⟨y, hy, rfl⟩ := List.mem_map.mp hd
        have ly : look D y = some (sumAt L y) := by rw [I.lk y, if_pos ((hm y).mp hy)]
        have dg : dGetO (D.map ek) (.int y) = some (some (fr (sumAt L y))) := by rw [dget_ek, ly]; rfl
        refine ⟨show 2 < 4 by decide, ixd dg ⟨show 2 ≤ 1000000 by decide, (lay_fr _).shaped (by decide), (lay_fr 0).shaped (by decide), ?_⟩⟩
        have e0 : PyData.eqv (fr (sumAt L y)) (.tuple [.int 0, .int 1]) = decide (sumAt L y = 0) := eqv_fr _ 0
        rw [e0]
        refine iteDn (fun c => ?_) fun c => ?_
        · exact ixd dg ⟨show 2 ≤ 1000000 by decide, hK' (decide_eq_true c)⟩
        · exact hN (decide_eq_false fun z => z c)
      · rw [List.nil_append] at er
        subst er
        have e1 : (List.filter (tstL L) (K.map PyData.int)).map (enL L) = mgT L K := by
          unfold mgT
          rw [List.filter_map, List.map_map]
          rfl
        rw [e1]
        exact h

/-- how often a key comes -/
def cK : Pr → Int → Nat
  | [], _ => 0
  | p :: r, y => (if p.1 = y then 1 else 0) + cK r y
theorem cK_app : ∀ (L M : Pr) (y : Int), cK (L ++ M) y = cK L y + cK M y
  | [], M, y => by show cK M y = 0 + _; omega
  | p :: L, M, y => by
    show _ + cK (L ++ M) y = _ + cK L y + _
    rw [cK_app L M y]
    omega
theorem sz_cnt {n : Nat} (y : Int) : ∀ L : Pr, (∀ p ∈ L, Sz n p.2) → Sz ((n + 1) * cK L y + 1) (sumAt L y)
  | [], _ => ⟨Nat.two_pow_pos _, Nat.one_lt_two_pow (by omega)⟩
  | p :: L, h => by
    have ih := sz_cnt (n := n) y L fun q hq => h q (List.mem_cons_of_mem _ hq)
    show Sz ((n + 1) * ((if p.1 = y then 1 else 0) + cK L y) + 1) ((if p.1 = y then p.2 else 0) + sumAt L y)
    split
    · refine ((h p List.mem_cons_self).add ih).mono ?_
      rw [Nat.mul_add, Nat.mul_one]
      omega
    · rw [Nat.zero_add, Rat.zero_add]
      exact ih
theorem cK_take {L : Pr} {i : Nat} {p : Int × Rat} (h : L[i]? = some p) : cK (L.take i) p.1 + 1 ≤ cK L p.1 := by
  obtain ⟨hi, e⟩ := List.getElem?_eq_some_iff.mp h
  have e2 : L = L.take i ++ p :: L.drop (i + 1) := by
    rw [← e, List.getElem_cons_drop, List.take_append_drop]
  have := cK_app (L.take i) (p :: L.drop (i + 1)) p.1
  rw [← e2] at this
  have e3 : cK (p :: L.drop (i + 1)) p.1 = 1 + cK (L.drop (i + 1)) p.1 := by
    show (if p.1 = p.1 then 1 else 0) + _ = _
    rw [if_pos rfl]
  omega
theorem w_mergedC {L : Pr} {K : List Int} {n c : Nat} (pos : ∀ p ∈ L, 0 ≤ p.2) (sz : ∀ p ∈ L, Sz n p.2) (hc : ∀ y, cK L y ≤ c + 1) (hnm : (n + 1) * c + 1 + n ≤ 8999) (hl : L.length ≤ 1000) (hKl : K.length < 64) (hK : K.Pairwise (· < ·)) (hm : ∀ y, y ∈ K ↔ y ∈ L.map (·.1))
    (Q : SV → Prop) (h : Q (.val (.tuple (mgT L K)))) : F_merged [.val (.list (L.map en))] Q :=
  w_mergedK (n := n) (m := (n + 1) * c + 1) pos sz (fun i p e => by
    have a := cK_take e
    have b := hc p.1
    refine (sz_cnt p.1 (L.take i) fun q hq => sz q (List.mem_of_mem_take hq)).mono ?_
    have := Nat.mul_le_mul_left (n + 1) (show cK (L.take i) p.1 ≤ c by omega)
    omega) hnm hl hKl hK hm Q h
theorem sumAt_map (f : Int → Rat) (y : Int) : ∀ K : List Int, K.Nodup → sumAt (K.map fun z => (z, f z)) y = if y ∈ K then f y else 0
  | [], _ => rfl
  | k :: K, nd => by
    rw [List.nodup_cons] at nd
    rw [List.map_cons, sumAt, sumAt_map f y K nd.2]
    show (if k = y then f k else 0) + _ = _
    by_cases c : k = y
    · subst c
      rw [if_pos rfl, if_neg nd.1, if_pos List.mem_cons_self, Rat.add_zero]
    · rw [if_neg c, Rat.zero_add]
      by_cases d : y ∈ K
      · rw [if_pos d, if_pos (List.mem_cons_of_mem _ d)]
      · rw [if_neg d, if_neg (fun z => (List.mem_cons.mp z).elim (fun e => c e.symm) d)]
theorem cK_map (f : Int → Rat) (y : Int) : ∀ K : List Int, K.Nodup → cK (K.map fun z => (z, f z)) y ≤ 1
  | [], _ => Nat.zero_le _
  | k :: K, nd => by
    rw [List.nodup_cons] at nd
    have ih := cK_map f y K nd.2
    show (if k = y then 1 else 0) + cK (K.map fun z => (z, f z)) y ≤ 1
    by_cases c : k = y
    · subst c
      have z : ∀ M : List Int, k ∉ M → cK (M.map fun z => (z, f z)) k = 0 := fun M => by
        induction M with
        | nil => intro _; rfl
        | cons m M ih2 =>
          intro h
          rw [List.mem_cons, not_or] at h
          show (if m = k then 1 else 0) + cK (M.map fun z => (z, f z)) k = 0
          rw [if_neg (fun e => h.1 e.symm), ih2 h.2]
      rw [z K nd.1, if_pos rfl]
      exact Nat.le_refl 1
    · rw [if_neg c]
      omega
/-- merged of one pair per answer -/
theorem w_mgF {lo hi : Int} {f : Int → Rat} {n : Nat} (hf : ∀ y, lo ≤ y → y < hi → 0 ≤ f y ∧ Sz n (f y)) (hn : n ≤ 8000) (hl : hi - lo ≤ 60) (Q : SV → Prop) (h : Q (.val (.tuple ((tb lo hi f).map en)))) : F_merged [.val (.list ((rgI lo hi).map fun y => en (y, f y)))] Q := by
  have e : ((rgI lo hi).map fun y => en (y, f y)) = ((rgI lo hi).map fun y => (y, f y)).map en := by rw [List.map_map]; rfl
  rw [e]
  have nd := rgI_nodup lo hi
  have mem : ∀ p ∈ (rgI lo hi).map fun y => (y, f y), 0 ≤ p.2 ∧ Sz n p.2 := fun p hp => by
    obtain ⟨y, hy, rfl⟩ := List.mem_map.mp hp
    have := mem_rgI.mp hy
    exact hf y this.1 this.2
  refine w_mergedC (n := n) (c := 0) (K := rgI lo hi) (fun p hp => (mem p hp).1) (fun p hp => (mem p hp).2) (fun y => cK_map f y _ nd) (by omega) (by rw [List.length_map, rgI_len]; omega) (by rw [rgI_len]; omega) (rgI_pw _ _ _ rfl) (fun y => by rw [List.map_map]; show y ∈ _ ↔ y ∈ List.map id _; rw [List.map_id]) Q ?_
  have e2 : mgT ((rgI lo hi).map fun y => (y, f y)) (rgI lo hi) = (tb lo hi f).map en := by
    unfold mgT tb
    rw [List.map_map]
    have ef : ((rgI lo hi).filter fun y => decide (sumAt ((rgI lo hi).map fun y => (y, f y)) y ≠ 0)) = (rgI lo hi).filter fun y => decide (0 < f y) := by
      apply List.filter_congr
      intro y hy
      have := mem_rgI.mp hy
      have f0 := (hf y this.1 this.2).1
      rw [sumAt_map f y _ nd, if_pos hy]
      apply decide_eq_decide.mpr
      constructor
      · intro z
        rcases Rat.le_iff_lt_or_eq.mp f0 with c | c
        · exact c
        · exact absurd c.symm z
      · intro z
        exact Rat.ne_of_gt z
    rw [ef]
    apply List.map_congr_left
    intro y hy
    rw [sumAt_map f y _ nd, if_pos (List.mem_filter.mp hy).1]
    rfl
  rw [e2]
  exact h
end Lb

set_option Elab.async false
set_option linter.all false
set_option maxRecDepth 100000
set_option maxHeartbeats 4000000
set_option pp.maxSteps 600
namespace Lb
open PySem PySem.Spec PyProof.Rows L2 Pq
/-! ### thrown again: a table by rows -/
def app (lo hi : Int) (f : Int → Rat) (R : Int → Int → Rat) (z : Int) : Rat := qsum ((rgI lo hi).map fun y => f y * R y z)
def agL (lo hi : Int) (f : Int → Rat) (R : Int → Int → Rat) : Pr := (tb lo hi f).flatMap fun p => (tb lo hi (R p.1)).map fun q => (q.1, p.2 * q.2)
theorem sumAt_app : ∀ (L M : Pr) (y : Int), sumAt (L ++ M) y = sumAt L y + sumAt M y
  | [], M, y => by show sumAt M y = 0 + _; rw [Rat.zero_add]
  | p :: L, M, y => by
    show _ + sumAt (L ++ M) y = _ + sumAt L y + _
    rw [sumAt_app L M y, Rat.add_assoc]
theorem tb_form (lo hi : Int) (f : Int → Rat) : tb lo hi f = ((rgI lo hi).filter fun y => decide (0 < f y)).map fun y => (y, f y) := rfl
theorem tb_len (lo hi : Int) (f : Int → Rat) : (tb lo hi f).length ≤ (hi - lo).toNat := by
  rw [tb_form, List.length_map]
  refine Nat.le_trans (List.length_filter_le _ _) ?_
  rw [rgI_len]
  exact Nat.le_refl _
/-- one row's part -/
theorem row_sum {lo hi : Int} {g : Int → Rat} {c : Rat} {z : Int} (h0 : lo ≤ z) (h1 : z < hi) (hg : 0 ≤ g z) : sumAt ((tb lo hi g).map fun q => (q.1, c * q.2)) z = c * g z := by
  rw [tb_form, List.map_map]
  have e : (((rgI lo hi).filter fun y => decide (0 < g y)).map ((fun q : Int × Rat => (q.1, c * q.2)) ∘ fun y => (y, g y))) = ((rgI lo hi).filter fun y => decide (0 < g y)).map fun y => (y, c * g y) := rfl
  rw [e, sumAt_map (fun y => c * g y) z _ ((rgI_nodup lo hi).filter _)]
  by_cases d : 0 < g z
  · rw [if_pos (List.mem_filter.mpr ⟨mem_rgI.mpr ⟨h0, h1⟩, decide_eq_true d⟩)]
  · have c2 : z ∉ (rgI lo hi).filter fun y => decide (0 < g y) := fun w => d (of_decide_eq_true (List.mem_filter.mp w).2)
    rw [if_neg c2]
    have : g z = 0 := by grind
    rw [this, Rat.mul_zero]
theorem row_cK {lo hi : Int} {g : Int → Rat} {c : Rat} (z : Int) : cK ((tb lo hi g).map fun q => (q.1, c * q.2)) z ≤ 1 := by
  rw [tb_form, List.map_map]
  exact cK_map (fun y => c * g y) z _ ((rgI_nodup lo hi).filter _)
theorem ag_sum {lo hi : Int} {f : Int → Rat} {R : Int → Int → Rat} (hf : ∀ y, lo ≤ y → y < hi → 0 ≤ f y) (hR : ∀ y z, lo ≤ y → y < hi → lo ≤ z → z < hi → 0 ≤ R y z) {z : Int} (h0 : lo ≤ z) (h1 : z < hi) : sumAt (agL lo hi f R) z = app lo hi f R z := by
  have gen : ∀ K : List Int, (∀ y ∈ K, lo ≤ y ∧ y < hi) → sumAt ((K.map fun y => (y, f y)).flatMap fun p => (tb lo hi (R p.1)).map fun q => (q.1, p.2 * q.2)) z = qsum (K.map fun y => f y * R y z) := fun K => by
    induction K with
    | nil => intro _; rfl
    | cons y K ih =>
      intro hK
      have b := hK y List.mem_cons_self
      rw [List.map_cons, List.flatMap_cons, sumAt_app, ih fun x hx => hK x (List.mem_cons_of_mem _ hx), row_sum h0 h1 (hR y z b.1 b.2 h0 h1)]
      rfl
  unfold agL app
  rw [tb_form, gen _ (fun y hy => mem_rgI.mp (List.mem_filter.mp hy).1)]
  -- rungs without a share tell nothing
  have qf : ∀ K : List Int, (∀ y ∈ K, lo ≤ y ∧ y < hi) → qsum ((K.filter fun y => decide (0 < f y)).map fun y => f y * R y z) = qsum (K.map fun y => f y * R y z) := fun K => by
    induction K with
    | nil => intro _; rfl
    | cons y K ih =>
      intro hK
      have b := hK y List.mem_cons_self
      have ih := ih fun x hx => hK x (List.mem_cons_of_mem _ hx)
      rw [List.filter_cons]
      by_cases c : 0 < f y
      · rw [if_pos (decide_eq_true c), List.map_cons, List.map_cons]
        show _ + _ = _ + _
        rw [ih]
      · rw [if_neg (by rw [decide_eq_false c]; exact Bool.false_ne_true), ih, List.map_cons]
        have f0 : f y = 0 := by have := hf y b.1 b.2; grind
        show _ = f y * R y z + _
        rw [f0, Rat.zero_mul, Rat.zero_add]
  exact qf _ fun y hy => mem_rgI.mp hy
theorem ag_cK {lo hi : Int} {f : Int → Rat} {R : Int → Int → Rat} (z : Int) : cK (agL lo hi f R) z ≤ (hi - lo).toNat := by
  have gen : ∀ L : Pr, cK (L.flatMap fun p => (tb lo hi (R p.1)).map fun q => (q.1, p.2 * q.2)) z ≤ L.length := fun L => by
    induction L with
    | nil => exact Nat.zero_le _
    | cons p L ih =>
      rw [List.flatMap_cons, cK_app, List.length_cons]
      have := row_cK (lo := lo) (hi := hi) (g := R p.1) (c := p.2) z
      omega
  exact Nat.le_trans (gen _) (tb_len _ _ _)
theorem ag_len {lo hi : Int} {f : Int → Rat} {R : Int → Int → Rat} : (agL lo hi f R).length ≤ (hi - lo).toNat * (hi - lo).toNat := by
  have gen : ∀ L : Pr, (L.flatMap fun p => (tb lo hi (R p.1)).map fun q => (q.1, p.2 * q.2)).length ≤ L.length * (hi - lo).toNat := fun L => by
    induction L with
    | nil => simp
    | cons p L ih =>
      rw [List.flatMap_cons, List.length_append, List.length_cons, List.length_map, Nat.succ_mul]
      have := tb_len lo hi (R p.1)
      omega
  exact Nat.le_trans (gen _) (Nat.mul_le_mul_right _ (tb_len _ _ _))
theorem app_pos {lo hi : Int} {f : Int → Rat} {R : Int → Int → Rat} (hf : ∀ y, lo ≤ y → y < hi → 0 ≤ f y) (hR : ∀ y z, lo ≤ y → y < hi → lo ≤ z → z < hi → 0 ≤ R y z) {z : Int} (h0 : lo ≤ z) (h1 : z < hi) : 0 ≤ app lo hi f R z :=
  qsum0 _ _ fun y hy => by
    have b := mem_rgI.mp hy
    exact Rat.mul_nonneg (hf y b.1 b.2) (hR y z b.1 b.2 h0 h1)
theorem qsum_term {α : Type} {g : α → Rat} : ∀ {L : List α}, (∀ x ∈ L, 0 ≤ g x) → ∀ {x : α}, x ∈ L → g x ≤ qsum (L.map g)
  | y :: L, h, x, hx => by
    have ih0 := qsum0 g L fun z hz => h z (List.mem_cons_of_mem _ hz)
    have y0 := h y List.mem_cons_self
    show g x ≤ g y + qsum (L.map g)
    rcases List.mem_cons.mp hx with rfl | hx
    · grind
    · have ih := qsum_term (fun z hz => h z (List.mem_cons_of_mem _ hz)) hx
      grind
theorem qsum_pos_mem {α : Type} {g : α → Rat} : ∀ {L : List α}, (∀ x ∈ L, 0 ≤ g x) → 0 < qsum (L.map g) → ∃ x ∈ L, 0 < g x
  | [], _, h => absurd (show (0 : Rat) < 0 from h) (by decide)
  | y :: L, hp, h => by
    have h : 0 < g y + qsum (L.map g) := h
    by_cases c : 0 < g y
    · exact ⟨y, List.mem_cons_self, c⟩
    · have y0 := hp y List.mem_cons_self
      have e : g y = 0 := by grind
      rw [e, Rat.zero_add] at h
      obtain ⟨x, hx, hg⟩ := qsum_pos_mem (fun z hz => hp z (List.mem_cons_of_mem _ hz)) h
      exact ⟨x, List.mem_cons_of_mem _ hx, hg⟩
theorem ag_mem {lo hi : Int} {f : Int → Rat} {R : Int → Int → Rat} {p : Int × Rat} (h : p ∈ agL lo hi f R) : ∃ y, lo ≤ y ∧ y < hi ∧ 0 < f y ∧ lo ≤ p.1 ∧ p.1 < hi ∧ 0 < R y p.1 ∧ p.2 = f y * R y p.1 := by
  obtain ⟨q, hq, hp⟩ := List.mem_flatMap.mp h
  obtain ⟨r, hr, rfl⟩ := List.mem_map.mp hp
  have a : lo ≤ q.1 ∧ q.1 < hi ∧ 0 < f q.1 ∧ q.2 = f q.1 := by
    rw [tb_form] at hq
    obtain ⟨y, hy, rfl⟩ := List.mem_map.mp hq
    have h1 := List.mem_filter.mp hy
    have := mem_rgI.mp h1.1
    exact ⟨this.1, this.2, of_decide_eq_true h1.2, rfl⟩
  have b : lo ≤ r.1 ∧ r.1 < hi ∧ 0 < R q.1 r.1 ∧ r.2 = R q.1 r.1 := by
    rw [tb_form] at hr
    obtain ⟨y, hy, rfl⟩ := List.mem_map.mp hr
    have h1 := List.mem_filter.mp hy
    have := mem_rgI.mp h1.1
    exact ⟨this.1, this.2, of_decide_eq_true h1.2, rfl⟩
  exact ⟨q.1, a.1, a.2.1, a.2.2.1, b.1, b.2.1, b.2.2.1, by show q.2 * r.2 = _; rw [a.2.2.2, b.2.2.2]⟩
theorem ag_keys {lo hi : Int} {f : Int → Rat} {R : Int → Int → Rat} (hf : ∀ y, lo ≤ y → y < hi → 0 ≤ f y) (hR : ∀ y z, lo ≤ y → y < hi → lo ≤ z → z < hi → 0 ≤ R y z) (z : Int) : z ∈ ((rgI lo hi).filter fun z => decide (0 < app lo hi f R z)) ↔ z ∈ (agL lo hi f R).map (·.1) := by
  rw [List.mem_filter, decide_eq_true_iff, mem_rgI]
  constructor
  · rintro ⟨⟨h0, h1⟩, h⟩
    obtain ⟨y, hy, hp⟩ := qsum_pos_mem (fun y hy => by
      have b := mem_rgI.mp hy
      exact Rat.mul_nonneg (hf y b.1 b.2) (hR y z b.1 b.2 h0 h1)) h
    have b := mem_rgI.mp hy
    have f1 := hf y b.1 b.2
    have r1 := hR y z b.1 b.2 h0 h1
    have fp : 0 < f y := by
      rcases Rat.le_iff_lt_or_eq.mp f1 with c | c
      · exact c
      · rw [← c, Rat.zero_mul] at hp; exact absurd hp (by decide)
    have rp : 0 < R y z := by
      rcases Rat.le_iff_lt_or_eq.mp r1 with c | c
      · exact c
      · rw [← c, Rat.mul_zero] at hp; exact absurd hp (by decide)
    refine List.mem_map.mpr ⟨(z, f y * R y z), List.mem_flatMap.mpr ⟨(y, f y), ?_, List.mem_map.mpr ⟨(z, R y z), ?_, rfl⟩⟩, rfl⟩
    · rw [tb_form]
      exact List.mem_map.mpr ⟨y, List.mem_filter.mpr ⟨hy, decide_eq_true fp⟩, rfl⟩
    · rw [tb_form]
      exact List.mem_map.mpr ⟨z, List.mem_filter.mpr ⟨mem_rgI.mpr ⟨h0, h1⟩, decide_eq_true rp⟩, rfl⟩
  · intro h
    obtain ⟨p, hp, rfl⟩ := List.mem_map.mp h
    obtain ⟨y, h0, h1, fp, h2, h3, rp, _⟩ := ag_mem hp
    refine ⟨⟨h2, h3⟩, ?_⟩
    have t := qsum_term (g := fun y => f y * R y p.1) (L := rgI lo hi) (fun y hy => by
      have b := mem_rgI.mp hy
      exact Rat.mul_nonneg (hf y b.1 b.2) (hR y p.1 b.1 b.2 h2 h3)) (mem_rgI.mpr ⟨h0, h1⟩)
    have := Rat.mul_pos fp rp
    unfold app
    grind
theorem w_mgA {lo hi : Int} {f : Int → Rat} {R : Int → Int → Rat} {n m : Nat} (hf : ∀ y, lo ≤ y → y < hi → 0 ≤ f y ∧ Sz n (f y)) (hR : ∀ y z, lo ≤ y → y < hi → lo ≤ z → z < hi → 0 ≤ R y z ∧ Sz m (R y z)) (hl : hi - lo ≤ 10) (hn : (n + m + 1) * 9 + 1 + (n + m) ≤ 8999)
    (Q : SV → Prop) (h : Q (.val (.tuple ((tb lo hi (app lo hi f R)).map en)))) : F_merged [.val (.list ((agL lo hi f R).map en))] Q := by
  have f0 : ∀ y, lo ≤ y → y < hi → 0 ≤ f y := fun y a b => (hf y a b).1
  have R0 : ∀ y z, lo ≤ y → y < hi → lo ≤ z → z < hi → 0 ≤ R y z := fun y z a b c d => (hR y z a b c d).1
  refine w_mergedC (n := n + m) (c := 9) (K := (rgI lo hi).filter fun z => decide (0 < app lo hi f R z)) (fun p hp => ?_) (fun p hp => ?_) (fun y => ?_) hn ?_ ?_ ((rgI_pw _ _ _ rfl).filter _) (ag_keys f0 R0) Q ?_
  · obtain ⟨y, a, b, c, d, e, g, i⟩ := ag_mem hp
    rw [i]
    exact Rat.mul_nonneg (Rat.le_of_lt c) (Rat.le_of_lt g)
  · obtain ⟨y, a, b, c, d, e, g, i⟩ := ag_mem hp
    rw [i]
    exact (hf y a b).2.mul (hR y p.1 a b d e).2
  · refine Nat.le_trans (ag_cK y) ?_
    omega
  · refine Nat.le_trans ag_len ?_
    exact Nat.le_trans (Nat.mul_le_mul (show (hi - lo).toNat ≤ 10 by omega) (show (hi - lo).toNat ≤ 10 by omega)) (by decide)
  · refine Nat.lt_of_le_of_lt (List.length_filter_le _ _) ?_
    rw [rgI_len]
    omega
  · have e2 : mgT (agL lo hi f R) ((rgI lo hi).filter fun z => decide (0 < app lo hi f R z)) = (tb lo hi (app lo hi f R)).map en := by
      unfold mgT
      rw [tb_form, List.map_map]
      have ef : (((rgI lo hi).filter fun z => decide (0 < app lo hi f R z)).filter fun y => decide (sumAt (agL lo hi f R) y ≠ 0)) = (rgI lo hi).filter fun z => decide (0 < app lo hi f R z) := by
        refine List.filter_eq_self.mpr fun y hy => ?_
        have a := List.mem_filter.mp hy
        have b := mem_rgI.mp a.1
        rw [ag_sum f0 R0 b.1 b.2]
        exact decide_eq_true (Rat.ne_of_gt (of_decide_eq_true a.2))
      rw [ef]
      apply List.map_congr_left
      intro y hy
      have a := List.mem_filter.mp hy
      have b := mem_rgI.mp a.1
      rw [ag_sum f0 R0 b.1 b.2]
      rfl
    rw [e2]
    exact h
end Lb

set_option Elab.async false
set_option linter.all false
set_option maxRecDepth 100000
set_option maxHeartbeats 4000000
set_option pp.maxSteps 600
namespace Lb
open PySem PySem.Spec PyProof.Rows L2 Pq
/-! ### rows between ladders -/
def isE (lo hi y : Int) : Bool := decide (y = lo ∨ y = hi)
def byR (a : Rat) (e : Bool) : Rat := (1 - a)⁻¹ ^ (if e then 1 else 2)
/-- ahead of the other ladder's own part -/
def kS (a b : Rat) (e : Bool) (d : Nat) : Rat := if d = 0 then (if e then 1 - a * b else 1 + a * a - 2 * (a * b)) else b ^ (d - 1) * (b - a) * (if e then 1 else 1 - a * b)
def KR (a b : Rat) (lo hi y z : Int) : Rat := kS a b (isE lo hi y) (z - y).natAbs * byR a (isE lo hi y) * cE b (isE lo hi z)
def tD (a : Rat) (lo hi y n : Int) : Rat := byR a (isE lo hi y) * (if n = y then (if isE lo hi y then 1 else 1 + a * a) else if n = y - 1 ∨ n = y + 1 then -a else 0)
def LaM (b : Rat) (lo hi n z : Int) : Rat := cE b (isE lo hi z) * b ^ (z - n).natAbs
theorem qsum_delta (c : Rat) (y a b : Int) : qsum ((rgI a b).map fun n => if n = y then c else 0) = if a ≤ y ∧ y < b then c else 0 := by
  have gen : ∀ L : List Int, L.Nodup → qsum (L.map fun n => if n = y then c else 0) = if y ∈ L then c else 0 := fun L => by
    induction L with
    | nil => intro _; rfl
    | cons x L ih =>
      intro nd
      rw [List.nodup_cons] at nd
      show (if x = y then c else 0) + qsum _ = _
      rw [ih nd.2]
      by_cases d : x = y
      · subst d
        rw [if_pos rfl, if_neg nd.1, if_pos List.mem_cons_self, Rat.add_zero]
      · rw [if_neg d, Rat.zero_add]
        by_cases e : y ∈ L
        · rw [if_pos e, if_pos (List.mem_cons_of_mem _ e)]
        · rw [if_neg e, if_neg (fun z => (List.mem_cons.mp z).elim (fun w => d w.symm) e)]
  rw [gen _ (rgI_nodup a b)]
  by_cases e : a ≤ y ∧ y < b
  · rw [if_pos e, if_pos (mem_rgI.mpr e)]
  · rw [if_neg e, if_neg (fun z => e (mem_rgI.mp z))]
theorem qsum_tri (A : Rat) (B : Int → Rat) {lo hi y : Int} (h0 : lo ≤ y) (h1 : y ≤ hi) : qsum ((rgI lo (hi + 1)).map fun n => if n = y then A else if n = y - 1 ∨ n = y + 1 then B n else 0) = A + (if lo < y then B (y - 1) else 0) + (if y < hi then B (y + 1) else 0) := by
  have e : ((rgI lo (hi + 1)).map fun n => if n = y then A else if n = y - 1 ∨ n = y + 1 then B n else 0) = (rgI lo (hi + 1)).map fun n => ((if n = y then A else 0) + (if n = y - 1 then B (y - 1) else 0)) + (if n = y + 1 then B (y + 1) else 0) := by
    apply List.map_congr_left
    intro n _
    by_cases c1 : n = y
    · rw [if_pos c1, if_pos c1, if_neg (by omega), if_neg (by omega), Rat.add_zero, Rat.add_zero]
    · by_cases c2 : n = y - 1
      · rw [if_neg c1, if_pos (.inl c2), if_neg c1, if_pos c2, if_neg (by omega), c2, Rat.add_zero, Rat.zero_add]
      · by_cases c3 : n = y + 1
        · rw [if_neg c1, if_pos (.inr c3), if_neg c1, if_neg c2, if_pos c3, c3, Rat.add_zero, Rat.zero_add]
        · rw [if_neg c1, if_neg (fun z => z.elim c2 c3), if_neg c1, if_neg c2, if_neg c3, Rat.add_zero, Rat.add_zero]
  rw [e, qsum_addf, qsum_addf, qsum_delta, qsum_delta, qsum_delta, if_pos ⟨h0, by omega⟩]
  by_cases c : lo < y
  · rw [if_pos c, if_pos ⟨by omega, by omega⟩]
    by_cases d : y < hi
    · rw [if_pos d, if_pos ⟨by omega, by omega⟩]
    · rw [if_neg d, if_neg (by omega)]
  · rw [if_neg c, if_neg (by omega)]
    by_cases d : y < hi
    · rw [if_pos d, if_pos ⟨by omega, by omega⟩]
    · rw [if_neg d, if_neg (by omega)]
theorem ne1 {a : Rat} (s : St a) : (1 : Rat) - a ≠ 0 := fun z => by have := s.l1; grind
theorem pow_s (b : Rat) {d : Nat} (h : d ≠ 0) : b ^ d = b ^ (d - 1) * b := by
  obtain ⟨k, rfl⟩ := Nat.exists_eq_succ_of_ne_zero h
  rw [Rat.pow_succ]
  rfl
/-- the rows are the one ladder taken back, then the other -/
theorem KR_form {a b : Rat} {lo hi y z : Int} (h0 : lo ≤ y) (h1 : y ≤ hi) (hl : lo < hi) (z0 : lo ≤ z) (z1 : z ≤ hi) : KR a b lo hi y z = qsum ((rgI lo (hi + 1)).map fun n => tD a lo hi y n * LaM b lo hi n z) := by
  have e : ((rgI lo (hi + 1)).map fun n => tD a lo hi y n * LaM b lo hi n z) = (rgI lo (hi + 1)).map fun n => (byR a (isE lo hi y) * cE b (isE lo hi z)) * (if n = y then (if isE lo hi y then 1 else 1 + a * a) * b ^ (z - y).natAbs else if n = y - 1 ∨ n = y + 1 then (-a) * b ^ (z - n).natAbs else 0) := by
    apply List.map_congr_left
    intro n _
    unfold tD LaM
    by_cases c1 : n = y
    · rw [if_pos c1, if_pos c1, c1]
      grind
    · by_cases c2 : n = y - 1 ∨ n = y + 1
      · rw [if_neg c1, if_pos c2, if_neg c1, if_pos c2]
        grind
      · rw [if_neg c1, if_neg c2, if_neg c1, if_neg c2]
        grind
  rw [e, qsum_mulf, qsum_tri _ (fun n => (-a) * b ^ (z - n).natAbs) h0 h1]
  unfold KR
  have key : kS a b (isE lo hi y) (z - y).natAbs = (if isE lo hi y then 1 else 1 + a * a) * b ^ (z - y).natAbs + (if lo < y then (-a) * b ^ (z - (y - 1)).natAbs else 0) + (if y < hi then (-a) * b ^ (z - (y + 1)).natAbs else 0) := by
    unfold kS
    by_cases ce : y = lo ∨ y = hi
    · have ie : isE lo hi y = true := decide_eq_true ce
      rw [ie, if_pos rfl, if_pos rfl, if_pos rfl, Rat.one_mul, Rat.mul_one]
      rcases ce with ce | ce
      · subst ce
        rw [if_neg (Int.lt_irrefl y), if_pos hl, Rat.add_zero]
        by_cases cz : z = y
        · subst cz
          rw [show (z - z).natAbs = 0 by omega, show (z - (z + 1)).natAbs = 0 + 1 by omega, if_pos rfl, Rat.pow_zero, Rat.pow_succ, Rat.pow_zero]
          grind
        · by_cases cg : y < z
          · have hd : (z - y).natAbs ≠ 0 := by omega
            rw [if_neg hd, pow_s b hd, show (z - (y + 1)).natAbs = (z - y).natAbs - 1 by omega]
            grind
          · exact absurd z0 (by omega)
      · subst ce
        rw [if_pos hl, if_neg (Int.lt_irrefl y), Rat.add_zero]
        by_cases cz : z = y
        · subst cz
          rw [show (z - z).natAbs = 0 by omega, show (z - (z - 1)).natAbs = 0 + 1 by omega, if_pos rfl, Rat.pow_zero, Rat.pow_succ, Rat.pow_zero]
          grind
        · have hd : (z - y).natAbs ≠ 0 := by omega
          rw [if_neg hd, pow_s b hd, show (z - (y - 1)).natAbs = (z - y).natAbs - 1 by omega]
          grind
    · have ie : isE lo hi y = false := decide_eq_false ce
      rw [ie, if_pos (show lo < y by omega), if_pos (show y < hi by omega)]
      show (if (z - y).natAbs = 0 then 1 + a * a - 2 * (a * b) else b ^ ((z - y).natAbs - 1) * (b - a) * (1 - a * b)) = (1 + a * a) * b ^ (z - y).natAbs + (-a) * b ^ (z - (y - 1)).natAbs + (-a) * b ^ (z - (y + 1)).natAbs
      by_cases cz : z = y
      · subst cz
        rw [show (z - z).natAbs = 0 by omega, show (z - (z - 1)).natAbs = 0 + 1 by omega, show (z - (z + 1)).natAbs = 0 + 1 by omega, if_pos rfl, Rat.pow_zero, Rat.pow_succ, Rat.pow_zero]
        grind
      · have hd : (z - y).natAbs ≠ 0 := by omega
        rw [if_neg hd]
        by_cases cg : y < z
        · rw [show (z - (y - 1)).natAbs = (z - y).natAbs + 1 by omega, show (z - (y + 1)).natAbs = (z - y).natAbs - 1 by omega, Rat.pow_succ, pow_s b hd]
          generalize b ^ ((z - y).natAbs - 1) = P
          grind
        · rw [show (z - (y + 1)).natAbs = (z - y).natAbs + 1 by omega, show (z - (y - 1)).natAbs = (z - y).natAbs - 1 by omega, Rat.pow_succ, pow_s b hd]
          generalize b ^ ((z - y).natAbs - 1) = P
          grind
  rw [key]
  grind
theorem cb_one {b : Rat} (s : St b) (e : Bool) : cE b e * byR b e = (1 + b)⁻¹ * (1 - b)⁻¹ := by
  have n1 : (1 - b) * (1 - b)⁻¹ = 1 := Rat.mul_inv_cancel _ (ne1 s)
  unfold cE byR
  cases e
  · show (1 - b) / (1 + b) * (1 - b)⁻¹ ^ 2 = _
    rw [Rat.div_def, show (2 : Nat) = 0 + 1 + 1 by rfl, Rat.pow_succ, Rat.pow_succ, Rat.pow_zero]
    generalize (1 - b)⁻¹ = I at *
    generalize (1 + b)⁻¹ = J at *
    grind
  · show 1 / (1 + b) * (1 - b)⁻¹ ^ 1 = _
    rw [Rat.div_def, show (1 : Nat) = 0 + 1 by rfl, Rat.pow_succ, Rat.pow_zero]
    grind
/-- a ladder, then taken back, is nothing -/
theorem LaM_tD {b : Rat} {lo hi m z : Int} (s : St b) (hl : lo < hi) (m0 : lo ≤ m) (m1 : m ≤ hi) (z0 : lo ≤ z) (z1 : z ≤ hi) : qsum ((rgI lo (hi + 1)).map fun n => LaM b lo hi m n * tD b lo hi n z) = if m = z then 1 else 0 := by
  have n1 : (1 - b) * (1 - b)⁻¹ = 1 := Rat.mul_inv_cancel _ (ne1 s)
  have n2 : (1 + b) * (1 + b)⁻¹ = 1 := Rat.mul_inv_cancel _ s.one_add
  have e : ((rgI lo (hi + 1)).map fun n => LaM b lo hi m n * tD b lo hi n z) = (rgI lo (hi + 1)).map fun n => ((1 + b)⁻¹ * (1 - b)⁻¹) * (if n = z then b ^ (z - m).natAbs * (if isE lo hi z then 1 else 1 + b * b) else if n = z - 1 ∨ n = z + 1 then b ^ (n - m).natAbs * (-b) else 0) := by
    apply List.map_congr_left
    intro n _
    have cb := cb_one s (isE lo hi n)
    unfold LaM tD
    by_cases c1 : n = z
    · subst c1
      rw [if_pos rfl, if_pos rfl, ← cb]
      grind
    · have c1' : ¬ z = n := fun w => c1 w.symm
      by_cases c2 : n = z - 1 ∨ n = z + 1
      · rw [if_neg c1', if_pos (show z = n - 1 ∨ z = n + 1 by omega), if_neg c1, if_pos c2, ← cb]
        grind
      · rw [if_neg c1', if_neg (show ¬ (z = n - 1 ∨ z = n + 1) by omega), if_neg c1, if_neg c2]
        grind
  rw [e, qsum_mulf, qsum_tri _ (fun n => b ^ (n - m).natAbs * (-b)) z0 z1]
  have key : b ^ (z - m).natAbs * (if isE lo hi z then 1 else 1 + b * b) + (if lo < z then b ^ (z - 1 - m).natAbs * (-b) else 0) + (if z < hi then b ^ (z + 1 - m).natAbs * (-b) else 0) = if m = z then (1 + b) * (1 - b) else 0 := by
    by_cases ce : z = lo ∨ z = hi
    · have ie : isE lo hi z = true := decide_eq_true ce
      rw [ie, if_pos rfl, Rat.mul_one]
      rcases ce with ce | ce
      · subst ce
        rw [if_neg (Int.lt_irrefl z), if_pos hl, Rat.add_zero]
        by_cases cm : m = z
        · subst cm
          rw [if_pos rfl, show (m - m).natAbs = 0 by omega, show (m + 1 - m).natAbs = 0 + 1 by omega, Rat.pow_zero, Rat.pow_succ, Rat.pow_zero]
          grind
        · have hd : (z - m).natAbs ≠ 0 := by omega
          rw [if_neg cm, pow_s b hd, show (z + 1 - m).natAbs = (z - m).natAbs - 1 by omega]
          grind
      · subst ce
        rw [if_pos hl, if_neg (Int.lt_irrefl z), Rat.add_zero]
        by_cases cm : m = z
        · subst cm
          rw [if_pos rfl, show (m - m).natAbs = 0 by omega, show (m - 1 - m).natAbs = 0 + 1 by omega, Rat.pow_zero, Rat.pow_succ, Rat.pow_zero]
          grind
        · have hd : (z - m).natAbs ≠ 0 := by omega
          rw [if_neg cm, pow_s b hd, show (z - 1 - m).natAbs = (z - m).natAbs - 1 by omega]
          grind
    · have ie : isE lo hi z = false := decide_eq_false ce
      rw [ie, if_pos (show lo < z by omega), if_pos (show z < hi by omega)]
      show b ^ (z - m).natAbs * (1 + b * b) + b ^ (z - 1 - m).natAbs * (-b) + b ^ (z + 1 - m).natAbs * (-b) = _
      by_cases cm : m = z
      · subst cm
        rw [if_pos rfl, show (m - m).natAbs = 0 by omega, show (m - 1 - m).natAbs = 0 + 1 by omega, show (m + 1 - m).natAbs = 0 + 1 by omega, Rat.pow_zero, Rat.pow_succ, Rat.pow_zero]
        grind
      · have hd : (z - m).natAbs ≠ 0 := by omega
        rw [if_neg cm]
        by_cases cg : m < z
        · rw [show (z + 1 - m).natAbs = (z - m).natAbs + 1 by omega, show (z - 1 - m).natAbs = (z - m).natAbs - 1 by omega, Rat.pow_succ, pow_s b hd]
          generalize b ^ ((z - m).natAbs - 1) = P
          grind
        · rw [show (z - 1 - m).natAbs = (z - m).natAbs + 1 by omega, show (z + 1 - m).natAbs = (z - m).natAbs - 1 by omega, Rat.pow_succ, pow_s b hd]
          generalize b ^ ((z - m).natAbs - 1) = P
          grind
  rw [key]
  by_cases cm : m = z
  · rw [if_pos cm, if_pos cm]
    generalize (1 - b)⁻¹ = I at *
    generalize (1 + b)⁻¹ = J at *
    grind
  · rw [if_neg cm, if_neg cm, Rat.mul_zero]
/-- rows behind rows -/
theorem KR_KR {a b c : Rat} {lo hi y x : Int} (sb : St b) (hl : lo < hi) (y0 : lo ≤ y) (y1 : y ≤ hi) (x0 : lo ≤ x) (x1 : x ≤ hi) : qsum ((rgI lo (hi + 1)).map fun z => KR a b lo hi y z * KR b c lo hi z x) = KR a c lo hi y x := by
  have e1 : ((rgI lo (hi + 1)).map fun z => KR a b lo hi y z * KR b c lo hi z x) = (rgI lo (hi + 1)).map fun z => qsum ((rgI lo (hi + 1)).map fun n => qsum ((rgI lo (hi + 1)).map fun m => (tD a lo hi y n * LaM c lo hi m x) * (LaM b lo hi n z * tD b lo hi z m))) := by
    apply List.map_congr_left
    intro z hz
    have hz := mem_rgI.mp hz
    rw [KR_form y0 y1 hl hz.1 (by omega), KR_form hz.1 (by omega) hl x0 x1]
    have s1 : qsum ((rgI lo (hi + 1)).map fun n => tD a lo hi y n * LaM b lo hi n z) * qsum ((rgI lo (hi + 1)).map fun m => tD b lo hi z m * LaM c lo hi m x) = qsum ((rgI lo (hi + 1)).map fun n => qsum ((rgI lo (hi + 1)).map fun m => tD b lo hi z m * LaM c lo hi m x) * (tD a lo hi y n * LaM b lo hi n z)) := by
      rw [qsum_mulf, Rat.mul_comm]
    rw [s1]
    congr 1
    apply List.map_congr_left
    intro n _
    rw [Rat.mul_comm, ← qsum_mulf]
    congr 1
    apply List.map_congr_left
    intro m _
    grind
  rw [e1, qsum_swap]
  have e2 : ((rgI lo (hi + 1)).map fun n => qsum ((rgI lo (hi + 1)).map fun z => qsum ((rgI lo (hi + 1)).map fun m => (tD a lo hi y n * LaM c lo hi m x) * (LaM b lo hi n z * tD b lo hi z m)))) = (rgI lo (hi + 1)).map fun n => tD a lo hi y n * LaM c lo hi n x := by
    apply List.map_congr_left
    intro n hn
    have hn := mem_rgI.mp hn
    rw [qsum_swap]
    have e3 : ((rgI lo (hi + 1)).map fun m => qsum ((rgI lo (hi + 1)).map fun z => (tD a lo hi y n * LaM c lo hi m x) * (LaM b lo hi n z * tD b lo hi z m))) = (rgI lo (hi + 1)).map fun m => if m = n then tD a lo hi y n * LaM c lo hi n x else 0 := by
      apply List.map_congr_left
      intro m hm
      have hm := mem_rgI.mp hm
      rw [qsum_mulf, LaM_tD sb hl hn.1 (by omega) hm.1 (by omega)]
      by_cases d : n = m
      · rw [if_pos d, if_pos d.symm, Rat.mul_one, d]
      · rw [if_neg d, if_neg (fun w => d w.symm), Rat.mul_zero]
    rw [e3, qsum_delta, if_pos hn]
  rw [e2, KR_form y0 y1 hl x0 x1]
theorem KR_id {a : Rat} {lo hi y z : Int} (s : St a) : KR a a lo hi y z = if y = z then 1 else 0 := by
  have n1 : (1 - a) * (1 - a)⁻¹ = 1 := Rat.mul_inv_cancel _ (ne1 s)
  have n2 : (1 + a) * (1 + a)⁻¹ = 1 := Rat.mul_inv_cancel _ s.one_add
  unfold KR
  by_cases c : y = z
  · subst c
    have cb := cb_one s (isE lo hi y)
    rw [if_pos rfl, show (y - y).natAbs = 0 by omega]
    have e : kS a a (isE lo hi y) 0 = (1 + a) * (1 - a) := by
      unfold kS
      rw [if_pos rfl]
      cases isE lo hi y
      · show 1 + a * a - 2 * (a * a) = _
        grind
      · show 1 - a * a = _
        grind
    rw [e, Rat.mul_assoc, Rat.mul_comm (byR a (isE lo hi y)), cb]
    generalize (1 - a)⁻¹ = I at *
    generalize (1 + a)⁻¹ = J at *
    grind
  · rw [if_neg c]
    have e : kS a a (isE lo hi y) (z - y).natAbs = 0 := by
      unfold kS
      rw [if_neg (by omega)]
      grind
    rw [e, Rat.zero_mul, Rat.zero_mul]
theorem KR0 {a b : Rat} {lo hi y z : Int} (sa : St a) (sb : St b) (le : a ≤ b) : 0 ≤ KR a b lo hi y z := by
  have pa := sa.p0
  have la := sa.l1
  have pb := sb.p0
  have lb := sb.l1
  have ab : a * b ≤ 1 := by
    have := Rat.mul_le_mul_of_nonneg_left (Rat.le_of_lt lb) (Rat.le_of_lt pa)
    rw [Rat.mul_one] at this
    grind
  have i0 : 0 ≤ (1 - a)⁻¹ := Rat.le_of_lt (Rat.inv_pos.mpr (by grind))
  have ks : 0 ≤ kS a b (isE lo hi y) (z - y).natAbs := by
    unfold kS
    split
    · split
      · grind
      · have h1 := Rat.mul_le_mul_of_nonneg_left (Rat.le_of_lt lb) (Rat.le_of_lt pa)
        rw [Rat.mul_one] at h1
        have h2 : 0 ≤ (1 - a) * (1 - a) := Rat.mul_nonneg (by grind) (by grind)
        grind
    · refine Rat.mul_nonneg (Rat.mul_nonneg (pow0 (Rat.le_of_lt pb) _) (by grind)) ?_
      split
      · decide
      · grind
  exact Rat.mul_nonneg (Rat.mul_nonneg ks (pow0 i0 _)) (cE0 sb _)
end Lb

set_option Elab.async false
set_option linter.all false
set_option maxRecDepth 100000
set_option maxHeartbeats 4000000
set_option pp.maxSteps 600
namespace Lb
open PySem PySem.Spec PyProof.Rows L2 Pq
/-- the rows told, of one rung too -/
def RB (a b : Rat) (lo hi y z : Int) : Rat := if lo = hi then 1 else KR a b lo hi y z
theorem RB0 {a b : Rat} {lo hi y z : Int} (sa : St a) (sb : St b) (le : a ≤ b) : 0 ≤ RB a b lo hi y z := by
  unfold RB
  split
  · decide
  · exact KR0 sa sb le
theorem tb_congr {lo hi : Int} {f g : Int → Rat} (h : ∀ y, lo ≤ y → y < hi → f y = g y) : tb lo hi f = tb lo hi g := by
  rw [tb_form, tb_form]
  have e : ((rgI lo hi).filter fun y => decide (0 < f y)) = (rgI lo hi).filter fun y => decide (0 < g y) := by
    apply List.filter_congr
    intro y hy
    have := mem_rgI.mp hy
    rw [h y this.1 this.2]
  rw [e]
  apply List.map_congr_left
  intro y hy
  have := mem_rgI.mp (List.mem_filter.mp hy).1
  rw [h y this.1 this.2]
theorem app_two {a b c : Rat} {lo hi : Int} {f : Int → Rat} (sb : St b) (hl : lo ≤ hi) {x : Int} (x0 : lo ≤ x) (x1 : x < hi + 1) : app lo (hi + 1) (app lo (hi + 1) f (RB a b lo hi)) (RB b c lo hi) x = app lo (hi + 1) f (RB a c lo hi) x := by
  unfold app
  by_cases ce : lo = hi
  · subst ce
    unfold RB
    rw [rgI_one]
    show (f lo * (if lo = lo then 1 else _) + 0) * (if lo = lo then 1 else _) + 0 = f lo * (if lo = lo then 1 else _) + 0
    rw [if_pos rfl, if_pos rfl, if_pos rfl]
    grind
  · have e : ∀ a b : Rat, RB a b lo hi = KR a b lo hi := fun a b => by
      funext y z
      unfold RB
      rw [if_neg ce]
    rw [e, e, e]
    have e1 : ((rgI lo (hi + 1)).map fun z => qsum ((rgI lo (hi + 1)).map fun y => f y * KR a b lo hi y z) * KR b c lo hi z x) = (rgI lo (hi + 1)).map fun z => qsum ((rgI lo (hi + 1)).map fun y => f y * (KR a b lo hi y z * KR b c lo hi z x)) := by
      apply List.map_congr_left
      intro z _
      rw [Rat.mul_comm, ← qsum_mulf]
      congr 1
      apply List.map_congr_left
      intro y _
      grind
    rw [e1, qsum_swap]
    congr 1
    apply List.map_congr_left
    intro y hy
    have hy := mem_rgI.mp hy
    rw [qsum_mulf, KR_KR sb (by omega) hy.1 (by omega) x0 (by omega)]
theorem app_id {a : Rat} {lo hi : Int} {f : Int → Rat} (s : St a) {x : Int} (x0 : lo ≤ x) (x1 : x < hi + 1) : app lo (hi + 1) f (RB a a lo hi) x = f x := by
  unfold app
  by_cases c : lo = hi
  · subst c
    unfold RB
    have : x = lo := by omega
    subst this
    rw [rgI_one]
    show f x * (if x = x then 1 else _) + 0 = f x
    rw [if_pos rfl]
    grind
  · have e1 : ((rgI lo (hi + 1)).map fun y => f y * RB a a lo hi y x) = (rgI lo (hi + 1)).map fun y => if y = x then f x else 0 := by
      apply List.map_congr_left
      intro y _
      unfold RB
      rw [if_neg c, KR_id s]
      by_cases d : y = x
      · rw [if_pos d, if_pos d, d, Rat.mul_one]
      · rw [if_neg d, if_neg d, Rat.mul_zero]
    rw [e1, qsum_delta, if_pos ⟨x0, x1⟩]
end Lb

set_option Elab.async false
set_option linter.all false
set_option maxRecDepth 100000
set_option maxHeartbeats 4000000
set_option pp.maxSteps 600
namespace Lb
open PySem PySem.Spec PyProof.Rows L2 Pq
/-! ### dicts from ints to anything -/
section
variable {α : Type}
def gk (v : α → Da) (p : Int × α) : Da × Da := (.int p.1, v p.2)
def lookG : List (Int × α) → Int → Option α
  | [], _ => none
  | p :: r, y => if p.1 = y then some p.2 else lookG r y
def putG : List (Int × α) → Int → α → List (Int × α)
  | [], y, q => [(y, q)]
  | p :: r, y, q => if p.1 = y then (y, q) :: r else p :: putG r y q
theorem tm_gk (v : α → Da) : ∀ D : List (Int × α), isTm (D.map (gk v)) = false
  | [] => rfl
  | _ :: _ => rfl
theorem pm_gk (v : α → Da) : ∀ D : List (Int × α), isPm (D.map (gk v)) = false
  | [] => rfl
  | _ :: _ => rfl
theorem dlook_gk (v : α → Da) (y : Int) : ∀ D : List (Int × α), dLook (D.map (gk v)) (.inl y) = (lookG D y).map v
  | [] => rfl
  | p :: r => by
    have ih := dlook_gk v y r
    unfold dLook at ih ⊢
    rw [List.map_cons]
    by_cases c : p.1 = y
    · rw [List.find?_cons_of_pos (by show decide (p.1 = y) = true; exact decide_eq_true c), lookG, if_pos c]
      rfl
    · rw [List.find?_cons_of_neg (by show ¬ decide (p.1 = y) = true; rw [decide_eq_false c]; exact Bool.false_ne_true), lookG, if_neg c]
      exact ih
theorem dget_gk (v : α → Da) (D : List (Int × α)) (y : Int) : dGetO (D.map (gk v)) (.int y) = some ((lookG D y).map v) := by
  unfold dGetO
  rw [tm_gk v, if_neg Bool.false_ne_true]
  show some (dLook (D.map (gk v)) (.inl y)) = _
  rw [dlook_gk v]
theorem glook_none (y : Int) : ∀ D : List (Int × α), lookG D y = none ↔ y ∉ D.map (·.1)
  | [] => by simp [lookG]
  | p :: r => by
    rw [lookG, List.map_cons, List.mem_cons]
    by_cases c : p.1 = y
    · rw [if_pos c]; simp [c]
    · rw [if_neg c, glook_none y r]
      exact ⟨fun h z => z.elim (fun e => c e.symm) h, fun h z => h (.inr z)⟩
theorem any_gk (v : α → Da) (y : Int) : ∀ D : List (Int × α), ((D.map (gk v)).any fun p => isKy (.inl y) p.1) = (lookG D y).isSome
  | [] => rfl
  | p :: r => by
    rw [List.map_cons, List.any_cons, any_gk v y r, lookG]
    show (decide (p.1 = y) || _) = _
    by_cases c : p.1 = y
    · rw [decide_eq_true c, if_pos c]; rfl
    · rw [decide_eq_false c, if_neg c]; rfl
theorem putG_none (y : Int) (q : α) : ∀ D : List (Int × α), lookG D y = none → putG D y q = D ++ [(y, q)]
  | [], _ => rfl
  | p :: r, h => by
    rw [lookG] at h
    by_cases c : p.1 = y
    · rw [if_pos c] at h; cases h
    · rw [if_neg c] at h
      rw [putG, if_neg c, putG_none y q r h]; rfl
theorem repl_gnone (v : α → Da) (y : Int) (d : Da) : ∀ D : List (Int × α), lookG D y = none → ((D.map (gk v)).map fun p => if isKy (.inl y) p.1 = true then (p.1, d) else p) = D.map (gk v)
  | [], _ => rfl
  | p :: r, h => by
    rw [lookG] at h
    by_cases c : p.1 = y
    · rw [if_pos c] at h; cases h
    · rw [if_neg c] at h
      rw [List.map_cons, List.map_cons, repl_gnone v y d r h, if_neg (by show ¬ decide (p.1 = y) = true; rw [decide_eq_false c]; exact Bool.false_ne_true)]
theorem repl_gk (v : α → Da) (y : Int) (q : α) : ∀ D : List (Int × α), (D.map (·.1)).Nodup → (lookG D y).isSome = true → ((D.map (gk v)).map fun p => if isKy (.inl y) p.1 = true then (p.1, v q) else p) = (putG D y q).map (gk v)
  | [], _, h => by cases h
  | p :: r, nd, h => by
    rw [List.map_cons, List.nodup_cons] at nd
    rw [lookG] at h
    by_cases c : p.1 = y
    · rw [putG, if_pos c, List.map_cons, List.map_cons, if_pos (by show decide (p.1 = y) = true; exact decide_eq_true c), repl_gnone v y _ r ((glook_none y r).mpr (by rw [← c]; exact nd.1))]
      show (PyData.int p.1, v q) :: _ = _
      rw [c]; rfl
    · rw [if_neg c] at h
      rw [putG, if_neg c, List.map_cons, List.map_cons, repl_gk v y q r nd.2 h, if_neg (by show ¬ decide (p.1 = y) = true; rw [decide_eq_false c]; exact Bool.false_ne_true)]
      rfl
theorem dput_gk (v : α → Da) {D : List (Int × α)} (nd : (D.map (·.1)).Nodup) (y : Int) (q : α) : dPut (D.map (gk v)) (.inl y) (v q) = (putG D y q).map (gk v) := by
  unfold dPut
  rw [any_gk v]
  cases h : (lookG D y).isSome with
  | true => rw [if_pos rfl, repl_gk v y q D nd h]
  | false =>
    rw [if_neg Bool.false_ne_true]
    have h0 : lookG D y = none := by
      cases z : lookG D y with
      | none => rfl
      | some v => rw [z] at h; cases h
    rw [putG_none y q D h0, List.map_append]
    rfl
theorem glook_put (y : Int) (q : α) (x : Int) : ∀ D : List (Int × α), lookG (putG D y q) x = if y = x then some q else lookG D x
  | [] => by
    show (if y = x then some q else none) = _
    rfl
  | p :: r => by
    rw [putG]
    by_cases c : p.1 = y
    · rw [if_pos c]
      show (if y = x then some q else lookG r x) = _
      by_cases e : y = x
      · rw [if_pos e, if_pos e]
      · rw [if_neg e, if_neg e, lookG, if_neg (by rw [c]; exact e)]
    · rw [if_neg c]
      show (if p.1 = x then some p.2 else lookG (putG r y q) x) = _
      rw [glook_put y q x r, lookG]
      by_cases e : p.1 = x
      · rw [if_pos e, if_pos e, if_neg (fun z => c (e.trans z.symm))]
      · rw [if_neg e, if_neg e]
theorem gkeys_put (y : Int) (q : α) : ∀ D : List (Int × α), (D.map (·.1)).Nodup → ((putG D y q).map (·.1)).Nodup ∧ ∀ x, x ∈ (putG D y q).map (·.1) ↔ x = y ∨ x ∈ D.map (·.1)
  | [], _ => by simp [putG]
  | p :: r, nd => by
    rw [List.map_cons, List.nodup_cons] at nd
    rw [putG]
    by_cases c : p.1 = y
    · rw [if_pos c, List.map_cons, List.nodup_cons]
      refine ⟨⟨by rw [← c]; exact nd.1, nd.2⟩, fun x => ?_⟩
      rw [List.map_cons, List.mem_cons, List.mem_cons, c]
      exact ⟨fun h => .inr h, fun h => h.elim .inl id⟩
    · obtain ⟨a, b⟩ := gkeys_put y q r nd.2
      rw [if_neg c, List.map_cons, List.nodup_cons]
      refine ⟨⟨fun z => ((b _).mp z).elim c nd.1, a⟩, fun x => ?_⟩
      rw [List.mem_cons, List.map_cons, List.mem_cons, b x]
      exact ⟨fun h => h.elim (fun z => .inr (.inl z)) fun z => z.elim .inl fun z => .inr (.inr z), fun h => h.elim (fun z => .inr (.inl z)) fun z => z.elim .inl fun z => .inr (.inr z)⟩
theorem glen_put (y : Int) (q : α) : ∀ D : List (Int × α), (putG D y q).length ≤ D.length + 1
  | [] => Nat.le_refl _
  | p :: r => by
    rw [putG]
    by_cases c : p.1 = y
    · rw [if_pos c, List.length_cons, List.length_cons]; omega
    · rw [if_neg c, List.length_cons, List.length_cons]
      have := glen_put y q r
      omega
theorem for_L {g : MG} {body : MS} {E : EM} (v : α → Da) (I : List α → En → Prop) (L : List α) (env : En) (h0 : I [] env)
    (st : ∀ (done : List α) (x : α) (rest : List α), L = done ++ x :: rest → ∀ e, I done e → ∀ N : En → Prop, (∀ e', I (done ++ [x]) e' → N e') → g (v x) e fun e2 => body e2 ⟨N, E.rt, E.nx, N⟩) (fin : ∀ e, I L e → E.nx e) : forGo g body (L.map v) env E := by
  refine for_inv (fun R e => ∃ done rest, L = done ++ rest ∧ R = rest.map v ∧ I done e) _ _ ⟨[], L, rfl, rfl, h0⟩ ?_ ?_
  · rintro d R e ⟨done, rest, hL, hR, hI⟩ N hN
    cases rest with
    | nil => cases hR
    | cons x rest =>
      rw [List.map_cons] at hR
      injection hR with e1 e2
      subst e1 e2
      exact st done x rest hL e hI N fun e' hi => hN e' ⟨done ++ [x], rest, by rw [hL, List.append_assoc]; rfl, rfl, hi⟩
  · rintro e ⟨done, rest, hL, hR, hI⟩
    have hr : rest = [] := List.map_eq_nil_iff.mp hR.symm
    subst hr
    rw [List.append_nil] at hL
    subst hL
    exact fin e hI
theorem lcL {env : En} {g : MG} {me : ME} (g1 f : α → Da) : ∀ (L : List α) (acc : List Da) (Q : List Da → Prop),
    (∀ x ∈ L, ∀ (K : Da → Prop), K (f x) → g (g1 x) env fun e2 => me e2 fun r _ => (match r with
      | .val x => K x
      | .own _ x => K x
      | _ => False)) → Q (acc ++ L.map f) → lcGo env g mYes me (L.map g1) acc Q
  | [], acc, Q, _, q => by
    show Q acc
    rw [List.map_nil, List.append_nil] at q
    exact q
  | x :: L, acc, Q, h, q => by
    rw [List.map_cons, lcGo]
    refine h x List.mem_cons_self (fun y => lcGo env g mYes me (L.map g1) (acc ++ [y]) Q) ?_
    refine lcL g1 f L _ Q (fun d hd => h d (List.mem_cons_of_mem _ hd)) ?_
    rw [List.append_assoc]
    exact q
theorem lcLt {env : En} {g : MG} {mt : MT} {me : ME} (g1 : α → Da) (p : α → Bool) (f : α → Da) : ∀ (L : List α) (acc : List Da) (Q : List Da → Prop),
    (∀ x ∈ L, ∀ (K : Da → Prop) (N : Prop), (p x = true → K (f x)) → (p x = false → N) → g (g1 x) env fun e2 => mt e2 fun b e3 => if b = true then me e3 fun r _ => (match r with
      | .val x => K x
      | .own _ x => K x
      | _ => False) else N) → Q (acc ++ (L.filter p).map f) → lcGo env g mt me (L.map g1) acc Q
  | [], acc, Q, _, q => by
    show Q acc
    rw [List.filter_nil, List.map_nil, List.append_nil] at q
    exact q
  | x :: L, acc, Q, h, q => by
    rw [List.map_cons, lcGo]
    refine h x List.mem_cons_self (fun y => lcGo env g mt me (L.map g1) (acc ++ [y]) Q) _ (fun hp => ?_) fun hp => ?_
    · refine lcLt g1 p f L _ Q (fun d hd => h d (List.mem_cons_of_mem _ hd)) ?_
      rw [List.filter_cons_of_pos hp] at q
      rw [List.append_assoc]
      exact q
    · refine lcLt g1 p f L _ Q (fun d hd => h d (List.mem_cons_of_mem _ hd)) ?_
      rw [List.filter_cons_of_neg (by simp [hp])] at q
      exact q
end
theorem at_env {A : En → Prop} {e : En} (e' : En) (h : e = e') (k : A e') : A e := by rw [h]; exact k
end Lb

set_option Elab.async false
set_option linter.all false
set_option maxRecDepth 100000
set_option maxHeartbeats 4000000
set_option pp.maxSteps 600
namespace Lb
open PySem PySem.Spec PyProof.Rows L2 Pq
/-! ### tables of answers: whole numbers or tuples of such -/
abbrev Ky := Int ⊕ List Int
def kyD : Ky → Da
  | .inl i => .int i
  | .inr k => tkI k
def kyS : Ky → Bool
  | .inl _ => false
  | .inr _ => true
abbrev KT := List (Ky × Rat)
def enK (p : Ky × Rat) : Da := .tuple [kyD p.1, fr p.2]
def lkK (T : KT) : Ky → Option Rat := T.foldl (fun f p k => if p.1 = k then some p.2 else f k) (fun _ => none)
theorem isKy_inj {j k : Key} {c : Da} (h1 : isKy j c = true) (h2 : isKy k c = true) : j = k := by
  cases j <;> cases k <;> cases c <;> simp_all [isKy]
theorem dLook_put (k j : Key) (d : Da) : ∀ ds : List (Da × Da), dLook (dPut ds k d) j = if k = j then some d else dLook ds j := fun ds => by
  unfold dPut
  cases e : ds.any fun p => isKy k p.1 with
  | false =>
    rw [if_neg Bool.false_ne_true]
    unfold dLook
    rw [List.find?_append]
    have hk : ds.find? (fun p => isKy k p.1) = none := by
      rw [List.find?_eq_none]
      intro x hx z
      rw [List.any_eq_false] at e
      exact e x hx z
    by_cases c : k = j
    · subst c
      rw [hk, if_pos rfl, Option.none_or]
      rw [List.find?_cons_of_pos (by rw [isKy_D]; exact decide_eq_true rfl)]
      rfl
    · rw [if_neg c]
      have : ([(keyD k, d)] : List (Da × Da)).find? (fun p => isKy j p.1) = none := by
        rw [List.find?_cons_of_neg (by rw [isKy_D, decide_eq_false c]; exact Bool.false_ne_true)]
        rfl
      rw [this, Option.or_none]
  | true =>
    rw [if_pos rfl]
    unfold dLook
    by_cases c : k = j
    · subst c
      rw [if_pos rfl]
      induction ds with
      | nil => cases e
      | cons p ds ih =>
        rw [List.map_cons]
        by_cases z : isKy k p.1 = true
        · rw [if_pos z, List.find?_cons_of_pos (by exact z)]
          rfl
        · rw [if_neg z, List.find?_cons_of_neg (by exact z)]
          rw [List.any_cons] at e
          have z' : isKy k p.1 = false := by cases h : isKy k p.1; rfl; exact absurd h z
          rw [z', Bool.false_or] at e
          exact ih e
    · rw [if_neg c]
      clear e
      induction ds with
      | nil => rfl
      | cons p ds ih =>
        rw [List.map_cons]
        by_cases z : isKy k p.1 = true
        · have zj : ¬ isKy j p.1 = true := fun y => c (isKy_inj z y)
          rw [if_pos z, List.find?_cons_of_neg (by exact zj), List.find?_cons_of_neg (by exact zj)]
          exact ih
        · rw [if_neg z]
          by_cases y : isKy j p.1 = true
          · rw [List.find?_cons_of_pos (by exact y), List.find?_cons_of_pos (by exact y)]
          · rw [List.find?_cons_of_neg (by exact y), List.find?_cons_of_neg (by exact y)]
            exact ih
theorem tLook_put (k j : List Int) (d : Da) : ∀ ds : List (Da × Da), tLook (tPut ds k d) j = if k = j then some d else tLook ds j := fun ds => by
  have kk : tkO (tkI k) = some k := tkO_I k
  unfold tPut
  cases e : (tLook ds k).isSome with
  | false =>
    rw [if_neg Bool.false_ne_true]
    unfold tLook at e ⊢
    rw [List.find?_append]
    have hk : ds.find? (fun p => decide (tkO p.1 = some k)) = none := by
      cases h : ds.find? (fun p => decide (tkO p.1 = some k)) with
      | none => rfl
      | some x => rw [h] at e; cases e
    by_cases c : k = j
    · subst c
      rw [hk, if_pos rfl, Option.none_or]
      rw [List.find?_cons_of_pos (by exact decide_eq_true kk)]
      rfl
    · rw [if_neg c]
      have : ([(tkI k, d)] : List (Da × Da)).find? (fun p => decide (tkO p.1 = some j)) = none := by
        rw [List.find?_cons_of_neg (by
          show ¬ decide (tkO (tkI k) = some j) = true
          rw [kk, decide_eq_false (fun z => c (Option.some.inj z))]; exact Bool.false_ne_true)]
        rfl
      rw [this, Option.or_none]
  | true =>
    rw [if_pos rfl]
    unfold tLook at e ⊢
    by_cases c : k = j
    · subst c
      rw [if_pos rfl]
      induction ds with
      | nil => cases e
      | cons p ds ih =>
        rw [List.map_cons]
        by_cases z : tkO p.1 = some k
        · rw [if_pos z, List.find?_cons_of_pos (by exact decide_eq_true z)]
          rfl
        · have z' : ¬ decide (tkO p.1 = some k) = true := by rw [decide_eq_false z]; exact Bool.false_ne_true
          rw [if_neg z, List.find?_cons_of_neg (by exact z')]
          rw [List.find?_cons_of_neg (by exact z')] at e
          exact ih e
    · rw [if_neg c]
      clear e
      induction ds with
      | nil => rfl
      | cons p ds ih =>
        rw [List.map_cons]
        by_cases z : tkO p.1 = some k
        · have zj : ¬ decide (tkO p.1 = some j) = true := by rw [z, decide_eq_false (fun y => c (Option.some.inj y))]; exact Bool.false_ne_true
          rw [if_pos z, List.find?_cons_of_neg (by exact zj), List.find?_cons_of_neg (by exact zj)]
          exact ih
        · rw [if_neg z]
          by_cases y : decide (tkO p.1 = some j) = true
          · rw [List.find?_cons_of_pos (by exact y), List.find?_cons_of_pos (by exact y)]
          · rw [List.find?_cons_of_neg (by exact y), List.find?_cons_of_neg (by exact y)]
            exact ih
theorem tm_head (p : Da × Da) (a b : List (Da × Da)) : isTm (p :: a) = isTm (p :: b) := by
  obtain ⟨c, x⟩ := p
  cases c <;> first | rfl | (cases x <;> rfl)
theorem tm_put {ds : List (Da × Da)} {k : Key} {d : Da} (h : isTm ds = false) : isTm (dPut ds k d) = false := by
  unfold dPut
  split
  · cases ds with
    | nil => rfl
    | cons p ds =>
      rw [List.map_cons]
      by_cases z : isKy k p.1 = true
      · rw [if_pos z]
        obtain ⟨c, x⟩ := p
        cases k <;> cases c <;> first | rfl | cases z
      · rw [if_neg z, tm_head p _ ds]
        exact h
  · cases ds with
    | nil => cases k <;> rfl
    | cons p ds =>
      rw [List.cons_append, tm_head p _ ds]
      exact h
theorem tm_pm {ds : List (Da × Da)} (h : isTm ds = false) : isPm ds = false := by
  cases ds with
  | nil => rfl
  | cons p ds =>
    obtain ⟨c, x⟩ := p
    cases c <;> first | rfl | cases h
/-- dict(T) -/
theorem w_dictK {T : KT} {s : Bool} (hs : ∀ p ∈ T, kyS p.1 = s) (Q : SV → Prop) (h : ∀ dd, isPm dd = false → (∀ k, kyS k = s → dGetO dd (kyD k) = some ((lkK T k).map fr)) → Q (.own true (.dict dd))) : fDict [.tuple (T.map enK)] Q := by
  cases s with
  | false =>
    have gen : ∀ (T : KT), (∀ p ∈ T, kyS p.1 = false) → ∃ pr, prsD (T.map enK) = some pr ∧ ∀ (acc : List (Da × Da)) (f : Ky → Option Rat), isTm acc = false → (∀ i, dLook acc (.inl i) = (f (.inl i)).map fr) →
        isTm (mergeD acc pr) = false ∧ ∀ i, dLook (mergeD acc pr) (.inl i) = ((T.foldl (fun f p k => if p.1 = k then some p.2 else f k) f) (.inl i)).map fr := fun T => by
      induction T with
      | nil => intro _; exact ⟨[], rfl, fun acc f h0 h1 => ⟨h0, h1⟩⟩
      | cons p T ih =>
        intro hs
        obtain ⟨pr, e, g⟩ := ih fun q hq => hs q (List.mem_cons_of_mem _ hq)
        obtain ⟨k, q⟩ := p
        cases k with
        | inr k => exact absurd (hs _ List.mem_cons_self) (fun z => by cases z)
        | inl i =>
          refine ⟨(.inl i, fr q) :: pr, ?_, fun acc f h0 h1 => ?_⟩
          · rw [List.map_cons]
            show (match keyO (.int i), prsD (T.map enK) with
              | some k, some q' => some ((k, fr q) :: q')
              | _, _ => none) = _
            rw [e]
            rfl
          · refine g (dPut acc (.inl i) (fr q)) (fun k => if (Sum.inl i : Ky) = k then some q else f k) (tm_put h0) fun j => ?_
            rw [dLook_put, h1 j]
            by_cases c : i = j
            · subst c; rw [if_pos rfl, if_pos rfl]; rfl
            · rw [if_neg (fun z => c (Sum.inl.inj z)), if_neg (fun z => c (Sum.inl.inj z))]
    obtain ⟨pr, e, g⟩ := gen T hs
    obtain ⟨g1, g2⟩ := g [] (fun _ => none) rfl fun i => rfl
    refine w_dictT e (h _ (tm_pm g1) fun k hk => ?_)
    cases k with
    | inr k => cases hk
    | inl i =>
      show dGetO _ (.int i) = _
      unfold dGetO
      rw [g1, if_neg Bool.false_ne_true]
      show some (dLook _ (.inl i)) = _
      rw [g2 i]
      rfl
  | true =>
    have gen : ∀ (T : KT), (∀ p ∈ T, kyS p.1 = true) → ∃ pr, tprsD (T.map enK) = some pr ∧ ∀ (acc : List (Da × Da)) (f : Ky → Option Rat), (∀ i, tLook acc i = (f (.inr i)).map fr) →
        ∀ i, tLook (mergeTD acc pr) i = ((T.foldl (fun f p k => if p.1 = k then some p.2 else f k) f) (.inr i)).map fr := fun T => by
      induction T with
      | nil => intro _; exact ⟨[], rfl, fun acc f h1 => h1⟩
      | cons p T ih =>
        intro hs
        obtain ⟨pr, e, g⟩ := ih fun q hq => hs q (List.mem_cons_of_mem _ hq)
        obtain ⟨k, q⟩ := p
        cases k with
        | inl k => exact absurd (hs _ List.mem_cons_self) (fun z => by cases z)
        | inr i =>
          refine ⟨(i, fr q) :: pr, ?_, fun acc f h1 => ?_⟩
          · rw [List.map_cons]
            show (match tkO (tkI i), tprsD (T.map enK) with
              | some k, some q' => some ((k, fr q) :: q')
              | _, _ => none) = _
            rw [e, tkO_I]
          · refine g (tPut acc i (fr q)) (fun k => if (Sum.inr i : Ky) = k then some q else f k) fun j => ?_
            rw [tLook_put, h1 j]
            by_cases c : i = j
            · subst c; rw [if_pos rfl, if_pos rfl]; rfl
            · rw [if_neg c, if_neg (fun z => c (Sum.inr.inj z))]
    obtain ⟨pr, e, g⟩ := gen T hs
    have g2 := g [] (fun _ => none) fun i => rfl
    refine w_dictTk e (h _ rfl fun k hk => ?_)
    cases k with
    | inl k => cases hk
    | inr i =>
      show dGetO ((.none, .none) :: mergeTD [] pr) (tkI i) = _
      show (tkO (tkI i)).map (tLook (mergeTD [] pr)) = _
      rw [tkO_I]
      show some (tLook (mergeTD [] pr) i) = _
      rw [g2 i]
      rfl
theorem lkK_mem {T : KT} {k : Ky} {q : Rat} (h : lkK T k = some q) : (k, q) ∈ T := by
  have gen : ∀ (T : KT) (f : Ky → Option Rat), (T.foldl (fun f p k => if p.1 = k then some p.2 else f k) f) k = some q → (k, q) ∈ T ∨ f k = some q := fun T => by
    induction T with
    | nil => intro f h; exact .inr h
    | cons p T ih =>
      intro f h
      rcases ih _ h with w | w
      · exact .inl (List.mem_cons_of_mem _ w)
      · dsimp only at w
        by_cases c : p.1 = k
        · rw [if_pos c] at w
          refine .inl ?_
          obtain ⟨a, b⟩ := p
          cases c
          cases w
          exact List.mem_cons_self
        · rw [if_neg c] at w; exact .inr w
  rcases gen T _ h with w | w
  · exact w
  · cases w
end Lb

set_option Elab.async false
set_option linter.all false
set_option maxRecDepth 100000
set_option maxHeartbeats 4000000
namespace Pq
open PySem PySem.Spec PyProof.Rows L2
/-! ### expressions that may change what slots know alone -/
def IsRw (K : PySem.W.Frag) (B : Bs) (env : En) (S : Hp) (σ : L2.St) (H : Hp) : SV → V → Prop
  | .val d, v => Dq K S v d
  | .own b d, v => b = true ∧ ∃ p, v = .ref p ∧ Own K B S H d p ∧ ∀ (i : Nat) (sv : SV), env[i]? = some sv → OB sv → σ[i]? ≠ some (some (.ref p))
  | .deal, v => ∃ p l, B.deal = some (p, l) ∧ v = .ref p
  | _, _ => False
theorem IsR.w {K : PySem.W.Frag} {B : Bs} {env : En} {S : Hp} {σ : L2.St} {H0 H : Hp} {r : SV} {v : V} (h : IsR K B env S σ H0 H r v) : IsRw K B env S σ H r v := by
  cases r with
  | own b d =>
    obtain ⟨hb, p, e, o, _, n⟩ := h
    exact ⟨hb, p, e, o, n⟩
  | val d => exact h
  | deal => exact h
  | _ => exact h.elim
/-- what a result knows alone becomes stable -/
theorem IsRw.frz {K : PySem.W.Frag} {B : Bs} {env : En} {S : Hp} {σ : L2.St} {H : Hp} {b : Bool} {d : Da} {v : V} (R : Rel K B env S σ H) (h : IsRw K B env S σ H (.own b d) v) : ∃ S2, Up S S2 ∧ Rel K B env S2 σ H ∧ Dq K S2 v d := by
  obtain ⟨hb, p, rfl, ⟨hB, hS, o0, hp, hd⟩, hn⟩ := h
  have e1 : ∀ a o, S a = some o → upd S p o0 a = some o := upd_sub hS
  have w : Wd B (upd S p o0) H := by
    refine ⟨fun a o e => ?_, fun a o e => e1 a o (R.w.bS a o e), R.w.bH, fun a o e e2 => ?_, R.w.deal⟩
    · by_cases q : a = p
      · subst q; rw [upd_same] at e; cases e; exact hp
      · rw [upd_ne q] at e; exact R.w.sub a o e
    · have q : a ≠ p := fun z => by subst z; rw [hB] at e; cases e
      rw [upd_ne q]; exact R.w.bN a o e e2
  refine ⟨_, e1, R.stp w ⟨e1, fun _ _ _ e => e⟩ fun i sv q a ob z => ?_, (hd.up e1).dq upd_same⟩
  have nq : q ≠ p := fun y => by subst y; exact hn i sv a ob z
  rw [upd_ne nq]
  obtain ⟨p', d', a', b', c', _⟩ := R.ob a ob
  rw [z] at a'; cases a'; exact c'
section
variable (K : PySem.W.Frag)
def tEw (m : ME) : TE := fun σ H Q => ∃ B env S, ∃ Q0 : SV → En → Prop, Rel K B env S σ H ∧ m env Q0 ∧ ∀ r env', Q0 r env' → ∀ v S' H', Up S S' → Rel K B env' S' σ H' → IsRw K B env' S' σ H' r v → Q v H'
def tSw (m : MP) : TE := fun σ H Q => ∃ B env S, ∃ Q0 : Da → En → Prop, Rel K B env S σ H ∧ m env Q0 ∧ ∀ d env', Q0 d env' → ∀ v S' H', Up S S' → Rel K B env' S' σ H' → Dq K S' v d → Q v H'
def tAw (m : MA) : TA := fun σ H Q => ∃ B env S, ∃ Q0 : List SV → En → Prop, Rel K B env S σ H ∧ m env Q0 ∧ ∀ rs env', Q0 rs env' → ∀ vs S' H', Up S S' → Rel K B env' S' σ H' → AllR K B.deal S' rs vs → Q vs H'
end
abbrev DEw (X : Cx) (e : Expr) (m : ME) : Prop := PE X e (tEw X.K m)
abbrev DSw (X : Cx) (e : Expr) (m : MP) : Prop := PE X e (tSw X.K m)
abbrev DAw (X : Cx) (es : List Expr) (m : MA) : Prop := PA X es (tAw X.K m)
theorem Up.tr {S1 S2 S3 : Hp} (a : Up S1 S2) (b : Up S2 S3) : Up S1 S3 := fun x o h => b x o (a x o h)
section
variable {X : Cx}
theorem dew_e {e : Expr} {m : ME} (h : DE X e m) : DEw X e m := h.wk fun σ H Q ⟨B, env, S, Q0, R, hm, k⟩ => ⟨B, env, S, Q0, R, hm, fun r env' q v S' H' st R' ir => k r env' q v S' H' st.s.1 R' ir.w⟩
theorem dsw_s {e : Expr} {m : MP} (h : DS X e m) : DSw X e m := h.wk fun σ H Q ⟨B, env, S, Q0, R, hm, k⟩ => ⟨B, env, S, Q0, R, hm, fun r env' q v S' H' st R' ir => k r env' q v S' H' st.s.1 R' ir⟩
theorem dsw_e {e : Expr} {m : ME} (h : DEw X e m) : DSw X e (toD m) := h.wk fun σ H Q ⟨B, env, S, Q0, R, hm, k⟩ => by
  refine ⟨B, env, S, _, R, hm, fun r env' q v S' H' st R' ir => ?_⟩
  cases r with
  | val d => exact k d env' q v S' H' st R' ir
  | own b d =>
    obtain ⟨S2, st2, R2, dp⟩ := IsRw.frz R' ir
    exact k d env' q v S2 H' (st.tr st2) R2 dp
  | no => exact ir.elim
  | deal => exact q.elim
  | bor d => exact q.elim
  | res b d ids => exact q.elim
theorem dew_s {e : Expr} {m : MP} (h : DSw X e m) : DEw X e (toE m) := h.wk fun σ H Q ⟨B, env, S, Q0, R, hm, k⟩ =>
  ⟨B, env, S, _, R, hm, fun d env' q v S' H' st R' ir => k _ env' q v S' H' st R' ir⟩
theorem daw_a {es : List Expr} {m : MA} (h : DA X es m) : DAw X es m := h.wk fun σ H Q ⟨B, env, S, Q0, R, hm, k⟩ => ⟨B, env, S, Q0, R, hm, fun r env' q v S' H' st R' ir => k r env' q v S' H' st.s.1 R' ir⟩
theorem daw_cons {e : Expr} {es : List Expr} {m : ME} {ma : MA} (h : DEw X e m) (hr : DAw X es ma) (hs : starEach (e :: es) X.env = (false, eval e X.env) :: starEach es X.env := by rfl) : DAw X (e :: es) (maCons m ma) :=
  (pa_cons h hr hs).wk fun σ H Q ⟨B, env, S, Q0, R, h, k⟩ => ⟨B, env, S, _, R, h, fun r e1 q v S1 H1 st1 R1 ir => by
    have fin : ∀ {r' : SV} {S1' : Hp}, Up S S1' → Rel X.K B e1 S1' σ H1 → frz1 r = r' → (∀ {S2 : Hp} {rs : List SV} {vs : List V}, (∀ a o, S1' a = some o → S2 a = some o) → AllR X.K B.deal S2 rs vs → AllR X.K B.deal S2 (r' :: rs) (v :: vs)) → tAw X.K ma σ H1 fun xs H2 => Q (v :: xs) H2 := fun {r' S1'} st R' er f =>
      ⟨B, e1, S1', _, R', q, fun rs e2 q2 vs S2 H2 st2 R2 al => k _ e2 q2 _ S2 H2 (st.tr st2) R2 (by rw [er]; exact f st2 al)⟩
    cases r with
    | val d => exact fin st1 R1 rfl fun e al => ⟨v, _, rfl, Dq.up e _ _ ir, al⟩
    | own b d =>
      obtain ⟨S2, st2, R2, dp⟩ := IsRw.frz R1 ir
      exact fin (st1.tr st2) R2 rfl fun e al => ⟨v, _, rfl, Dq.up e _ _ dp, al⟩
    | deal =>
      obtain ⟨p, l, a, rfl⟩ := ir
      exact fin st1 R1 rfl fun e al => ⟨p, l, _, rfl, a, al⟩
    | no => exact ir.elim
    | bor d => exact ir.elim
    | res b d ids => exact ir.elim⟩
theorem dsw_tup {es : List Expr} {x1} {pos : Pos} {ma : MA} (h : DAw X es ma) : DSw X (.Tuple es x1 pos) (mTup ma) := (pe_tupF h).wk fun σ H Q ⟨B, env, S, Q0, R, h, k⟩ =>
  ⟨B, env, S, _, R, h, fun rs e1 q vs S1 H1 st1 R1 al => by
    cases z : dats rs with
    | none => rw [z] at q; exact q.elim
    | some ds =>
      rw [z] at q
      have al := al.dats z
      exact ⟨by rw [al.length]; exact le_sz q.1, fun p o hp ho => k _ e1 q.2 _ _ _ (st1.tr (stq_allocS (σ := σ) (env := e1) R1.w hp).s.1) (R1.allocS hp) (.tup (.inl ⟨o, upd_same, ho⟩) (DqAll.up (upd_sub (R1.w.snone hp)) _ _ al))⟩⟩
/-- a two-place operator, either side may change slots -/
theorem dew_bin {a b : Expr} {op : Operator} {pos : Pos} {f : Da → Da → (SV → Prop) → Prop} {ma mb : MP} (ho : OpD X (binaryOp op) f) (ha : DSw X a ma) (hb : DSw X b mb) : DEw X (.BinOp a op b pos) (mBin f ma mb) := (pe_op OpR.un ha hb).wk fun σ H Q ⟨B, env, S, Q0, R, hm, k⟩ => by
  refine ⟨B, env, S, _, R, hm, fun c e1 hm1 x S1 H1 st1 R1 p1 => ?_⟩
  refine ⟨B, e1, S1, _, R1, hm1, fun d e2 hm2 y S2 H2 st2 R2 p2 => ?_⟩
  exact ho B e2 S2 σ H2 x y c d _ Q R2 (.inl (Dq.up st2 _ _ p1)) (.inl p2) hm2 fun r v S' H' q st R' ir => k r e2 q v S' H' ((st1.tr st2).tr st.s.1) R' ir.w
/-! ### statements over such -/
theorem dst_setW {i : Nat} {x : Str} {e : Expr} {m : ME} {pos' pos : Pos} (hN : X.N.Nodup) (he : DEw X e m) (hi : X.N[i]? = some x := by rfl) (hx : Loc X.env.scope x := by first | exact Or.inl rfl | exact Or.inr rfl) (hs : swapsWith e (some (.Name x pos')) pos.line X.env = pure false := by rfl) (hf : X.fn x = true ∨ X.env.scope.names.lookup x = some .local := by first | exact .inl rfl | exact .inr rfl | assumption) :
    DSt X (.Assign [.Name x pos'] e pos) (msSet i m) := (ps_set hN hi hx he hs hf).wk fun D σ H ⟨B, env, S, E, R, h, k⟩ =>
  ⟨B, env, S, _, R, h, fun r e1 q v S1 H1 st R1 ir => by
    cases r with
    | val d => exact k.nx _ _ S1 H1 q.2 (R1.setV ir q.1) st
    | own b d =>
      obtain ⟨hb, p, rfl, o, hn⟩ := ir
      subst hb
      exact k.nx _ _ S1 H1 q.2 (R1.setO o hn q.1) st
    | no => exact q.elim
    | deal => exact q.elim
    | bor d => exact q.elim
    | res b d ids => exact q.elim⟩
theorem dst_asgW {tg e : Expr} {is : List Nat} {m : MP} {g : MG} {pos : Pos} (he : DSw X e m) (hg : DG X tg is g) (hs : swapsWithSole [tg] e pos.line X.env = pure false := by rfl) (hw : swappedStores [tg] e X.env = pure none := by rfl)
    (h1 : (assignEach [tg] X.env).map (·.2) = [assign tg X.env] := by rfl) : DSt X (.Assign [tg] e pos) (msAsg m g) := (ps_asg he hg hs hw h1).wk fun D σ H ⟨B, env, S, E, R, h, k⟩ =>
  ⟨B, env, S, _, R, h, fun d e1 q v S1 H1 st R1 dv => ⟨B, e1, S1, d, _, R1, dv, q, fun e2 q2 σ2 R2 _ _ => k.nx e2 σ2 S1 H1 q2 R2 st⟩⟩
theorem dst_retW {e : Expr} {m : ME} {pos : Pos} (he : DEw X e m) : DSt X (.Return (some e) pos) (msRet m) := (ps_ret he).wk fun D σ H ⟨B, env, S, E, R, h, k⟩ =>
  ⟨B, env, S, _, R, h, fun r e1 q v S1 H1 st R1 ir => by
    cases r with
    | val d => exact k.rt _ v S1 H1 q R1.w ir
    | own b d =>
      obtain ⟨hb, p, rfl, o, hn⟩ := ir
      exact k.rt _ _ S1 H1 q R1.w ⟨hb, p, rfl, o⟩
    | no => exact ir.elim
    | deal => exact q.elim
    | bor d => exact q.elim
    | res b d ids => exact q.elim⟩
/-- what the borrowed slots hold at the end -/
def borsE (e : En) : List Nat → Option (List (Nat × Da))
  | [] => some []
  | i :: is => match e[i]? with
    | some (.bor d) => (borsE e is).map ((i, d) :: ·)
    | _ => none
theorem bors_ne {e : En} {is : List Nat} {ids : List (Nat × Da)} (h : borsE e is = some ids) (ne : is ≠ []) : ids ≠ [] := by
  cases is with
  | nil => exact absurd rfl ne
  | cons i is =>
    unfold borsE at h
    split at h
    · cases z : borsE e is with
      | none => rw [z] at h; cases h
      | some r => rw [z] at h; cases h; exact fun z => nomatch z
    · cases h
theorem bors_mem {e : En} : ∀ {is : List Nat} {ids : List (Nat × Da)}, borsE e is = some ids → ∀ x ∈ ids, e[x.1]? = some (.bor x.2)
  | [], _, h => fun x hx => by cases h; cases hx
  | i :: is, ids, h => by
    unfold borsE at h
    split at h
    · rename_i d e0
      cases z : borsE e is with
      | none => rw [z] at h; cases h
      | some r =>
        rw [z] at h; cases h
        intro x hx
        rcases List.mem_cons.mp hx with rfl | hx
        · exact e0
        · exact bors_mem z x hx
    · cases h
def retB (r : SV) (ids : Option (List (Nat × Da))) (Q : SV → Prop) : Prop := match ids, r with
  | some ids, .val d => Q (.res false d ids)
  | some ids, .own true d => Q (.res true d ids)
  | _, _ => False
def msRetB (is : List Nat) (m : ME) : MS := fun env E => m env fun r e => retB r (borsE e is) E.rt
theorem ret_bors {K : PySem.W.Frag} {B : Bs} {e : En} {S : Hp} {σ : L2.St} {H : Hp} {is : List Nat} {ids : List (Nat × Da)} (R : Rel K B e S σ H) (h : borsE e is = some ids) : ∀ x ∈ ids, ∃ q, B.bo x.1 = some q ∧ Own K B S H x.2 q := fun x hx => by
  obtain ⟨p, b, _, o⟩ := R.bor _ _ (bors_mem h x hx)
  exact ⟨p, b, o⟩
theorem dst_retB {is : List Nat} {e : Expr} {m : ME} {pos : Pos} (he : DEw X e m) (hne : is ≠ [] := by decide) : DSt X (.Return (some e) pos) (msRetB is m) := (ps_ret he).wk fun D σ H ⟨B, env, S, E, R, h, k⟩ =>
  ⟨B, env, S, _, R, h, fun r e1 q v S1 H1 st R1 ir => by
    unfold retB at q
    split at q
    · rename_i ids d hi
      exact k.rt _ v S1 H1 q R1.w ⟨bors_ne hi hne, ir, ret_bors R1 hi⟩
    · rename_i ids d hi
      obtain ⟨_, p, rfl, o, hn⟩ := ir
      refine k.rt _ _ S1 H1 q R1.w ⟨bors_ne hi hne, ⟨p, rfl, o, fun x hx z => ?_⟩, ret_bors R1 hi⟩
      have hb := bors_mem hi x hx
      obtain ⟨p', b, a, _⟩ := R1.bor _ _ hb
      rw [z] at b; cases b
      exact hn _ _ hb trivial a
    · exact q.elim⟩
theorem dst_appW (i : Nat) {x : Str} {e : Expr} {m : MP} {p apos cpos pos : Pos} (he : DSw X e m) (hN : X.N[i]? = some x := by rfl) (hv : Vis X.env.scope x := by first | exact Or.inl rfl | exact Or.inr (Or.inl rfl) | exact Or.inr (Or.inr rfl)) (hd : (x == ("__debug__" : Str)) = false := by decide)
    (hcd : (x == ("__classdict__" : Str)) = false := by decide) (hbase : attributeBase (.Name x p) "append" X.env (eval (.Name x p) X.env) = eval (.Name x p) X.env := by rfl)
    (hfew : ((backTo cpos (starEach [e] X.env)).all (fun x => !x.1) && (backToKw cpos (keywordEach [] X.env)).all (fun x => x.1.isSome) && decide ([e].length + ([] : List Keyword).length + (if ([] : List Keyword).isEmpty then 0 else 1) < 30)) = true := by rfl)
    (hline : (apos.endLine == cpos.line) = true := by rfl) (hs : starEach [e] X.env = (false, eval e X.env) :: starEach [] X.env := by rfl) (hplain : (backTo cpos (starEach [] X.env)).any (·.1) = false := by rfl)
    (hsw : swapsWith (.Call (.Attribute (.Name x p) "append" apos) [e] [] cpos) none pos.line X.env = pure false := by rfl) :
    DSt X (.Expr (.Call (.Attribute (.Name x p) "append" apos) [e] [] cpos) pos) (msApp i m) :=
  (ps_expr (pe_bm PySem.F.plainAttrs_list PySem.F.slot_list_append PySem.F.type_list_append mt_append (pe_var hN hv hd hcd) (pa_cons he pa_nil hs) hbase hfew hline hs hplain) hsw).wk fun D σ H ⟨B, env, S, E, R, h, k⟩ => by
    obtain ⟨ds0, p0, vs0, e0, a0, _, _, h0, _⟩ := ownL_at R h.1
    refine ⟨.ref p0, a0, .inl ⟨rfl, vs0, .inl (.inl h0)⟩, B, env, S, _, R, h.2, fun d e1 q v S1 H1 st R1 dv => ?_⟩
    have fin : ∀ {sv : SV} {ds : List Da} {P : Prop}, OB sv → dat sv = .list ds → e1[i]? = some sv → ds.length < 1000000 → E.nx (e1.set i (kin sv (.list (ds ++ [d])))) → (∀ vs' : List V, H1 p0 = some (.lst vs') → vs'.length < sizeLine → D.nx σ (upd H1 p0 (.lst (vs' ++ [v]))) → P) → P := fun {sv ds P} ob ed e2 hl hn g => by
      obtain ⟨p1, vs, b1, b2, b3, b4, b5⟩ := ob_lst R1 ob ed e2
      rw [a0] at b1; cases b1
      exact g vs b4 (by rw [b5.length]; exact lt_sz hl) (k.nx _ _ S1 _ hn (R1.chgK ob e2 a0 b2 b3 (.lst (b5.app (.cons dv .nil)))) st)
    split at q
    · rename_i ds e2
      exact fin (sv := .own true (.list ds)) trivial rfl e2 q.1 q.2 fun vs b4 hz g => ⟨p0, vs, v, rfl, rfl, b4, hz, g⟩
    · rename_i ds e2
      exact fin (sv := .bor (.list ds)) trivial rfl e2 q.1 q.2 fun vs b4 hz g => ⟨p0, vs, v, rfl, rfl, b4, hz, g⟩
    · exact q.elim
end
end Pq

set_option Elab.async false
set_option linter.all false
set_option maxRecDepth 100000
set_option maxHeartbeats 4000000
namespace Pq
open PySem PySem.Spec PyProof.Rows L2
/-! ### defs that change what they are handed -/
open Classical in
/-- a heap without what is borrowed -/
noncomputable def lessH (H : Hp) (bo : Nat → Option Addr) : Hp := fun a => if ∃ j, bo j = some a then none else H a
theorem less_no {H : Hp} {bo : Nat → Option Addr} {a : Addr} (h : ∀ j, bo j ≠ some a) : lessH H bo a = H a := by
  unfold lessH
  rw [if_neg fun ⟨j, e⟩ => h j e]
theorem less_at {H : Hp} {bo : Nat → Option Addr} {a : Addr} {j : Nat} (h : bo j = some a) : lessH H bo a = none := by
  unfold lessH
  rw [if_pos ⟨j, h⟩]
theorem less_some {H : Hp} {bo : Nat → Option Addr} {a : Addr} {o : HO} (h : lessH H bo a = some o) : H a = some o ∧ ∀ j, bo j ≠ some a := by
  by_cases c : ∃ j, bo j = some a
  · obtain ⟨j, e⟩ := c
    rw [less_at e] at h; cases h
  · have n : ∀ j, bo j ≠ some a := fun j e => c ⟨j, e⟩
    exact ⟨by rw [less_no n] at h; exact h, n⟩
def AllB (K : PySem.W.Frag) (dl : Option (Addr × Addr)) (bo : Nat → Option Addr) (S H : Hp) : Nat → List SV → List V → Prop
  | _, [], vs => vs = []
  | j, .val d :: rs, vs => ∃ v r, vs = v :: r ∧ Dq K S v d ∧ AllB K dl bo S H (j + 1) rs r
  | j, .deal :: rs, vs => ∃ p l r, vs = .ref p :: r ∧ dl = some (p, l) ∧ AllB K dl bo S H (j + 1) rs r
  | j, .bor d :: rs, vs => ∃ p r, vs = .ref p :: r ∧ bo j = some p ∧ S p = none ∧ (∃ o, H p = some o ∧ HoD K S o d) ∧ AllB K dl bo S H (j + 1) rs r
  | _, _, _ => False
theorem AllB.get {K : PySem.W.Frag} {dl : Option (Addr × Addr)} {bo : Nat → Option Addr} {S H : Hp} : ∀ {rs : List SV} {vs : List V} {k i : Nat} {r : SV}, AllB K dl bo S H k rs vs → rs[i]? = some r → ∃ v, vs[i]? = some v ∧ match r with
    | .val d => Dq K S v d
    | .deal => ∃ p l, dl = some (p, l) ∧ v = .ref p
    | .bor d => ∃ p, bo (k + i) = some p ∧ v = .ref p ∧ S p = none ∧ ∃ o, H p = some o ∧ HoD K S o d
    | _ => False
  | [], _, _, _, _, _, e => by simp at e
  | .val d :: rs, _, k, 0, r, h, e => by
    obtain ⟨v, r', rfl, b, c⟩ := h
    simp at e; subst e
    exact ⟨v, rfl, b⟩
  | .val d :: rs, _, k, i + 1, r, h, e => by
    obtain ⟨v, r', rfl, b, c⟩ := h
    obtain ⟨v', x, y⟩ := AllB.get (i := i) c (by simpa using e)
    rw [show k + 1 + i = k + (i + 1) by omega] at y
    exact ⟨v', by simpa using x, y⟩
  | .deal :: rs, _, k, 0, r, h, e => by
    obtain ⟨p, l, r', rfl, b, c⟩ := h
    simp at e; subst e
    exact ⟨_, rfl, p, l, b, rfl⟩
  | .deal :: rs, _, k, i + 1, r, h, e => by
    obtain ⟨p, l, r', rfl, b, c⟩ := h
    obtain ⟨v', x, y⟩ := AllB.get (i := i) c (by simpa using e)
    rw [show k + 1 + i = k + (i + 1) by omega] at y
    exact ⟨v', by simpa using x, y⟩
  | .bor d :: rs, _, k, 0, r, h, e => by
    obtain ⟨p, r', rfl, b, s, o, c⟩ := h
    simp at e; subst e
    exact ⟨_, rfl, p, b, rfl, s, o⟩
  | .bor d :: rs, _, k, i + 1, r, h, e => by
    obtain ⟨p, r', rfl, b, s, o, c⟩ := h
    obtain ⟨v', x, y⟩ := AllB.get (i := i) c (by simpa using e)
    rw [show k + 1 + i = k + (i + 1) by omega] at y
    exact ⟨v', by simpa using x, y⟩
  | .no :: _, _, _, _, _, h, _ => h.elim
  | .own _ _ :: _, _, _, _, _, h, _ => h.elim
  | .res _ _ _ :: _, _, _, _, _, h, _ => h.elim
theorem AllB.length {K : PySem.W.Frag} {dl : Option (Addr × Addr)} {bo : Nat → Option Addr} {S H : Hp} : ∀ {rs : List SV} {vs : List V} {k : Nat}, AllB K dl bo S H k rs vs → vs.length = rs.length
  | [], _, _, h => by cases (show _ = [] from h); rfl
  | .val d :: rs, _, k, h => by
    obtain ⟨v, r, rfl, b, c⟩ := h
    rw [List.length_cons, List.length_cons, AllB.length c]
  | .deal :: rs, _, k, h => by
    obtain ⟨p, l, r, rfl, b, c⟩ := h
    rw [List.length_cons, List.length_cons, AllB.length c]
  | .bor d :: rs, _, k, h => by
    obtain ⟨p, r, rfl, _, _, _, c⟩ := h
    rw [List.length_cons, List.length_cons, AllB.length c]
  | .no :: _, _, _, h => h.elim
  | .own _ _ :: _, _, _, h => h.elim
  | .res _ _ _ :: _, _, _, h => h.elim
def spB (K : PySem.W.Frag) (n : Nat) (F : FS) : Sp := fun vs H Q _ => ∃ S dl bo rs, ∃ Q0 : SV → Prop, Up S H ∧ (∀ p l, dl = some (p, l) → DealAt H p l ∧ S p = none ∧ S l = none ∧ ∀ j, bo j ≠ some p ∧ bo j ≠ some l) ∧ (∀ i j p, bo i = some p → bo j = some p → i = j ∧ S p = none) ∧ AllB K dl bo S H 0 rs vs ∧ rs.length = n ∧ F rs Q0 ∧
  ∀ r v S' H', Q0 r → Wd ⟨S, lessH H bo, dl, bo⟩ S' H' → IsRet K ⟨S, lessH H bo, dl, bo⟩ S' H' r v → Q v H'
def fnB (N n : Nat) (is : List Nat) (m : MS) : FS := fun rs Q => m (rs ++ List.replicate (N - n) SV.no) ⟨fun e => retB (.val .none) (borsE e is) Q, Q, fun _ => False, fun _ => False⟩
theorem fn_b {P : Program} {w : World} {K : PySem.W.Frag} {mg : Str → Option Value} {base : Heap} {x qual : Str} {st : Stmt} {f : Addr} {fd : FuncData} {N ps : List Str} {k : Nat} {m : MS} {is : List Nat} (Fu : Fun K x qual st f fd) (sc : FnScope N ps (defScope st)) (hne : is ≠ [])
    (hb : ∀ (cdv : Value) (A : Around) (outer : List Env) (s : Shared) (H : Hp) (E : XK), RmG k (A.deeper (envOfC qual (defScope st) s.heap.objs.size f cdv)) → DSs (cxOf CX0 P w K mg base N qual (defScope st) f cdv A outer s H E).nox (defBody st) m) :
    FnG P w K mg base CX0 (k + 1) f fd ps (spB K ps.length (fnB N.length ps.length is m)) := by
  refine fun_g Fu sc (fun vs H Q E h => ?_) (fun cdv A outer s H vs Q E hr h => ?_)
  · obtain ⟨S, dl, bo, rs, Q0, _, _, _, al, hl, _⟩ := h
    rw [al.length, hl]
  · refine ⟨_, hb cdv A outer s H E hr, ?_⟩
    obtain ⟨S, dl, bo, rs, Q0, up, dk, bj, al, hl, hF, q⟩ := h
    have hv : vs.length = ps.length := by rw [al.length, hl]
    have hN : ps.length ≤ N.length := by
      have := congrArg List.length sc.pre
      rw [List.length_take] at this
      omega
    have lft : ∀ {i : Nat} {r : SV}, (rs ++ List.replicate (N.length - ps.length) SV.no)[i]? = some r → r = .no ∨ (rs[i]? = some r) := fun {i r} h => by
      by_cases hi : i < rs.length
      · rw [List.getElem?_append_left hi] at h; exact .inr h
      · rw [List.getElem?_append_right (by omega)] at h
        exact .inl (List.eq_of_mem_replicate (List.mem_of_getElem? h))
    have stv : ∀ {i : Nat} {v : V}, vs[i]? = some v → (L2.start N vs)[i]? = some (some v) := fun {i v} h => by
      have hi := (List.getElem?_eq_some_iff.mp h).1
      unfold L2.start
      rw [List.getElem?_append_left (by rw [List.length_map]; exact hi), List.getElem?_map, h]
      rfl
    have nS : ∀ {a : Addr} {o : HO}, S a = some o → ∀ j, bo j ≠ some a := fun {a o} h j e => by
      rw [(bj j j a e e).2] at h; cases h
    refine ⟨⟨S, lessH H bo, dl, bo⟩, rs ++ List.replicate (N.length - ps.length) SV.no, S, ⟨fun e => retB (.val .none) (borsE e is) Q0, Q0, fun _ => False, fun _ => False⟩, ⟨⟨up, fun _ _ z => z, fun a o _ z => (less_some z).1, fun _ _ _ z => z, fun p l e => ?_⟩, ?_, fun i d h => ?_, fun i h => ?_, fun i b d h => ?_, fun i j b c d e p h => ?_, fun i d h => ?_, fun i j b d e p h => ?_, fun i j p a b => (bj i j p a b).1⟩, hF, ⟨fun e σ' S' H' p R' _ => ?_, fun r v S' H' p w' ir => q r v S' H' p w' ir, fun _ _ _ _ z => z.elim, fun _ _ _ _ z => z.elim⟩⟩
    · obtain ⟨d1, d2, d3, d4⟩ := dk p l e
      obtain ⟨_, _, _, _, a1, a2, _⟩ := id d1
      exact ⟨d1, ⟨_, (less_no fun j => (d4 j).1).trans a1⟩, ⟨_, (less_no fun j => (d4 j).2).trans a2⟩, d2, d3⟩
    · unfold L2.start
      rw [List.length_append, List.length_append, List.length_map, List.length_replicate, List.length_replicate, hl, hv]
    · rcases lft h with z | z
      · cases z
      · obtain ⟨v, a, b⟩ := al.get z
        exact ⟨v, stv a, b⟩
    · rcases lft h with z | z
      · cases z
      · obtain ⟨v, a, p, l, b, rfl⟩ := al.get z
        exact ⟨p, l, b, stv a⟩
    · rcases lft h with z | z
      · cases z
      · obtain ⟨v, a, b⟩ := al.get z
        exact b.elim
    · rcases lft h with z | z
      · cases z
      · obtain ⟨v, a, b⟩ := al.get z
        exact b.elim
    · rcases lft h with z | z
      · cases z
      · obtain ⟨v, a, p, b, rfl, s0, o⟩ := al.get z
        rw [Nat.zero_add] at b
        exact ⟨p, b, stv a, less_at b, s0, o⟩
    · rcases lft h with z | z
      · cases z
      · obtain ⟨v, a, b⟩ := al.get z
        exact b.elim
    · have p : retB (.val .none) (borsE e is) Q0 := p
      cases hi : borsE e is with
      | none => rw [hi] at p; exact p.elim
      | some ids =>
        rw [hi] at p
        exact q _ _ S' H' p R'.w ⟨bors_ne hi hne, .non, ret_bors R' hi⟩
structure CalB (P : Program) (w : World) (K : PySem.W.Frag) (mg : Str → Option Value) (base : Heap) (x : Str) (k n : Nat) (F : FS) : Prop where
  ex : ∃ (f : Addr) (fd : FuncData) (ps : List Str), FnG P w K mg base CX0 k f fd ps (spB K n F) ∧ Binds K fd ps [] ∧ mg x = some (.ref f) ∧ PySem.W.keepIn K (.ref f) = true
/-! ### arguments, some of them borrowed -/
def AllA (K : PySem.W.Frag) (dl : Option (Addr × Addr)) (S : Hp) (σ : L2.St) : List (Option Nat) → List SV → List V → Prop
  | [], [], vs => vs = []
  | none :: pl, r :: rs, vs => ∃ v vs', vs = v :: vs' ∧ AllR K dl S [r] [v] ∧ AllA K dl S σ pl rs vs'
  | some i :: pl, r :: rs, vs => ∃ v vs', vs = v :: vs' ∧ r = .no ∧ σ[i]? = some (some v) ∧ AllA K dl S σ pl rs vs'
  | _, _, _ => False
def tAb (K : PySem.W.Frag) (pl : List (Option Nat)) (m : MA) : TA := fun σ H Q => ∃ B env S, ∃ Q0 : List SV → En → Prop, Rel K B env S σ H ∧ m env Q0 ∧ ∀ rs env', Q0 rs env' → ∀ vs S' H', Up S S' → Rel K B env' S' σ H' → AllA K B.deal S' σ pl rs vs → Q vs H'
abbrev DAb (X : Cx) (es : List Expr) (pl : List (Option Nat)) (m : MA) : Prop := PA X es (tAb X.K pl m)
def isOB (env : En) (i : Nat) : Prop := match env[i]? with
  | some (.own true _) => True
  | some (.bor _) => True
  | _ => False
def maBor (i : Nat) (ma : MA) : MA := fun env Q => isOB env i ∧ ma env fun rs e => Q (.no :: rs) e
theorem isOB_at {env : En} {i : Nat} (h : isOB env i) : ∃ sv, env[i]? = some sv ∧ OB sv := by
  unfold isOB at h
  split at h
  · rename_i e; exact ⟨_, e, trivial⟩
  · rename_i e; exact ⟨_, e, trivial⟩
  · exact h.elim
theorem AllR.one {K : PySem.W.Frag} {dl : Option (Addr × Addr)} {S S' : Hp} {r : SV} {v : V} (u : Up S S') (h : AllR K dl S [r] [v]) : AllR K dl S' [r] [v] := AllR.up u h
section
variable {X : Cx}
theorem dab_nil : DAb X [] [] maNil := pa_nil.wk fun σ H Q ⟨B, env, S, Q0, R, h, k⟩ => k _ _ h _ S H (fun _ _ z => z) R rfl
theorem dab_cons {e : Expr} {es : List Expr} {m : ME} {ma : MA} {pl : List (Option Nat)} (h : DEw X e m) (hr : DAb X es pl ma) (hs : starEach (e :: es) X.env = (false, eval e X.env) :: starEach es X.env := by rfl) : DAb X (e :: es) (none :: pl) (maCons m ma) :=
  (pa_cons h hr hs).wk fun σ H Q ⟨B, env, S, Q0, R, h, k⟩ => ⟨B, env, S, _, R, h, fun r e1 q v S1 H1 st1 R1 ir => by
    have fin : ∀ {r' : SV} {S1' : Hp}, Up S S1' → Rel X.K B e1 S1' σ H1 → frz1 r = r' → AllR X.K B.deal S1' [r'] [v] → tAb X.K pl ma σ H1 fun xs H2 => Q (v :: xs) H2 := fun {r' S1'} st R' er f =>
      ⟨B, e1, S1', _, R', q, fun rs e2 q2 vs S2 H2 st2 R2 al => k _ e2 q2 _ S2 H2 (st.tr st2) R2 ⟨v, vs, rfl, by rw [er]; exact AllR.one st2 f, al⟩⟩
    cases r with
    | val d => exact fin st1 R1 rfl ⟨v, _, rfl, ir, rfl⟩
    | own b d =>
      obtain ⟨S2, st2, R2, dp⟩ := IsRw.frz R1 ir
      exact fin (st1.tr st2) R2 rfl ⟨v, _, rfl, dp, rfl⟩
    | deal =>
      obtain ⟨p, l, a, rfl⟩ := ir
      exact fin st1 R1 rfl ⟨p, l, _, rfl, a, rfl⟩
    | no => exact ir.elim
    | bor d => exact ir.elim
    | res b d ids => exact ir.elim⟩
theorem dab_bor (i : Nat) {x : Str} {p : Pos} {es : List Expr} {ma : MA} {pl : List (Option Nat)} (hr : DAb X es pl ma) (hN : X.N[i]? = some x := by rfl) (hv : Vis X.env.scope x := by first | exact Or.inl rfl | exact Or.inr (Or.inl rfl) | exact Or.inr (Or.inr rfl)) (hd : (x == ("__debug__" : Str)) = false := by decide)
    (hcd : (x == ("__classdict__" : Str)) = false := by decide) (hs : starEach (.Name x p :: es) X.env = (false, eval (.Name x p) X.env) :: starEach es X.env := by rfl) : DAb X (.Name x p :: es) (some i :: pl) (maBor i ma) :=
  (pa_cons (pe_var hN hv hd hcd) hr hs).wk fun σ H Q ⟨B, env, S, Q0, R, h, k⟩ => by
    obtain ⟨sv, e, ob⟩ := isOB_at h.1
    obtain ⟨q, d, a, _⟩ := R.ob e ob
    exact ⟨.ref q, a, B, env, S, _, R, h.2, fun rs e2 q2 vs S2 H2 st2 R2 al => k _ e2 q2 _ S2 H2 st2 R2 ⟨_, vs, rfl, rfl, a, al⟩⟩
end
def fillB : En → List (Option Nat) → List SV → Option (List SV)
  | _, [], [] => some []
  | e, none :: pl, r :: rs => match fillB e pl rs with
    | some l => some (r :: l)
    | none => none
  | e, some i :: pl, _ :: rs => match e[i]? with
    | some (.own true d) => (match fillB e pl rs with
      | some l => some (.bor d :: l)
      | none => none)
    | some (.bor d) => (match fillB e pl rs with
      | some l => some (.bor d :: l)
      | none => none)
    | _ => none
  | _, _, _ => none
def posB : Nat → List (Option Nat) → List (Nat × Nat)
  | _, [] => []
  | j, none :: pl => posB (j + 1) pl
  | j, some i :: pl => (j, i) :: posB (j + 1) pl
def backB : En → List (Nat × Nat) → List (Nat × Da) → Option En
  | e, [], [] => some e
  | e, (j, i) :: ps, (j', d) :: ids => if j = j' then (match e[i]? with
      | some (.own true _) => backB (e.set i (.own true d)) ps ids
      | some (.bor _) => backB (e.set i (.bor d)) ps ids
      | _ => none) else none
  | _, _, _ => none
def mCallB (n : Nat) (F : FS) (pl : List (Option Nat)) (ma : MA) : ME := fun env Q => ma env fun rs e1 => rs.length = n ∧ match fillB e1 pl rs with
  | some rs' => F rs' fun r => match r with
    | .res b d ids => (match backB e1 (posB 0 pl) ids with
      | some e2 => Q (match b with
        | true => .own true d
        | false => .val d) e2
      | none => False)
    | _ => False
  | none => False
end Pq

set_option Elab.async false
set_option linter.all false
set_option maxRecDepth 100000
set_option maxHeartbeats 4000000
namespace Pq
open PySem PySem.Spec PyProof.Rows L2
/-- the address at a place of the arguments -/
def boP (σ : L2.St) (pl : List (Option Nat)) (j : Nat) : Option Addr := match pl[j]? with
  | some (some i) => (match σ[i]? with
    | some (some (.ref p)) => some p
    | _ => none)
  | _ => none
theorem boP_some {σ : L2.St} {pl : List (Option Nat)} {j : Nat} {p : Addr} (h : boP σ pl j = some p) : ∃ i, pl[j]? = some (some i) ∧ σ[i]? = some (some (.ref p)) := by
  unfold boP at h
  split at h
  · rename_i i e
    split at h
    · rename_i q e2
      cases h
      exact ⟨i, e, e2⟩
    · cases h
  · cases h
theorem boP_at {σ : L2.St} {pl : List (Option Nat)} {j i : Nat} {p : Addr} (h : pl[j]? = some (some i)) (e : σ[i]? = some (some (.ref p))) : boP σ pl j = some p := by
  unfold boP
  rw [h]
  dsimp only
  rw [e]
theorem posB_mem : ∀ {pl : List (Option Nat)} {k j i : Nat}, (j, i) ∈ posB k pl ↔ k ≤ j ∧ pl[j - k]? = some (some i)
  | [], k, j, i => by simp [posB]
  | none :: pl, k, j, i => by
    rw [posB, posB_mem]
    constructor
    · rintro ⟨a, b⟩
      refine ⟨by omega, ?_⟩
      rw [show j - k = (j - (k + 1)) + 1 by omega, List.getElem?_cons_succ]
      exact b
    · rintro ⟨a, b⟩
      by_cases c : j = k
      · subst c
        rw [Nat.sub_self] at b
        cases b
      · rw [show j - k = (j - (k + 1)) + 1 by omega, List.getElem?_cons_succ] at b
        exact ⟨by omega, b⟩
  | some i' :: pl, k, j, i => by
    rw [posB, List.mem_cons, posB_mem]
    constructor
    · rintro (e | ⟨a, b⟩)
      · cases e
        exact ⟨Nat.le_refl _, by rw [Nat.sub_self]; rfl⟩
      · refine ⟨by omega, ?_⟩
        rw [show j - k = (j - (k + 1)) + 1 by omega, List.getElem?_cons_succ]
        exact b
    · rintro ⟨a, b⟩
      by_cases c : j = k
      · subst c
        rw [Nat.sub_self] at b
        cases b
        exact .inl rfl
      · rw [show j - k = (j - (k + 1)) + 1 by omega, List.getElem?_cons_succ] at b
        exact .inr ⟨by omega, b⟩
theorem fill_ob {e : En} : ∀ {pl : List (Option Nat)} {rs rs' : List SV}, fillB e pl rs = some rs' → ∀ i, some i ∈ pl → ∃ sv, e[i]? = some sv ∧ OB sv
  | [], [], _, _ => fun i hi => by cases hi
  | none :: pl, r :: rs, rs', h => fun i hi => by
    rw [fillB] at h
    split at h
    · rename_i l hl
      exact fill_ob hl i ((List.mem_cons.mp hi).resolve_left fun z => by cases z)
    · cases h
  | some i' :: pl, r :: rs, rs', h => fun i hi => by
    rw [fillB] at h
    split at h
    · rename_i d ed
      split at h
      · rename_i l hl
        rcases List.mem_cons.mp hi with z | z
        · cases z; exact ⟨_, ed, trivial⟩
        · exact fill_ob hl i z
      · cases h
    · rename_i d ed
      split at h
      · rename_i l hl
        rcases List.mem_cons.mp hi with z | z
        · cases z; exact ⟨_, ed, trivial⟩
        · exact fill_ob hl i z
      · cases h
    · cases h
  | [], _ :: _, _, h => by simp [fillB] at h
  | none :: _, [], _, h => by simp [fillB] at h
  | some _ :: _, [], _, h => by simp [fillB] at h
theorem fill_len {e : En} : ∀ {pl : List (Option Nat)} {rs rs' : List SV}, fillB e pl rs = some rs' → rs'.length = rs.length
  | [], [], _, h => by cases h; rfl
  | none :: pl, r :: rs, rs', h => by
    rw [fillB] at h
    split at h
    · rename_i l hl
      cases h
      rw [List.length_cons, List.length_cons, fill_len hl]
    · cases h
  | some i' :: pl, r :: rs, rs', h => by
    rw [fillB] at h
    split at h
    · split at h
      · rename_i l hl
        cases h
        rw [List.length_cons, List.length_cons, fill_len hl]
      · cases h
    · split at h
      · rename_i l hl
        cases h
        rw [List.length_cons, List.length_cons, fill_len hl]
      · cases h
    · cases h
  | [], _ :: _, _, h => by simp [fillB] at h
  | none :: _, [], _, h => by simp [fillB] at h
  | some _ :: _, [], _, h => by simp [fillB] at h
theorem fill_all {K : PySem.W.Frag} {B : Bs} {e : En} {S H : Hp} {σ : L2.St} (R : Rel K B e S σ H) {bo : Nat → Option Addr} : ∀ {pl : List (Option Nat)} {rs rs' : List SV} {vs : List V} {k : Nat}, (∀ j i p, pl[j]? = some (some i) → σ[i]? = some (some (.ref p)) → bo (k + j) = some p) →
    AllA K B.deal S σ pl rs vs → fillB e pl rs = some rs' → AllB K B.deal bo S H k rs' vs
  | [], [], _, vs, k, _, al, h => by
    cases h
    exact al
  | none :: pl, r :: rs, rs', vs, k, hb, al, h => by
    rw [fillB] at h
    split at h
    · rename_i l hl
      cases h
      obtain ⟨v, vs', rfl, a, al⟩ := al
      have ih := fill_all R (bo := bo) (k := k + 1) (fun j i p a b => by
        rw [show k + 1 + j = k + (j + 1) by omega]
        exact hb (j + 1) i p (by rw [List.getElem?_cons_succ]; exact a) b) al hl
      cases r with
      | val d =>
        obtain ⟨v', r', e1, b, _⟩ := a
        cases e1
        exact ⟨v, vs', rfl, b, ih⟩
      | deal =>
        obtain ⟨p, l', r', e1, b, _⟩ := a
        cases e1
        exact ⟨p, l', vs', rfl, b, ih⟩
      | _ => exact a.elim
    · cases h
  | some i :: pl, r :: rs, rs', vs, k, hb, al, h => by
    obtain ⟨v, vs', rfl, er, sv, al⟩ := al
    have ih : ∀ l, fillB e pl rs = some l → AllB K B.deal bo S H (k + 1) l vs' := fun l hl => fill_all R (bo := bo) (k := k + 1) (fun j i p a b => by
        rw [show k + 1 + j = k + (j + 1) by omega]
        exact hb (j + 1) i p (by rw [List.getElem?_cons_succ]; exact a) b) al hl
    have fin : ∀ {s : SV} {d : Da} {l : List SV}, OB s → dat s = d → e[i]? = some s → fillB e pl rs = some l → AllB K B.deal bo S H k (.bor d :: l) (v :: vs') := fun {s d l} ob ed ee hl => by
      obtain ⟨p, a, _, c, o⟩ := R.ob2 ee ob
      rw [sv] at a; cases a
      rw [ed] at o
      exact ⟨p, vs', rfl, hb 0 i p rfl sv, c, o, ih l hl⟩
    rw [fillB] at h
    split at h
    · rename_i d ed
      split at h
      · rename_i l hl
        cases h
        exact fin (s := .own true d) trivial rfl ed hl
      · cases h
    · rename_i d ed
      split at h
      · rename_i l hl
        cases h
        exact fin (s := .bor d) trivial rfl ed hl
      · cases h
    · cases h
  | [], _ :: _, _, _, _, _, _, h => by simp [fillB] at h
  | none :: _, [], _, _, _, _, _, h => by simp [fillB] at h
  | some _ :: _, [], _, _, _, _, _, h => by simp [fillB] at h
theorem back_get : ∀ {ps : List (Nat × Nat)} {e e2 : En} {ids : List (Nat × Da)}, (ps.map (·.2)).Nodup → backB e ps ids = some e2 →
    e2.length = e.length ∧ ∀ i, (∃ j d sv, (j, i) ∈ ps ∧ (j, d) ∈ ids ∧ e[i]? = some sv ∧ OB sv ∧ e2[i]? = some (kin sv d)) ∨ ((∀ j, (j, i) ∉ ps) ∧ e2[i]? = e[i]?)
  | [], e, e2, [], _, h => by
    cases h
    exact ⟨rfl, fun i => .inr ⟨(fun j z => by cases z), rfl⟩⟩
  | (j, i) :: ps, e, e2, (j', d) :: ids, nd, h => by
    rw [backB] at h
    rw [List.map_cons, List.nodup_cons] at nd
    split at h
    · rename_i ej
      subst ej
      have fin : ∀ {sv : SV}, OB sv → e[i]? = some sv → backB (e.set i (kin sv d)) ps ids = some e2 → e2.length = e.length ∧ ∀ i', (∃ j' d' sv, (j', i') ∈ (j, i) :: ps ∧ (j', d') ∈ (j, d) :: ids ∧ e[i']? = some sv ∧ OB sv ∧ e2[i']? = some (kin sv d')) ∨ ((∀ j', (j', i') ∉ (j, i) :: ps) ∧ e2[i']? = e[i']?) := fun {sv} ob es hb => by
        obtain ⟨l, g⟩ := back_get nd.2 hb
        have hi := (List.getElem?_eq_some_iff.mp es).1
        refine ⟨by rw [l, List.length_set], fun i' => ?_⟩
        rcases g i' with ⟨j', d', sv', a1, a2, a3, a4, a5⟩ | ⟨b1, b2⟩
        · have ne : i ≠ i' := fun z => nd.1 (by rw [z]; exact List.mem_map_of_mem (f := (·.2)) a1)
          rw [List.getElem?_set_ne ne] at a3
          exact .inl ⟨j', d', sv', List.mem_cons_of_mem _ a1, List.mem_cons_of_mem _ a2, a3, a4, a5⟩
        · by_cases ne : i = i'
          · subst ne
            rw [List.getElem?_set_self hi] at b2
            exact .inl ⟨j, d, sv, List.mem_cons_self, List.mem_cons_self, es, ob, b2⟩
          · rw [List.getElem?_set_ne ne] at b2
            refine .inr ⟨fun j' z => ?_, b2⟩
            rcases List.mem_cons.mp z with z | z
            · cases z; exact ne rfl
            · exact b1 j' z
      split at h
      · rename_i c ec
        exact fin (sv := .own true c) trivial ec h
      · rename_i c ec
        exact fin (sv := .bor c) trivial ec h
      · cases h
    · cases h
  | [], _, _, _ :: _, _, h => by simp [backB] at h
  | (_, _) :: _, _, _, [], _, h => by simp [backB] at h
theorem kin_own {sv : SV} {d : Da} {b : Bool} {d' : Da} (o : OB sv) (h : kin sv d = .own b d') : d' = d ∧ ∃ c, sv = .own b c := by
  cases sv with
  | own w c => cases h; exact ⟨rfl, _, rfl⟩
  | bor c => cases h
  | _ => exact o.elim
theorem kin_bor {sv : SV} {d d' : Da} (o : OB sv) (h : kin sv d = .bor d') : d' = d ∧ ∃ c, sv = .bor c := by
  cases sv with
  | own w c => cases h
  | bor c => cases h; exact ⟨rfl, _, rfl⟩
  | _ => exact o.elim
theorem kin_ob {sv : SV} {d : Da} (o : OB sv) : OB (kin sv d) := by cases sv <;> first | exact trivial | exact o.elim
section
variable {X : Cx}
theorem dew_callB {k : Nat} {f : Addr} {fd : FuncData} {ps : List Str} {n : Nat} {F : FS} {x : Str} {e : Expr} {es : List Expr} {p pos : Pos} {ma : MA} {pl : List (Option Nat)} (Fk : FnG X.prog X.w X.K X.mg X.base CX0 k f fd ps (spB X.K n F)) (hr : RmG k X.A) (hg : Gl X x) (hm : X.mg x = some (.ref f)) (hk : PySem.W.keepIn X.K (.ref f) = true) (hb : Binds X.K fd ps [])
    (ha : DAb X (e :: es) pl ma) (nd : ((posB 0 pl).map (·.2)).Nodup) (hdb : (x == ("__debug__" : Str)) = false := by decide) (he : starEach (e :: es) X.env = (false, eval e X.env) :: starEach es X.env := by rfl) (hpl : (backTo pos (starEach es X.env)).any (·.1) = false := by rfl) :
    DEw X (.Call (.Name x p) (e :: es) [] pos) (mCallB n F pl ma) := (pe_callG Fk hr hg hm hk hb ha hdb he hpl).wk fun σ H Q ⟨B, env, S, Q0, R, h, k⟩ => by
  refine ⟨B, env, S, _, R, h, fun rs e1 q vs S1 H1 st R1 al => ?_⟩
  show spB X.K n F vs H1 Q E0
  obtain ⟨hn, q⟩ := q
  split at q
  · rename_i rs' hf
    have ob : ∀ i, some i ∈ pl → ∃ sv, e1[i]? = some sv ∧ OB sv := fill_ob hf
    have bp : ∀ j p, boP σ pl j = some p → ∃ i sv, pl[j]? = some (some i) ∧ e1[i]? = some sv ∧ OB sv ∧ σ[i]? = some (some (.ref p)) ∧ Own X.K B S1 H1 (dat sv) p := fun j p hj => by
      obtain ⟨i, a, b⟩ := boP_some hj
      obtain ⟨sv, c, d⟩ := ob i (List.mem_of_getElem? a)
      obtain ⟨p', a', o⟩ := R1.ob2 c d
      rw [b] at a'; cases a'
      exact ⟨i, sv, a, c, d, b, o⟩
    -- equal addresses, equal slots
    have same : ∀ {i i' : Nat} {sv sv' : SV} {p : Addr}, e1[i]? = some sv → OB sv → e1[i']? = some sv' → OB sv' → σ[i]? = some (some (.ref p)) → σ[i']? = some (some (.ref p)) → i = i' := fun {i i' sv sv' p} h1 o1 h2 o2 a1 a2 => by
      cases sv with
      | own b d =>
        cases sv' with
        | own b' d' => exact R1.dist _ _ _ _ _ _ p h1 h2 a1 a2
        | bor d' => exact (R1.obd _ _ _ _ _ p h1 h2 a1 a2).elim
        | _ => exact o2.elim
      | bor d =>
        cases sv' with
        | own b' d' => exact (R1.obd _ _ _ _ _ p h2 h1 a2 a1).elim
        | bor d' =>
          obtain ⟨p1, b1, c1, _⟩ := R1.bor _ _ h1
          obtain ⟨p2, b2, c2, _⟩ := R1.bor _ _ h2
          rw [a1] at c1; cases c1
          rw [a2] at c2; cases c2
          exact R1.binj _ _ _ b1 b2
        | _ => exact o2.elim
      | _ => exact o1.elim
    have inj : ∀ j j' p, boP σ pl j = some p → boP σ pl j' = some p → j = j' := fun j j' p h1 h2 => by
      obtain ⟨i, sv, a1, a2, a3, a4, _⟩ := bp j p h1
      obtain ⟨i', sv', b1, b2, b3, b4, _⟩ := bp j' p h2
      have ei := same a2 a3 b2 b3 a4 b4
      subst ei
      have m1 : (j, i) ∈ posB 0 pl := posB_mem.mpr ⟨Nat.zero_le _, by rw [Nat.sub_zero]; exact a1⟩
      have m2 : (j', i) ∈ posB 0 pl := posB_mem.mpr ⟨Nat.zero_le _, by rw [Nat.sub_zero]; exact b1⟩
      revert m1 m2 nd
      generalize posB 0 pl = L
      intro nd m1 m2
      induction L with
      | nil => cases m1
      | cons x L ih =>
        rw [List.map_cons, List.nodup_cons] at nd
        rcases List.mem_cons.mp m1 with z1 | z1
        · rcases List.mem_cons.mp m2 with z2 | z2
          · rw [← z1] at z2; cases z2; rfl
          · rw [← z1] at nd
            exact absurd (List.mem_map_of_mem (f := (·.2)) z2) nd.1
        · rcases List.mem_cons.mp m2 with z2 | z2
          · rw [← z2] at nd
            exact absurd (List.mem_map_of_mem (f := (·.2)) z1) nd.1
          · exact ih nd.2 z1 z2
    have nB : ∀ {a : Addr}, B.H a ≠ none → ∀ j, boP σ pl j ≠ some a := fun {a} hne j hj => by
      obtain ⟨_, _, _, _, _, _, o, _⟩ := bp j a hj
      exact hne o
    refine ⟨S1, B.deal, boP σ pl, rs', _, R1.w.sub, fun p l e => ?_, fun j j' p h1 h2 => ?_, fill_all R1 (fun j i p a b => by rw [Nat.zero_add]; exact boP_at a b) al hf, by rw [fill_len hf]; exact hn, q, fun r v S' H' q2 w' ir => ?_⟩
    · obtain ⟨d1, d2, d3, d4, d5⟩ := R1.w.deal p l e
      obtain ⟨⟨o, b1⟩, ⟨o', b2⟩⟩ := And.intro d2 d3
      exact ⟨d1, R1.w.bN p o b1 d4, R1.w.bN l o' b2 d5, fun j => ⟨nB (by rw [b1]; exact fun z => nomatch z) j, nB (by rw [b2]; exact fun z => nomatch z) j⟩⟩
    · obtain ⟨_, _, _, _, _, _, _, s, _⟩ := bp j p h1
      exact ⟨inj j j' p h1 h2, s⟩
    · split at q2
      · rename_i b d ids
        split at q2
        · rename_i e2 hbk
          obtain ⟨hne, hres, hids⟩ := ir
          obtain ⟨hlen, g⟩ := back_get nd hbk
          have lsm : ∀ {a : Addr} {o : HO}, H1 a = some o → (∀ j, boP σ pl j ≠ some a) → lessH H1 (boP σ pl) a = some o := fun h1 h2 => (less_no h2).trans h1
          have hw : Wd B S' H' := by
            refine ⟨w'.sub, fun a o e => w'.bS a o (R1.w.bS a o e), fun a o f e => w'.bH a o f (lsm (R1.w.bH a o f e) (nB (by rw [e]; exact fun z => nomatch z))), fun a o e n => ?_, fun p l e => ?_⟩
            · have hb' := nB (a := a) (by rw [e]; exact fun z => nomatch z)
              by_cases f : FP B a
              · obtain ⟨_, n2, o2, h2⟩ := R1.w.fp f
                exact w'.bN a o2 (lsm h2 hb') (R1.w.bN a o e n)
              · exact w'.bN a o (lsm (R1.w.bH a o f e) hb') (R1.w.bN a o e n)
            · obtain ⟨d1, d2⟩ := R1.w.deal p l e
              exact ⟨(w'.deal p l e).1, d2⟩
          -- what was not borrowed
          have keep : ∀ {i : Nat} {sv : SV} {p : Addr}, e1[i]? = some sv → OB sv → (∀ j, (j, i) ∉ posB 0 pl) → σ[i]? = some (some (.ref p)) → ∀ {d : Da}, Own X.K B S1 H1 d p → Own X.K B S' H' d p := fun {i sv p} h1 o1 nm a1 {d} o => by
            obtain ⟨c1, c2, u, c3, c4⟩ := o
            have nb : ∀ j, boP σ pl j ≠ some p := fun j hj => by
              obtain ⟨i', sv', b1, b2, b3, b4, _⟩ := bp j p hj
              have ei := same h1 o1 b2 b3 a1 b4
              subst ei
              exact nm j (posB_mem.mpr ⟨Nat.zero_le _, by rw [Nat.sub_zero]; exact b1⟩)
            have nf : ¬ FP B p := R1.w.nfp c1
            exact ⟨c1, w'.bN p u (lsm c3 nb) c2, u, w'.bH p u nf (lsm c3 nb), c4.up w'.bS⟩
          have give : ∀ {i j : Nat} {d : Da} {sv : SV}, (j, i) ∈ posB 0 pl → (j, d) ∈ ids → e1[i]? = some sv → OB sv → ∃ p, σ[i]? = some (some (.ref p)) ∧ Own X.K B S' H' d p := fun {i j d sv} m1 m2 h1 o1 => by
            obtain ⟨p, a, o⟩ := R1.ob2 h1 o1
            have hb1 : boP σ pl j = some p := boP_at (by have := (posB_mem.mp m1).2; rw [Nat.sub_zero] at this; exact this) a
            obtain ⟨q', b1, b2, b3, b4⟩ := hids _ m2
            have : boP σ pl j = some q' := b1
            rw [hb1] at this; cases this
            exact ⟨p, a, o.1, b3, b4⟩
          have R2 : Rel X.K B e2 S' σ H' := by
            refine ⟨hw, by rw [hlen]; exact R1.len, fun i d h => ?_, fun i h => ?_, fun i b d h => ?_, fun i i' b c d e p h h' a a' => ?_, fun i d h => ?_, fun i i' b d e p h h' a a' => ?_, R1.binj⟩
            · rcases g i with ⟨j, d', sv, m1, m2, h1, o1, h2⟩ | ⟨_, h2⟩
              · rw [h] at h2
                have := kin_ob (d := d') o1
                rw [← Option.some.inj h2] at this
                exact this.elim
              · rw [h2] at h
                obtain ⟨v, a, b⟩ := R1.slot i d h
                exact ⟨v, a, Dq.up w'.bS _ _ b⟩
            · rcases g i with ⟨j, d', sv, m1, m2, h1, o1, h2⟩ | ⟨_, h2⟩
              · rw [h] at h2
                have := kin_ob (d := d') o1
                rw [← Option.some.inj h2] at this
                exact this.elim
              · rw [h2] at h
                exact R1.dl i h
            · rcases g i with ⟨j, d', sv, m1, m2, h1, o1, h2⟩ | ⟨nm, h2⟩
              · rw [h] at h2
                obtain ⟨rfl, c, rfl⟩ := kin_own o1 (Option.some.inj h2).symm
                exact give m1 m2 h1 o1
              · rw [h2] at h
                obtain ⟨p, a, o⟩ := R1.own i b d h
                exact ⟨p, a, keep h trivial nm a o⟩
            · have back : ∀ {i : Nat} {b : Bool} {d : Da}, e2[i]? = some (.own b d) → ∃ c, e1[i]? = some (.own b c) := fun {i b d} h => by
                rcases g i with ⟨j, d', sv, m1, m2, h1, o1, h2⟩ | ⟨nm, h2⟩
                · rw [h] at h2
                  obtain ⟨rfl, c, rfl⟩ := kin_own o1 (Option.some.inj h2).symm
                  exact ⟨c, h1⟩
                · rw [h2] at h; exact ⟨d, h⟩
              obtain ⟨c1, f1⟩ := back h
              obtain ⟨c2, f2⟩ := back h'
              exact R1.dist i i' _ _ _ _ p f1 f2 a a'
            · rcases g i with ⟨j, d', sv, m1, m2, h1, o1, h2⟩ | ⟨nm, h2⟩
              · rw [h] at h2
                obtain ⟨rfl, c, rfl⟩ := kin_bor o1 (Option.some.inj h2).symm
                obtain ⟨p, b1, a, _⟩ := R1.bor i c h1
                obtain ⟨p', a', o⟩ := give m1 m2 h1 o1
                rw [a] at a'; cases a'
                exact ⟨p, b1, a, o⟩
              · rw [h2] at h
                obtain ⟨p, b1, a, o⟩ := R1.bor i d h
                exact ⟨p, b1, a, keep h trivial nm a o⟩
            · have f1 : ∃ c, e1[i]? = some (.own b c) := by
                rcases g i with ⟨j, d', sv, m1, m2, h1, o1, h2⟩ | ⟨nm, h2⟩
                · rw [h] at h2
                  obtain ⟨rfl, c, rfl⟩ := kin_own o1 (Option.some.inj h2).symm
                  exact ⟨c, h1⟩
                · rw [h2] at h; exact ⟨d, h⟩
              have f2 : ∃ c, e1[i']? = some (.bor c) := by
                rcases g i' with ⟨j, d', sv, m1, m2, h1, o1, h2⟩ | ⟨nm, h2⟩
                · rw [h'] at h2
                  obtain ⟨rfl, c, rfl⟩ := kin_bor o1 (Option.some.inj h2).symm
                  exact ⟨c, h1⟩
                · rw [h2] at h'; exact ⟨e, h'⟩
              obtain ⟨c1, f1⟩ := f1
              obtain ⟨c2, f2⟩ := f2
              exact R1.obd i i' b c1 c2 p f1 f2 a a'
          refine k _ e2 q2 v S' H' (st.tr w'.bS) R2 ?_
          cases b with
          | false => exact hres
          | true =>
            obtain ⟨p, rfl, ⟨o1, o2, o, o3, o4⟩, o5⟩ := hres
            have nb : B.H p = none := by
              cases z : B.H p with
              | none => rfl
              | some u =>
                have nbj := nB (a := p) (by rw [z]; exact fun y => nomatch y)
                have h1 : H1 p ≠ none := by
                  by_cases f : FP B p
                  · obtain ⟨_, _, o2, h2⟩ := R1.w.fp f
                    rw [h2]; exact fun y => nomatch y
                  · rw [R1.w.bH p u f z]; exact fun y => nomatch y
                exact absurd ((less_no nbj).symm.trans o1) h1
            refine ⟨rfl, p, rfl, ⟨nb, o2, o, o3, o4⟩, fun i sv h ob' a => ?_⟩
            rcases g i with ⟨j, d', sv', m1, m2, h1, ob1, h2⟩ | ⟨nm, h2⟩
            · exact o5 _ m2 (boP_at (by have := (posB_mem.mp m1).2; rw [Nat.sub_zero] at this; exact this) a)
            · rw [h2] at h
              obtain ⟨p', a', c1, c2, u, c3, c4⟩ := R1.ob2 h ob'
              rw [a] at a'; cases a'
              have nbj : ∀ j, boP σ pl j ≠ some p := fun j hj => by
                obtain ⟨i', sv', b1, b2, b3, b4, _⟩ := bp j p hj
                have ei := same h ob' b2 b3 a b4
                subst ei
                exact nm j (posB_mem.mpr ⟨Nat.zero_le _, by rw [Nat.sub_zero]; exact b1⟩)
              have : H1 p = none := (less_no nbj).symm.trans o1
              rw [this] at c3; cases c3
        · exact q2.elim
      · exact q2.elim
  · exact q.elim
theorem dew_callBC {k j n : Nat} {F : FS} {x : Str} {e : Expr} {es : List Expr} {p pos : Pos} {ma : MA} {pl : List (Option Nat)} (C : CalB X.prog X.w X.K X.mg X.base x k n F) (hr : RmG j X.A) (hkj : k ≤ j) (hg : Gl X x)
    (ha : DAb X (e :: es) pl ma) (nd : ((posB 0 pl).map (·.2)).Nodup := by decide) (hdb : (x == ("__debug__" : Str)) = false := by decide) (he : starEach (e :: es) X.env = (false, eval e X.env) :: starEach es X.env := by rfl) (hpl : (backTo pos (starEach es X.env)).any (·.1) = false := by rfl) :
    DEw X (.Call (.Name x p) (e :: es) [] pos) (mCallB n F pl ma) := by
  obtain ⟨f, fd, ps, G, b, m, kp⟩ := C.ex
  exact dew_callB G (hr.mono hkj) hg m kp b ha nd hdb he hpl
end
end Pq

set_option Elab.async false
set_option linter.all false
set_option maxRecDepth 100000
set_option maxHeartbeats 4000000
namespace Pq
open PySem PySem.Spec PyProof.Rows L2
/-! ### dicts written out, with texts and numbers as keys -/
def mdNil : ML := fun env Q => Q [] env
section
variable {X : Cx}
/-- the values of a display, and their keys -/
def mKvs : List (Key × MP) → En → (List (Key × Da) → En → Prop) → Prop
  | [], env, Q => Q [] env
  | (k, m) :: r, env, Q => m env fun d e1 => mKvs r e1 fun ds e2 => Q ((k, d) :: ds) e2
def mDisp (l : List (Key × MP)) : ME := fun env Q => mKvs l env fun ds e => Q (.own true (.dict (mergeD [] ds))) e
def pairsT (K : PySem.W.Frag) (l : List (Key × MP)) : List (TE × TE) := l.map fun p => (tC (kV p.1), tS K p.2)
inductive DKs (X : Cx) (pos : Pos) : List (Option Expr) → List Expr → List (Key × MP) → Prop
  | nil : DKs X pos [] [] []
  | cons {k v : Expr} {ks : List (Option Expr)} {vs : List Expr} {key : Key} {m : MP} {l : List (Key × MP)} : PE X k (tC (kV key)) → DS X v m → DKs X pos ks vs l → DKs X pos (some k :: ks) (v :: vs) ((key, m) :: l)
theorem DKs.pps {pos : Pos} {ks : List (Option Expr)} {vs : List Expr} {l : List (Key × MP)} (h : DKs X pos ks vs l) : PPs X pos ks vs (pairsT X.K l) := by
  induction h with
  | nil => exact pps_nil
  | cons h1 h2 _ ih => exact pps_cons h1 h2 ih
theorem DKs.all {pos : Pos} {ks : List (Option Expr)} {vs : List Expr} {l : List (Key × MP)} (h : DKs X pos ks vs l) : ks.all (·.isSome) = true ∧ ks.length = vs.length := by
  induction h with
  | nil => exact ⟨rfl, rfl⟩
  | cons _ _ _ ih => exact ⟨by rw [List.all_cons, ih.1]; rfl, by rw [List.length_cons, List.length_cons, ih.2]⟩
theorem disp_run {K : PySem.W.Frag} {B : Bs} {σ : L2.St} {p : Addr} {env0 : En} {S0 H0 : Hp} (hp : ∀ (i : Nat) (sv : SV), env0[i]? = some sv → OB sv → σ[i]? ≠ some (some (.ref p))) (nf : ¬ FP B p) :
    ∀ (l : List (Key × MP)) (env : En) (S H : Hp) (Q0 : List (Key × Da) → En → Prop) (Q : List (V × V) → Hp → Prop), Rel K B env S σ H → Stq B σ env0 S0 H0 env S H → S p = none → (∃ o, H p = some o) → mKvs l env Q0 →
      (∀ ds env', Q0 ds env' → ∀ kvs S' H', kvs.length = l.length → Stq B σ env0 S0 H0 env' S' H' → Up S S' → Rel K B env' S' σ H' → S' p = none → (∀ o, H p = some o → H' p = some o) → Paired (fun (kv : Key × V) (q : Key × Da) => kv.1 = q.1 ∧ Dq K S' kv.2 q.2) kvs ds → Q (kvs.map fun kv => (kV kv.1, kv.2)) H') → tPairs (pairsT K l) σ H Q
  | [], env, S, H, Q0, Q, R, st, sp, ho, hm, k => k [] env hm [] S H rfl st (fun _ _ z => z) R sp (fun _ z => z) .nil
  | (key, m) :: l, env, S, H, Q0, Q, R, st, sp, ho, hm, k => by
    refine ⟨B, env, S, _, R, hm, fun d e1 q v S1 H1 st1 R1 dv => ?_⟩
    obtain ⟨o, ho⟩ := ho
    have sp1 : S1 p = none := by
      rcases st1.fz p o nf ho sp with z | ⟨i, c, z1, z2⟩
      · exact z
      · have := st.ow i _ z1 trivial
        exact absurd z2 (hp i _ this trivial)
    refine disp_run hp nf l e1 S1 H1 (fun ds e2 => Q0 ((key, d) :: ds) e2) (fun ps H3 => Q ((kV key, v) :: ps) H3) R1 (st.trans st1) sp1 ⟨o, st1.s.2 p o nf ho⟩ q fun ds e2 q2 kvs S2 H2 ln st2 u2 R2 sp2 h2 pr => ?_
    refine k ((key, d) :: ds) e2 q2 ((key, v) :: kvs) S2 H2 (by rw [List.length_cons, List.length_cons, ln]) st2 (Up.tr st1.s.1 u2) R2 sp2 (fun o' z => ?_) (.cons ⟨rfl, ?_⟩ pr)
    · rw [ho] at z; cases z
      exact h2 o (st1.s.2 p o nf ho)
    · exact Dq.up u2 _ _ dv
theorem de_disp {ks : List (Option Expr)} {vs : List Expr} {pos : Pos} {l : List (Key × MP)} (h : DKs X pos ks vs l) (h0 : ks ≠ []) (h15 : ks.length ≤ 15) : DE X (.Dict ks vs pos) (mDisp l) :=
  (pe_disp h.pps h.all.1 h.all.2 h0 h15).wk fun σ H Q ⟨B, env, S, Q0, R, hm, k⟩ p hp => by
    have ll : ∀ {ks : List (Option Expr)} {vs : List Expr} {l : List (Key × MP)}, DKs X pos ks vs l → l.length = ks.length := fun {ks vs l} h => by
      induction h with
      | nil => rfl
      | cons _ _ _ ih => rw [List.length_cons, List.length_cons, ih]
    have hf := R.fresh hp
    have nf : ¬ FP B p := R.w.nfp (R.w.bnone hp)
    refine disp_run hf nf l env S (upd H p (.dK [])) _ _ (R.alloc hp) (stq_alloc hp) (R.w.snone hp) ⟨_, upd_same⟩ hm fun ds e2 q2 kvs S2 H2 ln st2 u2 R2 sp2 h2 pr => ?_
    have hp2 := h2 _ upd_same
    have no : ∀ (i : Nat) (sv : SV), e2[i]? = some sv → OB sv → σ[i]? ≠ some (some (.ref p)) := fun i sv a o => hf i sv (st2.ow i sv a o) o
    have lk : kvs.length ≤ 15 := by
      rw [ln, ll h]
      exact h15
    refine ⟨hp2, kvs, rfl, lk, ?_⟩
    have R3 := R2.other (o := .dK (mergeK [] kvs)) (R.w.bnone hp) sp2 no
    refine k _ e2 q2 (.ref p) S2 _ ⟨⟨st2.s.1, fun a o f e => ?_⟩, st2.ow, st2.fz⟩ R3 ⟨rfl, p, rfl, ⟨R.w.bnone hp, sp2, _, upd_same, .dk (merge_dk pr .nil)⟩, hp, no⟩
    rw [upd_ne (ne_of_none e hp)]
    exact st2.s.2 a o f e
end
/-! ### d.update(e) -/
def updD (ds es : List (Da × Da)) : List (Da × Da) := es.foldl (fun a p => match keyO p.1 with
  | some k => dPut a k p.2
  | none => a) ds
theorem upd_dk {K : PySem.W.Frag} {S : Hp} : ∀ {es : List (Da × Da)} {more akv : List (Key × V)} {acc : List (Da × Da)}, DqK K S more es → DqK K S akv acc → DqK K S (mergeK akv more) (updD acc es)
  | [], _, _, _, h, ha => by cases h; exact ha
  | (c, d) :: es, _, akv, acc, h, ha => by
    cases h with
    | @cons k v vs _ _ h1 h2 =>
      have := upd_dk h2 (ha.put (k := k) h1)
      show DqK K S (mergeK (putK akv k v) vs) (updD (match keyO (keyD k) with
        | some k => dPut acc k d
        | none => acc) es)
      rw [keyO_D]
      exact this
section
variable {X : Cx}
theorem mt_update : MtR X "dict.update" (fun x vs H Q => ∃ a b kvs more, x = .ref a ∧ vs = [.ref b] ∧ H a = some (.dK kvs) ∧ Rd H b (.dK more) ∧ a ≠ b ∧ kvs.length + more.length ≤ sizeLine ∧ Q .non (upd H a (.dK (mergeK kvs more)))) := by
  intro pins s σ H x vs v us Q I rx rv h
  obtain ⟨a, b, kvs, more, rfl, rfl, ha, hb, ne, hz, q⟩ := h
  cases rx
  obtain ⟨u, rfl, ru⟩ := rv.one
  cases ru
  obtain ⟨z, hd, vs0, rel, dd⟩ := dk_of I.hok ha
  obtain ⟨z2, hd2, vs2, rel2, dd2⟩ := dk_rd I.hok hb
  refine call_meetsIn PySem.F.slot_dict_update dd.typeIs PySem.F.entry_dict_update (PySem.F.args_dict_update_2 _ _) (meets_dict_update (mixKind X.prog X.w) a b ne hd2) ⟨vs0, vs2, dd, dd2, by rw [← rel.length, ← rel2.length]; exact hz, fun h' dd' _ hs => ?_⟩
  have he : ∃ q, h'.get? a = some q := let ⟨q, _, _, hq, _⟩ := dd'; ⟨q, hq⟩
  refine ⟨.non, _, d_write (t' := s.toks) I (by rw [ha]; exact True.intro) hs he (dk_new ?_ hd (KV.merge rel2 rel) dd'), rfl, q⟩
  exact Nat.le_trans (length_mergeK more kvs) (by omega)
def ownD (env : En) (i : Nat) : Prop := match env[i]? with
  | some (.own true (.dict ds)) => isTm ds = false
  | some (.bor (.dict ds)) => isTm ds = false
  | _ => False
def msUpd (i : Nat) (m : MP) : MS := fun env E => ownD env i ∧ m env fun d e => match e[i]?, d with
  | some (.own true (.dict ds)), .dict es => isTm ds = false ∧ isTm es = false ∧ ds.length + es.length ≤ 1000000 ∧ E.nx (e.set i (.own true (.dict (updD ds es))))
  | some (.bor (.dict ds)), .dict es => isTm ds = false ∧ isTm es = false ∧ ds.length + es.length ≤ 1000000 ∧ E.nx (e.set i (.bor (.dict (updD ds es))))
  | _, _ => False
theorem ob_dict {K : PySem.W.Frag} {B : Bs} {e : En} {S1 H1 : Hp} {σ : L2.St} {i : Nat} {ds : List (Da × Da)} {sv : SV} (R1 : Rel K B e S1 σ H1) (o : OB sv) (ed : dat sv = .dict ds) (ht : isTm ds = false) (h : e[i]? = some sv) : ∃ p kvs, σ[i]? = some (some (.ref p)) ∧ B.H p = none ∧ S1 p = none ∧ H1 p = some (.dK kvs) ∧ DqK K S1 kvs ds := by
  obtain ⟨p, a, b, c, u, d2, d3⟩ := R1.ob2 h o
  rw [ed] at d3
  cases d3 with
  | dk d3 => exact ⟨p, _, a, b, c, d2, d3⟩
  | dt _ => cases ht
theorem dst_upd (i : Nat) {x : Str} {e : Expr} {m : MP} {p apos cpos pos : Pos} (he : DS X e m) (hN : X.N[i]? = some x := by rfl) (hv : Vis X.env.scope x := by first | exact Or.inl rfl | exact Or.inr (Or.inl rfl) | exact Or.inr (Or.inr rfl)) (hd : (x == ("__debug__" : Str)) = false := by decide)
    (hcd : (x == ("__classdict__" : Str)) = false := by decide) (hbase : attributeBase (.Name x p) "update" X.env (eval (.Name x p) X.env) = eval (.Name x p) X.env := by rfl)
    (hfew : ((backTo cpos (starEach [e] X.env)).all (fun x => !x.1) && (backToKw cpos (keywordEach [] X.env)).all (fun x => x.1.isSome) && decide ([e].length + ([] : List Keyword).length + (if ([] : List Keyword).isEmpty then 0 else 1) < 30)) = true := by rfl)
    (hline : (apos.endLine == cpos.line) = true := by rfl) (hs : starEach [e] X.env = (false, eval e X.env) :: starEach [] X.env := by rfl) (hplain : (backTo cpos (starEach [] X.env)).any (·.1) = false := by rfl)
    (hsw : swapsWith (.Call (.Attribute (.Name x p) "update" apos) [e] [] cpos) none pos.line X.env = pure false := by rfl) :
    DSt X (.Expr (.Call (.Attribute (.Name x p) "update" apos) [e] [] cpos) pos) (msUpd i m) :=
  (ps_expr (pe_bm PySem.F.plainAttrs_dict PySem.F.slot_dict_update PySem.F.type_dict_update mt_update (pe_var hN hv hd hcd) (pa_cons he pa_nil hs) hbase hfew hline hs hplain) hsw).wk fun D σ H ⟨B, env, S, E, R, h, k⟩ => by
    have at0 : ∃ p0 kvs0, σ[i]? = some (some (.ref p0)) ∧ H p0 = some (.dK kvs0) := by
      have h1 := h.1
      unfold ownD at h1
      split at h1
      · rename_i ds e0
        obtain ⟨p0, kvs0, a, _, _, b, _⟩ := ob_dict (sv := .own true (.dict ds)) R trivial rfl h1 e0
        exact ⟨p0, kvs0, a, b⟩
      · rename_i ds e0
        obtain ⟨p0, kvs0, a, _, _, b, _⟩ := ob_dict (sv := .bor (.dict ds)) R trivial rfl h1 e0
        exact ⟨p0, kvs0, a, b⟩
      · exact h1.elim
    obtain ⟨p0, kvs0, a0, h0⟩ := at0
    refine ⟨.ref p0, a0, .inr (.inr (.inl ⟨rfl, .inl ⟨_, h0⟩⟩)), B, env, S, _, R, h.2, fun d e1 q v S1 H1 st R1 dv => ?_⟩
    have fin : ∀ {sv : SV} {ds es : List (Da × Da)} {P : Prop}, OB sv → dat sv = .dict ds → d = .dict es → e1[i]? = some sv → isTm ds = false → isTm es = false → ds.length + es.length ≤ 1000000 → E.nx (e1.set i (kin sv (.dict (updD ds es)))) → (∀ b kvs more, v = .ref b → H1 p0 = some (.dK kvs) → Rd H1 b (.dK more) → p0 ≠ b → kvs.length + more.length ≤ sizeLine → D.nx σ (upd H1 p0 (.dK (mergeK kvs more))) → P) → P := fun {sv ds es P} ob ed e2 e3 t1 t2 hl hn g => by
      obtain ⟨p1, kvs, b1, b2, b3, b4, b5⟩ := ob_dict R1 ob ed t1 e3
      rw [a0] at b1; cases b1
      subst e2
      cases dv with
      | @dk b more _ hs ha =>
        refine g b kvs more rfl b4 (.inl (R1.w.sub _ _ hs)) (fun z => by rw [z] at b3; rw [b3] at hs; cases hs) (by rw [b5.len, ha.len]; exact le_sz hl) (k.nx _ _ S1 _ hn (R1.chgK ob e3 a0 b2 b3 (.dk (upd_dk ha b5))) st.s.1)
      | dt _ _ => cases t2
      | scr _ => cases t2
      | pr _ _ => cases t2
    split at q
    · rename_i ds es e2
      exact fin (sv := .own true (.dict ds)) trivial rfl rfl e2 q.1 q.2.1 q.2.2.1 q.2.2.2 fun b kvs more e b4 hb ne hz g => ⟨p0, b, kvs, more, rfl, by rw [e], b4, hb, ne, hz, g⟩
    · rename_i ds es e2
      exact fin (sv := .bor (.dict ds)) trivial rfl rfl e2 q.1 q.2.1 q.2.2.1 q.2.2.2 fun b kvs more e b4 hb ne hz g => ⟨p0, b, kvs, more, rfl, by rw [e], b4, hb, ne, hz, g⟩
    · exact q.elim
end
end Pq

set_option Elab.async false
set_option linter.all false
set_option maxRecDepth 100000
set_option maxHeartbeats 4000000
namespace Pq
open PySem PySem.Spec PyProof.Rows L2
/-! ### sorted(set(xs)), texts or numbers -/
def kOf (e : Int × Value) : L2.Key := match e.2 with
  | .int i _ => .inl i
  | .str x _ => .inr x
  | _ => .inl 0
theorem kOf_is {e : Int × Value} {k : L2.Key} (h : keyIs k e.2 = true) : kOf e = k := by
  unfold kOf
  rcases keyIs_shape h with ⟨i, t, rfl, q⟩ | ⟨x, t, rfl, q⟩ <;> rw [q]
section
variable {P : Program} {w : World}
def GoodK (P : Program) (w : World) (e : Int × Value) : Prop := keyIs (kOf e) e.2 = true ∧ e.1 = (mixKind P w).hash (kOf e) ∧ e.2.scannable = true
/-- a set, the keys put in so far -/
def SKR (P : Program) (w : World) (h : Heap) (a : Addr) (L : List L2.Key) : Prop :=
  ∃ ob rows ep tb, h.get? a = some ob ∧ ob.ExactSet ∧ ob.data = .set rows ep tb ∧ (∀ e ∈ rows.toList, GoodK P w e) ∧ (rows.toList.map kOf).Nodup ∧ (∀ k, k ∈ L ↔ k ∈ rows.toList.map kOf) ∧
    rows.size ≤ L.length ∧ tb.fits rows.size = true ∧ L2.Ris tb.place.toList ∧ (w.params.followText "set-order" = true ∨ tb.led = true)
theorem SKR.keep {h h' : Heap} {a : Addr} {L : List L2.Key} (R : SKR P w h a L) (k : ∀ o, h.get? a = some o → h'.get? a = some o) : SKR P w h' a L := by
  obtain ⟨ob, rows, ep, tb, ho, r⟩ := R
  exact ⟨ob, rows, ep, tb, k ob ho, r⟩
theorem goodK_el {l : List (Int × Value)} (g : ∀ e ∈ l, GoodK P w e) : ElemsOf (mixKind P w) l := fun e he => ⟨⟨_, (g e he).1, (g e he).2.1⟩, (g e he).2.2⟩
theorem goodK_mem {l : List (Int × Value)} (g : ∀ e ∈ l, GoodK P w e) (k : L2.Key) : k ∈ l.map kOf ↔ ∃ e ∈ l, (mixKind P w).is k e.2 = true := by
  rw [List.mem_map]
  constructor
  · rintro ⟨e, he, rfl⟩
    exact ⟨e, he, (g e he).1⟩
  · rintro ⟨e, he, q⟩
    exact ⟨e, he, kOf_is q⟩
variable {A : Around} {E : Value → Shared → Prop} {s : Shared} {a : Addr} {L : List L2.Key}
theorem skr_tail {g : Bool → Sem Unit} (hg : ∀ (b : Bool) (s₁ : Shared) (Q' : Unit → Shared → Prop), Q' () s₁ → wpAny (model P w) A (g b) Q' E s₁)
    {ob : Obj} {rows : Array (Int × Value)} {ep : Nat} {tb : SetTable} (ho : s.heap.get? a = some ob) (hx : ob.ExactSet) (hd : ob.data = .set rows ep tb)
    {rows1 : Array (Int × Value)} {tb2 : SetTable} {L' : List L2.Key} (g1 : ∀ e ∈ rows1.toList, GoodK P w e) (n1 : (rows1.toList.map kOf).Nodup) (m1 : ∀ k, k ∈ L' ↔ k ∈ rows1.toList.map kOf)
    (z1 : rows1.size ≤ L'.length) (z2 : rows1.size < scanBound) (f2 : tb2.fits rows1.size = true) (r2 : L2.Ris tb2.place.toList) (l2 : w.params.followText "set-order" = true ∨ tb2.led = true) {wasDummy : Bool} {R : Option Bool → Shared → Prop}
    (hR : ∀ h', Heap.SameBut a s.heap h' → SKR P w h' a L' → R (some true) { s with heap := h' }) :
    wpAny (model P w) A (do
        storeSet a rows1 tb2
        if (!wasDummy && tb2.tooFull) = true then do
            g (relayAll tb2 rows1 (SetTable.grown rows1.size)).2.2
            storeSet a (relayAll tb2 rows1 (SetTable.grown rows1.size)).1 (relayAll tb2 rows1 (SetTable.grown rows1.size)).2.1
            pure (some true)
          else pure (some true)) R E s := by
  refine wpAny_bind (wpAny_storeSet_of ho hd ?_ (fits_of_scanBound z2))
  have o1 := store_at (es' := rows1) (t' := tb2) ho hd
  have b1 := Heap.SameBut.update s.heap a (Obj.putSet rows1 tb2)
  split
  · have p3 := relayAll_perm tb2 rows1 (SetTable.grown rows1.size)
    have f3 := relayAll_fits tb2 rows1 (SetTable.grown rows1.size)
    have r3 := relayAll_ris tb2 rows1 (SetTable.grown rows1.size)
    have l3 := relayAll_led tb2 rows1 (SetTable.grown rows1.size)
    generalize relayAll tb2 rows1 (SetTable.grown rows1.size) = Z at p3 f3 r3 l3 ⊢
    obtain ⟨rows2, tb3, gave⟩ := Z
    dsimp only at p3 f3 r3 l3 ⊢
    have z3 : rows2.size = rows1.size := by
      have := p3.length_eq
      rwa [Array.length_toList, Array.length_toList] at this
    refine wpAny_bind (hg _ _ _ ?_)
    refine wpAny_bind (wpAny_storeSet_of o1 rfl ?_ (fits_of_scanBound (by rw [z3]; exact z2)))
    have o2 := store_at (es' := rows2) (t' := tb3) o1 rfl
    refine wpAny_pure (hR _ (b1.trans (Heap.SameBut.update _ a _)) ⟨_, rows2, _, tb3, o2, hx, rfl, fun e he => g1 e (p3.mem_iff.mp he), (p3.map kOf).nodup_iff.mpr n1, fun k => (m1 k).trans (p3.map kOf).mem_iff.symm, by rw [z3]; exact z1, f3, r3, ?_⟩)
    exact l2.imp id fun z => by rw [l3]; exact z
  · exact wpAny_pure (hR _ b1 ⟨_, rows1, _, tb2, o1, hx, rfl, g1, n1, m1, z1, f2, r2, l2⟩)
theorem skr_add {k : L2.Key} {v : Value} (hk : keyIs k v = true) (hv : v.scannable = true) {Q : Bool → Shared → Prop} (R : SKR P w s.heap a L) (few : L.length < 64)
    (hQ : ∀ h' b, Heap.SameBut a s.heap h' → SKR P w h' a (k :: L) → Q b { s with heap := h' }) :
    wpAny (model P w) A (setAddHashed a v ((mixKind P w).hash k)) Q E s := by
  obtain ⟨ob, rows, ep, tb, ho, hx, hd, gd, nd, mb, sz, ft, rs, ld⟩ := R
  have key : (mixKind P w).is k v = true := hk
  have el : ElemsOf (mixKind P w) rows.toList := goodK_el gd
  have bd : rows.size < scanBound := by unfold scanBound; omega
  unfold setAddHashed setAddHashedIn
  refine wpAny_holding (wpAny_bind (wpAny_setState_of ho hd ft ?_))
  dsimp only
  rw [byScan_of hv bd el]
  simp only [↓reduceIte]
  unfold setAddByScan
  refine wpAny_bind (wpAny_bind (wpAny_rule ?_))
  refine wpAny_bind (wpAny_setScan_of key ho hd ft el ?_)
  cases fi : List.findIdx? (fun e => (mixKind P w).is k e.2) rows.toList with
  | some j =>
    dsimp only
    obtain ⟨hj, pj, _⟩ := List.findIdx?_eq_some_iff_getElem.mp fi
    have hm := (goodK_mem gd k).2 ⟨rows.toList[j], List.getElem_mem hj, pj⟩
    refine wpAny_pure (wpAny_pure (hQ s.heap _ (Heap.SameBut.refl a s.heap) ⟨ob, rows, ep, tb, ho, hx, hd, gd, nd, fun i => ?_, by rw [List.length_cons]; omega, ft, rs, ld⟩))
    rw [List.mem_cons, mb i]
    exact ⟨fun z => z.elim (fun e => e ▸ hm) id, .inr⟩
  | none =>
    dsimp only
    have hn : k ∉ rows.toList.map kOf := fun z => by
      obtain ⟨e, he, q⟩ := (goodK_mem gd k).1 z
      have c := List.findIdx?_eq_none_iff.mp fi e he
      rw [q] at c
      cases c
    have gw : ∀ (b : Bool) {s₁ : Shared} {Q' : Unit → Shared → Prop}, Q' () s₁ → wpAny (model P w) A (match b with | true => rule "set.scan.the-table-gave-way" | false => pure ()) Q' E s₁ :=
      fun b s₁ Q' q => by cases b <;> first | exact wpAny_pure q | exact wpAny_rule q
    have p1 := layNew_perm tb rows ((mixKind P w).hash k) v
    have f1 := layNew_fits tb rows ((mixKind P w).hash k) v
    have r1 := layNew_ris tb rows ((mixKind P w).hash k) v rs
    have l1 := layNew_led tb rows ((mixKind P w).hash k) v
    generalize layNew tb rows ((mixKind P w).hash k) v = Z at p1 f1 r1 l1 ⊢
    obtain ⟨rows1, tb1, wasDummy, gave⟩ := Z
    dsimp only at p1 f1 r1 l1 ⊢
    rw [Array.toList_push] at p1
    have pc : rows1.toList.Perm (((mixKind P w).hash k, v) :: rows.toList) := p1.trans (List.perm_append_singleton _ _)
    have ek : kOf ((mixKind P w).hash k, v) = k := kOf_is hk
    have pk : (rows1.toList.map kOf).Perm (k :: rows.toList.map kOf) := by
      have := pc.map kOf
      rwa [List.map_cons, ek] at this
    have g1 : ∀ e ∈ rows1.toList, GoodK P w e := fun e he => by
      rcases List.mem_cons.mp (pc.mem_iff.mp he) with z | z
      · subst z
        exact ⟨by rw [ek]; exact hk, by rw [ek], hv⟩
      · exact gd e z
    have n1 : (rows1.toList.map kOf).Nodup := pk.nodup_iff.mpr (List.nodup_cons.mpr ⟨hn, nd⟩)
    have m1 : ∀ i, i ∈ k :: L ↔ i ∈ rows1.toList.map kOf := fun i => by rw [pk.mem_iff, List.mem_cons, List.mem_cons, mb i]
    have s1 : rows1.size = rows.size + 1 := by
      have := pc.length_eq
      rwa [Array.length_toList, List.length_cons, Array.length_toList] at this
    have z1 : rows1.size ≤ (k :: L).length := by rw [List.length_cons]; omega
    have z2 : rows1.size < scanBound := by unfold scanBound; omega
    have l1' : w.params.followText "set-order" = true ∨ tb1.led = true := ld.imp id fun z => by rw [l1]; exact z
    refine wpAny_bind (gw _ ?_)
    split
    · refine wpAny_bind ?_
      rw [hashByValue_scannable 8 hv]
      refine wpAny_pure ?_
      refine skr_tail ?_ ho hx hd g1 n1 m1 z1 z2 ?_ ?_ ?_ ?_
      · intro b s₁ Q' q; cases b <;> first | exact wpAny_pure q | exact wpAny_rule q
      · first | (split <;> first | exact f1 | exact SetTable.fits_plain_off f1) | exact f1
      · first | (split <;> exact r1) | exact r1
      · first | (split <;> exact l1') | exact l1'
      · intro h' sb r; dsimp only; exact wpAny_pure (hQ h' _ sb r)
    · refine wpAny_bind (wpAny_pure ?_)
      simp only [↓reduceIte]
      refine skr_tail ?_ ho hx hd g1 n1 m1 z1 z2 f1 r1 l1' ?_
      · intro b s₁ Q' q; cases b <;> first | exact wpAny_pure q | exact wpAny_rule q
      · intro h' sb r; dsimp only; exact wpAny_pure (hQ h' _ sb r)
end
/-- the loop that fills -/
theorem skr_loop {P : Program} {w : World} {A : Around} {I : Addr} {fp wr : List Addr} {G : Array GenState → Array GenState → Prop} {n : Nat} {Pv : Nat → Value → Prop} {St : Nat → Shared → Prop} {R : Result → Shared → Prop}
    (W : WalksS P w A.in1 I fp wr G n Pv St) (D : Addr) (hD : D ∉ fp) (ks : List L2.Key) (hn : n = ks.length) (few : ks.length < 64) (hval : ∀ i v, Pv i v → ∃ k, ks[i]? = some k ∧ keyIs k v = true) :
    ∀ (m i : Nat) (s : Shared), n - i = m → i ≤ n → St i s → SKR P w s.heap D (ks.take i).reverse →
      (∀ s', Moved (D :: wr) G s s' → SKR P w s'.heap D ks.reverse → R (.ok (.ret .none)) s') →
      codeAny (model P w) A (.builtin "set.update.loop" ⟨[.ref D, .ref I], []⟩) R s := by
  have hDw : D ∉ wr := fun h => hD (W.sub _ h)
  have sub : ∀ b ∈ wr, b ∈ D :: wr := fun b hb => List.mem_cons_of_mem _ hb
  intro m
  induction m with
  | zero =>
    intro i s hm hi hst hS hR
    have hin : i = n := by omega
    subst hin
    refine codeAny_builtin PyProof.Rows.F.entry_set_update_loop ?_
    rw [Around.under_plainId PyProof.Rows.F.plain_set_update_loop _]
    show wpAny _ A.in1 (pyNext (.ref I) >>= _) _ _ s
    refine wpAny_bind (W.done s _ _ hst fun s' mv => ?_)
    show wpAny _ A.in1 (ret Value.none) _ _ s'
    rw [hn, List.take_length] at hS
    exact wpAny_pure (hR s' (mv.mono sub) (hS.keep fun o e => mv.heap D o hDw e))
  | succ m ih =>
    intro i s hm hi hst hS hR
    have hlt : i < n := by omega
    refine codeAny_builtin PyProof.Rows.F.entry_set_update_loop ?_
    rw [Around.under_plainId PyProof.Rows.F.plain_set_update_loop _]
    show wpAny _ A.in1 (pyNext (.ref I) >>= _) _ _ s
    refine wpAny_bind (W.item i s _ _ hlt hst fun v s' hP hst' mv => ?_)
    obtain ⟨k, hk, hkv⟩ := hval i v hP
    have hS' : SKR P w s'.heap D (ks.take i).reverse := hS.keep fun o e => mv.heap D o hDw e
    have hsc : v.scannable = true := by
      rcases keyIs_shape hkv with ⟨j, t, rfl, rfl⟩ | ⟨x, t, rfl, rfl⟩ <;> rfl
    have et : (ks.take (i + 1)).reverse = k :: (ks.take i).reverse := by
      rw [List.take_add_one, hk]
      simp
    show wpAny _ A.in1 (holding [v] (setAdd D v) >>= _) _ _ s'
    refine wpAny_bind (wpAny_holding ?_)
    unfold setAdd
    refine wpAny_holding ?_
    refine wpAny_bind ((mixKind P w).pyHash hkv ?_)
    refine skr_add (s := { s' with toks := s'.toks + 1 }) hkv hsc hS' (by rw [List.length_reverse, List.length_take]; omega) fun h' b hsb hS2 => ?_
    refine wpAny_pure ⟨plainId_quiet PyProof.Rows.F.plain_set_update_loop _, ih (i + 1) _ (by omega) hlt (W.frame _ s' _ _ hst' (Nat.le_succ _) fun b hb o e => ?_) (by rw [et]; exact hS2) fun s'' mv2 hS3 => ?_⟩
    · rw [hsb.2 b (fun z : b = D => hD (by rw [← z]; exact hb))]; exact e
    · refine hR s'' (Moved.trans W.gtrans ((mv.mono sub).then_heap (Nat.le_succ _) fun b o hb e => ?_) mv2) hS3
      rw [hsb.2 b (fun z : b = D => hb (by rw [z]; exact List.mem_cons_self))]; exact e
abbrev sNew (w : World) : Obj := { cls := .type "set", dict := none, data := .set #[] 0 (.fresh 0 0 (!w.params.followText "set-order")) }
theorem skr_new {P : Program} {w : World} {h : Heap} {a : Addr} (e : h.get? a = some (sNew w)) : SKR P w h a [] :=
  ⟨_, #[], 0, _, e, ⟨rfl, rfl, rfl⟩, rfl, (fun e he => by simp at he), (by simp), (fun k => by simp), (by simp), (by rfl), List.Pairwise.nil, by
    show _ ∨ (!w.params.followText "set-order") = true
    cases w.params.followText "set-order"
    · exact .inr rfl
    · exact .inl rfl⟩
section
variable {P : Program} {w : World} {A : Around} {E : Value → Shared → Prop} {s : Shared}
set_option maxRecDepth 100000 in
set_option maxHeartbeats 8000000 in
theorem skr_call {l : Addr} {items : Array Value} (ks : List L2.Key) {Q : Value → Shared → Prop} (hh : A.handled = none) (hl : s.heap.IsList l items) (hz : items.size = ks.length)
    (hk : ∀ (i : Nat) (v : Value), items[i]? = some v → ∃ k, ks[i]? = some k ∧ keyIs k v = true) (few : ks.length < 64)
    (h : ∀ (h' : Heap) (tk : Nat), SKR P w h' s.heap.objs.size ks.reverse → (∀ b o, s.heap.get? b = some o → h'.get? b = some o) → Q (.ref s.heap.objs.size) { s with heap := h', toks := tk }) :
    wpAny (model P w) A (call (.type "set") [.ref l]) Q E s := by
  obtain ⟨c, tl, hmro⟩ := PySem.F.called_set.mro
  have made := PySem.F.called_set.made
  have under := PySem.F.called_set.sub
  refine wpAny_call (codeAny_of_tree ?_)
  show wpAny _ _ (callAny (.type "set") _) _ _ _
  refine wpAny_pure ⟨Code.quiet_builtin _ (by decide +kernel), codeAny_builtin PySem.F.entry_type_call ?_⟩
  rw [Around.under_plain (weight_type_call_type "set" [.ref l] []) rfl]
  have x1 := PySem.F.called_set.notType
  have x2 := PySem.F.called_set.canCreate
  have x3 := PySem.F.typeCall_set_1 (.ref l)
  repeat (any_goals (first | assumption | wp_step))
  refine codeAny_mono (code_set_led1 (.ref l) (E := E) (Q₁ := fun obj s₁ => obj = .ref s.heap.objs.size ∧ s₁ = { s with heap := s.heap.push (sNew w) }) ⟨rfl, rfl⟩) fun r s₁ hr => ?_
  cases r with
  | error e => exact hr
  | ok fl =>
    cases fl with
    | ret obj =>
      obtain ⟨rfl, rfl⟩ := hr
      have at0 : (s.heap.push (sNew w)).get? s.heap.objs.size = some (sNew w) := Heap.get?_push_size _ rfl
      have ty : Shared.TypeIs { s with heap := s.heap.push (sNew w) } (.ref s.heap.objs.size) "set" := ⟨_, at0, rfl⟩
      have y1 := PySem.F.called_set.init.lookup
      have y2 := PySem.F.called_set.init.bind (.ref s.heap.objs.size)
      repeat (any_goals (first | assumption | wp_step))
      refine codeAny_mono (codeAny_call_builtin (R := wants (fun r s₂ => r = .none ∧ ∃ h' tk, s₂ = { s with heap := h', toks := tk } ∧ SKR P w h' s.heap.objs.size ks.reverse ∧
          (∀ b o, s.heap.get? b = some o → h'.get? b = some o)) E) PySem.F.called_set.init.plain PySem.F.entry_set_init (check_set_init_1 ty ?_)) fun r₂ s₂ hr₂ => ?_
      · obtain ⟨ol, hol, hcl, nl, hdl⟩ := hl
        obtain ⟨ocls, odict, odata, oslots⟩ := ol
        simp only at hcl hdl
        subst hcl; subst hdl
        have hol' : (s.heap.push (sNew w)).get? l = some { cls := .type "list", dict := odict, data := .seq items nl, slots := oslots } := Heap.get?_push_of_some _ hol
        have q1 := PySem.F.sub_list_set
        have q2 := PySem.F.sub_list_frozenset
        have q3 : (Value.type "list" == Value.type "dict") = false := by decide
        have il : (s.heap.push (sNew w)).IsList l items := ⟨_, hol', rfl, nl, rfl⟩
        unfold Builtin.«set.__init__» noKeywords Builtin.Frozenset.updateFrom
        generalize hPI : pyIter = PI
        wp_walk
        subst hPI
        refine wpAny_pyIter_list il ?_
        refine wpAny_bind (wpAny_runValue ?_)
        have lt : l < s.heap.objs.size := Heap.lt_size hol
        have h3 : A.in1.in1.in1.handled = none := by simp [hh]
        have ne : l ≠ (s.heap.push (sNew w)).objs.size := by rw [Heap.size_push]; exact Nat.ne_of_lt (Nat.lt_succ_of_lt lt)
        have off : s.heap.objs.size ∉ [(s.heap.push (sNew w)).objs.size, l] := by
          rw [Heap.size_push]
          intro z
          rcases List.mem_cons.mp z with z | z
          · exact Nat.ne_of_lt (Nat.lt_succ_self _) z
          · exact Nat.ne_of_gt lt (List.mem_singleton.mp z)
        have none_of : ∀ b, s.heap.objs.size ≤ b → s.heap.get? b = none := fun b hb => by
          cases q : s.heap.get? b with
          | none => rfl
          | some o => exact absurd (Nat.lt_of_lt_of_le (Heap.lt_size q) hb) (Nat.lt_irrefl _)
        refine skr_loop ((Walks.list h3 _ l ne items).toS) s.heap.objs.size off ks hz few hk (items.size - 0) 0 _ (by omega) (Nat.zero_le _) ⟨⟨_, Heap.get?_push_size _ rfl, rfl, rfl⟩, (il.push _)⟩ ?hS0 ?hR
        case hS0 => exact skr_new (Heap.get?_push_of_some _ at0)
        case hR =>
          intro s' mv hS'
          obtain ⟨h', g2, d', tk', os'⟩ := s'
          have eg : g2 = s.gens := mv.gens
          have ed : d' = s.drawn := mv.drawn
          have eo : os' = s.os := mv.os
          subst eg; subst ed; subst eo
          show wpAny _ _ _ _ _ _
          refine wpAny_pure ?_
          show wpAny _ _ (ret Value.none) _ _ _
          refine wpAny_pure ⟨rfl, h', tk', rfl, hS', fun b o e => ?_⟩
          have hb := Heap.lt_size e
          refine mv.heap b o (fun z => ?_) (Heap.get?_push_of_some _ (Heap.get?_push_of_some _ e))
          rcases List.mem_cons.mp z with z | z
          · exact Nat.ne_of_lt hb z
          · have := List.mem_singleton.mp z
            rw [Heap.size_push] at this
            exact Nat.ne_of_lt (Nat.lt_succ_of_lt hb) this
      · cases r₂ with
        | error e => exact hr₂
        | ok fl₂ =>
          cases fl₂ with
          | ret r =>
            obtain ⟨rfl, h', tk, rfl, hS', hk'⟩ := hr₂
            repeat (any_goals (first | assumption | wp_step))
            exact h _ _ hS' hk'
          | _ => exact hr₂.elim
    | _ => exact hr.elim
end
end Pq
namespace Pq
open PySem PySem.Spec PyProof.Rows L2
section
variable {P : Program} {w : World} {A : Around} {E : Value → Shared → Prop} {s : Shared} {a : Addr}
theorem strs_of_keys : ∀ (l : List Value), (∀ v ∈ l, ∃ x : Str, keyIs (.inr x) v = true) → ∃ xs : List Str, StrsAre l xs ∧ l.map (fun v => kOf (0, v)) = xs.map Sum.inr
  | [], _ => ⟨[], .nil, rfl⟩
  | v :: l, h => by
    obtain ⟨x, hx⟩ := h v List.mem_cons_self
    obtain ⟨xs, h1, h2⟩ := strs_of_keys l fun u hu => h u (List.mem_cons_of_mem _ hu)
    rcases keyIs_shape hx with ⟨j, t, e, _⟩ | ⟨y, t, e, rfl⟩
    · cases e
    · cases e
      exact ⟨x :: xs, .cons x t h1, by rw [List.map_cons, List.map_cons, h2]; rfl⟩
theorem ints_of_keys : ∀ (l : List Value), (∀ v ∈ l, ∃ x : Int, keyIs (.inl x) v = true) → ∃ xs : List Int, IntsAre l xs ∧ l.map (fun v => kOf (0, v)) = xs.map Sum.inl
  | [], _ => ⟨[], .nil, rfl⟩
  | v :: l, h => by
    obtain ⟨x, hx⟩ := h v List.mem_cons_self
    obtain ⟨xs, h1, h2⟩ := ints_of_keys l fun u hu => h u (List.mem_cons_of_mem _ hu)
    rcases keyIs_shape hx with ⟨y, t, e, rfl⟩ | ⟨j, t, e, _⟩
    · cases e
      exact ⟨x :: xs, .cons x t h1, by rw [List.map_cons, List.map_cons, h2]; rfl⟩
    · cases e
theorem kOf_snd (e : Int × Value) : kOf (0, e.2) = kOf e := rfl
/-- the members, in whatever order -/
theorem skr_members {L : List L2.Key} {rows : Array (Int × Value)} {vs : List Value} (gd : ∀ e ∈ rows.toList, GoodK P w e) (nd : (rows.toList.map kOf).Nodup) (mb : ∀ k, k ∈ L ↔ k ∈ rows.toList.map kOf)
    (pm : vs.Perm (rows.toList.map (·.2))) : (vs.map fun v => kOf (0, v)).Nodup ∧ (∀ k, k ∈ vs.map (fun v => kOf (0, v)) ↔ k ∈ L) ∧ ∀ v ∈ vs, ∃ k ∈ L, keyIs k v = true := by
  have p1 := pm.map fun v => kOf (0, v)
  rw [List.map_map] at p1
  have p2 : (vs.map fun v => kOf (0, v)).Perm (rows.toList.map kOf) := p1
  refine ⟨p2.nodup_iff.mpr nd, fun k => by rw [p2.mem_iff, mb k], fun v hv => ?_⟩
  obtain ⟨e, he, rfl⟩ := List.mem_map.mp (pm.mem_iff.mp hv)
  exact ⟨kOf e, (mb _).mpr (List.mem_map_of_mem he), (gd e he).1⟩
theorem nodup_inj {α β : Type} {f : α → β} (hf : ∀ x y, f x = f y → x = y) : ∀ {l : List α}, (l.map f).Nodup → l.Nodup
  | [], _ => List.Pairwise.nil
  | x :: l, h => by
    rw [List.map_cons, List.nodup_cons] at h
    exact List.nodup_cons.mpr ⟨fun m => h.1 (List.mem_map_of_mem m), nodup_inj hf h.2⟩
theorem skr_sortS {xs : List Str} {Q : Value → Shared → Prop} (R : SKR P w s.heap a (xs.map Sum.inr).reverse) (hh : A.handled = none) (few : xs.length < 64)
    (hQ : ∀ s' p (out : Array Value) (c : Nat) (ys : List Str), (∀ b o, s.heap.get? b = some o → s'.heap.get? b = some o) → s'.gens = s.gens → s'.os = s.os → s.heap.objs.size ≤ p →
      s'.heap.get? p = some (seqObj "list" out c) → StrsAre out.toList ys → ys.Nodup → (∀ x, x ∈ ys ↔ x ∈ xs) → sortedS ys = true → ys.length ≤ xs.length → Q (.ref p) s') :
    wpAny (model P w) A (call (.builtin "sorted") [.ref a]) Q E s := by
  obtain ⟨ob, rows, ep, tb, ho, hx, hd, gd, nd, mb, sz, ft, rs, ld⟩ := R
  rw [List.length_reverse, List.length_map] at sz
  refine Calls.call_function_entry kind_sorted plain_sorted entry_sorted (args_sorted1 _) ?_
  unfold Builtin.«sorted»
  refine wpAny_bind (m := checkCount "sorted" 1 1 _) (wpAny_pure ?_)
  refine wpAny_bind (collect_set (A := A.in1) hh ⟨ob, ho, hx.1, hd⟩ ft (by unfold scanBound; omega) rs ld fun s1 vs k1 hz g1 o1 pm => ?_)
  have vl : vs.length ≤ xs.length := by rw [pm.length_eq, List.length_map, Array.length_toList]; exact sz
  obtain ⟨n0, m0, e0⟩ := skr_members (P := P) (w := w) gd nd mb pm
  obtain ⟨zs, hS, ez⟩ := strs_of_keys vs fun v hv => by
    obtain ⟨k, hk, q⟩ := e0 v hv
    rw [List.mem_reverse] at hk
    obtain ⟨x, _, rfl⟩ := List.mem_map.mp hk
    exact ⟨x, q⟩
  rw [ez] at n0 m0
  have nz : zs.Nodup := nodup_inj (fun x y e => by cases e; rfl) n0
  have mz : ∀ x, x ∈ zs ↔ x ∈ xs := fun x => by
    have := m0 (.inr x)
    rw [List.mem_reverse] at this
    constructor
    · intro hx
      obtain ⟨y, hy, e⟩ := List.mem_map.mp (this.mp (List.mem_map_of_mem hx))
      cases e; exact hy
    · intro hx
      obtain ⟨y, hy, e⟩ := List.mem_map.mp (this.mpr (List.mem_map_of_mem hx))
      cases e; exact hy
  refine wpAny_bind (wpAny_newList ?_ (by rw [sizeLine_eq]; omega))
  have oL : (s1.heap.push (seqObj "list" vs.toArray 0)).get? s1.heap.objs.size = some (seqObj "list" vs.toArray 0) := Heap.get?_push_size _ rfl
  refine wpAny_bind (wpAny_holding (wpAny_call_entry slot_list_sort ⟨_, oL, rfl⟩ entry_list_sort (list_sort_treeK strKind_oneLt oL hS.keysOf (fun v₁ v₂ rest e => keyKind_strs (by rw [← e]; exact hS)) (by omega) fun st' hp hs => ⟨_, rfl, ?_⟩) (args_list_sort _)))
  obtain ⟨ys, q1, q2, q3⟩ := sorted_out_str hS hp hs
  obtain ⟨c, hc⟩ := sortedHeap_at (vs := vs) (out := (arrOf st').map (·.2)) oL
  refine wpAny_pure ⟨_, rfl, hQ _ s1.heap.objs.size _ c ys (fun b u e => ?_) g1 o1 hz hc q1 (q2.nodup_iff.mpr nz) (fun x => by rw [q2.mem_iff, mz x]) q3 ?_⟩
  · have q := k1 b u e
    have hlt := Heap.lt_size q
    show (sortedHeap (s1.heap.push (seqObj "list" vs.toArray 0)) s1.heap.objs.size vs _).get? b = some u
    rw [sortedHeap_old (Nat.ne_of_lt hlt) (by rw [size_push']; exact Nat.lt_succ_of_lt hlt)]
    exact Heap.get?_push_of_some _ q
  · have := congrArg List.length ez
    rw [List.length_map, List.length_map] at this
    rw [q2.length_eq, ← this]
    exact vl
end
def SKO (P : Program) (w : World) (a : Addr) (L : List L2.Key) : HO := .ext fun h => SKR P w h a L
theorem sko_new {P : Program} {w : World} {H : Hp} {h : Heap} {a : Addr} {L : List L2.Key} (R : SKR P w h a L) : ObjOk P w H h a (SKO P w a L) := by
  have ⟨ob, _, _, _, ho, _⟩ := R
  exact ⟨R, ⟨ob, ho⟩, fun h1 h2 p k => SKR.keep p k⟩
section
variable {X : Cx}
theorem vals_keys (X : Cx) : ∀ {ks : List L2.Key} {us : List Value} {i : Nat} {v : Value}, Vals (ks.map kV) us → us[i]? = some v → ∃ k, ks[i]? = some k ∧ keyIs k v = true
  | [], _, i, v, .nil, e => by simp at e
  | k :: ks, _, 0, v, .cons r t, e => by
    simp at e; subst e
    exact ⟨k, rfl, kV_is (P := X.prog) (w := X.w) r⟩
  | k :: ks, _, i + 1, v, .cons r t, e => by
    obtain ⟨k', a, b⟩ := vals_keys X (i := i) t (by simpa using e)
    exact ⟨k', by simpa using a, b⟩
def rSetK (K : PySem.W.Frag) (P : Program) (w : World) : List V → Hp → VK → Prop := fun xs H Q => ∃ (l : Addr) (ks : List L2.Key), xs = [V.ref l] ∧ SqL K H l (ks.map kV) ∧ ks.length < 64 ∧ ∀ a, H a = none → Q (.ref a) (upd H a (SKO P w a ks.reverse))
theorem cr_setK (hc : X.calm = true) : CallR X (.type "set") (rSetK X.K X.prog X.w) := by
  intro pins s σ H xs us Q I r h
  obtain ⟨l, ks, rfl, hl, hf, q⟩ := h
  rw [Vals.ref1 r]
  obtain ⟨its, rv, pl, hz⟩ := I.list hl
  have hlen := rv.length
  rw [List.length_map] at hlen
  refine skr_call (P := X.prog) (w := X.w) ks (I.ok.hd hc) pl.isList (by simpa using hlen.symm) (fun i v e => vals_keys X rv (by simpa using e)) hf fun h' tk R k => ?_
  exact ⟨.ref s.heap.objs.size, upd H s.heap.objs.size (SKO X.prog X.w s.heap.objs.size ks.reverse), I.laid (t' := tk) k (Nat.le_refl _) (sko_new R), rfl, q _ (I.hok.fresh (Nat.le_refl _))⟩
def rSortK (P : Program) (w : World) : List V → Hp → VK → Prop := fun vs H Q => ∃ (a : Addr) (xs : List Str), vs = [V.ref a] ∧ H a = some (SKO P w a (xs.map Sum.inr).reverse) ∧ xs.length < 64 ∧
  ∀ (ys : List Str) (p : Addr), ys.Nodup → (∀ x, x ∈ ys ↔ x ∈ xs) → sortedS ys = true → ys.length ≤ xs.length → H p = none → Q (.ref p) (upd H p (.lst (ys.map V.str)))
theorem cr_sortK (hc : X.calm = true) : CallR X (.builtin "sorted") (rSortK X.prog X.w) := by
  intro pins s σ H vs us Q I r h
  obtain ⟨a, xs, rfl, ha, few, q⟩ := h
  have R : SKR X.prog X.w s.heap a (xs.map Sum.inr).reverse := (I.hok a _ ha).1
  rw [Vals.ref1 r]
  refine skr_sortS R (I.ok.hd hc) few fun s' p out c ys k g o hp hg hs nd mm so le => ?_
  have hlen : (ys.map V.str).length ≤ sizeLine := by rw [List.length_map, sizeLine_eq]; omega
  have hn : H p = none := I.hok.fresh hp
  have J : L2.Inv X pins σ (upd H p (.lst (ys.map V.str))) { s with heap := s'.heap, gens := s'.gens, drawn := s'.drawn, toks := s'.toks } :=
    I.call (ch := []) (Un.laid k hp hn) (I.hok.laid k hp ⟨hlen, out.toList, c, vals_of_strs hs, hg⟩) (by rw [g]; exact I.bare) (fun _ z => nomatch z)
  have e : s' = { s with heap := s'.heap, gens := s'.gens, drawn := s'.drawn, toks := s'.toks } := by
    cases s'; cases s; cases o; rfl
  rw [e]
  exact ⟨.ref p, _, J, rfl, q ys p nd mm so le hn⟩
def fSoSe : Da → (SV → Prop) → Prop
  | .list ds, Q => ∃ xs : List Str, ds = xs.map .str ∧ xs.length < 64 ∧ ∀ ys : List Str, ys.Nodup → (∀ x, x ∈ ys ↔ x ∈ xs) → sortedS ys = true → ys.length ≤ xs.length → Q (.own true (.list (ys.map .str)))
  | _, _ => False
def mSoSe (m : MP) : ME := fun env Q => m env fun d e => fSoSe d fun r => Q r e
theorem de_sose {a : Expr} {p p2 pos pos2 : Pos} {m : MP} (hc : X.calm = true) (hu : X.A.units + 65 < cLine) (hg : Gl X "sorted") (hm : X.mg "sorted" = none) (hg2 : Gl X "set") (hm2 : X.mg "set" = none) (ha : DP X a m) (h1 : starEach [a] X.env = (false, eval a X.env) :: starEach [] X.env := by rfl)
    (h2 : starEach [.Call (.Name "set" p2) [a] [] pos2] X.env = (false, eval (.Call (.Name "set" p2) [a] [] pos2) X.env) :: starEach [] X.env := by rfl) (h3 : (backTo pos2 (starEach [] X.env)).any (·.1) = false := by rfl) (h4 : (backTo pos (starEach [] X.env)).any (·.1) = false := by rfl) :
    DE X (.Call (.Name "sorted" p) [.Call (.Name "set" p2) [a] [] pos2] [] pos) (mSoSe m) :=
  (pe_callB (cr_sortK hc) hg hm (by decide +kernel) (pa_cons (pe_callTy (cr_setK hc) hg2 hm2 (by decide +kernel) (pa_cons ha pa_nil h1) (by decide) (by decide) h1 h3) pa_nil h2) (by decide) (by decide) h2 h4).wk fun σ H Q ⟨B, env, S, Q0, R, h, k⟩ => by
    refine ⟨B, env, S, _, R, h, fun d e1 q v S1 H1 st1 R1 ip => ?_⟩
    unfold fSoSe at q
    split at q
    · rename_i ds
      obtain ⟨xs, rfl, few, q⟩ := q
      obtain ⟨l, us, rfl, hl, da⟩ := ip.lst R1.w
      have eu := strs_v da
      subst eu
      refine ⟨l, xs.map Sum.inr, rfl, ?_, by rw [List.length_map]; exact few, fun p1 hp1 => ?_⟩
      · rw [List.map_map]
        exact .inl hl
      · have R2 := R1.alloc (o := SKO X.prog X.w p1 (xs.map Sum.inr).reverse) hp1
        refine ⟨p1, xs, rfl, upd_same, few, fun ys p2 nd mm so le hp2 => ?_⟩
        have cl : Cl X.K B e1 S1 σ (upd H1 p1 (SKO X.prog X.w p1 (xs.map Sum.inr).reverse)) (fun r => r = .own true (.list (ys.map .str))) Q := fun r v S' H' q' st' R' ir => by
          subst q'
          exact k _ e1 (q ys nd mm so le) v S' H' ((st1.trans (stq_alloc hp1)).trans st') R' (ir.back R.w (st1.trans (stq_alloc hp1)))
        exact cl.newL R2 rfl (dq_strs ys) hp2
    · exact q.elim
end
/-- a call that is never made -/
theorem fnb_none {P : Program} {w : World} {K : PySem.W.Frag} {mg : Str → Option Value} {base : Heap} {k n : Nat} {f : Addr} {fd : FuncData} {ps : List Str} : FnG P w K mg base CX0 k f fd ps (spB K n fun _ _ => False) :=
  ⟨fun vs H Q E ⟨_, _, _, _, _, _, _, _, _, _, z, _⟩ => z.elim, fun A outs sh H ags us vs Q E _ _ _ _ ⟨_, _, _, _, _, _, _, _, _, _, z, _⟩ => z.elim⟩
end Pq

set_option Elab.async false
set_option linter.all false
set_option maxRecDepth 100000
set_option maxHeartbeats 4000000
namespace Pq
open PySem PySem.Spec PyProof.Rows L2
/-! ### what a slot knows alone is made stable ahead of a statement -/
def msFz (i : Nat) (m : MS) : MS := fun env E => match env[i]? with
  | some (.own true d) => m (env.set i (.val d)) E
  | _ => m env E
section
variable {X : Cx}
theorem dst_fz (i : Nat) {st : Stmt} {m : MS} (h : DSt X st m) : DSt X st (msFz i m) := h.wk fun D σ H ⟨B, env, S, E, R, hm, k⟩ => by
  unfold msFz at hm
  split at hm
  · rename_i d e
    obtain ⟨p, a, hB, hS, o, hp, hd⟩ := R.own i true d e
    obtain ⟨R', st⟩ := R.frz e a hp hd hB hS
    exact ⟨B, _, _, E, R', hm, k.up (st rfl).s.1⟩
  · exact ⟨B, env, S, E, R, hm, k⟩
/-- len(d) -/
def fLenD : List Da → (SV → Prop) → Prop
  | [.dict ds], Q => isTm ds = false ∧ Q (.val (.int ds.length))
  | _, _ => False
theorem cd_lenD : CallD X (.builtin "len") fLenD := by
  intro B env S σ H vs ds Q Q' R al h cl
  unfold fLenD at h
  split at h
  · rename_i ds
    obtain ⟨v, r, rfl, p1, r2⟩ := al
    cases (show r = [] from r2)
    obtain ⟨ht, q⟩ := h
    rcases p1 with p1 | ⟨p0, o, rfl, _, ho, hd⟩
    · cases p1 with
      | dk ha hd => exact ⟨_, call_lenD, _, _, rfl, R.w.sub _ _ ha, cl.val R (by rw [hd.len]; exact q) (.int _)⟩
      | dt _ _ => cases ht
      | scr _ => cases ht
      | pr _ _ => cases ht
    · cases hd with
      | dk hd => exact ⟨_, call_lenD, _, _, rfl, ho, cl.val R (by rw [hd.len]; exact q) (.int _)⟩
      | dt _ => cases ht
  · exact h.elim
end
end Pq

set_option Elab.async false
set_option linter.all false
set_option maxRecDepth 100000
set_option maxHeartbeats 4000000
namespace K36
open PySem PySem.Spec PyProof.Rows L2 Pq Lb
def top (i : Nat) : Stmt := PySem.Challenge.pw_pairedthrows_k36_needed_and_idle.main.body.getD i (.Pass ⟨0, 0, 0, 0⟩)
abbrev c_THROWS : Da := .tuple [.str "ladder", .str "flat", .str "choose", .str "first"]
abbrev s_blocks_in : Stmt := top 2
abbrev N_blocks_in : List Str := ["row"]
theorem sc_blocks_in : FnScope N_blocks_in ["row"] (defScope s_blocks_in) := ⟨rfl, rfl, rfl, by decide +kernel, rfl, by decide +kernel, by decide +kernel⟩
def M_blocks_in : MS := (msSeq (msIf (mTest (toD (mBin fEq (toD (mBin fIx (mPk 0) (mC (.int 0)))) (mC (.str "when"))))) (msRet (toE (mTup (maCons (mBin fIx (mPk 0) (mC (.int 2))) (maCons (mBin fIx (mPk 0) (mC (.int 3))) maNil))))) msNext)
    (msSeq (msIf (mTest (toD (mBin fEq (toD (mBin fIx (mPk 0) (mC (.int 0)))) (mC (.str "times"))))) (msRet (toE (mTup (maCons (mBin fIx (mPk 0) (mC (.int 2))) maNil)))) msNext)
    (msRet (toE (mTup maNil)))))
abbrev F_blocks_in : FS := fnD 1 1 M_blocks_in
abbrev s_rows_within : Stmt := top 3
abbrev N_rows_within : List Str := ["rows", "found", "row", "block"]
theorem sc_rows_within : FnScope N_rows_within ["rows"] (defScope s_rows_within) := ⟨rfl, rfl, rfl, by decide +kernel, rfl, by decide +kernel, by decide +kernel⟩
def M_rows_within (F_rows_within : FS) : MS := (msSeq (msSet 1 (mLst maNil))
    (msSeq (msFor (mItems (toD (mVar 0))) (mgName 2) (msSeq (msApp 1 (toD (mVar 2)))
    (msFor (mItems (toD (mCall 1 F_blocks_in (maCons (mVar 2) maNil)))) (mgName 3) (msExt 1 (toD (mCall 1 F_rows_within (maCons (mVar 3) maNil)))))))
    (msRet (mVar 1))))
def F_rows_within : Nat → FS
  | 0 => fun _ _ => False
  | n + 1 => fnD 4 1 (M_rows_within (F_rows_within n))
abbrev s_rows_in : Stmt := top 4
abbrev N_rows_in : List Str := ["program"]
theorem sc_rows_in : FnScope N_rows_in ["program"] (defScope s_rows_in) := ⟨rfl, rfl, rfl, by decide +kernel, rfl, by decide +kernel, by decide +kernel⟩
def M_rows_in : MS := (msRet (mCall 1 (F_rows_within 6) (maCons (mBin fIx (mPk 0) (mC (.int 1))) maNil)))
abbrev F_rows_in : FS := fnD 1 1 M_rows_in
abbrev s_names_of : Stmt := top 6
abbrev N_names_of : List Str := ["term"]
theorem sc_names_of : FnScope N_names_of ["term"] (defScope s_names_of) := ⟨rfl, rfl, rfl, by decide +kernel, rfl, by decide +kernel, by decide +kernel⟩
def M_names_of (F_names_of : FS) : MS := (msSeq (msIf (mTest (toD (mBin fEq (toD (mBin fIx (mPk 0) (mC (.int 0)))) (mC (.str "name"))))) (msRet (mLst (maCons (mBin fIx (mPk 0) (mC (.int 1))) maNil))) msNext)
    (msSeq (msIf (mTest (toD (mBin fEq (toD (mBin fIx (mPk 0) (mC (.int 0)))) (mC (.str "op"))))) (msRet (mBin fAdd (toD (mCall 1 F_names_of (maCons (mBin fIx (mPk 0) (mC (.int 2))) maNil))) (toD (mCall 1 F_names_of (maCons (mBin fIx (mPk 0) (mC (.int 3))) maNil))))) msNext)
    (msRet (mLst maNil))))
def F_names_of : Nat → FS
  | 0 => fun _ _ => False
  | n + 1 => fnD 1 1 (M_names_of (F_names_of n))
abbrev s_needed : Stmt := top 7
abbrev N_needed : List Str := ["program", "rows", "found", "row", "many", "name"]
theorem sc_needed : FnScope N_needed ["program"] (defScope s_needed) := ⟨rfl, rfl, rfl, by decide +kernel, rfl, by decide +kernel, by decide +kernel⟩
def M_needed : MS := (msSeq (msSet 1 (mCall 1 F_rows_in (maCons (mVar 0) maNil)))
    (msSeq (msSet 2 mDict)
    (msSeq (msFor (mItems (toD (mVar 1))) (mgName 3) (msIf (mTest (toD (mBin (fIn false) (toD (mBin fIx (mPk 3) (mC (.int 0)))) (mTup (maCons (toE (mC (.str "tell"))) (maCons (toE (mC (.str "when"))) maNil)))))) (msUpd 2 (toD (mCB fDict (mlCons (toD (mLc [5] (mItems (toD (mCall 1 (F_names_of 8) (maCons (mBin fIx (mPk 3) (mC (.int 1))) maNil)))) (mgName 5) mYes (toE (mTup (maCons (mVar 5) (maCons (toE (mC (.bool true))) maNil)))))) mlNil)))) msNext))
    (msSeq (msSet 4 (mNeg (mC (.int 1))))
    (msSeq (msWhile (mTest (toD (mBin fGt (toD (mCB fLenD (mlCons (mPk 2) mlNil))) (mPk 4)))) (msSeq (msSet 4 (mCB fLenD (mlCons (mPk 2) mlNil)))
    (msFor (mItems (toD (mVar 1))) (mgName 3) (msIf (mAnd (mTest (toD (mBin fEq (toD (mBin fIx (mPk 3) (mC (.int 0)))) (mC (.str "let"))))) (mTest (toD (mBin (fIn false) (toD (mBin fIx (mPk 3) (mC (.int 1)))) (mPk 2))))) (msUpd 2 (toD (mCB fDict (mlCons (toD (mLc [5] (mItems (toD (mCall 1 (F_names_of 8) (maCons (mBin fIx (mPk 3) (mC (.int 2))) maNil)))) (mgName 5) mYes (toE (mTup (maCons (mVar 5) (maCons (toE (mC (.bool true))) maNil)))))) mlNil)))) msNext))))
    (msRet (mCB fTuple (mlCons (toD (mCB fSorted (mlCons (mPk 2) mlNil))) mlNil))))))))
abbrev F_needed : FS := fnD 6 1 M_needed
abbrev s_is_idle : Stmt := top 8
abbrev N_is_idle : List Str := ["row", "names"]
theorem sc_is_idle : FnScope N_is_idle ["row", "names"] (defScope s_is_idle) := ⟨rfl, rfl, rfl, by decide +kernel, rfl, by decide +kernel, by decide +kernel⟩
def M_is_idle : MS := (msRet (toE (mAndV (mOrV (toD (mBin (fIn false) (toD (mBin fIx (mPk 0) (mC (.int 0)))) (mC c_THROWS))) (toD (mBin fEq (toD (mBin fIx (mPk 0) (mC (.int 0)))) (mC (.str "let"))))) (toD (mBin (fIn true) (toD (mBin fIx (mPk 0) (mC (.int 1)))) (mPk 1))))))
abbrev F_is_idle : FS := fnD 2 2 M_is_idle
abbrev s_idle : Stmt := top 9
abbrev N_idle : List Str := ["program", "names", "rows", "k"]
theorem sc_idle : FnScope N_idle ["program"] (defScope s_idle) := ⟨rfl, rfl, rfl, by decide +kernel, rfl, by decide +kernel, by decide +kernel⟩
def M_idle : MS := (msSeq (msSet 1 (mCall 1 F_needed (maCons (mVar 0) maNil)))
    (msSeq (msSet 2 (mCall 1 F_rows_in (maCons (mVar 0) maNil)))
    (msFz 1 (msRet (mCB fTuple (mlCons (toD (mLc [3] (mRg1 (mlCons (toD (mCB fLen (mlCons (mPk 2) mlNil))) mlNil)) (mgName 3) (mTest (toD (mCall 2 F_is_idle (maCons (mBin fIx (mPk 2) (mPk 3)) (maCons (mVar 1) maNil))))) (mVar 3))) mlNil))))))
abbrev F_idle : FS := fnD 4 1 M_idle
abbrev s_law_deal : Stmt := top 11
abbrev N_law_deal : List Str := ["_law_script", "_law_base", "_law_cell", "_law_cells", "_law_number"]
theorem sc_law_deal : FnScope N_law_deal ["_law_script", "_law_base"] (defScope s_law_deal) := ⟨rfl, rfl, rfl, by decide +kernel, rfl, by decide +kernel, by decide +kernel⟩
abbrev s_law_draw : Stmt := top 12
abbrev N_law_draw : List Str := ["_law_deal_here", "_law_many", "_law_number", "_law_one", "_law_other"]
theorem sc_law_draw : FnScope N_law_draw ["_law_deal_here", "_law_many"] (defScope s_law_draw) := ⟨rfl, rfl, rfl, by decide +kernel, rfl, by decide +kernel, by decide +kernel⟩
abbrev s_law_names : Stmt := top 13
abbrev N_law_names : List Str := ["_law_deal_here", "_law_many", "_law_letters", "_law_words", "_law_found", "_law_k", "_law_size", "_law_word", "_law_spare", "_law_j"]
theorem sc_law_names : FnScope N_law_names ["_law_deal_here", "_law_many"] (defScope s_law_names) := ⟨rfl, rfl, rfl, by decide +kernel, rfl, by decide +kernel, by decide +kernel⟩
def M_law_names : MS := (msSeq (msSet 2 (toE (mC (.str "abcdefghijklmnopqrstuvwxyz"))))
    (msSeq (msSet 3 (mLst (maCons (toE (mC (.str "kinds"))) (maCons (toE (mC (.str "ladder"))) (maCons (toE (mC (.str "flat"))) (maCons (toE (mC (.str "choose"))) (maCons (toE (mC (.str "first"))) (maCons (toE (mC (.str "let"))) (maCons (toE (mC (.str "tell"))) (maCons (toE (mC (.str "when"))) (maCons (toE (mC (.str "else"))) (maCons (toE (mC (.str "times"))) (maCons (toE (mC (.str "end"))) (maCons (toE (mC (.str "of"))) maNil))))))))))))))
    (msSeq (msSet 4 (mLst maNil))
    (msSeq (msFor (mRg1 (mlCons (mPk 1) mlNil)) (mgName 5) (msSeq (msSet 6 (mBin fAdd (mC (.int 1)) (toD (mCall 2 F_law_draw (maCons (mVar 0) (maCons (mBin fIx (toD (mLst (maCons (toE (mC (.int 2))) (maCons (toE (mC (.int 8))) maNil)))) (toD (mCall 2 F_law_draw (maCons (mVar 0) (maCons (toE (mC (.int 2))) maNil))))) maNil))))))
    (msSeq (msSet 7 (mStr1 fJoin (mC (.str "")) (toD (mLc [9] (mRg1 (mlCons (mPk 6) mlNil)) (mgName 9) mYes (mBin fIx (mPk 2) (toD (mCall 2 F_law_draw (maCons (mVar 0) (maCons (toE (mC (.int 26))) maNil)))))))))
    (msSeq (msSet 8 (toE (mC (.int 0))))
    (msSeq (msWhile (mOr (mTest (toD (mBin (fIn false) (mPk 7) (mPk 4)))) (mTest (toD (mBin (fIn false) (mPk 7) (mPk 3))))) (msSeq (msSet 7 (mBin fAdd (toD (mBin fAdd (toD (mSl (mPk 7) moNone (moSome (mC (.int 6))))) (toD (mBin fIx (mPk 2) (toD (mBin fMod (toD (mBin fDiv (mPk 8) (mC (.int 26)))) (mC (.int 26)))))))) (toD (mBin fIx (mPk 2) (toD (mBin fMod (mPk 8) (mC (.int 26))))))))
    (msSet 8 (mBin fAdd (mPk 8) (mC (.int 1))))))
    (msApp 4 (toD (mVar 7))))))))
    (msRet (mVar 4))))))
abbrev F_law_names : FS := fnD 10 2 M_law_names
abbrev s_law_steep : Stmt := top 14
abbrev N_law_steep : List Str := ["_law_deal_here", "_law_half", "_law_q", "_law_p", "_law_d"]
theorem sc_law_steep : FnScope N_law_steep ["_law_deal_here", "_law_half"] (defScope s_law_steep) := ⟨rfl, rfl, rfl, by decide +kernel, rfl, by decide +kernel, by decide +kernel⟩
def M_law_steep : MS := (msSeq (msSet 2 (mBin fAdd (mC (.int 2)) (toD (mCall 2 F_law_draw (maCons (mVar 0) (maCons (toE (mC (.int 8))) maNil))))))
    (msSeq (msSet 3 (mBin fAdd (mC (.int 1)) (toD (mCall 2 F_law_draw (maCons (mVar 0) (maCons (mBin fIx (toD (mLst (maCons (mBin fSub (mPk 2) (mC (.int 1))) (maCons (mBin fDiv (mPk 2) (mC (.int 2))) maNil)))) (toD (mCB fInt (mlCons (mPk 1) mlNil)))) maNil))))))
    (msSeq (msFor (mItems (mTup (maCons (toE (mC (.int 2))) (maCons (toE (mC (.int 3))) (maCons (toE (mC (.int 5))) (maCons (toE (mC (.int 7))) maNil)))))) (mgName 4) (msWhile (mAnd (mTest (toD (mBin fEq (toD (mBin fMod (mPk 3) (mPk 4))) (mC (.int 0))))) (mTest (toD (mBin fEq (toD (mBin fMod (mPk 2) (mPk 4))) (mC (.int 0)))))) (msSeq (msSet 3 (mBin fDiv (mPk 3) (mPk 4)))
    (msSet 2 (mBin fDiv (mPk 2) (mPk 4))))))
    (msRet (toE (mTup (maCons (mVar 3) (maCons (mVar 2) maNil))))))))
abbrev F_law_steep : FS := fnD 5 2 M_law_steep
abbrev s_law_sum : Stmt := top 15
abbrev N_law_sum : List Str := ["_law_deal_here", "_law_many", "_law_k"]
theorem sc_law_sum : FnScope N_law_sum ["_law_deal_here", "_law_many"] (defScope s_law_sum) := ⟨rfl, rfl, rfl, by decide +kernel, rfl, by decide +kernel, by decide +kernel⟩
def M_law_sum : MS := (msRet (mCB fTuple (mlCons (toD (mLc [2] (mRg1 (mlCons (mPk 1) mlNil)) (mgName 2) mYes (mBin fIx (toD (mLst (maCons (toE (mC (.int 0))) (maCons (toE (mC (.int 1))) (maCons (toE (mC (.int 1))) (maCons (toE (mC (.int 2))) (maCons (toE (mC (.int 3))) maNil))))))) (toD (mCall 2 F_law_draw (maCons (mVar 0) (maCons (toE (mC (.int 5))) maNil))))))) mlNil)))
abbrev F_law_sum : FS := fnD 3 2 M_law_sum
abbrev s_law_throw : Stmt := top 16
abbrev N_law_throw : List Str := ["_law_deal_here", "_law_world", "_law_x", "_law_form", "_law_low", "_law_high", "_law_many", "_law_sums", "_law_mark", "_law_k"]
theorem sc_law_throw : FnScope N_law_throw ["_law_deal_here", "_law_world", "_law_x"] (defScope s_law_throw) := ⟨rfl, rfl, rfl, by decide +kernel, rfl, by decide +kernel, by decide +kernel⟩
def M_law_throw (R : ME → MS) : MS := (msSeq (msSet 3 (mCall 2 F_law_draw (maCons (mVar 0) (maCons (toE (mC (.int 5))) maNil))))
    (msSeq (msSet 4 (mCall 2 F_law_draw (maCons (mVar 0) (maCons (toE (mC (.int 3))) maNil))))
    (msSeq (msSet 5 (mBin fAdd (mPk 4) (toD (mCall 2 F_law_draw (maCons (mVar 0) (maCons (mBin fAdd (toD (mBin fIx (mPk 1) (mC (.str "wide")))) (mC (.int 1))) maNil))))))
    (msSeq (msSet 6 (mBin fIx (mPk 1) (mC (.str "kinds"))))
    (msSeq (msSet 7 (mCB fTuple (mlCons (toD (mLc [9] (mRg1 (mlCons (toD (mBin fAdd (mC (.int 1)) (toD (mCall 2 F_law_draw (maCons (mVar 0) (maCons (toE (mC (.int 4))) maNil)))))) mlNil)) (mgName 9) mYes (mCall 2 F_law_sum (maCons (mVar 0) (maCons (mVar 6) maNil))))) mlNil)))
    (msSeq (msIf (mTest (toD (mBin fLt (mPk 3) (mC (.int 2))))) (R (toE (mTup (maCons (toE (mC (.str "ladder"))) (maCons (mVar 2) (maCons (mBin fIx (mPk 7) (mC (.int 0))) (maCons (mCall 2 F_law_steep (maCons (mVar 0) (maCons (toE (mC (.bool false))) maNil))) (maCons (mVar 4) (maCons (mVar 5) maNil))))))))) msNext)
    (msSeq (msIf (mTest (toD (mBin fEq (mPk 3) (mC (.int 2))))) (R (toE (mTup (maCons (toE (mC (.str "flat"))) (maCons (mVar 2) (maCons (mBin fIx (mPk 7) (mC (.int 0))) (maCons (mCall 2 F_law_draw (maCons (mVar 0) (maCons (toE (mC (.int 5))) maNil))) (maCons (mVar 4) (maCons (mVar 5) maNil))))))))) msNext)
    (msSeq (msIf (mTest (toD (mBin fEq (mPk 3) (mC (.int 3))))) (R (toE (mTup (maCons (toE (mC (.str "choose"))) (maCons (mVar 2) (maCons (mVar 7) (maCons (mCall 2 F_law_steep (maCons (mVar 0) (maCons (toE (mC (.bool false))) maNil))) (maCons (mVar 4) (maCons (mVar 5) maNil))))))))) msNext)
    (msSeq (msSet 8 (mBin fAdd (mPk 4) (toD (mCall 2 F_law_draw (maCons (mVar 0) (maCons (mBin fAdd (toD (mBin fSub (mPk 5) (mPk 4))) (mC (.int 2))) maNil))))))
    (R (toE (mTup (maCons (toE (mC (.str "first"))) (maCons (mVar 2) (maCons (mVar 8) (maCons (mCall 2 F_law_steep (maCons (mVar 0) (maCons (toE (mC (.bool false))) maNil))) (maCons (mCall 2 F_law_steep (maCons (mVar 0) (maCons (toE (mC (.bool true))) maNil))) (maCons (mVar 7) (maCons (mVar 4) (maCons (mBin fAdd (mPk 5) (mC (.int 1))) maNil))))))))))))))))))))
abbrev F_law_throw : FS := fnD 10 3 (M_law_throw msRet)
abbrev FB_law_throw : FS := fnB 10 3 [1] (M_law_throw (msRetB [1]))
abbrev s_law_term : Stmt := top 17
abbrev N_law_term : List Str := ["_law_deal_here", "_law_known", "_law_room", "_law_left", "_law_one"]
theorem sc_law_term : FnScope N_law_term ["_law_deal_here", "_law_known", "_law_room"] (defScope s_law_term) := ⟨rfl, rfl, rfl, by decide +kernel, rfl, by decide +kernel, by decide +kernel⟩
def M_law_term (F_law_term : FS) : MS := (msSeq (msIf (mOr (mTest (toD (mBin fLt (mPk 2) (mC (.int 3))))) (mTest (toD (mBin fEq (toD (mCall 2 F_law_draw (maCons (mVar 0) (maCons (toE (mC (.int 3))) maNil)))) (mC (.int 0)))))) (msSeq (msIf (mAnd (mTest (toD (mBin fGt (toD (mCB fLen (mlCons (mPk 1) mlNil))) (mC (.int 0))))) (mTest (toD (mBin fGt (toD (mCall 2 F_law_draw (maCons (mVar 0) (maCons (toE (mC (.int 4))) maNil)))) (mC (.int 0)))))) (msRet (toE (mTup (maCons (toE (mC (.str "name"))) (maCons (mBin fIx (mPk 1) (toD (mCall 2 F_law_draw (maCons (mVar 0) (maCons (mCB fLen (mlCons (mPk 1) mlNil)) maNil))))) maNil))))) msNext)
    (msRet (toE (mTup (maCons (toE (mC (.str "num"))) (maCons (mCall 2 F_law_draw (maCons (mVar 0) (maCons (mBin fIx (toD (mLst (maCons (toE (mC (.int 4))) (maCons (toE (mC (.int 4))) (maCons (toE (mC (.int 1000))) maNil))))) (toD (mCall 2 F_law_draw (maCons (mVar 0) (maCons (toE (mC (.int 3))) maNil))))) maNil))) maNil)))))) msNext)
    (msSeq (msSet 3 (mBin fAdd (mC (.int 1)) (toD (mCall 2 F_law_draw (maCons (mVar 0) (maCons (mBin fSub (mPk 2) (mC (.int 2))) maNil))))))
    (msSeq (msSet 4 (mCall 3 F_law_term (maCons (mVar 0) (maCons (mVar 1) (maCons (mVar 3) maNil)))))
    (msRet (toE (mTup (maCons (toE (mC (.str "op"))) (maCons (mBin fIx (mC (.str "+-*<=")) (toD (mCall 2 F_law_draw (maCons (mVar 0) (maCons (toE (mC (.int 5))) maNil))))) (maCons (mVar 4) (maCons (mCall 3 F_law_term (maCons (mVar 0) (maCons (mVar 1) (maCons (mBin fSub (toD (mBin fSub (mPk 2) (mC (.int 1)))) (mPk 3)) maNil)))) maNil))))))))))
def F_law_term : Nat → FS
  | 0 => fun _ _ => False
  | n + 1 => fnD 5 3 (M_law_term (F_law_term n))
abbrev s_law_row : Stmt := top 18
abbrev N_law_row : List Str := ["_law_deal_here", "_law_world", "_law_known", "_law_deep", "_law_often", "_law_form", "_law_x", "_law_many", "_law_quiet", "_law_term_here", "_law_one", "_law_ones", "_law_other", "_law_others", "_law_k", "_law_rows_here", "_law_y"]
theorem sc_law_row : FnScope N_law_row ["_law_deal_here", "_law_world", "_law_known", "_law_deep", "_law_often"] (defScope s_law_row) := ⟨rfl, rfl, rfl, by decide +kernel, rfl, by decide +kernel, by decide +kernel⟩
abbrev s_law_rows : Stmt := top 19
abbrev N_law_rows : List Str := ["_law_deal_here", "_law_world", "_law_known", "_law_deep", "_law_tells", "_law_often", "_law_rows_here", "_law_k", "_law_row_here"]
theorem sc_law_rows : FnScope N_law_rows ["_law_deal_here", "_law_world", "_law_known", "_law_deep", "_law_tells", "_law_often"] (defScope s_law_rows) := ⟨rfl, rfl, rfl, by decide +kernel, rfl, by decide +kernel, by decide +kernel⟩
def M_law_row (FB_law_row : FS) (FB_law_rows : FS) : MS := (msSeq (msSet 5 (mCall 2 F_law_draw (maCons (mVar 0) (maCons (toE (mC (.int 9))) maNil))))
    (msSeq (msSet 6 (mBin fIx (toD (mBin fIx (mPk 1) (mC (.str "names")))) (toD (mCall 2 F_law_draw (maCons (mVar 0) (maCons (mCB fLen (mlCons (toD (mBin fIx (mPk 1) (mC (.str "names")))) mlNil)) maNil))))))
    (msSeq (msSet 7 (mBin fMul (toD (mCall 2 F_law_draw (maCons (mVar 0) (maCons (toE (mC (.int 2))) maNil)))) (toD (mCB fInt (mlCons (mNotV (toD (mBin fIx (mPk 1) (mC (.str "quiet"))))) mlNil)))))
    (msSeq (msIf (mAnd (mTest (toD (mBin fLt (mPk 5) (mC (.int 5))))) (mTest (toD (mBin fGe (toD (mBin fIx (mPk 1) (mC (.str "left")))) (mPk 4))))) (msSeq (msPut 1 (mC (.str "left")) (toD (mBin fSub (toD (mBin fIx (mPk 1) (mC (.str "left")))) (mPk 4))))
    (msRetB [1] (toE (mTup (maCons (mCallB 3 FB_law_throw [none, some 1, none] (maCons (mVar 0) (maBor 1 (maCons (mVar 6) maNil)))) (maCons (mBin fAdd (mPk 2) (toD (mLst (maCons (mVar 6) maNil)))) maNil)))))) msNext)
    (msSeq (msIf (mAnd (mTest (toD (mBin fEq (mPk 5) (mC (.int 6))))) (mAnd (mTest (toD (mBin fGt (mPk 3) (mC (.int 0))))) (mTest (toD (mBin fGe (toD (mBin fIx (mPk 1) (mC (.str "room")))) (toD (mBin fMul (mC (.int 2)) (mPk 7)))))))) (msSeq (msSet 8 (mBin fIx (mPk 1) (mC (.str "quiet"))))
    (msSeq (msPut 1 (mC (.str "quiet")) (mC (.bool true)))
    (msSeq (msPut 1 (mC (.str "room")) (toD (mBin fSub (toD (mBin fIx (mPk 1) (mC (.str "room")))) (toD (mBin fMul (mC (.int 2)) (mPk 7))))))
    (msSeq (msSet 9 (mCall 3 (F_law_term 8) (maCons (mVar 0) (maCons (mVar 2) (maCons (toE (mC (.int 5))) maNil)))))
    (msSeq (msAsg (toD (mCallB 6 FB_law_rows [none, some 1, none, none, none, none] (maCons (mVar 0) (maBor 1 (maCons (mVar 2) (maCons (mBin fSub (mPk 3) (mC (.int 1))) (maCons (mVar 7) (maCons (mVar 4) maNil)))))))) (mgTup 2 (mgCons (mgName 10) (mgCons (mgName 11) mgNil))))
    (msSeq (msAsg (toD (mCallB 6 FB_law_rows [none, some 1, none, none, none, none] (maCons (mVar 0) (maBor 1 (maCons (mVar 2) (maCons (mBin fSub (mPk 3) (mC (.int 1))) (maCons (mVar 7) (maCons (mVar 4) maNil)))))))) (mgTup 2 (mgCons (mgName 12) (mgCons (mgName 13) mgNil))))
    (msSeq (msPut 1 (mC (.str "quiet")) (toD (mVar 8)))
    (msRetB [1] (toE (mTup (maCons (toE (mTup (maCons (toE (mC (.str "when"))) (maCons (mVar 9) (maCons (mVar 10) (maCons (mVar 12) maNil)))))) (maCons (mLc [16] (mItems (toD (mVar 11))) (mgName 16) (mTest (toD (mBin (fIn false) (mPk 16) (mPk 13)))) (mVar 16)) maNil)))))))))))) msNext)
    (msSeq (msIf (mAnd (mTest (toD (mBin fEq (mPk 5) (mC (.int 7))))) (mAnd (mTest (toD (mBin fGt (mPk 3) (mC (.int 0))))) (mTest (toD (mBin fGe (toD (mBin fIx (mPk 1) (mC (.str "room")))) (mPk 7)))))) (msSeq (msSet 14 (mBin fAdd (mC (.int 1)) (toD (mCall 2 F_law_draw (maCons (mVar 0) (maCons (mBin fIx (toD (mLst (maCons (toE (mC (.int 3))) (maCons (toE (mC (.int 1))) maNil)))) (toD (mCB fInt (mlCons (mAndV (toD (mBin fGt (mPk 4) (mC (.int 1)))) (toD (mBin fLt (toD (mBin fIx (mPk 1) (mC (.str "far")))) (mC (.int 4))))) mlNil)))) maNil))))))
    (msSeq (msPut 1 (mC (.str "room")) (toD (mBin fSub (toD (mBin fIx (mPk 1) (mC (.str "room")))) (mPk 7))))
    (msSeq (msAsg (toD (mCallB 6 FB_law_rows [none, some 1, none, none, none, none] (maCons (mVar 0) (maBor 1 (maCons (mVar 2) (maCons (mBin fSub (mPk 3) (mC (.int 1))) (maCons (mVar 7) (maCons (mBin fMul (mPk 4) (mPk 14)) maNil)))))))) (mgTup 2 (mgCons (mgName 15) (mgCons (mgName 2) mgNil))))
    (msRetB [1] (toE (mTup (maCons (toE (mTup (maCons (toE (mC (.str "times"))) (maCons (mVar 14) (maCons (mVar 15) maNil))))) (maCons (mVar 2) maNil)))))))) msNext)
    (msRetB [1] (toE (mTup (maCons (toE (mTup (maCons (toE (mC (.str "let"))) (maCons (mVar 6) (maCons (mCall 3 (F_law_term 8) (maCons (mVar 0) (maCons (mVar 2) (maCons (mBin fAdd (mC (.int 1)) (toD (mCall 2 F_law_draw (maCons (mVar 0) (maCons (toE (mC (.int 7))) maNil))))) maNil)))) maNil))))) (maCons (mBin fAdd (mPk 2) (toD (mLst (maCons (mVar 6) maNil)))) maNil)))))))))))
def M_law_rows (FB_law_row : FS) (FB_law_rows : FS) : MS := (msSeq (msSet 6 (mLst maNil))
    (msSeq (msFor (mRg1 (mlCons (toD (mCall 2 F_law_draw (maCons (mVar 0) (maCons (toE (mC (.int 4))) maNil)))) mlNil)) (mgName 7) (msIf (mTest (toD (mBin fGt (toD (mBin fIx (mPk 1) (mC (.str "room")))) (mC (.int 0))))) (msSeq (msPut 1 (mC (.str "room")) (toD (mBin fSub (toD (mBin fIx (mPk 1) (mC (.str "room")))) (mC (.int 1)))))
    (msSeq (msAsg (toD (mCallB 5 FB_law_row [none, some 1, none, none, none] (maCons (mVar 0) (maBor 1 (maCons (mVar 2) (maCons (mVar 3) (maCons (mVar 5) maNil))))))) (mgTup 2 (mgCons (mgName 8) (mgCons (mgName 2) mgNil))))
    (msApp 6 (toD (mVar 8))))) msNext))
    (msSeq (msSet 6 (mBin fAdd (mPk 6) (toD (mLc [7] (mRg1 (mlCons (mPk 4) mlNil)) (mgName 7) mYes (toE (mTup (maCons (toE (mC (.str "tell"))) (maCons (mCall 3 (F_law_term 8) (maCons (mVar 0) (maCons (mVar 2) (maCons (mBin fAdd (mC (.int 1)) (toD (mCall 2 F_law_draw (maCons (mVar 0) (maCons (toE (mC (.int 5))) maNil))))) maNil)))) maNil))))))))
    (msRetB [1] (toE (mTup (maCons (mCB fTuple (mlCons (mPk 6) mlNil)) (maCons (mVar 2) maNil))))))))
def FG_law_row : Nat → FS × FS
  | 0 => (fun _ _ => False, fun _ _ => False)
  | n + 1 => (fnB 17 5 [1] (M_law_row ((FG_law_row n).1) ((FG_law_row n).2)), fnB 9 6 [1] (M_law_rows ((FG_law_row n).1) ((FG_law_row n).2)))
abbrev FB_law_row (n : Nat) : FS := (FG_law_row n).1
abbrev FB_law_rows (n : Nat) : FS := (FG_law_row n).2
abbrev s_law_program : Stmt := top 20
abbrev N_law_program : List Str := ["_law_deal_here", "_law_kinds", "_law_throws", "_law_wide", "_law_words", "_law_many", "_law_world", "_law_x", "_law_tells", "_law_rows_here", "_law_known", "_law_first_one"]
theorem sc_law_program : FnScope N_law_program ["_law_deal_here", "_law_kinds", "_law_throws", "_law_wide"] (defScope s_law_program) := ⟨rfl, rfl, rfl, by decide +kernel, rfl, by decide +kernel, by decide +kernel⟩
def M_law_program : MS := (msSeq (msSet 4 (mCall 2 F_law_names (maCons (mVar 0) (maCons (toE (mC (.int 7))) maNil))))
    (msSeq (msSet 5 (mBin fAdd (mC (.int 1)) (toD (mCall 2 F_law_draw (maCons (mVar 0) (maCons (mVar 1) maNil))))))
    (msSeq (msSet 6 (mDisp [(.inr "names", (toD (mSl (mPk 4) (moSome (mC (.int 3))) moNone))), (.inr "kinds", (toD (mVar 5))), (.inr "wide", (toD (mVar 3))), (.inr "left", (toD (mVar 2))), (.inr "room", (mC (.int 12))), (.inr "quiet", (mC (.bool false))), (.inr "far", (toD (mVar 2)))]))
    (msSeq (msSet 7 (mBin fIx (mPk 4) (mC (.int 3))))
    (msSeq (msSet 8 (mBin fAdd (mC (.int 1)) (toD (mCall 2 F_law_draw (maCons (mVar 0) (maCons (toE (mC (.int 2))) maNil))))))
    (msSeq (msPut 6 (mC (.str "room")) (toD (mBin fSub (toD (mBin fSub (toD (mBin fIx (mPk 6) (mC (.str "room")))) (mC (.int 1)))) (mPk 8))))
    (msSeq (msIf (mTest (toD (mBin fEq (toD (mCall 2 F_law_draw (maCons (mVar 0) (maCons (toE (mC (.int 3))) maNil)))) (mC (.int 0))))) (msSeq (msAsg (toD (mCallB 6 (FB_law_rows 8) [none, some 6, none, none, none, none] (maCons (mVar 0) (maBor 6 (maCons (mLst (maCons (mVar 7) maNil)) (maCons (toE (mC (.int 3))) (maCons (mVar 8) (maCons (toE (mC (.int 1))) maNil)))))))) (mgTup 2 (mgCons (mgName 9) (mgCons (mgName 10) mgNil))))
    (msRet (toE (mTup (maCons (mCB fTuple (mlCons (toD (mSl (mPk 4) moNone (moSome (mPk 5)))) mlNil)) (maCons (mBin fAdd (mTup (maCons (toE (mTup (maCons (toE (mC (.str "let"))) (maCons (mVar 7) (maCons (toE (mTup (maCons (toE (mC (.str "num"))) (maCons (mCall 2 F_law_draw (maCons (mVar 0) (maCons (toE (mC (.int 4))) maNil))) maNil)))) maNil))))) maNil)) (mPk 9)) maNil)))))) msNext)
    (msSeq (msPut 6 (mC (.str "left")) (toD (mBin fSub (toD (mBin fIx (mPk 6) (mC (.str "left")))) (mC (.int 1)))))
    (msSeq (msSet 11 (mCallB 3 FB_law_throw [none, some 6, none] (maCons (mVar 0) (maBor 6 (maCons (mVar 7) maNil)))))
    (msSeq (msAsg (toD (mCallB 6 (FB_law_rows 8) [none, some 6, none, none, none, none] (maCons (mVar 0) (maBor 6 (maCons (mLst (maCons (mVar 7) maNil)) (maCons (toE (mC (.int 3))) (maCons (mVar 8) (maCons (toE (mC (.int 1))) maNil)))))))) (mgTup 2 (mgCons (mgName 9) (mgCons (mgName 10) mgNil))))
    (msRet (toE (mTup (maCons (mCB fTuple (mlCons (toD (mSl (mPk 4) moNone (moSome (mPk 5)))) mlNil)) (maCons (mBin fAdd (mTup (maCons (mVar 11) maNil)) (mPk 9)) maNil)))))))))))))))
abbrev F_law_program : FS := fnD 12 4 M_law_program
abbrev s_law_listed : Stmt := top 21
abbrev N_law_listed : List Str := ["_law_rows_here", "_law_found", "_law_row_here", "_law_inner"]
theorem sc_law_listed : FnScope N_law_listed ["_law_rows_here"] (defScope s_law_listed) := ⟨rfl, rfl, rfl, by decide +kernel, rfl, by decide +kernel, by decide +kernel⟩
def M_law_listed (F_law_listed : FS) : MS := (msSeq (msSet 1 (mLst maNil))
    (msSeq (msFor (mItems (toD (mVar 0))) (mgName 2) (msSeq (msApp 1 (toD (mVar 2)))
    (msIf (mTest (toD (mBin (fIn false) (toD (mBin fIx (mPk 2) (mC (.int 0)))) (mTup (maCons (toE (mC (.str "when"))) (maCons (toE (mC (.str "times"))) maNil)))))) (msFor (mItems (toD (mSl (mPk 2) (moSome (mC (.int 2))) moNone))) (mgName 3) (msExt 1 (toD (mCall 1 F_law_listed (maCons (mVar 3) maNil))))) msNext)))
    (msRet (mVar 1))))
def F_law_listed : Nat → FS
  | 0 => fun _ _ => False
  | n + 1 => fnD 4 1 (M_law_listed (F_law_listed n))
abbrev s_law_names_in : Stmt := top 22
abbrev N_law_names_in : List Str := ["_law_term_here"]
theorem sc_law_names_in : FnScope N_law_names_in ["_law_term_here"] (defScope s_law_names_in) := ⟨rfl, rfl, rfl, by decide +kernel, rfl, by decide +kernel, by decide +kernel⟩
def M_law_names_in (F_law_names_in : FS) : MS := (msSeq (msIf (mTest (toD (mBin fEq (toD (mBin fIx (mPk 0) (mC (.int 0)))) (mC (.str "name"))))) (msRet (mLst (maCons (mBin fIx (mPk 0) (mC (.int 1))) maNil))) msNext)
    (msSeq (msIf (mTest (toD (mBin fEq (toD (mBin fIx (mPk 0) (mC (.int 0)))) (mC (.str "op"))))) (msRet (mBin fAdd (toD (mCall 1 F_law_names_in (maCons (mBin fIx (mPk 0) (mC (.int 2))) maNil))) (toD (mCall 1 F_law_names_in (maCons (mBin fIx (mPk 0) (mC (.int 3))) maNil))))) msNext)
    (msRet (mLst maNil))))
def F_law_names_in : Nat → FS
  | 0 => fun _ _ => False
  | n + 1 => fnD 1 1 (M_law_names_in (F_law_names_in n))
abbrev s_law_needed : Stmt := top 23
abbrev N_law_needed : List Str := ["_law_program_here", "_law_rows_here", "_law_found", "_law_row_here", "_law_turn", "_law_y"]
theorem sc_law_needed : FnScope N_law_needed ["_law_program_here"] (defScope s_law_needed) := ⟨rfl, rfl, rfl, by decide +kernel, rfl, by decide +kernel, by decide +kernel⟩
def M_law_needed : MS := (msSeq (msSet 1 (mCall 1 (F_law_listed 6) (maCons (mBin fIx (mPk 0) (mC (.int 1))) maNil)))
    (msSeq (msSet 2 (mLst maNil))
    (msSeq (msFor (mItems (toD (mVar 1))) (mgName 3) (msIf (mTest (toD (mBin (fIn false) (toD (mBin fIx (mPk 3) (mC (.int 0)))) (mTup (maCons (toE (mC (.str "tell"))) (maCons (toE (mC (.str "when"))) maNil)))))) (msSet 2 (mBin fAdd (mPk 2) (toD (mCall 1 (F_law_names_in 8) (maCons (mBin fIx (mPk 3) (mC (.int 1))) maNil))))) msNext))
    (msSeq (msFor (mRg1 (mlCons (toD (mCB fLen (mlCons (mPk 1) mlNil))) mlNil)) (mgName 4) (msFor (mItems (toD (mVar 1))) (mgName 3) (msIf (mAnd (mTest (toD (mBin fEq (toD (mBin fIx (mPk 3) (mC (.int 0)))) (mC (.str "let"))))) (mTest (toD (mBin (fIn false) (toD (mBin fIx (mPk 3) (mC (.int 1)))) (mPk 2))))) (msSet 2 (mBin fAdd (mPk 2) (toD (mLc [5] (mItems (toD (mCall 1 (F_law_names_in 8) (maCons (mBin fIx (mPk 3) (mC (.int 2))) maNil)))) (mgName 5) (mTest (toD (mBin (fIn true) (mPk 5) (mPk 2)))) (mVar 5))))) msNext)))
    (msRet (mSoSe (mPk 2)))))))
abbrev F_law_needed : FS := fnD 6 1 M_law_needed
abbrev s_law_idle : Stmt := top 24
abbrev N_law_idle : List Str := ["_law_row_here", "_law_names_here"]
theorem sc_law_idle : FnScope N_law_idle ["_law_row_here", "_law_names_here"] (defScope s_law_idle) := ⟨rfl, rfl, rfl, by decide +kernel, rfl, by decide +kernel, by decide +kernel⟩
def M_law_idle : MS := (msRet (toE (mAndV (toD (mBin (fIn false) (toD (mBin fIx (mPk 0) (mC (.int 0)))) (mTup (maCons (toE (mC (.str "ladder"))) (maCons (toE (mC (.str "flat"))) (maCons (toE (mC (.str "choose"))) (maCons (toE (mC (.str "first"))) (maCons (toE (mC (.str "let"))) maNil)))))))) (toD (mBin (fIn true) (toD (mBin fIx (mPk 0) (mC (.int 1)))) (mPk 1))))))
abbrev F_law_idle : FS := fnD 2 2 M_law_idle
abbrev s_law_right : Stmt := top 25
abbrev N_law_right : List Str := ["_law_program_here", "_law_names_here", "_law_rows_here", "_law_numbers", "_law_found", "_law_k"]
theorem sc_law_right : FnScope N_law_right ["_law_program_here"] (defScope s_law_right) := ⟨rfl, rfl, rfl, by decide +kernel, rfl, by decide +kernel, by decide +kernel⟩
def M_law_right : MS := (msSeq (msSet 1 (mCall 1 F_law_needed (maCons (mVar 0) maNil)))
    (msSeq (msSet 2 (mCall 1 (F_law_listed 6) (maCons (mBin fIx (mPk 0) (mC (.int 1))) maNil)))
    (msSeq (msFz 1 (msSet 3 (mLc [5] (mRg1 (mlCons (toD (mCB fLen (mlCons (mPk 2) mlNil))) mlNil)) (mgName 5) (mTest (toD (mCall 2 F_law_idle (maCons (mBin fIx (mPk 2) (mPk 5)) (maCons (mVar 1) maNil))))) (mVar 5))))
    (msSeq (msSet 4 (mCall 1 F_idle (maCons (mVar 0) maNil)))
    (msSeq (msIf (mOr (mNot (mTest (mIsi "tuple" (mPk 4)))) (mOr (mTest (toD (mCB fAny (mlCons (toD (mLc [5] (mItems (toD (mVar 4))) (mgName 5) mYes (toE (mIsi "bool" (mPk 5))))) mlNil)))) (mTest (toD (mBin fNe (toD (mCB fList (mlCons (mPk 4) mlNil))) (mPk 3)))))) (msRet (toE (mC (.bool false)))) msNext)
    (msSeq (msSet 4 (mCall 1 F_needed (maCons (mVar 0) maNil)))
    (msRet (toE (mAndV (mIsi "tuple" (mPk 4)) (toD (mBin fEq (toD (mCB fList (mlCons (mPk 4) mlNil))) (mPk 1))))))))))))
abbrev F_law_right : FS := fnD 6 1 M_law_right
abbrev s_law_chain : Stmt := top 26
abbrev N_law_chain : List Str := ["_law_deal_here", "_law_words", "_law_many", "_law_rows_here", "_law_k", "_law_told"]
theorem sc_law_chain : FnScope N_law_chain ["_law_deal_here"] (defScope s_law_chain) := ⟨rfl, rfl, rfl, by decide +kernel, rfl, by decide +kernel, by decide +kernel⟩
def M_law_chain : MS := (msSeq (msSet 1 (mCall 2 F_law_names (maCons (mVar 0) (maCons (toE (mC (.int 12))) maNil))))
    (msSeq (msSet 2 (mBin fAdd (mC (.int 1)) (toD (mCall 2 F_law_draw (maCons (mVar 0) (maCons (toE (mC (.int 10))) maNil))))))
    (msSeq (msSet 3 (mLst (maCons (mCall 3 F_law_throw (maCons (mVar 0) (maCons (mDisp [(.inr "kinds", (mC (.int 1))), (.inr "wide", (mC (.int 4)))]) (maCons (mBin fIx (mPk 1) (mC (.int 1))) maNil)))) maNil)))
    (msSeq (msFor (mRg1 (mlCons (mPk 2) mlNil)) (mgName 4) (msApp 3 (mTup (maCons (toE (mC (.str "let"))) (maCons (mBin fIx (mPk 1) (toD (mBin fAdd (mC (.int 2)) (mPk 4)))) (maCons (toE (mTup (maCons (toE (mC (.str "op"))) (maCons (toE (mC (.str "+"))) (maCons (toE (mTup (maCons (toE (mC (.str "name"))) (maCons (mBin fIx (mPk 1) (toD (mBin fAdd (mC (.int 1)) (mPk 4)))) maNil)))) (maCons (toE (mTup (maCons (toE (mC (.str "num"))) (maCons (mVar 4) maNil)))) maNil)))))) maNil))))))
    (msSeq (msSet 5 (mBin fSub (mPk 2) (toD (mCall 2 F_law_draw (maCons (mVar 0) (maCons (mCB fMin2 (mlCons (mC (.int 3)) (mlCons (toD (mBin fAdd (mPk 2) (mC (.int 1)))) mlNil))) maNil))))))
    (msRet (toE (mTup (maCons (mCB fTuple (mlCons (toD (mSl (mPk 1) moNone (moSome (mC (.int 1))))) mlNil)) (maCons (mBin fAdd (toD (mCB fTuple (mlCons (mPk 3) mlNil))) (mTup (maCons (toE (mTup (maCons (toE (mC (.str "tell"))) (maCons (toE (mTup (maCons (toE (mC (.str "name"))) (maCons (mBin fIx (mPk 1) (toD (mBin fAdd (mC (.int 1)) (mPk 5)))) maNil)))) maNil)))) maNil))) maNil))))))))))
abbrev F_law_chain : FS := fnD 6 1 M_law_chain
abbrev s_law : Stmt := top 27
abbrev N_law : List Str := ["_law_script", "_law_deal_here", "_law_one", "_law_other", "_law_chain_here"]
theorem sc_law : FnScope N_law ["_law_script"] (defScope s_law) := ⟨rfl, rfl, rfl, by decide +kernel, rfl, by decide +kernel, by decide +kernel⟩
def M_law : MS := (msSeq (msSet 2 (mCall 4 F_law_program (maCons (mVar 1) (maCons (toE (mC (.int 3))) (maCons (toE (mC (.int 4))) (maCons (toE (mC (.int 4))) maNil))))))
    (msSeq (msSet 3 (mCall 4 F_law_program (maCons (mVar 1) (maCons (toE (mC (.int 3))) (maCons (toE (mC (.int 4))) (maCons (toE (mC (.int 4))) maNil))))))
    (msSeq (msSet 4 (mCall 1 F_law_chain (maCons (mVar 1) maNil)))
    (msRet (toE (mAndV (toD (mCall 1 F_law_right (maCons (mVar 2) maNil))) (mAndV (toD (mCall 1 F_law_right (maCons (mVar 3) maNil))) (mAndV (toD (mCall 1 F_law_right (maCons (mVar 4) maNil))) (toD (mCall 1 F_law_right (maCons (mVar 2) maNil)))))))))))
structure Tx (K : PySem.W.Frag) (mg : Str → Option Value) : Prop where
  b_any : mg "any" = none
  b_bool : mg "bool" = none
  b_dict : mg "dict" = none
  b_int : mg "int" = none
  b_isinstance : mg "isinstance" = none
  b_len : mg "len" = none
  b_list : mg "list" = none
  b_max : mg "max" = none
  b_min : mg "min" = none
  b_range : mg "range" = none
  b_reversed : mg "reversed" = none
  b_set : mg "set" = none
  b_sorted : mg "sorted" = none
  b_tuple : mg "tuple" = none
  c_THROWS : ∃ (v : V) (u : Value), mg "THROWS" = some u ∧ RelV v u ∧ ∀ S, Dq K S v c_THROWS
section
variable {P : Program} {w : World} {K : PySem.W.Frag} {mg : Str → Option Value} {base : Heap}
theorem ok_blocks_in (T : Tx K mg)  {f : Addr} {fd : FuncData} (Fu : Fun K "blocks_in" "blocks_in" s_blocks_in f fd) (mf : mg "blocks_in" = some (.ref f)) (bf : Binds K fd ["row"] []) : Cal P w K mg base "blocks_in" 1 1 F_blocks_in :=
  ⟨f, fd, _, fn_d Fu sc_blocks_in fun cdv A outer s H E hr =>
  (dss_cons (dst_if (dt_cmp (od_eq (hu64 hr.rm)) (dp_e (de_ix hr.u1 (dp_var 0) (dp_s ds_int))) (dp_s ds_str)) (dss_one (dst_ret (de_s (ds_tup (da_cons (de_ix hr.u1 (dp_var 0) (dp_s ds_int)) (da_cons (de_ix hr.u1 (dp_var 0) (dp_s ds_int)) da_nil)))))) dss_nil)
    (dss_cons (dst_if (dt_cmp (od_eq (hu64 hr.rm)) (dp_e (de_ix hr.u1 (dp_var 0) (dp_s ds_int))) (dp_s ds_str)) (dss_one (dst_ret (de_s (ds_tup (da_cons (de_ix hr.u1 (dp_var 0) (dp_s ds_int)) da_nil))))) dss_nil)
    (dss_one (dst_ret (de_s (ds_tup da_nil)))))), bf, mf, Fu.kp⟩
theorem ok_rows_within (T : Tx K mg) (C_blocks_in : Cal P w K mg base "blocks_in" 1 1 F_blocks_in) {f : Addr} {fd : FuncData} (Fu : Fun K "rows_within" "rows_within" s_rows_within f fd) (mf : mg "rows_within" = some (.ref f)) (bf : Binds K fd ["rows"] []) : ∀ n : Nat, Cal P w K mg base "rows_within" (2 + n) 1 (F_rows_within n)
  | 0 => ⟨f, fd, _, fn_none, bf, mf, Fu.kp⟩
  | n + 1 =>
    have C_rows_within := ok_rows_within T C_blocks_in Fu mf bf n
    ⟨f, fd, _, fn_d Fu sc_rows_within fun cdv A outer s H E hr =>
  (dss_cons (dst_set sc_rows_within.nd (de_lst da_nil))
    (dss_cons (dst_for PassesOwn.never rfl (di_any (ds_e (de_var 0))) (dg_name sc_rows_within.nd) (dss_cons (dst_app 1 (ds_e (de_var 2)))
    (dss_one (dst_for PassesOwn.never rfl (di_any (ds_e (de_callC C_blocks_in hr (by show _ ≤ 2 + n; omega) (by rfl) (da_cons (de_var 2) da_nil)))) (dg_name sc_rows_within.nd) (dss_one (dst_ext 1 (dp_e (de_callC C_rows_within hr (by show _ ≤ 2 + n; omega) (by rfl) (da_cons (de_var 3) da_nil)))))))))
    (dss_one (dst_ret (de_var 1))))), bf, mf, Fu.kp⟩
theorem ok_rows_in (T : Tx K mg) (C_rows_within : Cal P w K mg base "rows_within" 8 1 (F_rows_within 6)) {f : Addr} {fd : FuncData} (Fu : Fun K "rows_in" "rows_in" s_rows_in f fd) (mf : mg "rows_in" = some (.ref f)) (bf : Binds K fd ["program"] []) : Cal P w K mg base "rows_in" 9 1 F_rows_in :=
  ⟨f, fd, _, fn_d Fu sc_rows_in fun cdv A outer s H E hr =>
  (dss_one (dst_ret (de_callC C_rows_within hr (by decide) (by rfl) (da_cons (de_ix hr.u1 (dp_var 0) (dp_s ds_int)) da_nil)))), bf, mf, Fu.kp⟩
theorem ok_names_of (T : Tx K mg)  {f : Addr} {fd : FuncData} (Fu : Fun K "names_of" "names_of" s_names_of f fd) (mf : mg "names_of" = some (.ref f)) (bf : Binds K fd ["term"] []) : ∀ n : Nat, Cal P w K mg base "names_of" (1 + n) 1 (F_names_of n)
  | 0 => ⟨f, fd, _, fn_none, bf, mf, Fu.kp⟩
  | n + 1 =>
    have C_names_of := ok_names_of T  Fu mf bf n
    ⟨f, fd, _, fn_d Fu sc_names_of fun cdv A outer s H E hr =>
  (dss_cons (dst_if (dt_cmp (od_eq (hu64 hr.rm)) (dp_e (de_ix hr.u1 (dp_var 0) (dp_s ds_int))) (dp_s ds_str)) (dss_one (dst_ret (de_lst (da_cons (de_ix hr.u1 (dp_var 0) (dp_s ds_int)) da_nil)))) dss_nil)
    (dss_cons (dst_if (dt_cmp (od_eq (hu64 hr.rm)) (dp_e (de_ix hr.u1 (dp_var 0) (dp_s ds_int))) (dp_s ds_str)) (dss_one (dst_ret (de_bin od_add (dp_e (de_callC C_names_of hr (by show _ ≤ 1 + n; omega) (by rfl) (da_cons (de_ix hr.u1 (dp_var 0) (dp_s ds_int)) da_nil))) (dp_e (de_callC C_names_of hr (by show _ ≤ 1 + n; omega) (by rfl) (da_cons (de_ix hr.u1 (dp_var 0) (dp_s ds_int)) da_nil)))))) dss_nil)
    (dss_one (dst_ret (de_lst da_nil))))), bf, mf, Fu.kp⟩
theorem ok_needed (T : Tx K mg) (C_rows_in : Cal P w K mg base "rows_in" 9 1 F_rows_in) (C_names_of : Cal P w K mg base "names_of" 9 1 (F_names_of 8)) {f : Addr} {fd : FuncData} (Fu : Fun K "needed" "needed" s_needed f fd) (mf : mg "needed" = some (.ref f)) (bf : Binds K fd ["program"] []) : Cal P w K mg base "needed" 10 1 F_needed :=
  ⟨f, fd, _, fn_d Fu sc_needed fun cdv A outer s H E hr =>
  (dss_cons (dst_set sc_needed.nd (de_callC C_rows_in hr (by decide) (by rfl) (da_cons (de_var 0) da_nil)))
    (dss_cons (dst_set sc_needed.nd de_dict)
    (dss_cons (dst_for PassesOwn.never rfl (di_any (ds_e (de_var 1))) (dg_name sc_needed.nd) (dss_one (dst_if (dt_cmp (od_in (hu65 hr)) (dp_e (de_ix hr.u1 (dp_var 3) (dp_s ds_int))) (dp_s (ds_tup (da_cons (de_s ds_str) (da_cons (de_s ds_str) da_nil))))) (dss_one (dst_upd 2 (ds_e (de_ct (cd_dict rfl (hu65 hr)) (by rfl) T.b_dict (by decide +kernel) (dps_cons (dp_e (de_lc (own := [("name", 5)]) rfl sc_needed.nd (di_any (ds_e (de_callC C_names_of hr (by decide) (by rfl) (da_cons (de_ix hr.u1 (dp_var 3) (dp_s ds_int)) da_nil)))) (blkOk_by (N := N_needed) (sc := defScope s_needed) (by decide +kernel)) (fun _ _ _ _ _ => (dg_name sc_needed.nd)) (fun _ _ _ _ _ => dts_nil) (fun _ _ _ _ _ => (de_s (ds_tup (da_cons (de_var 5) (da_cons (de_s ds_bl) da_nil))))))) dps_nil))))) dss_nil)))
    (dss_cons (dst_set sc_needed.nd (de_neg (dp_s ds_int)))
    (dss_cons (dst_while PassesOwn.never (dt_cmp od_gt (dp_e (de_cb cd_lenD (by rfl) T.b_len (by decide +kernel) (dps_cons (dp_var 2) dps_nil))) (dp_var 4)) (dss_cons (dst_set sc_needed.nd (de_cb cd_lenD (by rfl) T.b_len (by decide +kernel) (dps_cons (dp_var 2) dps_nil)))
    (dss_one (dst_for PassesOwn.never rfl (di_any (ds_e (de_var 1))) (dg_name sc_needed.nd) (dss_one (dst_if (PW.pt (dw_and (dt_cmp (od_eq (hu64 hr.rm)) (dp_e (de_ix hr.u1 (dp_var 3) (dp_s ds_int))) (dp_s ds_str)) (dw_and1 (dt_cmp (od_in (hu65 hr)) (dp_e (de_ix hr.u1 (dp_var 3) (dp_s ds_int))) (dp_var 2))))) (dss_one (dst_upd 2 (ds_e (de_ct (cd_dict rfl (hu65 hr)) (by rfl) T.b_dict (by decide +kernel) (dps_cons (dp_e (de_lc (own := [("name", 5)]) rfl sc_needed.nd (di_any (ds_e (de_callC C_names_of hr (by decide) (by rfl) (da_cons (de_ix hr.u1 (dp_var 3) (dp_s ds_int)) da_nil)))) (blkOk_by (N := N_needed) (sc := defScope s_needed) (by decide +kernel)) (fun _ _ _ _ _ => (dg_name sc_needed.nd)) (fun _ _ _ _ _ => dts_nil) (fun _ _ _ _ _ => (de_s (ds_tup (da_cons (de_var 5) (da_cons (de_s ds_bl) da_nil))))))) dps_nil))))) dss_nil))))))
    (dss_one (dst_ret (de_ct cd_tuple (by rfl) T.b_tuple (by decide +kernel) (dps_cons (dp_e (de_cb (cd_sorted rfl (hu65 hr)) (by rfl) T.b_sorted (by decide +kernel) (dps_cons (dp_var 2) dps_nil))) dps_nil))))))))), bf, mf, Fu.kp⟩
theorem ok_is_idle (T : Tx K mg)  {f : Addr} {fd : FuncData} (Fu : Fun K "is_idle" "is_idle" s_is_idle f fd) (mf : mg "is_idle" = some (.ref f)) (bf : Binds K fd ["row", "names"] []) : Cal P w K mg base "is_idle" 1 2 F_is_idle :=
  ⟨f, fd, _, fn_d Fu sc_is_idle fun cdv A outer s H E hr =>
  (dss_one (dst_ret (de_s (ds_and (ds_or (ds_e (de_cmp (od_in (hu65 hr)) (dp_e (de_ix hr.u1 (dp_var 0) (dp_s ds_int))) (dp_s (ds_globX (by rfl) T.c_THROWS)))) (ds_one (ds_e (de_cmp (od_eq (hu64 hr.rm)) (dp_e (de_ix hr.u1 (dp_var 0) (dp_s ds_int))) (dp_s ds_str))))) (ds_one (ds_e (de_cmp (od_notin (hu65 hr)) (dp_e (de_ix hr.u1 (dp_var 0) (dp_s ds_int))) (dp_var 1)))))))), bf, mf, Fu.kp⟩
theorem ok_idle (T : Tx K mg) (C_needed : Cal P w K mg base "needed" 10 1 F_needed) (C_rows_in : Cal P w K mg base "rows_in" 9 1 F_rows_in) (C_is_idle : Cal P w K mg base "is_idle" 1 2 F_is_idle) {f : Addr} {fd : FuncData} (Fu : Fun K "idle" "idle" s_idle f fd) (mf : mg "idle" = some (.ref f)) (bf : Binds K fd ["program"] []) : Cal P w K mg base "idle" 11 1 F_idle :=
  ⟨f, fd, _, fn_d Fu sc_idle fun cdv A outer s H E hr =>
  (dss_cons (dst_set sc_idle.nd (de_callC C_needed hr (by decide) (by rfl) (da_cons (de_var 0) da_nil)))
    (dss_cons (dst_set sc_idle.nd (de_callC C_rows_in hr (by decide) (by rfl) (da_cons (de_var 0) da_nil)))
    (dss_one (dst_fz 1 (dst_ret (de_ct cd_tuple (by rfl) T.b_tuple (by decide +kernel) (dps_cons (dp_e (de_lc (own := [("k", 3)]) rfl sc_idle.nd (di_rg1 (by rfl) T.b_range (dps_cons (dp_e (de_cb cd_len (by rfl) T.b_len (by decide +kernel) (dps_cons (dp_var 2) dps_nil))) dps_nil)) (blkOk_by (N := N_idle) (sc := defScope s_idle) (by decide +kernel)) (fun _ _ _ _ _ => (dg_name sc_idle.nd)) (fun _ _ _ _ _ => (dts_one (dt_val (ds_e (de_callC C_is_idle hr (by decide) (by rfl) (da_cons (de_ix hr.u1 (dp_var 2) (dp_var 3)) (da_cons (de_var 1) da_nil))))))) (fun _ _ _ _ _ => (de_var 3)))) dps_nil))))))), bf, mf, Fu.kp⟩
theorem ok_law_names (T : Tx K mg) (C_law_draw : Cal P w K mg base "_law_draw" 2 2 F_law_draw) {f : Addr} {fd : FuncData} (Fu : Fun K "_law_names" "_law_names" s_law_names f fd) (mf : mg "_law_names" = some (.ref f)) (bf : Binds K fd ["_law_deal_here", "_law_many"] []) : Cal P w K mg base "_law_names" 3 2 F_law_names :=
  ⟨f, fd, _, fn_d Fu sc_law_names fun cdv A outer s H E hr =>
  (dss_cons (dst_set sc_law_names.nd (de_s ds_str))
    (dss_cons (dst_set sc_law_names.nd (de_lst (da_cons (de_s ds_str) (da_cons (de_s ds_str) (da_cons (de_s ds_str) (da_cons (de_s ds_str) (da_cons (de_s ds_str) (da_cons (de_s ds_str) (da_cons (de_s ds_str) (da_cons (de_s ds_str) (da_cons (de_s ds_str) (da_cons (de_s ds_str) (da_cons (de_s ds_str) (da_cons (de_s ds_str) da_nil))))))))))))))
    (dss_cons (dst_set sc_law_names.nd (de_lst da_nil))
    (dss_cons (dst_for PassesOwn.never rfl (di_rg1 (by rfl) T.b_range (dps_cons (dp_var 1) dps_nil)) (dg_name sc_law_names.nd) (dss_cons (dst_set sc_law_names.nd (de_bin od_add (dp_s ds_int) (dp_e (de_callC C_law_draw hr (by decide) (by rfl) (da_cons (de_var 0) (da_cons (de_ix hr.u1 (dp_e (de_lst (da_cons (de_s ds_int) (da_cons (de_s ds_int) da_nil)))) (dp_e (de_callC C_law_draw hr (by decide) (by rfl) (da_cons (de_var 0) (da_cons (de_s ds_int) da_nil))))) da_nil))))))
    (dss_cons (dst_set sc_law_names.nd (de_join (dp_s ds_str) (dp_e (de_lc (own := [("_law_j", 9)]) rfl sc_law_names.nd (di_rg1 (by rfl) T.b_range (dps_cons (dp_var 6) dps_nil)) (blkOk_by (N := N_law_names) (sc := defScope s_law_names) (by decide +kernel)) (fun _ _ _ _ _ => (dg_name sc_law_names.nd)) (fun _ _ _ _ _ => dts_nil) (fun _ _ _ _ _ => (de_ix hr.u1 (dp_var 2) (dp_e (de_callC C_law_draw hr (by decide) (by rfl) (da_cons (de_var 0) (da_cons (de_s ds_int) da_nil))))))))))
    (dss_cons (dst_set sc_law_names.nd (de_s ds_int))
    (dss_cons (dst_while PassesOwn.never (PW.pt (dw_or (dt_cmp (od_in (hu65 hr)) (dp_var 7) (dp_var 4)) (dw_or1 (dt_cmp (od_in (hu65 hr)) (dp_var 7) (dp_var 3))))) (dss_cons (dst_set sc_law_names.nd (de_bin od_add (dp_e (de_bin od_add (dp_e (de_sl (dp_var 7) do_none (do_some (dp_s ds_int)))) (dp_e (de_ix hr.u1 (dp_var 2) (dp_e (de_bin od_mod (dp_e (de_bin od_div (dp_var 8) (dp_s ds_int))) (dp_s ds_int))))))) (dp_e (de_ix hr.u1 (dp_var 2) (dp_e (de_bin od_mod (dp_var 8) (dp_s ds_int)))))))
    (dss_one (dst_set sc_law_names.nd (de_bin od_add (dp_var 8) (dp_s ds_int))))))
    (dss_one (dst_app 4 (ds_e (de_var 7)))))))))
    (dss_one (dst_ret (de_var 4))))))), bf, mf, Fu.kp⟩
theorem ok_law_steep (T : Tx K mg) (C_law_draw : Cal P w K mg base "_law_draw" 2 2 F_law_draw) {f : Addr} {fd : FuncData} (Fu : Fun K "_law_steep" "_law_steep" s_law_steep f fd) (mf : mg "_law_steep" = some (.ref f)) (bf : Binds K fd ["_law_deal_here", "_law_half"] []) : Cal P w K mg base "_law_steep" 3 2 F_law_steep :=
  ⟨f, fd, _, fn_d Fu sc_law_steep fun cdv A outer s H E hr =>
  (dss_cons (dst_set sc_law_steep.nd (de_bin od_add (dp_s ds_int) (dp_e (de_callC C_law_draw hr (by decide) (by rfl) (da_cons (de_var 0) (da_cons (de_s ds_int) da_nil))))))
    (dss_cons (dst_set sc_law_steep.nd (de_bin od_add (dp_s ds_int) (dp_e (de_callC C_law_draw hr (by decide) (by rfl) (da_cons (de_var 0) (da_cons (de_ix hr.u1 (dp_e (de_lst (da_cons (de_bin od_sub (dp_var 2) (dp_s ds_int)) (da_cons (de_bin od_div (dp_var 2) (dp_s ds_int)) da_nil)))) (dp_e (de_ct cd_int (by rfl) T.b_int (by decide +kernel) (dps_cons (dp_var 1) dps_nil)))) da_nil))))))
    (dss_cons (dst_for PassesOwn.never rfl (di_any (ds_tup (da_cons (de_s ds_int) (da_cons (de_s ds_int) (da_cons (de_s ds_int) (da_cons (de_s ds_int) da_nil)))))) (dg_name sc_law_steep.nd) (dss_one (dst_while PassesOwn.never (PW.pt (dw_and (dt_cmp (od_eq (hu64 hr.rm)) (dp_e (de_bin od_mod (dp_var 3) (dp_var 4))) (dp_s ds_int)) (dw_and1 (dt_cmp (od_eq (hu64 hr.rm)) (dp_e (de_bin od_mod (dp_var 2) (dp_var 4))) (dp_s ds_int))))) (dss_cons (dst_set sc_law_steep.nd (de_bin od_div (dp_var 3) (dp_var 4)))
    (dss_one (dst_set sc_law_steep.nd (de_bin od_div (dp_var 2) (dp_var 4))))))))
    (dss_one (dst_ret (de_s (ds_tup (da_cons (de_var 3) (da_cons (de_var 2) da_nil))))))))), bf, mf, Fu.kp⟩
theorem ok_law_sum (T : Tx K mg) (C_law_draw : Cal P w K mg base "_law_draw" 2 2 F_law_draw) {f : Addr} {fd : FuncData} (Fu : Fun K "_law_sum" "_law_sum" s_law_sum f fd) (mf : mg "_law_sum" = some (.ref f)) (bf : Binds K fd ["_law_deal_here", "_law_many"] []) : Cal P w K mg base "_law_sum" 3 2 F_law_sum :=
  ⟨f, fd, _, fn_d Fu sc_law_sum fun cdv A outer s H E hr =>
  (dss_one (dst_ret (de_ct cd_tuple (by rfl) T.b_tuple (by decide +kernel) (dps_cons (dp_e (de_lc (own := [("_law_k", 2)]) rfl sc_law_sum.nd (di_rg1 (by rfl) T.b_range (dps_cons (dp_var 1) dps_nil)) (blkOk_by (N := N_law_sum) (sc := defScope s_law_sum) (by decide +kernel)) (fun _ _ _ _ _ => (dg_name sc_law_sum.nd)) (fun _ _ _ _ _ => dts_nil) (fun _ _ _ _ _ => (de_ix hr.u1 (dp_e (de_lst (da_cons (de_s ds_int) (da_cons (de_s ds_int) (da_cons (de_s ds_int) (da_cons (de_s ds_int) (da_cons (de_s ds_int) da_nil))))))) (dp_e (de_callC C_law_draw hr (by decide) (by rfl) (da_cons (de_var 0) (da_cons (de_s ds_int) da_nil)))))))) dps_nil)))), bf, mf, Fu.kp⟩
theorem ok_law_throw (T : Tx K mg) (C_law_draw : Cal P w K mg base "_law_draw" 2 2 F_law_draw) (C_law_sum : Cal P w K mg base "_law_sum" 3 2 F_law_sum) (C_law_steep : Cal P w K mg base "_law_steep" 3 2 F_law_steep) {f : Addr} {fd : FuncData} (Fu : Fun K "_law_throw" "_law_throw" s_law_throw f fd) (mf : mg "_law_throw" = some (.ref f)) (bf : Binds K fd ["_law_deal_here", "_law_world", "_law_x"] []) : Cal P w K mg base "_law_throw" 4 3 F_law_throw :=
  ⟨f, fd, _, fn_d Fu sc_law_throw fun cdv A outer s H E hr =>
  (dss_cons (dst_set sc_law_throw.nd (de_callC C_law_draw hr (by decide) (by rfl) (da_cons (de_var 0) (da_cons (de_s ds_int) da_nil))))
    (dss_cons (dst_set sc_law_throw.nd (de_callC C_law_draw hr (by decide) (by rfl) (da_cons (de_var 0) (da_cons (de_s ds_int) da_nil))))
    (dss_cons (dst_set sc_law_throw.nd (de_bin od_add (dp_var 4) (dp_e (de_callC C_law_draw hr (by decide) (by rfl) (da_cons (de_var 0) (da_cons (de_bin od_add (dp_e (de_ix hr.u1 (dp_var 1) (dp_s ds_str))) (dp_s ds_int)) da_nil))))))
    (dss_cons (dst_set sc_law_throw.nd (de_ix hr.u1 (dp_var 1) (dp_s ds_str)))
    (dss_cons (dst_set sc_law_throw.nd (de_ct cd_tuple (by rfl) T.b_tuple (by decide +kernel) (dps_cons (dp_e (de_lc (own := [("_law_k", 9)]) rfl sc_law_throw.nd (di_rg1 (by rfl) T.b_range (dps_cons (dp_e (de_bin od_add (dp_s ds_int) (dp_e (de_callC C_law_draw hr (by decide) (by rfl) (da_cons (de_var 0) (da_cons (de_s ds_int) da_nil)))))) dps_nil)) (blkOk_by (N := N_law_throw) (sc := defScope s_law_throw) (by decide +kernel)) (fun _ _ _ _ _ => (dg_name sc_law_throw.nd)) (fun _ _ _ _ _ => dts_nil) (fun _ _ _ _ _ => (de_callC C_law_sum hr (by decide) (by rfl) (da_cons (de_var 0) (da_cons (de_var 6) da_nil)))))) dps_nil)))
    (dss_cons (dst_if (dt_cmp od_lt (dp_var 3) (dp_s ds_int)) (dss_one (dst_ret (de_s (ds_tup (da_cons (de_s ds_str) (da_cons (de_var 2) (da_cons (de_ix hr.u1 (dp_var 7) (dp_s ds_int)) (da_cons (de_callC C_law_steep hr (by decide) (by rfl) (da_cons (de_var 0) (da_cons (de_s ds_bl) da_nil))) (da_cons (de_var 4) (da_cons (de_var 5) da_nil)))))))))) dss_nil)
    (dss_cons (dst_if (dt_cmp (od_eq (hu64 hr.rm)) (dp_var 3) (dp_s ds_int)) (dss_one (dst_ret (de_s (ds_tup (da_cons (de_s ds_str) (da_cons (de_var 2) (da_cons (de_ix hr.u1 (dp_var 7) (dp_s ds_int)) (da_cons (de_callC C_law_draw hr (by decide) (by rfl) (da_cons (de_var 0) (da_cons (de_s ds_int) da_nil))) (da_cons (de_var 4) (da_cons (de_var 5) da_nil)))))))))) dss_nil)
    (dss_cons (dst_if (dt_cmp (od_eq (hu64 hr.rm)) (dp_var 3) (dp_s ds_int)) (dss_one (dst_ret (de_s (ds_tup (da_cons (de_s ds_str) (da_cons (de_var 2) (da_cons (de_var 7) (da_cons (de_callC C_law_steep hr (by decide) (by rfl) (da_cons (de_var 0) (da_cons (de_s ds_bl) da_nil))) (da_cons (de_var 4) (da_cons (de_var 5) da_nil)))))))))) dss_nil)
    (dss_cons (dst_set sc_law_throw.nd (de_bin od_add (dp_var 4) (dp_e (de_callC C_law_draw hr (by decide) (by rfl) (da_cons (de_var 0) (da_cons (de_bin od_add (dp_e (de_bin od_sub (dp_var 5) (dp_var 4))) (dp_s ds_int)) da_nil))))))
    (dss_one (dst_ret (de_s (ds_tup (da_cons (de_s ds_str) (da_cons (de_var 2) (da_cons (de_var 8) (da_cons (de_callC C_law_steep hr (by decide) (by rfl) (da_cons (de_var 0) (da_cons (de_s ds_bl) da_nil))) (da_cons (de_callC C_law_steep hr (by decide) (by rfl) (da_cons (de_var 0) (da_cons (de_s ds_bl) da_nil))) (da_cons (de_var 7) (da_cons (de_var 4) (da_cons (de_bin od_add (dp_var 5) (dp_s ds_int)) da_nil))))))))))))))))))))), bf, mf, Fu.kp⟩
theorem okB_law_throw (T : Tx K mg) (C_law_draw : Cal P w K mg base "_law_draw" 2 2 F_law_draw) (C_law_sum : Cal P w K mg base "_law_sum" 3 2 F_law_sum) (C_law_steep : Cal P w K mg base "_law_steep" 3 2 F_law_steep) {f : Addr} {fd : FuncData} (Fu : Fun K "_law_throw" "_law_throw" s_law_throw f fd) (mf : mg "_law_throw" = some (.ref f)) (bf : Binds K fd ["_law_deal_here", "_law_world", "_law_x"] []) : CalB P w K mg base "_law_throw" 4 3 FB_law_throw :=
  ⟨f, fd, _, fn_b Fu sc_law_throw (by decide) fun cdv A outer s H E hr =>
  (dss_cons (dst_set sc_law_throw.nd (de_callC C_law_draw hr (by decide) (by rfl) (da_cons (de_var 0) (da_cons (de_s ds_int) da_nil))))
    (dss_cons (dst_set sc_law_throw.nd (de_callC C_law_draw hr (by decide) (by rfl) (da_cons (de_var 0) (da_cons (de_s ds_int) da_nil))))
    (dss_cons (dst_set sc_law_throw.nd (de_bin od_add (dp_var 4) (dp_e (de_callC C_law_draw hr (by decide) (by rfl) (da_cons (de_var 0) (da_cons (de_bin od_add (dp_e (de_ix hr.u1 (dp_var 1) (dp_s ds_str))) (dp_s ds_int)) da_nil))))))
    (dss_cons (dst_set sc_law_throw.nd (de_ix hr.u1 (dp_var 1) (dp_s ds_str)))
    (dss_cons (dst_set sc_law_throw.nd (de_ct cd_tuple (by rfl) T.b_tuple (by decide +kernel) (dps_cons (dp_e (de_lc (own := [("_law_k", 9)]) rfl sc_law_throw.nd (di_rg1 (by rfl) T.b_range (dps_cons (dp_e (de_bin od_add (dp_s ds_int) (dp_e (de_callC C_law_draw hr (by decide) (by rfl) (da_cons (de_var 0) (da_cons (de_s ds_int) da_nil)))))) dps_nil)) (blkOk_by (N := N_law_throw) (sc := defScope s_law_throw) (by decide +kernel)) (fun _ _ _ _ _ => (dg_name sc_law_throw.nd)) (fun _ _ _ _ _ => dts_nil) (fun _ _ _ _ _ => (de_callC C_law_sum hr (by decide) (by rfl) (da_cons (de_var 0) (da_cons (de_var 6) da_nil)))))) dps_nil)))
    (dss_cons (dst_if (dt_cmp od_lt (dp_var 3) (dp_s ds_int)) (dss_one (dst_retB (dew_e (de_s (ds_tup (da_cons (de_s ds_str) (da_cons (de_var 2) (da_cons (de_ix hr.u1 (dp_var 7) (dp_s ds_int)) (da_cons (de_callC C_law_steep hr (by decide) (by rfl) (da_cons (de_var 0) (da_cons (de_s ds_bl) da_nil))) (da_cons (de_var 4) (da_cons (de_var 5) da_nil))))))))))) dss_nil)
    (dss_cons (dst_if (dt_cmp (od_eq (hu64 hr.rm)) (dp_var 3) (dp_s ds_int)) (dss_one (dst_retB (dew_e (de_s (ds_tup (da_cons (de_s ds_str) (da_cons (de_var 2) (da_cons (de_ix hr.u1 (dp_var 7) (dp_s ds_int)) (da_cons (de_callC C_law_draw hr (by decide) (by rfl) (da_cons (de_var 0) (da_cons (de_s ds_int) da_nil))) (da_cons (de_var 4) (da_cons (de_var 5) da_nil))))))))))) dss_nil)
    (dss_cons (dst_if (dt_cmp (od_eq (hu64 hr.rm)) (dp_var 3) (dp_s ds_int)) (dss_one (dst_retB (dew_e (de_s (ds_tup (da_cons (de_s ds_str) (da_cons (de_var 2) (da_cons (de_var 7) (da_cons (de_callC C_law_steep hr (by decide) (by rfl) (da_cons (de_var 0) (da_cons (de_s ds_bl) da_nil))) (da_cons (de_var 4) (da_cons (de_var 5) da_nil))))))))))) dss_nil)
    (dss_cons (dst_set sc_law_throw.nd (de_bin od_add (dp_var 4) (dp_e (de_callC C_law_draw hr (by decide) (by rfl) (da_cons (de_var 0) (da_cons (de_bin od_add (dp_e (de_bin od_sub (dp_var 5) (dp_var 4))) (dp_s ds_int)) da_nil))))))
    (dss_one (dst_retB (dew_e (de_s (ds_tup (da_cons (de_s ds_str) (da_cons (de_var 2) (da_cons (de_var 8) (da_cons (de_callC C_law_steep hr (by decide) (by rfl) (da_cons (de_var 0) (da_cons (de_s ds_bl) da_nil))) (da_cons (de_callC C_law_steep hr (by decide) (by rfl) (da_cons (de_var 0) (da_cons (de_s ds_bl) da_nil))) (da_cons (de_var 7) (da_cons (de_var 4) (da_cons (de_bin od_add (dp_var 5) (dp_s ds_int)) da_nil)))))))))))))))))))))), bf, mf, Fu.kp⟩
theorem ok_law_term (T : Tx K mg) (C_law_draw : Cal P w K mg base "_law_draw" 2 2 F_law_draw) {f : Addr} {fd : FuncData} (Fu : Fun K "_law_term" "_law_term" s_law_term f fd) (mf : mg "_law_term" = some (.ref f)) (bf : Binds K fd ["_law_deal_here", "_law_known", "_law_room"] []) : ∀ n : Nat, Cal P w K mg base "_law_term" (3 + n) 3 (F_law_term n)
  | 0 => ⟨f, fd, _, fn_none, bf, mf, Fu.kp⟩
  | n + 1 =>
    have C_law_term := ok_law_term T C_law_draw Fu mf bf n
    ⟨f, fd, _, fn_d Fu sc_law_term fun cdv A outer s H E hr =>
  (dss_cons (dst_if (PW.pt (dw_or (dt_cmp od_lt (dp_var 2) (dp_s ds_int)) (dw_or1 (dt_cmp (od_eq (hu64 hr.rm)) (dp_e (de_callC C_law_draw hr (by show _ ≤ 3 + n; omega) (by rfl) (da_cons (de_var 0) (da_cons (de_s ds_int) da_nil)))) (dp_s ds_int))))) (dss_cons (dst_if (PW.pt (dw_and (dt_cmp od_gt (dp_e (de_cb cd_len (by rfl) T.b_len (by decide +kernel) (dps_cons (dp_var 1) dps_nil))) (dp_s ds_int)) (dw_and1 (dt_cmp od_gt (dp_e (de_callC C_law_draw hr (by show _ ≤ 3 + n; omega) (by rfl) (da_cons (de_var 0) (da_cons (de_s ds_int) da_nil)))) (dp_s ds_int))))) (dss_one (dst_ret (de_s (ds_tup (da_cons (de_s ds_str) (da_cons (de_ix hr.u1 (dp_var 1) (dp_e (de_callC C_law_draw hr (by show _ ≤ 3 + n; omega) (by rfl) (da_cons (de_var 0) (da_cons (de_cb cd_len (by rfl) T.b_len (by decide +kernel) (dps_cons (dp_var 1) dps_nil)) da_nil))))) da_nil)))))) dss_nil)
    (dss_one (dst_ret (de_s (ds_tup (da_cons (de_s ds_str) (da_cons (de_callC C_law_draw hr (by show _ ≤ 3 + n; omega) (by rfl) (da_cons (de_var 0) (da_cons (de_ix hr.u1 (dp_e (de_lst (da_cons (de_s ds_int) (da_cons (de_s ds_int) (da_cons (de_s ds_int) da_nil))))) (dp_e (de_callC C_law_draw hr (by show _ ≤ 3 + n; omega) (by rfl) (da_cons (de_var 0) (da_cons (de_s ds_int) da_nil))))) da_nil))) da_nil))))))) dss_nil)
    (dss_cons (dst_set sc_law_term.nd (de_bin od_add (dp_s ds_int) (dp_e (de_callC C_law_draw hr (by show _ ≤ 3 + n; omega) (by rfl) (da_cons (de_var 0) (da_cons (de_bin od_sub (dp_var 2) (dp_s ds_int)) da_nil))))))
    (dss_cons (dst_set sc_law_term.nd (de_callC C_law_term hr (by show _ ≤ 3 + n; omega) (by rfl) (da_cons (de_var 0) (da_cons (de_var 1) (da_cons (de_var 3) da_nil)))))
    (dss_one (dst_ret (de_s (ds_tup (da_cons (de_s ds_str) (da_cons (de_ix hr.u1 (dp_s ds_str) (dp_e (de_callC C_law_draw hr (by show _ ≤ 3 + n; omega) (by rfl) (da_cons (de_var 0) (da_cons (de_s ds_int) da_nil))))) (da_cons (de_var 4) (da_cons (de_callC C_law_term hr (by show _ ≤ 3 + n; omega) (by rfl) (da_cons (de_var 0) (da_cons (de_var 1) (da_cons (de_bin od_sub (dp_e (de_bin od_sub (dp_var 2) (dp_s ds_int))) (dp_var 3)) da_nil)))) da_nil))))))))))), bf, mf, Fu.kp⟩
theorem okG_law_row (T : Tx K mg) (C_law_draw : Cal P w K mg base "_law_draw" 2 2 F_law_draw) (CB_law_throw : CalB P w K mg base "_law_throw" 4 3 FB_law_throw) (C_law_term : Cal P w K mg base "_law_term" 11 3 (F_law_term 8)) {f0 : Addr} {fd0 : FuncData} (Fu0 : Fun K "_law_row" "_law_row" s_law_row f0 fd0) (mf0 : mg "_law_row" = some (.ref f0)) (bf0 : Binds K fd0 ["_law_deal_here", "_law_world", "_law_known", "_law_deep", "_law_often"] []) {f1 : Addr} {fd1 : FuncData} (Fu1 : Fun K "_law_rows" "_law_rows" s_law_rows f1 fd1) (mf1 : mg "_law_rows" = some (.ref f1)) (bf1 : Binds K fd1 ["_law_deal_here", "_law_world", "_law_known", "_law_deep", "_law_tells", "_law_often"] []) : ∀ n : Nat, CalB P w K mg base "_law_row" (12 + n) 5 (FB_law_row n) ∧ CalB P w K mg base "_law_rows" (12 + n) 6 (FB_law_rows n)
  | 0 => ⟨⟨f0, fd0, _, fnb_none, bf0, mf0, Fu0.kp⟩, ⟨f1, fd1, _, fnb_none, bf1, mf1, Fu1.kp⟩⟩
  | n + 1 => by
    obtain ⟨CB_law_row, CB_law_rows⟩ := okG_law_row T C_law_draw CB_law_throw C_law_term Fu0 mf0 bf0 Fu1 mf1 bf1 n
    exact ⟨⟨f0, fd0, _, fn_b Fu0 sc_law_row (by decide) fun cdv A outer s H E hr =>
  (dss_cons (dst_set sc_law_row.nd (de_callC C_law_draw hr (by show _ ≤ 12 + n; omega) (by rfl) (da_cons (de_var 0) (da_cons (de_s ds_int) da_nil))))
    (dss_cons (dst_set sc_law_row.nd (de_ix hr.u1 (dp_e (de_ix hr.u1 (dp_var 1) (dp_s ds_str))) (dp_e (de_callC C_law_draw hr (by show _ ≤ 12 + n; omega) (by rfl) (da_cons (de_var 0) (da_cons (de_cb cd_len (by rfl) T.b_len (by decide +kernel) (dps_cons (dp_e (de_ix hr.u1 (dp_var 1) (dp_s ds_str))) dps_nil)) da_nil))))))
    (dss_cons (dst_set sc_law_row.nd (de_bin od_mul (dp_e (de_callC C_law_draw hr (by show _ ≤ 12 + n; omega) (by rfl) (da_cons (de_var 0) (da_cons (de_s ds_int) da_nil)))) (dp_e (de_ct cd_int (by rfl) T.b_int (by decide +kernel) (dps_cons (dp_s (ds_not (ds_e (de_ix hr.u1 (dp_var 1) (dp_s ds_str))))) dps_nil)))))
    (dss_cons (dst_if (PW.pt (dw_and (dt_cmp od_lt (dp_var 5) (dp_s ds_int)) (dw_and1 (dt_cmp od_ge (dp_e (de_ix hr.u1 (dp_var 1) (dp_s ds_str))) (dp_var 4))))) (dss_cons (dst_put 1 hr.u1 (dp_s ds_str) (ds_e (de_bin od_sub (dp_e (de_ix hr.u1 (dp_var 1) (dp_s ds_str))) (dp_var 4))))
    (dss_one (dst_retB (dew_s (dsw_tup (daw_cons (dew_callBC CB_law_throw hr (by show _ ≤ 12 + n; omega) (by rfl) (dab_cons (dew_e (de_var 0)) (dab_bor 1 (dab_cons (dew_e (de_var 6)) dab_nil)))) (daw_cons (dew_e (de_bin od_add (dp_var 2) (dp_e (de_lst (da_cons (de_var 6) da_nil))))) (daw_a da_nil)))))))) dss_nil)
    (dss_cons (dst_if (PW.pt (dw_and (dt_cmp (od_eq (hu64 hr.rm)) (dp_var 5) (dp_s ds_int)) (dw_and (dt_cmp od_gt (dp_var 3) (dp_s ds_int)) (dw_and1 (dt_cmp od_ge (dp_e (de_ix hr.u1 (dp_var 1) (dp_s ds_str))) (dp_e (de_bin od_mul (dp_s ds_int) (dp_var 7)))))))) (dss_cons (dst_set sc_law_row.nd (de_ix hr.u1 (dp_var 1) (dp_s ds_str)))
    (dss_cons (dst_put 1 hr.u1 (dp_s ds_str) ds_bl)
    (dss_cons (dst_put 1 hr.u1 (dp_s ds_str) (ds_e (de_bin od_sub (dp_e (de_ix hr.u1 (dp_var 1) (dp_s ds_str))) (dp_e (de_bin od_mul (dp_s ds_int) (dp_var 7))))))
    (dss_cons (dst_set sc_law_row.nd (de_callC C_law_term hr (by show _ ≤ 12 + n; omega) (by rfl) (da_cons (de_var 0) (da_cons (de_var 2) (da_cons (de_s ds_int) da_nil)))))
    (dss_cons (dst_asgW (dsw_e (dew_callBC CB_law_rows hr (by show _ ≤ 12 + n; omega) (by rfl) (dab_cons (dew_e (de_var 0)) (dab_bor 1 (dab_cons (dew_e (de_var 2)) (dab_cons (dew_e (de_bin od_sub (dp_var 3) (dp_s ds_int))) (dab_cons (dew_e (de_var 7)) (dab_cons (dew_e (de_var 4)) dab_nil)))))))) (dg_tup rfl (dgs_cons (dg_name sc_law_row.nd) (dgs_cons (dg_name sc_law_row.nd) dgs_nil))))
    (dss_cons (dst_asgW (dsw_e (dew_callBC CB_law_rows hr (by show _ ≤ 12 + n; omega) (by rfl) (dab_cons (dew_e (de_var 0)) (dab_bor 1 (dab_cons (dew_e (de_var 2)) (dab_cons (dew_e (de_bin od_sub (dp_var 3) (dp_s ds_int))) (dab_cons (dew_e (de_var 7)) (dab_cons (dew_e (de_var 4)) dab_nil)))))))) (dg_tup rfl (dgs_cons (dg_name sc_law_row.nd) (dgs_cons (dg_name sc_law_row.nd) dgs_nil))))
    (dss_cons (dst_put 1 hr.u1 (dp_s ds_str) (ds_e (de_var 8)))
    (dss_one (dst_retB (dew_e (de_s (ds_tup (da_cons (de_s (ds_tup (da_cons (de_s ds_str) (da_cons (de_var 9) (da_cons (de_var 10) (da_cons (de_var 12) da_nil)))))) (da_cons (de_lc (own := [("_law_y", 16)]) rfl sc_law_row.nd (di_any (ds_e (de_var 11))) (blkOk_by (N := N_law_row) (sc := defScope s_law_row) (by decide +kernel)) (fun _ _ _ _ _ => (dg_name sc_law_row.nd)) (fun _ _ _ _ _ => (dts_one (dt_cmp (od_in (hu65 hr)) (dp_var 16) (dp_var 13)))) (fun _ _ _ _ _ => (de_var 16))) da_nil)))))))))))))) dss_nil)
    (dss_cons (dst_if (PW.pt (dw_and (dt_cmp (od_eq (hu64 hr.rm)) (dp_var 5) (dp_s ds_int)) (dw_and (dt_cmp od_gt (dp_var 3) (dp_s ds_int)) (dw_and1 (dt_cmp od_ge (dp_e (de_ix hr.u1 (dp_var 1) (dp_s ds_str))) (dp_var 7)))))) (dss_cons (dst_set sc_law_row.nd (de_bin od_add (dp_s ds_int) (dp_e (de_callC C_law_draw hr (by show _ ≤ 12 + n; omega) (by rfl) (da_cons (de_var 0) (da_cons (de_ix hr.u1 (dp_e (de_lst (da_cons (de_s ds_int) (da_cons (de_s ds_int) da_nil)))) (dp_e (de_ct cd_int (by rfl) T.b_int (by decide +kernel) (dps_cons (dp_s (ds_and (ds_e (de_cmp od_gt (dp_var 4) (dp_s ds_int))) (ds_one (ds_e (de_cmp od_lt (dp_e (de_ix hr.u1 (dp_var 1) (dp_s ds_str))) (dp_s ds_int)))))) dps_nil)))) da_nil))))))
    (dss_cons (dst_put 1 hr.u1 (dp_s ds_str) (ds_e (de_bin od_sub (dp_e (de_ix hr.u1 (dp_var 1) (dp_s ds_str))) (dp_var 7))))
    (dss_cons (dst_asgW (dsw_e (dew_callBC CB_law_rows hr (by show _ ≤ 12 + n; omega) (by rfl) (dab_cons (dew_e (de_var 0)) (dab_bor 1 (dab_cons (dew_e (de_var 2)) (dab_cons (dew_e (de_bin od_sub (dp_var 3) (dp_s ds_int))) (dab_cons (dew_e (de_var 7)) (dab_cons (dew_e (de_bin od_mul (dp_var 4) (dp_var 14))) dab_nil)))))))) (dg_tup rfl (dgs_cons (dg_name sc_law_row.nd) (dgs_cons (dg_name sc_law_row.nd) dgs_nil))))
    (dss_one (dst_retB (dew_e (de_s (ds_tup (da_cons (de_s (ds_tup (da_cons (de_s ds_str) (da_cons (de_var 14) (da_cons (de_var 15) da_nil))))) (da_cons (de_var 2) da_nil)))))))))) dss_nil)
    (dss_one (dst_retB (dew_e (de_s (ds_tup (da_cons (de_s (ds_tup (da_cons (de_s ds_str) (da_cons (de_var 6) (da_cons (de_callC C_law_term hr (by show _ ≤ 12 + n; omega) (by rfl) (da_cons (de_var 0) (da_cons (de_var 2) (da_cons (de_bin od_add (dp_s ds_int) (dp_e (de_callC C_law_draw hr (by show _ ≤ 12 + n; omega) (by rfl) (da_cons (de_var 0) (da_cons (de_s ds_int) da_nil))))) da_nil)))) da_nil))))) (da_cons (de_bin od_add (dp_var 2) (dp_e (de_lst (da_cons (de_var 6) da_nil)))) da_nil))))))))))))), bf0, mf0, Fu0.kp⟩, ⟨f1, fd1, _, fn_b Fu1 sc_law_rows (by decide) fun cdv A outer s H E hr =>
  (dss_cons (dst_set sc_law_rows.nd (de_lst da_nil))
    (dss_cons (dst_for PassesOwn.never rfl (di_rg1 (by rfl) T.b_range (dps_cons (dp_e (de_callC C_law_draw hr (by show _ ≤ 12 + n; omega) (by rfl) (da_cons (de_var 0) (da_cons (de_s ds_int) da_nil)))) dps_nil)) (dg_name sc_law_rows.nd) (dss_one (dst_if (dt_cmp od_gt (dp_e (de_ix hr.u1 (dp_var 1) (dp_s ds_str))) (dp_s ds_int)) (dss_cons (dst_put 1 hr.u1 (dp_s ds_str) (ds_e (de_bin od_sub (dp_e (de_ix hr.u1 (dp_var 1) (dp_s ds_str))) (dp_s ds_int))))
    (dss_cons (dst_asgW (dsw_e (dew_callBC CB_law_row hr (by show _ ≤ 12 + n; omega) (by rfl) (dab_cons (dew_e (de_var 0)) (dab_bor 1 (dab_cons (dew_e (de_var 2)) (dab_cons (dew_e (de_var 3)) (dab_cons (dew_e (de_var 5)) dab_nil))))))) (dg_tup rfl (dgs_cons (dg_name sc_law_rows.nd) (dgs_cons (dg_name sc_law_rows.nd) dgs_nil))))
    (dss_one (dst_app 6 (ds_e (de_var 8)))))) dss_nil)))
    (dss_cons (dst_set sc_law_rows.nd (de_bin od_add (dp_var 6) (dp_e (de_lc (own := [("_law_k", 7)]) rfl sc_law_rows.nd (di_rg1 (by rfl) T.b_range (dps_cons (dp_var 4) dps_nil)) (blkOk_by (N := N_law_rows) (sc := defScope s_law_rows) (by decide +kernel)) (fun _ _ _ _ _ => (dg_name sc_law_rows.nd)) (fun _ _ _ _ _ => dts_nil) (fun _ _ _ _ _ => (de_s (ds_tup (da_cons (de_s ds_str) (da_cons (de_callC C_law_term hr (by show _ ≤ 12 + n; omega) (by rfl) (da_cons (de_var 0) (da_cons (de_var 2) (da_cons (de_bin od_add (dp_s ds_int) (dp_e (de_callC C_law_draw hr (by show _ ≤ 12 + n; omega) (by rfl) (da_cons (de_var 0) (da_cons (de_s ds_int) da_nil))))) da_nil)))) da_nil)))))))))
    (dss_one (dst_retB (dew_e (de_s (ds_tup (da_cons (de_ct cd_tuple (by rfl) T.b_tuple (by decide +kernel) (dps_cons (dp_var 6) dps_nil)) (da_cons (de_var 2) da_nil)))))))))), bf1, mf1, Fu1.kp⟩⟩
theorem ok_law_program (T : Tx K mg) (C_law_names : Cal P w K mg base "_law_names" 3 2 F_law_names) (C_law_draw : Cal P w K mg base "_law_draw" 2 2 F_law_draw) (CB_law_rows : CalB P w K mg base "_law_rows" 20 6 (FB_law_rows 8)) (CB_law_throw : CalB P w K mg base "_law_throw" 4 3 FB_law_throw) {f : Addr} {fd : FuncData} (Fu : Fun K "_law_program" "_law_program" s_law_program f fd) (mf : mg "_law_program" = some (.ref f)) (bf : Binds K fd ["_law_deal_here", "_law_kinds", "_law_throws", "_law_wide"] []) : Cal P w K mg base "_law_program" 21 4 F_law_program :=
  ⟨f, fd, _, fn_d Fu sc_law_program fun cdv A outer s H E hr =>
  (dss_cons (dst_set sc_law_program.nd (de_callC C_law_names hr (by decide) (by rfl) (da_cons (de_var 0) (da_cons (de_s ds_int) da_nil))))
    (dss_cons (dst_set sc_law_program.nd (de_bin od_add (dp_s ds_int) (dp_e (de_callC C_law_draw hr (by decide) (by rfl) (da_cons (de_var 0) (da_cons (de_var 1) da_nil))))))
    (dss_cons (dst_set sc_law_program.nd (de_disp (.cons pe_str (ds_e (de_sl (dp_var 4) (do_some (dp_s ds_int)) do_none)) (.cons pe_str (ds_e (de_var 5)) (.cons pe_str (ds_e (de_var 3)) (.cons pe_str (ds_e (de_var 2)) (.cons pe_str ds_int (.cons pe_str ds_bl (.cons pe_str (ds_e (de_var 2)) .nil))))))) (fun z => nomatch z) (by decide)))
    (dss_cons (dst_set sc_law_program.nd (de_ix hr.u1 (dp_var 4) (dp_s ds_int)))
    (dss_cons (dst_set sc_law_program.nd (de_bin od_add (dp_s ds_int) (dp_e (de_callC C_law_draw hr (by decide) (by rfl) (da_cons (de_var 0) (da_cons (de_s ds_int) da_nil))))))
    (dss_cons (dst_put 6 hr.u1 (dp_s ds_str) (ds_e (de_bin od_sub (dp_e (de_bin od_sub (dp_e (de_ix hr.u1 (dp_var 6) (dp_s ds_str))) (dp_s ds_int))) (dp_var 8))))
    (dss_cons (dst_if (dt_cmp (od_eq (hu64 hr.rm)) (dp_e (de_callC C_law_draw hr (by decide) (by rfl) (da_cons (de_var 0) (da_cons (de_s ds_int) da_nil)))) (dp_s ds_int)) (dss_cons (dst_asgW (dsw_e (dew_callBC CB_law_rows hr (by decide) (by rfl) (dab_cons (dew_e (de_var 0)) (dab_bor 6 (dab_cons (dew_e (de_lst (da_cons (de_var 7) da_nil))) (dab_cons (dew_e (de_s ds_int)) (dab_cons (dew_e (de_var 8)) (dab_cons (dew_e (de_s ds_int)) dab_nil)))))))) (dg_tup rfl (dgs_cons (dg_name sc_law_program.nd) (dgs_cons (dg_name sc_law_program.nd) dgs_nil))))
    (dss_one (dst_ret (de_s (ds_tup (da_cons (de_ct cd_tuple (by rfl) T.b_tuple (by decide +kernel) (dps_cons (dp_e (de_sl (dp_var 4) do_none (do_some (dp_var 5)))) dps_nil)) (da_cons (de_bin od_add (dp_s (ds_tup (da_cons (de_s (ds_tup (da_cons (de_s ds_str) (da_cons (de_var 7) (da_cons (de_s (ds_tup (da_cons (de_s ds_str) (da_cons (de_callC C_law_draw hr (by decide) (by rfl) (da_cons (de_var 0) (da_cons (de_s ds_int) da_nil))) da_nil)))) da_nil))))) da_nil))) (dp_var 9)) da_nil))))))) dss_nil)
    (dss_cons (dst_put 6 hr.u1 (dp_s ds_str) (ds_e (de_bin od_sub (dp_e (de_ix hr.u1 (dp_var 6) (dp_s ds_str))) (dp_s ds_int))))
    (dss_cons (dst_setW sc_law_program.nd (dew_callBC CB_law_throw hr (by decide) (by rfl) (dab_cons (dew_e (de_var 0)) (dab_bor 6 (dab_cons (dew_e (de_var 7)) dab_nil)))))
    (dss_cons (dst_asgW (dsw_e (dew_callBC CB_law_rows hr (by decide) (by rfl) (dab_cons (dew_e (de_var 0)) (dab_bor 6 (dab_cons (dew_e (de_lst (da_cons (de_var 7) da_nil))) (dab_cons (dew_e (de_s ds_int)) (dab_cons (dew_e (de_var 8)) (dab_cons (dew_e (de_s ds_int)) dab_nil)))))))) (dg_tup rfl (dgs_cons (dg_name sc_law_program.nd) (dgs_cons (dg_name sc_law_program.nd) dgs_nil))))
    (dss_one (dst_ret (de_s (ds_tup (da_cons (de_ct cd_tuple (by rfl) T.b_tuple (by decide +kernel) (dps_cons (dp_e (de_sl (dp_var 4) do_none (do_some (dp_var 5)))) dps_nil)) (da_cons (de_bin od_add (dp_s (ds_tup (da_cons (de_var 11) da_nil))) (dp_var 9)) da_nil)))))))))))))))), bf, mf, Fu.kp⟩
theorem ok_law_listed (T : Tx K mg)  {f : Addr} {fd : FuncData} (Fu : Fun K "_law_listed" "_law_listed" s_law_listed f fd) (mf : mg "_law_listed" = some (.ref f)) (bf : Binds K fd ["_law_rows_here"] []) : ∀ n : Nat, Cal P w K mg base "_law_listed" (1 + n) 1 (F_law_listed n)
  | 0 => ⟨f, fd, _, fn_none, bf, mf, Fu.kp⟩
  | n + 1 =>
    have C_law_listed := ok_law_listed T  Fu mf bf n
    ⟨f, fd, _, fn_d Fu sc_law_listed fun cdv A outer s H E hr =>
  (dss_cons (dst_set sc_law_listed.nd (de_lst da_nil))
    (dss_cons (dst_for PassesOwn.never rfl (di_any (ds_e (de_var 0))) (dg_name sc_law_listed.nd) (dss_cons (dst_app 1 (ds_e (de_var 2)))
    (dss_one (dst_if (dt_cmp (od_in (hu65 hr)) (dp_e (de_ix hr.u1 (dp_var 2) (dp_s ds_int))) (dp_s (ds_tup (da_cons (de_s ds_str) (da_cons (de_s ds_str) da_nil))))) (dss_one (dst_for PassesOwn.never rfl (di_any (ds_e (de_sl (dp_var 2) (do_some (dp_s ds_int)) do_none))) (dg_name sc_law_listed.nd) (dss_one (dst_ext 1 (dp_e (de_callC C_law_listed hr (by show _ ≤ 1 + n; omega) (by rfl) (da_cons (de_var 3) da_nil))))))) dss_nil))))
    (dss_one (dst_ret (de_var 1))))), bf, mf, Fu.kp⟩
theorem ok_law_names_in (T : Tx K mg)  {f : Addr} {fd : FuncData} (Fu : Fun K "_law_names_in" "_law_names_in" s_law_names_in f fd) (mf : mg "_law_names_in" = some (.ref f)) (bf : Binds K fd ["_law_term_here"] []) : ∀ n : Nat, Cal P w K mg base "_law_names_in" (1 + n) 1 (F_law_names_in n)
  | 0 => ⟨f, fd, _, fn_none, bf, mf, Fu.kp⟩
  | n + 1 =>
    have C_law_names_in := ok_law_names_in T  Fu mf bf n
    ⟨f, fd, _, fn_d Fu sc_law_names_in fun cdv A outer s H E hr =>
  (dss_cons (dst_if (dt_cmp (od_eq (hu64 hr.rm)) (dp_e (de_ix hr.u1 (dp_var 0) (dp_s ds_int))) (dp_s ds_str)) (dss_one (dst_ret (de_lst (da_cons (de_ix hr.u1 (dp_var 0) (dp_s ds_int)) da_nil)))) dss_nil)
    (dss_cons (dst_if (dt_cmp (od_eq (hu64 hr.rm)) (dp_e (de_ix hr.u1 (dp_var 0) (dp_s ds_int))) (dp_s ds_str)) (dss_one (dst_ret (de_bin od_add (dp_e (de_callC C_law_names_in hr (by show _ ≤ 1 + n; omega) (by rfl) (da_cons (de_ix hr.u1 (dp_var 0) (dp_s ds_int)) da_nil))) (dp_e (de_callC C_law_names_in hr (by show _ ≤ 1 + n; omega) (by rfl) (da_cons (de_ix hr.u1 (dp_var 0) (dp_s ds_int)) da_nil)))))) dss_nil)
    (dss_one (dst_ret (de_lst da_nil))))), bf, mf, Fu.kp⟩
theorem ok_law_needed (T : Tx K mg) (C_law_listed : Cal P w K mg base "_law_listed" 7 1 (F_law_listed 6)) (C_law_names_in : Cal P w K mg base "_law_names_in" 9 1 (F_law_names_in 8)) {f : Addr} {fd : FuncData} (Fu : Fun K "_law_needed" "_law_needed" s_law_needed f fd) (mf : mg "_law_needed" = some (.ref f)) (bf : Binds K fd ["_law_program_here"] []) : Cal P w K mg base "_law_needed" 10 1 F_law_needed :=
  ⟨f, fd, _, fn_d Fu sc_law_needed fun cdv A outer s H E hr =>
  (dss_cons (dst_set sc_law_needed.nd (de_callC C_law_listed hr (by decide) (by rfl) (da_cons (de_ix hr.u1 (dp_var 0) (dp_s ds_int)) da_nil)))
    (dss_cons (dst_set sc_law_needed.nd (de_lst da_nil))
    (dss_cons (dst_for PassesOwn.never rfl (di_any (ds_e (de_var 1))) (dg_name sc_law_needed.nd) (dss_one (dst_if (dt_cmp (od_in (hu65 hr)) (dp_e (de_ix hr.u1 (dp_var 3) (dp_s ds_int))) (dp_s (ds_tup (da_cons (de_s ds_str) (da_cons (de_s ds_str) da_nil))))) (dss_one (dst_set sc_law_needed.nd (de_bin od_add (dp_var 2) (dp_e (de_callC C_law_names_in hr (by decide) (by rfl) (da_cons (de_ix hr.u1 (dp_var 3) (dp_s ds_int)) da_nil)))))) dss_nil)))
    (dss_cons (dst_for PassesOwn.never rfl (di_rg1 (by rfl) T.b_range (dps_cons (dp_e (de_cb cd_len (by rfl) T.b_len (by decide +kernel) (dps_cons (dp_var 1) dps_nil))) dps_nil)) (dg_name sc_law_needed.nd) (dss_one (dst_for PassesOwn.never rfl (di_any (ds_e (de_var 1))) (dg_name sc_law_needed.nd) (dss_one (dst_if (PW.pt (dw_and (dt_cmp (od_eq (hu64 hr.rm)) (dp_e (de_ix hr.u1 (dp_var 3) (dp_s ds_int))) (dp_s ds_str)) (dw_and1 (dt_cmp (od_in (hu65 hr)) (dp_e (de_ix hr.u1 (dp_var 3) (dp_s ds_int))) (dp_var 2))))) (dss_one (dst_set sc_law_needed.nd (de_bin od_add (dp_var 2) (dp_e (de_lc (own := [("_law_y", 5)]) rfl sc_law_needed.nd (di_any (ds_e (de_callC C_law_names_in hr (by decide) (by rfl) (da_cons (de_ix hr.u1 (dp_var 3) (dp_s ds_int)) da_nil)))) (blkOk_by (N := N_law_needed) (sc := defScope s_law_needed) (by decide +kernel)) (fun _ _ _ _ _ => (dg_name sc_law_needed.nd)) (fun _ _ _ _ _ => (dts_one (dt_cmp (od_notin (hu65 hr)) (dp_var 5) (dp_var 2)))) (fun _ _ _ _ _ => (de_var 5))))))) dss_nil)))))
    (dss_one (dst_ret (de_sose rfl (hu65 hr) (by rfl) T.b_sorted (by rfl) T.b_set (dp_var 2)))))))), bf, mf, Fu.kp⟩
theorem ok_law_idle (T : Tx K mg)  {f : Addr} {fd : FuncData} (Fu : Fun K "_law_idle" "_law_idle" s_law_idle f fd) (mf : mg "_law_idle" = some (.ref f)) (bf : Binds K fd ["_law_row_here", "_law_names_here"] []) : Cal P w K mg base "_law_idle" 1 2 F_law_idle :=
  ⟨f, fd, _, fn_d Fu sc_law_idle fun cdv A outer s H E hr =>
  (dss_one (dst_ret (de_s (ds_and (ds_e (de_cmp (od_in (hu65 hr)) (dp_e (de_ix hr.u1 (dp_var 0) (dp_s ds_int))) (dp_s (ds_tup (da_cons (de_s ds_str) (da_cons (de_s ds_str) (da_cons (de_s ds_str) (da_cons (de_s ds_str) (da_cons (de_s ds_str) da_nil))))))))) (ds_one (ds_e (de_cmp (od_notin (hu65 hr)) (dp_e (de_ix hr.u1 (dp_var 0) (dp_s ds_int))) (dp_var 1)))))))), bf, mf, Fu.kp⟩
theorem ok_law_right (T : Tx K mg) (C_law_needed : Cal P w K mg base "_law_needed" 10 1 F_law_needed) (C_law_listed : Cal P w K mg base "_law_listed" 7 1 (F_law_listed 6)) (C_law_idle : Cal P w K mg base "_law_idle" 1 2 F_law_idle) (C_idle : Cal P w K mg base "idle" 11 1 F_idle) (C_needed : Cal P w K mg base "needed" 10 1 F_needed) {f : Addr} {fd : FuncData} (Fu : Fun K "_law_right" "_law_right" s_law_right f fd) (mf : mg "_law_right" = some (.ref f)) (bf : Binds K fd ["_law_program_here"] []) : Cal P w K mg base "_law_right" 12 1 F_law_right :=
  ⟨f, fd, _, fn_d Fu sc_law_right fun cdv A outer s H E hr =>
  (dss_cons (dst_set sc_law_right.nd (de_callC C_law_needed hr (by decide) (by rfl) (da_cons (de_var 0) da_nil)))
    (dss_cons (dst_set sc_law_right.nd (de_callC C_law_listed hr (by decide) (by rfl) (da_cons (de_ix hr.u1 (dp_var 0) (dp_s ds_int)) da_nil)))
    (dss_cons (dst_fz 1 (dst_setLc (own := [("_law_k", 5)]) rfl sc_law_right.nd (di_rg1 (by rfl) T.b_range (dps_cons (dp_e (de_cb cd_len (by rfl) T.b_len (by decide +kernel) (dps_cons (dp_var 2) dps_nil))) dps_nil)) (blkOk_by (N := N_law_right) (sc := defScope s_law_right) (by decide +kernel)) (fun _ _ _ _ _ => (dg_name sc_law_right.nd)) (fun _ _ _ _ _ => (dts_one (dt_val (ds_e (de_callC C_law_idle hr (by decide) (by rfl) (da_cons (de_ix hr.u1 (dp_var 2) (dp_var 5)) (da_cons (de_var 1) da_nil))))))) (fun _ _ _ _ _ => (de_var 5)) (sw_true rfl rfl rfl (by decide +kernel))))
    (dss_cons (dst_set sc_law_right.nd (de_callC C_idle hr (by decide) (by rfl) (da_cons (de_var 0) da_nil)))
    (dss_cons (dst_if (PW.pt (dw_or (dt_not (dt_val (ds_isi (by rfl) T.b_isinstance (by rfl) T.b_tuple (by decide +kernel) (dp_var 4)))) (dw_or (dt_val (ds_e (de_cb (cd_any rfl) (by rfl) T.b_any (by decide +kernel) (dps_cons (dp_e (de_lc (own := [("_law_k", 5)]) rfl sc_law_right.nd (di_any (ds_e (de_var 4))) (blkOk_by (N := N_law_right) (sc := defScope s_law_right) (by decide +kernel)) (fun _ _ _ _ _ => (dg_name sc_law_right.nd)) (fun _ _ _ _ _ => dts_nil) (fun _ _ _ _ _ => (de_s (ds_isi (by rfl) T.b_isinstance (by rfl) T.b_bool (by decide +kernel) (dp_var 5)))))) dps_nil)))) (dw_or1 (dt_cmp (od_ne (hu64 hr.rm)) (dp_e (de_ct cd_list (by rfl) T.b_list (by decide +kernel) (dps_cons (dp_var 4) dps_nil))) (dp_var 3)))))) (dss_one (dst_ret (de_s ds_bl))) dss_nil)
    (dss_cons (dst_set sc_law_right.nd (de_callC C_needed hr (by decide) (by rfl) (da_cons (de_var 0) da_nil)))
    (dss_one (dst_ret (de_s (ds_and (ds_isi (by rfl) T.b_isinstance (by rfl) T.b_tuple (by decide +kernel) (dp_var 4)) (ds_one (ds_e (de_cmp (od_eq (hu64 hr.rm)) (dp_e (de_ct cd_list (by rfl) T.b_list (by decide +kernel) (dps_cons (dp_var 4) dps_nil))) (dp_var 1)))))))))))))), bf, mf, Fu.kp⟩
theorem ok_law_chain (T : Tx K mg) (C_law_names : Cal P w K mg base "_law_names" 3 2 F_law_names) (C_law_draw : Cal P w K mg base "_law_draw" 2 2 F_law_draw) (C_law_throw : Cal P w K mg base "_law_throw" 4 3 F_law_throw) {f : Addr} {fd : FuncData} (Fu : Fun K "_law_chain" "_law_chain" s_law_chain f fd) (mf : mg "_law_chain" = some (.ref f)) (bf : Binds K fd ["_law_deal_here"] []) : Cal P w K mg base "_law_chain" 5 1 F_law_chain :=
  ⟨f, fd, _, fn_d Fu sc_law_chain fun cdv A outer s H E hr =>
  (dss_cons (dst_set sc_law_chain.nd (de_callC C_law_names hr (by decide) (by rfl) (da_cons (de_var 0) (da_cons (de_s ds_int) da_nil))))
    (dss_cons (dst_set sc_law_chain.nd (de_bin od_add (dp_s ds_int) (dp_e (de_callC C_law_draw hr (by decide) (by rfl) (da_cons (de_var 0) (da_cons (de_s ds_int) da_nil))))))
    (dss_cons (dst_set sc_law_chain.nd (de_lst (da_cons (de_callC C_law_throw hr (by decide) (by rfl) (da_cons (de_var 0) (da_cons (de_disp (.cons pe_str ds_int (.cons pe_str ds_int .nil)) (fun z => nomatch z) (by decide)) (da_cons (de_ix hr.u1 (dp_var 1) (dp_s ds_int)) da_nil)))) da_nil)))
    (dss_cons (dst_for PassesOwn.never rfl (di_rg1 (by rfl) T.b_range (dps_cons (dp_var 2) dps_nil)) (dg_name sc_law_chain.nd) (dss_one (dst_app 3 (ds_tup (da_cons (de_s ds_str) (da_cons (de_ix hr.u1 (dp_var 1) (dp_e (de_bin od_add (dp_s ds_int) (dp_var 4)))) (da_cons (de_s (ds_tup (da_cons (de_s ds_str) (da_cons (de_s ds_str) (da_cons (de_s (ds_tup (da_cons (de_s ds_str) (da_cons (de_ix hr.u1 (dp_var 1) (dp_e (de_bin od_add (dp_s ds_int) (dp_var 4)))) da_nil)))) (da_cons (de_s (ds_tup (da_cons (de_s ds_str) (da_cons (de_var 4) da_nil)))) da_nil)))))) da_nil)))))))
    (dss_cons (dst_set sc_law_chain.nd (de_bin od_sub (dp_var 2) (dp_e (de_callC C_law_draw hr (by decide) (by rfl) (da_cons (de_var 0) (da_cons (de_cb (cd_min2 rfl) (by rfl) T.b_min (by decide +kernel) (dps_cons (dp_s ds_int) (dps_cons (dp_e (de_bin od_add (dp_var 2) (dp_s ds_int))) dps_nil))) da_nil))))))
    (dss_one (dst_ret (de_s (ds_tup (da_cons (de_ct cd_tuple (by rfl) T.b_tuple (by decide +kernel) (dps_cons (dp_e (de_sl (dp_var 1) do_none (do_some (dp_s ds_int)))) dps_nil)) (da_cons (de_bin od_add (dp_e (de_ct cd_tuple (by rfl) T.b_tuple (by decide +kernel) (dps_cons (dp_var 3) dps_nil))) (dp_s (ds_tup (da_cons (de_s (ds_tup (da_cons (de_s ds_str) (da_cons (de_s (ds_tup (da_cons (de_s ds_str) (da_cons (de_ix hr.u1 (dp_var 1) (dp_e (de_bin od_add (dp_s ds_int) (dp_var 5)))) da_nil)))) da_nil)))) da_nil)))) da_nil))))))))))), bf, mf, Fu.kp⟩
theorem body_law (T : Tx K mg) (C_law_program : Cal P w K mg base "_law_program" 21 4 F_law_program) (C_law_chain : Cal P w K mg base "_law_chain" 5 1 F_law_chain) (C_law_right : Cal P w K mg base "_law_right" 12 1 F_law_right) {f : Addr} (cdv : Value) (A : Around) (outer : List Env) (s : Shared) (H : Hp) (E : XK) (hr : RmG 21 (A.deeper (envOfC "law" (defScope s_law) s.heap.objs.size f cdv))) : DSs (cxOf CX0 P w K mg base N_law "law" (defScope s_law) f cdv A outer s H E).nox (defBody s_law).tail M_law :=
  (dss_cons (dst_set sc_law.nd (de_callC C_law_program hr (by decide) (by rfl) (da_cons (de_var 1) (da_cons (de_s ds_int) (da_cons (de_s ds_int) (da_cons (de_s ds_int) da_nil))))))
    (dss_cons (dst_set sc_law.nd (de_callC C_law_program hr (by decide) (by rfl) (da_cons (de_var 1) (da_cons (de_s ds_int) (da_cons (de_s ds_int) (da_cons (de_s ds_int) da_nil))))))
    (dss_cons (dst_set sc_law.nd (de_callC C_law_chain hr (by decide) (by rfl) (da_cons (de_var 1) da_nil)))
    (dss_one (dst_ret (de_s (ds_and (ds_e (de_callC C_law_right hr (by decide) (by rfl) (da_cons (de_var 2) da_nil))) (ds_and (ds_e (de_callC C_law_right hr (by decide) (by rfl) (da_cons (de_var 3) da_nil))) (ds_and (ds_e (de_callC C_law_right hr (by decide) (by rfl) (da_cons (de_var 4) da_nil))) (ds_one (ds_e (de_callC C_law_right hr (by decide) (by rfl) (da_cons (de_var 2) da_nil)))))))))))))
end
end K36

set_option Elab.async false
set_option linter.all false
set_option maxRecDepth 100000
set_option maxHeartbeats 4000000
namespace K36
open PySem PySem.Spec PyProof.Rows L2 Pq Lb
section
variable {P : Program} {w : World} {K : PySem.W.Frag} {mg : Str → Option Value} {base : Heap}
theorem ok_law_draw (T : Tx K mg) {f : Addr} {fd : FuncData} (Fu : Fun K "_law_draw" "_law_draw" s_law_draw f fd) (mf : mg "_law_draw" = some (.ref f)) (bf : Binds K fd ["_law_deal_here", "_law_many"] []) : Cal P w K mg base "_law_draw" 2 2 fDraw := by
  refine ⟨f, fd, _, fn_g (Fu.ok sc_law_draw (fun vs H Q E h => ?_) (fun cdv A outer s H vs Q E hr h => ?_)), bf, mf, Fu.kp⟩
  · rw [spD_len h]
    rfl
  · obtain ⟨p, l, many, rfl, dl, m0, m1, fin⟩ := draw_spec h
    have hu := hu_of hr
    obtain ⟨seed, num, left, D⟩ := Dl.start dl
    refine ⟨_, pss_cons (ps_while PassesOwn.never
        (PW.pt (pw_and (pt_cmpR op_eq (pe_dget hu (pv 0) pe_str (fun _ _ => rfl)) pe_int (nomark _)) (pw_and1 (pt_cmpR op_gt (pe_callB call_len_seq (by rfl) T.b_len PySem.boot_len (pa_cons (pe_dget hu (pv 0) pe_str (fun _ _ => rfl)) pa_nil)) pe_int (nomark _)))))
        (pss_one (ps_dput hu (pv 0) pe_str (pe_bm0 PySem.F.plainAttrs_list PySem.F.slot_list_pop PySem.F.type_list_pop mt_pop (pe_dget hu (pv 0) pe_str (fun _ _ => rfl))) rfl)))
      (pss_cons (ps_set (i := 2) sc_law_draw.nd rfl (Or.inl rfl) (pe_dget hu (pv 0) pe_str (fun _ _ => rfl)))
      (pss_cons (ps_if (pt_cmpR op_gt (pv 2) pe_int (nomark _))
        (pss_cons (ps_dput hu (pv 0) pe_str (pe_op op_fdivW (pv 2) (pv 1)) rfl) (pss_one (ps_ret (pe_op op_mod (pv 2) (pv 1))))) pss_nil)
      (pss_cons (ps_set (i := 3) sc_law_draw.nd rfl (Or.inl rfl) (pe_op op_mod (pe_op op_add (pe_op op_mul (pe_dget hu (pv 0) pe_str (fun _ _ => rfl)) pe_int) pe_int) pe_int))
      (pss_cons (ps_dput hu (pv 0) pe_str (pe_op op_mod (pe_op op_add (pe_op op_mul (pv 3) pe_int) pe_int) pe_int) rfl)
      (pss_cons (ps_set (i := 4) sc_law_draw.nd rfl (Or.inl rfl) (pe_op op_mod (pe_op op_mul (pe_dget hu (pv 0) pe_str (fun _ _ => rfl)) (pe_dget hu (pv 0) pe_str (fun _ _ => rfl))) pe_int))
      (pss_one (ps_ret (pe_op op_mod (pe_op op_add (pe_op op_mul (pe_op op_mod (pe_op op_mul (pv 3) (pv 3)) pe_int) pe_int) (pv 4)) (pv 1))))))))), ?_⟩
    -- while number == 0 and len(left) > 0
    refine ⟨fun m σ H' => σ = [some (.ref p), some (.int many), none, none, none] ∧ ∃ num left, Dl H p l seed num left H' ∧ left.length = m, ⟨left.length, rfl, num, left, D, rfl⟩, ?_⟩
    rintro m σ H1 ⟨rfl, num, left, D, rfl⟩
    refine ⟨.ref p, rfl, p, .int num, rfl, D.gnum, rfl, _, rfl, ite2 (fun e => ?_) (fun e => ?_)⟩
    · refine ⟨.ref p, rfl, p, .ref l, rfl, D.gleft, l, _, rfl, .inl (.inl (.inl D.hl)), _, _, rfl, rfl, _, rfl, ite2 (fun e2 => ?_) (fun e2 => ?_)⟩
      · -- number = left.pop()
        have hne : left ≠ [] := fun z => by
          subst z
          exact absurd (of_decide_eq_true e2) (by decide)
        have hx : (left.map V.int)[(left.map V.int).length - 1]? = some (.int (left.getLast hne)) := by
          rw [List.length_map, List.getElem?_map, ← List.getLast?_eq_getElem?, List.getLast?_eq_some_getLast hne]
          rfl
        have hlen : left.dropLast.length < left.length := by
          rw [List.length_dropLast]
          have : 0 < left.length := List.length_pos_iff.mpr hne
          omega
        have D2 := D.left (left' := left.dropLast) (by have := D.few; omega) fun x hx => D.pos x ((List.dropLast_sublist left).subset hx)
        have D3 := D2.num (x := left.getLast hne) (D.pos _ (List.getLast_mem hne))
        refine ⟨fun σ' H' => σ' = [some (.ref p), some (.int many), none, none, none] ∧ ∃ num left', Dl H p l seed num left' H' ∧ left'.length < left.length, fun σ' H' ⟨h1, num', left', h2, h3⟩ => ⟨left'.length, h3, h1, num', left', h2, rfl⟩, ?_⟩
        refine ⟨.ref p, rfl, p, .ref l, rfl, D.gleft, .inl ⟨rfl, _, .inl (.inl D.hl)⟩, l, _, _, rfl, rfl, D.hl, hx, .ref p, rfl, p, _, rfl, ?_, rfl, _, _, D3, hlen⟩
        rw [← List.map_dropLast]
        exact D2.pnum
      · refine ⟨.ref p, rfl, p, .int num, rfl, D.gnum, _, rfl, _, _, rfl, rfl, _, rfl, ite2 (fun e => ?_) (fun e => ?_)⟩
        · exact ⟨_, rfl, _, rfl, _, _, rfl, rfl, wide_div (b := 64) m0 (by omega) (by decide) (by decide), _, rfl, p, _, rfl, D.pnum, _, rfl, _, rfl, _, _, rfl, rfl, m0, fin _ _ seed _ left (Int.emod_nonneg _ (by omega)) (Int.emod_lt_of_pos _ m0) (D.num (Int.ediv_nonneg D.n0 (by omega)))⟩
        · have D' := D.seed (x := ((seed * 48271 + 7919) % 2147483647 * 40692 + 104729) % 2147483399) (Int.emod_nonneg _ (by decide)) (by have := Int.emod_lt_of_pos ((seed * 48271 + 7919) % 2147483647 * 40692 + 104729) (show (0 : Int) < 2147483399 by decide); omega)
          have b1 := Int.emod_nonneg (seed * 48271 + 7919) (show (2147483647 : Int) ≠ 0 by decide)
          have b2 := Int.emod_lt_of_pos (seed * 48271 + 7919) (show (0 : Int) < 2147483647 by decide)
          have c1 := D'.s0
          have c2 := D'.s1
          exact ⟨_, rfl, p, _, rfl, D.gseed, _, _, rfl, rfl, .inr ⟨by decide, by decide⟩, _, _, rfl, rfl, _, _, rfl, rfl, (pz _ (by decide)),
            _, rfl, _, _, rfl, rfl, .inr ⟨by decide, by decide⟩, _, _, rfl, rfl, _, _, rfl, rfl, (pz _ (by decide)), _, rfl, p, _, rfl, D.pseed,
            _, rfl, p, _, rfl, D'.gseed, _, rfl, p, _, rfl, D'.gseed, _, _, rfl, rfl, .inl ⟨by omega, by omega⟩, _, _, rfl, rfl, (pz _ (by decide)),
            _, rfl, _, rfl, _, _, rfl, rfl, .inl ⟨by omega, by omega⟩, _, _, rfl, rfl, (pz _ (by decide)), _, _, rfl, rfl, .inr ⟨by decide, by decide⟩, _, rfl, _, _, rfl, rfl, _, rfl, _, _, rfl, rfl, m0, fin _ _ _ _ left (Int.emod_nonneg _ (by omega)) (Int.emod_lt_of_pos _ m0) D'⟩
    · refine iteF ?_
      refine ⟨.ref p, rfl, p, .int num, rfl, D.gnum, _, rfl, _, _, rfl, rfl, _, rfl, ite2 (fun e => ?_) (fun e => ?_)⟩
      · exact ⟨_, rfl, _, rfl, _, _, rfl, rfl, wide_div (b := 64) m0 (by omega) (by decide) (by decide), _, rfl, p, _, rfl, D.pnum, _, rfl, _, rfl, _, _, rfl, rfl, m0, fin _ _ seed _ left (Int.emod_nonneg _ (by omega)) (Int.emod_lt_of_pos _ m0) (D.num (Int.ediv_nonneg D.n0 (by omega)))⟩
      · have D' := D.seed (x := ((seed * 48271 + 7919) % 2147483647 * 40692 + 104729) % 2147483399) (Int.emod_nonneg _ (by decide)) (by have := Int.emod_lt_of_pos ((seed * 48271 + 7919) % 2147483647 * 40692 + 104729) (show (0 : Int) < 2147483399 by decide); omega)
        have b1 := Int.emod_nonneg (seed * 48271 + 7919) (show (2147483647 : Int) ≠ 0 by decide)
        have b2 := Int.emod_lt_of_pos (seed * 48271 + 7919) (show (0 : Int) < 2147483647 by decide)
        have c1 := D'.s0
        have c2 := D'.s1
        exact ⟨_, rfl, p, _, rfl, D.gseed, _, _, rfl, rfl, .inr ⟨by decide, by decide⟩, _, _, rfl, rfl, _, _, rfl, rfl, (pz _ (by decide)),
          _, rfl, _, _, rfl, rfl, .inr ⟨by decide, by decide⟩, _, _, rfl, rfl, _, _, rfl, rfl, (pz _ (by decide)), _, rfl, p, _, rfl, D.pseed,
          _, rfl, p, _, rfl, D'.gseed, _, rfl, p, _, rfl, D'.gseed, _, _, rfl, rfl, .inl ⟨by omega, by omega⟩, _, _, rfl, rfl, (pz _ (by decide)),
          _, rfl, _, rfl, _, _, rfl, rfl, .inl ⟨by omega, by omega⟩, _, _, rfl, rfl, (pz _ (by decide)), _, _, rfl, rfl, .inr ⟨by decide, by decide⟩, _, rfl, _, _, rfl, rfl, _, rfl, _, _, rfl, rfl, m0, fin _ _ _ _ left (Int.emod_nonneg _ (by omega)) (Int.emod_lt_of_pos _ m0) D'⟩
end

section
variable {P : Program} {w : World} {K : PySem.W.Frag} {mg : Str → Option Value} {base : Heap}
theorem ok_law_deal (T : Tx K mg) {f : Addr} {fd : FuncData} (Fu : Fun K "_law_deal" "_law_deal" s_law_deal f fd) : FnOk P w K mg base CX0 2 f fd ["_law_script", "_law_base"] (spDeal K) := by
  refine Fu.ok sc_law_deal (fun vs H Q E h => ?_) (fun cdv A outer s H vs Q E hr h => ?_)
  · obtain ⟨a, ns, b, rfl, _⟩ := h
    rfl
  · obtain ⟨a, ns, b, rfl, hS, hlen, b0, b1, fin⟩ := h
    have hu := hu_of hr
    refine ⟨_, pss_cons (ps_setLc (i := 3) (own := [("_law_cell", 2)]) rfl sc_law_deal.nd rfl rfl (sw_true rfl rfl rfl (by decide +kernel)) (pi_list (pe_slice sl_list (pv 0) (po_some (pv 1)) (po_some pe_int)))
        (blkOk_by (N := N_law_deal) (sc := defScope s_law_deal) (by decide +kernel)) (fun _ _ _ _ _ => pg_name (i := 2) sc_law_deal.nd rfl (Or.inl rfl)) (fun _ _ _ _ _ => pts_nil)
        (fun _ _ _ _ _ => pe_callB (call_max2 rfl) (by rfl) T.b_max (by decide +kernel) (pa_cons (pv 2) (pa_cons (pe_op op_sub pe_int (pv 2)) pa_nil))))
      (pss_cons (ps_set (i := 4) sc_law_deal.nd rfl (Or.inl rfl) (pe_op op_add pe_int (pv 1)))
      (pss_cons (ps_for PassesOwn.never rfl (pi_list (pv 3)) (pg_name (i := 2) sc_law_deal.nd rfl (Or.inl rfl))
        (pss_one (ps_set (i := 4) sc_law_deal.nd rfl (Or.inl rfl) (pe_op op_mod (pe_op op_add (pe_op op_mul (pv 4) pe_int) (pe_op op_mod (pv 2) pe_int)) pe_int))))
      (pss_one (ps_ret (pe_disp (pps_cons pe_str (pv 4) (pps_cons pe_str pe_int (pps_cons pe_str (pe_lstRev rfl (by rfl) T.b_list (by rfl) T.b_reversed
        (pe_lc (own := [("_law_cell", 2)]) rfl sc_law_deal.nd (pi_list (pv 3)) (blkOk_by (N := N_law_deal) (sc := defScope s_law_deal) (by decide +kernel)) (fun _ _ _ _ _ => pg_name (i := 2) sc_law_deal.nd rfl (Or.inl rfl))
          (fun _ _ _ _ _ => pts_one (pt_cmpR op_ge (pv 2) (pe_op op_pow pe_int pe_int) (nomark _))) (fun _ _ _ _ _ => pv 2))) pps_nil))) (by rfl) (by rfl) (by simp) (by decide)))))), ?_⟩
    obtain ⟨ms, em, hm⟩ := cut_ints ns (some b) (some 63)
    -- _law_script[_law_base:63]
    refine ⟨.ref a, rfl, .int b, rfl, b, rfl, 63, rfl, a, _, rfl, hS, fun c nc => ?_⟩
    refine ⟨c, rfl, ⟨_, .inl (.inl upd_same)⟩, fun D hD => ?_⟩
    have s1 : Same H (upd H c (.lst (cutV (ns.map V.int) (some b) (some 63)))) := same_new nc
    rw [em] at *
    refine lc_list (xs := ms.map V.int) (fun i H' => ∃ acc : List Int, H' D = some (.lst (acc.map V.int)) ∧ acc.length = i ∧ (∀ x ∈ acc, 0 ≤ x) ∧ Same (upd H c (.lst (ms.map V.int))) H') ⟨[], upd_same, rfl, (fun _ z => by cases z), same_new hD⟩
      (fun i H' _ ⟨_, _, _, _, s2⟩ => .inl (.inl (s2 _ _ upd_same))) (fun i x H' hx ⟨acc, h1, h2, h3, s2⟩ => ?_) (fun H' ⟨acc, h1, h2, h3, s2⟩ => ?_)
    · obtain ⟨z, hz, rfl⟩ := map_at hx
      refine ⟨rfl, ?_⟩
      unfold tYes
      dsimp only
      rw [if_pos rfl]
      refine ⟨_, rfl, _, rfl, 0, z, rfl, rfl, z, 0 - z, rfl, _, h1, ?_, acc ++ [if 0 - z > z then 0 - z else z], ?_, ?_, ?_, ?_⟩
      · rw [List.length_map, h2]
        have := (List.getElem?_eq_some_iff.mp hz).1
        exact small1000 (by omega)
      · rw [upd_same, List.map_append]; rfl
      · rw [List.length_append, h2]; rfl
      · intro x hx
        rcases List.mem_append.mp hx with q | q
        · exact h3 x q
        · have : x = if 0 - z > z then 0 - z else z := by simpa using q
          rw [this]; split <;> omega
      · intro q o e
        have nq : q ≠ D := fun y => by subst y; rw [hD] at e; cases e
        rw [upd_ne nq]; exact s2 q o e
    · rw [List.length_map] at h2
      have s3 : Same H H' := s1.trans s2
      have hDn : H D = none := s1.free hD
      -- _law_number = ..
      refine ⟨_, rfl, _, _, rfl, rfl, ?_⟩
      -- for _law_cell in _law_cells
      refine ⟨.ref D, rfl, D, rfl, ⟨_, .inl (.inl h1)⟩, for_list (K := K) (a := D) (xs := acc.map V.int) (fun i σ H2 => ∃ z y, σ = [some (.ref a), some (.int b), y, some (.ref D), some (.int z)] ∧ H2 = H' ∧ 0 ≤ z ∧ z < 2 ^ 32)
        ⟨_, _, rfl, rfl, by omega, by omega⟩ (fun i σ H2 _ ⟨_, _, _, e, _⟩ => by subst e; exact .inl (.inl h1)) ?_ ?_⟩
      · rintro i x σ H2 hx ⟨z, y, rfl, rfl, z0, z1⟩
        obtain ⟨c1, _, rfl⟩ := map_at hx
        refine ⟨_, rfl, _, _, rfl, rfl, .inr ⟨by decide, by decide⟩, _, rfl, _, _, rfl, rfl, pz _ (by decide), _, _, rfl, rfl, _, _, rfl, rfl, pz _ (by decide), _, _, rfl, rfl, Int.emod_nonneg _ (by decide), ?_⟩
        have := Int.emod_lt_of_pos (z * 69621 + c1 % 2147483629) (show (0 : Int) < 2147483647 by decide)
        omega
      · rintro σ H2 ⟨z, y, rfl, rfl, z0, z1⟩
        -- the dict
        intro p hp
        have s4 : Same H2 (upd H2 p (.dK [])) := same_new hp
        refine ⟨_, rfl, .ref D, rfl, D, rfl, ⟨_, .inl (.inl (s4 _ _ h1))⟩, fun D2 hD2 => ?_⟩
        have pD2 : p ≠ D2 := fun y => by subst y; rw [upd_same] at hD2; cases hD2
        refine lc_list (xs := acc.map V.int) (fun i H3 => ∃ acc2 : List Int, H3 D2 = some (.lst (acc2.map V.int)) ∧ acc2.length ≤ i ∧ (∀ x ∈ acc2, 0 ≤ x) ∧ Same (upd H2 p (.dK [])) H3) ⟨[], upd_same, Nat.le_refl _, (fun _ z => by cases z), same_new hD2⟩
          (fun i H3 _ ⟨_, _, _, _, s5⟩ => .inl (.inl (s5 _ _ (s4 _ _ h1)))) (fun i x H3 hx ⟨acc2, g1, g2, g3, s5⟩ => ?_) (fun H3 ⟨acc2, g1, g2, g3, s5⟩ => ?_)
        · obtain ⟨c1, hc1, rfl⟩ := map_at hx
          have hc0 : 0 ≤ c1 := h3 c1 (List.mem_of_getElem? hc1)
          refine ⟨rfl, _, rfl, _, _, rfl, rfl, ⟨by decide, by decide, by decide⟩, _, _, rfl, rfl, _, rfl, ite2 (fun _ => ?_) (fun _ => ⟨acc2, g1, by omega, g3, s5⟩)⟩
          refine ⟨_, rfl, _, g1, ?_, acc2 ++ [c1], ?_, ?_, ?_, ?_⟩
          · rw [List.length_map]
            have := (List.getElem?_eq_some_iff.mp hc1).1
            exact small1000 (by omega)
          · rw [upd_same, List.map_append]; rfl
          · rw [List.length_append]; exact Nat.succ_le_succ g2
          · intro x hx
            rcases List.mem_append.mp hx with q | q
            · exact g3 x q
            · have : x = c1 := by simpa using q
              rw [this]; exact hc0
          · intro q o e
            have nq : q ≠ D2 := fun y => by subst y; rw [hD2] at e; cases e
            rw [upd_ne nq]; exact s5 q o e
        · rw [List.length_map] at g2
          refine ⟨D2, _, rfl, .inl g1, fun q hq => ?_⟩
          have hp3 : H3 p = some (.dK []) := s5 _ _ upd_same
          have pq : p ≠ q := fun y => by subst y; rw [hp3] at hq; cases hq
          refine ⟨by rw [upd_ne pq]; exact hp3, [(kSeed, .int z), (kNum, .int 0), (kLeft, .ref q)], rfl, by show 3 ≤ 15; decide, ?_⟩
          have s6 : Same H H3 := s3.trans (s4.trans s5)
          refine fin p q _ (fun x o e => ?_) (s3.free hp) (s6.free hq) ⟨pq, z, 0, acc2.reverse, by rw [upd_same, merge3]; rfl, by rw [upd_ne pq.symm, upd_same, List.map_reverse], z0, z1, Int.le_refl 0, by rw [List.length_reverse]; omega, fun x hx => g3 x (List.mem_reverse.mp hx)⟩
          have nx : x ≠ p := fun y => by subst y; rw [s3.free hp] at e; cases e
          rw [upd_ne nx, upd_ne (ne_of_none (s6 x o e) hq)]
          exact s6 x o e
end

end K36

set_option Elab.async false
set_option linter.all false
set_option maxRecDepth 100000
set_option maxHeartbeats 4000000
set_option pp.maxSteps 600
namespace K36
open PySem PySem.Spec PyProof.Rows L2 Pq Lb
/-! ### programs -/
inductive Tm where
  | num (n : Int)
  | name (x : Str)
  | op (o : Str) (a b : Tm)
def tmD : Tm → Da
  | .num n => .tuple [.str "num", .int n]
  | .name x => .tuple [.str "name", .str x]
  | .op o a b => .tuple [.str "op", .str o, tmD a, tmD b]
def tsz : Tm → Nat
  | .num _ => 1
  | .name _ => 1
  | .op _ a b => tsz a + tsz b + 1
inductive Th where
  | ladder (ws : List Int) (a : Rat) (lo hi : Int)
  | flat (ws : List Int) (r lo hi : Int)
  | choose (sums : List (List Int)) (a : Rat) (lo hi : Int)
  | first (m : Int) (a b : Rat) (sums : List (List Int)) (lo hi : Int)
def wsD (ws : List Int) : Da := .tuple (ws.map .int)
def thD (x : Str) : Th → Da
  | .ladder ws a lo hi => .tuple [.str "ladder", .str x, wsD ws, fr a, .int lo, .int hi]
  | .flat ws r lo hi => .tuple [.str "flat", .str x, wsD ws, .int r, .int lo, .int hi]
  | .choose sums a lo hi => .tuple [.str "choose", .str x, .tuple (sums.map wsD), fr a, .int lo, .int hi]
  | .first m a b sums lo hi => .tuple [.str "first", .str x, .int m, fr a, fr b, .tuple (sums.map wsD), .int lo, .int hi]
inductive Rw where
  | thr (x : Str) (t : Th)
  | lt (x : Str) (t : Tm)
  | tell (t : Tm)
  | when (t : Tm) (a b : List Rw)
  | times (k : Int) (a : List Rw)
mutual
def rwD : Rw → Da
  | .thr x t => thD x t
  | .lt x t => .tuple [.str "let", .str x, tmD t]
  | .tell t => .tuple [.str "tell", tmD t]
  | .when t a b => .tuple [.str "when", tmD t, .tuple (rwsD a), .tuple (rwsD b)]
  | .times k a => .tuple [.str "times", .int k, .tuple (rwsD a)]
def rwsD : List Rw → List Da
  | [] => []
  | r :: rs => rwD r :: rwsD rs
end
theorem rwsD_map : ∀ rs : List Rw, rwsD rs = rs.map rwD
  | [] => rfl
  | r :: rs => by rw [rwsD, rwsD_map rs]; rfl
structure Sp (a : Rat) : Prop where
  st : St a
  n9 : a.num < 9
  d9 : a.den < 10
def WsOk (n : Int) (ws : List Int) : Prop := (ws.length : Int) = n ∧ ∀ w ∈ ws, 0 ≤ w ∧ w ≤ 3
def SumsOk (n : Int) (ss : List (List Int)) : Prop := 1 ≤ ss.length ∧ ss.length ≤ 4 ∧ ∀ ws ∈ ss, WsOk n ws
def Ends (wide lo hi : Int) : Prop := 0 ≤ lo ∧ lo ≤ 2 ∧ lo ≤ hi ∧ hi ≤ lo + wide
/-- throws that are made -/
def ThOk (n wide : Int) : Th → Prop
  | .ladder ws a lo hi => WsOk n ws ∧ Sp a ∧ Ends wide lo hi
  | .flat ws r lo hi => WsOk n ws ∧ (0 ≤ r ∧ r ≤ 4) ∧ Ends wide lo hi
  | .choose sums a lo hi => SumsOk n sums ∧ Sp a ∧ Ends wide lo hi
  | .first m a b sums lo hi => SumsOk n sums ∧ Sp a ∧ (Sp b ∧ 2 * b ≤ 1) ∧ (lo ≤ m ∧ m ≤ hi) ∧ Ends wide lo (hi - 1)
def tl (z : Str) : List Nat := z.cps.toList
/-- a text of signs that there are -/
def nmOk (x : Str) : Prop := ∀ c ∈ tl x, c < 0x110000
theorem nm_str {x : Str} (h : nmOk x) : PyData.strOk x = true := by
  unfold PyData.strOk
  rw [Array.all_eq_true']
  intro c hc
  exact decide_eq_true (h c (by unfold tl; exact Array.mem_toList_iff.mpr hc))
def OPS : List Str := ["+", "-", "*", "<", "="]
def tmG : Tm → Prop
  | .num n => 0 ≤ n ∧ n < 1000
  | .name x => nmOk x
  | .op o a b => o ∈ OPS ∧ tmG a ∧ tmG b
def TmOk (r : Nat) (t : Tm) : Prop := tsz t ≤ r ∧ tmG t
/-- rows, so deep at most -/
def RwOk (n wide : Int) : Nat → Rw → Prop
  | _, .thr x t => nmOk x ∧ ThOk n wide t
  | _, .lt x t => nmOk x ∧ TmOk 7 t
  | _, .tell t => TmOk 7 t
  | h + 1, .when t a b => TmOk 7 t ∧ (∀ r ∈ a, RwOk n wide h r) ∧ ∀ r ∈ b, RwOk n wide h r
  | 0, .when _ _ _ => False
  | h + 1, .times k a => (1 ≤ k ∧ k ≤ 3) ∧ ∀ r ∈ a, RwOk n wide h r
  | 0, .times _ _ => False
/-- all rows of a row, itself first -/
def lstR : Nat → Rw → List Rw
  | h + 1, .when t a b => .when t a b :: (a.flatMap (lstR h) ++ b.flatMap (lstR h))
  | h + 1, .times k a => .times k a :: a.flatMap (lstR h)
  | _, r => [r]
def cnt (h : Nat) (rs : List Rw) : Nat := (rs.flatMap (lstR h)).length
/-! ### steepnesses -/
theorem nocom : ∀ p q : Fin 10, 0 < p.val → (∀ d ∈ [2, 3, 5, 7], ¬ (p.val % d = 0 ∧ q.val % d = 0)) → Nat.gcd p.val q.val = 1 := by decide
theorem cop {p q : Int} (p0 : 0 < p) (p9 : p < 10) (q0 : 0 < q) (q9 : q < 10) (h : ∀ d ∈ ([2, 3, 5, 7] : List Int), ¬ (p % d = 0 ∧ q % d = 0)) : Int.gcd p q = 1 := by
  have e := nocom ⟨p.toNat, by omega⟩ ⟨q.toNat, by omega⟩ (by show 0 < p.toNat; omega) (fun d hd z => by
    have z : p.toNat % d = 0 ∧ q.toNat % d = 0 := z
    refine h (d : Int) ?_ ?_
    · simp only [List.mem_cons, List.not_mem_nil, or_false] at hd ⊢
      omega
    · have h1 : ((p.toNat % d : Nat) : Int) = 0 := by rw [z.1]; rfl
      have h2 : ((q.toNat % d : Nat) : Int) = 0 := by rw [z.2]; rfl
      rw [Int.natCast_emod] at h1 h2
      rw [Int.toNat_of_nonneg (by omega)] at h1 h2
      exact ⟨h1, h2⟩)
  have e : Nat.gcd p.toNat q.toNat = 1 := e
  unfold Int.gcd
  rw [show p.natAbs = p.toNat by omega, show q.natAbs = q.toNat by omega]
  exact e
theorem frac {p q : Int} (p0 : 0 < p) (pq : p < q) (q9 : q < 10) (c : Int.gcd p q = 1) : fr ((p : Rat) / (q : Rat)) = .tuple [.int p, .int q] ∧ Sp ((p : Rat) / (q : Rat)) := by
  have e := fr_div (a := p) (b := q) (by omega)
  rw [c] at e
  have e : fr ((p : Rat) / (q : Rat)) = .tuple [.int p, .int q] := by rw [e]; simp
  refine ⟨e, st_div p0 pq (by omega), ?_, ?_⟩
  · unfold fr at e
    injection e with e
    injection e with e1 e2
    injection e1 with e1
    omega
  · unfold fr at e
    injection e with e
    injection e with e1 e2
    injection e2 with e2
    injection e2 with e2
    omega
theorem dv9 {i j : Int} (j0 : 0 < j) (h : j < 1000000) : Dv i j := by
  have e : j = ((j.natAbs : Nat) : Int) := by omega
  rw [e]
  exact Lb.dv_of (n := 20) (by have : (2 : Nat) ^ 20 = 1048576 := by decide
                               omega) (by decide)
theorem w_steep (b : Bool) (Q : SV → Prop) (h : ∀ a, Sp a → (b = true → 2 * a ≤ 1) → Q (frv a)) : F_law_steep [.deal, .val (.bool b)] Q := by
  refine ⟨rfl, ⟨by decide, by decide⟩, fun r r0 r1 => ⟨show 2 < 5 by decide, ?_⟩⟩
  have main : ∀ p : Int, 0 < p → p < 2 + r → (b = true → 2 * p ≤ 2 + r) → msSeq (msFor (mItems (mTup (maCons (toE (mC (.int 2))) (maCons (toE (mC (.int 3))) (maCons (toE (mC (.int 5))) (maCons (toE (mC (.int 7))) maNil)))))) (mgName 4) (msWhile (mAnd (mTest (toD (mBin fEq (toD (mBin fMod (mPk 3) (mPk 4))) (mC (.int 0))))) (mTest (toD (mBin fEq (toD (mBin fMod (mPk 2) (mPk 4))) (mC (.int 0)))))) (msSeq (msSet 3 (mBin fDiv (mPk 3) (mPk 4)))
    (msSet 2 (mBin fDiv (mPk 2) (mPk 4))))))
    (msRet (toE (mTup (maCons (mVar 3) (maCons (mVar 2) maNil))))) [.deal, .val (.bool b), iv (2 + r), iv p, .no] ⟨fun _ => Q (.val .none), Q, fun _ => False, fun _ => False⟩ := fun p p0 p1 ph => by
    refine ⟨show 4 ≤ 1000000 by decide, ?_⟩
    refine for_L .int (fun done e => ∃ (p q : Int) (x : SV), 0 < p ∧ p < q ∧ q < 10 ∧ (b = true → 2 * p ≤ q) ∧ (∀ d ∈ done, ¬ (p % d = 0 ∧ q % d = 0)) ∧ e = [.deal, .val (.bool b), iv q, iv p, x]) [2, 3, 5, 7] _ ⟨p, 2 + r, .no, p0, p1, by omega, ph, (fun d hd => by cases hd), rfl⟩ ?_ ?_
    · rintro done d rest hL e ⟨p, q, x, p0, pq, q9, hb, hd, rfl⟩ N hN
      have d2 : 2 ≤ d ∧ d ≤ 7 := by
        have : d ∈ ([2, 3, 5, 7] : List Int) := by rw [hL]; exact List.mem_append_right _ List.mem_cons_self
        simp only [List.mem_cons, List.not_mem_nil, or_false] at this
        omega
      refine ⟨show 4 < 5 by decide, ?_⟩
      refine wh_inv (fun m e => ∃ (p q : Int), m = q.toNat ∧ 0 < p ∧ p < q ∧ q < 10 ∧ (b = true → 2 * p ≤ q) ∧ (∀ d ∈ done, ¬ (p % d = 0 ∧ q % d = 0)) ∧ e = [.deal, .val (.bool b), iv q, iv p, iv d]) q.toNat ⟨p, q, rfl, p0, pq, q9, hb, hd, rfl⟩ ?_
      rintro m e ⟨p, q, rfl, p0, pq, q9, hb, hd, rfl⟩ N2 hN2
      refine ⟨by omega, ?_⟩
      have stop : ¬ (p % d = 0 ∧ q % d = 0) → N [.deal, .val (.bool b), iv q, iv p, iv d] := fun hc => hN _ ⟨p, q, _, p0, pq, q9, hb, fun d' hd' => (List.mem_append.mp hd').elim (hd d') fun z => by rw [List.mem_singleton.mp z]; exact hc, rfl⟩
      refine iteD (fun c => ?_) fun c => ?_
      · have c : p % d = 0 := c
        refine ⟨by omega, ?_⟩
        refine iteD (fun c2 => ?_) fun c2 => ?_
        · have c2 : q % d = 0 := c2
          refine ⟨by omega, dv9 (by omega) (by omega), show 3 < 5 by decide, ?_⟩
          refine ⟨by omega, dv9 (by omega) (by omega), show 2 < 5 by decide, ?_⟩
          obtain ⟨u, hu⟩ := Int.dvd_of_emod_eq_zero c
          obtain ⟨v, hv⟩ := Int.dvd_of_emod_eq_zero c2
          subst hu hv
          have eu : d * u / d = u := Int.mul_ediv_cancel_left _ (by omega)
          have ev : d * v / d = v := Int.mul_ediv_cancel_left _ (by omega)
          have u0 : 0 < u := Int.lt_of_mul_lt_mul_left (a := d) (by rw [Int.mul_zero]; exact p0) (by omega)
          have uv : u < v := Int.lt_of_mul_lt_mul_left pq (by omega)
          have v9 : v < d * v := by
            have : 1 * v < d * v := Int.mul_lt_mul_of_pos_right (by omega) (by omega)
            omega
          refine hN2 v.toNat _ (by omega) ⟨u, v, rfl, u0, uv, by omega, fun z => ?_, fun d' hd' z => hd d' hd' ?_, by
            show [SV.deal, .val (.bool b), iv (d * v / d), iv (d * u / d), iv d] = _
            rw [eu, ev]⟩
          · have := hb z
            have : d * (2 * u) ≤ d * v := by
              rw [← Int.mul_assoc, Int.mul_comm d 2, Int.mul_assoc]; exact this
            exact Int.le_of_mul_le_mul_left this (by omega)
          · exact ⟨Int.emod_eq_zero_of_dvd (Int.dvd_trans (Int.dvd_of_emod_eq_zero z.1) (Int.dvd_mul_left _ _)), Int.emod_eq_zero_of_dvd (Int.dvd_trans (Int.dvd_of_emod_eq_zero z.2) (Int.dvd_mul_left _ _))⟩
        · exact stop fun z => c2 z.2
      · exact stop fun z => c z.1
    · rintro e ⟨p, q, x, p0, pq, q9, hb, hd, rfl⟩
      obtain ⟨e1, sp⟩ := frac p0 pq q9 (cop p0 (by omega) (by omega) q9 hd)
      refine ⟨show 2 ≤ 1000000 by decide, ?_⟩
      have := h _ sp fun z => half_div (by omega) (hb z)
      unfold frv at this
      rw [e1] at this
      exact this
  refine ⟨by decide, PyProof.noPylong_of_log2 (by decide), show 2 ≤ 1000000 by decide, ?_⟩
  cases b with
  | false => exact ix (d := .int (2 + r - 1)) rfl ⟨rfl, ⟨by omega, by omega⟩, fun p p0 p1 => ⟨show 3 < 5 by decide, main (1 + p) (by omega) (by omega) fun z => by cases z⟩⟩
  | true => exact ix (d := .int ((2 + r) / 2)) rfl ⟨rfl, ⟨by omega, by omega⟩, fun p p0 p1 => ⟨show 3 < 5 by decide, main (1 + p) (by omega) (by omega) fun _ => by omega⟩⟩
/-! ### sums -/
theorem w_wsum {n : Int} (n0 : 0 ≤ n) (n1 : n ≤ 3) (Q : SV → Prop) (h : ∀ ws, WsOk n ws → Q (.val (wsD ws))) : F_law_sum [.deal, iv n] Q := by
  refine ⟨⟨by omega, by omega⟩, ⟨⟨?_, fun i hi => ?_⟩, ?_⟩⟩
  · show (rgD 0 n).length ≤ 1000000
    rw [rgD_I, List.length_map, rgI_len]; omega
  · rw [List.mem_singleton.mp hi]; trivial
  · refine lc_any (fun d => ∃ i : Int, d = .int i ∧ 0 ≤ i ∧ i ≤ 3) _ _ _ (fun d hd K hK => ⟨show 2 < 3 by decide, show 5 ≤ 1000000 by decide, rfl, ⟨by decide, by decide⟩, fun r r0 r1 => ?_⟩) fun res hl hr => ?_
    · refine w_ix (ds := [.int 0, .int 1, .int 1, .int 2, .int 3]) r0 (by show r < 5; exact r1) _ fun d hd => hK _ ?_
      simp only [List.mem_cons, List.not_mem_nil, or_false] at hd
      rcases hd with rfl | rfl | rfl | rfl | rfl <;> exact ⟨_, rfl, by decide, by decide⟩
    · obtain ⟨L, rfl, l, s⟩ := ints_of _ res fun x hx => (hr x hx).resolve_left fun z => by cases z
      refine h L ⟨?_, s⟩
      have hl : L.length = 0 + (rgD 0 n).length := by rw [l, hl]; rfl
      rw [rgD_I, List.length_map, rgI_len] at hl
      omega
end K36

set_option Elab.async false
set_option linter.all false
set_option maxRecDepth 100000
set_option maxHeartbeats 4000000
set_option pp.maxSteps 600
namespace K36
open PySem PySem.Spec PyProof.Rows L2 Pq Lb
theorem w_gd {ds : List (Da × Da)} {j d : Da} {Q : SV → Prop} (h : dGetO ds j = some (some d)) (q : Q (.val d)) : fIx (.dict ds) j Q := by
  unfold fIx
  dsimp only
  rw [h]
  exact q
theorem at0 (d : Da) (r : List Da) : ixD (.tuple (d :: r)) 0 = some d := by
  show atI (d :: r) 0 = some d
  unfold atI ixN
  rw [if_pos (by decide), if_pos (by rw [List.length_cons]; omega)]
  rfl
/-- what is read of the world -/
structure WdR (sv : SV) (n wide : Int) : Prop where
  ex : ∃ ds, (sv = .val (.dict ds) ∨ sv = .bor (.dict ds)) ∧ dGetO ds (.str "wide") = some (some (.int wide)) ∧ dGetO ds (.str "kinds") = some (some (.int n))
theorem sums_of {n : Int} : ∀ res : List Da, (∀ x ∈ res, ∃ ws, x = wsD ws ∧ WsOk n ws) → ∃ L : List (List Int), res = L.map wsD ∧ L.length = res.length ∧ ∀ ws ∈ L, WsOk n ws
  | [], _ => ⟨[], rfl, rfl, fun _ z => by cases z⟩
  | x :: r, h => by
    obtain ⟨L, e, l, s⟩ := sums_of r fun y hy => h y (List.mem_cons_of_mem _ hy)
    obtain ⟨z, rfl, hz⟩ := h x List.mem_cons_self
    refine ⟨z :: L, by rw [e]; rfl, by rw [List.length_cons, List.length_cons, l], fun y hy => ?_⟩
    rcases List.mem_cons.mp hy with rfl | hy
    · exact hz
    · exact s y hy
theorem w_throwR (R : ME → MS) (sv : SV) {n wide : Int} (hw : WdR sv n wide) (n0 : 0 ≤ n) (n1 : n ≤ 3) (w0 : 0 ≤ wide) (w1 : wide ≤ 9) (x : Str) (E : EM) (rt : SV → Prop) (hE : E.rt = rt)
    (hR : ∀ (m : ME) (env : En) (E : EM), E.rt = rt → (∀ P : SV → En → Prop, (∀ t e, ThOk n wide t → e[1]? = some sv → P (.val (thD x t)) e) → m env P) → R m env E) : M_law_throw R [.deal, sv, .val (.str x), .no, .no, .no, .no, .no, .no, .no] E := by
  obtain ⟨ds, hsv, hwd, hkd⟩ := hw.ex
  rcases hsv with rfl | rfl
  all_goals
    refine ⟨rfl, ⟨by decide, by decide⟩, fun form f0 f1 => ⟨show 3 < 10 by decide, ?_⟩⟩
    refine ⟨rfl, ⟨by decide, by decide⟩, fun lo l0 l1 => ⟨show 4 < 10 by decide, ?_⟩⟩
    refine w_gd hwd ?_
    refine ⟨rfl, ⟨by omega, by omega⟩, fun d d0 d1 => ⟨show 5 < 10 by decide, ?_⟩⟩
    refine w_gd hkd ⟨show 6 < 10 by decide, ?_⟩
    refine ⟨rfl, ⟨by decide, by decide⟩, fun k k0 k1 => ?_⟩
    refine ⟨⟨by omega, by omega⟩, ⟨⟨?_, fun i hi => ?_⟩, ?_⟩⟩
    · show (rgD 0 (1 + k)).length ≤ 1000000
      rw [rgD_I, List.length_map, rgI_len]; omega
    · rw [List.mem_singleton.mp hi]; trivial
    refine lc_any (fun d => ∃ ws, d = wsD ws ∧ WsOk n ws) _ _ _ (fun d hd K hK => ⟨show 9 < 10 by decide, rfl, w_wsum n0 n1 _ fun ws hws => hK _ ⟨ws, rfl, hws⟩⟩) fun res hl hr => ?_
    obtain ⟨ss, rfl, l, s⟩ := sums_of res fun x hx => (hr x hx).resolve_left fun z => by cases z
    have ok : SumsOk n ss := by
      have hl : ss.length = 0 + (rgD 0 (1 + k)).length := by rw [l, hl]; rfl
      rw [rgD_I, List.length_map, rgI_len] at hl
      exact ⟨by omega, by omega, s⟩
    obtain ⟨ws, ss', rfl⟩ : ∃ ws ss', ss = ws :: ss' := by
      cases ss with
      | nil => have := ok.1; simp at this
      | cons a b => exact ⟨a, b, rfl⟩
    have okw := ok.2.2 ws List.mem_cons_self
    have en : Ends wide lo (lo + d) := ⟨by omega, by omega, by omega, by omega⟩
    refine ⟨show 7 < 10 by decide, ?_⟩
    refine iteD (fun c => ?_) fun c => ?_
    · refine hR _ _ _ hE fun P hP => ?_
      refine ix (d := wsD ws) (at0 _ _) ⟨rfl, w_steep false _ fun a sa _ => ⟨show 6 ≤ 1000000 by decide, ?_⟩⟩
      exact hP (.ladder ws a lo (lo + d)) _ ⟨okw, sa, en⟩ rfl
    refine iteD (fun c => ?_) fun c => ?_
    · refine hR _ _ _ hE fun P hP => ?_
      refine ix (d := wsD ws) (at0 _ _) ⟨rfl, ⟨by decide, by decide⟩, fun r r0 r1 => ⟨show 6 ≤ 1000000 by decide, ?_⟩⟩
      exact hP (.flat ws r lo (lo + d)) _ ⟨okw, ⟨r0, by omega⟩, en⟩ rfl
    refine iteD (fun c => ?_) fun c => ?_
    · refine hR _ _ _ hE fun P hP => ?_
      refine ⟨rfl, w_steep false _ fun a sa _ => ⟨show 6 ≤ 1000000 by decide, ?_⟩⟩
      exact hP (.choose (ws :: ss') a lo (lo + d)) _ ⟨ok, sa, en⟩ rfl
    refine ⟨rfl, ⟨by omega, by omega⟩, fun m m0 m1 => ⟨show 8 < 10 by decide, ?_⟩⟩
    refine hR _ _ _ hE fun P hP => ?_
    refine ⟨rfl, w_steep false _ fun a sa _ => ⟨rfl, w_steep true _ fun b sb hb => ⟨show 8 ≤ 1000000 by decide, ?_⟩⟩⟩
    refine hP (.first (lo + m) a b (ws :: ss') lo (lo + d + 1)) _ ⟨ok, sa, ⟨sb, hb rfl⟩, ⟨by omega, by omega⟩, ?_⟩ rfl
    rw [show lo + d + 1 - 1 = lo + d by omega]
    exact en
/-! ### terms -/
theorem tm_mono {r s : Nat} {t : Tm} (h : TmOk r t) (rs : r ≤ s) : TmOk s t := ⟨Nat.le_trans h.1 rs, h.2⟩
theorem tsz_pos : ∀ t : Tm, 1 ≤ tsz t
  | .num _ => Nat.le_refl _
  | .name _ => Nat.le_refl _
  | .op _ a b => by rw [tsz]; omega
theorem w_ixSm {z : Str} {i : Int} (hz : z.length ≤ 1000000) (h0 : 0 ≤ i) (h1 : i < z.cps.toList.length) (Q : SV → Prop) (h : ∀ c ∈ z.cps.toList, Q (.val (.str ⟨#[c]⟩))) : fIx (.str z) (.int i) Q := by
  have hi : i.toNat < z.cps.toList.length := by omega
  have e : atI z.cps.toList i = some z.cps.toList[i.toNat] := by
    unfold atI ixN
    rw [if_pos h0, if_pos h1]
    exact List.getElem?_eq_getElem hi
  unfold fIx
  dsimp only
  rw [e]
  exact ⟨hz, h _ (List.getElem_mem hi)⟩
theorem ops_at : ("+-*<=" : Str).cps.toList = [43, 45, 42, 60, 61] := by decide
theorem op_ok {c : Nat} (h : c ∈ ("+-*<=" : Str).cps.toList) : (⟨#[c]⟩ : Str) ∈ OPS := by
  rw [ops_at] at h
  simp only [List.mem_cons, List.not_mem_nil, or_false] at h
  rcases h with rfl | rfl | rfl | rfl | rfl <;> decide
theorem w_term {known : List Str} (kl : known.length ≤ 100) (kn : ∀ x ∈ known, nmOk x) : ∀ (f : Nat) (room : Int), 1 ≤ room → room ≤ f → room ≤ 20 → ∀ (Q : SV → Prop), (∀ t, TmOk room.toNat t → Q (.val (tmD t))) → F_law_term (f + 1) [.deal, .val (.list (known.map .str)), iv room] Q
  | f, room, r0, rf, r20, Q, h => by
    have leaf : ∀ (P : SV → Prop), (∀ t, TmOk 1 t → P (.val (tmD t))) → ∀ (E : EM), (∀ v, P v → E.rt v) → (msSeq (msIf (mAnd (mTest (toD (mBin fGt (toD (mCB fLen (mlCons (mPk 1) mlNil))) (mC (.int 0))))) (mTest (toD (mBin fGt (toD (mCall 2 F_law_draw (maCons (mVar 0) (maCons (toE (mC (.int 4))) maNil)))) (mC (.int 0)))))) (msRet (toE (mTup (maCons (toE (mC (.str "name"))) (maCons (mBin fIx (mPk 1) (toD (mCall 2 F_law_draw (maCons (mVar 0) (maCons (mCB fLen (mlCons (mPk 1) mlNil)) maNil))))) maNil))))) msNext)
    (msRet (toE (mTup (maCons (toE (mC (.str "num"))) (maCons (mCall 2 F_law_draw (maCons (mVar 0) (maCons (mBin fIx (toD (mLst (maCons (toE (mC (.int 4))) (maCons (toE (mC (.int 4))) (maCons (toE (mC (.int 1000))) maNil))))) (toD (mCall 2 F_law_draw (maCons (mVar 0) (maCons (toE (mC (.int 3))) maNil))))) maNil))) maNil)))))) [.deal, .val (.list (known.map .str)), iv room, .no, .no] E := fun P hP E hE => by
      have num : (msRet (toE (mTup (maCons (toE (mC (.str "num"))) (maCons (mCall 2 F_law_draw (maCons (mVar 0) (maCons (mBin fIx (toD (mLst (maCons (toE (mC (.int 4))) (maCons (toE (mC (.int 4))) (maCons (toE (mC (.int 1000))) maNil))))) (toD (mCall 2 F_law_draw (maCons (mVar 0) (maCons (toE (mC (.int 3))) maNil))))) maNil))) maNil))))) [.deal, .val (.list (known.map .str)), iv room, .no, .no] E := by
        refine ⟨show 3 ≤ 1000000 by decide, rfl, ⟨by decide, by decide⟩, fun r r0 r1 => ?_⟩
        refine w_ix (ds := [.int 4, .int 4, .int 1000]) r0 (by show r < 3; exact r1) _ fun d hd => ?_
        simp only [List.mem_cons, List.not_mem_nil, or_false] at hd
        have fin : ∀ m : Int, 0 < m → m ≤ 1000 → d = .int m → maCons (mVar 0) (maCons (toE (mC d)) maNil) = maCons (mVar 0) (maCons (toE (mC d)) maNil) := fun _ _ _ _ => rfl
        rcases hd with rfl | rfl | rfl
        · exact ⟨rfl, ⟨by decide, by decide⟩, fun z z0 z1 => ⟨show 2 ≤ 1000000 by decide, hE _ (hP (.num z) ⟨Nat.le_refl _, z0, by have z1 : z < 4 := z1; omega⟩)⟩⟩
        · exact ⟨rfl, ⟨by decide, by decide⟩, fun z z0 z1 => ⟨show 2 ≤ 1000000 by decide, hE _ (hP (.num z) ⟨Nat.le_refl _, z0, by have z1 : z < 4 := z1; omega⟩)⟩⟩
        · exact ⟨rfl, ⟨by decide, by decide⟩, fun z z0 z1 => ⟨show 2 ≤ 1000000 by decide, hE _ (hP (.num z) ⟨Nat.le_refl _, z0, by have z1 : z < 1000 := z1; omega⟩)⟩⟩
      refine iteD (fun c => ?_) fun c => ?_
      · have c : ((known.map PyData.str).length : Int) > 0 := c
        rw [List.length_map] at c
        refine ⟨rfl, ⟨by decide, by decide⟩, fun r r0 r1 => ?_⟩
        refine iteD (fun c2 => ?_) fun c2 => ?_
        · refine ⟨rfl, ⟨?_, ?_⟩, fun r r0 r1 => ?_⟩
          · show 0 < ((known.map PyData.str).length : Int); rw [List.length_map]; omega
          · show ((known.map PyData.str).length : Int) < _; rw [List.length_map]; omega
          · refine w_ix r0 r1 _ fun d hd => ?_
            obtain ⟨y, hy, rfl⟩ := List.mem_map.mp hd
            exact ⟨show 2 ≤ 1000000 by decide, hE _ (hP (.name y) ⟨Nat.le_refl _, kn y hy⟩)⟩
        · exact num
      · exact num
    rw [show F_law_term (f + 1) = fnD 5 3 (M_law_term (F_law_term f)) from rfl]
    show M_law_term (F_law_term f) [.deal, .val (.list (known.map .str)), iv room, .no, .no] ⟨fun _ => Q (.val .none), Q, fun _ => False, fun _ => False⟩
    unfold M_law_term
    have lf : ∀ E : EM, (∀ v, Q v → E.rt v) → _ := fun E hE => leaf Q (fun t ht => h t (tm_mono ht (by omega))) E hE
    refine iteD (fun c => ?_) fun c => ?_
    · exact lf _ fun v hv => hv
    have c : ¬ room < 3 := c
    refine ⟨rfl, ⟨by decide, by decide⟩, fun r r0 r1 => ?_⟩
    refine iteD (fun c2 => ?_) fun c2 => ?_
    · exact lf _ fun v hv => hv
    refine ⟨rfl, ⟨by omega, by omega⟩, fun l l0 l1 => ⟨show 3 < 5 by decide, ?_⟩⟩
    obtain ⟨f, rfl⟩ : ∃ g, f = g + 1 := ⟨f - 1, by omega⟩
    refine ⟨rfl, w_term kl kn f (1 + l) (by omega) (by omega) (by omega) _ fun t ht => ⟨show 4 < 5 by decide, ?_⟩⟩
    refine ⟨rfl, ⟨by decide, by decide⟩, fun o o0 o1 => ?_⟩
    refine w_ixSm (by decide) o0 (by show o < 5; exact o1) _ fun ch hch => ?_
    refine ⟨rfl, w_term kl kn f (room - 1 - (1 + l)) (by omega) (by omega) (by omega) _ fun u hu => ⟨show 4 ≤ 1000000 by decide, ?_⟩⟩
    refine h (.op ⟨#[ch]⟩ t u) ⟨?_, op_ok hch, ht.2, hu.2⟩
    have h1 := ht.1
    have h2 := hu.1
    rw [tsz]
    omega
end K36

set_option Elab.async false
set_option linter.all false
set_option maxRecDepth 100000
set_option maxHeartbeats 4000000
set_option pp.maxSteps 600
namespace K36
open PySem PySem.Spec PyProof.Rows L2 Pq Lb
/-! ### unlike names: the loop that seeks one ends -/
theorem tl_inj {x y : Str} (h : tl x = tl y) : x = y := by
  cases x with
  | mk a =>
    cases y with
    | mk b =>
      have e : a = b := Array.toList_inj.mp h
      rw [e]
theorem tl_app (x y : Str) : tl (x ++ y) = tl x ++ tl y := by
  show (x.cps ++ y.cps).toList = _
  rw [Array.toList_append]
  rfl
theorem tl_len (x : Str) : (tl x).length = x.length := by
  unfold tl
  rw [Array.length_toList]
  rfl
theorem tl_cut (z : Str) (n : Nat) : tl (cutS z none (some (n : Int))) = (tl z).take n := by
  unfold cutS tl
  rw [HT.sIx_nat, HT.sIx_none]
  show (List.take _ (List.drop 0 _)) = _
  rw [List.drop_zero, Nat.sub_zero]
  have : z.length = z.cps.toList.length := by rw [Array.length_toList]; rfl
  rcases Nat.le_total n z.length with c | c
  · rw [Nat.min_eq_left c]
  · rw [Nat.min_eq_right c, this, List.take_length, List.take_of_length_le (by rw [← this]; exact c)]
theorem pigeon {α : Type} [DecidableEq α] : ∀ (l D : List α), l.Nodup → (∀ x ∈ l, x ∈ D) → l.length ≤ D.length
  | [], _, _, _ => Nat.zero_le _
  | x :: l, D, hn, hs => by
    rw [List.nodup_cons] at hn
    have hx := hs x List.mem_cons_self
    have ih := pigeon l (D.erase x) hn.2 fun y hy => (List.mem_erase_of_ne fun e => hn.1 (by rw [← e]; exact hy)).mpr (hs y (List.mem_cons_of_mem _ hy))
    rw [List.length_erase_of_mem hx] at ih
    have := List.length_pos_of_mem hx
    rw [List.length_cons]
    omega
/-- the signs put behind at a turn -/
def suf (s : Nat) : List Nat := [97 + s / 26 % 26, 97 + s % 26]
theorem suf_inj {i j : Nat} (hi : i < 676) (hj : j < 676) (h : suf i = suf j) : i = j := by
  unfold suf at h
  injection h with h1 h
  injection h with h2 _
  omega
/-- where the loop stands -/
structure Sk (bad : List Str) (w : Str) (s : Nat) : Prop where
  le : w.length ≤ 9
  gr : 2 * s ≤ w.length ∨ 6 ≤ w.length
  su : 5 ≤ s → tl w = (tl w).take 6 ++ suf (s - 1)
  bd : 5 ≤ s → ∀ j, 4 ≤ j → j < s - 1 → ∃ z ∈ bad, tl z = (tl w).take 6 ++ suf j
theorem Sk.few {bad : List Str} {w : Str} {s : Nat} (k : Sk bad w s) (hm : w ∈ bad) (s6 : s ≤ 600) : s ≤ 4 + bad.length := by
  by_cases c : 5 ≤ s
  · have all : ∀ j, 4 ≤ j → j < s → ∃ z ∈ bad, tl z = (tl w).take 6 ++ suf j := fun j j4 js => by
      by_cases e : j = s - 1
      · subst e; exact ⟨w, hm, k.su c⟩
      · exact k.bd c j j4 (by omega)
    have p := pigeon ((List.range (s - 4)).map fun i => (tl w).take 6 ++ suf (i + 4)) (bad.map tl) ?_ fun x hx => ?_
    · rw [List.length_map, List.length_range, List.length_map] at p
      omega
    · rw [List.nodup_iff_pairwise_ne, List.pairwise_map]
      refine List.Pairwise.imp_of_mem (fun {a b} ha hb hab z => ?_) (List.nodup_iff_pairwise_ne.mp List.nodup_range)
      have ha := List.mem_range.mp ha
      have hb := List.mem_range.mp hb
      have := suf_inj (by omega) (by omega) (List.append_cancel_left z)
      exact hab (by omega)
    · obtain ⟨i, hi, rfl⟩ := List.mem_map.mp hx
      have hi := List.mem_range.mp hi
      obtain ⟨z, hz, e⟩ := all (i + 4) (by omega) (by omega)
      exact List.mem_map.mpr ⟨z, hz, e⟩
  · omega
theorem Sk.next {bad : List Str} {w w' : Str} {s : Nat} (k : Sk bad w s) (hm : w ∈ bad) (e : tl w' = (tl w).take 6 ++ suf s) : Sk bad w' (s + 1) := by
  have lw : w'.length = min 6 w.length + 2 := by
    rw [← tl_len w', e, List.length_append, List.length_take, tl_len]
    rfl
  have g6 : 4 ≤ s → 6 ≤ w.length := fun h => by have := k.gr; omega
  have tk : 4 ≤ s → (tl w').take 6 = (tl w).take 6 := fun h => by
    have l6 : ((tl w).take 6).length = 6 := by rw [List.length_take, tl_len]; have := g6 h; omega
    rw [e, List.take_append_of_le_length (by omega), List.take_of_length_le (by omega)]
  refine ⟨by omega, by have := k.gr; omega, fun h => ?_, fun h j j4 js => ?_⟩
  · rw [tk (by omega)]
    exact e
  · rw [tk (by omega)]
    by_cases c : 5 ≤ s
    · by_cases ej : j = s - 1
      · subst ej; exact ⟨w, hm, k.su c⟩
      · exact k.bd c j j4 (by omega)
    · omega
theorem any_str (L : List Str) (w : Str) : ((L.map PyData.str).any fun z => PyData.eqv z (.str w)) = decide (w ∈ L) := by
  rw [List.any_map]
  by_cases c : w ∈ L
  · rw [decide_eq_true c, List.any_eq_true]
    exact ⟨w, c, by show (w == w) = true; exact beq_self_eq_true w⟩
  · rw [decide_eq_false c, List.any_eq_false]
    intro x hx z
    have z : (x == w) = true := z
    exact c (by rw [← eq_of_beq z]; exact hx)
theorem flat_strs : ∀ L : List Str, (L.map PyData.str).all flatD = true
  | [] => rfl
  | x :: L => by rw [List.map_cons, List.all_cons, flat_strs L]; rfl
abbrev LETS : Str := "abcdefghijklmnopqrstuvwxyz"
def KW : List Str := ["kinds", "ladder", "flat", "choose", "first", "let", "tell", "when", "else", "times", "end", "of"]
theorem lets_at : LETS.cps.toList = List.range' 97 26 := by decide
theorem w_let {i : Int} (h0 : 0 ≤ i) (h1 : i < 26) (Q : SV → Prop) (h : Q (.val (.str ⟨#[97 + i.toNat]⟩))) : fIx (.str LETS) (.int i) Q := by
  have e : atI LETS.cps.toList i = some (97 + i.toNat) := by
    rw [lets_at]
    unfold atI ixN
    rw [if_pos h0, if_pos (by rw [List.length_range']; exact h1)]
    show (List.range' 97 26)[i.toNat]? = _
    rw [List.getElem?_range' (by omega), Nat.one_mul]
  unfold fIx
  dsimp only
  rw [e]
  exact ⟨by decide, h⟩
theorem ok_glued (ys : List Str) (h : ∀ y ∈ ys, nmOk y) : nmOk (Builtin.Str.glued "" ys) := by
  have go : ∀ (r : List Str) (acc : Array Nat), (∀ c ∈ acc.toList, c < 0x110000) → (∀ y ∈ r, nmOk y) → ∀ c ∈ (r.foldl (fun acc p => acc ++ ("" : Str).cps ++ p.cps) acc).toList, c < 0x110000 := by
    intro r
    induction r with
    | nil => intro acc ha _; exact ha
    | cons y r ih =>
      intro acc ha hr
      rw [List.foldl_cons]
      refine ih _ (fun c hc => ?_) fun z hz => hr z (List.mem_cons_of_mem _ hz)
      rw [Array.toList_append, Array.toList_append] at hc
      rcases List.mem_append.mp hc with hc | hc
      · rcases List.mem_append.mp hc with hc | hc
        · exact ha c hc
        · cases hc
      · exact hr y List.mem_cons_self c hc
  unfold Builtin.Str.glued
  cases ys with
  | nil => intro c hc; cases hc
  | cons y r => exact go r y.cps (h y List.mem_cons_self) fun z hz => h z (List.mem_cons_of_mem _ hz)
theorem oks_of : ∀ res : List Da, (∀ x ∈ res, ∃ s : Str, x = .str s ∧ s.length ≤ 1 ∧ nmOk s) → ∃ ys : List Str, res = ys.map .str ∧ ys.length = res.length ∧ (ys.map (·.length)).sum ≤ res.length ∧ ∀ y ∈ ys, nmOk y
  | [], _ => ⟨[], rfl, rfl, Nat.le_refl _, fun y hy => by cases hy⟩
  | x :: r, h => by
    obtain ⟨ys, e, l, s, o⟩ := oks_of r fun y hy => h y (List.mem_cons_of_mem _ hy)
    obtain ⟨z, rfl, hz, ho⟩ := h x List.mem_cons_self
    refine ⟨z :: ys, by rw [e]; rfl, by rw [List.length_cons, List.length_cons, l], ?_, fun y hy => ?_⟩
    · rw [List.map_cons, List.sum_cons, List.length_cons]
      omega
    · rcases List.mem_cons.mp hy with rfl | hy
      · exact ho
      · exact o y hy
theorem w_joinOk {res : List Da} (h : ∀ x ∈ res, ∃ s : Str, x = .str s ∧ s.length ≤ 1 ∧ nmOk s) (hl : res.length ≤ 1000) (Q : SV → Prop) (q : ∀ s : Str, s.length ≤ res.length → nmOk s → Q (.val (.str s))) : fJoin "" (.list res) Q := by
  obtain ⟨ys, e, l, s, o⟩ := oks_of res h
  have e0 : ("" : Str).length = 0 := rfl
  unfold fJoin
  refine ⟨ys, .inl (by rw [e]), by rw [e0]; omega, q _ ?_ (ok_glued ys o)⟩
  have := StrLaws.join_length_le "" ys
  rw [e0] at this
  have t : (Txt.join "" ys).length ≤ (ys.map (·.length)).sum + ys.length * 0 := by
    show (Builtin.Str.glued _ ys).length ≤ _
    rw [StrLaws.glued_eq_join]
    exact this
  omega
theorem ok_let {i : Nat} (h : i < 26) : nmOk (⟨#[97 + i]⟩ : Str) := fun c hc => by
  have hc : c ∈ [97 + i] := hc
  rw [List.mem_singleton.mp hc]
  omega
theorem xf (b : Bool) : (xor false b) = b := Bool.false_xor b
theorem w_names {m : Int} (m0 : 0 ≤ m) (m1 : m ≤ 12) (Q : SV → Prop) (h : ∀ L : List Str, (L.length : Int) = m → (∀ x ∈ L, nmOk x) → Q (.val (.list (L.map .str)))) : F_law_names [.deal, iv m] Q := by
  refine ⟨show 2 < 10 by decide, ?_⟩
  refine ⟨show 12 ≤ 1000000 by decide, show 3 < 10 by decide, ?_⟩
  refine ⟨show 0 ≤ 1000000 by decide, show 4 < 10 by decide, ?_⟩
  refine ⟨⟨by omega, by omega⟩, ?_⟩
  show forGo _ _ (rgD 0 m) _ _
  rw [rgD_I]
  have lm : (rgI 0 m).length = m.toNat := by rw [rgI_len]; omega
  refine for_L .int (fun done e => ∃ (L : List Str) (a b c d : SV), L.length = done.length ∧ (∀ x ∈ L, nmOk x) ∧ e = [.deal, iv m, .val (.str LETS), .own true (.list (KW.map .str)), .own true (.list (L.map .str)), a, b, c, d, .no]) (rgI 0 m) _ ⟨[], .no, .no, .no, .no, rfl, (fun x hx => by cases hx), rfl⟩ ?_ ?_
  · rintro done k rest hL e ⟨L, a, b, c, d, ll, lok, rfl⟩ N hN
    rw [hL, List.length_append, List.length_cons] at lm
    refine ⟨show 5 < 10 by decide, ?_⟩
    refine ⟨show 2 ≤ 1000000 by decide, rfl, ⟨by decide, by decide⟩, fun r r0 r1 => ?_⟩
    refine w_ix (ds := [.int 2, .int 8]) r0 (by show r < 2; exact r1) _ fun x hx => ?_
    have hx : ∃ z : Int, x = .int z ∧ 1 ≤ z ∧ z ≤ 8 := by
      simp only [List.mem_cons, List.not_mem_nil, or_false] at hx
      rcases hx with rfl | rfl <;> exact ⟨_, rfl, by decide, by decide⟩
    obtain ⟨z, rfl, z0, z1⟩ := hx
    refine ⟨rfl, ⟨by omega, by omega⟩, fun sz s0 s1 => ⟨show 6 < 10 by decide, ?_⟩⟩
    refine ⟨⟨by omega, by omega⟩, ⟨⟨?_, fun i hi => ?_⟩, ?_⟩⟩
    · show (rgD 0 (1 + sz)).length ≤ 1000000
      rw [rgD_I, List.length_map, rgI_len]; omega
    · rw [List.mem_singleton.mp hi]; trivial
    refine lc_any (fun d => ∃ s : Str, d = .str s ∧ s.length ≤ 1 ∧ nmOk s) _ _ _ (fun d hd K hK => ⟨show 9 < 10 by decide, rfl, ⟨by decide, by decide⟩, fun c c0 c1 => w_let c0 c1 _ (hK _ ⟨_, rfl, by show 1 ≤ 1; decide, ok_let (by have c1 : c < 26 := c1; omega)⟩)⟩) fun res hl hr => ?_
    have hr : ∀ x ∈ res, ∃ s : Str, x = .str s ∧ s.length ≤ 1 ∧ nmOk s := fun x hx => (hr x hx).resolve_left fun z => by cases z
    have hl : res.length ≤ 9 := by
      have : (rgD 0 (1 + sz)).length = (1 + sz - 0).toNat := by rw [rgD_I, List.length_map, rgI_len]
      rw [hl, this]
      show 0 + _ ≤ 9
      omega
    refine w_joinOk hr (by omega) _ fun w hw wok => ⟨show 7 < 10 by decide, show 8 < 10 by decide, ?_⟩
    refine wh_inv (fun q e => ∃ (w : Str) (s : Nat), q = 100 - s ∧ s ≤ 29 ∧ Sk (L ++ KW) w s ∧ nmOk w ∧ e = [.deal, iv m, .val (.str LETS), .own true (.list (KW.map .str)), .own true (.list (L.map .str)), iv k, iv (1 + sz), .val (.str w), iv s, .no]) 100 ⟨w, 0, rfl, by decide, ⟨by omega, .inl (by omega), fun z => absurd z (by decide), fun z => absurd z (by decide)⟩, wok, rfl⟩ ?_
    rintro q e ⟨w, s, rfl, s29, sk, wok, rfl⟩ N2 hN2
    have go : w ∈ L ++ KW → (msSeq (msSet 7 (mBin fAdd (toD (mBin fAdd (toD (mSl (mPk 7) moNone (moSome (mC (.int 6))))) (toD (mBin fIx (mPk 2) (toD (mBin fMod (toD (mBin fDiv (mPk 8) (mC (.int 26)))) (mC (.int 26)))))))) (toD (mBin fIx (mPk 2) (toD (mBin fMod (mPk 8) (mC (.int 26))))))))
    (msSet 8 (mBin fAdd (mPk 8) (mC (.int 1))))) [.deal, iv m, .val (.str LETS), .own true (.list (KW.map .str)), .own true (.list (L.map .str)), iv k, iv (1 + sz), .val (.str w), iv s, .no] ⟨N2, fun _ => False, fun _ => False, N2⟩ := fun hm => by
      have s28 : s ≤ 28 := by
        have := sk.few hm (by omega)
        rw [List.length_append] at this
        have : KW.length = 12 := rfl
        omega
      have lw := sk.le
      refine ⟨by omega, by decide, dv9 (by decide) (by decide), by decide, ?_⟩
      refine w_let (by omega) (by omega) _ ?_
      have l1 : (cutS w none (some 6)).length ≤ 9 := by
        have := tl_cut w 6
        rw [← tl_len, show ((6 : Nat) : Int) = 6 from rfl] at *
        rw [this, List.length_take, tl_len]; omega
      refine ⟨by show _ + 1 ≤ _; omega, by decide, ?_⟩
      refine w_let (by omega) (by omega) _ ?_
      refine ⟨?_, show 7 < 10 by decide, show 8 < 10 by decide, ?_⟩
      · rw [← tl_len, tl_app, List.length_append, tl_len]
        show _ + 1 + 1 ≤ _
        omega
      have etl : tl (cutS w none (some 6) ++ ⟨#[97 + ((s : Int) / 26 % 26).toNat]⟩ ++ ⟨#[97 + ((s : Int) % 26).toNat]⟩) = (tl w).take 6 ++ suf s := by
        rw [tl_app, tl_app]
        have := tl_cut w 6
        rw [show ((6 : Nat) : Int) = 6 from rfl] at this
        rw [this, List.append_assoc]
        show _ ++ [97 + ((s : Int) / 26 % 26).toNat, 97 + ((s : Int) % 26).toNat] = _
        unfold suf
        rw [show ((s : Int) / 26 % 26).toNat = s / 26 % 26 by omega, show ((s : Int) % 26).toNat = s % 26 by omega]
      refine hN2 (100 - (s + 1)) _ (by omega) ⟨_, s + 1, rfl, by omega, sk.next hm etl, fun c hc => ?_, rfl⟩
      rw [etl] at hc
      rcases List.mem_append.mp hc with hc | hc
      · exact wok c (List.mem_of_mem_take hc)
      · unfold suf at hc
        simp only [List.mem_cons, List.not_mem_nil, or_false] at hc
        omega
    refine ⟨.inl ⟨rfl, flat_strs L⟩, ?_⟩
    show if (xor false ((L.map PyData.str).any fun z => PyData.eqv z (.str w))) = true then _ else _
    rw [any_str, xf]
    refine iteD (fun c => ?_) fun c => ?_
    · exact go (List.mem_append_left _ c)
    refine ⟨.inl ⟨rfl, flat_strs KW⟩, ?_⟩
    show if (xor false ((KW.map PyData.str).any fun z => PyData.eqv z (.str w))) = true then _ else _
    rw [any_str, xf]
    refine iteD (fun c2 => ?_) fun c2 => ?_
    · exact go (List.mem_append_right _ c2)
    refine ⟨trivial, by rw [List.length_map]; omega, hN _ ⟨L ++ [w], iv k, iv (1 + sz), .val (.str w), iv s, by rw [List.length_append, List.length_append, ll]; rfl, (fun x hx => (List.mem_append.mp hx).elim (lok x) fun z => by rw [List.mem_singleton.mp z]; exact wok), ?_⟩⟩
    rw [List.map_append]
    rfl
  · rintro e ⟨L, a, b, c, d, ll, lok, rfl⟩
    exact h L (by rw [ll, lm]; omega) lok
end K36

set_option Elab.async false
set_option linter.all false
set_option maxRecDepth 100000
set_option maxHeartbeats 4000000
set_option pp.maxSteps 600
namespace K36
open PySem PySem.Spec PyProof.Rows L2 Pq Lb
/-! ### the world that rows are made in -/
structure Wld where
  names : List Str
  kinds : Int
  wide : Int
  left : Int
  room : Int
  quiet : Bool
  far : Int
def wL (W : Wld) : List (Da × Da) := [(.str "names", .list (W.names.map .str)), (.str "kinds", .int W.kinds), (.str "wide", .int W.wide), (.str "left", .int W.left), (.str "room", .int W.room), (.str "quiet", .bool W.quiet), (.str "far", .int W.far)]
abbrev wB (W : Wld) : SV := .bor (.dict (wL W))
section
variable (W : Wld)
theorem g_names : dGetO (wL W) (.str "names") = some (some (.list (W.names.map .str))) := by kernel_rfl
theorem g_kinds : dGetO (wL W) (.str "kinds") = some (some (.int W.kinds)) := by kernel_rfl
theorem g_wide : dGetO (wL W) (.str "wide") = some (some (.int W.wide)) := by kernel_rfl
theorem g_left : dGetO (wL W) (.str "left") = some (some (.int W.left)) := by kernel_rfl
theorem g_room : dGetO (wL W) (.str "room") = some (some (.int W.room)) := by kernel_rfl
theorem g_quiet : dGetO (wL W) (.str "quiet") = some (some (.bool W.quiet)) := by kernel_rfl
theorem g_far : dGetO (wL W) (.str "far") = some (some (.int W.far)) := by kernel_rfl
theorem p_left (v : Int) : dPut (wL W) (.inr "left") (.int v) = wL { W with left := v } := by kernel_rfl
theorem p_room (v : Int) : dPut (wL W) (.inr "room") (.int v) = wL { W with room := v } := by kernel_rfl
theorem p_quiet (v : Bool) : dPut (wL W) (.inr "quiet") (.bool v) = wL { W with quiet := v } := by kernel_rfl
theorem wp_left (v : Int) {Q : Da → Prop} (q : Q (.dict (wL { W with left := v }))) : fPut (.dict (wL W)) (.str "left") (.int v) Q := w_putD rfl rfl (show 7 < 1000000 by decide) (by rw [p_left]; exact q)
theorem wp_room (v : Int) {Q : Da → Prop} (q : Q (.dict (wL { W with room := v }))) : fPut (.dict (wL W)) (.str "room") (.int v) Q := w_putD rfl rfl (show 7 < 1000000 by decide) (by rw [p_room]; exact q)
theorem wp_quiet (v : Bool) {Q : Da → Prop} (q : Q (.dict (wL { W with quiet := v }))) : fPut (.dict (wL W)) (.str "quiet") (.bool v) Q := w_putD rfl rfl (show 7 < 1000000 by decide) (by rw [p_quiet]; exact q)
end
structure WOk (W : Wld) : Prop where
  ne : W.names ≠ []
  nl : W.names.length ≤ 12
  k0 : 0 ≤ W.kinds
  k3 : W.kinds ≤ 3
  w0 : 0 ≤ W.wide
  w9 : W.wide ≤ 9
  r0 : 0 ≤ W.room
  r1 : W.room ≤ 12
  nm : ∀ x ∈ W.names, nmOk x
structure SameW (W W' : Wld) : Prop where
  n : W'.names = W.names
  k : W'.kinds = W.kinds
  w : W'.wide = W.wide
  q : W'.quiet = W.quiet
  f : W'.far = W.far
theorem SameW.rfl' {W : Wld} : SameW W W := ⟨rfl, rfl, rfl, rfl, rfl⟩
theorem SameW.trans {W V U : Wld} (a : SameW W V) (b : SameW V U) : SameW W U := ⟨b.n.trans a.n, b.k.trans a.k, b.w.trans a.w, b.q.trans a.q, b.f.trans a.f⟩
theorem WOk.same {W W' : Wld} (h : WOk W) (s : SameW W W') (r0 : 0 ≤ W'.room) (r1 : W'.room ≤ W.room) : WOk W' :=
  ⟨by rw [s.n]; exact h.ne, by rw [s.n]; exact h.nl, by rw [s.k]; exact h.k0, by rw [s.k]; exact h.k3, by rw [s.w]; exact h.w0, by rw [s.w]; exact h.w9, r0, by have := h.r1; omega, by rw [s.n]; exact h.nm⟩
theorem w_throwB {W : Wld} (ok : WOk W) (x : Str) (Q : SV → Prop) (h : ∀ t, ThOk W.kinds W.wide t → Q (.res false (thD x t) [(1, .dict (wL W))])) : FB_law_throw [.deal, wB W, .val (.str x)] Q :=
  w_throwR (msRetB [1]) (wB W) ⟨_, .inr rfl, g_wide W, g_kinds W⟩ ok.k0 ok.k3 ok.w0 ok.w9 x ⟨_, Q, _, _⟩ Q rfl fun m env E hE hm => hm _ fun t e ht he => by
    show retB (.val (thD x t)) (borsE e [1]) E.rt
    have : borsE e [1] = some [(1, .dict (wL W))] := by
      unfold borsE
      rw [he]
      rfl
    rw [this, hE]
    exact h t ht
theorem w_throw0 {n wide : Int} (n0 : 0 ≤ n) (n1 : n ≤ 3) (w0 : 0 ≤ wide) (w1 : wide ≤ 9) {ds : List (Da × Da)} (hw : dGetO ds (.str "wide") = some (some (.int wide))) (hk : dGetO ds (.str "kinds") = some (some (.int n))) (x : Str) (Q : SV → Prop)
    (h : ∀ t, ThOk n wide t → Q (.val (thD x t))) : F_law_throw [.deal, .val (.dict ds), .val (.str x)] Q :=
  w_throwR msRet (.val (.dict ds)) ⟨_, .inl rfl, hw, hk⟩ n0 n1 w0 w1 x ⟨_, Q, _, _⟩ Q rfl fun m env E hE hm => hm _ fun t e ht he => by
    show E.rt (.val (thD x t))
    rw [hE]
    exact h t ht
/-! ### rows -/
structure RowR (W : Wld) (known : List Str) (d : Nat) (r : Rw) (known' : List Str) (W' : Wld) : Prop where
  s : SameW W W'
  ok : RwOk W.kinds W.wide d r
  r0 : 0 ≤ W'.room
  r1 : W'.room ≤ W.room
  ct : ((lstR d r).length : Int) + W'.room ≤ W.room + 1
  kn : (known'.length : Int) + W'.room ≤ known.length + W.room + 1
  nm : ∀ x ∈ known', nmOk x
structure RowsR (W : Wld) (known : List Str) (d : Nat) (tells : Int) (rs : List Rw) (known' : List Str) (W' : Wld) : Prop where
  s : SameW W W'
  ok : ∀ r ∈ rs, RwOk W.kinds W.wide d r
  r0 : 0 ≤ W'.room
  r1 : W'.room ≤ W.room
  ct : (cnt d rs : Int) + W'.room ≤ W.room + tells
  kn : (known'.length : Int) + W'.room ≤ known.length + W.room
  nm : ∀ x ∈ known', nmOk x
def strsD (L : List Str) : Da := .list (L.map .str)
def PRow (f : Nat) : Prop := ∀ (W : Wld) (known : List Str) (deep often : Int) (n : Nat) (Q : SV → Prop), WOk W → (∀ x ∈ known, nmOk x) → known.length + W.room.toNat ≤ 59 → 0 ≤ deep → 2 * deep + 1 ≤ f → often.natAbs < 2 ^ n → n + 2 * deep.toNat ≤ 100 →
  (∀ r known' W', RowR W known deep.toNat r known' W' → Q (.res false (.tuple [rwD r, strsD known']) [(1, .dict (wL W'))])) → FB_law_row f [.deal, wB W, .val (strsD known), iv deep, iv often] Q
def PRows (f : Nat) : Prop := ∀ (W : Wld) (known : List Str) (deep tells often : Int) (n : Nat) (Q : SV → Prop), WOk W → (∀ x ∈ known, nmOk x) → known.length + W.room.toNat ≤ 60 → 0 ≤ deep → 2 * deep + 2 ≤ f → 0 ≤ tells → tells ≤ 3 → often.natAbs < 2 ^ n → n + 2 * deep.toNat ≤ 100 →
  (∀ rs known' W', RowsR W known deep.toNat tells rs known' W' → Q (.res false (.tuple [.tuple (rwsD rs), strsD known']) [(1, .dict (wL W'))])) → FB_law_rows f [.deal, wB W, .val (strsD known), iv deep, iv tells, iv often] Q
end K36

set_option Elab.async false
set_option linter.all false
set_option maxRecDepth 100000
set_option maxHeartbeats 4000000
set_option pp.maxSteps 600
namespace K36
open PySem PySem.Spec PyProof.Rows L2 Pq Lb
theorem bits_le {i : Int} {n m : Nat} (h : i.natAbs < 2 ^ n) (hm : n ≤ m) : i.natAbs < 2 ^ m := Nat.lt_of_lt_of_le h (Nat.pow_le_pow_right (by decide) hm)
theorem ok_thr {n w : Int} {x : Str} {t : Th} (h : nmOk x ∧ ThOk n w t) : ∀ d, RwOk n w d (.thr x t)
  | 0 => h
  | _ + 1 => h
theorem ok_lt {n w : Int} {x : Str} {t : Tm} (h : nmOk x ∧ TmOk 7 t) : ∀ d, RwOk n w d (.lt x t)
  | 0 => h
  | _ + 1 => h
theorem ok_tell {n w : Int} {t : Tm} (h : TmOk 7 t) : ∀ d, RwOk n w d (.tell t)
  | 0 => h
  | _ + 1 => h
theorem l_thr {x : Str} {t : Th} : ∀ d, lstR d (.thr x t) = [.thr x t]
  | 0 => rfl
  | _ + 1 => rfl
theorem l_lt {x : Str} {t : Tm} : ∀ d, lstR d (.lt x t) = [.lt x t]
  | 0 => rfl
  | _ + 1 => rfl
theorem l_tell {t : Tm} : ∀ d, lstR d (.tell t) = [.tell t]
  | 0 => rfl
  | _ + 1 => rfl
theorem b1 (W : Wld) (e : En) (h : e[1]? = some (wB W)) : borsE e [1] = some [(1, .dict (wL W))] := by
  unfold borsE
  rw [h]
  rfl
theorem step_row {f : Nat} (hr : PRows f) : PRow (f + 1) := by
  intro W known deep often n Q ok knm hkn d0 hf hob hn h
  rw [show FB_law_row (f + 1) = fnB 17 5 [1] (M_law_row (FB_law_row f) (FB_law_rows f)) from rfl]
  show M_law_row (FB_law_row f) (FB_law_rows f) [.deal, wB W, .val (strsD known), iv deep, iv often, .no, .no, .no, .no, .no, .no, .no, .no, .no, .no, .no, .no] ⟨fun e => retB (.val .none) (borsE e [1]) Q, Q, fun _ => False, fun _ => False⟩
  unfold M_law_row
  have hw0 := ok.r0
  have hw1 := ok.r1
  refine ⟨rfl, ⟨by decide, by decide⟩, fun form f0 f1 => ⟨show 5 < 17 by decide, ?_⟩⟩
  refine w_gd (g_names W) (w_gd (g_names W) ⟨rfl, ⟨?_, ?_⟩, fun r r0 r1 => ?_⟩)
  · show 0 < ((W.names.map PyData.str).length : Int)
    rw [List.length_map]
    have := List.length_pos_iff.mpr ok.ne
    omega
  · show ((W.names.map PyData.str).length : Int) < _
    rw [List.length_map]
    have := ok.nl
    omega
  refine w_ix r0 r1 _ fun x hx => ?_
  obtain ⟨x, hx0, rfl⟩ := List.mem_map.mp hx
  have xok := ok.nm x hx0
  have knm' : ∀ y ∈ known ++ [x], nmOk y := fun y hy => (List.mem_append.mp hy).elim (knm y) fun z => by rw [List.mem_singleton.mp z]; exact xok
  refine ⟨show 6 < 17 by decide, rfl, ⟨by decide, by decide⟩, fun q q0 q1 => w_gd (g_quiet W) ⟨?_, ?_, show 7 < 17 by decide, ?_⟩⟩
  · exact sm_of (n := 1) (by omega) (by decide)
  · exact sm_of (n := 1) (by cases W.quiet <;> decide) (by decide)
  obtain ⟨many, hm, m0, m1⟩ : ∃ many : Int, many = q * (if (!W.quiet) = true then 1 else 0) ∧ 0 ≤ many ∧ many ≤ 1 := ⟨_, rfl, by cases W.quiet <;> simp <;> omega, by cases W.quiet <;> simp <;> omega⟩
  refine at_env [.deal, wB W, .val (strsD known), iv deep, iv often, iv form, .val (.str x), iv many, .no, .no, .no, .no, .no, .no, .no, .no, .no] (by rw [hm]; rfl) ?_
  clear hm
  -- a throw
  have lets : msRetB [1] (toE (mTup (maCons (toE (mTup (maCons (toE (mC (.str "let"))) (maCons (mVar 6) (maCons (mCall 3 (F_law_term 8) (maCons (mVar 0) (maCons (mVar 2) (maCons (mBin fAdd (mC (.int 1)) (toD (mCall 2 F_law_draw (maCons (mVar 0) (maCons (toE (mC (.int 7))) maNil))))) maNil)))) maNil))))) (maCons (mBin fAdd (mPk 2) (toD (mLst (maCons (mVar 6) maNil)))) maNil)))) [.deal, wB W, .val (strsD known), iv deep, iv often, iv form, .val (.str x), iv many, .no, .no, .no, .no, .no, .no, .no, .no, .no] ⟨fun e => retB (.val .none) (borsE e [1]) Q, Q, fun _ => False, fun _ => False⟩ := by
    refine ⟨rfl, ⟨by decide, by decide⟩, fun z z0 z1 => ⟨rfl, w_term (known := known) (by omega) knm 7 (1 + z) (by omega) (by omega) (by omega) _ fun t ht => ⟨show 3 ≤ 1000000 by decide, show 1 ≤ 1000000 by decide, ?_⟩⟩⟩
    refine ⟨by show (known.map PyData.str).length + 1 ≤ 1000000; rw [List.length_map]; omega, show 2 ≤ 1000000 by decide, ?_⟩
    have := h (.lt x t) (known ++ [x]) W ⟨.rfl', ok_lt ⟨xok, tm_mono ht (by omega)⟩ _, hw0, Int.le_refl _, by rw [l_lt]; show ((1 : Nat) : Int) + _ ≤ _; omega, by rw [List.length_append]; show ((known.length + 1 : Nat) : Int) + _ ≤ _; omega, knm'⟩
    unfold strsD at this
    rw [List.map_append] at this
    exact this
  have third : msSeq (msIf (mAnd (mTest (toD (mBin fEq (mPk 5) (mC (.int 7))))) (mAnd (mTest (toD (mBin fGt (mPk 3) (mC (.int 0))))) (mTest (toD (mBin fGe (toD (mBin fIx (mPk 1) (mC (.str "room")))) (mPk 7)))))) (msSeq (msSet 14 (mBin fAdd (mC (.int 1)) (toD (mCall 2 F_law_draw (maCons (mVar 0) (maCons (mBin fIx (toD (mLst (maCons (toE (mC (.int 3))) (maCons (toE (mC (.int 1))) maNil)))) (toD (mCB fInt (mlCons (mAndV (toD (mBin fGt (mPk 4) (mC (.int 1)))) (toD (mBin fLt (toD (mBin fIx (mPk 1) (mC (.str "far")))) (mC (.int 4))))) mlNil)))) maNil))))))
    (msSeq (msPut 1 (mC (.str "room")) (toD (mBin fSub (toD (mBin fIx (mPk 1) (mC (.str "room")))) (mPk 7))))
    (msSeq (msAsg (toD (mCallB 6 (FB_law_rows f) [none, some 1, none, none, none, none] (maCons (mVar 0) (maBor 1 (maCons (mVar 2) (maCons (mBin fSub (mPk 3) (mC (.int 1))) (maCons (mVar 7) (maCons (mBin fMul (mPk 4) (mPk 14)) maNil)))))))) (mgTup 2 (mgCons (mgName 15) (mgCons (mgName 2) mgNil))))
    (msRetB [1] (toE (mTup (maCons (toE (mTup (maCons (toE (mC (.str "times"))) (maCons (mVar 14) (maCons (mVar 15) maNil))))) (maCons (mVar 2) maNil)))))))) msNext)
    (msRetB [1] (toE (mTup (maCons (toE (mTup (maCons (toE (mC (.str "let"))) (maCons (mVar 6) (maCons (mCall 3 (F_law_term 8) (maCons (mVar 0) (maCons (mVar 2) (maCons (mBin fAdd (mC (.int 1)) (toD (mCall 2 F_law_draw (maCons (mVar 0) (maCons (toE (mC (.int 7))) maNil))))) maNil)))) maNil))))) (maCons (mBin fAdd (mPk 2) (toD (mLst (maCons (mVar 6) maNil)))) maNil))))) [.deal, wB W, .val (strsD known), iv deep, iv often, iv form, .val (.str x), iv many, .no, .no, .no, .no, .no, .no, .no, .no, .no] ⟨fun e => retB (.val .none) (borsE e [1]) Q, Q, fun _ => False, fun _ => False⟩ := by
    refine iteD (fun c => ?_) fun _ => lets
    refine iteD (fun c2 => ?_) fun _ => lets
    have c2 : deep > 0 := c2
    refine w_gd (g_room W) ?_
    refine iteD (fun c3 => ?_) fun _ => lets
    have c3 : W.room ≥ many := c3
    have turns : ∀ k : Int, 1 ≤ k → k ≤ 3 → (msSeq (msPut 1 (mC (.str "room")) (toD (mBin fSub (toD (mBin fIx (mPk 1) (mC (.str "room")))) (mPk 7))))
    (msSeq (msAsg (toD (mCallB 6 (FB_law_rows f) [none, some 1, none, none, none, none] (maCons (mVar 0) (maBor 1 (maCons (mVar 2) (maCons (mBin fSub (mPk 3) (mC (.int 1))) (maCons (mVar 7) (maCons (mBin fMul (mPk 4) (mPk 14)) maNil)))))))) (mgTup 2 (mgCons (mgName 15) (mgCons (mgName 2) mgNil))))
    (msRetB [1] (toE (mTup (maCons (toE (mTup (maCons (toE (mC (.str "times"))) (maCons (mVar 14) (maCons (mVar 15) maNil))))) (maCons (mVar 2) maNil))))))) [.deal, wB W, .val (strsD known), iv deep, iv often, iv form, .val (.str x), iv many, .no, .no, .no, .no, .no, .no, iv k, .no, .no] ⟨fun e => retB (.val .none) (borsE e [1]) Q, Q, fun _ => False, fun _ => False⟩ := fun k k1 k3 => by
      refine w_gd (g_room W) ⟨trivial, wp_room W _ ⟨trivial, sm_of hob (by omega), sm_of (n := 2) (by omega) (by decide), rfl, ?_⟩⟩
      have hb : (often * k).natAbs < 2 ^ (n + 2) := by rw [Int.natAbs_mul]; exact mul_bits hob (by omega)
      refine hr { W with room := W.room - many } known (deep - 1) many (often * k) (n + 2) _ (ok.same ⟨rfl, rfl, rfl, rfl, rfl⟩ (by show 0 ≤ W.room - many; omega) (by show W.room - many ≤ W.room; omega)) knm (by show known.length + (W.room - many).toNat ≤ 60; omega) (by omega) (by omega) m0 (by omega) hb (by omega) fun rs known' W' R => ?_
      obtain ⟨e, he⟩ : ∃ e, deep.toNat = e + 1 := ⟨(deep - 1).toNat, by omega⟩
      have he1 : (deep - 1).toNat = e := by omega
      have R1 := R.ct
      have R2 := R.kn
      have R3 := R.r1
      have R0 := R.ok
      rw [he1] at R1 R0
      have R1 : (cnt e rs : Int) + W'.room ≤ W.room - many + many := R1
      have R2 : (known'.length : Int) + W'.room ≤ known.length + (W.room - many) := R2
      have R3 : W'.room ≤ W.room - many := R3
      refine ⟨rfl, show 15 < 17 by decide, show 2 < 17 by decide, rfl, show 3 ≤ 1000000 by decide, show 2 ≤ 1000000 by decide, ?_⟩
      refine h (.times k rs) known' W' ⟨⟨R.s.n, R.s.k, R.s.w, R.s.q, R.s.f⟩, ?_, R.r0, by omega, ?_, by omega, R.nm⟩
      · rw [he]
        exact ⟨⟨k1, k3⟩, R0⟩
      · rw [he]
        show ((((rs.flatMap (lstR e)).length + 1 : Nat)) : Int) + _ ≤ _
        have R1 : ((rs.flatMap (lstR e)).length : Int) + W'.room ≤ W.room - many + many := R1
        omega
    refine ⟨show 2 ≤ 1000000 by decide, ?_⟩
    have ix2 : ∀ (b : Bool) (K : SV → Prop), (∀ z : Int, 1 ≤ z → z ≤ 3 → K (.val (.int z))) → fIx (.list [.int 3, .int 1]) (.int (if b = true then 1 else 0)) K := fun b K hK => by
      cases b
      · exact ix (d := .int 3) rfl (hK _ (by decide) (by decide))
      · exact ix (d := .int 1) rfl (hK _ (by decide) (by decide))
    refine iteD (fun c4 => ?_) fun c4 => ?_
    · refine w_gd (g_far W) (ix2 (decide (W.far < 4)) _ fun z z1 z3 => ⟨rfl, ⟨by omega, by omega⟩, fun k k0 k1 => ⟨show 14 < 17 by decide, turns (1 + k) (by omega) (by omega)⟩⟩)
    · exact ix2 false _ fun z z1 z3 => ⟨rfl, ⟨by omega, by omega⟩, fun k k0 k1 => ⟨show 14 < 17 by decide, turns (1 + k) (by omega) (by omega)⟩⟩
  have second : (msSeq (msIf (mAnd (mTest (toD (mBin fEq (mPk 5) (mC (.int 6))))) (mAnd (mTest (toD (mBin fGt (mPk 3) (mC (.int 0))))) (mTest (toD (mBin fGe (toD (mBin fIx (mPk 1) (mC (.str "room")))) (toD (mBin fMul (mC (.int 2)) (mPk 7)))))))) (msSeq (msSet 8 (mBin fIx (mPk 1) (mC (.str "quiet"))))
    (msSeq (msPut 1 (mC (.str "quiet")) (mC (.bool true)))
    (msSeq (msPut 1 (mC (.str "room")) (toD (mBin fSub (toD (mBin fIx (mPk 1) (mC (.str "room")))) (toD (mBin fMul (mC (.int 2)) (mPk 7))))))
    (msSeq (msSet 9 (mCall 3 (F_law_term 8) (maCons (mVar 0) (maCons (mVar 2) (maCons (toE (mC (.int 5))) maNil)))))
    (msSeq (msAsg (toD (mCallB 6 (FB_law_rows f) [none, some 1, none, none, none, none] (maCons (mVar 0) (maBor 1 (maCons (mVar 2) (maCons (mBin fSub (mPk 3) (mC (.int 1))) (maCons (mVar 7) (maCons (mVar 4) maNil)))))))) (mgTup 2 (mgCons (mgName 10) (mgCons (mgName 11) mgNil))))
    (msSeq (msAsg (toD (mCallB 6 (FB_law_rows f) [none, some 1, none, none, none, none] (maCons (mVar 0) (maBor 1 (maCons (mVar 2) (maCons (mBin fSub (mPk 3) (mC (.int 1))) (maCons (mVar 7) (maCons (mVar 4) maNil)))))))) (mgTup 2 (mgCons (mgName 12) (mgCons (mgName 13) mgNil))))
    (msSeq (msPut 1 (mC (.str "quiet")) (toD (mVar 8)))
    (msRetB [1] (toE (mTup (maCons (toE (mTup (maCons (toE (mC (.str "when"))) (maCons (mVar 9) (maCons (mVar 10) (maCons (mVar 12) maNil)))))) (maCons (mLc [16] (mItems (toD (mVar 11))) (mgName 16) (mTest (toD (mBin (fIn false) (mPk 16) (mPk 13)))) (mVar 16)) maNil)))))))))))) msNext)
    (msSeq (msIf (mAnd (mTest (toD (mBin fEq (mPk 5) (mC (.int 7))))) (mAnd (mTest (toD (mBin fGt (mPk 3) (mC (.int 0))))) (mTest (toD (mBin fGe (toD (mBin fIx (mPk 1) (mC (.str "room")))) (mPk 7)))))) (msSeq (msSet 14 (mBin fAdd (mC (.int 1)) (toD (mCall 2 F_law_draw (maCons (mVar 0) (maCons (mBin fIx (toD (mLst (maCons (toE (mC (.int 3))) (maCons (toE (mC (.int 1))) maNil)))) (toD (mCB fInt (mlCons (mAndV (toD (mBin fGt (mPk 4) (mC (.int 1)))) (toD (mBin fLt (toD (mBin fIx (mPk 1) (mC (.str "far")))) (mC (.int 4))))) mlNil)))) maNil))))))
    (msSeq (msPut 1 (mC (.str "room")) (toD (mBin fSub (toD (mBin fIx (mPk 1) (mC (.str "room")))) (mPk 7))))
    (msSeq (msAsg (toD (mCallB 6 (FB_law_rows f) [none, some 1, none, none, none, none] (maCons (mVar 0) (maBor 1 (maCons (mVar 2) (maCons (mBin fSub (mPk 3) (mC (.int 1))) (maCons (mVar 7) (maCons (mBin fMul (mPk 4) (mPk 14)) maNil)))))))) (mgTup 2 (mgCons (mgName 15) (mgCons (mgName 2) mgNil))))
    (msRetB [1] (toE (mTup (maCons (toE (mTup (maCons (toE (mC (.str "times"))) (maCons (mVar 14) (maCons (mVar 15) maNil))))) (maCons (mVar 2) maNil)))))))) msNext)
    (msRetB [1] (toE (mTup (maCons (toE (mTup (maCons (toE (mC (.str "let"))) (maCons (mVar 6) (maCons (mCall 3 (F_law_term 8) (maCons (mVar 0) (maCons (mVar 2) (maCons (mBin fAdd (mC (.int 1)) (toD (mCall 2 F_law_draw (maCons (mVar 0) (maCons (toE (mC (.int 7))) maNil))))) maNil)))) maNil))))) (maCons (mBin fAdd (mPk 2) (toD (mLst (maCons (mVar 6) maNil)))) maNil))))))) [.deal, wB W, .val (strsD known), iv deep, iv often, iv form, .val (.str x), iv many, .no, .no, .no, .no, .no, .no, .no, .no, .no] ⟨fun e => retB (.val .none) (borsE e [1]) Q, Q, fun _ => False, fun _ => False⟩ := by
    refine iteD (fun c => ?_) fun _ => third
    refine iteD (fun c2 => ?_) fun _ => third
    have c2 : deep > 0 := c2
    refine w_gd (g_room W) ⟨sm_of (n := 2) (by decide) (by decide), sm_of (n := 1) (by omega) (by decide), ?_⟩
    refine iteD (fun c3 => ?_) fun _ => third
    have c3 : W.room ≥ 2 * many := c3
    refine w_gd (g_quiet W) ⟨show 8 < 17 by decide, trivial, wp_quiet W true ?_⟩
    refine w_gd (g_room _) ⟨sm_of (n := 2) (by decide) (by decide), sm_of (n := 1) (by omega) (by decide), trivial, wp_room _ _ ?_⟩
    refine ⟨rfl, w_term (known := known) (by omega) knm 7 5 (by decide) (by decide) (by decide) _ fun t ht => ⟨show 9 < 17 by decide, trivial, rfl, ?_⟩⟩
    have okV : WOk { W with room := W.room - 2 * many, quiet := true } := ⟨ok.ne, ok.nl, ok.k0, ok.k3, ok.w0, ok.w9, by show 0 ≤ W.room - 2 * many; omega, by show W.room - 2 * many ≤ 12; omega, ok.nm⟩
    refine hr { W with room := W.room - 2 * many, quiet := true } known (deep - 1) many often n _ okV knm (by show known.length + (W.room - 2 * many).toNat ≤ 60; omega) (by omega) (by omega) m0 (by omega) hob (by omega) fun rs1 kn1 W1 R => ?_
    refine ⟨rfl, show 10 < 17 by decide, show 11 < 17 by decide, rfl, trivial, rfl, ?_⟩
    have r1 : W1.room ≤ W.room - 2 * many := R.r1
    have r10 := R.r0
    refine hr W1 known (deep - 1) many often n _ (okV.same R.s R.r0 R.r1) knm (by omega) (by omega) (by omega) m0 (by omega) hob (by omega) fun rs2 kn2 W2 R2 => ?_
    refine ⟨rfl, show 12 < 17 by decide, show 13 < 17 by decide, rfl, trivial, wp_quiet W2 _ ?_⟩
    obtain ⟨e, he⟩ : ∃ e, deep.toNat = e + 1 := ⟨(deep - 1).toNat, by omega⟩
    have he1 : (deep - 1).toNat = e := by omega
    have ct1 := R.ct
    have ct2 := R2.ct
    have ok1 := R.ok
    have ok2 := R2.ok
    have kk := R.kn
    have r2 := R2.r1
    have r20 := R2.r0
    rw [he1] at ct1 ct2 ok1 ok2
    have ct1 : ((rs1.flatMap (lstR e)).length : Int) + W1.room ≤ W.room - 2 * many + many := ct1
    have ct2 : ((rs2.flatMap (lstR e)).length : Int) + W2.room ≤ W1.room + many := ct2
    have kk : (kn1.length : Int) + W1.room ≤ known.length + (W.room - 2 * many) := kk
    refine ⟨show 4 ≤ 1000000 by decide, ⟨⟨by show (kn1.map PyData.str).length ≤ 1000000; rw [List.length_map]; omega, fun i hi => by rw [List.mem_singleton.mp hi]; trivial⟩, ?_⟩⟩
    refine lcLt .str (fun y => decide (y ∈ kn2)) .str kn1 [] _ (fun y hy K N hK hN => ⟨show 16 < 17 by decide, .inl ⟨rfl, flat_strs kn2⟩, ?_⟩) ?_
    · show if (xor false ((kn2.map PyData.str).any fun z => PyData.eqv z (.str y))) = true then _ else _
      rw [any_str, xf]
      refine iteD (fun c => ?_) fun c => ?_
      · exact hK (decide_eq_true c)
      · exact hN (decide_eq_false c)
    · refine ⟨show 2 ≤ 1000000 by decide, ?_⟩
      have fl := List.length_filter_le (fun y => decide (y ∈ kn2)) kn1
      refine h (.when t rs1 rs2) (kn1.filter fun y => decide (y ∈ kn2)) { W2 with quiet := W.quiet } ⟨⟨R2.s.n.trans R.s.n, R2.s.k.trans R.s.k, R2.s.w.trans R.s.w, rfl, R2.s.f.trans R.s.f⟩, ?_, R2.r0, by show W2.room ≤ _; omega, ?_, by show _ + W2.room ≤ _; omega, fun y hy => R.nm y (List.mem_filter.mp hy).1⟩
      · rw [he]
        refine ⟨tm_mono ht (by decide), ok1, ?_⟩
        have ek : W1.kinds = W.kinds := R.s.k
        have ew : W1.wide = W.wide := R.s.w
        rw [ek, ew] at ok2
        exact ok2
      · rw [he]
        show ((((rs1.flatMap (lstR e) ++ rs2.flatMap (lstR e)).length + 1 : Nat)) : Int) + W2.room ≤ _
        rw [List.length_append]
        omega
  -- the first two
  refine iteD (fun c => ?_) fun c => ?_
  · refine w_gd (g_left W) ?_
    refine iteD (fun c2 => ?_) fun c2 => ?_
    · refine w_gd (g_left W) ⟨trivial, wp_left W _ ⟨trivial, rfl, w_throwB (W := { W with left := W.left - often }) (ok.same ⟨rfl, rfl, rfl, rfl, rfl⟩ hw0 (Int.le_refl _)) x _ fun t ht => ?_⟩⟩
      refine ⟨show 1 ≤ 1000000 by decide, by show (known.map PyData.str).length + 1 ≤ 1000000; rw [List.length_map]; omega, show 2 ≤ 1000000 by decide, ?_⟩
      have := h (.thr x t) (known ++ [x]) { W with left := W.left - often } ⟨⟨rfl, rfl, rfl, rfl, rfl⟩, ok_thr ⟨xok, ht⟩ _, hw0, Int.le_refl _, by rw [l_thr]; show ((1 : Nat) : Int) + W.room ≤ _; omega, by rw [List.length_append]; show ((known.length + 1 : Nat) : Int) + W.room ≤ _; omega, knm'⟩
      unfold strsD at this
      rw [List.map_append] at this
      exact this
    · exact second
  · exact second
end K36

set_option Elab.async false
set_option linter.all false
set_option maxRecDepth 100000
set_option maxHeartbeats 4000000
set_option pp.maxSteps 600
namespace K36
open PySem PySem.Spec PyProof.Rows L2 Pq Lb
theorem cnt_app (d : Nat) (a b : List Rw) : cnt d (a ++ b) = cnt d a + cnt d b := by
  unfold cnt
  rw [List.flatMap_append, List.length_append]
theorem cnt_one (d : Nat) (r : Rw) : cnt d [r] = (lstR d r).length := by
  unfold cnt
  rw [List.flatMap_cons, List.flatMap_nil, List.append_nil]
theorem cnt_tells (d : Nat) : ∀ ts : List Tm, cnt d (ts.map .tell) = ts.length
  | [] => rfl
  | t :: ts => by
    have := cnt_app d [.tell t] (ts.map .tell)
    rw [cnt_one, l_tell, cnt_tells d ts] at this
    rw [List.map_cons, List.length_cons]
    have e : cnt d (.tell t :: ts.map .tell) = cnt d ([.tell t] ++ ts.map .tell) := rfl
    rw [e, this]
    show 1 + _ = _
    omega
theorem cnt_ge (d : Nat) : ∀ rs : List Rw, rs.length ≤ cnt d rs
  | [] => Nat.le_refl _
  | r :: rs => by
    have := cnt_app d [r] rs
    rw [cnt_one] at this
    have e : cnt d (r :: rs) = cnt d ([r] ++ rs) := rfl
    have ih := cnt_ge d rs
    have l1 : 1 ≤ (lstR d r).length := by
      cases d with
      | zero => cases r <;> exact Nat.le_refl _
      | succ d => cases r <;> first | exact Nat.le_refl _ | (show 1 ≤ _ + 1; omega)
    rw [e, this, List.length_cons]
    omega
theorem tells_of : ∀ res : List Da, (∀ x ∈ res, ∃ t, x = rwD (.tell t) ∧ TmOk 7 t) → ∃ ts : List Tm, res = (ts.map Rw.tell).map rwD ∧ ts.length = res.length ∧ ∀ t ∈ ts, TmOk 7 t
  | [], _ => ⟨[], rfl, rfl, fun _ z => by cases z⟩
  | x :: r, h => by
    obtain ⟨L, e, l, s⟩ := tells_of r fun y hy => h y (List.mem_cons_of_mem _ hy)
    obtain ⟨z, rfl, hz⟩ := h x List.mem_cons_self
    refine ⟨z :: L, by rw [e]; rfl, by rw [List.length_cons, List.length_cons, l], fun y hy => ?_⟩
    rcases List.mem_cons.mp hy with rfl | hy
    · exact hz
    · exact s y hy
def optV : Option Int → SV
  | none => .no
  | some k => iv k
theorem step_rows {f : Nat} (hr : PRow f) : PRows (f + 1) := by
  intro W known deep tells often n Q ok knm hkn d0 hf t0 t1 hob hn h
  rw [show FB_law_rows (f + 1) = fnB 9 6 [1] (M_law_rows (FB_law_row f) (FB_law_rows f)) from rfl]
  show M_law_rows (FB_law_row f) (FB_law_rows f) [.deal, wB W, .val (strsD known), iv deep, iv tells, iv often, .no, .no, .no] ⟨fun e => retB (.val .none) (borsE e [1]) Q, Q, fun _ => False, fun _ => False⟩
  unfold M_law_rows
  have hw0 := ok.r0
  have hw1 := ok.r1
  refine ⟨show 0 ≤ 1000000 by decide, show 6 < 9 by decide, rfl, ⟨by decide, by decide⟩, fun q q0 q1 => ⟨⟨by omega, by omega⟩, ?_⟩⟩
  show forGo _ _ (rgD 0 q) _ _
  rw [rgD_I]
  have lm : (rgI 0 q).length = q.toNat := by rw [rgI_len]; omega
  refine for_L .int (fun done e => ∃ (rs : List Rw) (kn : List Str) (V : Wld) (a : Option Int) (b : SV), SameW W V ∧ (∀ r ∈ rs, RwOk W.kinds W.wide deep.toNat r) ∧ 0 ≤ V.room ∧ V.room ≤ W.room ∧ (cnt deep.toNat rs : Int) + V.room ≤ W.room ∧ (kn.length : Int) + V.room ≤ known.length + W.room ∧ (∀ x ∈ kn, nmOk x) ∧ e = [.deal, wB V, .val (strsD kn), iv deep, iv tells, iv often, .own true (.list (rs.map rwD)), optV a, b]) (rgI 0 q) _
    ⟨[], known, W, none, .no, .rfl', (fun r hr => by cases hr), hw0, Int.le_refl _, by show ((0 : Nat) : Int) + _ ≤ _; omega, Int.le_refl _, knm, rfl⟩ ?_ ?_
  · rintro done k rest hL e ⟨rs, kn, V, a, b, sw, oks, v0, v1, ct, kk, kok, rfl⟩ N hN
    refine ⟨show 7 < 9 by decide, w_gd (g_room V) ?_⟩
    refine iteD (fun c => ?_) fun c => ?_
    · have c : V.room > 0 := c
      have okV : WOk { V with room := V.room - 1 } := ok.same ⟨sw.n, sw.k, sw.w, sw.q, sw.f⟩ (by show 0 ≤ V.room - 1; omega) (by show V.room - 1 ≤ W.room; omega)
      refine w_gd (g_room V) ⟨trivial, wp_room V _ ⟨trivial, rfl, ?_⟩⟩
      refine hr { V with room := V.room - 1 } kn deep often n _ okV kok (by show kn.length + (V.room - 1).toNat ≤ 59; omega) d0 (by omega) hob hn fun r kn' V' R => ?_
      have R0 := R.ok
      have R1 : ((lstR deep.toNat r).length : Int) + V'.room ≤ V.room - 1 + 1 := R.ct
      have R2 : (kn'.length : Int) + V'.room ≤ kn.length + (V.room - 1) + 1 := R.kn
      have R3 : V'.room ≤ V.room - 1 := R.r1
      have R4 := R.r0
      have ge := cnt_ge deep.toNat rs
      refine ⟨rfl, show 8 < 9 by decide, show 2 < 9 by decide, rfl, trivial, by rw [List.length_map]; omega, hN _ ⟨rs ++ [r], kn', V', some k, .val (rwD r), sw.trans ⟨R.s.n, R.s.k, R.s.w, R.s.q, R.s.f⟩, fun x hx => ?_, R4, by omega, by rw [cnt_app, cnt_one]; omega, by omega, R.nm, by rw [List.map_append]; rfl⟩⟩
      rcases List.mem_append.mp hx with hx | hx
      · exact oks x hx
      · rw [List.mem_singleton.mp hx]
        have ek : V.kinds = W.kinds := sw.k
        have ew : V.wide = W.wide := sw.w
        have R0 : RwOk V.kinds V.wide deep.toNat r := R0
        rw [ek, ew] at R0
        exact R0
    · exact hN _ ⟨rs, kn, V, some k, b, sw, oks, v0, v1, ct, kk, kok, rfl⟩
  · rintro e ⟨rs, kn, V, a, b, sw, oks, v0, v1, ct, kk, kok, rfl⟩
    have ge := cnt_ge deep.toNat rs
    refine ⟨⟨by omega, by omega⟩, ⟨⟨?_, fun i hi => ?_⟩, ?_⟩⟩
    · show (rgD 0 tells).length ≤ 1000000
      rw [rgD_I, List.length_map, rgI_len]; omega
    · rw [List.mem_singleton.mp hi]
      cases a <;> trivial
    refine lc_any (fun d => ∃ t, d = rwD (.tell t) ∧ TmOk 7 t) _ _ _ (fun d hd K hK => ⟨by cases a <;> exact (show 7 < 9 by decide), rfl, ⟨by decide, by decide⟩, fun z z0 z1 => ⟨rfl, w_term (known := kn) (by omega) kok 7 (1 + z) (by omega) (by omega) (by omega) _ fun t ht => ⟨show 2 ≤ 1000000 by decide, hK _ ⟨t, rfl, tm_mono ht (by omega)⟩⟩⟩⟩) fun res hl hr => ?_
    obtain ⟨ts, rfl, l, s⟩ := tells_of res fun x hx => (hr x hx).resolve_left fun z => by cases z
    have tlen : ts.length = tells.toNat := by
      have hl : ts.length = 0 + (rgD 0 tells).length := by rw [l, hl]; rfl
      rw [rgD_I, List.length_map, rgI_len] at hl
      omega
    refine ⟨by rw [List.length_map, List.length_map, List.length_map]; omega, show 6 < 9 by decide, ?_⟩
    have fin := h (rs ++ ts.map .tell) kn V ⟨sw, fun x hx => ?_, v0, v1, by rw [cnt_app, cnt_tells]; omega, kk, kok⟩
    · rw [rwsD_map, List.map_append] at fin
      exact ⟨show 2 ≤ 1000000 by decide, fin⟩
    · rcases List.mem_append.mp hx with hx | hx
      · exact oks x hx
      · obtain ⟨t, ht, rfl⟩ := List.mem_map.mp hx
        exact ok_tell (s t ht) _
theorem gens : ∀ f : Nat, PRow f ∧ PRows f
  | 0 => ⟨fun W known deep often n Q ok _ hkn d0 hf => by omega, fun W known deep tells often n Q ok _ hkn d0 hf => by omega⟩
  | f + 1 => ⟨step_row (gens f).2, step_rows (gens f).1⟩
end K36

set_option Elab.async false
set_option linter.all false
set_option maxRecDepth 100000
set_option maxHeartbeats 4000000
set_option pp.maxSteps 600
namespace K36
open PySem PySem.Spec PyProof.Rows L2 Pq Lb
def pgD (ks : List Str) (rs : List Rw) : Da := .tuple [.tuple (ks.map .str), .tuple (rwsD rs)]
/-- programs that are made -/
structure PgOk (n wide : Int) (ks : List Str) (rs : List Rw) : Prop where
  kl : (ks.length : Int) = n
  n1 : 1 ≤ n
  n3 : n ≤ 3
  ok : ∀ r ∈ rs, RwOk n wide 3 r
  ct : cnt 3 rs ≤ 12
  nm : ∀ k ∈ ks, nmOk k
theorem cut_from (L : List Da) (i : Nat) : Pq.cutD L (some (i : Int)) none = L.drop i := by
  unfold Pq.cutD
  rw [HT.sIx_nat, HT.sIx_none]
  rcases Nat.le_total i L.length with c | c
  · rw [Nat.min_eq_left c, List.take_of_length_le (by rw [List.length_drop]; exact Nat.le_refl _)]
  · rw [Nat.min_eq_right c, List.drop_eq_nil_of_le (Nat.le_refl _), List.drop_eq_nil_of_le c, List.take_nil]
theorem cut_to (L : List Da) (i : Nat) : Pq.cutD L none (some (i : Int)) = L.take i := by
  unfold Pq.cutD
  rw [HT.sIx_nat, HT.sIx_none, List.drop_zero]
  rcases Nat.le_total i L.length with c | c
  · rw [Nat.min_eq_left c, Nat.sub_zero]
  · rw [Nat.min_eq_right c, Nat.sub_zero, List.take_of_length_le (Nat.le_refl _), List.take_of_length_le c]
theorem disp_w (a b c d e f g : Da) : mergeD [] [((.inr "names" : L2.Key), a), (.inr "kinds", b), (.inr "wide", c), (.inr "left", d), (.inr "room", e), (.inr "quiet", f), (.inr "far", g)] =
  [(.str "names", a), (.str "kinds", b), (.str "wide", c), (.str "left", d), (.str "room", e), (.str "quiet", f), (.str "far", g)] := by kernel_rfl
theorem disp_2 (a b : Da) : mergeD [] [((.inr "kinds" : L2.Key), a), (.inr "wide", b)] = [(.str "kinds", a), (.str "wide", b)] := by kernel_rfl
theorem g2_wide (a b : Da) : dGetO [(.str "kinds", a), (.str "wide", b)] (.str "wide") = some (some b) := by kernel_rfl
theorem g2_kinds (a b : Da) : dGetO [(.str "kinds", a), (.str "wide", b)] (.str "kinds") = some (some a) := by kernel_rfl
theorem ks_take {L : List Str} {many : Int} (m0 : 0 ≤ many) : Pq.cutD (L.map PyData.str) none (some many) = (L.take many.toNat).map .str := by
  have := cut_to (L.map PyData.str) many.toNat
  rw [Int.toNat_of_nonneg m0] at this
  rw [this, List.map_take]
theorem w_program {kinds throws wide : Int} (k1 : 1 ≤ kinds) (k3 : kinds ≤ 3) (w0 : 0 ≤ wide) (w9 : wide ≤ 9) (Q : SV → Prop) (h : ∀ n ks rs, PgOk n wide ks rs → Q (.val (pgD ks rs))) : F_law_program [.deal, iv kinds, iv throws, iv wide] Q := by
  refine ⟨rfl, w_names (by decide) (by decide) _ fun L hL lok => ⟨show 4 < 12 by decide, ?_⟩⟩
  refine ⟨rfl, ⟨by omega, by omega⟩, fun m m0 m1 => ⟨show 5 < 12 by decide, ?_⟩⟩
  refine ⟨show 6 < 12 by decide, ?_⟩
  refine at_env [.deal, iv kinds, iv throws, iv wide, .val (.list (L.map .str)), iv (1 + m), .own true (.dict (wL ⟨L.drop 3, 1 + m, wide, throws, 12, false, throws⟩)), .no, .no, .no, .no, .no] ?_ ?_
  · have := disp_w (.list (cutD (L.map .str) (some 3) none)) (.int (1 + m)) (.int wide) (.int throws) (.int 12) (.bool false) (.int throws)
    have e3 := cut_from (L.map PyData.str) 3
    rw [show ((3 : Nat) : Int) = 3 from rfl] at e3
    rw [e3, ← List.map_drop] at this
    show [SV.deal, iv kinds, iv throws, iv wide, .val (.list (L.map .str)), iv (1 + m), .own true (.dict (mergeD [] [((.inr "names" : L2.Key), .list (cutD (L.map .str) (some 3) none)), (.inr "kinds", .int (1 + m)), (.inr "wide", .int wide), (.inr "left", .int throws), (.inr "room", .int 12), (.inr "quiet", .bool false), (.inr "far", .int throws)])), .no, .no, .no, .no, .no] = _
    rw [e3, ← List.map_drop, this]
    rfl
  have l7 : L.length = 7 := by omega
  refine w_ix (by decide) (by show (3 : Int) < ((L.map PyData.str).length : Int); rw [List.length_map]; omega) _ fun x hx => ?_
  obtain ⟨x, hx0, rfl⟩ := List.mem_map.mp hx
  have xok := lok x hx0
  have kx : ∀ y ∈ [x], nmOk y := fun y hy => by rw [List.mem_singleton.mp hy]; exact xok
  refine ⟨show 7 < 12 by decide, rfl, ⟨by decide, by decide⟩, fun t t0 t1 => ⟨show 8 < 12 by decide, ?_⟩⟩
  refine w_gd (g_room _) ⟨trivial, wp_room _ _ ?_⟩
  have ne : L.drop 3 ≠ [] := fun z => by
    have := congrArg List.length z
    rw [List.length_drop, l7] at this
    exact absurd this (by decide)
  have ok : ∀ l : Int, WOk ⟨L.drop 3, 1 + m, wide, l, 12 - 1 - (1 + t), false, throws⟩ := fun l => ⟨ne, by show (L.drop 3).length ≤ 12; rw [List.length_drop]; omega, by show 0 ≤ 1 + m; omega, by show 1 + m ≤ 3; omega, w0, w9, by show 0 ≤ 12 - 1 - (1 + t); omega, by show 12 - 1 - (1 + t) ≤ 12; omega, fun y hy => lok y (List.mem_of_mem_drop hy)⟩
  have kl : ((L.take (1 + m).toNat).length : Int) = 1 + m := by rw [List.length_take]; omega
  have fin : ∀ (r : Rw) (rs : List Rw) (l : Int) (kn : List Str) (W' : Wld), RowsR ⟨L.drop 3, 1 + m, wide, l, 12 - 1 - (1 + t), false, throws⟩ [x] 3 (1 + t) rs kn W' → RwOk (1 + m) wide 3 r → (lstR 3 r).length = 1 → Q (.val (.tuple [.tuple (cutD (L.map .str) none (some (1 + m))), .tuple ([rwD r] ++ rwsD rs)])) := fun r rs l kn W' R hr hl => by
    rw [ks_take (by omega)]
    have R1 : (cnt 3 rs : Int) + W'.room ≤ 12 - 1 - (1 + t) + (1 + t) := R.ct
    have R0 := R.r0
    refine h (1 + m) (L.take (1 + m).toNat) (r :: rs) ⟨kl, by omega, by omega, fun y hy => ?_, ?_, ?_⟩
    · rcases List.mem_cons.mp hy with rfl | hy
      · exact hr
      · exact R.ok y hy
    · have e : cnt 3 (r :: rs) = cnt 3 ([r] ++ rs) := rfl
      rw [e, cnt_app, cnt_one, hl]
      omega
    · exact fun y hy => lok y (List.mem_of_mem_take hy)
  refine ⟨rfl, ⟨by decide, by decide⟩, fun c c0 c1 => ?_⟩
  refine iteD (fun _ => ?_) fun _ => ?_
  · refine ⟨trivial, show 1 ≤ 1000000 by decide, rfl, ?_⟩
    refine (gens 8).2 ⟨L.drop 3, 1 + m, wide, throws, 12 - 1 - (1 + t), false, throws⟩ [x] 3 (1 + t) 1 1 _ (ok _) kx (by show 1 + (12 - 1 - (1 + t)).toNat ≤ 60; omega) (by decide) (by decide) (by omega) (by omega) (by decide) (by decide) fun rs kn W' R => ?_
    refine ⟨rfl, show 9 < 12 by decide, show 10 < 12 by decide, rfl, ?_⟩
    refine ⟨rfl, ⟨by decide, by decide⟩, fun z z0 z1 => ⟨show 2 ≤ 1000000 by decide, show 3 ≤ 1000000 by decide, show 1 ≤ 1000000 by decide, ?_⟩⟩
    have ge := cnt_ge 3 rs
    have R1 : (cnt 3 rs : Int) + W'.room ≤ 12 - 1 - (1 + t) + (1 + t) := R.ct
    have R0 := R.r0
    refine ⟨by rw [rwsD_map, List.length_map]; show 1 + rs.length ≤ 1000000; omega, show 2 ≤ 1000000 by decide, ?_⟩
    exact fin (.lt x (.num z)) rs _ kn W' R (ok_lt (t := .num z) ⟨xok, by show 1 ≤ 7; decide, show 0 ≤ z ∧ z < 1000 from ⟨z0, by have z1 : z < 4 := z1; omega⟩⟩ 3) rfl
  · refine w_gd (g_left _) ⟨trivial, wp_left _ _ ?_⟩
    refine ⟨trivial, rfl, w_throwB (W := ⟨L.drop 3, 1 + m, wide, throws - 1, 12 - 1 - (1 + t), false, throws⟩) (ok _) x _ fun th hth => ⟨show 11 < 12 by decide, ?_⟩⟩
    refine ⟨trivial, show 1 ≤ 1000000 by decide, rfl, ?_⟩
    refine (gens 8).2 ⟨L.drop 3, 1 + m, wide, throws - 1, 12 - 1 - (1 + t), false, throws⟩ [x] 3 (1 + t) 1 1 _ (ok _) kx (by show 1 + (12 - 1 - (1 + t)).toNat ≤ 60; omega) (by decide) (by decide) (by omega) (by omega) (by decide) (by decide) fun rs kn W' R => ?_
    refine ⟨rfl, show 9 < 12 by decide, show 10 < 12 by decide, rfl, ?_⟩
    refine ⟨show 1 ≤ 1000000 by decide, ?_⟩
    have ge := cnt_ge 3 rs
    have R1 : (cnt 3 rs : Int) + W'.room ≤ 12 - 1 - (1 + t) + (1 + t) := R.ct
    have R0 := R.r0
    refine ⟨by rw [rwsD_map, List.length_map]; show 1 + rs.length ≤ 1000000; omega, show 2 ≤ 1000000 by decide, ?_⟩
    exact fin (.thr x th) rs _ kn W' R (ok_thr ⟨xok, hth⟩ 3) rfl
/-! ### chains of lets -/
theorem w_chain (Q : SV → Prop) (h : ∀ n ks rs, PgOk n 4 ks rs → Q (.val (pgD ks rs))) : F_law_chain [.deal] Q := by
  refine ⟨rfl, w_names (by decide) (by decide) _ fun L hL lok => ⟨show 1 < 6 by decide, ?_⟩⟩
  have l12 : L.length = 12 := by omega
  have nm : ∀ {i : Int} {K : SV → Prop}, 0 ≤ i → i < 12 → (∀ x : Str, nmOk x → K (.val (.str x))) → fIx (.list (L.map .str)) (.int i) K := fun {i K} i0 i1 hK => by
    refine w_ix i0 (by rw [List.length_map]; omega) _ fun x hx => ?_
    obtain ⟨x, hx0, rfl⟩ := List.mem_map.mp hx
    exact hK x (lok x hx0)
  refine ⟨rfl, ⟨by decide, by decide⟩, fun m m0 m1 => ⟨show 2 < 6 by decide, ?_⟩⟩
  refine nm (by decide) (by decide) fun x xok => ⟨rfl, ?_⟩
  refine w_throw0 (n := 1) (wide := 4) (by decide) (by decide) (by decide) (by decide) (by rw [disp_2]; exact g2_wide _ _) (by rw [disp_2]; exact g2_kinds _ _) x _ fun th hth => ⟨show 1 ≤ 1000000 by decide, show 3 < 6 by decide, ?_⟩
  refine ⟨⟨by omega, by omega⟩, ?_⟩
  show forGo _ _ (rgD 0 (1 + m)) _ _
  rw [rgD_I]
  have lm : (rgI 0 (1 + m)).length = (1 + m).toNat := by rw [rgI_len]; omega
  refine for_L .int (fun done e => ∃ (ts : List (Str × Tm)) (a : SV), ts.length = done.length ∧ (∀ p ∈ ts, nmOk p.1 ∧ TmOk 7 p.2) ∧ e = [.deal, .val (.list (L.map .str)), iv (1 + m), .own true (.list ((.thr x th :: ts.map fun p => Rw.lt p.1 p.2).map rwD)), a, .no]) (rgI 0 (1 + m)) _ ⟨[], .no, rfl, (fun p hp => by cases hp), rfl⟩ ?_ ?_
  · rintro done k rest hD e ⟨ts, a, tl, ts7, rfl⟩ N hN
    have hk : k ∈ rgI 0 (1 + m) := by rw [hD]; exact List.mem_append_right _ List.mem_cons_self
    have hk := mem_rgI.mp hk
    rw [hD, List.length_append, List.length_cons] at lm
    refine ⟨show 4 < 6 by decide, trivial, ?_⟩
    refine nm (by omega) (by omega) fun y yok => nm (by omega) (by omega) fun z zok => ⟨show 2 ≤ 1000000 by decide, show 2 ≤ 1000000 by decide, show 4 ≤ 1000000 by decide, show 3 ≤ 1000000 by decide, ?_⟩
    refine ⟨by rw [List.length_map, List.length_cons, List.length_map]; omega, hN _ ⟨ts ++ [(y, .op "+" (.name z) (.num k))], iv k, by rw [List.length_append, List.length_append, tl]; rfl, fun p hp => ?_, ?_⟩⟩
    · rcases List.mem_append.mp hp with hp | hp
      · exact ts7 p hp
      · rw [List.mem_singleton.mp hp]; exact ⟨yok, by show 3 ≤ 7; decide, by decide, zok, by omega, by omega⟩
    · rw [List.map_append, ← List.cons_append, List.map_append]
      rfl
  · rintro e ⟨ts, a, tl, ts7, rfl⟩
    refine ⟨rfl, ⟨by omega, by omega⟩, fun d d0 d1 => ⟨show 5 < 6 by decide, ?_⟩⟩
    have d1 : d < min 3 (1 + m + 1) := d1
    refine nm (by omega) (by omega) fun y yok => ⟨show 2 ≤ 1000000 by decide, show 2 ≤ 1000000 by decide, show 1 ≤ 1000000 by decide, ?_⟩
    have lts : ts.length ≤ 10 := by omega
    refine ⟨by rw [List.length_map, List.length_cons, List.length_map]; show ts.length + 1 + 1 ≤ 1000000; omega, show 2 ≤ 1000000 by decide, ?_⟩
    have e1 := cut_to (L.map PyData.str) 1
    rw [show ((1 : Nat) : Int) = 1 from rfl] at e1
    rw [e1, ← List.map_take]
    have := h 1 (L.take 1) ((.thr x th :: ts.map fun p => Rw.lt p.1 p.2) ++ [.tell (.name y)]) ⟨by rw [List.length_take, l12]; rfl, by decide, by decide, fun r hr => ?_, ?_, fun y hy => lok y (List.mem_of_mem_take hy)⟩
    · unfold pgD at this
      rw [rwsD_map, List.map_append] at this
      exact this
    · rcases List.mem_append.mp hr with hr | hr
      · rcases List.mem_cons.mp hr with rfl | hr
        · exact ok_thr ⟨xok, hth⟩ 3
        · obtain ⟨p, hp, rfl⟩ := List.mem_map.mp hr
          exact ok_lt (ts7 p hp) 3
      · rw [List.mem_singleton.mp hr]
        exact ok_tell (t := .name y) ⟨by show 1 ≤ 7; decide, show nmOk y from yok⟩ 3
    · have cl : ∀ ts : List (Str × Tm), cnt 3 (ts.map fun p => Rw.lt p.1 p.2) = ts.length := fun ts => by
        induction ts with
        | nil => rfl
        | cons p ts ih =>
          have e := cnt_app 3 [Rw.lt p.1 p.2] (ts.map fun p => Rw.lt p.1 p.2)
          rw [cnt_one, ih] at e
          exact e.trans (by rw [List.length_cons]; show 1 + _ = _; omega)
      have e := cnt_app 3 [Rw.thr x th] (ts.map fun p => Rw.lt p.1 p.2)
      rw [cnt_one, cl] at e
      rw [cnt_app, cnt_one]
      have e : cnt 3 (Rw.thr x th :: ts.map fun p => Rw.lt p.1 p.2) = 1 + ts.length := e
      rw [e]
      show 1 + ts.length + 1 ≤ 12
      omega
end K36

set_option Elab.async false
set_option linter.all false
set_option maxRecDepth 100000
set_option maxHeartbeats 4000000
set_option pp.maxSteps 600
namespace K36
open PySem PySem.Spec PyProof.Rows L2 Pq Lb
/-! ### texts in order -/
theorem lt_tri : ∀ a b : List Nat, ltCps a b = false → ltCps b a = false → a = b
  | [], [], _, _ => rfl
  | [], _ :: _, h, _ => by simp [ltCps] at h
  | _ :: _, [], _, h => by simp [ltCps] at h
  | x :: a, y :: b, h1, h2 => by
    simp only [ltCps, Bool.or_eq_false_iff, Bool.and_eq_false_iff, decide_eq_false_iff_not, beq_eq_false_iff_ne] at h1 h2
    have e : x = y := by omega
    subst e
    rw [lt_tri a b (h1.2.resolve_left (fun z => z rfl)) (h2.2.resolve_left (fun z => z rfl))]
theorem le_tr : ∀ a b c : List Nat, ltCps b a = false → ltCps c b = false → ltCps c a = false
  | [], b, [], _, _ => rfl
  | [], _, _ :: _, _, _ => rfl
  | _ :: _, [], _, h, _ => by simp [ltCps] at h
  | _ :: _, _ :: _, [], _, h => by simp [ltCps] at h
  | x :: a, y :: b, z :: c, h1, h2 => by
    simp only [ltCps, Bool.or_eq_false_iff, Bool.and_eq_false_iff, decide_eq_false_iff_not, beq_eq_false_iff_ne] at h1 h2 ⊢
    refine ⟨by omega, ?_⟩
    by_cases e : z = x
    · refine .inr ?_
      have e1 : y = x := by omega
      have e2 : z = y := by omega
      exact le_tr a b c (h1.2.resolve_left fun k => k e1) (h2.2.resolve_left fun k => k e2)
    · exact .inl e
def LeS (a b : Str) : Prop := ltCps (tl b) (tl a) = false
theorem rising_pw : ∀ (r : List Str) (p : Str), risingS p r = true → (∀ x ∈ r, LeS p x) ∧ r.Pairwise LeS
  | [], _, _ => ⟨(fun x hx => by cases hx), .nil⟩
  | x :: r, p, h => by
    have h : (!ltCps (tl x) (tl p) && risingS x r) = true := h
    rw [Bool.and_eq_true, Bool.not_eq_true'] at h
    obtain ⟨a, b⟩ := rising_pw r x h.2
    refine ⟨fun y hy => ?_, .cons a b⟩
    rcases List.mem_cons.mp hy with rfl | hy
    · exact h.1
    · exact le_tr _ _ _ h.1 (a y hy)
theorem sorted_pw : ∀ {r : List Str}, sortedS r = true → r.Pairwise LeS
  | [], _ => .nil
  | x :: r, h => by
    obtain ⟨a, b⟩ := rising_pw r x h
    exact .cons a b
theorem pw_unique : ∀ {xs ys : List Str}, xs.Pairwise LeS → ys.Pairwise LeS → xs.Nodup → ys.Nodup → (∀ x, x ∈ xs ↔ x ∈ ys) → xs = ys
  | [], [], _, _, _, _, _ => rfl
  | [], y :: ys, _, _, _, _, h => by have := (h y).mpr List.mem_cons_self; cases this
  | x :: xs, [], _, _, _, _, h => by have := (h x).mp List.mem_cons_self; cases this
  | x :: xs, y :: ys, p1, p2, n1, n2, h => by
    rw [List.pairwise_cons] at p1 p2
    rw [List.nodup_cons] at n1 n2
    have e : x = y := by
      rcases List.mem_cons.mp ((h x).mp List.mem_cons_self) with e | hx
      · exact e
      · rcases List.mem_cons.mp ((h y).mpr List.mem_cons_self) with e | hy
        · exact e.symm
        · exact tl_inj (lt_tri _ _ (p2.1 x hx) (p1.1 y hy))
    subst e
    rw [pw_unique p1.2 p2.2 n1.2 n2.2 fun z => ?_]
    constructor
    · intro hz
      exact (List.mem_cons.mp ((h z).mp (List.mem_cons_of_mem _ hz))).resolve_left fun e => n1.1 (by rw [← e]; exact hz)
    · intro hz
      exact (List.mem_cons.mp ((h z).mpr (List.mem_cons_of_mem _ hz))).resolve_left fun e => n2.1 (by rw [← e]; exact hz)
theorem sorted_unique {xs ys : List Str} (h1 : sortedS xs = true) (h2 : sortedS ys = true) (n1 : xs.Nodup) (n2 : ys.Nodup) (h : ∀ x, x ∈ xs ↔ x ∈ ys) : xs = ys := pw_unique (sorted_pw h1) (sorted_pw h2) n1 n2 h
/-! ### names in terms -/
def tnm : Tm → List Str
  | .num _ => []
  | .name x => [x]
  | .op _ a b => tnm a ++ tnm b
theorem tnm_len : ∀ t : Tm, 2 * (tnm t).length ≤ tsz t + 1
  | .num _ => by show 2 * 0 ≤ 2; omega
  | .name _ => Nat.le_refl _
  | .op _ a b => by
    have := tnm_len a
    have := tnm_len b
    rw [tnm, tsz, List.length_append]
    omega
theorem w_names_of : ∀ (f : Nat) (t : Tm), tsz t ≤ f → f ≤ 100 → ∀ Q : SV → Prop, Q (.own true (.list ((tnm t).map .str))) → F_names_of f [.val (tmD t)] Q
  | 0, t, h, _, _, _ => by have := tsz_pos t; omega
  | f + 1, t, ht, hf, Q, h => by
    rw [show F_names_of (f + 1) = fnD 1 1 (M_names_of (F_names_of f)) from rfl]
    show M_names_of (F_names_of f) [.val (tmD t)] ⟨fun _ => Q (.val .none), Q, fun _ => False, fun _ => False⟩
    unfold M_names_of
    cases t with
    | num n => exact ix rfl (ix rfl ⟨show 0 ≤ 1000000 by decide, h⟩)
    | name x => exact ix rfl (ix rfl ⟨show 1 ≤ 1000000 by decide, h⟩)
    | op o a b =>
      rw [tsz] at ht
      have la := tnm_len a
      have lb := tnm_len b
      refine ix rfl (ix rfl (ix rfl ⟨rfl, w_names_of f a (by omega) (by omega) _ (ix rfl ⟨rfl, w_names_of f b (by omega) (by omega) _ ⟨?_, ?_⟩⟩)⟩))
      · rw [List.length_map, List.length_map]; omega
      · rw [tnm, List.map_append] at h
        exact h
theorem w_lnames : ∀ (f : Nat) (t : Tm), tsz t ≤ f → f ≤ 100 → ∀ Q : SV → Prop, Q (.own true (.list ((tnm t).map .str))) → F_law_names_in f [.val (tmD t)] Q
  | 0, t, h, _, _, _ => by have := tsz_pos t; omega
  | f + 1, t, ht, hf, Q, h => by
    rw [show F_law_names_in (f + 1) = fnD 1 1 (M_law_names_in (F_law_names_in f)) from rfl]
    show M_law_names_in (F_law_names_in f) [.val (tmD t)] ⟨fun _ => Q (.val .none), Q, fun _ => False, fun _ => False⟩
    unfold M_law_names_in
    cases t with
    | num n => exact ix rfl (ix rfl ⟨show 0 ≤ 1000000 by decide, h⟩)
    | name x => exact ix rfl (ix rfl ⟨show 1 ≤ 1000000 by decide, h⟩)
    | op o a b =>
      rw [tsz] at ht
      have la := tnm_len a
      have lb := tnm_len b
      refine ix rfl (ix rfl (ix rfl ⟨rfl, w_lnames f a (by omega) (by omega) _ (ix rfl ⟨rfl, w_lnames f b (by omega) (by omega) _ ⟨?_, ?_⟩⟩)⟩))
      · rw [List.length_map, List.length_map]; omega
      · rw [tnm, List.map_append] at h
        exact h
/-! ### rows within rows -/
def blk : Rw → List (List Rw)
  | .when _ a b => [a, b]
  | .times _ a => [a]
  | _ => []
theorem blk_ok {n w : Int} : ∀ {d : Nat} {r : Rw}, RwOk n w d r → ∀ b ∈ blk r, ∃ e, d = e + 1 ∧ ∀ x ∈ b, RwOk n w e x
  | 0, .thr _ _, _ => fun b hb => by cases hb
  | _ + 1, .thr _ _, _ => fun b hb => by cases hb
  | 0, .lt _ _, _ => fun b hb => by cases hb
  | _ + 1, .lt _ _, _ => fun b hb => by cases hb
  | 0, .tell _, _ => fun b hb => by cases hb
  | _ + 1, .tell _, _ => fun b hb => by cases hb
  | 0, .when _ _ _, h => h.elim
  | d + 1, .when _ a b, h => fun x hx => by
    rcases List.mem_cons.mp hx with rfl | hx
    · exact ⟨d, rfl, h.2.1⟩
    · rw [List.mem_singleton.mp hx]
      exact ⟨d, rfl, h.2.2⟩
  | 0, .times _ _, h => h.elim
  | d + 1, .times _ a, h => fun x hx => by
    rw [List.mem_singleton.mp hx]
    exact ⟨d, rfl, h.2⟩
theorem lst_blk {n w : Int} : ∀ {d : Nat} {r : Rw}, RwOk n w d r → lstR d r = r :: (blk r).flatMap fun b => b.flatMap (lstR (d - 1))
  | 0, .thr _ _, _ => rfl
  | _ + 1, .thr _ _, _ => rfl
  | 0, .lt _ _, _ => rfl
  | _ + 1, .lt _ _, _ => rfl
  | 0, .tell _, _ => rfl
  | _ + 1, .tell _, _ => rfl
  | 0, .when _ _ _, h => h.elim
  | d + 1, .when _ a b, h => by
    show _ :: (a.flatMap (lstR d) ++ b.flatMap (lstR d)) = _ :: (a.flatMap (lstR d) ++ (b.flatMap (lstR d) ++ []))
    rw [List.append_nil]
  | 0, .times _ _, h => h.elim
  | d + 1, .times _ a, h => by
    show _ :: a.flatMap (lstR d) = _ :: (a.flatMap (lstR d) ++ [])
    rw [List.append_nil]
theorem w_blocks (r : Rw) (Q : SV → Prop) (h : Q (.val (.tuple ((blk r).map fun b => .tuple (rwsD b))))) : F_blocks_in [.val (rwD r)] Q := by
  cases r with
  | thr x t => cases t <;> exact ix rfl (ix rfl ⟨show 0 ≤ 1000000 by decide, h⟩)
  | lt x t => exact ix rfl (ix rfl ⟨show 0 ≤ 1000000 by decide, h⟩)
  | tell t => exact ix rfl (ix rfl ⟨show 0 ≤ 1000000 by decide, h⟩)
  | when t a b => exact ix rfl (ix rfl (ix rfl ⟨show 2 ≤ 1000000 by decide, h⟩))
  | times k a => exact ix rfl (ix rfl (ix rfl ⟨show 1 ≤ 1000000 by decide, h⟩))
end K36

set_option Elab.async false
set_option linter.all false
set_option maxRecDepth 100000
set_option maxHeartbeats 4000000
set_option pp.maxSteps 600
namespace K36
open PySem PySem.Spec PyProof.Rows L2 Pq Lb
theorem cnt_part {d : Nat} {done rest : List Rw} {r : Rw} {rs : List Rw} (h : rs = done ++ r :: rest) : cnt d rs = cnt d done + ((lstR d r).length + cnt d rest) := by
  have e : cnt d (r :: rest) = cnt d ([r] ++ rest) := rfl
  rw [h, cnt_app, e, cnt_app, cnt_one]
theorem fm_len (d : Nat) (rs : List Rw) : (rs.flatMap (lstR d)).length = cnt d rs := rfl
/-- blocks gone through one by one -/
theorem fm_part {d : Nat} {bs done rest : List (List Rw)} {b : List Rw} (h : bs = done ++ b :: rest) : (bs.flatMap fun b => b.flatMap (lstR d)).length = (done.flatMap fun b => b.flatMap (lstR d)).length + (cnt d b + (rest.flatMap fun b => b.flatMap (lstR d)).length) := by
  rw [h, List.flatMap_append, List.length_append, List.flatMap_cons, List.length_append]
  rfl
theorem w_ext {F : FS} {n w : Int} {d : Nat} {r : Rw} (hr : RwOk n w d r) (hc : (lstR d r).length ≤ 1000) (hF : ∀ e b, d = e + 1 → (∀ x ∈ b, RwOk n w e x) → cnt e b ≤ 1000 → ∀ Q : SV → Prop, Q (.val (.list ((b.flatMap (lstR e)).map rwD))) → F [.val (.tuple (rwsD b))] Q)
    (s0 : SV) (acc : List Rw) (ha : acc.length ≤ 1000) (x : SV) (E : EM) (hE : ∀ y, E.nx [s0, .own true (.list ((acc ++ lstR d r).map rwD)), .val (rwD r), y]) :
    forGo (mgName 3) (msExt 1 (toD (mCall 1 F (maCons (mVar 3) maNil)))) ((blk r).map fun b => .tuple (rwsD b)) [s0, .own true (.list ((acc ++ [r]).map rwD)), .val (rwD r), x] E := by
  have e0 := lst_blk hr
  have l0 : (lstR d r).length = 1 + ((blk r).flatMap fun b => b.flatMap (lstR (d - 1))).length := by rw [e0, List.length_cons]; omega
  refine for_L (fun b => .tuple (rwsD b)) (fun done e => ∃ y, e = [s0, .own true (.list ((acc ++ [r] ++ done.flatMap fun b => b.flatMap (lstR (d - 1))).map rwD)), .val (rwD r), y]) (blk r) _ ⟨x, by rw [List.flatMap_nil, List.append_nil]⟩ ?_ ?_
  · rintro done b rest hL e ⟨y, rfl⟩ N hN
    obtain ⟨e, rfl, hb⟩ := blk_ok hr b (by rw [hL]; exact List.mem_append_right _ List.mem_cons_self)
    have p := fm_part (d := e) hL
    have l0 : (lstR (e + 1) r).length = 1 + ((blk r).flatMap fun b => b.flatMap (lstR e)).length := l0
    refine ⟨show 3 < 4 by decide, trivial, rfl, hF e b rfl hb (by omega) _ ⟨?_, ?_⟩⟩
    · rw [List.length_map, List.length_map, List.length_append, List.length_append]
      show acc.length + 1 + (done.flatMap fun b => b.flatMap (lstR e)).length + (b.flatMap (lstR e)).length ≤ _
      rw [fm_len]
      omega
    · refine hN _ ⟨.val (.tuple (rwsD b)), ?_⟩
      show [s0, .own true (.list ((acc ++ [r] ++ done.flatMap fun b => b.flatMap (lstR e)).map rwD ++ (b.flatMap (lstR e)).map rwD)), .val (rwD r), .val (.tuple (rwsD b))] = _
      rw [← List.map_append, List.flatMap_append, List.flatMap_cons, List.flatMap_nil, List.append_nil, List.append_assoc]
      rfl
  · rintro e ⟨y, rfl⟩
    have := hE y
    rw [e0] at this
    rw [List.append_assoc]
    exact this
theorem w_within : ∀ (f d : Nat) (n w : Int) (rs : List Rw), (∀ r ∈ rs, RwOk n w d r) → d < f → cnt d rs ≤ 1000 → ∀ Q : SV → Prop, Q (.val (.list ((rs.flatMap (lstR d)).map rwD))) → F_rows_within f [.val (.tuple (rwsD rs))] Q
  | 0, _, _, _, _, _, h, _, _, _ => absurd h (Nat.not_lt_zero _)
  | f + 1, d, n, w, rs, ok, hd, hc, Q, h => by
    rw [show F_rows_within (f + 1) = fnD 4 1 (M_rows_within (F_rows_within f)) from rfl]
    show M_rows_within (F_rows_within f) [.val (.tuple (rwsD rs)), .no, .no, .no] ⟨fun _ => Q (.val .none), Q, fun _ => False, fun _ => False⟩
    unfold M_rows_within
    refine ⟨show 0 ≤ 1000000 by decide, show 1 < 4 by decide, ?_⟩
    show forGo _ _ (rwsD rs) _ _
    rw [rwsD_map rs]
    refine for_L rwD (fun done e => ∃ a b, e = [.val (.tuple (rs.map rwD)), .own true (.list ((done.flatMap (lstR d)).map rwD)), a, b]) rs _ ⟨.no, .no, rfl⟩ ?_ ?_
    · rintro done r rest hL e ⟨a, b, rfl⟩ N hN
      have hr := ok r (by rw [hL]; exact List.mem_append_right _ List.mem_cons_self)
      have p := cnt_part (d := d) hL
      have l1 : (done.flatMap (lstR d)).length ≤ 1000 := by rw [fm_len]; omega
      refine ⟨show 2 < 4 by decide, trivial, by rw [List.length_map]; omega, rfl, w_blocks r _ ?_⟩
      have e1 : ((done.flatMap (lstR d)).map rwD ++ [rwD r] : List Da) = (done.flatMap (lstR d) ++ [r]).map rwD := by rw [List.map_append]; rfl
      refine at_env [.val (.tuple (rs.map rwD)), .own true (.list ((done.flatMap (lstR d) ++ [r]).map rwD)), .val (rwD r), b] (by rw [← e1]; rfl) ?_
      refine w_ext hr (by omega) (fun e b hde hb hcb Q' hQ' => w_within f e n w b hb (by omega) hcb Q' hQ') _ (done.flatMap (lstR d)) l1 b _ fun y => hN _ ⟨.val (rwD r), y, ?_⟩
      rw [List.flatMap_append, List.flatMap_cons, List.flatMap_nil, List.append_nil]
    · rintro e ⟨a, b, rfl⟩
      exact h
end K36

set_option Elab.async false
set_option linter.all false
set_option maxRecDepth 100000
set_option maxHeartbeats 4000000
set_option pp.maxSteps 600
namespace K36
open PySem PySem.Spec PyProof.Rows L2 Pq Lb
theorem cut2 (a b : Da) (L : List Da) : Pq.cutD (a :: b :: L) (some 2) none = L := by
  have := cut_from (a :: b :: L) 2
  rw [show ((2 : Nat) : Int) = 2 from rfl] at this
  rw [this]
  rfl
theorem lst_leaf {n w : Int} {d : Nat} {r : Rw} (h : RwOk n w d r) (hb : blk r = []) : lstR d r = [r] := by
  rw [lst_blk h, hb]
  rfl
theorem w_listed : ∀ (f d : Nat) (n w : Int) (rs : List Rw), (∀ r ∈ rs, RwOk n w d r) → d < f → cnt d rs ≤ 1000 → ∀ Q : SV → Prop, Q (.val (.list ((rs.flatMap (lstR d)).map rwD))) → F_law_listed f [.val (.tuple (rwsD rs))] Q
  | 0, _, _, _, _, _, h, _, _, _ => absurd h (Nat.not_lt_zero _)
  | f + 1, d, n, w, rs, ok, hd, hc, Q, h => by
    rw [show F_law_listed (f + 1) = fnD 4 1 (M_law_listed (F_law_listed f)) from rfl]
    show M_law_listed (F_law_listed f) [.val (.tuple (rwsD rs)), .no, .no, .no] ⟨fun _ => Q (.val .none), Q, fun _ => False, fun _ => False⟩
    unfold M_law_listed
    refine ⟨show 0 ≤ 1000000 by decide, show 1 < 4 by decide, ?_⟩
    show forGo _ _ (rwsD rs) _ _
    rw [rwsD_map rs]
    refine for_L rwD (fun done e => ∃ a b, e = [.val (.tuple (rs.map rwD)), .own true (.list ((done.flatMap (lstR d)).map rwD)), a, b]) rs _ ⟨.no, .no, rfl⟩ ?_ ?_
    · rintro done r rest hL e ⟨a, b, rfl⟩ N hN
      have hr := ok r (by rw [hL]; exact List.mem_append_right _ List.mem_cons_self)
      have p := cnt_part (d := d) hL
      have l1 : (done.flatMap (lstR d)).length ≤ 1000 := by rw [fm_len]; omega
      have fin : ∀ y, N [.val (.tuple (rs.map rwD)), .own true (.list ((done.flatMap (lstR d) ++ lstR d r).map rwD)), .val (rwD r), y] := fun y => hN _ ⟨.val (rwD r), y, by rw [List.flatMap_append, List.flatMap_cons, List.flatMap_nil, List.append_nil]⟩
      have e1 : ((done.flatMap (lstR d)).map rwD ++ [rwD r] : List Da) = (done.flatMap (lstR d) ++ [r]).map rwD := by rw [List.map_append]; rfl
      have leaf : blk r = [] → N [.val (.tuple (rs.map rwD)), .own true (.list ((done.flatMap (lstR d)).map rwD ++ [rwD r])), .val (rwD r), b] := fun hb => by
        have := fin b
        rw [lst_leaf hr hb] at this
        rw [e1]
        exact this
      have inner : ∀ E : EM, (∀ e, N e → E.nx e) → forGo (mgName 3) (msExt 1 (toD (mCall 1 (F_law_listed f) (maCons (mVar 3) maNil)))) ((blk r).map fun b => .tuple (rwsD b)) [.val (.tuple (rs.map rwD)), .own true (.list ((done.flatMap (lstR d) ++ [r]).map rwD)), .val (rwD r), b] E := fun E hE =>
        w_ext hr (by omega) (fun e b hde hb hcb Q' hQ' => w_listed f e n w b hb (by omega) hcb Q' hQ') _ (done.flatMap (lstR d)) l1 b _ fun y => hE _ (fin y)
      rw [← e1] at inner
      refine ⟨show 2 < 4 by decide, trivial, by rw [List.length_map]; omega, ?_⟩
      cases r with
      | thr x t => cases t <;> exact ix rfl ⟨show 2 ≤ 1000000 by decide, rfl, rfl, leaf rfl⟩
      | lt x t => exact ix rfl ⟨show 2 ≤ 1000000 by decide, rfl, rfl, leaf rfl⟩
      | tell t => exact ix rfl ⟨show 2 ≤ 1000000 by decide, rfl, rfl, leaf rfl⟩
      | when t a b =>
        have c := cut2 (.str "when") (tmD t) [.tuple (rwsD a), .tuple (rwsD b)]
        have inner : ∀ E : EM, (∀ e, N e → E.nx e) → forGo _ _ [.tuple (rwsD a), .tuple (rwsD b)] _ E := inner
        rw [← c] at inner
        exact ix rfl ⟨show 2 ≤ 1000000 by decide, rfl, rfl, inner _ fun e h => h⟩
      | times k a =>
        have c := cut2 (.str "times") (.int k) [.tuple (rwsD a)]
        have inner : ∀ E : EM, (∀ e, N e → E.nx e) → forGo _ _ [.tuple (rwsD a)] _ E := inner
        rw [← c] at inner
        exact ix rfl ⟨show 2 ≤ 1000000 by decide, rfl, rfl, inner _ fun e h => h⟩
    · rintro e ⟨a, b, rfl⟩
      exact h
/-! ### what is needed -/
def kd (F : List Str) : List (Da × Da) := F.map fun x => (.str x, .bool true)
def addK (F L : List Str) : List Str := L.foldl (fun F x => if x ∈ F then F else F ++ [x]) F
theorem addK_mem : ∀ (L F : List Str) (x : Str), x ∈ addK F L ↔ x ∈ F ∨ x ∈ L
  | [], F, x => by show x ∈ F ↔ _; simp
  | y :: L, F, x => by
    show x ∈ addK (if y ∈ F then F else F ++ [y]) L ↔ _
    rw [addK_mem L]
    by_cases c : y ∈ F
    · rw [if_pos c, List.mem_cons]
      exact ⟨fun h => h.elim .inl fun z => .inr (.inr z), fun h => h.elim .inl fun z => z.elim (fun e => .inl (by rw [e]; exact c)) .inr⟩
    · rw [if_neg c, List.mem_append, List.mem_singleton, List.mem_cons]
      exact ⟨fun h => h.elim (fun z => z.elim .inl fun e => .inr (.inl e)) fun z => .inr (.inr z), fun h => h.elim (fun z => .inl (.inl z)) fun z => z.elim (fun e => .inl (.inr e)) .inr⟩
theorem addK_nodup : ∀ (L F : List Str), F.Nodup → (addK F L).Nodup
  | [], F, h => h
  | y :: L, F, h => by
    show (addK (if y ∈ F then F else F ++ [y]) L).Nodup
    refine addK_nodup L _ ?_
    by_cases c : y ∈ F
    · rw [if_pos c]; exact h
    · rw [if_neg c, List.nodup_append]
      exact ⟨h, List.pairwise_singleton _ _, fun x hx z hz e => c (by rw [← List.mem_singleton.mp hz, ← e]; exact hx)⟩
theorem kd_any (F : List Str) (x : Str) : ((kd F).any fun p => isKy (.inr x) p.1) = decide (x ∈ F) := by
  unfold kd
  rw [List.any_map]
  by_cases c : x ∈ F
  · rw [decide_eq_true c, List.any_eq_true]
    exact ⟨x, c, by show decide (x = x) = true; exact decide_eq_true rfl⟩
  · rw [decide_eq_false c, List.any_eq_false]
    intro y hy z
    have z : decide (y = x) = true := z
    exact c (by rw [← of_decide_eq_true z]; exact hy)
theorem kd_put (F : List Str) (x : Str) : dPut (kd F) (.inr x) (.bool true) = kd (if x ∈ F then F else F ++ [x]) := by
  unfold dPut
  rw [kd_any]
  by_cases c : x ∈ F
  · rw [if_pos (decide_eq_true c), if_pos c]
    unfold kd
    rw [List.map_map]
    refine List.map_congr_left fun y hy => ?_
    show (if decide (y = x) = true then ((.str y : Da), (.bool true : Da)) else _) = _
    split <;> rfl
  · rw [if_neg (by rw [decide_eq_false c]; exact Bool.false_ne_true), if_neg c]
    unfold kd
    rw [List.map_append]
    rfl
theorem kd_upd : ∀ (L F : List Str), updD (kd F) (kd L) = kd (addK F L)
  | [], F => rfl
  | y :: L, F => by
    show updD (dPut (kd F) (.inr y) (.bool true)) (kd L) = _
    rw [kd_put, kd_upd L]
    rfl
theorem kd_merge : ∀ (L F : List Str), mergeD (kd F) (L.map fun x => ((.inr x : L2.Key), (.bool true : Da))) = kd (addK F L)
  | [], F => rfl
  | y :: L, F => by
    show mergeD (dPut (kd F) (.inr y) (.bool true)) _ = _
    rw [kd_put, kd_merge L]
    rfl
theorem kd_prs : ∀ L : List Str, prsD (L.map fun x => .tuple [.str x, .bool true]) = some (L.map fun x => ((.inr x : L2.Key), (.bool true : Da)))
  | [] => rfl
  | x :: L => by
    have ih := kd_prs L
    rw [List.map_cons, List.map_cons, prsD, ih]
    rfl
theorem kd_look (F : List Str) (x : Str) : dGetO (kd F) (.str x) = some (if x ∈ F then some (.bool true) else none) := by
  unfold dGetO
  have tm : isTm (kd F) = false := by
    cases F with
    | nil => rfl
    | cons y F => rfl
  rw [tm, if_neg Bool.false_ne_true]
  show some (dLook (kd F) (.inr x)) = _
  congr 1
  induction F with
  | nil => rfl
  | cons y F ih =>
    unfold dLook at ih ⊢
    unfold kd at ih ⊢
    rw [List.map_cons]
    by_cases c : y = x
    · rw [List.find?_cons_of_pos (by show decide (y = x) = true; exact decide_eq_true c), if_pos (by rw [c]; exact List.mem_cons_self)]
      rfl
    · rw [List.find?_cons_of_neg (by show ¬ decide (y = x) = true; rw [decide_eq_false c]; exact Bool.false_ne_true)]
      have tm' : isTm (F.map fun x => ((.str x : Da), (.bool true : Da))) = false := by
        cases F with
        | nil => rfl
        | cons y F => rfl
      rw [ih tm']
      have : (x ∈ y :: F) ↔ x ∈ F := by rw [List.mem_cons]; exact ⟨fun h => h.resolve_left fun e => c e.symm, .inr⟩
      by_cases m : x ∈ F
      · rw [if_pos m, if_pos (this.mpr m)]
      · rw [if_neg m, if_neg fun z => m (this.mp z)]
end K36

set_option Elab.async false
set_option linter.all false
set_option maxRecDepth 100000
set_option maxHeartbeats 4000000
set_option pp.maxSteps 600
namespace K36
open PySem PySem.Spec PyProof.Rows L2 Pq Lb
/-! ### the least set of names -/
def tw : Rw → List Str
  | .tell t => tnm t
  | .when t _ _ => tnm t
  | _ => []
def rnm : Rw → List Str
  | .lt _ t => tnm t
  | .tell t => tnm t
  | .when t _ _ => tnm t
  | _ => []
def ClG (all : List Rw) (G : Str → Prop) : Prop := (∀ r ∈ all, ∀ x ∈ tw r, G x) ∧ ∀ x t, Rw.lt x t ∈ all → G x → ∀ y ∈ tnm t, G y
def Nd (all : List Rw) (x : Str) : Prop := ∀ G, ClG all G → G x
theorem nd_seed {all : List Rw} {r : Rw} {x : Str} (hr : r ∈ all) (hx : x ∈ tw r) : Nd all x := fun G h => h.1 r hr x hx
theorem nd_step {all : List Rw} {x y : Str} {t : Tm} (hr : Rw.lt x t ∈ all) (hx : Nd all x) (hy : y ∈ tnm t) : Nd all y := fun G h => h.2 x t hr (hx G h) y hy
def univ (all : List Rw) : List Str := all.flatMap rnm
theorem tw_rnm {r : Rw} {x : Str} (h : x ∈ tw r) : x ∈ rnm r := by
  cases r <;> first | exact h | cases h
theorem nd_univ {all : List Rw} {x : Str} (h : Nd all x) : x ∈ univ all := h (fun x => x ∈ univ all) ⟨fun r hr x hx => List.mem_flatMap.mpr ⟨r, hr, tw_rnm hx⟩, fun x t hr _ y hy => List.mem_flatMap.mpr ⟨_, hr, hy⟩⟩
/-- terms of rows are small -/
def TmsOk : Rw → Prop
  | .thr x _ => nmOk x
  | .lt x t => nmOk x ∧ TmOk 7 t
  | .tell t => TmOk 7 t
  | .when t _ _ => TmOk 7 t
  | _ => True
theorem tms_ok {n w : Int} : ∀ {d : Nat} {r : Rw}, RwOk n w d r → ∀ x ∈ lstR d r, TmsOk x
  | 0, .thr _ _, h => fun x hx => by rw [List.mem_singleton.mp hx]; exact h.1
  | _ + 1, .thr _ _, h => fun x hx => by rw [List.mem_singleton.mp hx]; exact h.1
  | 0, .lt _ _, h => fun x hx => by rw [List.mem_singleton.mp hx]; exact h
  | _ + 1, .lt _ _, h => fun x hx => by rw [List.mem_singleton.mp hx]; exact h
  | 0, .tell _, h => fun x hx => by rw [List.mem_singleton.mp hx]; exact h
  | _ + 1, .tell _, h => fun x hx => by rw [List.mem_singleton.mp hx]; exact h
  | 0, .when _ _ _, h => h.elim
  | d + 1, .when _ a b, h => fun x hx => by
    rcases List.mem_cons.mp hx with rfl | hx
    · exact h.1
    · rcases List.mem_append.mp hx with hx | hx
      · obtain ⟨r, hr, hx⟩ := List.mem_flatMap.mp hx
        exact tms_ok (h.2.1 r hr) x hx
      · obtain ⟨r, hr, hx⟩ := List.mem_flatMap.mp hx
        exact tms_ok (h.2.2 r hr) x hx
  | 0, .times _ _, h => h.elim
  | d + 1, .times _ a, h => fun x hx => by
    rcases List.mem_cons.mp hx with rfl | hx
    · trivial
    · obtain ⟨r, hr, hx⟩ := List.mem_flatMap.mp hx
      exact tms_ok (h.2 r hr) x hx
theorem rnm_len {r : Rw} (h : TmsOk r) : (rnm r).length ≤ 4 := by
  cases r with
  | lt x t => have := tnm_len t; have : tsz t ≤ 7 := h.2.1; show (tnm t).length ≤ 4; omega
  | tell t => have := tnm_len t; have : tsz t ≤ 7 := h.1; show (tnm t).length ≤ 4; omega
  | when t a b => have := tnm_len t; have : tsz t ≤ 7 := h.1; show (tnm t).length ≤ 4; omega
  | _ => exact Nat.zero_le _
theorem tmg_nm : ∀ {t : Tm}, tmG t → ∀ x ∈ tnm t, nmOk x
  | .num _, _ => fun x hx => by cases hx
  | .name _, h => fun x hx => by rw [List.mem_singleton.mp hx]; exact h
  | .op _ a b, h => fun x hx => (List.mem_append.mp hx).elim (tmg_nm h.2.1 x) (tmg_nm h.2.2 x)
theorem rnm_ok {r : Rw} (h : TmsOk r) : ∀ x ∈ rnm r, nmOk x := by
  cases r with
  | lt x t => exact tmg_nm h.2.2
  | tell t => exact tmg_nm h.2
  | when t a b => exact tmg_nm h.2
  | _ => exact fun x hx => by cases hx
structure AllOk (all : List Rw) : Prop where
  l : all.length ≤ 12
  t : ∀ r ∈ all, TmsOk r
theorem nd_ok {all : List Rw} (ok : ∀ r ∈ all, TmsOk r) {x : Str} (h : Nd all x) : nmOk x := by
  obtain ⟨r, hr, hx⟩ := List.mem_flatMap.mp (nd_univ h)
  exact rnm_ok (ok r hr) x hx
theorem univ_len : ∀ {all : List Rw}, (∀ r ∈ all, TmsOk r) → (univ all).length ≤ 4 * all.length
  | [], _ => Nat.le_refl _
  | r :: all, h => by
    have a := rnm_len (h r List.mem_cons_self)
    have b := univ_len (all := all) fun x hx => h x (List.mem_cons_of_mem _ hx)
    unfold univ at b ⊢
    rw [List.flatMap_cons, List.length_append, List.length_cons]
    omega
theorem nd_few {all : List Rw} (ok : AllOk all) {F : List Str} (nd : F.Nodup) (h : ∀ x ∈ F, Nd all x) : F.length ≤ 48 := by
  have a := pigeon F (univ all) nd fun x hx => nd_univ (h x hx)
  have b := univ_len ok.t
  have := ok.l
  omega
theorem subset_eq {F0 F : List Str} (n0 : F0.Nodup) (n1 : F.Nodup) (s : ∀ x ∈ F0, x ∈ F) (l : F.length ≤ F0.length) : ∀ x ∈ F, x ∈ F0 := fun x hx => by
  refine Classical.byContradiction fun hn => ?_
  have := pigeon (x :: F0) F (List.nodup_cons.mpr ⟨hn, n0⟩) fun y hy => by
    rcases List.mem_cons.mp hy with rfl | hy
    · exact hx
    · exact s y hy
  rw [List.length_cons] at this
  omega
/-- whatever is closed has all that is needed -/
theorem nd_of {all : List Rw} {F : List Str} (seed : ∀ r ∈ all, ∀ x ∈ tw r, x ∈ F) (cl : ∀ x t, Rw.lt x t ∈ all → x ∈ F → ∀ y ∈ tnm t, y ∈ F) {x : Str} (h : Nd all x) : x ∈ F := h (fun x => x ∈ F) ⟨seed, cl⟩
/-! ### how many lets are done with -/
def sat (F : List Str) : Rw → Bool
  | .lt _ t => (tnm t).all fun y => decide (y ∈ F)
  | _ => false
def satc (F : List Str) (all : List Rw) : Nat := all.countP (sat F)
theorem sat_iff {F : List Str} {x : Str} {t : Tm} : sat F (.lt x t) = true ↔ ∀ y ∈ tnm t, y ∈ F := by
  show ((tnm t).all fun y => decide (y ∈ F)) = true ↔ _
  rw [List.all_eq_true]
  exact ⟨fun h y hy => of_decide_eq_true (h y hy), fun h y hy => decide_eq_true (h y hy)⟩
theorem sat_mono {F F' : List Str} (h : ∀ x ∈ F, x ∈ F') {r : Rw} (hs : sat F r = true) : sat F' r = true := by
  cases r with
  | lt x t => exact sat_iff.mpr fun y hy => h y (sat_iff.mp hs y hy)
  | _ => cases hs
theorem count_lt {α : Type} {p q : α → Bool} (hpq : ∀ x, p x = true → q x = true) : ∀ {L : List α} {x : α}, x ∈ L → p x = false → q x = true → L.countP p + 1 ≤ L.countP q
  | [], x, h, _, _ => by cases h
  | y :: L, x, h, hp, hq => by
    have mono : L.countP p ≤ L.countP q := List.countP_mono_left fun z _ => hpq z
    rcases List.mem_cons.mp h with rfl | h
    · rw [List.countP_cons_of_neg (by rw [hp]; exact Bool.false_ne_true), List.countP_cons_of_pos hq]
      omega
    · have ih := count_lt hpq h hp hq
      by_cases c : p y = true
      · rw [List.countP_cons_of_pos c, List.countP_cons_of_pos (hpq y c)]; omega
      · rw [List.countP_cons_of_neg c]
        by_cases c2 : q y = true
        · rw [List.countP_cons_of_pos c2]; omega
        · rw [List.countP_cons_of_neg c2]; exact ih
theorem satc_mono {F F' : List Str} (h : ∀ x ∈ F, x ∈ F') (all : List Rw) : satc F all ≤ satc F' all := List.countP_mono_left fun r _ => sat_mono h
theorem satc_more {F F' : List Str} (h : ∀ x ∈ F, x ∈ F') {all : List Rw} {x : Str} {t : Tm} (hr : Rw.lt x t ∈ all) (hn : ¬ ∀ y ∈ tnm t, y ∈ F) (hy : ∀ y ∈ tnm t, y ∈ F') : satc F all + 1 ≤ satc F' all :=
  count_lt (fun r => sat_mono h) hr (by
    cases z : sat F (.lt x t) with
    | false => rfl
    | true => exact absurd (sat_iff.mp z) hn) (sat_iff.mpr hy)
def twc (all : List Rw) : Nat := all.countP fun r => match r with
  | .tell _ => true
  | .when _ _ _ => true
  | _ => false
theorem counts {F : List Str} : ∀ all : List Rw, twc all + satc F all ≤ all.length
  | [] => Nat.le_refl _
  | r :: all => by
    have ih := counts (F := F) all
    unfold twc satc at *
    rw [List.countP_cons, List.countP_cons, List.length_cons]
    cases r <;> simp [sat] <;> first | omega | (split <;> omega)
theorem seeds_len {all : List Rw} (h : ∀ r ∈ all, TmsOk r) : (all.flatMap tw).length ≤ 4 * twc all := by
  induction all with
  | nil => exact Nat.le_refl _
  | cons r all ih =>
    have a := rnm_len (h r List.mem_cons_self)
    have b := ih fun x hx => h x (List.mem_cons_of_mem _ hx)
    unfold twc at b ⊢
    rw [List.flatMap_cons, List.length_append, List.countP_cons]
    cases r with
    | tell t => have a : (tnm t).length ≤ 4 := a; show (tnm t).length + _ ≤ 4 * (_ + 1); omega
    | when t x y => have a : (tnm t).length ≤ 4 := a; show (tnm t).length + _ ≤ 4 * (_ + 1); omega
    | _ => show 0 + _ ≤ 4 * (_ + 0); omega
/-! ### the law's list -/
structure LF (all : List Rw) (F : List Str) : Prop where
  so : ∀ x ∈ F, Nd all x
  se : ∀ r ∈ all, ∀ x ∈ tw r, x ∈ F
  ln : F.length ≤ 4 * twc all + 4 * satc F all
def Closed (all : List Rw) (F : List Str) : Prop := ∀ x t, Rw.lt x t ∈ all → x ∈ F → ∀ y ∈ tnm t, y ∈ F
theorem LF.few {all : List Rw} {F : List Str} (h : LF all F) (ok : AllOk all) : F.length ≤ 48 := by
  have := counts (F := F) all
  have := h.ln
  have := ok.l
  omega
def addL (F L : List Str) : List Str := F ++ L.filter fun y => !decide (y ∈ F)
theorem LF.add {all : List Rw} {F : List Str} (h : LF all F) (ok : AllOk all) {x : Str} {t : Tm} (hr : Rw.lt x t ∈ all) (hx : x ∈ F) : LF all (addL F (tnm t)) ∧ (∀ y ∈ F, y ∈ addL F (tnm t)) ∧ ∀ y ∈ tnm t, y ∈ addL F (tnm t) := by
  have sub : ∀ y ∈ F, y ∈ addL F (tnm t) := fun y hy => List.mem_append_left _ hy
  have all_in : ∀ y ∈ tnm t, y ∈ addL F (tnm t) := fun y hy => by
    by_cases c : y ∈ F
    · exact sub y c
    · exact List.mem_append_right _ (List.mem_filter.mpr ⟨hy, by rw [decide_eq_false c]; rfl⟩)
  refine ⟨⟨fun y hy => ?_, fun r hr y hy => sub y (h.se r hr y hy), ?_⟩, sub, all_in⟩
  · rcases List.mem_append.mp hy with hy | hy
    · exact h.so y hy
    · exact nd_step hr (h.so x hx) (List.mem_filter.mp hy).1
  · have fl := List.length_filter_le (fun y => !decide (y ∈ F)) (tnm t)
    have t4 : (tnm t).length ≤ 4 := rnm_len (r := .lt x t) (ok.t _ hr)
    have ln := h.ln
    by_cases c : ∀ y ∈ tnm t, y ∈ F
    · have e : (tnm t).filter (fun y => !decide (y ∈ F)) = [] := by
        rw [List.filter_eq_nil_iff]
        intro y hy z
        rw [decide_eq_true (c y hy)] at z
        cases z
      have e2 : addL F (tnm t) = F := by unfold addL; rw [e, List.append_nil]
      rw [e2]
      exact ln
    · have := satc_more sub hr c all_in
      unfold addL at this ⊢
      rw [List.length_append]
      omega
end K36

set_option Elab.async false
set_option linter.all false
set_option maxRecDepth 100000
set_option maxHeartbeats 4000000
set_option pp.maxSteps 600
namespace K36
open PySem PySem.Spec PyProof.Rows L2 Pq Lb
theorem tm_kd : ∀ F : List Str, isTm (kd F) = false
  | [] => rfl
  | _ :: _ => rfl
theorem kd_len (F : List Str) : (kd F).length = F.length := List.length_map _
theorem addK_len : ∀ (L F : List Str), (addK F L).length ≤ F.length + L.length
  | [], F => Nat.le_refl _
  | y :: L, F => by
    have := addK_len L (if y ∈ F then F else F ++ [y])
    have e : addK F (y :: L) = addK (if y ∈ F then F else F ++ [y]) L := rfl
    rw [e, List.length_cons]
    by_cases c : y ∈ F
    · rw [if_pos c] at this ⊢; omega
    · rw [if_neg c] at this ⊢
      rw [List.length_append] at this
      show (addK (F ++ [y]) L).length ≤ _
      have l1 : [y].length = 1 := rfl
      omega
/-- found.update(names) -/
theorem w_updn {i : Int} {s0 s1 s4 : SV} {rd : Da} {t : Tm} (hix : ixD rd i = some (tmD t)) (ht : tsz t ≤ 7) (F : List Str) (hl : F.length ≤ 100) (E : EM) (hE : E.nx [s0, s1, .own true (.dict (kd (addK F (addK [] (tnm t))))), .val rd, s4, .no]) :
    msUpd 2 (toD (mCB fDict (mlCons (toD (mLc [5] (mItems (toD (mCall 1 (F_names_of 8) (maCons (mBin fIx (mPk 3) (mC (.int i))) maNil)))) (mgName 5) mYes (toE (mTup (maCons (mVar 5) (maCons (toE (mC (.bool true))) maNil)))))) mlNil))) [s0, s1, .own true (.dict (kd F)), .val rd, s4, .no] E := by
  have l4 : (tnm t).length ≤ 4 := by have := tnm_len t; omega
  refine ⟨tm_kd F, ix hix ⟨rfl, w_names_of 8 t (by omega) (by decide) _ ⟨⟨?_, fun i hi => ?_⟩, ?_⟩⟩⟩
  · rw [List.length_map]; omega
  · rw [List.mem_singleton.mp hi]; trivial
  refine lcL .str (fun x => .tuple [.str x, .bool true]) (tnm t) [] _ (fun x hx K hK => ⟨show 5 < 6 by decide, show 2 ≤ 1000000 by decide, hK⟩) ?_
  refine w_dictL (kd_prs (tnm t)) ?_
  have e : mergeD [] ((tnm t).map fun x => ((.inr x : L2.Key), (.bool true : Da))) = kd (addK [] (tnm t)) := kd_merge (tnm t) []
  rw [e]
  have al := addK_len (tnm t) []
  have l0 : ([] : List Str).length = 0 := rfl
  refine ⟨tm_kd F, tm_kd _, by rw [kd_len, kd_len]; omega, ?_⟩
  show E.nx [s0, s1, .own true (.dict (updD (kd F) (kd (addK [] (tnm t))))), .val rd, s4, .no]
  rw [kd_upd]
  exact hE
theorem add2_mem (F L : List Str) (x : Str) : x ∈ addK F (addK [] L) ↔ x ∈ F ∨ x ∈ L := by
  rw [addK_mem, addK_mem]
  exact ⟨fun h => h.elim .inl fun z => z.elim (fun k => by cases k) .inr, fun h => h.elim .inl fun z => .inr (.inr z)⟩
def Prog (rs : List Rw) : List Rw := rs.flatMap (lstR 3)
theorem pg_all {n wide : Int} {ks : List Str} {rs : List Rw} (h : PgOk n wide ks rs) : AllOk (Prog rs) := ⟨h.ct, fun r hr => by
  obtain ⟨x, hx, hr⟩ := List.mem_flatMap.mp hr
  exact tms_ok (h.ok x hx) r hr⟩
theorem w_rows_in {n wide : Int} {ks : List Str} {rs : List Rw} (h : PgOk n wide ks rs) (Q : SV → Prop) (q : Q (.val (.list ((Prog rs).map rwD)))) : F_rows_in [.val (pgD ks rs)] Q :=
  ix rfl ⟨rfl, w_within 6 3 n wide rs h.ok (by decide) (by have := h.ct; show cnt 3 rs ≤ 1000; omega) _ q⟩
/-- the dict of names, so far -/
structure PF (all : List Rw) (F : List Str) : Prop where
  nd : F.Nodup
  so : ∀ x ∈ F, Nd all x
theorem PF.add {all : List Rw} {F L : List Str} (h : PF all F) (hL : ∀ y ∈ L, Nd all y) : PF all (addK F (addK [] L)) :=
  ⟨addK_nodup _ _ h.nd, fun x hx => ((add2_mem F L x).mp hx).elim (h.so x) (hL x)⟩
theorem w_needed {n wide : Int} {ks : List Str} {rs : List Rw} (h : PgOk n wide ks rs) (Q : SV → Prop) (q : ∀ ys : List Str, ys.Nodup → sortedS ys = true → (∀ x, x ∈ ys ↔ Nd (Prog rs) x) → Q (.val (.tuple (ys.map .str)))) : F_needed [.val (pgD ks rs)] Q := by
  have ok := pg_all h
  refine ⟨rfl, w_rows_in h _ ⟨show 1 < 6 by decide, show 2 < 6 by decide, ?_⟩⟩
  generalize hall : Prog rs = all at ok q ⊢
  have hl := ok.l
  refine for_L rwD (fun done e => ∃ (F : List Str) (a : SV), PF all F ∧ (∀ r ∈ done, ∀ x ∈ tw r, x ∈ F) ∧ e = [.val (pgD ks rs), .val (.list (all.map rwD)), .own true (.dict (kd F)), a, .no, .no]) all _ ⟨[], .no, ⟨.nil, (fun x hx => by cases hx)⟩, (fun r hr => by cases hr), rfl⟩ ?_ ?_
  · rintro done r rest hL e ⟨F, a, pf, se, rfl⟩ N hN
    have hr : r ∈ all := by rw [hL]; exact List.mem_append_right _ List.mem_cons_self
    have few := nd_few ok pf.nd pf.so
    have leaf : tw r = [] → N [.val (pgD ks rs), .val (.list (all.map rwD)), .own true (.dict (kd F)), .val (rwD r), .no, .no] := fun ht => hN _ ⟨F, _, pf, (fun x hx y hy => (List.mem_append.mp hx).elim (fun z => se x z y hy) fun z => absurd hy (by rw [List.mem_singleton.mp z, ht]; exact List.not_mem_nil)), rfl⟩
    have put : ∀ t, tw r = tnm t → N [.val (pgD ks rs), .val (.list (all.map rwD)), .own true (.dict (kd (addK F (addK [] (tnm t))))), .val (rwD r), .no, .no] := fun t ht => hN _ ⟨_, _, pf.add fun y hy => nd_seed hr (by rw [ht]; exact hy), (fun x hx y hy => (add2_mem F (tnm t) y).mpr ((List.mem_append.mp hx).elim (fun z => .inl (se x z y hy)) fun z => .inr (by rw [← ht, ← List.mem_singleton.mp z]; exact hy))), rfl⟩
    have tok := ok.t r hr
    refine ⟨show 3 < 6 by decide, ?_⟩
    cases r with
    | thr x t => cases t <;> exact ix rfl ⟨show 2 ≤ 1000000 by decide, rfl, rfl, leaf rfl⟩
    | lt x t => exact ix rfl ⟨show 2 ≤ 1000000 by decide, rfl, rfl, leaf rfl⟩
    | tell t => exact ix rfl ⟨show 2 ≤ 1000000 by decide, rfl, rfl, w_updn (t := t) rfl tok.1 F (by omega) _ (put t rfl)⟩
    | when t a b => exact ix rfl ⟨show 2 ≤ 1000000 by decide, rfl, rfl, w_updn (t := t) rfl tok.1 F (by omega) _ (put t rfl)⟩
    | times k a => exact ix rfl ⟨show 2 ≤ 1000000 by decide, rfl, rfl, leaf rfl⟩
  rintro e ⟨F, a, pf, se, rfl⟩
  refine ⟨show 4 < 6 by decide, ?_⟩
  refine wh_inv (fun m e => ∃ (F : List Str) (many : Int) (a : SV), m = (100 - many).toNat ∧ PF all F ∧ (∀ r ∈ all, ∀ x ∈ tw r, x ∈ F) ∧ (many = -1 ∨ ∃ F0 : List Str, many = F0.length ∧ F0.Nodup ∧ (∀ x ∈ F0, x ∈ F) ∧ ∀ x t, Rw.lt x t ∈ all → x ∈ F0 → ∀ y ∈ tnm t, y ∈ F) ∧ e = [.val (pgD ks rs), .val (.list (all.map rwD)), .own true (.dict (kd F)), a, iv many, .no]) 101 ⟨F, -1, a, rfl, pf, se, .inl rfl, rfl⟩ ?_
  rintro m e ⟨F, many, a, rfl, pf, se, last, rfl⟩ N hN
  have few := nd_few ok pf.nd pf.so
  refine ⟨tm_kd F, ?_⟩
  rw [kd_len]
  refine iteD (fun c => ?_) fun c => ?_
  · have c : (F.length : Int) > many := c
    refine ⟨tm_kd F, show 4 < 6 by decide, ?_⟩
    rw [kd_len]
    refine for_L rwD (fun done e => ∃ (G : List Str) (a : SV), PF all G ∧ (∀ x ∈ F, x ∈ G) ∧ (∀ x t, Rw.lt x t ∈ done → x ∈ F → ∀ y ∈ tnm t, y ∈ G) ∧ e = [.val (pgD ks rs), .val (.list (all.map rwD)), .own true (.dict (kd G)), a, iv F.length, .no]) all _ ⟨F, a, pf, (fun x hx => hx), (fun x t hx => by cases hx), rfl⟩ ?_ ?_
    · rintro done r rest hL e ⟨G, a, pg, sub, cl, rfl⟩ N2 hN2
      have hr : r ∈ all := by rw [hL]; exact List.mem_append_right _ List.mem_cons_self
      have few := nd_few ok pg.nd pg.so
      have tok := ok.t r hr
      have leaf : (∀ x t, r = .lt x t → x ∉ F) → N2 [.val (pgD ks rs), .val (.list (all.map rwD)), .own true (.dict (kd G)), .val (rwD r), iv F.length, .no] := fun ht => hN2 _ ⟨G, _, pg, sub, fun x t hx hxF => (List.mem_append.mp hx).elim (fun z => cl x t z hxF) fun z => absurd hxF (ht x t (List.mem_singleton.mp z).symm), rfl⟩
      refine ⟨show 3 < 6 by decide, ?_⟩
      cases r with
      | thr x t => cases t <;> exact ix rfl (leaf fun _ _ z => nomatch z)
      | tell t => exact ix rfl (leaf fun _ _ z => nomatch z)
      | when t a b => exact ix rfl (leaf fun _ _ z => nomatch z)
      | times k a => exact ix rfl (leaf fun _ _ z => nomatch z)
      | lt x t =>
        refine ix rfl (ix rfl ?_)
        show (match dGetO (kd G) (.str x) with
          | some o => _
          | none => False)
        rw [kd_look]
        show if (xor false (if x ∈ G then some (PyData.bool true) else none).isSome) = true then _ else _
        rw [xf]
        by_cases m : x ∈ G
        · rw [if_pos m]
          refine w_updn (t := t) rfl tok.2.1 G (by omega) _ (hN2 _ ⟨_, _, pg.add fun y hy => nd_step hr (pg.so x m) hy, fun y hy => (add2_mem G (tnm t) y).mpr (.inl (sub y hy)), fun x' t' hx hxF y hy => (add2_mem G (tnm t) y).mpr ((List.mem_append.mp hx).elim (fun z => .inl (cl x' t' z hxF y hy)) fun z => .inr ?_), rfl⟩)
          cases List.mem_singleton.mp z
          exact hy
        · rw [if_neg m]
          exact leaf fun x' t' z hF => by
            cases z
            exact m (sub x hF)
    · rintro e ⟨G, a, pg, sub, cl, rfl⟩
      exact hN _ _ (by omega) ⟨G, F.length, a, rfl, pg, fun r hr x hx => sub x (se r hr x hx), .inr ⟨F, rfl, pf.nd, sub, cl⟩, rfl⟩
  · have c : ¬ (F.length : Int) > many := c
    have cl : ∀ x t, Rw.lt x t ∈ all → x ∈ F → ∀ y ∈ tnm t, y ∈ F := by
      rcases last with rfl | ⟨F0, rfl, n0, sub, cl⟩
      · omega
      · intro x t hr hx
        exact cl x t hr (subset_eq n0 pf.nd sub (by omega) x hx)
    have fin : ∀ ys : List Str, ys.Perm F → sortedS ys = true → Q (.val (.tuple (ys.map .str))) := fun ys pm so => q ys (pm.nodup_iff.mpr pf.nd) so fun x => by
      rw [pm.mem_iff]
      exact ⟨pf.so x, fun hx => nd_of se cl hx⟩
    show fSorted [.dict (kd F)] _
    unfold fSorted
    by_cases z : F = []
    · subst z
      refine .inl ⟨[], rfl, by decide, fun ys pm _ => ?_⟩
      have e := List.Perm.eq_nil pm
      subst e
      exact fin [] (List.Perm.refl _) rfl
    · refine .inr (.inl ⟨F, fun e => z (List.map_eq_nil_iff.mp e), ?_, by omega, fun ys pm so => fin ys pm so⟩)
      unfold kd
      rw [List.map_map]
      rfl
end K36

set_option Elab.async false
set_option linter.all false
set_option maxRecDepth 100000
set_option maxHeartbeats 4000000
set_option pp.maxSteps 600
namespace K36
open PySem PySem.Spec PyProof.Rows L2 Pq Lb
theorem w_lneeded {n wide : Int} {ks : List Str} {rs : List Rw} (h : PgOk n wide ks rs) (Q : SV → Prop) (q : ∀ ys : List Str, ys.Nodup → sortedS ys = true → ys.length ≤ 48 → (∀ x, x ∈ ys ↔ Nd (Prog rs) x) → Q (.own true (.list (ys.map .str)))) : F_law_needed [.val (pgD ks rs)] Q := by
  have ok := pg_all h
  refine ix rfl ⟨rfl, w_listed 6 3 n wide rs h.ok (by decide) (by have := h.ct; show cnt 3 rs ≤ 1000; omega) _ ⟨show 1 < 6 by decide, show 0 ≤ 1000000 by decide, show 2 < 6 by decide, ?_⟩⟩
  show forGo _ _ ((Prog rs).map rwD) _ _
  have : ((rs.flatMap (lstR 3)).map rwD : List Da) = (Prog rs).map rwD := rfl
  rw [this]
  generalize hall : Prog rs = all at ok q ⊢
  have hl := ok.l
  refine for_L rwD (fun done e => ∃ (a : SV), e = [.val (pgD ks rs), .val (.list (all.map rwD)), .own true (.list ((done.flatMap tw).map .str)), a, .no, .no]) all _ ⟨.no, rfl⟩ ?_ ?_
  · rintro done r rest hL e ⟨a, rfl⟩ N hN
    have hr : r ∈ all := by rw [hL]; exact List.mem_append_right _ List.mem_cons_self
    have tok := ok.t r hr
    have ld : (done.flatMap tw).length ≤ 100 := by
      have a := seeds_len (all := done) fun x hx => ok.t x (by rw [hL]; exact List.mem_append_left _ hx)
      have b := counts (F := []) done
      have c := congrArg List.length hL
      rw [List.length_append, List.length_cons] at c
      omega
    have fin : ∀ F, F = done.flatMap tw ++ tw r → N [.val (pgD ks rs), .val (.list (all.map rwD)), .own true (.list (F.map .str)), .val (rwD r), .no, .no] := fun F hF => hN _ ⟨.val (rwD r), by rw [hF, List.flatMap_append, List.flatMap_cons, List.flatMap_nil, List.append_nil]⟩
    have leaf : tw r = [] → N [.val (pgD ks rs), .val (.list (all.map rwD)), .own true (.list ((done.flatMap tw).map .str)), .val (rwD r), .no, .no] := fun ht => fin _ (by rw [ht, List.append_nil])
    have put : ∀ t, tw r = tnm t → tsz t ≤ 7 → ((done.flatMap tw).map PyData.str).length + ((tnm t).map PyData.str).length ≤ 1000000 ∧ 2 < 6 ∧ N [.val (pgD ks rs), .val (.list (all.map rwD)), .own true (.list ((done.flatMap tw).map .str ++ (tnm t).map .str)), .val (rwD r), .no, .no] := fun t ht t7 => by
      have := tnm_len t
      refine ⟨by rw [List.length_map, List.length_map]; omega, by decide, ?_⟩
      rw [← List.map_append]
      exact fin _ (by rw [ht])
    refine ⟨show 3 < 6 by decide, ?_⟩
    cases r with
    | thr x t => cases t <;> exact ix rfl ⟨show 2 ≤ 1000000 by decide, rfl, rfl, leaf rfl⟩
    | lt x t => exact ix rfl ⟨show 2 ≤ 1000000 by decide, rfl, rfl, leaf rfl⟩
    | tell t => exact ix rfl ⟨show 2 ≤ 1000000 by decide, rfl, rfl, ix rfl ⟨rfl, w_lnames 8 t (by have : tsz t ≤ 7 := tok.1; omega) (by decide) _ (put t rfl tok.1)⟩⟩
    | when t a b => exact ix rfl ⟨show 2 ≤ 1000000 by decide, rfl, rfl, ix rfl ⟨rfl, w_lnames 8 t (by have : tsz t ≤ 7 := tok.1; omega) (by decide) _ (put t rfl tok.1)⟩⟩
    | times k a => exact ix rfl ⟨show 2 ≤ 1000000 by decide, rfl, rfl, leaf rfl⟩
  rintro e ⟨a, rfl⟩
  have lf0 : LF all (all.flatMap tw) := ⟨fun x hx => by
    obtain ⟨r, hr, hx⟩ := List.mem_flatMap.mp hx
    exact nd_seed hr hx, fun r hr x hx => List.mem_flatMap.mpr ⟨r, hr, hx⟩, Nat.le_trans (seeds_len ok.t) (Nat.le_add_right _ _)⟩
  refine ⟨⟨by omega, by rw [List.length_map]; omega⟩, ?_⟩
  show forGo _ _ (rgD 0 ((all.map rwD).length : Int)) _ _
  rw [rgD_I, List.length_map]
  have lm : (rgI 0 all.length).length = all.length := by rw [rgI_len]; omega
  refine for_L .int (fun turns e => ∃ (F : List Str) (a b : SV), LF all F ∧ (Closed all F ∨ turns.length ≤ satc F all) ∧ e = [.val (pgD ks rs), .val (.list (all.map rwD)), .own true (.list (F.map .str)), a, b, .no]) (rgI 0 all.length) _ ⟨_, a, .no, lf0, .inr (Nat.zero_le _), rfl⟩ ?_ ?_
  · rintro turns k rest hT e ⟨F, a, b, lf, pr, rfl⟩ N hN
    refine ⟨show 4 < 6 by decide, ?_⟩
    refine for_L rwD (fun done e => ∃ (G : List Str) (a : SV), LF all G ∧ (∀ x ∈ F, x ∈ G) ∧ (∀ x t, Rw.lt x t ∈ done → x ∈ F → ∀ y ∈ tnm t, y ∈ G) ∧ e = [.val (pgD ks rs), .val (.list (all.map rwD)), .own true (.list (G.map .str)), a, iv k, .no]) all _ ⟨F, a, lf, (fun x hx => hx), (fun x t hx => by cases hx), rfl⟩ ?_ ?_
    · rintro done r rest hL e ⟨G, a, lg, sub, cl, rfl⟩ N2 hN2
      have hr : r ∈ all := by rw [hL]; exact List.mem_append_right _ List.mem_cons_self
      have few := lg.few ok
      have tok := ok.t r hr
      have leaf : (∀ x t, r = .lt x t → x ∉ F) → N2 [.val (pgD ks rs), .val (.list (all.map rwD)), .own true (.list (G.map .str)), .val (rwD r), iv k, .no] := fun ht => hN2 _ ⟨G, _, lg, sub, fun x t hx hxF => (List.mem_append.mp hx).elim (fun z => cl x t z hxF) fun z => absurd hxF (ht x t (List.mem_singleton.mp z).symm), rfl⟩
      refine ⟨show 3 < 6 by decide, ?_⟩
      cases r with
      | thr x t => cases t <;> exact ix rfl (leaf fun _ _ z => nomatch z)
      | tell t => exact ix rfl (leaf fun _ _ z => nomatch z)
      | when t a b => exact ix rfl (leaf fun _ _ z => nomatch z)
      | times k a => exact ix rfl (leaf fun _ _ z => nomatch z)
      | lt x t =>
        have t7 : tsz t ≤ 7 := tok.2.1
        have t4 := tnm_len t
        refine ix rfl (ix rfl ⟨.inl ⟨rfl, flat_strs G⟩, ?_⟩)
        show if (xor false ((G.map PyData.str).any fun z => PyData.eqv z (.str x))) = true then _ else _
        rw [any_str, xf]
        refine iteD (fun m => ?_) fun m => ?_
        · obtain ⟨l1, l2, l3⟩ := lg.add ok hr m
          refine ix rfl ⟨rfl, w_lnames 8 t (by omega) (by decide) _ ⟨⟨by rw [List.length_map]; omega, fun i hi => by rw [List.mem_singleton.mp hi]; trivial⟩, ?_⟩⟩
          refine lcLt .str (fun y => !decide (y ∈ G)) .str (tnm t) [] _ (fun y hy K N hK hN => ⟨show 5 < 6 by decide, .inl ⟨rfl, flat_strs G⟩, ?_⟩) ?_
          · show if (xor true ((G.map PyData.str).any fun z => PyData.eqv z (.str y))) = true then _ else _
            rw [any_str, Bool.true_xor]
            refine iteDn (fun c => ?_) fun c => ?_
            · exact hK (by rw [decide_eq_false c]; rfl)
            · exact hN (by rw [decide_eq_true c]; rfl)
          · have fl := List.length_filter_le (fun y => !decide (y ∈ G)) (tnm t)
            refine ⟨by rw [List.nil_append, List.length_map, List.length_map]; omega, show 2 < 6 by decide, hN2 _ ⟨addL G (tnm t), .val (rwD (.lt x t)), l1, fun y hy => l2 y (sub y hy), fun x' t' hx hxF y hy => (List.mem_append.mp hx).elim (fun z => l2 y (cl x' t' z hxF y hy)) fun z => ?_, ?_⟩⟩
            · cases List.mem_singleton.mp z
              exact l3 y hy
            · unfold addL
              rw [List.map_append]
              rfl
        · exact leaf fun x' t' z hF => by
            cases z
            exact m (sub x hF)
    · rintro e ⟨G, a, lg, sub, cl, rfl⟩
      refine hN _ ⟨G, a, iv k, lg, ?_, rfl⟩
      by_cases cF : Closed all F
      · refine .inl fun x t hr hx y hy => cl x t hr (nd_of lf.se cF (lg.so x hx)) y hy
      · refine .inr ?_
        rcases pr with pr | pr
        · exact absurd pr cF
        · have ⟨x, t, hr, hx, hn⟩ : ∃ x t, Rw.lt x t ∈ all ∧ x ∈ F ∧ ¬ ∀ y ∈ tnm t, y ∈ F := Classical.byContradiction fun z => cF fun x t hr hx => Classical.byContradiction fun w => z ⟨x, t, hr, hx, w⟩
          have := satc_more sub hr hn (cl x t hr hx)
          rw [List.length_append]
          show turns.length + 1 ≤ _
          omega
  · rintro e ⟨F, a, b, lf, pr, rfl⟩
    have few := lf.few ok
    have cF : Closed all F := by
      rcases pr with pr | pr
      · exact pr
      · rw [lm] at pr
        intro x t hr hx
        have e : satc F all = all.length := Nat.le_antisymm (by have := counts (F := F) all; omega) pr
        exact sat_iff.mp (List.countP_eq_length.mp e _ hr)
    refine ⟨F, rfl, by omega, fun ys nd mm so le => ?_⟩
    exact q ys nd so (by omega) fun x => by
      rw [mm x]
      exact ⟨lf.so x, fun hx => nd_of lf.se cF hx⟩
/-! ### idle rows -/
def idl (N : List Str) : Rw → Bool
  | .thr x _ => !decide (x ∈ N)
  | .lt x _ => !decide (x ∈ N)
  | _ => false
theorem w_idle1 (N : List Str) (hN : N.length ≤ 100) (r : Rw) (Q : SV → Prop) (h : Q (.val (.bool (idl N r)))) : F_is_idle [.val (rwD r), .val (.tuple (N.map .str))] Q := by
  have inn : ∀ x : Str, Q (.val (.bool (!decide (x ∈ N)))) → flatD (.str x) = true ∧ (N.map PyData.str).all flatD = true ∧ Q (.val (.bool (xor true ((N.map PyData.str).any fun z => PyData.eqv z (.str x))))) := fun x q => ⟨rfl, flat_strs N, by rw [any_str, Bool.true_xor]; exact q⟩
  cases r with
  | thr x t => cases t <;> exact ix rfl ⟨rfl, rfl, ix rfl (inn x h)⟩
  | lt x t => exact ix rfl ⟨rfl, rfl, ix rfl (ix rfl (inn x h))⟩
  | tell t => exact ix rfl ⟨rfl, rfl, ix rfl h⟩
  | when t a b => exact ix rfl ⟨rfl, rfl, ix rfl h⟩
  | times k a => exact ix rfl ⟨rfl, rfl, ix rfl h⟩
theorem w_lidle1 (N : List Str) (hN : N.length ≤ 100) (r : Rw) (Q : SV → Prop) (h : Q (.val (.bool (idl N r)))) : F_law_idle [.val (rwD r), .val (.list (N.map .str))] Q := by
  have inn : ∀ (x : Str) (K : SV → Prop), K (.val (.bool (!decide (x ∈ N)))) → fIn true (.str x) (.list (N.map .str)) K := fun x K q => ⟨.inl ⟨rfl, flat_strs N⟩, by rw [any_str, Bool.true_xor]; exact q⟩
  cases r with
  | thr x t => cases t <;> exact ix rfl ⟨show 5 ≤ 1000000 by decide, rfl, rfl, ix rfl (inn x _ h)⟩
  | lt x t => exact ix rfl ⟨show 5 ≤ 1000000 by decide, rfl, rfl, ix rfl (inn x _ h)⟩
  | tell t => exact ix rfl ⟨show 5 ≤ 1000000 by decide, rfl, rfl, h⟩
  | when t a b => exact ix rfl ⟨show 5 ≤ 1000000 by decide, rfl, rfl, h⟩
  | times k a => exact ix rfl ⟨show 5 ≤ 1000000 by decide, rfl, rfl, h⟩
end K36

set_option Elab.async false
set_option linter.all false
set_option maxRecDepth 100000
set_option maxHeartbeats 4000000
set_option pp.maxSteps 600
namespace K36
open PySem PySem.Spec PyProof.Rows L2 Pq Lb
def idlAt (N : List Str) (all : List Rw) (k : Int) : Bool := match all[k.toNat]? with
  | some r => idl N r
  | none => false
def idn (N : List Str) (all : List Rw) : List Int := (rgI 0 all.length).filter fun k => idlAt N all k
theorem row_at {all : List Rw} {k : Int} (hk : k ∈ rgI 0 all.length) : ∃ r, all[k.toNat]? = some r ∧ ixD (.list (all.map rwD)) k = some (rwD r) := by
  have hk := mem_rgI.mp hk
  have hi : k.toNat < all.length := by omega
  refine ⟨all[k.toNat], List.getElem?_eq_getElem hi, ?_⟩
  show atI (all.map rwD) k = _
  unfold atI ixN
  rw [if_pos hk.1, if_pos (by rw [List.length_map]; exact hk.2)]
  show (all.map rwD)[k.toNat]? = _
  rw [List.getElem?_map, List.getElem?_eq_getElem hi]
  rfl
theorem w_idle {n wide : Int} {ks : List Str} {rs : List Rw} (h : PgOk n wide ks rs) (Q : SV → Prop) (q : ∀ ys : List Str, ys.Nodup → sortedS ys = true → (∀ x, x ∈ ys ↔ Nd (Prog rs) x) → Q (.val (.tuple ((idn ys (Prog rs)).map .int)))) : F_idle [.val (pgD ks rs)] Q := by
  have ok := pg_all h
  refine ⟨rfl, w_needed h _ fun ys nd so mm => ⟨show 1 < 4 by decide, rfl, w_rows_in h _ ⟨show 2 < 4 by decide, ?_⟩⟩⟩
  have q := q ys nd so mm
  have few := nd_few ok nd fun x hx => (mm x).mp hx
  generalize hall : Prog rs = all at ok q ⊢
  have hl := ok.l
  refine ⟨⟨by omega, by rw [List.length_map]; omega⟩, ⟨⟨?_, fun i hi => ?_⟩, ?_⟩⟩
  · show (rgD 0 ((all.map rwD).length : Int)).length ≤ 1000000
    rw [rgD_I, List.length_map, List.length_map, rgI_len]; omega
  · rw [List.mem_singleton.mp hi]; trivial
  · show lcGo _ _ _ _ (rgD 0 ((all.map rwD).length : Int)) _ _
    rw [rgD_I, List.length_map]
    refine lcLt .int (fun k => idlAt ys all k) .int (rgI 0 all.length) [] _ (fun k hk K N hK hN => ?_) q
    obtain ⟨r, hr, e⟩ := row_at hk
    have ei : idlAt ys all k = idl ys r := by unfold idlAt; rw [hr]
    refine ⟨show 3 < 4 by decide, ix e ⟨rfl, w_idle1 ys (by omega) r _ ?_⟩⟩
    show if idl ys r = true then _ else _
    cases c : idl ys r with
    | true => exact hK (by rw [ei, c])
    | false => exact hN (by rw [ei, c])
theorem lay_ints (L : List Int) : Lay 1 (.list (L.map .int)) := lay_lst fun x hx => by
  obtain ⟨i, _, rfl⟩ := List.mem_map.mp hx
  exact lay_int
theorem lay_str {n : Nat} {x : Str} (h : nmOk x) : Lay n (.str x) := ⟨by simp only [PyData.canLay0]; exact nm_str h, by simp [PyData.depth]⟩
theorem lay_strs {L : List Str} (h : ∀ x ∈ L, nmOk x) : Lay 1 (.list (L.map .str)) := lay_lst fun x hx => by
  obtain ⟨i, hi, rfl⟩ := List.mem_map.mp hx
  exact lay_str (h i hi)
theorem w_right {n wide : Int} {ks : List Str} {rs : List Rw} (h : PgOk n wide ks rs) (Q : SV → Prop) (q : Q (.val (.bool true))) : F_law_right [.val (pgD ks rs)] Q := by
  have ok := pg_all h
  refine ⟨rfl, w_lneeded h _ fun ys nd so few mm => ⟨show 1 < 6 by decide, ?_⟩⟩
  refine ix rfl ⟨rfl, w_listed 6 3 n wide rs h.ok (by decide) (by have := h.ct; show cnt 3 rs ≤ 1000; omega) _ ⟨show 2 < 6 by decide, ?_⟩⟩
  have uq : ∀ zs : List Str, zs.Nodup → sortedS zs = true → (∀ x, x ∈ zs ↔ Nd (Prog rs) x) → zs = ys := fun zs nz sz mz => sorted_unique sz so nz nd fun x => by rw [mz x, mm x]
  have hl := ok.l
  refine ⟨⟨by omega, ?_⟩, ⟨⟨?_, fun i hi => ?_⟩, ?_⟩⟩
  · show (((Prog rs).map rwD).length : Int) ≤ _
    rw [List.length_map]; omega
  · show (rgD 0 (((Prog rs).map rwD).length : Int)).length ≤ 1000000
    rw [rgD_I, List.length_map, List.length_map, rgI_len]; omega
  · rw [List.mem_singleton.mp hi]; trivial
  show lcGo _ _ _ _ (rgD 0 (((Prog rs).map rwD).length : Int)) _ _
  rw [rgD_I, List.length_map]
  refine lcLt .int (fun k => idlAt ys (Prog rs) k) .int (rgI 0 (Prog rs).length) [] _ (fun k hk K N hK hN => ?_) ?_
  · obtain ⟨r, hr, e⟩ := row_at hk
    have ei : idlAt ys (Prog rs) k = idl ys r := by unfold idlAt; rw [hr]
    refine ⟨show 5 < 6 by decide, ix e ⟨rfl, w_lidle1 ys (by omega) r _ ?_⟩⟩
    show if idl ys r = true then _ else _
    cases c : idl ys r with
    | true => exact hK (by rw [ei, c])
    | false => exact hN (by rw [ei, c])
  refine ⟨show 3 < 6 by decide, rfl, w_idle h _ fun zs nz sz mz => ⟨show 4 < 6 by decide, ?_⟩⟩
  rw [uq zs nz sz mz]
  have la : (idn ys (Prog rs)).length ≤ 12 := by
    have := List.length_filter_le (fun k => idlAt ys (Prog rs) k) (rgI 0 (Prog rs).length)
    rw [rgI_len] at this
    unfold idn
    omega
  refine ⟨⟨by rw [List.length_map]; omega, fun i hi => by rw [List.mem_singleton.mp hi]; trivial⟩, ?_⟩
  refine lcL .int (fun _ => .bool false) (idn ys (Prog rs)) [] _ (fun k hk K hK => ⟨show 5 < 6 by decide, hK⟩) ?_
  refine w_any (idn ys (Prog rs)) (fun _ => false) _ ?_
  have ea : (idn ys (Prog rs)).any (fun _ => false) = false := List.any_eq_false.mpr fun _ _ => Bool.false_ne_true
  show if ((idn ys (Prog rs)).any fun _ => false) = true then _ else _
  rw [ea]
  have ly := lay_ints (idn ys (Prog rs))
  have e1 : (!PyData.eqv (.list ((idn ys (Prog rs)).map .int)) (.list ([] ++ (idn ys (Prog rs)).map .int))) = false := by
    rw [List.nil_append, ly.refl]; rfl
  refine ⟨ly.shaped (by decide), ly.shaped (by decide), ?_⟩
  show if (!PyData.eqv (.list ((idn ys (Prog rs)).map .int)) (.list ([] ++ (idn ys (Prog rs)).map .int))) = true then _ else _
  rw [e1]
  refine ⟨rfl, w_needed h _ fun zs nz sz mz => ⟨show 4 < 6 by decide, ?_⟩⟩
  rw [uq zs nz sz mz]
  have lz := lay_strs (L := ys) fun x hx => nd_ok ok.t ((mm x).mp hx)
  refine ⟨lz.shaped (by decide), lz.shaped (by decide), ?_⟩
  rw [lz.refl]
  exact q
theorem w_law : M_law [.no, .deal, .no, .no, .no] eTrue := by
  refine ⟨rfl, w_program (by decide) (by decide) (by decide) (by decide) _ fun n ks rs h1 => ⟨show 2 < 5 by decide, ?_⟩⟩
  refine ⟨rfl, w_program (by decide) (by decide) (by decide) (by decide) _ fun n2 ks2 rs2 h2 => ⟨show 3 < 5 by decide, ?_⟩⟩
  refine ⟨rfl, w_chain _ fun n3 ks3 rs3 h3 => ⟨show 4 < 5 by decide, ?_⟩⟩
  exact ⟨rfl, w_right h1 _ ⟨rfl, w_right h2 _ ⟨rfl, w_right h3 _ ⟨rfl, w_right h1 _ rfl⟩⟩⟩⟩
end K36

set_option Elab.async false
set_option linter.all false
set_option maxRecDepth 100000
set_option maxHeartbeats 4000000
namespace K36
open PySem PySem.Spec PyProof.Rows L2 Pq Lb
section
variable {P : Program} {w : World} {K : PySem.W.Frag} {mg : Str → Option Value} {base : Heap}
theorem ok_law (T : Tx K mg) (C_law_program : Cal P w K mg base "_law_program" 21 4 F_law_program) (C_law_chain : Cal P w K mg base "_law_chain" 5 1 F_law_chain) (C_law_right : Cal P w K mg base "_law_right" 12 1 F_law_right) {f fde : Addr} {fd fdd : FuncData} (Fu : Fun K "law" "law" s_law f fd) (G : FnOk P w K mg base CX0 2 fde fdd ["_law_script", "_law_base"] (spDeal K)) (md : mg "_law_deal" = some (.ref fde)) (kd : PySem.W.keepIn K (.ref fde) = true) (bd : Binds K fdd ["_law_script", "_law_base"] []) : FnG P w K mg base CX0 22 f fd ["_law_script"] (spLaw K) := by
  refine fun_g Fu sc_law (fun vs H Q E h => ?_) (fun cdv A outer s H vs Q E hr h => ?_)
  · obtain ⟨a, ns, rfl, _⟩ := h
    rfl
  · obtain ⟨a, ns, rfl, hS, hl, q⟩ := h
    refine ⟨_, pss_cons (ps_set (i := 1) sc_law.nd rfl (by first | exact Or.inl rfl | exact Or.inr rfl) (pe_call (dvs := []) G (hr.rm.mono (by decide)) (by rfl) md kd bd .nil pass0 (pa_cons (pv 0) (pa_cons pe_int pa_nil)))) (body_law T C_law_program C_law_chain C_law_right cdv A outer s H E hr), ?_⟩
    exact law_read (X := (cxOf CX0 P w K mg base N_law "law" (defScope s_law) f cdv A outer s H E).nox) (N := N_law) (m := 3) rfl w_law hS hl q
end
theorem all_mk {l : PySem.W.OpenLaw} {w : World} {K : PySem.W.Frag} {h : Heap} {mg : Str → Option Value} {fa f1 f2 f3 f4 f5 f6 f7 f8 f9 f10 f11 f12 f13 f14 f15 f16 f17 f18 f19 f20 f21 f22 f23 f24 : Addr} (X : K.In h) (G : h.Ns mainGlobals mg) (hfa : mg "law" = some (.ref fa))
    {od1 an1 : Option Addr} {sl1 : Array (Option Value)} {oc1 kV1 dc1 pm1 cd1 ct1 : Value}
    (a1 : PySem.W.nsIn K mainGlobals "_law_deal" = some (some (.ref f1))) (l1 : K.lookup f1 = some ⟨oc1, od1, .func (PySem.W.fnOf "_law_deal" "_law_deal" (defArgs s_law_deal) (defBody s_law_deal) (defScope s_law_deal) .none kV1 dc1 pm1 an1 cd1 ct1), sl1⟩) (c1 : PySem.W.codeIn K cd1 "_law_deal" = true) (k1 : PySem.W.keepIn K (.ref f1) = true)
    {od2 an2 : Option Addr} {sl2 : Array (Option Value)} {oc2 kV2 dc2 pm2 cd2 ct2 : Value}
    (a2 : PySem.W.nsIn K mainGlobals "_law_draw" = some (some (.ref f2))) (l2 : K.lookup f2 = some ⟨oc2, od2, .func (PySem.W.fnOf "_law_draw" "_law_draw" (defArgs s_law_draw) (defBody s_law_draw) (defScope s_law_draw) .none kV2 dc2 pm2 an2 cd2 ct2), sl2⟩) (c2 : PySem.W.codeIn K cd2 "_law_draw" = true) (k2 : PySem.W.keepIn K (.ref f2) = true)
    {od3 an3 : Option Addr} {sl3 : Array (Option Value)} {oc3 kV3 dc3 pm3 cd3 ct3 : Value}
    (a3 : PySem.W.nsIn K mainGlobals "_law_names" = some (some (.ref f3))) (l3 : K.lookup f3 = some ⟨oc3, od3, .func (PySem.W.fnOf "_law_names" "_law_names" (defArgs s_law_names) (defBody s_law_names) (defScope s_law_names) .none kV3 dc3 pm3 an3 cd3 ct3), sl3⟩) (c3 : PySem.W.codeIn K cd3 "_law_names" = true) (k3 : PySem.W.keepIn K (.ref f3) = true)
    {od4 an4 : Option Addr} {sl4 : Array (Option Value)} {oc4 kV4 dc4 pm4 cd4 ct4 : Value}
    (a4 : PySem.W.nsIn K mainGlobals "_law_steep" = some (some (.ref f4))) (l4 : K.lookup f4 = some ⟨oc4, od4, .func (PySem.W.fnOf "_law_steep" "_law_steep" (defArgs s_law_steep) (defBody s_law_steep) (defScope s_law_steep) .none kV4 dc4 pm4 an4 cd4 ct4), sl4⟩) (c4 : PySem.W.codeIn K cd4 "_law_steep" = true) (k4 : PySem.W.keepIn K (.ref f4) = true)
    {od5 an5 : Option Addr} {sl5 : Array (Option Value)} {oc5 kV5 dc5 pm5 cd5 ct5 : Value}
    (a5 : PySem.W.nsIn K mainGlobals "_law_sum" = some (some (.ref f5))) (l5 : K.lookup f5 = some ⟨oc5, od5, .func (PySem.W.fnOf "_law_sum" "_law_sum" (defArgs s_law_sum) (defBody s_law_sum) (defScope s_law_sum) .none kV5 dc5 pm5 an5 cd5 ct5), sl5⟩) (c5 : PySem.W.codeIn K cd5 "_law_sum" = true) (k5 : PySem.W.keepIn K (.ref f5) = true)
    {od6 an6 : Option Addr} {sl6 : Array (Option Value)} {oc6 kV6 dc6 pm6 cd6 ct6 : Value}
    (a6 : PySem.W.nsIn K mainGlobals "_law_throw" = some (some (.ref f6))) (l6 : K.lookup f6 = some ⟨oc6, od6, .func (PySem.W.fnOf "_law_throw" "_law_throw" (defArgs s_law_throw) (defBody s_law_throw) (defScope s_law_throw) .none kV6 dc6 pm6 an6 cd6 ct6), sl6⟩) (c6 : PySem.W.codeIn K cd6 "_law_throw" = true) (k6 : PySem.W.keepIn K (.ref f6) = true)
    {od7 an7 : Option Addr} {sl7 : Array (Option Value)} {oc7 kV7 dc7 pm7 cd7 ct7 : Value}
    (a7 : PySem.W.nsIn K mainGlobals "_law_term" = some (some (.ref f7))) (l7 : K.lookup f7 = some ⟨oc7, od7, .func (PySem.W.fnOf "_law_term" "_law_term" (defArgs s_law_term) (defBody s_law_term) (defScope s_law_term) .none kV7 dc7 pm7 an7 cd7 ct7), sl7⟩) (c7 : PySem.W.codeIn K cd7 "_law_term" = true) (k7 : PySem.W.keepIn K (.ref f7) = true)
    {od8 an8 : Option Addr} {sl8 : Array (Option Value)} {oc8 kV8 dc8 pm8 cd8 ct8 : Value}
    (a8 : PySem.W.nsIn K mainGlobals "_law_row" = some (some (.ref f8))) (l8 : K.lookup f8 = some ⟨oc8, od8, .func (PySem.W.fnOf "_law_row" "_law_row" (defArgs s_law_row) (defBody s_law_row) (defScope s_law_row) .none kV8 dc8 pm8 an8 cd8 ct8), sl8⟩) (c8 : PySem.W.codeIn K cd8 "_law_row" = true) (k8 : PySem.W.keepIn K (.ref f8) = true)
    {od9 an9 : Option Addr} {sl9 : Array (Option Value)} {oc9 kV9 dc9 pm9 cd9 ct9 : Value}
    (a9 : PySem.W.nsIn K mainGlobals "_law_rows" = some (some (.ref f9))) (l9 : K.lookup f9 = some ⟨oc9, od9, .func (PySem.W.fnOf "_law_rows" "_law_rows" (defArgs s_law_rows) (defBody s_law_rows) (defScope s_law_rows) .none kV9 dc9 pm9 an9 cd9 ct9), sl9⟩) (c9 : PySem.W.codeIn K cd9 "_law_rows" = true) (k9 : PySem.W.keepIn K (.ref f9) = true)
    {od10 an10 : Option Addr} {sl10 : Array (Option Value)} {oc10 kV10 dc10 pm10 cd10 ct10 : Value}
    (a10 : PySem.W.nsIn K mainGlobals "_law_program" = some (some (.ref f10))) (l10 : K.lookup f10 = some ⟨oc10, od10, .func (PySem.W.fnOf "_law_program" "_law_program" (defArgs s_law_program) (defBody s_law_program) (defScope s_law_program) .none kV10 dc10 pm10 an10 cd10 ct10), sl10⟩) (c10 : PySem.W.codeIn K cd10 "_law_program" = true) (k10 : PySem.W.keepIn K (.ref f10) = true)
    {od11 an11 : Option Addr} {sl11 : Array (Option Value)} {oc11 kV11 dc11 pm11 cd11 ct11 : Value}
    (a11 : PySem.W.nsIn K mainGlobals "_law_chain" = some (some (.ref f11))) (l11 : K.lookup f11 = some ⟨oc11, od11, .func (PySem.W.fnOf "_law_chain" "_law_chain" (defArgs s_law_chain) (defBody s_law_chain) (defScope s_law_chain) .none kV11 dc11 pm11 an11 cd11 ct11), sl11⟩) (c11 : PySem.W.codeIn K cd11 "_law_chain" = true) (k11 : PySem.W.keepIn K (.ref f11) = true)
    {od12 an12 : Option Addr} {sl12 : Array (Option Value)} {oc12 kV12 dc12 pm12 cd12 ct12 : Value}
    (a12 : PySem.W.nsIn K mainGlobals "_law_listed" = some (some (.ref f12))) (l12 : K.lookup f12 = some ⟨oc12, od12, .func (PySem.W.fnOf "_law_listed" "_law_listed" (defArgs s_law_listed) (defBody s_law_listed) (defScope s_law_listed) .none kV12 dc12 pm12 an12 cd12 ct12), sl12⟩) (c12 : PySem.W.codeIn K cd12 "_law_listed" = true) (k12 : PySem.W.keepIn K (.ref f12) = true)
    {od13 an13 : Option Addr} {sl13 : Array (Option Value)} {oc13 kV13 dc13 pm13 cd13 ct13 : Value}
    (a13 : PySem.W.nsIn K mainGlobals "_law_names_in" = some (some (.ref f13))) (l13 : K.lookup f13 = some ⟨oc13, od13, .func (PySem.W.fnOf "_law_names_in" "_law_names_in" (defArgs s_law_names_in) (defBody s_law_names_in) (defScope s_law_names_in) .none kV13 dc13 pm13 an13 cd13 ct13), sl13⟩) (c13 : PySem.W.codeIn K cd13 "_law_names_in" = true) (k13 : PySem.W.keepIn K (.ref f13) = true)
    {od14 an14 : Option Addr} {sl14 : Array (Option Value)} {oc14 kV14 dc14 pm14 cd14 ct14 : Value}
    (a14 : PySem.W.nsIn K mainGlobals "_law_needed" = some (some (.ref f14))) (l14 : K.lookup f14 = some ⟨oc14, od14, .func (PySem.W.fnOf "_law_needed" "_law_needed" (defArgs s_law_needed) (defBody s_law_needed) (defScope s_law_needed) .none kV14 dc14 pm14 an14 cd14 ct14), sl14⟩) (c14 : PySem.W.codeIn K cd14 "_law_needed" = true) (k14 : PySem.W.keepIn K (.ref f14) = true)
    {od15 an15 : Option Addr} {sl15 : Array (Option Value)} {oc15 kV15 dc15 pm15 cd15 ct15 : Value}
    (a15 : PySem.W.nsIn K mainGlobals "blocks_in" = some (some (.ref f15))) (l15 : K.lookup f15 = some ⟨oc15, od15, .func (PySem.W.fnOf "blocks_in" "blocks_in" (defArgs s_blocks_in) (defBody s_blocks_in) (defScope s_blocks_in) .none kV15 dc15 pm15 an15 cd15 ct15), sl15⟩) (c15 : PySem.W.codeIn K cd15 "blocks_in" = true) (k15 : PySem.W.keepIn K (.ref f15) = true)
    {od16 an16 : Option Addr} {sl16 : Array (Option Value)} {oc16 kV16 dc16 pm16 cd16 ct16 : Value}
    (a16 : PySem.W.nsIn K mainGlobals "rows_within" = some (some (.ref f16))) (l16 : K.lookup f16 = some ⟨oc16, od16, .func (PySem.W.fnOf "rows_within" "rows_within" (defArgs s_rows_within) (defBody s_rows_within) (defScope s_rows_within) .none kV16 dc16 pm16 an16 cd16 ct16), sl16⟩) (c16 : PySem.W.codeIn K cd16 "rows_within" = true) (k16 : PySem.W.keepIn K (.ref f16) = true)
    {od17 an17 : Option Addr} {sl17 : Array (Option Value)} {oc17 kV17 dc17 pm17 cd17 ct17 : Value}
    (a17 : PySem.W.nsIn K mainGlobals "rows_in" = some (some (.ref f17))) (l17 : K.lookup f17 = some ⟨oc17, od17, .func (PySem.W.fnOf "rows_in" "rows_in" (defArgs s_rows_in) (defBody s_rows_in) (defScope s_rows_in) .none kV17 dc17 pm17 an17 cd17 ct17), sl17⟩) (c17 : PySem.W.codeIn K cd17 "rows_in" = true) (k17 : PySem.W.keepIn K (.ref f17) = true)
    {od18 an18 : Option Addr} {sl18 : Array (Option Value)} {oc18 kV18 dc18 pm18 cd18 ct18 : Value}
    (a18 : PySem.W.nsIn K mainGlobals "names_of" = some (some (.ref f18))) (l18 : K.lookup f18 = some ⟨oc18, od18, .func (PySem.W.fnOf "names_of" "names_of" (defArgs s_names_of) (defBody s_names_of) (defScope s_names_of) .none kV18 dc18 pm18 an18 cd18 ct18), sl18⟩) (c18 : PySem.W.codeIn K cd18 "names_of" = true) (k18 : PySem.W.keepIn K (.ref f18) = true)
    {od19 an19 : Option Addr} {sl19 : Array (Option Value)} {oc19 kV19 dc19 pm19 cd19 ct19 : Value}
    (a19 : PySem.W.nsIn K mainGlobals "needed" = some (some (.ref f19))) (l19 : K.lookup f19 = some ⟨oc19, od19, .func (PySem.W.fnOf "needed" "needed" (defArgs s_needed) (defBody s_needed) (defScope s_needed) .none kV19 dc19 pm19 an19 cd19 ct19), sl19⟩) (c19 : PySem.W.codeIn K cd19 "needed" = true) (k19 : PySem.W.keepIn K (.ref f19) = true)
    {od20 an20 : Option Addr} {sl20 : Array (Option Value)} {oc20 kV20 dc20 pm20 cd20 ct20 : Value}
    (a20 : PySem.W.nsIn K mainGlobals "is_idle" = some (some (.ref f20))) (l20 : K.lookup f20 = some ⟨oc20, od20, .func (PySem.W.fnOf "is_idle" "is_idle" (defArgs s_is_idle) (defBody s_is_idle) (defScope s_is_idle) .none kV20 dc20 pm20 an20 cd20 ct20), sl20⟩) (c20 : PySem.W.codeIn K cd20 "is_idle" = true) (k20 : PySem.W.keepIn K (.ref f20) = true)
    {od21 an21 : Option Addr} {sl21 : Array (Option Value)} {oc21 kV21 dc21 pm21 cd21 ct21 : Value}
    (a21 : PySem.W.nsIn K mainGlobals "idle" = some (some (.ref f21))) (l21 : K.lookup f21 = some ⟨oc21, od21, .func (PySem.W.fnOf "idle" "idle" (defArgs s_idle) (defBody s_idle) (defScope s_idle) .none kV21 dc21 pm21 an21 cd21 ct21), sl21⟩) (c21 : PySem.W.codeIn K cd21 "idle" = true) (k21 : PySem.W.keepIn K (.ref f21) = true)
    {od22 an22 : Option Addr} {sl22 : Array (Option Value)} {oc22 kV22 dc22 pm22 cd22 ct22 : Value}
    (a22 : PySem.W.nsIn K mainGlobals "_law_idle" = some (some (.ref f22))) (l22 : K.lookup f22 = some ⟨oc22, od22, .func (PySem.W.fnOf "_law_idle" "_law_idle" (defArgs s_law_idle) (defBody s_law_idle) (defScope s_law_idle) .none kV22 dc22 pm22 an22 cd22 ct22), sl22⟩) (c22 : PySem.W.codeIn K cd22 "_law_idle" = true) (k22 : PySem.W.keepIn K (.ref f22) = true)
    {od23 an23 : Option Addr} {sl23 : Array (Option Value)} {oc23 kV23 dc23 pm23 cd23 ct23 : Value}
    (a23 : PySem.W.nsIn K mainGlobals "_law_right" = some (some (.ref f23))) (l23 : K.lookup f23 = some ⟨oc23, od23, .func (PySem.W.fnOf "_law_right" "_law_right" (defArgs s_law_right) (defBody s_law_right) (defScope s_law_right) .none kV23 dc23 pm23 an23 cd23 ct23), sl23⟩) (c23 : PySem.W.codeIn K cd23 "_law_right" = true) (k23 : PySem.W.keepIn K (.ref f23) = true)
    {od24 an24 : Option Addr} {sl24 : Array (Option Value)} {oc24 kV24 dc24 pm24 cd24 ct24 : Value}
    (a24 : PySem.W.nsIn K mainGlobals "law" = some (some (.ref f24))) (l24 : K.lookup f24 = some ⟨oc24, od24, .func (PySem.W.fnOf "law" "law" (defArgs s_law) (defBody s_law) (defScope s_law) .none kV24 dc24 pm24 an24 cd24 ct24), sl24⟩) (c24 : PySem.W.codeIn K cd24 "law" = true) (k24 : PySem.W.keepIn K (.ref f24) = true)
    (z0 : PySem.W.nsIn K mainGlobals "any" = some none)
    (z1 : PySem.W.nsIn K mainGlobals "bool" = some none)
    (z2 : PySem.W.nsIn K mainGlobals "dict" = some none)
    (z3 : PySem.W.nsIn K mainGlobals "int" = some none)
    (z4 : PySem.W.nsIn K mainGlobals "isinstance" = some none)
    (z5 : PySem.W.nsIn K mainGlobals "len" = some none)
    (z6 : PySem.W.nsIn K mainGlobals "list" = some none)
    (z7 : PySem.W.nsIn K mainGlobals "max" = some none)
    (z8 : PySem.W.nsIn K mainGlobals "min" = some none)
    (z9 : PySem.W.nsIn K mainGlobals "range" = some none)
    (z10 : PySem.W.nsIn K mainGlobals "reversed" = some none)
    (z11 : PySem.W.nsIn K mainGlobals "set" = some none)
    (z12 : PySem.W.nsIn K mainGlobals "sorted" = some none)
    (z13 : PySem.W.nsIn K mainGlobals "tuple" = some none)
    {g0 : Addr} {t0_0 t0_1 t0_2 t0_3 : Tok} {gn0 : Nat} {gs0 : Array (Option Value)} (u0 : PySem.W.nsIn K mainGlobals "THROWS" = some (some (.ref g0))) (v0 : K.lookup g0 = some ⟨.type "tuple", none, .seq #[.str "ladder" t0_0, .str "flat" t0_1, .str "choose" t0_2, .str "first" t0_3] gn0, gs0⟩)
    : ∃ fd : FuncData, (∀ (s : Shared) (v : Value), BindsTo s fd ⟨[v], []⟩ [("_law_script", v)]) ∧ ∀ base : Heap, K.In base → base.Ns mainGlobals mg → FnG l.prog w K mg base CX0 22 fa fd ["_law_script"] (spLaw K) := by
  have e := hfa.symm.trans (PySem.W.mg_of X G a24)
  cases e
  have T : Tx K mg := ⟨PySem.W.mg_none_of X G z0, PySem.W.mg_none_of X G z1, PySem.W.mg_none_of X G z2, PySem.W.mg_none_of X G z3, PySem.W.mg_none_of X G z4, PySem.W.mg_none_of X G z5, PySem.W.mg_none_of X G z6, PySem.W.mg_none_of X G z7, PySem.W.mg_none_of X G z8, PySem.W.mg_none_of X G z9, PySem.W.mg_none_of X G z10, PySem.W.mg_none_of X G z11, PySem.W.mg_none_of X G z12, PySem.W.mg_none_of X G z13, ⟨.ref g0, _, PySem.W.mg_of X G u0, rfl, fun _ => .tup (xs := [.str "ladder", .str "flat", .str "choose", .str "first"]) (.inr ⟨_, _, _, v0, rfl, rfl, rfl, show 4 ≤ sizeLine by decide, (.cons ⟨_, rfl⟩ (.cons ⟨_, rfl⟩ (.cons ⟨_, rfl⟩ (.cons ⟨_, rfl⟩ .nil))))⟩) (.cons (.str _) (.cons (.str _) (.cons (.str _) (.cons (.str _) .nil))))⟩⟩
  have F1 := fun_mk (st := s_law_deal) l1 c1 k1
  have b1 := F1.binds (ps := ["_law_script", "_law_base"]) fun _ _ _ _ _ _ us hl => match us, hl with | [_, _], _ => rfl
  have m1 := PySem.W.mg_of X G a1
  have F2 := fun_mk (st := s_law_draw) l2 c2 k2
  have b2 := F2.binds (ps := ["_law_deal_here", "_law_many"]) fun _ _ _ _ _ _ us hl => match us, hl with | [_, _], _ => rfl
  have m2 := PySem.W.mg_of X G a2
  have F3 := fun_mk (st := s_law_names) l3 c3 k3
  have b3 := F3.binds (ps := ["_law_deal_here", "_law_many"]) fun _ _ _ _ _ _ us hl => match us, hl with | [_, _], _ => rfl
  have m3 := PySem.W.mg_of X G a3
  have F4 := fun_mk (st := s_law_steep) l4 c4 k4
  have b4 := F4.binds (ps := ["_law_deal_here", "_law_half"]) fun _ _ _ _ _ _ us hl => match us, hl with | [_, _], _ => rfl
  have m4 := PySem.W.mg_of X G a4
  have F5 := fun_mk (st := s_law_sum) l5 c5 k5
  have b5 := F5.binds (ps := ["_law_deal_here", "_law_many"]) fun _ _ _ _ _ _ us hl => match us, hl with | [_, _], _ => rfl
  have m5 := PySem.W.mg_of X G a5
  have F6 := fun_mk (st := s_law_throw) l6 c6 k6
  have b6 := F6.binds (ps := ["_law_deal_here", "_law_world", "_law_x"]) fun _ _ _ _ _ _ us hl => match us, hl with | [_, _, _], _ => rfl
  have m6 := PySem.W.mg_of X G a6
  have F7 := fun_mk (st := s_law_term) l7 c7 k7
  have b7 := F7.binds (ps := ["_law_deal_here", "_law_known", "_law_room"]) fun _ _ _ _ _ _ us hl => match us, hl with | [_, _, _], _ => rfl
  have m7 := PySem.W.mg_of X G a7
  have F8 := fun_mk (st := s_law_row) l8 c8 k8
  have b8 := F8.binds (ps := ["_law_deal_here", "_law_world", "_law_known", "_law_deep", "_law_often"]) fun _ _ _ _ _ _ us hl => match us, hl with | [_, _, _, _, _], _ => rfl
  have m8 := PySem.W.mg_of X G a8
  have F9 := fun_mk (st := s_law_rows) l9 c9 k9
  have b9 := F9.binds (ps := ["_law_deal_here", "_law_world", "_law_known", "_law_deep", "_law_tells", "_law_often"]) fun _ _ _ _ _ _ us hl => match us, hl with | [_, _, _, _, _, _], _ => rfl
  have m9 := PySem.W.mg_of X G a9
  have F10 := fun_mk (st := s_law_program) l10 c10 k10
  have b10 := F10.binds (ps := ["_law_deal_here", "_law_kinds", "_law_throws", "_law_wide"]) fun _ _ _ _ _ _ us hl => match us, hl with | [_, _, _, _], _ => rfl
  have m10 := PySem.W.mg_of X G a10
  have F11 := fun_mk (st := s_law_chain) l11 c11 k11
  have b11 := F11.binds (ps := ["_law_deal_here"]) fun _ _ _ _ _ _ us hl => match us, hl with | [_], _ => rfl
  have m11 := PySem.W.mg_of X G a11
  have F12 := fun_mk (st := s_law_listed) l12 c12 k12
  have b12 := F12.binds (ps := ["_law_rows_here"]) fun _ _ _ _ _ _ us hl => match us, hl with | [_], _ => rfl
  have m12 := PySem.W.mg_of X G a12
  have F13 := fun_mk (st := s_law_names_in) l13 c13 k13
  have b13 := F13.binds (ps := ["_law_term_here"]) fun _ _ _ _ _ _ us hl => match us, hl with | [_], _ => rfl
  have m13 := PySem.W.mg_of X G a13
  have F14 := fun_mk (st := s_law_needed) l14 c14 k14
  have b14 := F14.binds (ps := ["_law_program_here"]) fun _ _ _ _ _ _ us hl => match us, hl with | [_], _ => rfl
  have m14 := PySem.W.mg_of X G a14
  have F15 := fun_mk (st := s_blocks_in) l15 c15 k15
  have b15 := F15.binds (ps := ["row"]) fun _ _ _ _ _ _ us hl => match us, hl with | [_], _ => rfl
  have m15 := PySem.W.mg_of X G a15
  have F16 := fun_mk (st := s_rows_within) l16 c16 k16
  have b16 := F16.binds (ps := ["rows"]) fun _ _ _ _ _ _ us hl => match us, hl with | [_], _ => rfl
  have m16 := PySem.W.mg_of X G a16
  have F17 := fun_mk (st := s_rows_in) l17 c17 k17
  have b17 := F17.binds (ps := ["program"]) fun _ _ _ _ _ _ us hl => match us, hl with | [_], _ => rfl
  have m17 := PySem.W.mg_of X G a17
  have F18 := fun_mk (st := s_names_of) l18 c18 k18
  have b18 := F18.binds (ps := ["term"]) fun _ _ _ _ _ _ us hl => match us, hl with | [_], _ => rfl
  have m18 := PySem.W.mg_of X G a18
  have F19 := fun_mk (st := s_needed) l19 c19 k19
  have b19 := F19.binds (ps := ["program"]) fun _ _ _ _ _ _ us hl => match us, hl with | [_], _ => rfl
  have m19 := PySem.W.mg_of X G a19
  have F20 := fun_mk (st := s_is_idle) l20 c20 k20
  have b20 := F20.binds (ps := ["row", "names"]) fun _ _ _ _ _ _ us hl => match us, hl with | [_, _], _ => rfl
  have m20 := PySem.W.mg_of X G a20
  have F21 := fun_mk (st := s_idle) l21 c21 k21
  have b21 := F21.binds (ps := ["program"]) fun _ _ _ _ _ _ us hl => match us, hl with | [_], _ => rfl
  have m21 := PySem.W.mg_of X G a21
  have F22 := fun_mk (st := s_law_idle) l22 c22 k22
  have b22 := F22.binds (ps := ["_law_row_here", "_law_names_here"]) fun _ _ _ _ _ _ us hl => match us, hl with | [_, _], _ => rfl
  have m22 := PySem.W.mg_of X G a22
  have F23 := fun_mk (st := s_law_right) l23 c23 k23
  have b23 := F23.binds (ps := ["_law_program_here"]) fun _ _ _ _ _ _ us hl => match us, hl with | [_], _ => rfl
  have m23 := PySem.W.mg_of X G a23
  have F24 := fun_mk (st := s_law) l24 c24 k24
  refine ⟨PySem.W.fnOf "law" "law" (defArgs s_law) (defBody s_law) (defScope s_law) .none kV24 dc24 pm24 an24 cd24 ct24, fun s v => .of_eq rfl, fun base _ _ => ?_⟩
  have C_law_draw := ok_law_draw (P := l.prog) (w := w) (base := base) T  F2 m2 b2
  have C_law_names := ok_law_names (P := l.prog) (w := w) (base := base) T C_law_draw F3 m3 b3
  have C_law_steep := ok_law_steep (P := l.prog) (w := w) (base := base) T C_law_draw F4 m4 b4
  have C_law_sum := ok_law_sum (P := l.prog) (w := w) (base := base) T C_law_draw F5 m5 b5
  have C_law_throw := ok_law_throw (P := l.prog) (w := w) (base := base) T C_law_draw C_law_sum C_law_steep F6 m6 b6
  have CB_law_throw := okB_law_throw (P := l.prog) (w := w) (base := base) T C_law_draw C_law_sum C_law_steep F6 m6 b6
  have C_law_term := ok_law_term (P := l.prog) (w := w) (base := base) T C_law_draw F7 m7 b7 8
  obtain ⟨CB_law_row, CB_law_rows⟩ := okG_law_row (P := l.prog) (w := w) (base := base) T C_law_draw CB_law_throw C_law_term F8 m8 b8 F9 m9 b9 8
  have C_law_program := ok_law_program (P := l.prog) (w := w) (base := base) T C_law_names C_law_draw CB_law_rows CB_law_throw F10 m10 b10
  have C_law_chain := ok_law_chain (P := l.prog) (w := w) (base := base) T C_law_names C_law_draw C_law_throw F11 m11 b11
  have C_law_listed := ok_law_listed (P := l.prog) (w := w) (base := base) T  F12 m12 b12 6
  have C_law_names_in := ok_law_names_in (P := l.prog) (w := w) (base := base) T  F13 m13 b13 8
  have C_law_needed := ok_law_needed (P := l.prog) (w := w) (base := base) T C_law_listed C_law_names_in F14 m14 b14
  have C_blocks_in := ok_blocks_in (P := l.prog) (w := w) (base := base) T  F15 m15 b15
  have C_rows_within := ok_rows_within (P := l.prog) (w := w) (base := base) T C_blocks_in F16 m16 b16 6
  have C_rows_in := ok_rows_in (P := l.prog) (w := w) (base := base) T C_rows_within F17 m17 b17
  have C_names_of := ok_names_of (P := l.prog) (w := w) (base := base) T  F18 m18 b18 8
  have C_needed := ok_needed (P := l.prog) (w := w) (base := base) T C_rows_in C_names_of F19 m19 b19
  have C_is_idle := ok_is_idle (P := l.prog) (w := w) (base := base) T  F20 m20 b20
  have C_idle := ok_idle (P := l.prog) (w := w) (base := base) T C_needed C_rows_in C_is_idle F21 m21 b21
  have C_law_idle := ok_law_idle (P := l.prog) (w := w) (base := base) T  F22 m22 b22
  have C_law_right := ok_law_right (P := l.prog) (w := w) (base := base) T C_law_needed C_law_listed C_law_idle C_idle C_needed F23 m23 b23
  exact ok_law T C_law_program C_law_chain C_law_right F24 (ok_law_deal T F1) m1 F1.kp b1
end K36
open PySem PySem.W PyProof.Rows
set_option maxRecDepth 100000 in
set_option maxHeartbeats 0 in
theorem PySem.Challenge.cw_pairedthrows_k36_needed_and_idle_holds : PySem.Challenge.rw_pairedthrows_k36_needed_and_idle.Holds := by
  w_on; o_law; k_head; (case hw => w_witness2)
  k_fill
  refine Pq.walk_law (l := PySem.Challenge.rw_pairedthrows_k36_needed_and_idle) (k := 22) rfl rfl ⟨⟨rfl, by decide, by decide⟩, rfl⟩ (fun w h Y => PySem.W.kIn_of Y) ?F
  case F =>
    intro w mg fa h KX G hmg
    refine' K36.all_mk KX G hmg ?a1 ?l1 ?c1 ?k1 ?a2 ?l2 ?c2 ?k2 ?a3 ?l3 ?c3 ?k3 ?a4 ?l4 ?c4 ?k4 ?a5 ?l5 ?c5 ?k5 ?a6 ?l6 ?c6 ?k6 ?a7 ?l7 ?c7 ?k7 ?a8 ?l8 ?c8 ?k8 ?a9 ?l9 ?c9 ?k9 ?a10 ?l10 ?c10 ?k10 ?a11 ?l11 ?c11 ?k11 ?a12 ?l12 ?c12 ?k12 ?a13 ?l13 ?c13 ?k13 ?a14 ?l14 ?c14 ?k14 ?a15 ?l15 ?c15 ?k15 ?a16 ?l16 ?c16 ?k16 ?a17 ?l17 ?c17 ?k17 ?a18 ?l18 ?c18 ?k18 ?a19 ?l19 ?c19 ?k19 ?a20 ?l20 ?c20 ?k20 ?a21 ?l21 ?c21 ?k21 ?a22 ?l22 ?c22 ?k22 ?a23 ?l23 ?c23 ?k23 ?a24 ?l24 ?c24 ?k24 ?z0 ?z1 ?z2 ?z3 ?z4 ?z5 ?z6 ?z7 ?z8 ?z9 ?z10 ?z11 ?z12 ?z13 ?u0 ?v0
    (case a1 => k_is); (case l1 => k_is); (case c1 => k_is); (case k1 => k_is); (case a2 => k_is); (case l2 => k_is)
    (case c2 => k_is); (case k2 => k_is); (case a3 => k_is); (case l3 => k_is); (case c3 => k_is); (case k3 => k_is)
    (case a4 => k_is); (case l4 => k_is); (case c4 => k_is); (case k4 => k_is); (case a5 => k_is); (case l5 => k_is)
    (case c5 => k_is); (case k5 => k_is); (case a6 => k_is); (case l6 => k_is); (case c6 => k_is); (case k6 => k_is)
    (case a7 => k_is); (case l7 => k_is); (case c7 => k_is); (case k7 => k_is); (case a8 => k_is); (case l8 => k_is)
    (case c8 => k_is); (case k8 => k_is); (case a9 => k_is); (case l9 => k_is); (case c9 => k_is); (case k9 => k_is)
    (case a10 => k_is); (case l10 => k_is); (case c10 => k_is); (case k10 => k_is); (case a11 => k_is); (case l11 => k_is)
    (case c11 => k_is); (case k11 => k_is); (case a12 => k_is); (case l12 => k_is); (case c12 => k_is); (case k12 => k_is)
    (case a13 => k_is); (case l13 => k_is); (case c13 => k_is); (case k13 => k_is); (case a14 => k_is); (case l14 => k_is)
    (case c14 => k_is); (case k14 => k_is); (case a15 => k_is); (case l15 => k_is); (case c15 => k_is); (case k15 => k_is)
    (case a16 => k_is); (case l16 => k_is); (case c16 => k_is); (case k16 => k_is); (case a17 => k_is); (case l17 => k_is)
    (case c17 => k_is); (case k17 => k_is); (case a18 => k_is); (case l18 => k_is); (case c18 => k_is); (case k18 => k_is)
    (case a19 => k_is); (case l19 => k_is); (case c19 => k_is); (case k19 => k_is); (case a20 => k_is); (case l20 => k_is)
    (case c20 => k_is); (case k20 => k_is); (case a21 => k_is); (case l21 => k_is); (case c21 => k_is); (case k21 => k_is)
    (case a22 => k_is); (case l22 => k_is); (case c22 => k_is); (case k22 => k_is); (case a23 => k_is); (case l23 => k_is)
    (case c23 => k_is); (case k23 => k_is); (case a24 => k_is); (case l24 => k_is); (case c24 => k_is); (case k24 => k_is)
    (case z0 => k_is); (case z1 => k_is); (case z2 => k_is); (case z3 => k_is); (case z4 => k_is); (case z5 => k_is)
    (case z6 => k_is); (case z7 => k_is); (case z8 => k_is); (case z9 => k_is); (case z10 => k_is); (case z11 => k_is)
    (case z12 => k_is); (case z13 => k_is); (case u0 => k_is); (case v0 => k_is)

