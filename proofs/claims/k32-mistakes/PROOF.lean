import PyProof.Rows.All
import Wide.All
import OpenK.AllK
import Wide.FinOn
import HandS.ForMost
import HandS.Walk
import HandS.Slots
import HandS.Deep
import HandS.Lambda
import KE.KeyNested
import KE.KDictKeyed
import HandS.Star
import HandS.Wide
import HandS.TupAny
import HandS.TupMul
import HandS.IsInst
import HandS.SlotsOwn
import HandS.Conv
import KE.DataEq
import KE.DataFind
import KE.DataMinMax
import KE.GoesEnum
import HandS.Zip
import HandS.Style
import HandS.More
import HandS.IterVal
import HandS.OwnIter
import KE.DataMinKey
import KE.KMinKey
import KE.KDictZip
import KE.KDictList
import KE.KDictWalk
import PyProof.RulesMatch
import KE.SortData
import HandS.NestedK
import HandS.Remove
import HandS.DictComp
import KE.KStateDown
import Lean
import HandS.HeadHook4
import HandS.HeadWalk
import HandS.Head0
import HandS.Head1
import HandS.Head2
import PySem.Challenge.RW_asksame_k32_whole_mistakes
set_option Elab.async false
set_option linter.all false
set_option autoImplicit false
set_option maxRecDepth 100000
set_option maxHeartbeats 4000000
/-! E1: data, their places in the abstract heap, what an expression evaluates to as a function of data. -/
namespace EX
open PySem L2

/-! ### data -/
inductive D where
  | non | bl (b : Bool) | int (i : Int) | str (s : Str)
  | tup (xs : List D) | lst (xs : List D) | dct (kvs : List (D × D))
  | obj (C : Nat) (fs : List (Option D))
  | adr (a : Nat)
  | dki (kvs : List (Int × D))
instance : Inhabited D := ⟨.non⟩

/-- what stays through the whole law -/
structure Zc where
  P : Program
  w : World
  K : PySem.W.Frag
  T : List (Addr × Str)
  Cl : Nat → Addr
/-- the tables of code objects (of lambdas, of generator expressions) that the law's defs have; where the classes lie -/
class Tb where
  T : List (Addr × Str)
  Cl : Nat → Addr
abbrev zOf [Tb] (X : Cx) : Zc := ⟨X.prog, X.w, X.K, Tb.T, Tb.Cl⟩

/-- a dict's own object, whole -/
def DO (a : Addr) (o : Obj) : HO := .ext fun h => h.get? a = some o

/-- a key's number in its table -/
inductive KeyN where
  | int (i : Int) | str (s : Str) | tup (k : NestedKey)

mutual
def nkOf : D → Option NestedKey
  | .non => some .none
  | .bl b => some (.num (if b then 1 else 0))
  | .int i => some (.num i)
  | .str s => some (.text s)
  | .tup xs => (nkAll xs).map .tup
  | _ => none
def nkAll : List D → Option (List NestedKey)
  | [] => some []
  | x :: xs => do
    let k ← nkOf x
    let ks ← nkAll xs
    pure (k :: ks)
end
/-- the entries of a dict whose keys are tuples: key, its object, value -/
def EntsT : List (NestedKey × Addr × Value) → List (V × V) → List (D × D) → Prop
  | [], [], [] => True
  | x :: xs, p :: ps, q :: qs => (p.1 = .ref x.2.1 ∧ nkOf q.1 = some x.1 ∧ x.1.depth ≤ 8 ∧ (∃ ks, x.1 = .tup ks) ∧ RelV p.2 x.2.2) ∧ EntsT xs ps qs
  | _, _, _ => False
/-- a dict's object -/
inductive DObj (Z : Zc) (o : Obj) (kv : List (V × V)) (kvs : List (D × D)) : Prop where
  | tup {xs es ep} : o.ExactDict → o.data = .dict es ep → es.toList = xs.map (entryOfKey (nestedKind Z.P Z.w)) → EntsT xs kv kvs → (xs.map (·.1)).Nodup → kvs.length ≤ 100000 → DObj Z o kv kvs
theorem DObj.ex {Z : Zc} {o : Obj} {kv : List (V × V)} {kvs : List (D × D)} : DObj Z o kv kvs → o.ExactDict
  | .tup h _ _ _ _ _ => h

/-- a tuple that has no dict of its own -/
def TupN (K : PySem.W.Frag) (F : Hp) (a : Addr) (xs : List V) : Prop := (∃ o : Obj, F a = some (.frz o (.tup xs)) ∧ o.dict = none) ∨ (SqT K F a xs ∧ ∃ o : Obj, K.lookup a = some o ∧ o.dict = none)
theorem TupN.new {K : PySem.W.Frag} {F : Hp} {a : Addr} {xs : List V} {o : Obj} (h : o.dict = none) : TupN K (upd F a (.frz o (.tup xs))) a xs := .inl ⟨o, upd_same, h⟩
theorem TupN.sq {K : PySem.W.Frag} {F : Hp} {a : Addr} {xs : List V} (h : TupN K F a xs) : SqT K F a xs := by
  rcases h with ⟨o, h, _⟩ | ⟨h, _⟩
  · exact .inl (.inr ⟨o, h⟩)
  · exact h
mutual
inductive Is (Z : Zc) (F : Hp) : V → D → Prop
  | non : Is Z F .non .non
  | bl {b} : Is Z F (.bl b) (.bl b)
  | int {i} : Is Z F (.int i) (.int i)
  | str {s} : Is Z F (.str s) (.str s)
  | tup {a xs ds} : TupN Z.K F a xs → IsL Z F xs ds → Is Z F (.ref a) (.tup ds)
  | lst {a xs ds} : SqL Z.K F a xs → IsL Z F xs ds → Is Z F (.ref a) (.lst ds)
  | dct {a o kv kvs} : F a = some (DO a o) → DObj Z o kv kvs → IsP Z F kv kvs → (a == sysModules) = false → Is Z F (.ref a) (.dct kvs)
  | obj {a C dx vs fs} : SlX.Slt F a (Z.Cl C) dx vs → IsO Z F vs fs → Is Z F (.ref a) (.obj C fs)
  | adr {a} : Is Z F (.ref a) (.adr a)
  | dki {a kv kvs} : F a = some (.dK kv) → IsI Z F kv kvs → Is Z F (.ref a) (.dki kvs)
inductive IsI (Z : Zc) (F : Hp) : List (Key × V) → List (Int × D) → Prop
  | nil : IsI Z F [] []
  | cons {k v vs d ds} : Is Z F v d → IsI Z F vs ds → IsI Z F ((.inl k, v) :: vs) ((k, d) :: ds)
inductive IsL (Z : Zc) (F : Hp) : List V → List D → Prop
  | nil : IsL Z F [] []
  | cons {v vs d ds} : Is Z F v d → IsL Z F vs ds → IsL Z F (v :: vs) (d :: ds)
inductive IsP (Z : Zc) (F : Hp) : List (V × V) → List (D × D) → Prop
  | nil : IsP Z F [] []
  | cons {v vs d ds} : Is Z F v.1 d.1 → Is Z F v.2 d.2 → IsP Z F vs ds → IsP Z F (v :: vs) (d :: ds)
inductive IsO (Z : Zc) (F : Hp) : List (Option V) → List (Option D) → Prop
  | nil : IsO Z F [] []
  | none {vs ds} : IsO Z F vs ds → IsO Z F (none :: vs) (none :: ds)
  | some {v vs d ds} : Is Z F v d → IsO Z F vs ds → IsO Z F (some v :: vs) (some d :: ds)
end

variable {Z : Zc} {F F' F1 F2 H H' H1 H2 : Hp}
theorem same_rd (e : Same F F') {a : Addr} {u : HO} (h : Rd F a u) : Rd F' a u := by
  rcases h with h | ⟨o, h⟩
  · exact Or.inl (e a _ h)
  · exact Or.inr ⟨o, e a _ h⟩
theorem same_l {K : PySem.W.Frag} (e : Same F F') {a : Addr} {xs : List V} (h : SqL K F a xs) : SqL K F' a xs := by
  rcases h with h | h
  · exact Or.inl (same_rd e h)
  · exact Or.inr h
theorem same_t0 {K : PySem.W.Frag} (e : Same F F') {a : Addr} {xs : List V} (h : SqT K F a xs) : SqT K F' a xs := by
  rcases h with h | h
  · exact Or.inl (same_rd e h)
  · exact Or.inr h
theorem same_t {K : PySem.W.Frag} (e : Same F F') {a : Addr} {xs : List V} (h : TupN K F a xs) : SqT K F' a xs := same_t0 e h.sq
theorem same_tn {K : PySem.W.Frag} (e : Same F F') {a : Addr} {xs : List V} (h : TupN K F a xs) : TupN K F' a xs := by
  rcases h with ⟨o, h, d⟩ | ⟨h, d⟩
  · exact .inl ⟨o, e a _ h, d⟩
  · exact .inr ⟨same_t0 e h, d⟩
theorem same_sl (e : Same F F') {a C dx : Addr} {vs : List (Option V)} (h : SlX.Slt F a C dx vs) : SlX.Slt F' a C dx vs := by
  rcases h with ⟨h1, h2⟩ | ⟨h1, h2⟩
  · exact Or.inl ⟨e _ _ h1, h2⟩
  · exact Or.inr ⟨e _ _ h1, e _ _ h2⟩
mutual
theorem Is.mono (e : Same F F') : ∀ {v : V} {d : D}, Is Z F v d → Is Z F' v d
  | _, _, .non => .non
  | _, _, .bl => .bl
  | _, _, .int => .int
  | _, _, .str => .str
  | _, _, .tup h l => .tup (same_tn e h) (IsL.mono e l)
  | _, _, .lst h l => .lst (same_l e h) (IsL.mono e l)
  | _, _, .dct h o l n => .dct (e _ _ h) o (IsP.mono e l) n
  | _, _, .obj h l => .obj (same_sl e h) (IsO.mono e l)
  | _, _, .adr => .adr
  | _, _, .dki h l => .dki (e _ _ h) (IsI.mono e l)
theorem IsI.mono (e : Same F F') : ∀ {v : List (Key × V)} {d : List (Int × D)}, IsI Z F v d → IsI Z F' v d
  | _, _, .nil => .nil
  | _, _, .cons h l => .cons (Is.mono e h) (IsI.mono e l)
theorem IsL.mono (e : Same F F') : ∀ {v : List V} {d : List D}, IsL Z F v d → IsL Z F' v d
  | _, _, .nil => .nil
  | _, _, .cons h l => .cons (Is.mono e h) (IsL.mono e l)
theorem IsP.mono (e : Same F F') : ∀ {v : List (V × V)} {d : List (D × D)}, IsP Z F v d → IsP Z F' v d
  | _, _, .nil => .nil
  | _, _, .cons h g l => .cons (Is.mono e h) (Is.mono e g) (IsP.mono e l)
theorem IsO.mono (e : Same F F') : ∀ {v : List (Option V)} {d : List (Option D)}, IsO Z F v d → IsO Z F' v d
  | _, _, .nil => .nil
  | _, _, .none l => .none (IsO.mono e l)
  | _, _, .some h l => .some (Is.mono e h) (IsO.mono e l)
end
theorem IsL.length : ∀ {vs : List V} {ds : List D}, IsL Z F vs ds → vs.length = ds.length
  | _, _, .nil => rfl
  | _, _, .cons _ l => by simp [IsL.length l]
theorem IsL.get : ∀ {vs : List V} {ds : List D} {i : Nat} {d : D}, IsL Z F vs ds → ds[i]? = some d → ∃ v, vs[i]? = some v ∧ Is Z F v d
  | _, _, _, _, .nil, e => by simp at e
  | _, _, 0, _, .cons h _, e => by simp at e; subst e; exact ⟨_, rfl, h⟩
  | _, _, i + 1, _, .cons _ l, e => by
    obtain ⟨v, h1, h2⟩ := IsL.get (i := i) l (by simpa using e)
    exact ⟨v, by simpa using h1, h2⟩
theorem IsL.get' : ∀ {vs : List V} {ds : List D} {i : Nat} {v : V}, IsL Z F vs ds → vs[i]? = some v → ∃ d, ds[i]? = some d ∧ Is Z F v d
  | _, _, _, _, .nil, e => by simp at e
  | _, _, 0, _, .cons h _, e => by simp at e; subst e; exact ⟨_, rfl, h⟩
  | _, _, i + 1, _, .cons _ l, e => by
    obtain ⟨v, h1, h2⟩ := IsL.get' (i := i) l (by simpa using e)
    exact ⟨v, by simpa using h1, h2⟩
theorem IsL.append : ∀ {vs ws : List V} {ds es : List D}, IsL Z F vs ds → IsL Z F ws es → IsL Z F (vs ++ ws) (ds ++ es)
  | _, _, _, _, .nil, l => l
  | _, _, _, _, .cons h l, r => .cons h (IsL.append l r)
theorem IsL.drop : ∀ {vs : List V} {ds : List D} (n : Nat), IsL Z F vs ds → IsL Z F (vs.drop n) (ds.drop n)
  | _, _, 0, l => l
  | _, _, _ + 1, .nil => .nil
  | _, _, n + 1, .cons _ l => IsL.drop n l
theorem IsL.take : ∀ {vs : List V} {ds : List D} (n : Nat), IsL Z F vs ds → IsL Z F (vs.take n) (ds.take n)
  | _, _, 0, _ => .nil
  | _, _, _ + 1, .nil => .nil
  | _, _, n + 1, .cons h l => .cons h (IsL.take n l)
theorem IsL.ints : ∀ {vs : List V} {ns : List Int}, IsL Z F vs (ns.map D.int) → vs = ns.map V.int
  | _, [], .nil => rfl
  | _, _ :: _, .cons .int l => by rw [IsL.ints l]; rfl
theorem IsL.of_ints : ∀ (ns : List Int), IsL Z F (ns.map V.int) (ns.map D.int)
  | [] => .nil
  | _ :: ns => .cons .int (IsL.of_ints ns)
theorem IsL.set : ∀ {vs : List V} {ds : List D} (i : Nat) {v : V} {d : D}, Is Z F v d → IsL Z F vs ds → IsL Z F (vs.set i v) (ds.set i d)
  | _, _, _, _, _, _, .nil => .nil
  | _, _, 0, _, _, h, .cons _ l => .cons h l
  | _, _, i + 1, _, _, h, .cons g l => .cons g (IsL.set i h l)
theorem IsL.eraseIdx : ∀ {vs : List V} {ds : List D} (i : Nat), IsL Z F vs ds → IsL Z F (vs.eraseIdx i) (ds.eraseIdx i)
  | _, _, _, .nil => .nil
  | _, _, 0, .cons _ l => l
  | _, _, i + 1, .cons g l => .cons g (IsL.eraseIdx i l)
theorem IsL.reverse {vs : List V} {ds : List D} (h : IsL Z F vs ds) : IsL Z F vs.reverse ds.reverse := by
  induction vs generalizing ds with
  | nil => cases h; exact .nil
  | cons v vs ih =>
    cases h with
    | cons h l => rw [List.reverse_cons, List.reverse_cons]; exact (ih l).append (.cons h .nil)

/-! ### growth: what is frozen (F, within the heap H) and the heap grow by new objects alone (and the tables of code objects) -/
structure Ok (Z : Zc) (F H : Hp) : Prop where
  s : Same F H
  n : ∀ a ps, F a ≠ some (.tbl ps)
  t : LamX.Tabs Z.T H
structure Grow (Z : Zc) (F H F' H' : Hp) : Prop where
  f : Same F F'
  ok : Ok Z F' H'
  h : LamX.ExtN H H'
  u : ∀ a, H a ≠ none → H' a ≠ none
  o : ∀ a, H a ≠ none → F' a = F a
theorem Grow.refl (s : Ok Z F H) : Grow Z F H F H := ⟨Same.refl F, s, LamX.ExtN.refl H, fun _ h => h, fun _ _ => rfl⟩
theorem some_of_ne {H : Hp} {a : Addr} (h : H a ≠ none) : ∃ o, H a = some o := by
  cases e : H a with
  | none => exact absurd e h
  | some o => exact ⟨o, rfl⟩
theorem ne_some {H : Hp} {a : Addr} {o : HO} (h : H a = some o) : H a ≠ none := by
  rw [h]
  exact fun z => nomatch z
theorem Grow.trans (a : Grow Z F H F1 H1) (b : Grow Z F1 H1 F2 H2) : Grow Z F H F2 H2 :=
  ⟨a.f.trans b.f, b.ok, a.h.trans b.h, fun x hx => b.u x (a.u x hx), fun x hx => (b.o x (a.u x hx)).trans (a.o x hx)⟩
theorem Grow.free (g : Grow Z F H F' H') {p : Addr} (h : H' p = none) : H p = none := by
  cases e : H p with
  | none => rfl
  | some o => exact absurd h (g.u p (ne_some e))
theorem Ok.none_of (e : Ok Z F H) {p : Addr} (h : H p = none) : F p = none := e.s.free h
theorem same_new {H : Hp} {p : Addr} {o : HO} (n : H p = none) : Same H (upd H p o) := fun a u e => by
  rw [upd_ne (ne_of_none e n)]
  exact e
theorem tabs_same {T : List (Addr × Str)} (t : LamX.Tabs T H) (e : Same H H') : LamX.Tabs T H' := t.ext e
/-- a new object that is frozen at once -/
theorem Grow.new {p : Addr} {o : HO} (s : Ok Z F H) (n : H p = none) (ht : ∀ ps, o ≠ .tbl ps) : Grow Z F H (upd F p o) (upd H p o) where
  f := same_new (s.none_of n)
  ok := ⟨fun a u e => by
    by_cases h : a = p
    · subst h; rw [upd_same] at e; rw [upd_same]; exact e
    · rw [upd_ne h] at e; rw [upd_ne h]; exact s.s a u e, fun a ps e => by
    by_cases h : a = p
    · subst h; rw [upd_same] at e; exact ht ps (Option.some.inj e)
    · rw [upd_ne h] at e; exact s.n a ps e, tabs_same s.t (same_new n)⟩
  h := LamX.ExtN.of (same_new n)
  u := fun a h => by
    obtain ⟨u, q⟩ := some_of_ne h
    exact ne_some (same_new n a u q)
  o := fun a h => upd_ne fun z => h (by rw [z]; exact n)
/-- a new object that is not frozen -/
theorem Grow.made {p : Addr} {o : HO} (s : Ok Z F H) (n : H p = none) : Grow Z F H F (upd H p o) where
  f := Same.refl F
  ok := ⟨s.s.trans (same_new n), s.n, tabs_same s.t (same_new n)⟩
  h := LamX.ExtN.of (same_new n)
  u := fun a h => by
    obtain ⟨u, q⟩ := some_of_ne h
    exact ne_some (same_new n a u q)
  o := fun _ _ => rfl
/-- freezing what is new since -/
theorem Grow.freeze {p : Addr} {o : HO} (g : Grow Z F H F' H') (n : H p = none) (e : H' p = some o) (nf : F' p = none) (ht : ∀ ps, o ≠ .tbl ps) : Grow Z F H (upd F' p o) H' where
  f := g.f.trans (same_new nf)
  ok := ⟨fun a u q => by
    by_cases h : a = p
    · subst h; rw [upd_same] at q; cases q; exact e
    · rw [upd_ne h] at q; exact g.ok.s a u q, fun a ps q => by
    by_cases h : a = p
    · subst h; rw [upd_same] at q; exact ht ps (Option.some.inj q)
    · rw [upd_ne h] at q; exact g.ok.n a ps q, g.ok.t⟩
  h := g.h
  u := g.u
  o := fun a h => by rw [upd_ne fun z => h (by rw [z]; exact n)]; exact g.o a h
theorem lst_nt {xs : List V} (ps : Array Value) : HO.lst xs ≠ .tbl ps := fun z => nomatch z
theorem tup_nt {o : Obj} {xs : List V} (ps : Array Value) : HO.frz o (.tup xs) ≠ .tbl ps := fun z => nomatch z

/-! ### environments of data -/
abbrev Env := List (Option D)
structure Fit (Z : Zc) (F : Hp) (env : Env) (σ : L2.St) : Prop where
  len : env.length = σ.length
  at_ : ∀ (i : Nat) (d : D), env[i]? = some (some d) → ∃ v, σ[i]? = some (some v) ∧ Is Z F v d
theorem Fit.mono {env : Env} {σ : L2.St} (e : Same F F') (h : Fit Z F env σ) : Fit Z F' env σ :=
  ⟨h.len, fun i d q => let ⟨v, a, b⟩ := h.at_ i d q; ⟨v, a, b.mono e⟩⟩
theorem Fit.set {env : Env} {σ : L2.St} {i : Nat} {v : V} {d : D} (h : Fit Z F env σ) (r : Is Z F v d) : Fit Z F (env.set i (some d)) (σ.set i (some v)) := by
  refine ⟨by simp [h.len], fun j e q => ?_⟩
  by_cases hj : i = j
  · subst hj
    by_cases hl : i < env.length
    · rw [List.getElem?_set_self hl] at q
      cases q
      exact ⟨v, by rw [List.getElem?_set_self (by rw [← h.len]; exact hl)], r⟩
    · rw [List.getElem?_eq_none (by simpa using hl)] at q
      cases q
  · rw [List.getElem?_set_ne hj] at q
    rw [List.getElem?_set_ne hj]
    exact h.at_ j e q
def wipeE (env : Env) : List Nat → Env
  | [] => env
  | v :: vs => (wipeE env vs).set v none
theorem Fit.wipe {env : Env} {σ : L2.St} (h : Fit Z F env σ) : ∀ vs, Fit Z F (wipeE env vs) (wipe σ vs)
  | [] => h
  | v :: vs => by
    have q := h.wipe vs
    refine ⟨by simp [wipeE, L2.wipe, q.len], fun j e x => ?_⟩
    unfold wipeE at x
    unfold L2.wipe
    by_cases hj : v = j
    · subst hj
      by_cases hl : v < (wipeE env vs).length
      · rw [List.getElem?_set_self hl] at x; cases x
      · rw [List.getElem?_eq_none (by simpa using hl)] at x; cases x
    · rw [List.getElem?_set_ne hj] at x
      rw [List.getElem?_set_ne hj]
      exact q.at_ j e x

/-! ### what evaluates to what -/
def Evl (Z : Zc) (t : TE) (m : Env → Option D) : Prop := ∀ env σ H F (Q : VK) d, Fit Z F env σ → Ok Z F H → m env = some d →
  (∀ v H' F', Grow Z F H F' H' → Is Z F' v d → Q v H') → t σ H Q
/-- a new list -/
def EvF (Z : Zc) (t : TE) (m : Env → Option (List D)) : Prop := ∀ env σ H F (Q : VK) ds, Fit Z F env σ → Ok Z F H → m env = some ds →
  (∀ p vs H' F', Grow Z F H F' H' → F' p = none → H p = none → H' p = some (.lst vs) → IsL Z F' vs ds → Q (.ref p) H') → t σ H Q
def EvT (Z : Zc) (t : TT) (m : Env → Option Bool) : Prop := ∀ env σ H F (Q : Bool → Hp → Prop) b, Fit Z F env σ → Ok Z F H → m env = some b →
  (∀ H' F', Grow Z F H F' H' → Q b H') → t σ H Q
def EvA (Z : Zc) (t : TA) (m : Env → Option (List D)) : Prop := ∀ env σ H F (Q : List V → Hp → Prop) ds, Fit Z F env σ → Ok Z F H → m env = some ds →
  (∀ vs H' F', Grow Z F H F' H' → IsL Z F' vs ds → Q vs H') → t σ H Q
/-- what a walk gives: the data, one after the other -/
structure Wk (Z : Zc) (J : It) (F : Hp) (ds : List D) : Prop where
  ex : ∃ (G : Hp → Prop) (Y : Nat → Hp → V → Hp → Prop), Walk J ds.length G Y ∧ (∀ H2, Same F H2 → G H2) ∧
    ∀ i Hc x Hn Fc, i < ds.length → Same F Fc → Ok Z Fc Hc → Y i Hc x Hn → ∃ F2 d, Grow Z Fc Hc F2 Hn ∧ ds[i]? = some d ∧ Is Z F2 x d
theorem Wk.mono {J : It} {ds : List D} (h : Wk Z J F ds) (e : Same F F') : Wk Z J F' ds := by
  obtain ⟨G, Y, w, g, y⟩ := h.ex
  exact ⟨G, Y, w, fun H2 q => g H2 (e.trans q), fun i Hc x Hn Fc hi s1 s2 q => y i Hc x Hn Fc hi (e.trans s1) s2 q⟩
def EvI (Z : Zc) (t : TI) (m : Env → Option (List D)) : Prop := ∀ env σ H F (R : It → Hp → Prop) ds, Fit Z F env σ → Ok Z F H → m env = some ds →
  (∀ J H' F', Grow Z F H F' H' → Wk Z J F' ds → R J H') → t σ H R

section
variable [Tb]
structure EX (X : Cx) (e : Expr) (t : TE) (m : Env → Option D) : Prop where
  pe : PE X e t
  ev : Evl (zOf X) t m
structure EXF (X : Cx) (e : Expr) (t : TE) (m : Env → Option (List D)) : Prop where
  pe : PE X e t
  ev : EvF (zOf X) t m
structure ET (X : Cx) (e : Expr) (t : TT) (m : Env → Option Bool) : Prop where
  pt : PT X e t
  ev : EvT (zOf X) t m
/-- a chain of and, or (whatever its whole is) -/
structure EW (X : Cx) (e : Expr) (t : TT) (m : Env → Option Bool) : Prop where
  pw : PW X e t
  ev : EvT (zOf X) t m
structure EA (X : Cx) (es : List Expr) (t : TA) (m : Env → Option (List D)) : Prop where
  pa : PA X es t
  ev : EvA (zOf X) t m
structure EI (X : Cx) (tg iter : Expr) (t : TI) (m : Env → Option (List D)) : Prop where
  pi : PI X tg iter t
  ev : EvI (zOf X) t m
theorem EW.et {X : Cx} {e : Expr} {t : TT} {m : Env → Option Bool} (h : EW X e t m) : ET X e t m := ⟨h.pw.pt, h.ev⟩
theorem EvF.ev {t : TE} {m : Env → Option (List D)} (h : EvF Z t m) : Evl Z t (fun env => (m env).map D.lst) := fun env σ H F Q d f s e k => by
  obtain ⟨ds, e1, rfl⟩ := Option.map_eq_some_iff.mp e
  exact h env σ H F Q ds f s e1 fun p vs H' F' g nf n hp l => k _ _ _ (g.freeze n hp nf lst_nt) (.lst (.of upd_same) (l.mono fun a u q => by rw [upd_ne (ne_of_none q nf)]; exact q))
theorem EXF.ex {X : Cx} {e : Expr} {t : TE} {m : Env → Option (List D)} (h : EXF X e t m) : EX X e t (fun env => (m env).map D.lst) := ⟨h.pe, h.ev.ev⟩

end

/-! ### the parts -/
section
variable [Tb] {X : Cx}
def mVar (i : Nat) : Env → Option D := fun env => (env[i]?).join
theorem ev_var {i : Nat} : Evl Z (tVar i) (mVar i) := fun env σ H F Q d f s e k => by
  have q : env[i]? = some (some d) := by
    unfold mVar at e
    cases h : env[i]? with
    | none => rw [h] at e; cases e
    | some o => rw [h] at e; cases o with
      | none => cases e
      | some y => cases e; rfl
  obtain ⟨v, h1, h2⟩ := f.at_ i d q
  exact ⟨v, h1, k v H F (Grow.refl s) h2⟩
theorem ev_c {v : V} {d : D} (h : ∀ F, Is Z F v d) : Evl Z (tC v) (fun _ => some d) := fun env σ H F Q d' f s e k => by
  cases e
  exact k v H F (Grow.refl s) (h F)
theorem x_var (i : Nat) {x : Str} {pos : Pos} (hN : X.N[i]? = some x := by rfl) (hv : Vis X.env.scope x := by first | exact Or.inl rfl | exact Or.inr (Or.inl rfl) | exact Or.inr (Or.inr rfl)) (hd : (x == ("__debug__" : Str)) = false := by decide)
    (hcd : (x == ("__classdict__" : Str)) = false := by decide) : EX X (.Name x pos) (tVar i) (mVar i) := ⟨pe_var hN hv hd hcd, ev_var⟩
theorem x_int {i : Int} {j pos} : EX X (.Constant (.int i) j pos) (tC (.int i)) (fun _ => some (.int i)) := ⟨pe_int, ev_c fun _ => .int⟩
theorem x_bl {b : Bool} {j pos} : EX X (.Constant (.bool b) j pos) (tC (.bl b)) (fun _ => some (.bl b)) := ⟨pe_bl, ev_c fun _ => .bl⟩
theorem x_non {j pos} : EX X (.Constant .none j pos) (tC .non) (fun _ => some .non) := ⟨pe_non, ev_c fun _ => .non⟩
theorem x_str {x : Str} {j pos} : EX X (.Constant (.str x) j pos) (tC (.str x)) (fun _ => some (.str x)) := ⟨pe_str, ev_c fun _ => .str⟩

/-! arguments -/
theorem a_nil : EA X [] tNil (fun _ => some []) := ⟨pa_nil, fun env σ H F Q ds f s e k => by cases e; exact k [] H F (Grow.refl s) .nil⟩
end
end EX
set_option Elab.async false
set_option linter.all false
set_option autoImplicit false
set_option maxRecDepth 100000
set_option maxHeartbeats 4000000
/-! E2: displays, operators, tests, calls, comprehensions. -/
namespace EX
open PySem L2
variable [Tb] {Z : Zc} {F F' F1 F2 H H' H1 H2 : Hp} {X : Cx} {ta tb tc te : TE} {ma mb mc me : Env → Option D} {t : TA} {ms : Env → Option (List D)} {pos : Pos} {e a b c : Expr} {es : List Expr}

/-! ### arguments and displays -/
def mCons (ma : Env → Option D) (ms : Env → Option (List D)) : Env → Option (List D) := fun env => do
  let d ← ma env
  let ds ← ms env
  pure (d :: ds)
theorem evA_cons (h : Evl Z ta ma) (hr : EvA Z t ms) : EvA Z (tCons ta t) (mCons ma ms) := fun env σ H F Q ds f s e k => by
  unfold mCons at e
  simp only [Option.bind_eq_bind, Option.bind_eq_some_iff, Option.pure_def, Option.some.injEq] at e
  obtain ⟨d, e1, es, e2, rfl⟩ := e
  refine h env σ H F _ d f s e1 fun v H1 F1 g1 r1 => ?_
  exact hr env σ H1 F1 _ es (f.mono g1.f) g1.ok e2 fun vs H2 F2 g2 r2 => k _ H2 F2 (g1.trans g2) (.cons (r1.mono g2.f) r2)
theorem a_cons (h : EX X e ta ma) (hr : EA X es t ms) (hs : starEach (e :: es) X.env = (false, eval e X.env) :: starEach es X.env := by rfl) : EA X (e :: es) (tCons ta t) (mCons ma ms) := ⟨pa_cons h.pe hr.pa hs, evA_cons h.ev hr.ev⟩
def seqOf : D → Option (List D)
  | .lst ds => some ds
  | .tup ds => some ds
  | _ => none
def mStar (ma : Env → Option D) (ms : Env → Option (List D)) : Env → Option (List D) := fun env => do
  let d ← ma env
  let xs ← seqOf d
  let ds ← ms env
  pure (xs ++ ds)
theorem evA_star (h : Evl Z ta ma) (hr : EvA Z t ms) : EvA Z (StX.tStar Z.K ta t) (mStar ma ms) := fun env σ H F Q ds f s e k => by
  unfold mStar at e
  simp only [Option.bind_eq_bind, Option.bind_eq_some_iff, Option.pure_def, Option.some.injEq] at e
  obtain ⟨d, e1, xs, e2, es, e3, rfl⟩ := e
  refine h env σ H F _ d f s e1 fun v H1 F1 g1 r1 => ?_
  cases r1 with
  | @tup p vs ds h1 h2 =>
    cases e2
    refine ⟨p, vs, rfl, .inl (same_t g1.ok.s h1), ?_⟩
    exact hr env σ H1 F1 _ es (f.mono g1.f) g1.ok e3 fun ws H2 F2 g2 r2 => k _ H2 F2 (g1.trans g2) ((h2.mono g2.f).append r2)
  | @lst p vs ds h1 h2 =>
    cases e2
    refine ⟨p, vs, rfl, .inr (same_l g1.ok.s h1), ?_⟩
    exact hr env σ H1 F1 _ es (f.mono g1.f) g1.ok e3 fun ws H2 F2 g2 r2 => k _ H2 F2 (g1.trans g2) ((h2.mono g2.f).append r2)
  | _ => cases e2
theorem a_star {p : Pos} (h : EX X e ta ma) (hr : EA X es t ms) (hs : starEach (.Starred e p :: es) X.env = (true, eval e X.env) :: starEach es X.env := by rfl) : EA X (.Starred e p :: es) (StX.tStar X.K ta t) (mStar ma ms) := ⟨StX.pa_star h.pe hr.pa hs, evA_star (Z := zOf X) h.ev hr.ev⟩
def small (ds : List D) : Bool := decide (ds.length ≤ 100000)
theorem small_line {ds : List D} {n : Nat} (h : small ds = true) (e : n = ds.length) : n ≤ sizeLine := by
  have q : ds.length ≤ 100000 := of_decide_eq_true h
  rw [sizeLine_eq]
  omega
def mTup (ms : Env → Option (List D)) : Env → Option D := fun env => (ms env).bind fun ds => if small ds = true then some (.tup ds) else none
def mLst (ms : Env → Option (List D)) : Env → Option (List D) := fun env => (ms env).bind fun ds => if small ds = true then some ds else none
theorem ite_some {α : Type} {c : Bool} {x y : α} (h : (if c = true then some x else none) = some y) : c = true ∧ x = y := by
  cases c with
  | true => exact ⟨rfl, by simpa using h⟩
  | false => simp at h
def tTupF (t : TA) : TE := fun σ H Q => t σ H fun xs H1 => xs.length ≤ sizeLine ∧ ∀ (p : Addr) (o : Obj), H1 p = none → o.dict = none → Q (.ref p) (upd H1 p (.frz o (.tup xs)))
/-- a new tuple's object, as it is laid -/
theorem tup_ok {P : Program} {w : World} {H : Hp} {h : Heap} {a : Addr} {xs : List V} {its : List Value} {o : Obj} (hz : xs.length ≤ sizeLine) (r : Vals xs its) (e : h.get? a = some o) (hc : o.cls = .type "tuple") (hd : ∃ n, o.data = .seq its.toArray n) : ObjOk P w H h a (.frz o (.tup xs)) := ⟨e, hz, its, r, o, e, hc, hd⟩
theorem pe_tupF {x1} (h : PA X es t) : PE X (.Tuple es x1 pos) (tTupF t) := ⟨fun pins s σ H Q I hq => wpAny_Tuple_spliced (thn (h.run pos pins s σ H _ I hq) fun us s1 ⟨xs, H1, I1, r, z, q⟩ => ⟨by rw [← r.length]; exact z,
  .ref s1.heap.objs.size, _, I1.laid (t' := s1.toks) (fun b u e => Heap.get?_push_of_some _ e) (Nat.le_refl _) (tup_ok z r (Heap.get?_push_size _ rfl) rfl ⟨_, rfl⟩), rfl, q _ _ (I1.hok.fresh (Nat.le_refl _)) rfl⟩)⟩
theorem ev_tup (h : EvA Z t ms) : Evl Z (tTupF t) (mTup ms) := fun env σ H F Q d f s e k => by
  obtain ⟨ds, e1, e2⟩ := Option.bind_eq_some_iff.mp e
  obtain ⟨hz, rfl⟩ := ite_some e2
  refine h env σ H F _ ds f s e1 fun vs H1 F1 g1 r1 => ⟨small_line hz r1.length, fun p o hp hd => ?_⟩
  exact k _ _ _ (g1.trans (Grow.new g1.ok hp tup_nt)) (.tup (.new hd) (r1.mono (Grow.new g1.ok hp (tup_nt (o := o))).f))
theorem x_tup {x1} (h : EA X es t ms) : EX X (.Tuple es x1 pos) (tTupF t) (mTup ms) := ⟨pe_tupF h.pa, ev_tup h.ev⟩
theorem ev_lst (h : EvA Z t ms) : EvF Z (tLst t) (mLst ms) := fun env σ H F Q d f s e k => by
  obtain ⟨ds, e1, e2⟩ := Option.bind_eq_some_iff.mp e
  obtain ⟨hz, rfl⟩ := ite_some e2
  refine h env σ H F _ ds f s e1 fun vs H1 F1 g1 r1 => ⟨small_line hz r1.length, fun p hp => ?_⟩
  exact k p vs _ F1 (g1.trans (Grow.made g1.ok hp)) (g1.ok.none_of hp) (g1.free hp) upd_same r1
theorem x_lst (h : EA X es t ms) : EXF X (.List es pos) (tLst t) (mLst ms) := ⟨pe_lst h.pa, ev_lst h.ev⟩

/-! ### two-place operations by values -/
def EvR (Z : Zc) (r : R2) (g : D → D → Option D) : Prop := ∀ x y H F (Q : VK) dx dy d, Is Z F x dx → Is Z F y dy → Ok Z F H → g dx dy = some d →
  (∀ v H' F', Grow Z F H F' H' → Is Z F' v d → Q v H') → r x y H Q
theorem ev_op {r : R2} {g : D → D → Option D} (hr : EvR Z r g) (ha : Evl Z ta ma) (hb : Evl Z tb mb) : Evl Z (tOp r ta tb) (fun env => do let x ← ma env; let y ← mb env; g x y) := fun env σ H F Q d f s e k => by
  simp only [Option.bind_eq_bind, Option.bind_eq_some_iff] at e
  obtain ⟨x, e1, y, e2, e3⟩ := e
  refine ha env σ H F _ x f s e1 fun v H1 F1 g1 r1 => ?_
  refine hb env σ H1 F1 _ y (f.mono g1.f) g1.ok e2 fun w H2 F2 g2 r2 => ?_
  exact hr v w H2 F2 Q x y d (r1.mono g2.f) r2 g2.ok e3 fun z H3 F3 g3 r3 => k z H3 F3 ((g1.trans g2).trans g3) r3
def mOp (g : D → D → Option D) (ma mb : Env → Option D) : Env → Option D := fun env => do let x ← ma env; let y ← mb env; g x y
structure OpD (X : Cx) (f : Value → Value → Sem Value) (r : R2) (g : D → D → Option D) : Prop where
  op : OpR X f r
  ev : EvR (zOf X) r g
theorem x_op {op : Operator} {r : R2} {g : D → D → Option D} (ho : OpD X (binaryOp op) r g) (ha : EX X a ta ma) (hb : EX X b tb mb) : EX X (.BinOp a op b pos) (tOp r ta tb) (mOp g ma mb) := ⟨pe_op ho.op ha.pe hb.pe, ev_op ho.ev ha.ev hb.ev⟩
theorem x_cmp {op : CmpOp} {r : R2} {g : D → D → Option D} (ho : OpD X (compareOp op) r g) (ha : EX X a ta ma) (hb : EX X b tb mb) (hm : behindInMarks op b = false := by first | exact nomark _ | rfl) : EX X (.Compare a [op] [b] pos) (tOp r ta tb) (mOp g ma mb) :=
  ⟨pe_cmpR ho.op ha.pe hb.pe hm, ev_op ho.ev ha.ev hb.ev⟩
def dI2 (g : Int → Int → D) : D → D → Option D
  | .int i, .int j => some (g i j)
  | _, _ => none
theorem evR_I0 {g : Int → Int → V} {g' : Int → Int → D} (h : ∀ i j F, Is Z F (g i j) (g' i j)) : EvR Z (rI0 g) (dI2 g') := fun x y H F Q dx dy d hx hy s e k => by
  unfold dI2 at e
  split at e
  · cases e
    cases hx
    cases hy
    exact ⟨_, _, rfl, rfl, k _ H F (Grow.refl s) (h _ _ F)⟩
  · cases e
theorem od_sub : OpD X (binaryOp .Sub) (rI0 fun i j => .int (i - j)) (dI2 fun i j => .int (i - j)) := ⟨op_sub, evR_I0 fun _ _ _ => .int⟩
theorem od_lt : OpD X (compareOp .Lt) (rI0 fun i j => .bl (decide (i < j))) (dI2 fun i j => .bl (decide (i < j))) := ⟨op_lt, evR_I0 fun _ _ _ => .bl⟩
theorem od_le : OpD X (compareOp .LtE) (rI0 fun i j => .bl (decide (i ≤ j))) (dI2 fun i j => .bl (decide (i ≤ j))) := ⟨op_le, evR_I0 fun _ _ _ => .bl⟩
theorem od_gt : OpD X (compareOp .Gt) (rI0 fun i j => .bl (decide (j < i))) (dI2 fun i j => .bl (decide (j < i))) := ⟨op_gt, evR_I0 fun _ _ _ => .bl⟩
theorem od_ge : OpD X (compareOp .GtE) (rI0 fun i j => .bl (decide (j ≤ i))) (dI2 fun i j => .bl (decide (j ≤ i))) := ⟨op_ge, evR_I0 fun _ _ _ => .bl⟩
end EX
set_option Elab.async false
set_option linter.all false
set_option autoImplicit false
set_option maxRecDepth 100000
set_option maxHeartbeats 4000000
/-! E3: tests, what is walked, comprehensions, statements. -/
namespace EX
open PySem L2
variable [Tb] {Z : Zc} {F F' F1 F2 H H' H1 H2 : Hp} {X : Cx} {ta tb tc te : TE} {ma mb mc me : Env → Option D} {t : TA} {ms : Env → Option (List D)} {pos : Pos} {e a b c : Expr} {es rest : List Expr}
  {qa qb qc : TT} {na nb nc : Env → Option Bool}

/-! ### tests -/
def dBool : D → Option Bool
  | .bl b => some b
  | _ => none
def nVal (ma : Env → Option D) : Env → Option Bool := fun env => (ma env).bind dBool
theorem evT_val (h : Evl Z ta ma) : EvT Z (tB ta) (nVal ma) := fun env σ H F Q d f s e k => by
  obtain ⟨x, e1, e2⟩ := Option.bind_eq_some_iff.mp e
  refine h env σ H F _ x f s e1 fun v H1 F1 g1 r1 => ?_
  cases r1 with
  | bl => cases e2; exact ⟨_, rfl, k _ _ g1⟩
  | _ => cases e2
/-- an expression that gives True or False, as a test -/
theorem t_val (h : EX X e te me) (he : ∀ whole, isTrue e X.env whole = (do let v ← whole; standAt e.pos; holding [v] (truthy v)) := by intro _; rfl) : ET X e (tB te) (nVal me) := ⟨pt_val h.pe he, evT_val h.ev⟩
def dTru : D → Option Bool
  | .non => some false
  | .bl b => some b
  | .int i => some (i != 0)
  | .lst ds => some (!ds.isEmpty)
  | .tup ds => some (!ds.isEmpty)
  | _ => none
def nAnd (na nb : Env → Option Bool) : Env → Option Bool := fun env => (na env).bind fun x => if x = true then nb env else some false
def nOr (na nb : Env → Option Bool) : Env → Option Bool := fun env => (na env).bind fun x => if x = true then some true else nb env
def nNot (na : Env → Option Bool) : Env → Option Bool := fun env => (na env).map (!·)
theorem evT_and (h1 : EvT Z qa na) (h2 : EvT Z qb nb) : EvT Z (tAnd qa qb) (nAnd na nb) := fun env σ H F Q d f s e k => by
  obtain ⟨x, e1, e2⟩ := Option.bind_eq_some_iff.mp e
  refine h1 env σ H F _ x f s e1 fun H1 F1 g1 => ?_
  cases x with
  | true =>
    show qb σ H1 Q
    exact h2 env σ H1 F1 Q d (f.mono g1.f) g1.ok (by simpa using e2) fun H2 F2 g2 => k H2 F2 (g1.trans g2)
  | false =>
    show Q false H1
    have e3 : d = false := by simpa using e2.symm
    rw [e3] at k
    exact k H1 F1 g1
theorem evT_or (h1 : EvT Z qa na) (h2 : EvT Z qb nb) : EvT Z (tOr qa qb) (nOr na nb) := fun env σ H F Q d f s e k => by
  obtain ⟨x, e1, e2⟩ := Option.bind_eq_some_iff.mp e
  refine h1 env σ H F _ x f s e1 fun H1 F1 g1 => ?_
  cases x with
  | false =>
    show qb σ H1 Q
    exact h2 env σ H1 F1 Q d (f.mono g1.f) g1.ok (by simpa using e2) fun H2 F2 g2 => k H2 F2 (g1.trans g2)
  | true =>
    show Q true H1
    have e3 : d = true := by simpa using e2.symm
    rw [e3] at k
    exact k H1 F1 g1
theorem evT_not (h1 : EvT Z qa na) : EvT Z (tNot qa) (nNot na) := fun env σ H F Q d f s e k => by
  obtain ⟨x, e1, rfl⟩ := Option.map_eq_some_iff.mp e
  exact h1 env σ H F _ x f s e1 fun H1 F1 g1 => k H1 F1 g1
theorem w_and (ha : ET X a qa na) (hb : EW X (.BoolOp .And (b :: rest) pos) qb nb) : EW X (.BoolOp .And (a :: b :: rest) pos) (tAnd qa qb) (nAnd na nb) := ⟨pw_and ha.pt hb.pw, evT_and ha.ev hb.ev⟩
theorem w_and1 (ha : ET X a qa na) : EW X (.BoolOp .And [a] pos) qa na := ⟨pw_and1 ha.pt, ha.ev⟩
theorem w_or (ha : ET X a qa na) (hb : EW X (.BoolOp .Or (b :: rest) pos) qb nb) : EW X (.BoolOp .Or (a :: b :: rest) pos) (tOr qa qb) (nOr na nb) := ⟨pw_or ha.pt hb.pw, evT_or ha.ev hb.ev⟩
theorem w_or1 (ha : ET X a qa na) : EW X (.BoolOp .Or [a] pos) qa na := ⟨pw_or1 ha.pt, ha.ev⟩
theorem t_not (ha : ET X a qa na) : ET X (.UnaryOp .Not a pos) (tNot qa) (nNot na) := ⟨pt_not ha.pt, evT_not ha.ev⟩
/-- and, or, not as values (of True and False) -/
def mAnd (ma mb : Env → Option D) : Env → Option D := fun env => (ma env).bind fun x => (dBool x).bind fun c => if c = true then mb env else some (.bl false)
def mOr (ma mb : Env → Option D) : Env → Option D := fun env => (ma env).bind fun x => (dBool x).bind fun c => if c = true then some (.bl true) else mb env
def mNot (ma : Env → Option D) : Env → Option D := fun env => (ma env).bind fun x => (dBool x).map fun c => .bl (!c)
theorem ev_and (h1 : Evl Z ta ma) (h2 : Evl Z tb mb) : Evl Z (tAndV ta tb) (mAnd ma mb) := fun env σ H F Q d f s e k => by
  obtain ⟨x, e1, e2⟩ := Option.bind_eq_some_iff.mp e
  obtain ⟨c, e3, e4⟩ := Option.bind_eq_some_iff.mp e2
  refine h1 env σ H F _ x f s e1 fun v H1 F1 g1 r1 => ?_
  cases r1 with
  | bl =>
    cases e3
    refine ⟨c, rfl, ?_⟩
    cases c with
    | true => exact h2 env σ H1 F1 Q d (f.mono g1.f) g1.ok (by simpa using e4) fun v H2 F2 g2 r2 => k v H2 F2 (g1.trans g2) r2
    | false =>
      have e5 : d = .bl false := by simpa using e4.symm
      subst e5
      exact k _ H1 F1 g1 .bl
  | _ => cases e3
theorem ev_or (h1 : Evl Z ta ma) (h2 : Evl Z tb mb) : Evl Z (tOrV ta tb) (mOr ma mb) := fun env σ H F Q d f s e k => by
  obtain ⟨x, e1, e2⟩ := Option.bind_eq_some_iff.mp e
  obtain ⟨c, e3, e4⟩ := Option.bind_eq_some_iff.mp e2
  refine h1 env σ H F _ x f s e1 fun v H1 F1 g1 r1 => ?_
  cases r1 with
  | bl =>
    cases e3
    refine ⟨c, rfl, ?_⟩
    cases c with
    | false => exact h2 env σ H1 F1 Q d (f.mono g1.f) g1.ok (by simpa using e4) fun v H2 F2 g2 r2 => k v H2 F2 (g1.trans g2) r2
    | true =>
      have e5 : d = .bl true := by simpa using e4.symm
      subst e5
      exact k _ H1 F1 g1 .bl
  | _ => cases e3
theorem ev_not (h1 : Evl Z ta ma) : Evl Z (tNotV ta) (mNot ma) := fun env σ H F Q d f s e k => by
  obtain ⟨x, e1, e2⟩ := Option.bind_eq_some_iff.mp e
  obtain ⟨c, e3, rfl⟩ := Option.map_eq_some_iff.mp e2
  refine h1 env σ H F _ x f s e1 fun v H1 F1 g1 r1 => ?_
  cases r1 with
  | bl => cases e3; exact ⟨c, rfl, k _ H1 F1 g1 .bl⟩
  | _ => cases e3
theorem x_and (ha : EX X a ta ma) (hb : EX X (.BoolOp .And (b :: rest) pos) tb mb) : EX X (.BoolOp .And (a :: b :: rest) pos) (tAndV ta tb) (mAnd ma mb) := ⟨pe_and ha.pe hb.pe, ev_and ha.ev hb.ev⟩
theorem x_or (ha : EX X a ta ma) (hb : EX X (.BoolOp .Or (b :: rest) pos) tb mb) : EX X (.BoolOp .Or (a :: b :: rest) pos) (tOrV ta tb) (mOr ma mb) := ⟨pe_or ha.pe hb.pe, ev_or ha.ev hb.ev⟩
theorem x_one {op} (ha : EX X a ta ma) : EX X (.BoolOp op [a] pos) ta ma := ⟨pe_one ha.pe, ha.ev⟩
theorem x_not (ha : EX X a ta ma) : EX X (.UnaryOp .Not a pos) (tNotV ta) (mNot ma) := ⟨pe_not ha.pe, ev_not ha.ev⟩
def mIf (na : Env → Option Bool) (ma mb : Env → Option D) : Env → Option D := fun env => (na env).bind fun c => if c = true then ma env else mb env
theorem ev_if (h : EvT Z qa na) (h1 : Evl Z ta ma) (h2 : Evl Z tb mb) : Evl Z (tIf qa ta tb) (mIf na ma mb) := fun env σ H F Q d f s e k => by
  obtain ⟨x, e1, e2⟩ := Option.bind_eq_some_iff.mp e
  refine h env σ H F _ x f s e1 fun H1 F1 g1 => ?_
  cases x with
  | true => exact h1 env σ H1 F1 Q d (f.mono g1.f) g1.ok (by simpa using e2) fun v H2 F2 g2 r2 => k v H2 F2 (g1.trans g2) r2
  | false => exact h2 env σ H1 F1 Q d (f.mono g1.f) g1.ok (by simpa using e2) fun v H2 F2 g2 r2 => k v H2 F2 (g1.trans g2) r2
theorem x_if (hc : ET X c qa na) (ha : EX X a ta ma) (hb : EX X b tb mb) : EX X (.IfExp c a b pos) (tIf qa ta tb) (mIf na ma mb) := ⟨pe_ifExp hc.pt ha.pe hb.pe, ev_if hc.ev ha.ev hb.ev⟩
/-- x is None, x is not None -/
def isNon : D → Bool
  | .non => true
  | _ => false
theorem Is.isNon {v : V} {d : D} (h : Is Z F v d) : decide (v = V.non) = EX.isNon d := by
  cases h <;> first | rfl | exact decide_eq_false (fun z => nomatch z)
theorem x_isN {j pos'} (ha : EX X a ta ma) : EX X (.Compare a [.Is] [.Constant .none j pos'] pos) (tIsN ta) (fun env => (ma env).map fun d => .bl (isNon d)) :=
  ⟨pe_cmp (pc_isN ha.pe) rfl, fun env σ H F Q d f s e k => by
    obtain ⟨x, e1, rfl⟩ := Option.map_eq_some_iff.mp e
    exact ha.ev env σ H F _ x f s e1 fun v H1 F1 g1 r1 => by rw [r1.isNon]; exact k _ H1 F1 g1 .bl⟩
theorem x_notN {j pos'} (ha : EX X a ta ma) : EX X (.Compare a [.IsNot] [.Constant .none j pos'] pos) (tNotN ta) (fun env => (ma env).map fun d => .bl (!isNon d)) :=
  ⟨pe_cmp (pc_notN ha.pe) rfl, fun env σ H F Q d f s e k => by
    obtain ⟨x, e1, rfl⟩ := Option.map_eq_some_iff.mp e
    exact ha.ev env σ H F _ x f s e1 fun v H1 F1 g1 r1 => by rw [r1.isNon]; exact k _ H1 F1 g1 .bl⟩

/-! ### what is walked -/
theorem wk_list {a0 : Addr} {vs : List V} {ds : List D} (h : SqL Z.K F a0 vs) (l : IsL Z F vs ds) : Wk Z (Itl Z.K a0) F ds :=
  ⟨_, _, l.length ▸ walk_list (xs := vs), fun H2 e => same_l e h, fun i Hc x Hn Fc hi s1 s2 y => by
    obtain ⟨rfl, hx⟩ := y
    obtain ⟨d, h1, h2⟩ := l.get' hx
    exact ⟨Fc, d, Grow.refl s2, h1, h2.mono s1⟩⟩
theorem wk_tup {a0 : Addr} {vs : List V} {ds : List D} (h : SqT Z.K F a0 vs) (l : IsL Z F vs ds) : Wk Z (Itt Z.K a0) F ds :=
  ⟨_, _, l.length ▸ walk_tup (xs := vs), fun H2 e => same_t0 e h, fun i Hc x Hn Fc hi s1 s2 y => by
    obtain ⟨rfl, hx⟩ := y
    obtain ⟨d, h1, h2⟩ := l.get' hx
    exact ⟨Fc, d, Grow.refl s2, h1, h2.mono s1⟩⟩
def dLst : D → Option (List D)
  | .lst ds => some ds
  | _ => none
def dTupL : D → Option (List D)
  | .tup ds => some ds
  | _ => none
def iL (m : Env → Option D) : Env → Option (List D) := fun env => (m env).bind dLst
def iT (m : Env → Option D) : Env → Option (List D) := fun env => (m env).bind dTupL
variable {tg iter : Expr} {wi : TI} {mi : Env → Option (List D)}
theorem i_list (h : EX X e te me) : EI X tg e (iList X.K te) (iL me) := ⟨pi_list h.pe, fun env σ H F R ds f s e k => by
  obtain ⟨x, e1, e2⟩ := Option.bind_eq_some_iff.mp e
  refine h.ev env σ H F _ x f s e1 fun v H1 F1 g1 r1 => ?_
  cases r1 with
  | @lst p vs ds' h1 h2 => cases e2; exact ⟨p, rfl, ⟨vs, same_l g1.ok.s h1⟩, k _ H1 F1 g1 (wk_list (Z := zOf X) h1 h2)⟩
  | _ => cases e2⟩
theorem i_tup (h : EX X e te me) : EI X tg e (iTup X.K te) (iT me) := ⟨pi_tup h.pe, fun env σ H F R ds f s e k => by
  obtain ⟨x, e1, e2⟩ := Option.bind_eq_some_iff.mp e
  refine h.ev env σ H F _ x f s e1 fun v H1 F1 g1 r1 => ?_
  cases r1 with
  | @tup p vs ds' h1 h2 => cases e2; exact ⟨p, rfl, ⟨vs, same_t g1.ok.s h1⟩, k _ H1 F1 g1 (wk_tup (Z := zOf X) h1.sq h2)⟩
  | _ => cases e2⟩
def rangeD (lo : Int) (n : Nat) : List D := (List.range n).map fun (i : Nat) => D.int (lo + (i : Int))
theorem wk_range {lo : Int} {n : Nat} : Wk Z (Itr lo n) F (rangeD lo n) := by
  have hl : (rangeD lo n).length = n := by simp [rangeD]
  refine ⟨_, _, (by rw [hl]; exact walk_range (lo := lo)), fun _ _ => True.intro, fun i Hc x Hn Fc hi s1 s2 y => ?_⟩
  obtain ⟨rfl, rfl⟩ := y
  rw [hl] at hi
  exact ⟨Fc, .int (lo + (i : Int)), Grow.refl s2, by simp [rangeD, hi], .int⟩
def inR (i : Int) : Bool := decide (-(2 ^ 62) ≤ i) && decide (i < 2 ^ 62)
theorem inR_of {i : Int} (h : inR i = true) : -(2 ^ 62) ≤ i ∧ i < 2 ^ 62 := by
  unfold inR at h
  rw [Bool.and_eq_true, decide_eq_true_eq, decide_eq_true_eq] at h
  exact h
def iR1 (ms : Env → Option (List D)) : Env → Option (List D) := fun env => (ms env).bind fun
  | [.int j] => if inR j = true then some (rangeD 0 j.toNat) else none
  | _ => none
def iR2 (ms : Env → Option (List D)) : Env → Option (List D) := fun env => (ms env).bind fun
  | [.int i, .int j] => if (inR i && inR j) = true then some (rangeD i (j - i).toNat) else none
  | _ => none
theorem IsL.one {vs : List V} {d : D} (h : IsL Z F vs [d]) : ∃ v, vs = [v] ∧ Is Z F v d := by
  cases h with
  | cons h l => cases l; exact ⟨_, rfl, h⟩
theorem IsL.two {vs : List V} {d d' : D} (h : IsL Z F vs [d, d']) : ∃ v w, vs = [v, w] ∧ Is Z F v d ∧ Is Z F w d' := by
  cases h with
  | cons h l => obtain ⟨w, rfl, r⟩ := l.one; exact ⟨_, w, rfl, h, r⟩
theorem i_range1 {p : Pos} (ha : EA X [a] t ms) (hm : X.mg "range" = none) (hg : Gl X "range" := by rfl) (hs : starEach [a] X.env = [(false, eval a X.env)] := by rfl) : EI X tg (.Call (.Name "range" p) [a] [] pos) (iRng1 t) (iR1 ms) := ⟨pi_range1 hg hm ha.pa hs, fun env σ H F R ds f s e k => by
  obtain ⟨x, e1, e2⟩ := Option.bind_eq_some_iff.mp e
  refine ha.ev env σ H F _ x f s e1 fun vs H1 F1 g1 r1 => ?_
  split at e2
  · rename_i j
    obtain ⟨v, rfl, r⟩ := r1.one
    cases r
    obtain ⟨hz, rfl⟩ := ite_some e2
    exact ⟨j, rfl, (inR_of hz).1, (inR_of hz).2, k _ H1 F1 g1 wk_range⟩
  · cases e2⟩
theorem i_range2 {p : Pos} (ha : EA X [a, b] t ms) (hm : X.mg "range" = none) (hg : Gl X "range" := by rfl) (hs : starEach [a, b] X.env = [(false, eval a X.env), (false, eval b X.env)] := by rfl) (hs2 : starEach [b] X.env = [(false, eval b X.env)] := by rfl) :
    EI X tg (.Call (.Name "range" p) [a, b] [] pos) (iRng2 t) (iR2 ms) := ⟨pi_range2 hg hm ha.pa hs hs2, fun env σ H F R ds f s e k => by
  obtain ⟨x, e1, e2⟩ := Option.bind_eq_some_iff.mp e
  refine ha.ev env σ H F _ x f s e1 fun vs H1 F1 g1 r1 => ?_
  split at e2
  · rename_i i j
    obtain ⟨v, w, rfl, r, r'⟩ := r1.two
    cases r
    cases r'
    obtain ⟨hz, rfl⟩ := ite_some e2
    rw [Bool.and_eq_true] at hz
    exact ⟨i, j, rfl, ⟨(inR_of hz.1).1, (inR_of hz.1).2, (inR_of hz.2).1, (inR_of hz.2).2⟩, k _ H1 F1 g1 wk_range⟩
  · cases e2⟩

/-! ### targets -/
/-- slots set one after the other -/
def setL {α : Type} : List α → List Nat → List α → List α
  | l, [], _ => l
  | l, _ :: _, [] => l
  | l, i :: is, x :: xs => setL (l.set i x) is xs
  termination_by structural _ ix _ => ix
/-- a target: the slots ix, and from what is stored the data of each -/
def EvG (Z : Zc) (g : TG) (m : D → Option (List D)) (ix : List Nat) : Prop := ∀ d (σ : L2.St) H F (Q : L2.St → Hp → Prop) v ds, Ok Z F H → Is Z F v d → m d = some ds →
  (∀ vs, IsL Z F vs ds → Q (setL σ ix (vs.map some)) H) → g v σ H Q
structure EG (X : Cx) (tg : Expr) (g : TG) (m : D → Option (List D)) (ix : List Nat) : Prop where
  pg : PG X tg g
  ev : EvG (zOf X) g m ix
  len : ∀ d ds, m d = some ds → ds.length = ix.length
def gOne : D → Option (List D) := fun d => some [d]
theorem g_name (i : Nat) {x : Str} (hN : X.N.Nodup) (hi : X.N[i]? = some x := by rfl) (hx : Loc X.env.scope x := by first | exact Or.inl rfl | exact Or.inr rfl) (hf : X.fn x = true ∨ X.env.scope.names.lookup x = some .local := by first | exact .inl rfl | exact .inr rfl | assumption) :
    EG X (.Name x pos) (gName i) gOne [i] where
  pg := pg_name hN hi hx hf
  ev := fun d σ H F Q v ds s r e k => by
    cases e
    exact k [v] (.cons r .nil)
  len := fun d ds e => by cases e; rfl
def EvGs (Z : Zc) (g : TGs) (m : List D → Option (List D)) (ix : List Nat) : Prop := ∀ ds (σ : L2.St) H F (Q : L2.St → Hp → Prop) xs out, Ok Z F H → IsL Z F xs ds → m ds = some out →
  (∀ vs, IsL Z F vs out → Q (setL σ ix (vs.map some)) H) → g xs σ H Q
structure EGs (X : Cx) (tgs : List Expr) (g : TGs) (m : List D → Option (List D)) (ix : List Nat) (n : Nat) : Prop where
  pgs : PGs X tgs g
  ev : EvGs (zOf X) g m ix
  len : ∀ ds out, m ds = some out → ds.length = n
  out : ∀ ds out, m ds = some out → out.length = ix.length
def gsNil : List D → Option (List D)
  | [] => some []
  | _ => none
def gsCons (g : D → Option (List D)) (gs : List D → Option (List D)) : List D → Option (List D)
  | d :: ds => (g d).bind fun x => (gs ds).map fun y => x ++ y
  | _ => none
variable {g1 : TG} {gs : TGs} {mg : D → Option (List D)} {mgs : List D → Option (List D)} {ix jx : List Nat} {n : Nat}
theorem gs_nil : EGs X [] gNil gsNil [] 0 where
  pgs := pgs_nil
  ev := fun ds σ H F Q xs out s r e k => by
    cases r with
    | nil => cases e; exact ⟨rfl, k [] .nil⟩
    | cons _ _ => cases e
  len := fun ds out e => by
    cases ds with
    | nil => rfl
    | cons _ _ => cases e
  out := fun ds out e => by
    cases ds with
    | nil => cases e; rfl
    | cons _ _ => cases e
theorem setL_append {α : Type} : ∀ (ix jx : List Nat) (l xs ys : List α), xs.length = ix.length → setL l (ix ++ jx) (xs ++ ys) = setL (setL l ix xs) jx ys
  | [], jx, l, [], ys, _ => rfl
  | [], _, _, _ :: _, _, h => by cases h
  | _ :: _, _, _, [], _, h => by cases h
  | i :: ix, jx, l, x :: xs, ys, h => setL_append ix jx (l.set i x) xs ys (by simpa using h)
theorem gs_cons {tgs : List Expr} (h : EG X tg g1 mg ix) (hs : EGs X tgs gs mgs jx n)
    (hst : (assignEach (tg :: tgs) X.env).map (·.2) = assign tg X.env :: (assignEach tgs X.env).map (·.2) := by rfl) : EGs X (tg :: tgs) (gCons g1 gs) (gsCons mg mgs) (ix ++ jx) (n + 1) where
  pgs := pgs_cons h.pg hs.pgs hst
  ev := fun ds σ H F Q xs out s r e k => by
    cases r with
    | nil => cases e
    | @cons v vs d ds r l =>
      obtain ⟨x, e1, e2⟩ := Option.bind_eq_some_iff.mp (show (mg d).bind (fun x => (mgs ds).map fun y => x ++ y) = some out from e)
      obtain ⟨y, e3, rfl⟩ := Option.map_eq_some_iff.mp e2
      refine ⟨_, _, rfl, h.ev _ σ H F _ _ x s r e1 fun us lu => hs.ev _ _ H F Q _ y s l e3 fun ws lw => ?_⟩
      have q := k (us ++ ws) (lu.append lw)
      rw [List.map_append, setL_append _ _ _ _ _ (by rw [List.length_map, lu.length, h.len _ _ e1])] at q
      exact q
  len := fun ds out e => by
    cases ds with
    | nil => cases e
    | cons d ds =>
      obtain ⟨x, e1, e2⟩ := Option.bind_eq_some_iff.mp (show (mg d).bind (fun x => (mgs ds).map fun y => x ++ y) = some out from e)
      obtain ⟨y, e3, _⟩ := Option.map_eq_some_iff.mp e2
      simp [hs.len _ _ e3]
  out := fun ds out e => by
    cases ds with
    | nil => cases e
    | cons d ds =>
      obtain ⟨x, e1, e2⟩ := Option.bind_eq_some_iff.mp (show (mg d).bind (fun x => (mgs ds).map fun y => x ++ y) = some out from e)
      obtain ⟨y, e3, rfl⟩ := Option.map_eq_some_iff.mp e2
      simp [h.len _ _ e1, hs.out _ _ e3]
def gTupD (gs : List D → Option (List D)) : D → Option (List D)
  | .tup ds => gs ds
  | _ => none
theorem g_tup {tgs : List Expr} {k0 : Nat} (h : EGs X tgs gs mgs ix n) (hc : X.calm = true := by rfl)
    (hn : (assignEach tgs X.env).length = n := by rfl) (hst : (assignEach tgs X.env).findIdx? (·.1) = none := by rfl) : EG X (.Tuple tgs k0 pos) (gTup X.K n gs) (gTupD mgs) ix where
  pg := pg_tup hc h.pgs hn hst
  ev := fun d σ H F Q v out s r e k => by
    cases r with
    | @tup p xs ds h1 h2 =>
      have e' : mgs ds = some out := e
      exact ⟨p, xs, rfl, same_t s.s h1, h2.length.trans (h.len _ _ e'), h.ev ds σ H F Q xs out s h2 e' k⟩
    | _ => cases e
  len := fun d out e => by
    cases d with
    | tup ds => exact h.out ds out e
    | _ => cases e

/-! the slots behind a target -/
theorem Fit.setL {env : Env} {σ : L2.St} : ∀ {ix : List Nat} {vs : List V} {ds : List D}, Fit Z F env σ → IsL Z F vs ds → Fit Z F (EX.setL env ix (ds.map some)) (EX.setL σ ix (vs.map some))
  | [], _, _, f, _ => f
  | _ :: _, _, _, f, .nil => f
  | i :: ix, _, _, f, .cons r l => Fit.setL (ix := ix) (f.set r) l
theorem wipe_comm (σ : L2.St) (i : Nat) (x : Option V) : ∀ vs : List Nat, i ∉ vs → wipe (σ.set i x) vs = (wipe σ vs).set i x
  | [], _ => rfl
  | v :: vs, h => by
    have h1 : i ≠ v := fun z => h (by simp [z])
    have h2 : i ∉ vs := fun z => h (by simp [z])
    unfold wipe
    rw [wipe_comm σ i x vs h2, List.set_comm _ _ (Ne.symm h1).symm]
theorem wipe_in (σ : L2.St) (i : Nat) (x : Option V) : ∀ vs : List Nat, i ∈ vs → wipe (σ.set i x) vs = wipe σ vs
  | [], h => nomatch h
  | v :: vs, h => by
    unfold wipe
    by_cases hv : i ∈ vs
    · rw [wipe_in σ i x vs hv]
    · have e : i = v := by
        rcases List.mem_cons.mp h with z | z
        · exact z
        · exact absurd z hv
      subst e
      rw [wipe_comm σ i x vs hv, List.set_set]
theorem wipe_setL (vs : List Nat) : ∀ (ix : List Nat) (σ : L2.St) (xs : List (Option V)), (∀ i ∈ ix, i ∈ vs) → wipe (setL σ ix xs) vs = wipe σ vs
  | [], _, _, _ => rfl
  | _ :: _, _, [], _ => rfl
  | i :: ix, σ, x :: xs, h => (wipe_setL vs ix (σ.set i x) xs fun j hj => h j (List.mem_cons_of_mem _ hj)).trans (wipe_in σ i x vs (h i List.mem_cons_self))
end EX
set_option Elab.async false
set_option linter.all false
set_option autoImplicit false
set_option maxRecDepth 100000
set_option maxHeartbeats 4000000
/-! E4: comprehensions, statements. -/
namespace EX
open PySem L2
variable [Tb] {Z : Zc} {F F' F1 F2 H H' H1 H2 : Hp} {X : Cx} {ta tb tc te : TE} {ma mb mc me : Env → Option D} {t : TA} {ms : Env → Option (List D)} {pos : Pos} {e a b c : Expr} {es rest : List Expr}
  {qa qb qc : TT} {na nb nc : Env → Option Bool} {tg iter : Expr} {wi : TI} {mi : Env → Option (List D)} {g : TG} {mg : D → Option (List D)} {vs ix jx : List Nat}

/-! ### comprehensions -/
structure ETs (X : Cx) (ifs : List Expr) (t : TT) (m : Env → Option Bool) : Prop where
  pts : PTs X ifs t
  ev : EvT (zOf X) t m
theorem ts_nil : ETs X [] tYes (fun _ => some true) := ⟨pts_nil, fun env σ H F Q b f s e k => by cases e; exact k H F (Grow.refl s)⟩
theorem ts_one (h : ET X c qa na) : ETs X [c] qa na := ⟨pts_one h.pt, h.ev⟩
/-- one turn: the target, the tests, the element (none: not kept) -/
def turnD (mg : D → Option (List D)) (ix : List Nat) (nt : Env → Option Bool) (me : Env → Option D) (env : Env) (d : D) : Option (Option D) := do
  let xs ← mg d
  let env' := setL env ix (xs.map some)
  let b ← nt env'
  if b = true then (me env').map some else some none
def lcD (f : D → Option (Option D)) : List D → Option (List D)
  | [] => some []
  | d :: ds => do
    let x ← f d
    let xs ← lcD f ds
    pure (x.toList ++ xs)
def lcM (f : D → Option (List D)) : List D → Option (List D)
  | [] => some []
  | d :: ds => do
    let x ← f d
    let xs ← lcM f ds
    pure (x ++ xs)
def mLc (mi : Env → Option (List D)) (mg : D → Option (List D)) (ix : List Nat) (nt : Env → Option Bool) (me : Env → Option D) (vs : List Nat) : Env → Option (List D) := fun env => do
  let ds ← mi env
  let out ← lcD (turnD mg ix nt me (wipeE env vs)) ds
  if small ds = true then pure out else none
theorem lcD_get {f : D → Option (Option D)} : ∀ {ds : List D} {out : List D}, lcD f ds = some out → ∀ (i : Nat), i < ds.length →
    ∃ (pre : List D) (x : Option D) (d : D), lcD f (ds.take i) = some pre ∧ ds[i]? = some d ∧ f d = some x ∧ lcD f (ds.take (i + 1)) = some (pre ++ x.toList)
  | [], _, _, i, h => by simp at h
  | d :: ds, out, e, 0, _ => by
    unfold lcD at e
    simp only [Option.bind_eq_bind, Option.bind_eq_some_iff] at e
    obtain ⟨x, e1, xs, e2, _⟩ := e
    exact ⟨[], x, d, rfl, rfl, e1, by simp [lcD, e1]⟩
  | d :: ds, out, e, i + 1, h => by
    unfold lcD at e
    simp only [Option.bind_eq_bind, Option.bind_eq_some_iff] at e
    obtain ⟨x, e1, xs, e2, _⟩ := e
    obtain ⟨pre, y, d', h1, h2, h3, h4⟩ := lcD_get e2 i (by simpa using h)
    refine ⟨x.toList ++ pre, y, d', ?_, by simpa using h2, h3, ?_⟩
    · simp [lcD, e1, h1]
    · rw [List.take_succ_cons]
      simp [lcD, e1, h4]
theorem lcD_len {f : D → Option (Option D)} : ∀ {ds : List D} {out : List D}, lcD f ds = some out → out.length ≤ ds.length
  | [], _, e => by cases e; exact Nat.le_refl _
  | d :: ds, out, e => by
    unfold lcD at e
    simp only [Option.bind_eq_bind, Option.bind_eq_some_iff, Option.pure_def, Option.some.injEq] at e
    obtain ⟨x, e1, xs, e2, rfl⟩ := e
    have q := lcD_len e2
    cases x <;> simp <;> omega
/-- the new list at Dl while a comprehension runs -/
structure LcI (Z : Zc) (F1 H1 : Hp) (Dl : Addr) (out : List D) (Fc Hc : Hp) : Prop where
  g : Grow Z F1 H1 Fc Hc
  nD : H1 Dl = none
  nF : Fc Dl = none
  at_ : ∃ vs, Hc Dl = some (.lst vs) ∧ IsL Z Fc vs out
theorem LcI.start (ok : Ok Z F1 H1) {Dl : Addr} (n : H1 Dl = none) : LcI Z F1 H1 Dl [] F1 (upd H1 Dl (.lst [])) :=
  ⟨Grow.made ok n, n, ok.none_of n, [], upd_same, .nil⟩
theorem LcI.grow {Dl : Addr} {out : List D} {Fc Hc F2 H2 : Hp} (h : LcI Z F1 H1 Dl out Fc Hc) (g : Grow Z Fc Hc F2 H2) : LcI Z F1 H1 Dl out F2 H2 := by
  obtain ⟨vs, a, l⟩ := h.at_
  exact ⟨h.g.trans g, h.nD, (g.o Dl (ne_some a)).trans h.nF, vs, g.h _ _ a lst_nt, l.mono g.f⟩
/-- a written list that F does not know -/
theorem Ok.write {Fc Hc : Hp} {Dl : Addr} {o o' : HO} (s : Ok Z Fc Hc) (n : Fc Dl = none) (hd : Hc Dl = some o) (ho : ∀ ps, o ≠ .tbl ps) (hc : ∀ q, o ≠ LamX.CodeO Dl q) : Ok Z Fc (upd Hc Dl o') := by
  refine ⟨fun a u e => by rw [upd_ne (ne_of_none e n)]; exact s.s a u e, s.n, fun p hp => ?_⟩
  obtain ⟨ps, h1, h2, h3⟩ := s.t p hp
  refine ⟨ps, ?_, h2, fun pos cv hcv => ?_⟩
  · rw [upd_ne fun z => ?_]
    · exact h1
    · rw [z, hd] at h1
      exact ho ps (Option.some.inj h1)
  · obtain ⟨c, e1, e2⟩ := h3 pos cv hcv
    refine ⟨c, e1, ?_⟩
    rw [upd_ne fun z => ?_]
    · exact e2
    · rw [z, hd] at e2
      exact hc _ (Option.some.inj e2)
theorem lst_nc {xs : List V} {a : Addr} (q : Str) : HO.lst xs ≠ LamX.CodeO a q := fun z => by
  unfold LamX.CodeO at z
  cases z
theorem LcI.app {Dl : Addr} {out : List D} {Fc Hc : Hp} (h : LcI Z F1 H1 Dl out Fc Hc) {v : V} {d : D} (r : Is Z Fc v d) : ∃ acc, Hc Dl = some (.lst acc) ∧ acc.length = out.length ∧ LcI Z F1 H1 Dl (out ++ [d]) Fc (upd Hc Dl (.lst (acc ++ [v]))) := by
  obtain ⟨vs, a, l⟩ := h.at_
  refine ⟨vs, a, l.length, ?_, h.nD, h.nF, _, upd_same, l.append (.cons r .nil)⟩
  have ok := h.g.ok.write (o' := .lst (vs ++ [v])) h.nF a lst_nt (fun q => lst_nc q)
  refine ⟨h.g.f, ok, fun b o e nt => ?_, fun b hb => ?_, h.g.o⟩
  · rw [upd_ne (ne_of_none e h.nD)]
    exact h.g.h b o e nt
  · by_cases z : b = Dl
    · rw [z, upd_same]
      exact fun q => nomatch q
    · rw [upd_ne z]
      exact h.g.u b hb
theorem wipe_at (σ : L2.St) (i : Nat) : ∀ vs : List Nat, (wipe σ vs)[i]? = if i ∈ vs then (if i < σ.length then some none else none) else σ[i]?
  | [] => by simp [wipe]
  | v :: vs => by
    unfold wipe
    by_cases h : v = i
    · subst h
      by_cases hl : v < σ.length
      · rw [List.getElem?_set_self (by rw [wipe_length]; exact hl)]
        simp [hl]
      · rw [List.getElem?_eq_none (by rw [List.length_set, wipe_length]; omega)]
        simp [hl]
    · rw [List.getElem?_set_ne h, wipe_at σ i vs]
      have q : (i ∈ v :: vs) = (i ∈ vs) := by
        simp [Ne.symm h]
      simp only [q]
theorem wipe_twice (σ : L2.St) (vs : List Nat) : wipe (wipe σ vs) vs = wipe σ vs := by
  apply List.ext_getElem?
  intro i
  rw [wipe_at, wipe_at, wipe_length]
  split <;> rfl
theorem small_lt {ds : List D} (h : small ds = true) {n : Nat} (e : n ≤ ds.length) : n < sizeLine := by
  have q : ds.length ≤ 100000 := of_decide_eq_true h
  rw [sizeLine_eq]
  omega
theorem ev_lc (hi : EvI Z wi mi) (hg : EvG Z g mg ix) (hx : ∀ i ∈ ix, i ∈ vs) (ht : EvT Z qa na) (he : Evl Z te me) : EvF Z (tLc wi g qa te vs) (mLc mi mg ix na me vs) := fun env σ H F Q out f s e k => by
  unfold mLc at e
  simp only [Option.bind_eq_bind, Option.bind_eq_some_iff] at e
  obtain ⟨ds, e1, out', e2, e3⟩ := e
  obtain ⟨hz, e4⟩ := ite_some e3
  cases e4
  refine hi env σ H F _ ds f s e1 fun J H1 F1 g1 w => ?_
  intro Dl hD
  obtain ⟨G, Y, W, hG, hY⟩ := w.ex
  have f1 : Fit Z F1 (wipeE env vs) (wipe σ vs) := (f.mono g1.f).wipe vs
  refine lc_it W (fun i Hc => ∃ Fc pre, LcI Z F1 H1 Dl pre Fc Hc ∧ lcD (turnD mg ix na me (wipeE env vs)) (ds.take i) = some pre)
    ⟨F1, [], LcI.start g1.ok hD, rfl⟩ (fun i Hc _ ⟨Fc, pre, L, _⟩ => hG Hc (L.g.f.trans L.g.ok.s)) ?_ ?_
  · rintro i x Hc Hn hlt ⟨Fc, pre, L, hpre⟩ y
    obtain ⟨F2, d, gN, hd, rx⟩ := hY i Hc x Hn Fc hlt L.g.f L.g.ok y
    have L2 := L.grow gN
    obtain ⟨pre', xo, d', q1, q2, q3, q4⟩ := lcD_get e2 i hlt
    rw [hpre] at q1
    cases q1
    rw [hd] at q2
    cases q2
    unfold turnD at q3
    simp only [Option.bind_eq_bind, Option.bind_eq_some_iff] at q3
    obtain ⟨xs0, h1, bb, h2, h3⟩ := q3
    refine hg d (wipe σ vs) Hn F2 _ x xs0 L2.g.ok rx h1 fun us lu => ⟨(wipe_setL vs ix _ _ hx).trans (wipe_twice σ vs), ?_⟩
    have f' := ((f1.mono L2.g.f).setL (ix := ix) lu)
    generalize setL (wipeE env vs) ix (xs0.map some) = env' at f' h2 h3
    generalize setL (wipe σ vs) ix (us.map some) = σ' at f' ⊢
    refine ht env' σ' Hn F2 _ bb f' L2.g.ok h2 fun H3 F3 g3 => ?_
    have L3 := L2.grow g3
    cases bb with
    | false =>
      have h4 : xo = none := by simpa using h3.symm
      subst h4
      exact ⟨F3, _, L3, by simpa using q4⟩
    | true =>
      obtain ⟨dd, h4, rfl⟩ := Option.map_eq_some_iff.mp (show (me env').map some = some xo from h3)
      show te σ' H3 _
      refine he env' σ' H3 F3 _ dd (f'.mono g3.f) g3.ok h4 fun v H4 F4 g4 r4 => ?_
      obtain ⟨acc, ha, hl, L5⟩ := (L3.grow g4).app r4
      refine ⟨acc, ha, ?_, F4, _, L5, by simpa using q4⟩
      rw [hl]
      exact small_lt hz (Nat.le_trans (lcD_len hpre) (by rw [List.length_take]; exact Nat.min_le_right _ _))
  · rintro Hc ⟨Fc, pre, L, hpre⟩
    rw [List.take_length, e2] at hpre
    cases hpre
    obtain ⟨vs', a, l⟩ := L.at_
    exact k Dl vs' Hc Fc (g1.trans L.g) L.nF (g1.free L.nD) a l
abbrev inBlk (X : Cx) (scope : Scope) (s : Shared) (H : Hp) (C : Addr) (cl : List (Str × Addr)) (fp : List Addr) : Cx := X.blk s H scope (compEnvC scope cl C X.env) fp
theorem x_lc {elt : Expr} {ifs : List Expr} {scope : Scope} (own : List (Str × Nat)) (hN : X.N.Nodup) (hi : EI X tg iter wi mi) (ok : blkC X.N X.env.scope scope own = true)
    (hg : ∀ s H C cl fp, EG (inBlk X scope s H C cl fp) tg g mg ix) (ht : ∀ s H C cl fp, ETs (inBlk X scope s H C cl fp) ifs qa na) (he : ∀ s H C cl fp, EX (inBlk X scope s H C cl fp) e te me)
    (hx : ∀ i ∈ ix, i ∈ own.map (·.2) := by decide) (hc : X.calm = true := by rfl) (hs : ∀ x, foldedSetIterable iter X.env x = pure x := by intro _; rfl) :
    EXF X (.ListComp e [⟨tg, iter, ifs, 0⟩] scope pos) (tLc wi g qa te (own.map (·.2))) (mLc mi mg ix na me (own.map (·.2))) :=
  ⟨pe_lc hc hN hi.pi (blkOk_by ok) (fun s H C cl fp => (hg s H C cl fp).pg) (fun s H C cl fp => (ht s H C cl fp).pts) (fun s H C cl fp => (he s H C cl fp).pe) hs,
    ev_lc hi.ev (hg { } (fun _ => none) 0 [] []).ev hx (ht { } (fun _ => none) 0 [] []).ev (he { } (fun _ => none) 0 [] []).ev⟩
/-! ### two clauses -/
theorem lcM_get {f : D → Option (List D)} : ∀ {ds : List D} {out : List D}, lcM f ds = some out → ∀ (i : Nat), i < ds.length →
    ∃ (pre x : List D) (d : D), lcM f (ds.take i) = some pre ∧ ds[i]? = some d ∧ f d = some x ∧ lcM f (ds.take (i + 1)) = some (pre ++ x)
  | [], _, _, i, h => by simp at h
  | d :: ds, out, e, 0, _ => by
    unfold lcM at e
    simp only [Option.bind_eq_bind, Option.bind_eq_some_iff] at e
    obtain ⟨x, e1, xs, e2, _⟩ := e
    exact ⟨[], x, d, rfl, rfl, e1, by simp [lcM, e1]⟩
  | d :: ds, out, e, i + 1, h => by
    unfold lcM at e
    simp only [Option.bind_eq_bind, Option.bind_eq_some_iff] at e
    obtain ⟨x, e1, xs, e2, _⟩ := e
    obtain ⟨pre, y, d', h1, h2, h3, h4⟩ := lcM_get e2 i (by simpa using h)
    refine ⟨x ++ pre, y, d', ?_, by simpa using h2, h3, ?_⟩
    · simp [lcM, e1, h1]
    · rw [List.take_succ_cons]
      simp [lcM, e1, h4]
theorem lcM_len {f : D → Option (List D)} : ∀ {ds : List D} {out : List D}, lcM f ds = some out → ∀ i, ∀ pre, lcM f (ds.take i) = some pre → pre.length ≤ out.length
  | [], _, _, i, pre, h => by
    rw [List.take_nil] at h
    cases h
    exact Nat.zero_le _
  | d :: ds, out, e, 0, pre, h => by
    cases h
    exact Nat.zero_le _
  | d :: ds, out, e, i + 1, pre, h => by
    unfold lcM at e
    simp only [Option.bind_eq_bind, Option.bind_eq_some_iff, Option.pure_def, Option.some.injEq] at e
    obtain ⟨x, e1, xs, e2, rfl⟩ := e
    rw [List.take_succ_cons] at h
    unfold lcM at h
    simp only [Option.bind_eq_bind, Option.bind_eq_some_iff, Option.pure_def, Option.some.injEq] at h
    obtain ⟨y, q1, ys, q2, rfl⟩ := h
    rw [e1] at q1
    cases q1
    have := lcM_len e2 i ys q2
    simp
    omega
def turn2D (mg : D → Option (List D)) (ix : List Nat) (nt : Env → Option Bool) (mi1 : Env → Option (List D)) (mg1 : D → Option (List D)) (jx : List Nat) (nt1 : Env → Option Bool) (me : Env → Option D) (vs1 : List Nat) (env : Env) (d : D) : Option (List D) := do
  let xs ← mg d
  let env' := setL env ix (xs.map some)
  let b ← nt env'
  if b = true then (do
    let ds1 ← mi1 env'
    lcD (turnD mg1 jx nt1 me (wipeE env' vs1)) ds1) else some []
def mLc2 (mi : Env → Option (List D)) (mg : D → Option (List D)) (ix : List Nat) (nt : Env → Option Bool) (mi1 : Env → Option (List D)) (mg1 : D → Option (List D)) (jx : List Nat) (nt1 : Env → Option Bool) (me : Env → Option D) (vs vs1 : List Nat) : Env → Option (List D) := fun env => do
  let ds ← mi env
  let out ← lcM (turn2D mg ix nt mi1 mg1 jx nt1 me vs1 (wipeE env vs)) ds
  if small out = true then pure out else none
theorem lc_in {J : It} {n : Nat} {G : Hp → Prop} {Y : Nat → Hp → V → Hp → Prop} (w : Walk J n G Y) {g : TG} {tt : TT} {te : TE} {vs : List Nat} {σ : L2.St} {H1 : Hp} {Dl : Addr} {Qd : Hp → Prop} (Pv : Nat → Hp → Prop) (h0 : Pv 0 H1) (hG : ∀ i H, i ≤ n → Pv i H → G H)
    (hs : ∀ i x H H', i < n → Pv i H → Y i H x H' → g x (wipe σ vs) H' fun σ2 H2 => wipe σ2 vs = wipe σ vs ∧ tt σ2 H2 fun b H3 =>
      if b = true then te σ2 H3 fun y H4 => ∃ acc, H4 Dl = some (.lst acc) ∧ acc.length < sizeLine ∧ Pv (i + 1) (upd H4 Dl (.lst (acc ++ [y]))) else Pv (i + 1) H3) (hd : ∀ H, Pv n H → Qd H) :
    ∃ W : Nat → Nat → Hp → Prop, (∃ m, W 0 m H1) ∧ ∀ i m H, W i m H →
      (J.stop i H ∧ Qd H) ∨ (J.go i H ∧ ∃ Nx : Hp → Prop, (∀ H', Nx H' → ∃ m', m' < m ∧ W (i + 1) m' H') ∧ ∀ x H', J.yld i H x H' → g x (wipe σ vs) H' fun σ2 H2 => wipe σ2 vs = wipe σ vs ∧ tt σ2 H2 fun b H3 =>
        if b = true then te σ2 H3 fun y H4 => ∃ acc, H4 Dl = some (.lst acc) ∧ acc.length < sizeLine ∧ Nx (upd H4 Dl (.lst (acc ++ [y]))) else Nx H3) := by
  refine ⟨fun i m H => m = n - i ∧ i ≤ n ∧ Pv i H, ⟨n, by simp, Nat.zero_le _, h0⟩, ?_⟩
  rintro i m H ⟨rfl, hi, p⟩
  have q := hG i H hi p
  by_cases hlt : i < n
  · refine .inr ⟨w.goes i H hlt q, Pv (i + 1), fun H' p' => ⟨n - (i + 1), by omega, rfl, hlt, p'⟩, fun x H' y => hs i x H H' hlt p (w.yields i H x H' hlt q y)⟩
  · have e : i = n := by omega
    subst e
    exact .inl ⟨w.stops H q, hd H p⟩
variable {wi1 : TI} {mi1 : Env → Option (List D)} {g1 : TG} {mg1 : D → Option (List D)} {vs1 : List Nat}
theorem ev_lc2 (hi : EvI Z wi mi) (hg : EvG Z g mg ix) (hx : ∀ i ∈ ix, i ∈ vs) (ht : EvT Z qa na) (hi1 : EvI Z wi1 mi1) (hg1 : EvG Z g1 mg1 jx) (hx1 : ∀ i ∈ jx, i ∈ vs1) (ht1 : EvT Z qb nb) (he : Evl Z te me) : EvF Z (tLc2 wi g qa wi1 g1 qb te vs vs1) (mLc2 mi mg ix na mi1 mg1 jx nb me vs vs1) := fun env σ H F Q out f s e k => by
  unfold mLc2 at e
  simp only [Option.bind_eq_bind, Option.bind_eq_some_iff] at e
  obtain ⟨ds, e1, out', e2, e3⟩ := e
  obtain ⟨hz, e4⟩ := ite_some e3
  cases e4
  refine hi env σ H F _ ds f s e1 fun J H1 F1 g1' w => ?_
  intro Dl hD
  obtain ⟨G, Y, W, hG, hY⟩ := w.ex
  have f1 : Fit Z F1 (wipeE env vs) (wipe σ vs) := (f.mono g1'.f).wipe vs
  refine ⟨fun i m Hc => m = ds.length - i ∧ i ≤ ds.length ∧ ∃ Fc pre, LcI Z F1 H1 Dl pre Fc Hc ∧ lcM (turn2D mg ix na mi1 mg1 jx nb me vs1 (wipeE env vs)) (ds.take i) = some pre, ⟨ds.length, by simp, Nat.zero_le _, F1, [], LcI.start g1'.ok hD, rfl⟩, ?_⟩
  rintro i m Hc ⟨rfl, hi0, Fc, pre, L, hpre⟩
  have q := hG Hc (L.g.f.trans L.g.ok.s)
  by_cases hlt : i < ds.length
  · refine .inr ⟨W.goes i Hc hlt q, fun Hc' => ∃ Fc pre, LcI Z F1 H1 Dl pre Fc Hc' ∧ lcM (turn2D mg ix na mi1 mg1 jx nb me vs1 (wipeE env vs)) (ds.take (i + 1)) = some pre, fun H' p' => ⟨ds.length - (i + 1), by omega, rfl, hlt, p'⟩, fun x Hn y0 => ?_⟩
    have y := W.yields i Hc x Hn hlt q y0
    obtain ⟨F2, d, gN, hd, rx⟩ := hY i Hc x Hn Fc hlt L.g.f L.g.ok y
    have L2 := L.grow gN
    obtain ⟨pre', xo, d', q1, q2, q3, q4⟩ := lcM_get e2 i hlt
    rw [hpre] at q1
    cases q1
    rw [hd] at q2
    cases q2
    have hle : (pre ++ xo).length ≤ out.length := lcM_len e2 (i + 1) _ q4
    unfold turn2D at q3
    simp only [Option.bind_eq_bind, Option.bind_eq_some_iff] at q3
    obtain ⟨xs0, h1, bb, h2, h3⟩ := q3
    refine hg d (wipe σ vs) Hn F2 _ x xs0 L2.g.ok rx h1 fun us lu => ⟨(wipe_setL vs ix _ _ hx).trans (wipe_twice σ vs), ?_⟩
    have f' := ((f1.mono L2.g.f).setL (ix := ix) lu)
    generalize setL (wipeE env vs) ix (xs0.map some) = env' at f' h2 h3
    generalize setL (wipe σ vs) ix (us.map some) = σ' at f' ⊢
    refine ht env' σ' Hn F2 _ bb f' L2.g.ok h2 fun H3 F3 g3 => ?_
    have L3 := L2.grow g3
    cases bb with
    | false =>
      have h4 : xo = [] := by simpa using h3.symm
      subst h4
      exact ⟨F3, _, L3, by simpa using q4⟩
    | true =>
      obtain ⟨ds1, h4, h5⟩ := Option.bind_eq_some_iff.mp (show (mi1 env').bind (fun ds1 => lcD (turnD mg1 jx nb me (wipeE env' vs1)) ds1) = some xo from h3)
      show wi1 σ' H3 _
      refine hi1 env' σ' H3 F3 _ ds1 (f'.mono g3.f) g3.ok h4 fun J1 H4 F4 g4 w1 => ?_
      obtain ⟨G1, Y1, W1, hG1, hY1⟩ := w1.ex
      have L4 := L3.grow g4
      have f4 : Fit Z F4 (wipeE env' vs1) (wipe σ' vs1) := (f'.mono (g3.trans g4).f).wipe vs1
      refine lc_in W1 (fun j Hc => ∃ Fc pre1, LcI Z F1 H1 Dl (pre ++ pre1) Fc Hc ∧ Same F4 Fc ∧ lcD (turnD mg1 jx nb me (wipeE env' vs1)) (ds1.take j) = some pre1)
        ⟨F4, [], by rw [List.append_nil]; exact L4, Same.refl _, rfl⟩ (fun j Hc _ ⟨Fc, pre1, L, s4, _⟩ => hG1 Hc (s4.trans L.g.ok.s)) ?_ ?_
      · rintro j x1 Hc1 Hn1 hlt1 ⟨Fc1, pre1, L5, s5, hpre1⟩ y1
        obtain ⟨F6, d1, gN1, hd1, rx1⟩ := hY1 j Hc1 x1 Hn1 Fc1 hlt1 s5 L5.g.ok y1
        have L6 := L5.grow gN1
        have s6 : Same F4 F6 := s5.trans gN1.f
        obtain ⟨pre1', xo1, d1', p1, p2, p3, p4⟩ := lcD_get h5 j hlt1
        rw [hpre1] at p1
        cases p1
        rw [hd1] at p2
        cases p2
        have hle1 : pre1.length ≤ xo.length := by
          have e6 : ∀ (l : List D) (o : List D), lcD (turnD mg1 jx nb me (wipeE env' vs1)) l = some o → ∀ j o1, lcD (turnD mg1 jx nb me (wipeE env' vs1)) (l.take j) = some o1 → o1.length ≤ o.length := by
            intro l
            induction l with
            | nil =>
              intro o _ j o1 h
              rw [List.take_nil] at h
              cases h
              exact Nat.zero_le _
            | cons a l ih =>
              intro o h j o1 h'
              cases j with
              | zero => cases h'; exact Nat.zero_le _
              | succ j =>
                rw [List.take_succ_cons] at h'
                unfold lcD at h h'
                simp only [Option.bind_eq_bind, Option.bind_eq_some_iff, Option.pure_def, Option.some.injEq] at h h'
                obtain ⟨x, a1, xs, a2, rfl⟩ := h
                obtain ⟨y, b1, ys, b2, rfl⟩ := h'
                rw [a1] at b1
                cases b1
                have := ih xs a2 j ys b2
                simp
                omega
          exact e6 ds1 xo h5 j pre1 hpre1
        unfold turnD at p3
        simp only [Option.bind_eq_bind, Option.bind_eq_some_iff] at p3
        obtain ⟨xs1, r1, bb1, r2, r3⟩ := p3
        refine hg1 d1 (wipe σ' vs1) Hn1 F6 _ x1 xs1 L6.g.ok rx1 r1 fun us1 lu1 => ⟨(wipe_setL vs1 jx _ _ hx1).trans (wipe_twice σ' vs1), ?_⟩
        have f2 := ((f4.mono s6).setL (ix := jx) lu1)
        generalize setL (wipeE env' vs1) jx (xs1.map some) = env2 at f2 r2 r3
        generalize setL (wipe σ' vs1) jx (us1.map some) = σ2 at f2 ⊢
        refine ht1 env2 σ2 Hn1 F6 _ bb1 f2 L6.g.ok r2 fun H7 F7 g7 => ?_
        have L7 := L6.grow g7
        cases bb1 with
        | false =>
          have r4 : xo1 = none := by simpa using r3.symm
          subst r4
          exact ⟨F7, _, L7, s6.trans g7.f, by simpa using p4⟩
        | true =>
          obtain ⟨dd, r4, rfl⟩ := Option.map_eq_some_iff.mp (show (me env2).map some = some xo1 from r3)
          show te σ2 H7 _
          refine he env2 σ2 H7 F7 _ dd (f2.mono g7.f) g7.ok r4 fun v H8 F8 g8 r8 => ?_
          obtain ⟨acc, ha, hl, L9⟩ := (L7.grow g8).app r8
          refine ⟨acc, ha, ?_, F8, _, by rw [← List.append_assoc]; exact L9, (s6.trans g7.f).trans g8.f, by simpa using p4⟩
          rw [hl]
          refine small_lt hz ?_
          rw [List.length_append] at hle ⊢
          omega
      · rintro Hc1 ⟨Fc1, pre1, L5, s5, hpre1⟩
        rw [List.take_length, h5] at hpre1
        cases hpre1
        exact ⟨Fc1, _, L5, q4⟩
  · have e5 : i = ds.length := by omega
    subst e5
    rw [List.take_length, e2] at hpre
    cases hpre
    obtain ⟨vs', a, l⟩ := L.at_
    exact .inl ⟨W.stops Hc q, k Dl vs' Hc Fc (g1'.trans L.g) L.nF (g1'.free L.nD) a l⟩
theorem x_lc2 {ifs ifs1 : List Expr} {tg1 iter1 : Expr} {scope : Scope} (own : List (Str × Nat)) (vs1 : List Nat) (hN : X.N.Nodup) (hi : EI X tg iter wi mi) (ok : blkC X.N X.env.scope scope own = true) (hv : ∀ i ∈ vs1, i ∈ own.map (·.2)) (hx : ∀ i ∈ ix, i ∈ own.map (·.2)) (hx1 : ∀ i ∈ jx, i ∈ vs1)
    (hg : ∀ s H C cl fp, EG (inBlk X scope s H C cl fp) tg g mg ix) (ht : ∀ s H C cl fp, ETs (inBlk X scope s H C cl fp) ifs qa na)
    (hi1 : ∀ s H C cl fp, EI (inBlk X scope s H C cl fp) tg1 iter1 wi1 mi1) (hg1 : ∀ s H C cl fp, EG (inBlk X scope s H C cl fp) tg1 g1 mg1 jx) (ht1 : ∀ s H C cl fp, ETs (inBlk X scope s H C cl fp) ifs1 qb nb)
    (he : ∀ s H C cl fp, EX (inBlk X scope s H C cl fp) e te me)
    (hc : X.calm = true := by rfl) (hs : ∀ x, foldedSetIterable iter X.env x = pure x := by intro _; rfl) (hs1 : ∀ env x, foldedSetIterable iter1 env x = pure x := by intro _ _; rfl) :
    EXF X (.ListComp e [⟨tg, iter, ifs, 0⟩, ⟨tg1, iter1, ifs1, 0⟩] scope pos) (tLc2 wi g qa wi1 g1 qb te (own.map (·.2)) vs1) (mLc2 mi mg ix na mi1 mg1 jx nb me (own.map (·.2)) vs1) :=
  ⟨pe_lc2 hc hN hi.pi (blkOk_by ok) hv (fun s H C cl fp => (hg s H C cl fp).pg) (fun s H C cl fp => (ht s H C cl fp).pts) (fun s H C cl fp => (hi1 s H C cl fp).pi) (fun s H C cl fp => (hg1 s H C cl fp).pg) (fun s H C cl fp => (ht1 s H C cl fp).pts) (fun s H C cl fp => (he s H C cl fp).pe) hs hs1,
    ev_lc2 hi.ev (hg { } (fun _ => none) 0 [] []).ev hx (ht { } (fun _ => none) 0 [] []).ev (hi1 { } (fun _ => none) 0 [] []).ev (hg1 { } (fun _ => none) 0 [] []).ev hx1 (ht1 { } (fun _ => none) 0 [] []).ev (he { } (fun _ => none) 0 [] []).ev⟩
end EX
set_option Elab.async false
set_option linter.all false
set_option autoImplicit false
set_option maxRecDepth 100000
set_option maxHeartbeats 4000000
/-! E5: statements, defs. -/
namespace EX
open PySem L2
variable [Tb] {Z : Zc} {F F' F1 F2 H H' H1 H2 F0 H0 : Hp} {X : Cx} {ta tb tc te : TE} {ma mb mc me : Env → Option D} {t : TA} {ms : Env → Option (List D)} {pos : Pos} {e a b c : Expr} {es : List Expr}
  {qa qb qc : TT} {na nb nc : Env → Option Bool} {tg iter : Expr} {wi : TI} {mi : Env → Option (List D)} {g : TG} {mg : D → Option (List D)} {vs ix jx : List Nat}

/-! ### slots: unset, frozen data, or a container of one's own that no one else reaches -/
inductive Cn where
  | l (ds : List D) | k (kvs : List (D × D))
inductive Sl where
  | u | f (d : D) | o (c : Cn)
abbrev SEnv := List Sl
def Cn.d : Cn → D
  | .l ds => .lst ds
  | .k kvs => .dct kvs
/-- the container at a, its parts frozen -/
def OwnAt (Z : Zc) (F H : Hp) (a : Addr) : Cn → Prop
  | .l ds => ∃ vs, H a = some (.lst vs) ∧ IsL Z F vs ds
  | .k kvs => ∃ o kv, H a = some (DO a o) ∧ DObj Z o kv kvs ∧ IsP Z F kv kvs ∧ (a == sysModules) = false
theorem do_nt {a : Addr} {o : Obj} (ps : Array Value) : DO a o ≠ .tbl ps := fun z => by
  unfold DO at z
  cases z
theorem OwnAt.at_ {a : Addr} : ∀ {c : Cn}, OwnAt Z F H a c → ∃ u, H a = some u ∧ (∀ ps, u ≠ .tbl ps) ∧ (∀ xs, u ≠ .tup xs) ∧ ∀ o xs, u ≠ .frz o (.tup xs)
  | .l ds, ⟨vs, h, _⟩ => ⟨_, h, lst_nt, fun _ z => (by cases z), fun _ _ z => (by cases z)⟩
  | .k kvs, ⟨o, kv, h, _⟩ => ⟨_, h, do_nt, fun _ z => by (unfold DO at z; cases z), fun _ _ z => by (unfold DO at z; cases z)⟩
theorem OwnAt.mono {a : Addr} (e : Same F F') (k : ∀ u, H a = some u → (∀ ps, u ≠ .tbl ps) → H' a = some u) : ∀ {c : Cn}, OwnAt Z F H a c → OwnAt Z F' H' a c
  | .l ds, ⟨vs, h, l⟩ => ⟨vs, k _ h lst_nt, l.mono e⟩
  | .k kvs, ⟨o, kv, h, q, l, n⟩ => ⟨o, kv, k _ h do_nt, q, l.mono e, n⟩
theorem OwnAt.is {a : Addr} (e : F a = H a) : ∀ {c : Cn}, OwnAt Z F H a c → Is Z F (.ref a) c.d
  | .l ds, ⟨vs, h, l⟩ => .lst (.of (e.trans h)) l
  | .k kvs, ⟨o, kv, h, q, l, n⟩ => .dct (e.trans h) q l n
structure FitS (Z : Zc) (F0 H0 F : Hp) (se : SEnv) (σ : L2.St) (H : Hp) : Prop where
  g : Grow Z F0 H0 F H
  len : se.length = σ.length
  fz : ∀ (i : Nat) (d : D), se[i]? = some (.f d) → ∃ v, σ[i]? = some (some v) ∧ Is Z F v d
  ow : ∀ (i : Nat) (c : Cn), se[i]? = some (.o c) → ∃ a, σ[i]? = some (some (.ref a)) ∧ OwnAt Z F H a c ∧ F a = none ∧ H0 a = none
  dis : ∀ (i j : Nat) (c c' : Cn) (a : Addr), se[i]? = some (.o c) → se[j]? = some (.o c') → σ[i]? = some (some (.ref a)) → σ[j]? = some (some (.ref a)) → i = j
/-- what an expression may read: b: one's own containers too -/
def rdAt (b : Bool) : Sl → Option D
  | .u => none
  | .f d => some d
  | .o c => if b = true then some c.d else none
def rd (b : Bool) (se : SEnv) : Env := se.map (rdAt b)
variable {se : SEnv} {σ : L2.St}
theorem FitS.grow (h : FitS Z F0 H0 F se σ H) (g : Grow Z F H F' H') : FitS Z F0 H0 F' se σ H' where
  g := h.g.trans g
  len := h.len
  fz := fun i d e => let ⟨v, a, b⟩ := h.fz i d e; ⟨v, a, b.mono g.f⟩
  ow := fun i c e => by
    obtain ⟨a, e1, e2, e3, e4⟩ := h.ow i c e
    obtain ⟨u, q, _⟩ := e2.at_
    exact ⟨a, e1, e2.mono g.f (fun u q n => g.h a u q n), (g.o a (ne_some q)).trans e3, e4⟩
  dis := h.dis
theorem FitS.fit (h : FitS Z F0 H0 F se σ H) : Fit Z F (rd false se) σ := by
  refine ⟨by simp [rd, h.len], fun i d e => ?_⟩
  unfold rd at e
  rw [List.getElem?_map] at e
  cases q : se[i]? with
  | none => rw [q] at e; cases e
  | some s =>
    rw [q] at e
    cases s with
    | u => cases e
    | f d' => cases e; exact h.fz i d q
    | o c => cases e
/-- an address of one's own -/
def OwnA (se : SEnv) (σ : L2.St) (a : Addr) : Prop := ∃ (i : Nat) (c : Cn), se[i]? = some (.o c) ∧ σ[i]? = some (some (.ref a))
open Classical in
/-- F and one's own -/
noncomputable def addO (se : SEnv) (σ : L2.St) (F H : Hp) : Hp := fun a => if OwnA se σ a then H a else F a
open Classical in
/-- F without one's own -/
noncomputable def subO (se : SEnv) (σ : L2.St) (F : Hp) : Hp := fun a => if OwnA se σ a then none else F a
theorem addO_own {a : Addr} (h : OwnA se σ a) : addO se σ F H a = H a := by unfold addO; rw [if_pos h]
theorem addO_not {a : Addr} (h : ¬ OwnA se σ a) : addO se σ F H a = F a := by unfold addO; rw [if_neg h]
theorem subO_own {a : Addr} (h : OwnA se σ a) : subO se σ F a = none := by unfold subO; rw [if_pos h]
theorem subO_not {a : Addr} (h : ¬ OwnA se σ a) : subO se σ F a = F a := by unfold subO; rw [if_neg h]
theorem FitS.at_own (h : FitS Z F0 H0 F se σ H) {a : Addr} (o : OwnA se σ a) : ∃ c, OwnAt Z F H a c ∧ F a = none ∧ H0 a = none := by
  obtain ⟨i, c, e1, e2⟩ := o
  obtain ⟨a', q1, q2, q3, q4⟩ := h.ow i c e1
  rw [e2] at q1
  cases q1
  exact ⟨c, q2, q3, q4⟩
theorem FitS.same_add (h : FitS Z F0 H0 F se σ H) : Same F (addO se σ F H) := fun a u e => by
  rw [addO_not fun o => ?_]
  · exact e
  · obtain ⟨_, _, n, _⟩ := h.at_own o
    rw [n] at e
    cases e
theorem FitS.ok_add (h : FitS Z F0 H0 F se σ H) : Ok Z (addO se σ F H) H where
  s := fun a u e => by
    by_cases o : OwnA se σ a
    · rw [addO_own o] at e; exact e
    · rw [addO_not o] at e; exact h.g.ok.s a u e
  n := fun a ps e => by
    by_cases o : OwnA se σ a
    · rw [addO_own o] at e
      obtain ⟨c, q, _⟩ := h.at_own o
      obtain ⟨u, q1, q2, _⟩ := q.at_
      rw [q1] at e
      exact q2 ps (Option.some.inj e)
    · rw [addO_not o] at e; exact h.g.ok.n a ps e
  t := h.g.ok.t
theorem FitS.grow_add (h : FitS Z F0 H0 F se σ H) : Grow Z F0 H0 (addO se σ F H) H where
  f := h.g.f.trans h.same_add
  ok := h.ok_add
  h := h.g.h
  u := h.g.u
  o := fun a ha => by
    rw [addO_not fun o => ?_]
    · exact h.g.o a ha
    · obtain ⟨_, _, _, n⟩ := h.at_own o
      exact ha n
theorem FitS.fit_add (h : FitS Z F0 H0 F se σ H) : Fit Z (addO se σ F H) (rd true se) σ := by
  refine ⟨by simp [rd, h.len], fun i d e => ?_⟩
  unfold rd at e
  rw [List.getElem?_map] at e
  cases q : se[i]? with
  | none => rw [q] at e; cases e
  | some s =>
    rw [q] at e
    cases s with
    | u => cases e
    | f d' =>
      cases e
      obtain ⟨v, a, b⟩ := h.fz i d q
      exact ⟨v, a, b.mono h.same_add⟩
    | o c =>
      cases e
      obtain ⟨a, e1, e2, e3, e4⟩ := h.ow i c q
      have o : OwnA se σ a := ⟨i, c, q, e1⟩
      exact ⟨.ref a, e1, (e2.mono h.same_add fun _ q _ => q).is (addO_own o)⟩
theorem FitS.same_back (h : FitS Z F0 H0 F se σ H) (g : Grow Z (addO se σ F H) H F' H') : Same F (subO se σ F') := fun a u e => by
  rw [subO_not fun o => ?_]
  · exact g.f a u (h.same_add a u e)
  · obtain ⟨_, _, n, _⟩ := h.at_own o
    rw [n] at e
    cases e
/-- behind an expression that read one's own -/
theorem FitS.back (h : FitS Z F0 H0 F se σ H) (g : Grow Z (addO se σ F H) H F' H') : FitS Z F0 H0 (subO se σ F') se σ H' := by
  have sm : Same F (subO se σ F') := h.same_back g
  refine ⟨⟨h.g.f.trans sm, ⟨fun a u e => ?_, fun a ps e => ?_, g.ok.t⟩, h.g.h.trans g.h, fun a ha => g.u a (h.g.u a ha), fun a ha => ?_⟩, h.len, fun i d e => ?_, fun i c e => ?_, h.dis⟩
  · by_cases o : OwnA se σ a
    · rw [subO_own o] at e; cases e
    · rw [subO_not o] at e; exact g.ok.s a u e
  · by_cases o : OwnA se σ a
    · rw [subO_own o] at e; cases e
    · rw [subO_not o] at e; exact g.ok.n a ps e
  · have no : ¬ OwnA se σ a := fun o => by
      obtain ⟨_, _, _, n⟩ := h.at_own o
      exact ha n
    rw [subO_not no, g.o a (h.g.u a ha), addO_not no]
    exact h.g.o a ha
  · obtain ⟨v, q1, q2⟩ := h.fz i d e
    exact ⟨v, q1, q2.mono sm⟩
  · obtain ⟨a, e1, e2, e3, e4⟩ := h.ow i c e
    exact ⟨a, e1, e2.mono sm (fun u q n => g.h a u q n), subO_own ⟨i, c, e, e1⟩, e4⟩

/-! ### data that holds no container that may change -/
mutual
def imm : D → Bool
  | .non => true
  | .bl _ => true
  | .int _ => true
  | .str _ => true
  | .tup xs => immL xs
  | .adr _ => true
  | _ => false
def immL : List D → Bool
  | [] => true
  | x :: xs => imm x && immL xs
end
theorem FitS.tup_back (h : FitS Z F0 H0 F se σ H) (g : Grow Z (addO se σ F H) H F' H') {a : Addr} {xs : List V} (q : SqT Z.K F' a xs) : SqT Z.K (subO se σ F') a xs := by
  rcases q with q | q
  · have no : ¬ OwnA se σ a := fun o => by
      obtain ⟨c, q1, _⟩ := h.at_own o
      obtain ⟨u, e1, n1, n2, n3⟩ := q1.at_
      have e2 := g.h a u e1 n1
      rcases q with q | ⟨ob, q⟩
      · have := g.ok.s a _ q
        rw [e2] at this
        exact n2 xs (Option.some.inj this)
      · have := g.ok.s a _ q
        rw [e2] at this
        exact n3 ob xs (Option.some.inj this)
    rcases q with q | ⟨ob, q⟩
    · exact .inl (.inl (by rw [subO_not no]; exact q))
    · exact .inl (.inr ⟨ob, by rw [subO_not no]; exact q⟩)
  · exact .inr q
theorem FitS.tupN_back (h : FitS Z F0 H0 F se σ H) (g : Grow Z (addO se σ F H) H F' H') {a : Addr} {xs : List V} (q : TupN Z.K F' a xs) : TupN Z.K (subO se σ F') a xs := by
  rcases q with ⟨o, q, d⟩ | ⟨q, d⟩
  · have no : ¬ OwnA se σ a := fun ow => by
      obtain ⟨c, q1, _⟩ := h.at_own ow
      obtain ⟨u, e1, n1, n2, n3⟩ := q1.at_
      have e2 := g.h a u e1 n1
      have := g.ok.s a _ q
      rw [e2] at this
      exact n3 o xs (Option.some.inj this)
    exact .inl ⟨o, by rw [subO_not no]; exact q, d⟩
  · exact .inr ⟨h.tup_back g q, d⟩
mutual
theorem FitS.is_back (h : FitS Z F0 H0 F se σ H) (g : Grow Z (addO se σ F H) H F' H') : ∀ {v : V} {d : D}, imm d = true → Is Z F' v d → Is Z (subO se σ F') v d
  | _, _, _, .non => .non
  | _, _, _, .bl => .bl
  | _, _, _, .int => .int
  | _, _, _, .str => .str
  | _, _, i, .tup q l => .tup (h.tupN_back g q) (FitS.isL_back h g (by simpa [imm] using i) l)
  | _, _, i, .lst _ _ => by simp [imm] at i
  | _, _, i, .dct _ _ _ _ => by simp [imm] at i
  | _, _, i, .obj _ _ => by simp [imm] at i
  | _, _, _, .adr => .adr
theorem FitS.isL_back (h : FitS Z F0 H0 F se σ H) (g : Grow Z (addO se σ F H) H F' H') : ∀ {v : List V} {d : List D}, immL d = true → IsL Z F' v d → IsL Z (subO se σ F') v d
  | _, _, _, .nil => .nil
  | _, _, i, .cons r l => by
    simp only [immL, Bool.and_eq_true] at i
    exact .cons (FitS.is_back h g i.1 r) (FitS.isL_back h g i.2 l)
end

/-! ### a statement's meaning -/
inductive Res where
  | nx (se : SEnv) | bk (se : SEnv) | ct (se : SEnv) | rt (d : D)
def Post (Z : Zc) (F0 H0 F : Hp) (D0 : Ends) : Res → Prop
  | .nx se => ∀ σ H F', FitS Z F0 H0 F' se σ H → Same F F' → D0.nx σ H
  | .bk se => ∀ σ H F', FitS Z F0 H0 F' se σ H → Same F F' → D0.bk σ H
  | .ct se => ∀ σ H F', FitS Z F0 H0 F' se σ H → Same F F' → D0.ct σ H
  | .rt d => ∀ v H F', Grow Z F0 H0 F' H → Is Z F' v d → D0.rt v H
theorem Post.mono {D0 : Ends} {r : Res} (h : Post Z F0 H0 F D0 r) (e : Same F F1) : Post Z F0 H0 F1 D0 r := by
  cases r with
  | nx se => exact fun σ H F' f s => h σ H F' f (e.trans s)
  | bk se => exact fun σ H F' f s => h σ H F' f (e.trans s)
  | ct se => exact fun σ H F' f s => h σ H F' f (e.trans s)
  | rt d => exact h
abbrev SM := SEnv → Option Res
def EvS (Z : Zc) (t : TS) (m : SM) : Prop := ∀ se σ H F0 H0 F (D0 : Ends) r, FitS Z F0 H0 F se σ H → m se = some r → Post Z F0 H0 F D0 r → t D0 σ H
structure ES (X : Cx) (st : Stmt) (t : TS) (m : SM) : Prop where
  ps : PS X st t
  ev : EvS (zOf X) t m
structure ESs (X : Cx) (st : List Stmt) (t : TS) (m : SM) : Prop where
  pss : PSs X st t
  ev : EvS (zOf X) t m
variable {st : Stmt} {sts rest : List Stmt} {u w : TS} {m m1 m2 : SM}
def sNil : SM := fun se => some (.nx se)
def thenS (m1 m2 : SM) : SM := fun se => (m1 se).bind fun
  | .nx se' => m2 se'
  | r => some r
theorem evS_next : EvS Z tNext sNil := fun se σ H F0 H0 F D0 r f e p => by
  cases e
  exact p σ H F f (Same.refl _)
theorem evS_seq (h1 : EvS Z u m1) (h2 : EvS Z w m2) : EvS Z (tSeq u w) (thenS m1 m2) := fun se σ H F0 H0 F D0 r f e p => by
  obtain ⟨r1, e1, e2⟩ := Option.bind_eq_some_iff.mp e
  refine h1 se σ H F0 H0 F _ r1 f e1 ?_
  cases r1 with
  | nx se' => exact fun σ' H' F' f' s' => h2 se' σ' H' F0 H0 F' D0 r f' e2 (p.mono s')
  | bk se' => cases e2; exact p
  | ct se' => cases e2; exact p
  | rt d => cases e2; exact p
theorem ss_nil : ESs X [] tNext sNil := ⟨pss_nil, evS_next⟩
theorem ss_cons (h1 : ES X st u m1) (h2 : ESs X rest w m2) : ESs X (st :: rest) (tSeq u w) (thenS m1 m2) := ⟨pss_cons h1.ps h2.pss, evS_seq h1.ev h2.ev⟩
theorem ss_one (h1 : ES X st u m1) : ESs X [st] u m1 := ⟨pss_one h1.ps, h1.ev⟩
theorem s_pass : ES X (.Pass pos) tNext sNil := ⟨ps_pass, evS_next⟩
theorem s_break : ES X (.Break pos) tBreak (fun se => some (.bk se)) := ⟨ps_break, fun se σ H F0 H0 F D0 r f e p => by cases e; exact p σ H F f (Same.refl _)⟩
theorem s_continue : ES X (.Continue pos) tCont (fun se => some (.ct se)) := ⟨ps_continue, fun se σ H F0 H0 F D0 r f e p => by cases e; exact p σ H F f (Same.refl _)⟩
theorem s_doc {x j pos pos'} : ES X (.Expr (.Constant (.str x) j pos) pos') tNext sNil := ⟨ps_doc, evS_next⟩
/-- a statement that is never reached -/
def sNever : SM := fun _ => none
theorem s_never : ES X st tNever sNever := ⟨ps_never, fun _ _ _ _ _ _ _ _ _ e _ => nomatch e⟩
/-- return e -/
def sRet (m : Env → Option D) : SM := fun se => (m (rd true se)).map .rt
theorem s_ret (h : EX X e te me) : ES X (.Return (some e) pos) (tRet te) (sRet me) := ⟨ps_ret h.pe, fun se σ H F0 H0 F D0 r f e p => by
  obtain ⟨d, e1, rfl⟩ := Option.map_eq_some_iff.mp e
  exact h.ev _ σ H _ _ d f.fit_add f.ok_add e1 fun v H' F' g r => p v H' F' (f.grow_add.trans g) r⟩
theorem s_retN : ES X (.Return none pos) tRetN (fun _ => some (.rt .non)) := ⟨ps_retN, fun se σ H F0 H0 F D0 r f e p => by
  cases e
  exact p .non H F f.g .non⟩
/-- an expression for its own sake -/
def sDrop (m : Env → Option D) : SM := fun se => (m (rd true se)).map fun _ => .nx se
theorem s_expr (h : EX X e te me) (hs : swapsWith e none pos.line X.env = pure false := by rfl) : ES X (.Expr e pos) (tDrop te) (sDrop me) := ⟨ps_expr h.pe hs, fun se σ H F0 H0 F D0 r f e p => by
  obtain ⟨d, e1, rfl⟩ := Option.map_eq_some_iff.mp e
  exact h.ev _ σ H _ _ d f.fit_add f.ok_add e1 fun v H' F' g r => p σ H' _ (f.back g) (f.same_back g)⟩
/-- if -/
def sIf (n : Env → Option Bool) (m1 m2 : SM) : SM := fun se => (n (rd true se)).bind fun b => if b = true then m1 se else m2 se
theorem s_if {xs ys : List Stmt} (hc : ET X c qa na) (h1 : ESs X xs u m1) (h2 : ESs X ys w m2) : ES X (.If c xs ys pos) (tIfS qa u w) (sIf na m1 m2) := ⟨ps_if hc.pt h1.pss h2.pss, fun se σ H F0 H0 F D0 r f e p => by
  obtain ⟨b, e1, e2⟩ := Option.bind_eq_some_iff.mp e
  refine hc.ev _ σ H _ _ b f.fit_add f.ok_add e1 fun H' F' g => ?_
  have f' := f.back g
  cases b with
  | true => exact h1.ev se σ H' F0 H0 _ D0 r f' e2 (p.mono (f.same_back g))
  | false => exact h2.ev se σ H' F0 H0 _ D0 r f' e2 (p.mono (f.same_back g))⟩

/-! ### stores to slots -/
theorem FitS.set (h : FitS Z F0 H0 F se σ H) {i : Nat} {v : V} {d : D} (r : Is Z F v d) : FitS Z F0 H0 F (se.set i (.f d)) (σ.set i (some v)) H where
  g := h.g
  len := by simp [h.len]
  fz := fun j e q => by
    by_cases hj : i = j
    · subst hj
      by_cases hl : i < se.length
      · rw [List.getElem?_set_self hl] at q
        cases q
        exact ⟨v, by rw [List.getElem?_set_self (by rw [← h.len]; exact hl)], r⟩
      · rw [List.getElem?_eq_none (by simpa using hl)] at q
        cases q
    · rw [List.getElem?_set_ne hj] at q
      rw [List.getElem?_set_ne hj]
      exact h.fz j e q
  ow := fun j c q => by
    by_cases hj : i = j
    · subst hj
      by_cases hl : i < se.length
      · rw [List.getElem?_set_self hl] at q
        cases q
      · rw [List.getElem?_eq_none (by simpa using hl)] at q
        cases q
    · rw [List.getElem?_set_ne hj] at q
      rw [List.getElem?_set_ne hj]
      exact h.ow j c q
  dis := fun j k c c' a q1 q2 q3 q4 => by
    have ne : ∀ {l : Nat} {c : Cn}, (se.set i (.f d))[l]? = some (.o c) → i ≠ l := fun {l c} q hl => by
      subst hl
      by_cases hl : i < se.length
      · rw [List.getElem?_set_self hl] at q
        cases q
      · rw [List.getElem?_eq_none (by simpa using hl)] at q
        cases q
    have n1 := ne q1
    have n2 := ne q2
    rw [List.getElem?_set_ne n1] at q1 q3
    rw [List.getElem?_set_ne n2] at q2 q4
    exact h.dis j k c c' a q1 q2 q3 q4
theorem FitS.setL : ∀ {ix : List Nat} {vs : List V} {ds : List D} {se : SEnv} {σ : L2.St}, FitS Z F0 H0 F se σ H → IsL Z F vs ds → FitS Z F0 H0 F (EX.setL se ix (ds.map Sl.f)) (EX.setL σ ix (vs.map some)) H
  | [], _, _, _, _, f, _ => f
  | _ :: _, _, _, _, _, f, .nil => f
  | i :: ix, _, _, _, _, f, .cons r l => FitS.setL (ix := ix) (f.set r) l
/-- a slot becomes a new container of one's own -/
theorem FitS.setO (h : FitS Z F0 H0 F se σ H) {i : Nat} {a : Addr} {c : Cn} (q : OwnAt Z F H a c) (nF : F a = none) (n0 : H0 a = none) (nw : ∀ (j : Nat) (c' : Cn), j ≠ i → se[j]? = some (.o c') → σ[j]? ≠ some (some (.ref a))) : FitS Z F0 H0 F (se.set i (.o c)) (σ.set i (some (.ref a))) H where
  g := h.g
  len := by simp [h.len]
  fz := fun j e q => by
    by_cases hj : i = j
    · subst hj
      by_cases hl : i < se.length
      · rw [List.getElem?_set_self hl] at q
        cases q
      · rw [List.getElem?_eq_none (by simpa using hl)] at q
        cases q
    · rw [List.getElem?_set_ne hj] at q
      rw [List.getElem?_set_ne hj]
      exact h.fz j e q
  ow := fun j c' q' => by
    by_cases hj : i = j
    · subst hj
      by_cases hl : i < se.length
      · rw [List.getElem?_set_self hl] at q'
        cases q'
        exact ⟨a, by rw [List.getElem?_set_self (by rw [← h.len]; exact hl)], q, nF, n0⟩
      · rw [List.getElem?_eq_none (by simpa using hl)] at q'
        cases q'
    · rw [List.getElem?_set_ne hj] at q'
      rw [List.getElem?_set_ne hj]
      exact h.ow j c' q'
  dis := fun j k c1 c2 b q1 q2 q3 q4 => by
    have at_i : ∀ {x : Option V}, (σ.set i (some (.ref a)))[i]? = some x → x = some (.ref a) := fun {x} z => by
      by_cases hl : i < σ.length
      · rw [List.getElem?_set_self hl] at z
        exact (Option.some.inj z).symm
      · rw [List.getElem?_eq_none (by simpa using hl)] at z
        cases z
    by_cases hj : i = j
    · by_cases hk : i = k
      · exact hj.symm.trans hk
      · rw [← hj] at q3
        have e := at_i q3
        cases e
        rw [List.getElem?_set_ne hk] at q2 q4
        exact absurd q4 (nw k c2 (Ne.symm hk) q2)
    · by_cases hk : i = k
      · rw [← hk] at q4
        have e := at_i q4
        cases e
        rw [List.getElem?_set_ne hj] at q1 q3
        exact absurd q3 (nw j c1 (Ne.symm hj) q1)
      · rw [List.getElem?_set_ne hj] at q1 q3
        rw [List.getElem?_set_ne hk] at q2 q4
        exact h.dis j k c1 c2 b q1 q2 q3 q4
/-- x = e (its own containers unread, or the value holds none) -/
def sSet (i : Nat) (m : Env → Option D) : SM := fun se => (m (rd false se)).map fun d => .nx (se.set i (.f d))
def sSetB (i : Nat) (m : Env → Option D) : SM := fun se => (m (rd true se)).bind fun d => if imm d = true then some (.nx (se.set i (.f d))) else none
theorem evS_set {i : Nat} (h : Evl Z te me) : EvS Z (tAsg te (gName i)) (sSet i me) := fun se σ H F0 H0 F D0 r f e p => by
  obtain ⟨d, e1, rfl⟩ := Option.map_eq_some_iff.mp e
  exact h _ σ H _ _ d f.fit f.g.ok e1 fun v H' F' g r => p _ H' F' ((f.grow g).set r) g.f
theorem evS_setB {i : Nat} (h : Evl Z te me) : EvS Z (tAsg te (gName i)) (sSetB i me) := fun se σ H F0 H0 F D0 r f e p => by
  obtain ⟨d, e1, e2⟩ := Option.bind_eq_some_iff.mp e
  obtain ⟨hi, rfl⟩ := ite_some e2
  exact h _ σ H _ _ d f.fit_add f.ok_add e1 fun v H' F' g r => p _ H' _ ((f.back g).set (f.is_back g hi r)) (f.same_back g)
theorem s_set (i : Nat) {x : Str} {pos' : Pos} (hN : X.N.Nodup) (h : EX X e te me) (hi : X.N[i]? = some x := by rfl) (hx : Loc X.env.scope x := by first | exact Or.inl rfl | exact Or.inr rfl) (hs : swapsWith e (some (.Name x pos')) pos.line X.env = pure false := by rfl)
    (hf : X.fn x = true ∨ X.env.scope.names.lookup x = some .local := by first | exact .inl rfl | exact .inr rfl | assumption) : ES X (.Assign [.Name x pos'] e pos) (tAsg te (gName i)) (sSet i me) := ⟨ps_set hN hi hx h.pe hs hf, evS_set h.ev⟩
theorem s_setB (i : Nat) {x : Str} {pos' : Pos} (hN : X.N.Nodup) (h : EX X e te me) (hi : X.N[i]? = some x := by rfl) (hx : Loc X.env.scope x := by first | exact Or.inl rfl | exact Or.inr rfl) (hs : swapsWith e (some (.Name x pos')) pos.line X.env = pure false := by rfl)
    (hf : X.fn x = true ∨ X.env.scope.names.lookup x = some .local := by first | exact .inl rfl | exact .inr rfl | assumption) : ES X (.Assign [.Name x pos'] e pos) (tAsg te (gName i)) (sSetB i me) := ⟨ps_set hN hi hx h.pe hs hf, evS_setB h.ev⟩
/-- x = a new list, of one's own -/
def sOwn (i : Nat) (m : Env → Option (List D)) : SM := fun se => (m (rd false se)).map fun ds => .nx (se.set i (.o (.l ds)))
def sOwnB (i : Nat) (m : Env → Option (List D)) : SM := fun se => (m (rd true se)).bind fun ds => if immL ds = true then some (.nx (se.set i (.o (.l ds)))) else none
theorem own_fresh (f : FitS Z F0 H0 F se σ H) {p : Addr} (n : H p = none) : ∀ (j : Nat) (c' : Cn), se[j]? = some (.o c') → σ[j]? ≠ some (some (.ref p)) := fun j c' e q => by
  obtain ⟨a, e1, e2, _⟩ := f.ow j c' e
  rw [q] at e1
  cases e1
  obtain ⟨u, e3, _⟩ := e2.at_
  rw [n] at e3
  cases e3
theorem evS_own {i : Nat} (h : EvF Z te ms) : EvS Z (tAsg te (gName i)) (sOwn i ms) := fun se σ H F0 H0 F D0 r f e p => by
  obtain ⟨ds, e1, rfl⟩ := Option.map_eq_some_iff.mp e
  exact h _ σ H _ _ ds f.fit f.g.ok e1 fun q vs H' F' g nF n hq l => p _ H' F' ((f.grow g).setO ⟨vs, hq, l⟩ nF (f.g.free n) fun j c' _ e => own_fresh f n j c' e) g.f
theorem evS_ownB {i : Nat} (h : EvF Z te ms) : EvS Z (tAsg te (gName i)) (sOwnB i ms) := fun se σ H F0 H0 F D0 r f e p => by
  obtain ⟨ds, e1, e2⟩ := Option.bind_eq_some_iff.mp e
  obtain ⟨hi, rfl⟩ := ite_some e2
  refine h _ σ H _ _ ds f.fit_add f.ok_add e1 fun q vs H' F' g nF n hq l => p _ H' _ ((f.back g).setO ⟨vs, hq, f.isL_back g hi l⟩ ?_ (f.g.free n) fun j c' _ e => own_fresh f n j c' e) (f.same_back g)
  by_cases o : OwnA se σ q
  · exact subO_own o
  · rw [subO_not o]; exact nF
/-- one's own is frozen -/
def frz (i : Nat) (se : SEnv) : SEnv := match se[i]? with
  | some (.o c) => se.set i (.f c.d)
  | _ => se
def sFrz (i : Nat) (m : SM) : SM := fun se => m (frz i se)
theorem FitS.frz (h : FitS Z F0 H0 F se σ H) (i : Nat) : ∃ F', FitS Z F0 H0 F' (EX.frz i se) σ H ∧ Same F F' := by
  unfold EX.frz
  split
  · rename_i c e
    obtain ⟨a, e1, e2, e3, e4⟩ := h.ow i c e
    obtain ⟨u, q1, q2, _⟩ := e2.at_
    have sm : Same F (upd F a u) := same_new e3
    refine ⟨upd F a u, ⟨⟨h.g.f.trans sm, ⟨fun b o q => ?_, fun b ps q => ?_, h.g.ok.t⟩, h.g.h, h.g.u, fun b hb => ?_⟩, by simp [h.len], fun j d q => ?_, fun j c' q => ?_, fun j k c1 c2 b r1 r2 r3 r4 => ?_⟩, sm⟩
    · by_cases hb : b = a
      · rw [hb, upd_same] at q; cases q; rw [hb]; exact q1
      · rw [upd_ne hb] at q; exact h.g.ok.s b o q
    · by_cases hb : b = a
      · rw [hb, upd_same] at q; exact q2 ps (Option.some.inj q)
      · rw [upd_ne hb] at q; exact h.g.ok.n b ps q
    · rw [upd_ne fun z => hb (by rw [z]; exact e4)]; exact h.g.o b hb
    · by_cases hj : i = j
      · subst hj
        rw [List.getElem?_set_self (List.getElem?_eq_some_iff.mp e).1] at q
        cases q
        refine ⟨_, e1, (OwnAt.mono (F' := upd F a u) (H' := upd F a u) sm (fun w hw _ => ?_) e2).is rfl⟩
        rw [upd_same, ← q1, hw]
      · rw [List.getElem?_set_ne hj] at q
        obtain ⟨v, r1, r2⟩ := h.fz j d q
        exact ⟨v, r1, r2.mono sm⟩
    · by_cases hj : i = j
      · subst hj
        rw [List.getElem?_set_self (List.getElem?_eq_some_iff.mp e).1] at q
        cases q
      · rw [List.getElem?_set_ne hj] at q
        obtain ⟨a', r1, r2, r3, r4⟩ := h.ow j c' q
        have na : a' ≠ a := fun z => by
          rw [z] at r1
          exact hj (h.dis i j c c' a e q e1 r1)
        exact ⟨a', r1, r2.mono sm fun _ q _ => q, by rw [upd_ne na]; exact r3, r4⟩
    · have ne : ∀ {l : Nat} {c' : Cn}, (se.set i (.f c.d))[l]? = some (.o c') → i ≠ l := fun {l c'} q hl => by
        subst hl
        rw [List.getElem?_set_self (List.getElem?_eq_some_iff.mp e).1] at q
        cases q
      rw [List.getElem?_set_ne (ne r1)] at r1
      rw [List.getElem?_set_ne (ne r2)] at r2
      exact h.dis j k c1 c2 b r1 r2 r3 r4
  · exact ⟨F, h, Same.refl _⟩
theorem s_frz (i : Nat) (h : ES X st u m) : ES X st u (sFrz i m) := ⟨h.ps, fun se σ H F0 H0 F D0 r f e p => by
  obtain ⟨F', f', s'⟩ := f.frz i
  exact h.ev _ σ H F0 H0 F' D0 r f' e (p.mono s')⟩
/-- (a, b) = e: any target -/
def sAsg (m : Env → Option D) (mg : D → Option (List D)) (ix : List Nat) : SM := fun se => (m (rd false se)).bind fun d => (mg d).map fun xs => .nx (setL se ix (xs.map .f))
theorem s_asg (h : EX X e te me) (hg : EG X tg g mg ix) (hs : swapsWithSole [tg] e pos.line X.env = pure false := by rfl) (hw : swappedStores [tg] e X.env = pure none := by rfl) (hv : (assignEach [tg] X.env).map (·.2) = [assign tg X.env] := by rfl) : ES X (.Assign [tg] e pos) (tAsg te g) (sAsg me mg ix) := ⟨ps_asg h.pe hg.pg hs hw hv, fun se σ H F0 H0 F D0 r f e p => by
  obtain ⟨d, e1, e2⟩ := Option.bind_eq_some_iff.mp e
  obtain ⟨xs, e3, rfl⟩ := Option.map_eq_some_iff.mp e2
  exact h.ev _ σ H _ _ d f.fit f.g.ok e1 fun v H' F' g1 r => hg.ev d σ H' F' _ v xs g1.ok r e3 fun us lu => p _ H' F' ((f.grow g1).setL lu) g1.f⟩

/-! ### loops -/
def forD (mg : D → Option (List D)) (ix : List Nat) (m : SM) : List D → SM
  | [], se => some (.nx se)
  | d :: ds, se => (mg d).bind fun xs => (m (setL se ix (xs.map .f))).bind fun
    | .nx se' => forD mg ix m ds se'
    | .ct se' => forD mg ix m ds se'
    | .bk se' => some (.nx se')
    | .rt d => some (.rt d)
def sFor (mi : Env → Option (List D)) (mg : D → Option (List D)) (ix : List Nat) (m : SM) : SM := fun se => (mi (rd false se)).bind fun ds => forD mg ix m ds se
theorem evS_for (hi : EvI Z wi mi) (hg : EvG Z g mg ix) (hb : EvS Z u m) : EvS Z (tFor wi g u) (sFor mi mg ix m) := fun se σ H F0 H0 F D0 r f e p => by
  obtain ⟨ds, e1, e2⟩ := Option.bind_eq_some_iff.mp e
  refine hi _ σ H _ _ ds f.fit f.g.ok e1 fun J H1 F1 g1 w => ?_
  obtain ⟨G, Y, W, hG, hY⟩ := w.ex
  refine for_it W (fun i σ' H' => ∃ se' Fc, FitS Z F0 H0 Fc se' σ' H' ∧ Same F1 Fc ∧ (∃ r', forD mg ix m (ds.drop i) se' = some r' ∧ Post Z F0 H0 Fc D0 r')) ⟨se, F1, f.grow g1, Same.refl _, r, e2, p.mono g1.f⟩ (fun i σ' H' _ ⟨se', Fc, f', s', _⟩ => hG H' (s'.trans f'.g.ok.s)) ?_ ?_
  · rintro i x σ' H' Hn hlt ⟨se', Fc, f', s', r', e', p'⟩ y
    obtain ⟨F2, d, gN, hd, rx⟩ := hY i H' x Hn Fc hlt s' f'.g.ok y
    have f2 := f'.grow gN
    rw [List.drop_eq_getElem_cons hlt] at e'
    obtain ⟨hl, hd'⟩ := List.getElem?_eq_some_iff.mp hd
    rw [hd'] at e'
    obtain ⟨xs, q1, q2⟩ := Option.bind_eq_some_iff.mp (show (mg d).bind _ = some r' from e')
    obtain ⟨r1, q3, q4⟩ := Option.bind_eq_some_iff.mp q2
    refine hg d σ' Hn F2 _ x xs gN.ok rx q1 fun us lu => ?_
    refine hb _ _ Hn F0 H0 F2 _ r1 (f2.setL lu) q3 ?_
    cases r1 with
    | nx se2 => exact fun σ3 H3 F3 f3 s3 => ⟨se2, F3, f3, (s'.trans gN.f).trans s3, r', q4, p'.mono (gN.f.trans s3)⟩
    | ct se2 => exact fun σ3 H3 F3 f3 s3 => ⟨se2, F3, f3, (s'.trans gN.f).trans s3, r', q4, p'.mono (gN.f.trans s3)⟩
    | bk se2 => cases q4; exact fun σ3 H3 F3 f3 s3 => p' σ3 H3 F3 f3 (gN.f.trans s3)
    | rt d2 => cases q4; exact p'
  · rintro σ' H' ⟨se', Fc, f', s', r', e', p'⟩
    rw [List.drop_length] at e'
    cases e'
    exact p' σ' H' Fc f' (Same.refl _)
theorem s_for {body : List Stmt} (hi : EI X tg iter wi mi) (hg : EG X tg g mg ix) (hb : ESs X body u m) (hp : PassesOwn (model X.prog X.w) X.A X.env X.xe := by exact PassesOwn.never) (hc : X.calm = true := by rfl)
    (hs : ∀ x, foldedSetIterable iter X.env x = pure x := by intro _; rfl) : ES X (.For tg iter body [] pos) (tFor wi g u) (sFor mi mg ix m) := ⟨ps_for hp hc hi.pi hg.pg hb.pss hs, evS_for hi.ev hg.ev hb.ev⟩
/-- while, by fuel -/
def whileD (n : Env → Option Bool) (m : SM) : Nat → SM
  | 0, _ => none
  | k + 1, se => (n (rd true se)).bind fun b => if b = true then ((m se).bind fun
    | .nx se' => whileD n m k se'
    | .ct se' => whileD n m k se'
    | .bk se' => some (.nx se')
    | .rt d => some (.rt d)) else some (.nx se)
theorem evS_while (k : Nat) (hc : EvT Z qa na) (hb : EvS Z u m) : EvS Z (tWhile qa u) (whileD na m k) := fun se σ H F0 H0 F D0 r f e p => by
  refine ⟨fun k σ' H' => ∃ se' Fc r', FitS Z F0 H0 Fc se' σ' H' ∧ whileD na m k se' = some r' ∧ Post Z F0 H0 Fc D0 r', ⟨k, se, F, r, f, e, p⟩, ?_⟩
  rintro k σ' H' ⟨se', Fc, r', f', e', p'⟩
  cases k with
  | zero => cases e'
  | succ k =>
    obtain ⟨b, e1, e2⟩ := Option.bind_eq_some_iff.mp (show (na (rd true se')).bind _ = some r' from e')
    refine hc _ σ' H' _ _ b f'.fit_add f'.ok_add e1 fun H1 F1 g => ?_
    have f1 := f'.back g
    have s1 := f'.same_back g
    cases b with
    | false =>
      have e3 : Res.nx se' = r' := by simpa using e2
      rw [← e3] at p'
      exact p' σ' H1 _ f1 s1
    | true =>
      obtain ⟨r1, q1, q2⟩ := Option.bind_eq_some_iff.mp (show (m se').bind _ = some r' from e2)
      refine ⟨fun σ2 H2 => ∃ se2 F2 r2, FitS Z F0 H0 F2 se2 σ2 H2 ∧ whileD na m k se2 = some r2 ∧ Post Z F0 H0 F2 D0 r2, fun σ2 H2 ⟨se2, F2, r2, a1, a2, a3⟩ => ⟨k, Nat.lt_succ_self k, se2, F2, r2, a1, a2, a3⟩, ?_⟩
      refine hb se' σ' H1 F0 H0 _ _ r1 f1 q1 ?_
      cases r1 with
      | nx se2 => exact fun σ3 H3 F3 f3 s3 => ⟨se2, F3, r', f3, q2, p'.mono (s1.trans s3)⟩
      | ct se2 => exact fun σ3 H3 F3 f3 s3 => ⟨se2, F3, r', f3, q2, p'.mono (s1.trans s3)⟩
      | bk se2 => cases q2; exact fun σ3 H3 F3 f3 s3 => p' σ3 H3 F3 f3 (s1.trans s3)
      | rt d2 => cases q2; exact p'
theorem s_while (k : Nat) {body : List Stmt} (h : ET X c qa na) (hb : ESs X body u m) (hp : PassesOwn (model X.prog X.w) X.A X.env X.xe := by exact PassesOwn.never) : ES X (.While c body [] pos) (tWhile qa u) (whileD na m k) :=
  ⟨ps_while hp h.pt hb.pss, evS_while k h.ev hb.ev⟩
end EX
set_option Elab.async false
set_option linter.all false
set_option autoImplicit false
set_option maxRecDepth 100000
set_option maxHeartbeats 4000000
/-! E6: data as they are read, operators, built-in functions. -/
namespace EX
open PySem L2
variable [Tb] {Z : Zc} {F F' F1 F2 H H' H1 H2 F0 H0 : Hp} {X : Cx} {ta tb tc te : TE} {ma mb mc me : Env → Option D} {t : TA} {ms : Env → Option (List D)} {pos : Pos} {e a b c : Expr} {es : List Expr}
  {qa qb qc : TT} {na nb nc : Env → Option Bool}

/-! ### data that can be read: no dict, no object -/
mutual
def pyOf : D → PyData
  | .non => .none
  | .bl b => .bool b
  | .int i => .int i
  | .str s => .str s
  | .tup xs => .tuple (pyOfL xs)
  | .lst xs => .list (pyOfL xs)
  | _ => .none
def pyOfL : List D → List PyData
  | [] => []
  | x :: xs => pyOf x :: pyOfL xs
end
mutual
def okD : Nat → D → Bool
  | _, .non => true
  | _, .bl _ => true
  | _, .int _ => true
  | _, .str _ => true
  | n + 1, .tup xs => okL n xs
  | n + 1, .lst xs => okL n xs
  | _, _ => false
def okL : Nat → List D → Bool
  | _, [] => true
  | n, x :: xs => okD n x && okL n xs
end
mutual
/-- Python's == on them -/
def eqD : D → D → Bool
  | .non, .non => true
  | .bl a, .bl b => a == b
  | .bl a, .int j => (if a then 1 else 0) == j
  | .int i, .bl b => i == (if b then 1 else 0)
  | .int i, .int j => i == j
  | .str x, .str y => x == y
  | .lst xs, .lst ys => eqL xs ys
  | .tup xs, .tup ys => eqL xs ys
  | _, _ => false
def eqL : List D → List D → Bool
  | [], [] => true
  | x :: xs, y :: ys => eqD x y && eqL xs ys
  | _, _ => false
end
theorem pyOfL_map : ∀ xs : List D, pyOfL xs = xs.map pyOf
  | [] => rfl
  | x :: xs => by rw [pyOfL, pyOfL_map xs]; rfl
mutual
theorem eqv_eq : ∀ (n m : Nat) (x y : D), okD n x = true → okD m y = true → PyData.eqv (pyOf x) (pyOf y) = eqD x y
  | n, m, .tup xs, .tup ys, h, h' => by
    cases n with
    | zero => simp [okD] at h
    | succ n =>
      cases m with
      | zero => simp [okD] at h'
      | succ m =>
        simp only [okD] at h h'
        simp only [pyOf, PyData.eqv, eqD]
        exact eqv_eqL n m xs ys h h'
  | n, m, .lst xs, .lst ys, h, h' => by
    cases n with
    | zero => simp [okD] at h
    | succ n =>
      cases m with
      | zero => simp [okD] at h'
      | succ m =>
        simp only [okD] at h h'
        simp only [pyOf, PyData.eqv, eqD]
        exact eqv_eqL n m xs ys h h'
  | n, m, x, .dct _, _, h' => by simp [okD] at h'
  | n, m, x, .obj _ _, _, h' => by simp [okD] at h'
  | n, m, x, .adr _, _, h' => by simp [okD] at h'
  | n, m, .dct _, y, h, _ => by simp [okD] at h
  | n, m, .obj _ _, y, h, _ => by simp [okD] at h
  | n, m, .adr _, y, h, _ => by simp [okD] at h
  | _, _, .non, .non, _, _ => by simp [pyOf, PyData.eqv, eqD]
  | _, _, .non, .bl _, _, _ => by simp [pyOf, PyData.eqv, eqD]
  | _, _, .non, .int _, _, _ => by simp [pyOf, PyData.eqv, eqD]
  | _, _, .non, .str _, _, _ => by simp [pyOf, PyData.eqv, eqD]
  | _, _, .non, .tup _, _, _ => by simp [pyOf, PyData.eqv, eqD]
  | _, _, .non, .lst _, _, _ => by simp [pyOf, PyData.eqv, eqD]
  | _, _, .bl _, .non, _, _ => by simp [pyOf, PyData.eqv, eqD]
  | _, _, .bl _, .bl _, _, _ => by simp [pyOf, PyData.eqv, eqD]
  | _, _, .bl _, .int _, _, _ => by simp [pyOf, PyData.eqv, eqD]
  | _, _, .bl _, .str _, _, _ => by simp [pyOf, PyData.eqv, eqD]
  | _, _, .bl _, .tup _, _, _ => by simp [pyOf, PyData.eqv, eqD]
  | _, _, .bl _, .lst _, _, _ => by simp [pyOf, PyData.eqv, eqD]
  | _, _, .int _, .non, _, _ => by simp [pyOf, PyData.eqv, eqD]
  | _, _, .int _, .bl _, _, _ => by simp [pyOf, PyData.eqv, eqD]
  | _, _, .int _, .int _, _, _ => by simp [pyOf, PyData.eqv, eqD]
  | _, _, .int _, .str _, _, _ => by simp [pyOf, PyData.eqv, eqD]
  | _, _, .int _, .tup _, _, _ => by simp [pyOf, PyData.eqv, eqD]
  | _, _, .int _, .lst _, _, _ => by simp [pyOf, PyData.eqv, eqD]
  | _, _, .str _, .non, _, _ => by simp [pyOf, PyData.eqv, eqD]
  | _, _, .str _, .bl _, _, _ => by simp [pyOf, PyData.eqv, eqD]
  | _, _, .str _, .int _, _, _ => by simp [pyOf, PyData.eqv, eqD]
  | _, _, .str _, .str _, _, _ => by simp [pyOf, PyData.eqv, eqD]
  | _, _, .str _, .tup _, _, _ => by simp [pyOf, PyData.eqv, eqD]
  | _, _, .str _, .lst _, _, _ => by simp [pyOf, PyData.eqv, eqD]
  | _, _, .tup _, .non, _, _ => by simp [pyOf, PyData.eqv, eqD]
  | _, _, .tup _, .bl _, _, _ => by simp [pyOf, PyData.eqv, eqD]
  | _, _, .tup _, .int _, _, _ => by simp [pyOf, PyData.eqv, eqD]
  | _, _, .tup _, .str _, _, _ => by simp [pyOf, PyData.eqv, eqD]
  | _, _, .tup _, .lst _, _, _ => by simp [pyOf, PyData.eqv, eqD]
  | _, _, .lst _, .non, _, _ => by simp [pyOf, PyData.eqv, eqD]
  | _, _, .lst _, .bl _, _, _ => by simp [pyOf, PyData.eqv, eqD]
  | _, _, .lst _, .int _, _, _ => by simp [pyOf, PyData.eqv, eqD]
  | _, _, .lst _, .str _, _, _ => by simp [pyOf, PyData.eqv, eqD]
  | _, _, .lst _, .tup _, _, _ => by simp [pyOf, PyData.eqv, eqD]
theorem eqv_eqL : ∀ (n m : Nat) (xs ys : List D), okL n xs = true → okL m ys = true → PyData.eqvAll (pyOfL xs) (pyOfL ys) = eqL xs ys
  | _, _, [], [], _, _ => by simp [pyOfL, PyData.eqvAll, eqL]
  | _, _, [], _ :: _, _, _ => by simp [pyOfL, PyData.eqvAll, eqL]
  | _, _, _ :: _, [], _, _ => by simp [pyOfL, PyData.eqvAll, eqL]
  | n, m, x :: xs, y :: ys, h, h' => by
    simp only [okL, Bool.and_eq_true] at h h'
    simp only [pyOfL, PyData.eqvAll, eqL, eqv_eq n m x y h.1 h'.1, eqv_eqL n m xs ys h.2 h'.2]
end
mutual
theorem plain_of : ∀ (n : Nat) (x : D), okD n x = true → (pyOf x).plain = true
  | _, .non, _ => by simp [pyOf, PyData.plain]
  | _, .bl _, _ => by simp [pyOf, PyData.plain]
  | _, .int _, _ => by simp [pyOf, PyData.plain]
  | _, .str _, _ => by simp [pyOf, PyData.plain]
  | n, .tup xs, h => by
    cases n with
    | zero => simp [okD] at h
    | succ n => simp only [okD] at h; simp only [pyOf, PyData.plain]; exact plain_ofL n xs h
  | n, .lst xs, h => by
    cases n with
    | zero => simp [okD] at h
    | succ n => simp only [okD] at h; simp only [pyOf, PyData.plain]; exact plain_ofL n xs h
  | _, .dct _, h => by simp [okD] at h
  | _, .obj _ _, h => by simp [okD] at h
  | _, .adr _, h => by simp [okD] at h
theorem plain_ofL : ∀ (n : Nat) (xs : List D), okL n xs = true → PyData.plainAll (pyOfL xs) = true
  | _, [], _ => by simp [pyOfL, PyData.plainAll]
  | n, x :: xs, h => by
    simp only [okL, Bool.and_eq_true] at h
    simp only [pyOfL, PyData.plainAll, plain_of n x h.1, plain_ofL n xs h.2, Bool.and_self]
end
mutual
theorem depth_of : ∀ (n : Nat) (x : D), okD n x = true → (pyOf x).depth ≤ n
  | _, .non, _ => by simp [pyOf, PyData.depth]
  | _, .bl _, _ => by simp [pyOf, PyData.depth]
  | _, .int _, _ => by simp [pyOf, PyData.depth]
  | _, .str _, _ => by simp [pyOf, PyData.depth]
  | n, .tup xs, h => by
    cases n with
    | zero => simp [okD] at h
    | succ n => simp only [okD] at h; simp only [pyOf, PyData.depth]; have := depth_ofL n xs h; omega
  | n, .lst xs, h => by
    cases n with
    | zero => simp [okD] at h
    | succ n => simp only [okD] at h; simp only [pyOf, PyData.depth]; have := depth_ofL n xs h; omega
  | _, .dct _, h => by simp [okD] at h
  | _, .obj _ _, h => by simp [okD] at h
  | _, .adr _, h => by simp [okD] at h
theorem depth_ofL : ∀ (n : Nat) (xs : List D), okL n xs = true → PyData.depthAll (pyOfL xs) ≤ n
  | _, [], _ => by simp [pyOfL, PyData.depthAll]
  | n, x :: xs, h => by
    simp only [okL, Bool.and_eq_true] at h
    simp only [pyOfL, PyData.depthAll]
    have h1 := depth_of n x h.1
    have h2 := depth_ofL n xs h.2
    omega
end
mutual
theorem Is.dp (s : Same F H) : ∀ {n : Nat} {v : V} {d : D}, okD n d = true → Is Z F v d → Dp Z.K H v (pyOf d)
  | _, _, _, _, .non => .non
  | _, _, _, _, .bl => .bl _
  | _, _, _, _, .int => .int _
  | _, _, _, _, .str => .str _
  | 0, _, _, h, .tup _ _ => by simp [okD] at h
  | n + 1, _, _, h, .tup q l => .tup (same_t s q) (IsL.dp s (n := n) (by simpa only [okD] using h) l)
  | 0, _, _, h, .lst _ _ => by simp [okD] at h
  | n + 1, _, _, h, .lst q l => .lst (same_l s q) (IsL.dp s (n := n) (by simpa only [okD] using h) l)
  | _, _, _, h, .dct _ _ _ _ => by simp [okD] at h
  | _, _, _, h, .obj _ _ => by simp [okD] at h
  | _, _, _, h, .adr => by simp [okD] at h
theorem IsL.dp (s : Same F H) : ∀ {n : Nat} {v : List V} {d : List D}, okL n d = true → IsL Z F v d → DpAll Z.K H v (pyOfL d)
  | _, _, _, _, .nil => .nil
  | n, _, _, h, .cons r l => by
    simp only [okL, Bool.and_eq_true] at h
    exact .cons (Is.dp s h.1 r) (IsL.dp s h.2 l)
end
/-- what is read of it, in a state -/
theorem Is.reads {pins : List (Addr × Obj)} {σ : L2.St} {s : Shared} {n : Nat} {v : V} {d : D} {u : Value} (I : Inv X pins σ H s) (f : Same F H) (h : okD n d = true) (r : Is (zOf X) F v d) (rv : RelV v u) : ∃ as, Reads s.heap u (pyOf d) as :=
  Dp.reads I (pyOf d) v u (r.dp f h) rv
theorem units64 {k : Nat} {A : Around} (hr : Room k A) : A.units + 100 < cLine := by
  have := hr.un
  omega
/-! ### ==, != -/
def rCmpP (Z : Zc) (g : Bool → Bool) : R2 := fun x y H Q => ∃ F dx dy, Same F H ∧ Is Z F x dx ∧ Is Z F y dy ∧ okD 30 dx = true ∧ okD 30 dy = true ∧ Q (.bl (g (eqD dx dy))) H
theorem op_eqP {k : Nat} (hr : Room k X.A) : OpR X (compareOp .Eq) (rCmpP (zOf X) id) := by
  intro pins s σ H x y v u Q I rx ry h
  obtain ⟨F, dx, dy, f, h1, h2, o1, o2, q⟩ := h
  obtain ⟨as, r1⟩ := h1.reads I f o1 rx
  obtain ⟨bs, r2⟩ := h2.reads I f o2 ry
  have := units64 hr
  have d1 := depth_of _ _ o1
  refine SeqAt.eq_plain r1 r2 (plain_of _ _ o1) (plain_of _ _ o2) (by omega) ?_
  rw [eqv_eq _ _ _ _ o1 o2]
  exact ⟨.bl _, H, I, rfl, q⟩
theorem op_neP {k : Nat} (hr : Room k X.A) : OpR X (compareOp .NotEq) (rCmpP (zOf X) (!·)) := by
  intro pins s σ H x y v u Q I rx ry h
  obtain ⟨F, dx, dy, f, h1, h2, o1, o2, q⟩ := h
  obtain ⟨as, r1⟩ := h1.reads I f o1 rx
  obtain ⟨bs, r2⟩ := h2.reads I f o2 ry
  have := units64 hr
  have d1 := depth_of _ _ o1
  refine SeqAt.ne_plain r1 r2 (plain_of _ _ o1) (plain_of _ _ o2) (by omega) ?_
  rw [eqv_eq _ _ _ _ o1 o2]
  exact ⟨.bl _, H, I, rfl, q⟩
def dEq (x y : D) : Option D := if (okD 30 x && okD 30 y) = true then some (.bl (eqD x y)) else none
def dNe (x y : D) : Option D := if (okD 30 x && okD 30 y) = true then some (.bl (!eqD x y)) else none
theorem od_eq {k : Nat} (hr : Room k X.A) : OpD X (compareOp .Eq) (rCmpP (zOf X) id) dEq := ⟨op_eqP hr, fun x y H F Q dx dy d hx hy s e k => by
  obtain ⟨o, rfl⟩ := ite_some e
  rw [Bool.and_eq_true] at o
  exact ⟨F, dx, dy, s.s, hx, hy, o.1, o.2, k _ H F (Grow.refl s) .bl⟩⟩
theorem od_ne {k : Nat} (hr : Room k X.A) : OpD X (compareOp .NotEq) (rCmpP (zOf X) (!·)) dNe := ⟨op_neP hr, fun x y H F Q dx dy d hx hy s e k => by
  obtain ⟨o, rfl⟩ := ite_some e
  rw [Bool.and_eq_true] at o
  exact ⟨F, dx, dy, s.s, hx, hy, o.1, o.2, k _ H F (Grow.refl s) .bl⟩⟩

/-! ### in, not in: a list or a tuple -/
def rInP (Z : Zc) (g : Bool → Bool) : R2 := fun x y H Q => ∃ F dx ds, Same F H ∧ Is Z F x dx ∧ (Is Z F y (.lst ds) ∨ Is Z F y (.tup ds)) ∧ okD 30 dx = true ∧ okL 30 ds = true ∧ Q (.bl (g (ds.any fun z => eqD z dx))) H
theorem any_eqv {n m : Nat} {d : D} (h : okD n d = true) : ∀ ds : List D, okL m ds = true → ((pyOfL ds).any fun y => PyData.eqv y (pyOf d)) = ds.any fun z => eqD z d
  | [], _ => rfl
  | x :: ds, h' => by
    simp only [okL, Bool.and_eq_true] at h'
    simp only [pyOfL, List.any_cons, any_eqv h ds h'.2, eqv_eq _ _ _ _ h'.1 h]
theorem op_inP {k : Nat} (hr : Room k X.A) : OpR X (compareOp .In) (rInP (zOf X) id) := by
  intro pins s σ H x y v u Q I rx ry h
  obtain ⟨F, dx, ds, f, h1, h2, o1, o2, q⟩ := h
  obtain ⟨as, r1⟩ := h1.reads I f o1 rx
  have := units64 hr
  have d1 := depth_of _ _ o1
  rcases h2 with h2 | h2
  · obtain ⟨bs, r2⟩ := h2.reads (n := 31) I f (by simpa only [okD] using o2) ry
    refine SeqAt.in_list_data r2 r1 (plain_ofL _ _ o2) (plain_of _ _ o1) (by omega) ?_
    rw [any_eqv o1 ds o2]
    exact ⟨.bl _, H, I, rfl, q⟩
  · obtain ⟨bs, r2⟩ := h2.reads (n := 31) I f (by simpa only [okD] using o2) ry
    refine SeqAt.in_tuple_data r2 r1 (plain_ofL _ _ o2) (plain_of _ _ o1) (by omega) ?_
    rw [any_eqv o1 ds o2]
    exact ⟨.bl _, H, I, rfl, q⟩
theorem op_ninP {k : Nat} (hr : Room k X.A) : OpR X (compareOp .NotIn) (rInP (zOf X) (!·)) := by
  intro pins s σ H x y v u Q I rx ry h
  obtain ⟨F, dx, ds, f, h1, h2, o1, o2, q⟩ := h
  obtain ⟨as, r1⟩ := h1.reads I f o1 rx
  have := units64 hr
  have d1 := depth_of _ _ o1
  rcases h2 with h2 | h2
  · obtain ⟨bs, r2⟩ := h2.reads (n := 31) I f (by simpa only [okD] using o2) ry
    refine SeqAt.notIn_list_data r2 r1 (plain_ofL _ _ o2) (plain_of _ _ o1) (by omega) ?_
    rw [any_eqv o1 ds o2]
    exact ⟨.bl _, H, I, rfl, q⟩
  · obtain ⟨bs, r2⟩ := h2.reads (n := 31) I f (by simpa only [okD] using o2) ry
    refine SeqAt.notIn_tuple_data r2 r1 (plain_ofL _ _ o2) (plain_of _ _ o1) (by omega) ?_
    rw [any_eqv o1 ds o2]
    exact ⟨.bl _, H, I, rfl, q⟩
def inD (g : Bool → Bool) (x y : D) : Option D := (seqOf y).bind fun ds => if (okD 30 x && okL 30 ds) = true then some (.bl (g (ds.any fun z => eqD z x))) else none
theorem evR_in {g : Bool → Bool} : EvR Z (rInP Z g) (inD g) := fun x y H F Q dx dy d hx hy s e k => by
  obtain ⟨ds, e1, e2⟩ := Option.bind_eq_some_iff.mp e
  obtain ⟨o, rfl⟩ := ite_some e2
  rw [Bool.and_eq_true] at o
  refine ⟨F, dx, ds, s.s, hx, ?_, o.1, o.2, k _ H F (Grow.refl s) .bl⟩
  cases hy with
  | lst q l => cases e1; exact .inl (.lst q l)
  | tup q l => cases e1; exact .inr (.tup q l)
  | _ => cases e1
theorem od_in {k : Nat} (hr : Room k X.A) : OpD X (compareOp .In) (rInP (zOf X) id) (inD id) := ⟨op_inP hr, evR_in⟩
theorem od_nin {k : Nat} (hr : Room k X.A) : OpD X (compareOp .NotIn) (rInP (zOf X) (!·)) (inD (!·)) := ⟨op_ninP hr, evR_in⟩

/-! ### +, *, //, % -/
/-- two lists, whatever they are -/
def rCatL (K : PySem.W.Frag) : R2 := fun x y H Q => ∃ l b xs zs, x = .ref l ∧ y = .ref b ∧ SqL K H l xs ∧ SqL K H b zs ∧ xs.length + zs.length ≤ sizeLine ∧ ∀ p, H p = none → Q (.ref p) (upd H p (.lst (xs ++ zs)))
theorem op_catL : OpR X (binaryOp .Add) (rCatL X.K) := by
  intro pins s σ H x y v u Q I rx ry h
  obtain ⟨l, b, xs, zs, rfl, rfl, hl, hb, hz, q⟩ := h
  cases rx
  cases ry
  obtain ⟨its, r, ⟨o, n, e1, e2, e3, e4⟩, z1⟩ := I.list hl
  obtain ⟨its2, r2, ⟨o2, n2, f1, f2, f3, f4⟩, z2⟩ := I.list hb
  obtain ⟨oc, od, ot, os⟩ := o
  obtain ⟨pc, pd, pt, ps⟩ := o2
  simp only at e2 e3 e4 f2 f3 f4
  subst e2 e3 e4 f2 f3 f4
  have hl1 := r.length
  have hl2 := r2.length
  refine concat_meets ⟨_, e1, rfl⟩ ⟨_, f1, rfl⟩ noFill_list_add seq_list_add PySem.F.slot_list_add PySem.F.entry_list_add (PySem.F.args_list_add_2 _ _) (PyProof.Rows.list_addW l b its.toArray its2.toArray n n2 none none os ps (by simp only [List.size_toArray]; omega)) ⟨e1, f1, ?_⟩
  have ea : its.toArray ++ its2.toArray = (its ++ its2).toArray := by simp
  rw [ea]
  exact ⟨.ref _, _, I.lnew (t' := s.toks) (r.append r2) (by rw [List.length_append]; omega), rfl, q _ I.fresh⟩
/-- t + u -/
def rCatF (K : PySem.W.Frag) : R2 := fun x y H Q => ∃ a b xs ys, x = .ref a ∧ y = .ref b ∧ SqT K H a xs ∧ SqT K H b ys ∧ xs.length + ys.length ≤ sizeLine ∧
  (xs = [] → Q (.ref b) H) ∧ (xs ≠ [] → ys = [] → Q (.ref a) H) ∧ (xs ≠ [] → ys ≠ [] → ∀ (p : Addr) (o : Obj), H p = none → o.dict = none → Q (.ref p) (upd H p (.frz o (.tup (xs ++ ys)))))
theorem op_catF : OpR X (binaryOp .Add) (rCatF X.K) := by
  intro pins s σ H x y v u Q I rx ry h
  obtain ⟨a, b, xs, ys, rfl, rfl, ha, hb, hz, q0, q1, q2⟩ := h
  cases rx
  cases ry
  obtain ⟨its, r1, p1, _⟩ := I.tuple ha
  obtain ⟨its2, r2, p2, _⟩ := I.tuple hb
  by_cases hx : xs = []
  · subst hx
    cases r1
    exact cat_tup0 p1 p2 ⟨.ref b, H, I, rfl, q0 rfl⟩
  · refine HT.cat_tup p1 p2 (fun z => hx (r1.nil_iff.mp z)) (fun z => ⟨.ref a, H, I, rfl, q1 hx (r2.nil_iff.mp z)⟩) (fun z => ?_) (by rw [← r1.length, ← r2.length]; exact hz)
    exact ⟨.ref s.heap.objs.size, _, I.laid (t' := s.toks) (fun b ob q => Heap.get?_push_of_some _ q) (Nat.le_refl _) (tup_ok (xs := xs ++ ys) (by rw [List.length_append]; exact hz) (r1.append r2) (Heap.get?_push_size _ rfl) rfl ⟨_, rfl⟩), rfl, q2 hx (fun w => z (r2.nil_iff.mpr w)) _ _ (I.hok.fresh (Nat.le_refl _)) rfl⟩
def rAddA (K : PySem.W.Frag) : R2 := fun x y H Q => rI0 (fun i j => .int (i + j)) x y H Q ∨ (rCatL K x y H Q ∨ (rCatF K x y H Q ∨ ∃ i j, x = .str i ∧ y = .str j ∧ i.length + j.length ≤ sizeLine ∧ Q (.str (i ++ j)) H))
theorem op_addA : OpR X (binaryOp .Add) (rAddA X.K) := op_add.or (op_catL.or (op_catF.or op_add_str))
def smallN (n : Nat) : Bool := decide (n ≤ 100000)
theorem smallN_line {n m : Nat} (h : smallN n = true) (e : m = n) : m ≤ sizeLine := by
  have q : n ≤ 100000 := of_decide_eq_true h
  rw [sizeLine_eq]
  omega
def dAdd : D → D → Option D
  | .int i, .int j => some (.int (i + j))
  | .lst xs, .lst ys => if smallN (xs.length + ys.length) = true then some (.lst (xs ++ ys)) else none
  | .tup xs, .tup ys => if smallN (xs.length + ys.length) = true then some (.tup (xs ++ ys)) else none
  | .str x, .str y => if smallN (x.length + y.length) = true then some (.str (x ++ y)) else none
  | _, _ => none
theorem evR_add : EvR Z (rAddA Z.K) dAdd := fun x y H F Q dx dy d hx hy s e k => by
  unfold dAdd at e
  split at e
  · cases hx
    cases hy
    cases e
    exact .inl ⟨_, _, rfl, rfl, k _ H F (Grow.refl s) .int⟩
  · obtain ⟨hz, rfl⟩ := ite_some e
    cases hx with
    | lst q l =>
      cases hy with
      | lst q' l' => exact .inr (.inl ⟨_, _, _, _, rfl, rfl, same_l s.s q, same_l s.s q', smallN_line hz (by rw [l.length, l'.length]), fun p hp =>
          k _ _ _ (Grow.new s hp lst_nt) (.lst (.of upd_same) ((l.append l').mono (Grow.new s hp lst_nt).f))⟩)
  · obtain ⟨hz, rfl⟩ := ite_some e
    cases hx with
    | @tup pa xs _ q l =>
      cases hy with
      | @tup pb ys _ q' l' =>
        refine .inr (.inr (.inl ⟨pa, pb, xs, ys, rfl, rfl, same_t s.s q, same_t s.s q', smallN_line hz (by rw [l.length, l'.length]), fun z => ?_, fun _ z => ?_, fun _ _ p o hp hd =>
          k _ _ _ (Grow.new s hp tup_nt) (.tup (.new hd) ((l.append l').mono (Grow.new s hp (tup_nt (o := o))).f))⟩))
        · subst z
          cases l
          exact k _ H F (Grow.refl s) (.tup q' l')
        · subst z
          cases l'
          rw [List.append_nil] at k
          exact k _ H F (Grow.refl s) (.tup q l)
  · obtain ⟨hz, rfl⟩ := ite_some e
    cases hx
    cases hy
    exact .inr (.inr (.inr ⟨_, _, rfl, rfl, smallN_line hz rfl, k _ H F (Grow.refl s) .str⟩))
  · cases e
theorem od_add : OpD X (binaryOp .Add) (rAddA X.K) dAdd := ⟨op_addA, evR_add (Z := zOf X)⟩
/-- a new list from two -/
def fAdd (x y : D) : Option (List D) := (dAdd x y).bind dLst
theorem x_cat (ha : EX X a ta ma) (hb : EX X b tb mb) : EXF X (.BinOp a .Add b pos) (tOp (rCatL X.K) ta tb) (fun env => do let x ← ma env; let y ← mb env; fAdd x y) := ⟨pe_op op_catL ha.pe hb.pe, fun env σ H F Q ds f s e k => by
  simp only [Option.bind_eq_bind, Option.bind_eq_some_iff] at e
  obtain ⟨x, e1, y, e2, e3⟩ := e
  refine ha.ev env σ H F _ x f s e1 fun v H1 F1 g1 r1 => ?_
  refine hb.ev env σ H1 F1 _ y (f.mono g1.f) g1.ok e2 fun w H2 F2 g2 r2 => ?_
  unfold fAdd dAdd at e3
  cases r1 with
  | @lst pa xs xd q l =>
    cases r2 with
    | @lst pb ys yd q' l' =>
      obtain ⟨z, e4, e5⟩ := Option.bind_eq_some_iff.mp e3
      obtain ⟨hz, rfl⟩ := ite_some e4
      cases e5
      exact ⟨pa, pb, xs, ys, rfl, rfl, same_l (g2.f.trans g2.ok.s) q, same_l g2.ok.s q', smallN_line hz (by rw [l.length, l'.length]), fun p hp =>
        k p _ _ F2 ((g1.trans g2).trans (Grow.made g2.ok hp)) (g2.ok.none_of hp) ((g1.trans g2).free hp) upd_same ((l.mono g2.f).append l')⟩
    | _ => cases e3
  | _ => (cases r2 <;> first | (cases e3; done) | (obtain ⟨z, e4, e5⟩ := Option.bind_eq_some_iff.mp e3; first | (cases e4; cases e5; done) | (obtain ⟨_, rfl⟩ := ite_some e4; cases e5; done)))⟩
/-- * of two ints of together less than 2 ^ 26 bits -/
def CMulV (i j : Int) : Prop := i.natAbs.log2 + j.natAbs.log2 < 100000000
theorem CMulV.ok {i j : Int} (h : CMulV i j) : IntMulOk i j := by
  have b : ∀ x : Int, Builtin.Int.intBits x ≤ x.natAbs.log2 + 1 := fun x => by
    unfold Builtin.Int.intBits
    split <;> omega
  have h1 := b i
  have h2 := b j
  have h3 : i.natAbs.log2 + j.natAbs.log2 < 100000000 := h
  have e : bitsLine = 134217728 := by decide
  unfold IntMulOk
  intro z
  rw [Bool.and_eq_true] at z
  have z2 := z.2
  unfold Builtin.Int.intTooBig at z2
  have z3 := of_decide_eq_true z2
  rw [e] at z3
  omega
theorem op_mulV : OpR X (binaryOp .Mult) (rI CMulV fun i j => .int (i * j)) := opI fun _ _ _ _ _ _ _ hc q => PyProof.Rows.mul_int q hc.ok
def dMulI (i j : Int) : Option D := if decide (i.natAbs.log2 + j.natAbs.log2 < 100000000) = true then some (.int (i * j)) else none
def dMul : D → D → Option D
  | .int i, .int j => dMulI i j
  | .tup xs, .int k => if (decide (1 ≤ k) && decide (k ≤ 1000) && decide (xs.length ≤ 1000) && !xs.isEmpty) = true then some (.tup (List.replicate k.toNat xs).flatten) else none
  | _, _ => none
theorem IsL.rep {vs : List V} {ds : List D} (h : IsL Z F vs ds) : ∀ k : Nat, IsL Z F (List.replicate k vs).flatten (List.replicate k ds).flatten
  | 0 => .nil
  | k + 1 => by
    rw [List.replicate_succ, List.replicate_succ, List.flatten_cons, List.flatten_cons]
    exact h.append (IsL.rep h k)
theorem tuple_mul1 (l : Addr) (items : Array Value) (n : Nat) (dd : Option Addr) (sl : Array (Option Value)) (u : Tok) :
    Meets (Builtin.«tuple.__mul__» ⟨[.ref l, .int 1 u], []⟩) (fun _ R s => s.heap.get? l = some { cls := .type "tuple", dict := dd, data := .seq items n, slots := sl } ∧ R (.ok (.ret (.ref l))) s) :=
  .of_wp fun prog w A R s h => by
    obtain ⟨hp, g, d, tk, os⟩ := s
    obtain ⟨hl, h⟩ := h
    have f1 := AutoSeq1.idx_int
    wp_walk using wpAny_loadPart' hl
    repeat (first
      | (refine wpAny_ite_true (by simp) ?_; wp_walk using wpAny_loadPart' hl)
      | (refine wpAny_ite_false (by decide) ?_; wp_walk using wpAny_loadPart' hl))
    exact ⟨_, rfl, h⟩
def rRepF (K : PySem.W.Frag) : R2 := fun x y H Q => ∃ l k xs, x = .ref l ∧ y = .int k ∧ SqT K H l xs ∧ xs ≠ [] ∧ 1 ≤ k ∧ k ≤ 1000 ∧ xs.length ≤ 1000 ∧ (k = 1 → Q (.ref l) H) ∧ (2 ≤ k → ∀ (p : Addr) (o : Obj), H p = none → o.dict = none → Q (.ref p) (upd H p (.frz o (.tup (List.replicate k.toNat xs).flatten))))
theorem op_repF : OpR X (binaryOp .Mult) (rRepF X.K) := by
  intro pins s σ H x y v u Q I rx ry h
  obtain ⟨l, k, xs, rfl, rfl, hT, hne, h1, h2, hz, q1, q⟩ := h
  cases rx
  obtain ⟨t, rfl⟩ := ry
  obtain ⟨its, r, ⟨⟨cls, dd, data, sl⟩, ho, hc, n, hd⟩, hs⟩ := I.tuple hT
  simp only at hc hd
  subst hc hd
  have hle := r.length.symm
  by_cases hk : k = 1
  · subst hk
    exact wpAny_binaryOp_repeat_ref (T := "tuple") (U := "int") (by decide) ⟨_, ho, rfl⟩ (fun s' => typeIs_int s' 1 t) noFill_tuple_mul PySem.F.fills_int_mul PySem.F.slot_int_rmul repeat_tuple PySem.F.slot_int_index.lookup
      (call_meets PySem.F.slot_int_rmul (typeIs_int s 1 t) PySem.F.entry_int_rmul (PySem.F.args_int_rmul_2 _ _) (int_rmul_tuple 1 t l its.toArray n dd sl)
        ⟨ho, rfl, ⟨_, ho, rfl⟩, call_meets PySem.F.slot_tuple_mul ⟨_, ho, rfl⟩ PySem.F.entry_tuple_mul (PySem.F.args_tuple_mul_2 _ _) (tuple_mul1 l its.toArray n dd sl t) ⟨ho, .ref l, H, I, rfl, q1 rfl⟩⟩)
  · have hi : its.toArray.isEmpty = false := by
      cases its with
      | nil => exact absurd (List.eq_nil_of_length_eq_zero (by simpa using hle.symm)) hne
      | cons a b => rfl
    have hsz0 : its.toArray.size = xs.length := by rw [List.size_toArray, hle]
    have hm : ((its.toArray.size : Nat) : Int) * k ≤ 1000000 := by
      rw [hsz0]
      have a1 : ((xs.length : Nat) : Int) * k ≤ 1000 * k := Int.mul_le_mul_of_nonneg_right (by omega) (by omega)
      omega
    have fl : (List.replicate k.toNat its).flatten.length ≤ sizeLine := by
      rw [PyProof.Rows.lm_len_rep_flat, hle, sizeLine_eq]
      have a1 : k.toNat * xs.length ≤ 1000 * 1000 := Nat.mul_le_mul (by omega) hz
      omega
    have c0 : (decide (k < -(2 ^ 63)) || decide (k ≥ 2 ^ 63)) = false := by
      rw [decide_eq_false (by omega), decide_eq_false (by omega)] <;> rfl
    have c1 : (its.toArray.isEmpty || k == 1) = false := by rw [hi, Bool.false_or]; exact beq_eq_false_iff_ne.mpr hk
    have c2 : (decide (k ≤ 0) || its.toArray.isEmpty) = false := by rw [hi, Bool.or_false]; exact decide_eq_false (by omega)
    have c4 : Builtin.Tuple.tupleTooMany (((its.toArray.size : Nat) : Int) * k) = false := by unfold Builtin.Tuple.tupleTooMany; rw [sizeLine_eq]; exact decide_eq_false (by omega)
    refine wpAny_binaryOp_repeat_ref (T := "tuple") (U := "int") (by decide) ⟨_, ho, rfl⟩ (fun s' => typeIs_int s' k t) noFill_tuple_mul PySem.F.fills_int_mul PySem.F.slot_int_rmul repeat_tuple PySem.F.slot_int_index.lookup
      (call_meets PySem.F.slot_int_rmul (typeIs_int s k t) PySem.F.entry_int_rmul (PySem.F.args_int_rmul_2 _ _) (int_rmul_tuple k t l its.toArray n dd sl)
        ⟨ho, rfl, ⟨_, ho, rfl⟩, call_meets PySem.F.slot_tuple_mul ⟨_, ho, rfl⟩ PySem.F.entry_tuple_mul (PySem.F.args_tuple_mul_2 _ _) (tuple_mulW l its.toArray n dd sl k t c0 c1 c2 (by omega) c4 (by rw [size_rep, List.size_toArray]; exact fl)) ⟨ho, ?_⟩⟩)
    rw [size_rep]
    exact ⟨.ref s.heap.objs.size, _, I.laid (t' := s.toks) (fun b ob q => Heap.get?_push_of_some _ q) (Nat.le_refl _) (tup_ok (xs := (List.replicate k.toNat xs).flatten) (by rw [PyProof.Rows.lm_len_rep_flat, sizeLine_eq]; have a1 : k.toNat * xs.length ≤ 1000 * 1000 := Nat.mul_le_mul (by omega) hz; omega) (r.rep k.toNat) (Heap.get?_push_size _ rfl) rfl ⟨_, rfl⟩), rfl, q (by omega) _ _ (I.hok.fresh (Nat.le_refl _)) rfl⟩
def rMulA (K : PySem.W.Frag) : R2 := fun x y H Q => rI CMulV (fun i j => .int (i * j)) x y H Q ∨ rRepF K x y H Q
theorem op_mulA : OpR X (binaryOp .Mult) (rMulA X.K) := op_mulV.or op_repF
theorem od_mul : OpD X (binaryOp .Mult) (rMulA X.K) dMul := ⟨op_mulA, fun x y H F Q dx dy d hx hy s e k => by
  unfold dMul at e
  split at e
  · unfold dMulI at e
    obtain ⟨hz, rfl⟩ := ite_some e
    cases hx
    cases hy
    exact .inl ⟨_, _, rfl, rfl, (show CMulV _ _ from of_decide_eq_true (p := _ < _) hz), k _ H F (Grow.refl s) .int⟩
  · obtain ⟨hz, rfl⟩ := ite_some e
    simp only [Bool.and_eq_true, decide_eq_true_eq, Bool.not_eq_true'] at hz
    obtain ⟨⟨⟨h1, h2⟩, h3⟩, h4⟩ := hz
    cases hx with
    | @tup pa xs _ q l =>
      cases hy
      refine .inr ⟨pa, _, xs, rfl, rfl, same_t s.s q, fun z => ?_, h1, h2, by rw [l.length]; exact h3, fun z => ?_, fun _ p o hp hd => k _ _ _ (Grow.new s hp tup_nt) (.tup (.new hd) ((l.rep _).mono (Grow.new s hp (tup_nt (o := o))).f))⟩
      · subst z
        cases l
        cases h4
      · subst z
        refine k _ H F (Grow.refl s) ?_
        have e1 : (List.replicate (1 : Int).toNat ‹List D›).flatten = ‹List D› := by simp
        simpa using Is.tup q l
  · cases e⟩
def dI2C (c : Int → Int → Bool) (g : Int → Int → Int) : D → D → Option D
  | .int i, .int j => if c i j = true then some (.int (g i j)) else none
  | _, _ => none
theorem evR_I {C : Int → Int → Prop} {c : Int → Int → Bool} {g : Int → Int → Int} (hc : ∀ i j, c i j = true → C i j) : EvR Z (rI C fun i j => .int (g i j)) (dI2C c g) := fun x y H F Q dx dy d hx hy s e k => by
  unfold dI2C at e
  split at e
  · obtain ⟨hz, rfl⟩ := ite_some e
    cases hx
    cases hy
    exact ⟨_, _, rfl, rfl, hc _ _ hz, k _ H F (Grow.refl s) .int⟩
  · cases e
theorem od_mod : OpD X (binaryOp .Mod) (rI (fun _ j => 0 < j) fun i j => .int (i % j)) (dI2C (fun _ j => decide (0 < j)) fun i j => i % j) := ⟨op_mod, evR_I fun i j h => of_decide_eq_true h⟩
theorem od_fdiv : OpD X (binaryOp .FloorDiv) (rI CDivW fun i j => .int (i / j)) (dI2C (fun _ j => decide (0 < j) && decide (j.natAbs.log2 < 9000)) fun i j => i / j) := ⟨op_fdivW, evR_I fun i j h => by
  rw [Bool.and_eq_true, decide_eq_true_eq, decide_eq_true_eq] at h
  exact h⟩
theorem x_neg (ha : EX X a ta ma) : EX X (.UnaryOp .USub a pos) (tUn (rU fun i => .int (-i)) ta) (fun env => (ma env).bind fun | .int i => some (.int (-i)) | _ => none) := ⟨pe_un un_neg ha.pe, fun env σ H F Q d f s e k => by
  obtain ⟨x, e1, e2⟩ := Option.bind_eq_some_iff.mp e
  refine ha.ev env σ H F _ x f s e1 fun v H1 F1 g1 r1 => ?_
  cases r1 with
  | int => cases e2; exact ⟨_, rfl, k _ _ _ g1 .int⟩
  | _ => cases e2⟩
/-- a <= b <= c and its like -/
def mChain (g h : D → D → Option D) (ma mb mc : Env → Option D) : Env → Option D := fun env => do
  let x ← ma env
  let y ← mb env
  let r ← g x y
  let q ← dBool r
  if q = true then (do let z ← mc env; h y z) else some (.bl false)
theorem x_chain {op op' : CmpOp} {r r' : R2} {g h : D → D → Option D} (ho : OpD X (compareOp op) r g) (ho' : OpD X (compareOp op') r' h) (ha : EX X a ta ma) (hb : EX X b tb mb) (hc : EX X c tc mc)
    (hm : behindInMarks op b = false := by first | exact nomark _ | rfl) (hm' : lastMarks [op, op'] [b, c] = false := by first | rfl | exact nomark _) : EX X (.Compare a [op, op'] [b, c] pos) (tChain r r' ta tb tc) (mChain g h ma mb mc) :=
  ⟨pe_chain ho.op ho'.op ha.pe hb.pe hc.pe hm', fun env σ H F Q d f s e k => by
    unfold mChain at e
    simp only [Option.bind_eq_bind, Option.bind_eq_some_iff] at e
    obtain ⟨x, e1, y, e2, z, e3, q, e4, e5⟩ := e
    refine ha.ev env σ H F _ x f s e1 fun v H1 F1 g1 r1 => ?_
    refine hb.ev env σ H1 F1 _ y (f.mono g1.f) g1.ok e2 fun w H2 F2 g2 r2 => ?_
    refine ho.ev v w H2 F2 _ x y z (r1.mono g2.f) r2 g2.ok e3 fun b1 H3 F3 g3 r3 => ?_
    cases r3 with
    | bl =>
      cases e4
      refine ⟨q, rfl, ?_⟩
      cases q with
      | true =>
        obtain ⟨z, e6, e7⟩ := Option.bind_eq_some_iff.mp (show (mc env).bind (fun z => h y z) = some d from e5)
        refine hc.ev env σ H3 F3 _ z ((f.mono g1.f).mono (g2.trans g3).f) g3.ok e6 fun w2 H4 F4 g4 r4 => ?_
        exact ho'.ev w w2 H4 F4 Q y z d ((r2.mono g3.f).mono g4.f) r4 g4.ok e7 fun v5 H5 F5 g5 r5 => k v5 H5 F5 ((((g1.trans g2).trans g3).trans g4).trans g5) r5
      | false =>
        have e6 : d = .bl false := by simpa using e5.symm
        subst e6
        exact k _ H3 F3 ((g1.trans g2).trans g3) .bl
    | _ => cases e4⟩
end EX
set_option Elab.async false
set_option linter.all false
set_option autoImplicit false
set_option maxRecDepth 100000
set_option maxHeartbeats 4000000
/-! E7: subscripts, slices, built-in functions, defs and their calls. -/
namespace EX
open PySem L2
variable [Tb] {Z : Zc} {F F' F1 F2 H H' H1 H2 F0 H0 : Hp} {X : Cx} {ta tb tc te : TE} {ma mb mc me : Env → Option D} {t : TA} {ms : Env → Option (List D)} {pos : Pos} {e a b c : Expr} {es : List Expr}
  {qa qb qc : TT} {na nb nc : Env → Option Bool}

/-! ### a[i] -/
structure IxD (X : Cx) (r : R2) (g : D → D → Option D) : Prop where
  op : IxR X r
  ev : EvR (zOf X) r g
theorem x_ix {r : R2} {g : D → D → Option D} (hr : IxD X r g) (ha : EX X a ta ma) (hb : EX X b tb mb) (hs : PlainIx b := by exact fun _ _ => rfl) : EX X (.Subscript a b pos) (tOp r ta tb) (mOp g ma mb) := ⟨pe_ix hr.op ha.pe hb.pe hs, ev_op hr.ev ha.ev hb.ev⟩
def ixSeq : D → D → Option D
  | .lst ds, .int i => atI ds i
  | .tup ds, .int i => atI ds i
  | _, _ => none
theorem IsL.atI {vs : List V} {ds : List D} {i : Int} {d : D} (l : IsL Z F vs ds) (h : atI ds i = some d) : ∃ v, L2.atI vs i = some v ∧ Is Z F v d := by
  unfold L2.atI at h ⊢
  rw [l.length]
  obtain ⟨j, e1, e2⟩ := Option.bind_eq_some_iff.mp h
  obtain ⟨v, e3, e4⟩ := l.get e2
  exact ⟨v, by rw [e1]; exact e3, e4⟩
theorem evR_ix : EvR Z (fun x y H Q => rIxL Z.K x y H Q ∨ rIxT Z.K x y H Q) ixSeq := fun x y H F Q dx dy d hx hy s e k => by
  unfold ixSeq at e
  split at e
  · cases hx with
    | lst q l =>
      cases hy
      obtain ⟨v, e1, e2⟩ := l.atI e
      exact .inl ⟨_, _, _, v, rfl, rfl, same_l s.s q, e1, k v H F (Grow.refl s) e2⟩
  · cases hx with
    | tup q l =>
      cases hy
      obtain ⟨v, e1, e2⟩ := l.atI e
      exact .inr ⟨_, _, _, v, rfl, rfl, same_t s.s q, e1, k v H F (Grow.refl s) e2⟩
  · cases e
theorem id_seq : IxD X (fun x y H Q => rIxL X.K x y H Q ∨ rIxT X.K x y H Q) ixSeq := ⟨ix_list.or ix_tup, evR_ix (Z := zOf X)⟩

/-! ### a[i:j] -/
structure EO (X : Cx) (e : Option Expr) (t : TO) (m : Env → Option (Option Int)) : Prop where
  po : PO X e t
  ev : ∀ env σ H F (Q : Option Int → Hp → Prop) o, Fit (zOf X) F env σ → Ok (zOf X) F H → m env = some o → (∀ H' F', Grow (zOf X) F H F' H' → Q o H') → t σ H Q
theorem o_none : EO X none tNoPart (fun _ => some none) := ⟨po_none, fun env σ H F Q o f s e k => by cases e; exact k H F (Grow.refl s)⟩
def oI (m : Env → Option D) : Env → Option (Option Int) := fun env => (m env).bind fun | .int i => some (some i) | _ => none
theorem o_some (h : EX X e te me) : EO X (some e) (tPart te) (oI me) := ⟨po_some h.pe, fun env σ H F Q o f s e k => by
  obtain ⟨x, e1, e2⟩ := Option.bind_eq_some_iff.mp e
  refine h.ev env σ H F _ x f s e1 fun v H1 F1 g1 r1 => ?_
  cases r1 with
  | int => cases e2; exact ⟨_, rfl, k H1 F1 g1⟩
  | _ => cases e2⟩
def cutD (ds : List D) (lo hi : Option Int) : List D := (ds.drop (HT.sIx ds.length 0 lo)).take (HT.sIx ds.length ds.length hi - HT.sIx ds.length 0 lo)
theorem IsL.cut {vs : List V} {ds : List D} (l : IsL Z F vs ds) (lo hi : Option Int) : IsL Z F (cutV vs lo hi) (cutD ds lo hi) := by
  unfold cutV cutD
  rw [l.length]
  exact (l.drop _).take _
theorem cut_whole {ds : List V} {lo hi : Option Int} (h : HT.sIx ds.length 0 lo = 0 ∧ HT.sIx ds.length ds.length hi = ds.length) : cutV ds lo hi = ds := by
  unfold cutV
  rw [h.1, h.2]
  simp
def sliceD : D → Option Int → Option Int → Option D
  | .lst ds, lo, hi => some (.lst (cutD ds lo hi))
  | .tup ds, lo, hi => some (.tup (cutD ds lo hi))
  | _, _, _ => none
variable {tl th : TO} {ml mh : Env → Option (Option Int)} {lo hi : Option Expr} {p2 : Pos}
def mSlice (m : Env → Option D) (ml mh : Env → Option (Option Int)) : Env → Option D := fun env => do
  let d ← m env
  let l ← ml env
  let h ← mh env
  sliceD d l h
/-- t[lo:hi] -/
def rSlF (K : PySem.W.Frag) : V → Option Int → Option Int → Hp → VK → Prop := fun x lo hi H Q => ∃ a xs, x = .ref a ∧ SqT K H a xs ∧
  (HT.sIx xs.length 0 lo = 0 ∧ HT.sIx xs.length xs.length hi = xs.length → Q (.ref a) H) ∧ (¬ (HT.sIx xs.length 0 lo = 0 ∧ HT.sIx xs.length xs.length hi = xs.length) → ∀ (p : Addr) (o : Obj), H p = none → o.dict = none → Q (.ref p) (upd H p (.frz o (.tup (cutV xs lo hi)))))
theorem sl_tupF : SlR X (rSlF X.K) := by
  intro pins s σ H x v vl vu lo hi sl Q I rx hs pl pu h
  obtain ⟨a, xs, rfl, hx, q1, q2⟩ := h
  cases rx
  obtain ⟨its, r, ht, hz⟩ := I.tuple hx
  have hlen : its.toArray.size = xs.length := by rw [List.size_toArray]; exact r.length.symm
  refine ⟨"tuple", _, PyProof.Rows.slot_tuple_getitem.lookup, ht.typeIs, ?_⟩
  by_cases hw : HT.sIx xs.length 0 lo = 0 ∧ HT.sIx xs.length xs.length hi = xs.length
  · exact getItem_tuple_whole ht hs pl pu (by rw [hlen]; exact hw) ⟨.ref a, H, I, rfl, q1 hw⟩
  · refine HT.getItem_tuple_cut ht hs pl pu (by rw [hlen]; exact hw) ?_ (by rw [hlen]; exact hz)
    rw [hlen]
    exact ⟨.ref s.heap.objs.size, _, I.laid (t' := s.toks) (fun b ob q => Heap.get?_push_of_some _ q) (Nat.le_refl _) (tup_ok (xs := cutV xs lo hi) (Nat.le_trans (cutV_length xs lo hi) hz) ((r.drop (HT.sIx xs.length 0 lo)).take (HT.sIx xs.length xs.length hi - HT.sIx xs.length 0 lo)) (Heap.get?_push_size _ rfl) rfl ⟨_, rfl⟩), rfl, q2 hw _ _ (I.hok.fresh (Nat.le_refl _)) rfl⟩
theorem x_slice (h : EX X e te me) (hl : EO X lo tl ml) (hh : EO X hi th mh) : EX X (.Subscript e (.Slice lo hi none p2) pos) (tSl (fun x lo hi H Q => rSlL X.K x lo hi H Q ∨ rSlF X.K x lo hi H Q) te tl th) (mSlice me ml mh) :=
  ⟨pe_slice (sl_list.or sl_tupF) h.pe hl.po hh.po, fun env σ H F Q d f s e k => by
    unfold mSlice at e
    simp only [Option.bind_eq_bind, Option.bind_eq_some_iff] at e
    obtain ⟨x, e1, l, e2, u, e3, e4⟩ := e
    refine h.ev env σ H F _ x f s e1 fun v H1 F1 g1 r1 => ?_
    refine hl.ev env σ H1 F1 _ l (f.mono g1.f) g1.ok e2 fun H2 F2 g2 => ?_
    refine hh.ev env σ H2 F2 _ u ((f.mono g1.f).mono g2.f) g2.ok e3 fun H3 F3 g3 => ?_
    have r3 := (r1.mono g2.f).mono g3.f
    have g := (g1.trans g2).trans g3
    cases r3 with
    | @lst pa xs ds q il =>
      cases e4
      exact .inl ⟨pa, xs, rfl, same_l g3.ok.s q, fun p hp => k _ _ _ (g.trans (Grow.new g3.ok hp lst_nt)) (.lst (.of upd_same) ((il.cut l u).mono (Grow.new g3.ok hp lst_nt).f))⟩
    | @tup pa xs ds q il =>
      cases e4
      refine .inr ⟨pa, xs, rfl, same_t g3.ok.s q, fun w => ?_, fun _ p o hp hd => k _ _ _ (g.trans (Grow.new g3.ok hp tup_nt)) (.tup (.new hd) ((il.cut l u).mono (Grow.new g3.ok hp (tup_nt (o := o))).f))⟩
      have il2 := il.cut l u
      rw [cut_whole w] at il2
      exact k _ H3 F3 g (.tup q il2)
    | _ => cases e4⟩
theorem x_sliceF (h : EX X e te me) (hl : EO X lo tl ml) (hh : EO X hi th mh) : EXF X (.Subscript e (.Slice lo hi none p2) pos) (tSl (rSlL X.K) te tl th) (fun env => (mSlice me ml mh env).bind dLst) :=
  ⟨pe_slice sl_list h.pe hl.po hh.po, fun env σ H F Q ds f s e k => by
    unfold mSlice at e
    simp only [Option.bind_eq_bind, Option.bind_eq_some_iff] at e
    obtain ⟨d, ⟨x, e1, l, e2, u, e3, e4⟩, e5⟩ := e
    refine h.ev env σ H F _ x f s e1 fun v H1 F1 g1 r1 => ?_
    refine hl.ev env σ H1 F1 _ l (f.mono g1.f) g1.ok e2 fun H2 F2 g2 => ?_
    refine hh.ev env σ H2 F2 _ u ((f.mono g1.f).mono g2.f) g2.ok e3 fun H3 F3 g3 => ?_
    have r3 := (r1.mono g2.f).mono g3.f
    have g := (g1.trans g2).trans g3
    cases r3 with
    | @lst pa xs ds q il =>
      cases e4
      cases e5
      exact ⟨pa, xs, rfl, same_l g3.ok.s q, fun p hp => k p _ _ F3 (g.trans (Grow.made g3.ok hp)) (g3.ok.none_of hp) (g.free hp) upd_same (il.cut l u)⟩
    | tup q il => cases e4; cases e5
    | _ => cases e4⟩

/-! ### built-in functions -/
def EvC (Z : Zc) (r : List V → Hp → VK → Prop) (g : List D → Option D) : Prop := ∀ vs ds H F (Q : VK) d, IsL Z F vs ds → Ok Z F H → g ds = some d → (∀ v H' F', Grow Z F H F' H' → Is Z F' v d → Q v H') → r vs H Q
def EvCF (Z : Zc) (r : List V → Hp → VK → Prop) (g : List D → Option (List D)) : Prop := ∀ vs ds H F (Q : VK) out, IsL Z F vs ds → Ok Z F H → g ds = some out →
  (∀ p us H' F', Grow Z F H F' H' → F' p = none → H p = none → H' p = some (.lst us) → IsL Z F' us out → Q (.ref p) H') → r vs H Q
structure CD (X : Cx) (f : Value) (r : List V → Hp → VK → Prop) (g : List D → Option D) : Prop where
  op : CallR X f r
  ev : EvC (zOf X) r g
structure CDF (X : Cx) (f : Value) (r : List V → Hp → VK → Prop) (g : List D → Option (List D)) : Prop where
  op : CallR X f r
  ev : EvCF (zOf X) r g
variable {x : Str} {p : Pos} {bid T : String} {r : List V → Hp → VK → Prop} {g : List D → Option D} {gF : List D → Option (List D)}
def mCall (ms : Env → Option (List D)) (g : List D → Option D) : Env → Option D := fun env => (ms env).bind g
def fCall (ms : Env → Option (List D)) (g : List D → Option (List D)) : Env → Option (List D) := fun env => (ms env).bind g
theorem ev_callB (hc : EvC Z r g) (ha : EvA Z t ms) : Evl Z (tCB r t) (mCall ms g) := fun env σ H F Q d f s e k => by
  obtain ⟨ds, e1, e2⟩ := Option.bind_eq_some_iff.mp e
  refine ha env σ H F _ ds f s e1 fun vs H1 F1 g1 r1 => ?_
  exact hc vs ds H1 F1 Q d r1 g1.ok e2 fun v H2 F2 g2 r2 => k v H2 F2 (g1.trans g2) r2
theorem ev_callBF (hc : EvCF Z r gF) (ha : EvA Z t ms) : EvF Z (tCB r t) (fCall ms gF) := fun env σ H F Q d f s e k => by
  obtain ⟨ds, e1, e2⟩ := Option.bind_eq_some_iff.mp e
  refine ha env σ H F _ ds f s e1 fun vs H1 F1 g1 r1 => ?_
  exact hc vs ds H1 F1 Q d r1 g1.ok e2 fun p us H2 F2 g2 n2 h2 q2 r2 => k p us H2 F2 (g1.trans g2) n2 (g1.free h2) q2 r2
theorem x_callB (hc : CD X (.builtin bid) r g) (hm : X.mg x = none) (ha : EA X (e :: es) t ms) (hv : bootBuiltins x = some (.builtin bid) := by decide +kernel) (hg : Gl X x := by rfl) (hn : x ≠ "__name__" := by decide) (hdb : (x == ("__debug__" : Str)) = false := by decide)
    (he : starEach (e :: es) X.env = (false, eval e X.env) :: starEach es X.env := by rfl) (hpl : (backTo pos (starEach es X.env)).any (·.1) = false := by rfl) : EX X (.Call (.Name x p) (e :: es) [] pos) (tCB r t) (mCall ms g) :=
  ⟨pe_callB hc.op hg hm hv ha.pa hn hdb he hpl, ev_callB hc.ev ha.ev⟩
theorem x_callTy (hc : CD X (.type T) r g) (hm : X.mg x = none) (ha : EA X (e :: es) t ms) (hv : bootBuiltins x = some (.type T) := by decide +kernel) (hg : Gl X x := by rfl) (hn : x ≠ "__name__" := by decide) (hdb : (x == ("__debug__" : Str)) = false := by decide)
    (he : starEach (e :: es) X.env = (false, eval e X.env) :: starEach es X.env := by rfl) (hpl : (backTo pos (starEach es X.env)).any (·.1) = false := by rfl) : EX X (.Call (.Name x p) (e :: es) [] pos) (tCB r t) (mCall ms g) :=
  ⟨pe_callTy hc.op hg hm hv ha.pa hn hdb he hpl, ev_callB hc.ev ha.ev⟩
theorem x_callTyF (hc : CDF X (.type T) r gF) (hm : X.mg x = none) (ha : EA X (e :: es) t ms) (hv : bootBuiltins x = some (.type T) := by decide +kernel) (hg : Gl X x := by rfl) (hn : x ≠ "__name__" := by decide) (hdb : (x == ("__debug__" : Str)) = false := by decide)
    (he : starEach (e :: es) X.env = (false, eval e X.env) :: starEach es X.env := by rfl) (hpl : (backTo pos (starEach es X.env)).any (·.1) = false := by rfl) : EXF X (.Call (.Name x p) (e :: es) [] pos) (tCB r t) (fCall ms gF) :=
  ⟨pe_callTy hc.op hg hm hv ha.pa hn hdb he hpl, ev_callBF hc.ev ha.ev⟩
/-- len -/
def dLen : List D → Option D
  | [.lst ds] => some (.int ds.length)
  | [.tup ds] => some (.int ds.length)
  | _ => none
theorem cd_len : CD X (.builtin "len") (fun xs H Q => ∃ p ys, xs = [.ref p] ∧ (SqL X.K H p ys ∨ SqT X.K H p ys) ∧ Q (.int ys.length) H) dLen := ⟨call_len_seq, fun vs ds H F Q d r s e k => by
  unfold dLen at e
  split at e
  · obtain ⟨v, rfl, r0⟩ := r.one
    cases r0 with
    | @lst pa xs ds' q l =>
      cases e
      have z := k _ H F (Grow.refl s) .int
      rw [← l.length] at z
      exact ⟨pa, xs, rfl, .inl (same_l s.s q), z⟩
  · obtain ⟨v, rfl, r0⟩ := r.one
    cases r0 with
    | @tup pa xs ds' q l =>
      cases e
      have z := k _ H F (Grow.refl s) .int
      rw [← l.length] at z
      exact ⟨pa, xs, rfl, .inr (same_t s.s q), z⟩
  · cases e⟩
/-- tuple(x), list(x) -/
def dTuple : List D → Option D
  | [.lst ds] => some (.tup ds)
  | [.tup ds] => some (.tup ds)
  | _ => none
theorem call_tupleF : CallR X (.type "tuple") (fun xs H Q => ∃ p ys, xs = [.ref p] ∧ ((SqL X.K H p ys ∧ ∀ (l : Addr) (o : Obj), H l = none → o.dict = none → Q (.ref l) (upd H l (.frz o (.tup ys)))) ∨ (SqT X.K H p ys ∧ Q (.ref p) H))) := by
  intro pins s σ H xs us Q I r h
  obtain ⟨p, ys, rfl, h⟩ := h
  obtain ⟨u, rfl, rx⟩ := vals1 r
  cases rx
  rcases h with ⟨hq, q⟩ | ⟨hq, q⟩
  · obtain ⟨its, r', pl, hz⟩ := I.list hq
    have hlen := r'.length
    refine call_tuple_list pl.isList (fun h' kp => ?_) (by simp only [List.size_toArray] <;> omega)
    have I1 : Inv X pins σ H { s with heap := h' } := I.kept (t' := s.toks) kp
    exact ⟨.ref h'.objs.size, _, I1.laid (t' := s.toks) (fun b o e => Heap.get?_push_of_some _ e) (Nat.le_refl _) (tup_ok hz r' (Heap.get?_push_size _ rfl) rfl ⟨_, rfl⟩), rfl, q _ _ (I1.hok.fresh (Nat.le_refl _)) rfl⟩
  · obtain ⟨its, r', pl, hz⟩ := I.tuple hq
    exact call_tuple_same pl ⟨.ref p, H, I, rfl, q⟩
theorem cd_tuple : CD X (.type "tuple") (fun xs H Q => ∃ p ys, xs = [.ref p] ∧ ((SqL X.K H p ys ∧ ∀ (l : Addr) (o : Obj), H l = none → o.dict = none → Q (.ref l) (upd H l (.frz o (.tup ys)))) ∨ (SqT X.K H p ys ∧ Q (.ref p) H))) dTuple := ⟨call_tupleF, fun vs ds H F Q d r s e k => by
  unfold dTuple at e
  split at e
  · obtain ⟨v, rfl, r0⟩ := r.one
    cases r0 with
    | @lst pa xs ds q l =>
      cases e
      exact ⟨pa, xs, rfl, .inl ⟨same_l s.s q, fun p o hp hd => k _ _ _ (Grow.new s hp tup_nt) (.tup (.new hd) (l.mono (Grow.new s hp (tup_nt (o := o))).f))⟩⟩
  · obtain ⟨v, rfl, r0⟩ := r.one
    cases r0 with
    | @tup pa xs ds q l =>
      cases e
      exact ⟨pa, xs, rfl, .inr ⟨same_t s.s q, k _ H F (Grow.refl s) (.tup q l)⟩⟩
  · cases e⟩
def dList : List D → Option (List D)
  | [.lst ds] => some ds
  | [.tup ds] => some ds
  | _ => none
theorem cd_list : CDF X (.type "list") (fun xs H Q => ∃ p ys, xs = [.ref p] ∧ (SqL X.K H p ys ∨ SqT X.K H p ys) ∧ ∀ l, H l = none → Q (.ref l) (upd H l (.lst ys))) dList := ⟨call_list_of, fun vs ds H F Q d r s e k => by
  unfold dList at e
  split at e
  · obtain ⟨v, rfl, r0⟩ := r.one
    cases r0 with
    | @lst pa xs ds q l =>
      cases e
      exact ⟨pa, xs, rfl, .inl (same_l s.s q), fun p hp => k p _ _ F (Grow.made s hp) (s.none_of hp) hp upd_same l⟩
  · obtain ⟨v, rfl, r0⟩ := r.one
    cases r0 with
    | @tup pa xs ds q l =>
      cases e
      exact ⟨pa, xs, rfl, .inr (same_t s.s q), fun p hp => k p _ _ F (Grow.made s hp) (s.none_of hp) hp upd_same l⟩
  · cases e⟩
/-- ints, truth values of a list -/
def intsOf : List D → Option (List Int)
  | [] => some []
  | .int i :: ds => (intsOf ds).map (i :: ·)
  | _ => none
theorem intsOf_eq : ∀ {ds : List D} {ns : List Int}, intsOf ds = some ns → ds = ns.map D.int
  | [], _, e => by cases e; rfl
  | .int i :: ds, _, e => by
    obtain ⟨ns, e1, rfl⟩ := Option.map_eq_some_iff.mp (show (intsOf ds).map (i :: ·) = some _ from e)
    rw [intsOf_eq e1]; rfl
  | .non :: _, _, e => by cases e
  | .bl _ :: _, _, e => by cases e
  | .str _ :: _, _, e => by cases e
  | .tup _ :: _, _, e => by cases e
  | .lst _ :: _, _, e => by cases e
  | .dct _ :: _, _, e => by cases e
  | .obj _ _ :: _, _, e => by cases e
  | .adr _ :: _, _, e => by cases e
def blsOf : List D → Option (List Bool)
  | [] => some []
  | .bl i :: ds => (blsOf ds).map (i :: ·)
  | _ => none
theorem blsOf_eq : ∀ {ds : List D} {ns : List Bool}, blsOf ds = some ns → ds = ns.map D.bl
  | [], _, e => by cases e; rfl
  | .bl i :: ds, _, e => by
    obtain ⟨ns, e1, rfl⟩ := Option.map_eq_some_iff.mp (show (blsOf ds).map (i :: ·) = some _ from e)
    rw [blsOf_eq e1]; rfl
  | .non :: _, _, e => by cases e
  | .int _ :: _, _, e => by cases e
  | .str _ :: _, _, e => by cases e
  | .tup _ :: _, _, e => by cases e
  | .lst _ :: _, _, e => by cases e
  | .dct _ :: _, _, e => by cases e
  | .obj _ _ :: _, _, e => by cases e
  | .adr _ :: _, _, e => by cases e
theorem IsL.bls : ∀ {vs : List V} {ns : List Bool}, IsL Z F vs (ns.map D.bl) → vs = ns.map V.bl
  | _, [], .nil => rfl
  | _, _ :: _, .cons .bl l => by rw [IsL.bls l]; rfl
def dSum : List D → Option D
  | [.lst ds] => (intsOf ds).map fun ns => .int ns.sum
  | _ => none
theorem cd_sum (hc : X.calm = true := by rfl) : CD X (.builtin "sum") (rSum X.K) dSum := ⟨cr_sum hc, fun vs ds H F Q d r s e k => by
  unfold dSum at e
  split at e
  · obtain ⟨ns, e1, rfl⟩ := Option.map_eq_some_iff.mp e
    obtain ⟨v, rfl, r0⟩ := r.one
    cases r0 with
    | @lst pa xs ds q l =>
      rw [intsOf_eq e1] at l
      rw [l.ints] at q
      exact ⟨pa, ns, rfl, same_l s.s q, k _ H F (Grow.refl s) .int⟩
  · cases e⟩
def dAll : List D → Option D
  | [.lst ds] => (blsOf ds).map fun ns => .bl (ns.all id)
  | _ => none
def dAny : List D → Option D
  | [.lst ds] => (blsOf ds).map fun ns => .bl (ns.any id)
  | _ => none
theorem cd_all (hc : X.calm = true := by rfl) : CD X (.builtin "all") (rAll X.K) dAll := ⟨cr_all hc, fun vs ds H F Q d r s e k => by
  unfold dAll at e
  split at e
  · obtain ⟨ns, e1, rfl⟩ := Option.map_eq_some_iff.mp e
    obtain ⟨v, rfl, r0⟩ := r.one
    cases r0 with
    | @lst pa xs ds q l =>
      rw [blsOf_eq e1] at l
      rw [l.bls] at q
      exact ⟨pa, ns, rfl, same_l s.s q, k _ H F (Grow.refl s) .bl⟩
  · cases e⟩
theorem cd_any (hc : X.calm = true := by rfl) : CD X (.builtin "any") (rAny X.K) dAny := ⟨cr_any hc, fun vs ds H F Q d r s e k => by
  unfold dAny at e
  split at e
  · obtain ⟨ns, e1, rfl⟩ := Option.map_eq_some_iff.mp e
    obtain ⟨v, rfl, r0⟩ := r.one
    cases r0 with
    | @lst pa xs ds q l =>
      rw [blsOf_eq e1] at l
      rw [l.bls] at q
      exact ⟨pa, ns, rfl, same_l s.s q, k _ H F (Grow.refl s) .bl⟩
  · cases e⟩
def dInt : List D → Option D
  | [.int i] => some (.int i)
  | [.bl b] => some (.int (if b then 1 else 0))
  | _ => none
theorem cd_int : CD X (.type "int") (fun xs H Q => (∃ i, xs = [.int i] ∧ Q (.int i) H) ∨ ∃ k, xs = [.bl k] ∧ Q (.int (if k then 1 else 0)) H) dInt := ⟨call_int1, fun vs ds H F Q d r s e k => by
  unfold dInt at e
  split at e
  · obtain ⟨v, rfl, r0⟩ := r.one
    cases r0
    cases e
    exact .inl ⟨_, rfl, k _ H F (Grow.refl s) .int⟩
  · obtain ⟨v, rfl, r0⟩ := r.one
    cases r0
    cases e
    exact .inr ⟨_, rfl, k _ H F (Grow.refl s) .int⟩
  · cases e⟩
def dAbs : List D → Option D
  | [.int i] => some (.int (if i < 0 then -i else i))
  | _ => none
theorem cd_abs : CD X (.builtin "abs") (fun xs H Q => ∃ i, xs = [.int i] ∧ Q (.int (if i < 0 then -i else i)) H) dAbs := ⟨call_abs, fun vs ds H F Q d r s e k => by
  unfold dAbs at e
  split at e
  · obtain ⟨v, rfl, r0⟩ := r.one
    cases r0
    cases e
    exact ⟨_, rfl, k _ H F (Grow.refl s) .int⟩
  · cases e⟩
/-- max, min: of a list or a tuple of ints; of two ints -/
theorem reads_ints {h : Heap} : ∀ {us : List Value} {ns : List Int}, Vals (ns.map V.int) us → ∃ as, ReadsAll h us (ns.map PyData.int) as
  | _, [], .nil => ⟨_, .nil⟩
  | _, n :: ns, .cons r l => by
    obtain ⟨t, rfl⟩ := r
    obtain ⟨as, q⟩ := reads_ints (h := h) l
    exact ⟨_, .cons (.int n t) q⟩
theorem depth_ints' : ∀ xs : List Int, PyData.depthAll (xs.map PyData.int) = 0
  | [] => by simp [PyData.depthAll]
  | x :: xs => by
    show PyData.depthAll (.int x :: xs.map .int) = 0
    rw [PyData.depthAll, depth_ints' xs]
    simp [PyData.depth]
theorem alike_ints' (ns : List Int) : PySem.W.AlikeAll (ns.map PyData.int) := by
  refine ⟨fun x hx y hy => ?_, fun x hx => ?_⟩
  · obtain ⟨i, _, rfl⟩ := List.mem_map.mp hx
    obtain ⟨j, _, rfl⟩ := List.mem_map.mp hy
    simp [PySem.W.alike]
  · obtain ⟨i, _, rfl⟩ := List.mem_map.mp hx
    exact fun z => nomatch z
def rMM (K : PySem.W.Frag) (f : Int → Int → Int) : List V → Hp → VK → Prop := fun xs H Q => ∃ (a : Addr) (n : Int) (ns : List Int), xs = [.ref a] ∧ (SqL K H a ((n :: ns).map V.int) ∨ SqT K H a ((n :: ns).map V.int)) ∧ Q (.int (ns.foldl f n)) H
theorem reads_int_inv {h : Heap} {v : Value} {i : Int} {as : List Addr} (r : Reads h v (.int i) as) : ∃ t, v = .int i t := by
  cases r
  exact ⟨_, rfl⟩
theorem call_maxM {k : Nat} (hr : Room k X.A) : CallR X (.builtin "max") (rMM X.K max) := by
  intro pins s σ H xs us Q I r h
  obtain ⟨a, n, ns, rfl, hs, q⟩ := h
  obtain ⟨u, rfl, ru⟩ := vals1 r
  cases ru
  have := units64 hr
  have hd : PyData.depthAll ((n :: ns).map PyData.int) = 0 := depth_ints' (n :: ns)
  have fin : ∀ (i : Nat) (v : Value) (h' : Heap) (tk : Nat) (bs : List Addr), Reads h' v (PySem.W.maxD (.int n) (ns.map .int)) bs → (∀ b o, s.heap.get? b = some o → h'.get? b = some o) → EP X pins σ Q v { s with heap := h', toks := tk } := fun i v h' tk bs rd hk => by
    rw [PySem.W.maxD_ints] at rd
    obtain ⟨t, rfl⟩ := reads_int_inv rd
    exact ⟨.int _, H, I.kept hk, ⟨t, rfl⟩, q⟩
  rcases hs with hs | hs
  · obtain ⟨its, rv, ⟨o, c, e1, e2, e3, e4⟩, _⟩ := I.list hs
    obtain ⟨as, ra⟩ := reads_ints (h := s.heap) (ns := n :: ns) rv
    exact PySem.W.max_list_data (vs := its.toArray) (x := .int n) (xs := ns.map .int) hr.hd ⟨o, e1, e2, c, e4⟩ ra (alike_ints' (n :: ns)) (by rw [show PyData.depthAll (.int n :: ns.map .int) = 0 from hd]; omega) fun i v h' tk bs _ rd hk => fin i v h' tk bs rd hk
  · obtain ⟨its, rv, ⟨o, e1, e2, c, e4⟩, _⟩ := I.tuple hs
    obtain ⟨as, ra⟩ := reads_ints (h := s.heap) (ns := n :: ns) rv
    exact PySem.W.max_tuple_data (vs := its.toArray) (x := .int n) (xs := ns.map .int) hr.hd ⟨o, e1, e2, c, e4⟩ ra (alike_ints' (n :: ns)) (by rw [show PyData.depthAll (.int n :: ns.map .int) = 0 from hd]; omega) fun i v h' tk bs _ rd hk => fin i v h' tk bs rd hk
theorem call_minM {k : Nat} (hr : Room k X.A) : CallR X (.builtin "min") (rMM X.K min) := by
  intro pins s σ H xs us Q I r h
  obtain ⟨a, n, ns, rfl, hs, q⟩ := h
  obtain ⟨u, rfl, ru⟩ := vals1 r
  cases ru
  have := units64 hr
  have hd : PyData.depthAll ((n :: ns).map PyData.int) = 0 := depth_ints' (n :: ns)
  have fin : ∀ (i : Nat) (v : Value) (h' : Heap) (tk : Nat) (bs : List Addr), Reads h' v (PySem.W.minD (.int n) (ns.map .int)) bs → (∀ b o, s.heap.get? b = some o → h'.get? b = some o) → EP X pins σ Q v { s with heap := h', toks := tk } := fun i v h' tk bs rd hk => by
    rw [PySem.W.minD_ints] at rd
    obtain ⟨t, rfl⟩ := reads_int_inv rd
    exact ⟨.int _, H, I.kept hk, ⟨t, rfl⟩, q⟩
  rcases hs with hs | hs
  · obtain ⟨its, rv, ⟨o, c, e1, e2, e3, e4⟩, _⟩ := I.list hs
    obtain ⟨as, ra⟩ := reads_ints (h := s.heap) (ns := n :: ns) rv
    exact PySem.W.min_list_data (vs := its.toArray) (x := .int n) (xs := ns.map .int) hr.hd ⟨o, e1, e2, c, e4⟩ ra (alike_ints' (n :: ns)) (by rw [show PyData.depthAll (.int n :: ns.map .int) = 0 from hd]; omega) fun i v h' tk bs _ rd hk => fin i v h' tk bs rd hk
  · obtain ⟨its, rv, ⟨o, e1, e2, c, e4⟩, _⟩ := I.tuple hs
    obtain ⟨as, ra⟩ := reads_ints (h := s.heap) (ns := n :: ns) rv
    exact PySem.W.min_tuple_data (vs := its.toArray) (x := .int n) (xs := ns.map .int) hr.hd ⟨o, e1, e2, c, e4⟩ ra (alike_ints' (n :: ns)) (by rw [show PyData.depthAll (.int n :: ns.map .int) = 0 from hd]; omega) fun i v h' tk bs _ rd hk => fin i v h' tk bs rd hk
def foldI (f : Int → Int → Int) : List D → Option D
  | .int n :: ds => (intsOf ds).map fun ns => .int (ns.foldl f n)
  | _ => none
def dMM (f : Int → Int → Int) : List D → Option D
  | [.lst ds] => foldI f ds
  | [.tup ds] => foldI f ds
  | [.int i, .int j] => some (.int (f i j))
  | _ => none
theorem foldI_some {f : Int → Int → Int} : ∀ {ds : List D} {d : D}, foldI f ds = some d → ∃ (n : Int) (ns : List Int), ds = (n :: ns).map D.int ∧ d = .int (ns.foldl f n)
  | .int n :: ds, _, e => by
    obtain ⟨ns, e1, rfl⟩ := Option.map_eq_some_iff.mp (show (intsOf ds).map (fun ns => D.int (ns.foldl f n)) = some _ from e)
    rw [intsOf_eq e1]
    exact ⟨n, ns, rfl, rfl⟩
  | [], _, e => by cases e
  | .non :: _, _, e => by cases e
  | .bl _ :: _, _, e => by cases e
  | .str _ :: _, _, e => by cases e
  | .tup _ :: _, _, e => by cases e
  | .lst _ :: _, _, e => by cases e
  | .dct _ :: _, _, e => by cases e
  | .obj _ _ :: _, _, e => by cases e
  | .adr _ :: _, _, e => by cases e
theorem evC_MM {f : Int → Int → Int} {r2 : List V → Hp → VK → Prop} (h2 : ∀ i j H (Q : VK), Q (.int (f i j)) H → r2 [.int i, .int j] H Q) : EvC Z (fun xs H Q => rMM Z.K f xs H Q ∨ r2 xs H Q) (dMM f) := fun vs ds H F Q d r s e k => by
  unfold dMM at e
  split at e
  · obtain ⟨n, ns, e1, rfl⟩ := foldI_some e
    obtain ⟨v, rfl, r0⟩ := r.one
    cases r0 with
    | @lst pa xs ds q l =>
      rw [e1] at l
      rw [l.ints] at q
      exact .inl ⟨pa, n, ns, rfl, .inl (same_l s.s q), k _ H F (Grow.refl s) .int⟩
  · obtain ⟨n, ns, e1, rfl⟩ := foldI_some e
    obtain ⟨v, rfl, r0⟩ := r.one
    cases r0 with
    | @tup pa xs ds q l =>
      rw [e1] at l
      rw [l.ints] at q
      exact .inl ⟨pa, n, ns, rfl, .inr (same_t s.s q), k _ H F (Grow.refl s) .int⟩
  · obtain ⟨v, w, rfl, r0, r1⟩ := r.two
    cases r0
    cases r1
    cases e
    exact .inr (h2 _ _ H Q (k _ H F (Grow.refl s) .int))
  · cases e
theorem cd_max {k : Nat} (hr : Room k X.A) (hc : X.calm = true := by rfl) : CD X (.builtin "max") (fun xs H Q => rMM X.K max xs H Q ∨ ∃ i j, xs = [.int i, .int j] ∧ Q (.int (if j > i then j else i)) H) (dMM max) :=
  ⟨(call_maxM hr).or (call_max2 hc), evC_MM (Z := zOf X) fun i j H Q q => ⟨i, j, rfl, by
    have e : (if j > i then j else i) = max i j := by
      split <;> omega
    rw [e]
    exact q⟩⟩
theorem cd_min {k : Nat} (hr : Room k X.A) (hc : X.calm = true := by rfl) : CD X (.builtin "min") (fun xs H Q => rMM X.K min xs H Q ∨ ∃ i j, xs = [.int i, .int j] ∧ Q (.int (if j < i then j else i)) H) (dMM min) :=
  ⟨(call_minM hr).or (call_min2 hc), evC_MM (Z := zOf X) fun i j H Q q => ⟨i, j, rfl, by
    have e : (if j < i then j else i) = min i j := by
      split <;> omega
    rw [e]
    exact q⟩⟩

/-! ### a global constant -/
theorem x_glob {v : V} {u : Value} {d : D} (hm : X.mg x = some u) (r : RelV v u) (h : ∀ F, Is (zOf X) F v d) (hg : Gl X x := by rfl) (hd : (x == ("__debug__" : Str)) = false := by decide) : EX X (.Name x pos) (tC v) (fun _ => some d) := ⟨pe_glob hg hm r hd, ev_c h⟩
theorem x_globI {i : Int} (hm : ∃ tk, X.mg x = some (.int i tk)) (hg : Gl X x := by rfl) (hd : (x == ("__debug__" : Str)) = false := by decide) : EX X (.Name x pos) (tC (.int i)) (fun _ => some (.int i)) := by
  obtain ⟨tk, hm⟩ := hm
  exact x_glob hm ⟨tk, rfl⟩ (fun _ => .int) hg hd

/-! ### defs -/
/-- the promise of a def that computes m -/
def spD (Z : Zc) (n : Nat) (m : List D → Option D) : Sp := fun vs H Q _ => vs.length = n ∧ ∃ F ds d, Ok Z F H ∧ IsL Z F vs ds ∧ m ds = some d ∧ ∀ v H' F', Grow Z F H F' H' → Is Z F' v d → Q v H'
def startD (n : Nat) (ds : List D) : SEnv := ds.map .f ++ List.replicate (n - ds.length) .u
def runD (n : Nat) (m : SM) (ds : List D) : Option D := (m (startD n ds)).bind fun
  | .rt d => some d
  | .nx _ => some .non
  | _ => none
section
variable {P : Program} {w : World} {K : PySem.W.Frag} {mg : Str → Option Value} {base : Heap}
theorem IsL.at_some : ∀ {vs : List V} {ds : List D} (i : Nat) (d : D), IsL Z F vs ds → (ds.map Sl.f)[i]? = some (.f d) → ∃ v, (vs.map some)[i]? = some (some v) ∧ Is Z F v d := fun {vs ds} i d l e => by
  rw [List.getElem?_map] at e
  cases q : ds[i]? with
  | none => rw [q] at e; cases e
  | some d' =>
    rw [q] at e
    cases e
    obtain ⟨v, e1, e2⟩ := l.get q
    exact ⟨v, by rw [List.getElem?_map, e1]; rfl, e2⟩
theorem fit_start {N : List Str} {vs : List V} {ds : List D} (ok : Ok Z F H) (l : IsL Z F vs ds) (hn : ds.length ≤ N.length) : FitS Z F H F (startD N.length ds) (L2.start N vs) H := by
  refine ⟨Grow.refl ok, ?_, fun i d e => ?_, fun i c e => ?_, fun i j c c' a e => ?_⟩
  · simp [startD, L2.start, l.length]
  · unfold startD at e
    unfold L2.start
    by_cases h : i < (ds.map Sl.f).length
    · rw [List.getElem?_append_left h] at e
      rw [List.getElem?_append_left (by simpa [l.length] using h)]
      exact l.at_some i d e
    · rw [List.getElem?_append_right (Nat.le_of_not_lt h), List.getElem?_replicate] at e
      split at e <;> cases e
  · unfold startD at e
    by_cases h : i < (ds.map Sl.f).length
    · rw [List.getElem?_append_left h, List.getElem?_map] at e
      cases q : ds[i]? with
      | none => rw [q] at e; cases e
      | some d' => rw [q] at e; cases e
    · rw [List.getElem?_append_right (Nat.le_of_not_lt h), List.getElem?_replicate] at e
      split at e <;> cases e
  · unfold startD at e
    by_cases h : i < (ds.map Sl.f).length
    · rw [List.getElem?_append_left h, List.getElem?_map] at e
      cases q : ds[i]? with
      | none => rw [q] at e; cases e
      | some d' => rw [q] at e; cases e
    · rw [List.getElem?_append_right (Nat.le_of_not_lt h), List.getElem?_replicate] at e
      split at e <;> cases e
/-- THE RULE for a def: its body computes sm -/
theorem fn_pure {x qual : Str} {st : Stmt} {f : Addr} {fd : FuncData} {N ps : List Str} {k : Nat} {sm : SM} (Fn : Fun K x qual st f fd) (S : FnScope N ps (defScope st))
    (hbody : ∀ (cdv : Value) (A : Around) (outer : List PySem.Env) (s : Shared) (H : Hp) (E : XK), Room k (A.deeper (PyProof.Rows.envOfC qual (defScope st) s.heap.objs.size f cdv)) →
      ∃ t, ESs (cxOf CX0 P w K mg base N qual (defScope st) f cdv A outer s H E).nox (defBody st) t sm) (hn : ps.length ≤ N.length := by decide) : FnOk P w K mg base CX0 (k + 1) f fd ps (spD ⟨P, w, K, Tb.T, Tb.Cl⟩ ps.length (runD N.length sm)) := by
  refine Fn.ok S (fun vs H Q E h => h.1) fun cdv A outer s H vs Q E hr h => ?_
  obtain ⟨hl, F, ds, d, ok, l, e, q⟩ := h
  obtain ⟨t, ht⟩ := hbody cdv A outer s H E hr
  refine ⟨t, ht.pss, ?_⟩
  obtain ⟨r, e1, e2⟩ := Option.bind_eq_some_iff.mp e
  refine ht.ev _ _ H F H F _ r (fit_start (Z := ⟨P, w, K, Tb.T, Tb.Cl⟩) ok l (by rw [← l.length, hl]; exact hn)) e1 ?_
  cases r with
  | rt d' => cases e2; exact fun v H' F' g r => q v H' F' g r
  | nx se => cases e2; exact fun σ H' F' f _ => q .non H' F' f.g .non
  | bk se => cases e2
  | ct se => cases e2
/-- a def as its callers know it -/
structure Kn (P : Program) (w : World) (K : PySem.W.Frag) (mg : Str → Option Value) (base : Heap) (x : Str) (k n : Nat) (m : List D → Option D) : Prop where
  ex : ∃ f fd ps, FnOk P w K mg base CX0 k f fd ps (spD ⟨P, w, K, Tb.T, Tb.Cl⟩ n m) ∧ mg x = some (.ref f) ∧ PySem.W.keepIn K (.ref f) = true ∧ Binds K fd ps []
end
theorem ev_call {n : Nat} {m : List D → Option D} (hm : ∀ ds d, m ds = some d → ds.length = n) (ha : EvA Z t ms) : Evl Z (tCall (spD Z n m) [] E0 t) (mCall ms m) := fun env σ H F Q d f s e k => by
  obtain ⟨ds, e1, e2⟩ := Option.bind_eq_some_iff.mp e
  refine ha env σ H F _ ds f s e1 fun vs H1 F1 g1 r1 => ?_
  refine ⟨by rw [List.append_nil, r1.length, hm _ _ e2], F1, ds, d, g1.ok, by rw [List.append_nil]; exact r1, e2, fun v H2 F2 g2 r2 => k v H2 F2 (g1.trans g2) r2⟩
/-- f(e, ..) -/
theorem x_call {k j n : Nat} {m : List D → Option D} (h : Kn X.prog X.w X.K X.mg X.base x k n m) (hr : Room j X.A) (ha : EA X (e :: es) t ms) (hn : ∀ env ds, ms env = some ds → ds.length = n) (hkj : k ≤ j := by decide) (hg : Gl X x := by rfl) (hdb : (x == ("__debug__" : Str)) = false := by decide)
    (he : starEach (e :: es) X.env = (false, eval e X.env) :: starEach es X.env := by rfl) (hpl : (backTo pos (starEach es X.env)).any (·.1) = false := by rfl) : EX X (.Call (.Name x p) (e :: es) [] pos) (tCall (spD (zOf X) n m) [] E0 t) (mCall ms m) := by
  obtain ⟨f, fd, ps, hF, hm, hk, hb⟩ := h.ex
  refine ⟨pe_call hF (hr.mono hkj) hg hm hk hb .nil pass0 ha.pa hdb he hpl, fun env σ H F Q d f s e k => ?_⟩
  obtain ⟨ds, e1, e2⟩ := Option.bind_eq_some_iff.mp e
  refine ha.ev env σ H F _ ds f s e1 fun vs H1 F1 g1 r1 => ?_
  refine ⟨by rw [List.append_nil, r1.length, hn _ _ e1], F1, ds, d, g1.ok, by rw [List.append_nil]; exact r1, e2, fun v H2 F2 g2 r2 => k v H2 F2 (g1.trans g2) r2⟩
theorem len_nil : ∀ env ds, (fun _ : Env => some ([] : List D)) env = some ds → ds.length = 0 := fun _ _ e => by cases e; rfl
theorem len_cons {n : Nat} (h : ∀ env ds, ms env = some ds → ds.length = n) : ∀ env ds, mCons ma ms env = some ds → ds.length = n + 1 := fun env ds e => by
  unfold mCons at e
  simp only [Option.bind_eq_bind, Option.bind_eq_some_iff, Option.pure_def, Option.some.injEq] at e
  obtain ⟨d, _, xs, e2, rfl⟩ := e
  simp [h env xs e2]
end EX
set_option Elab.async false
set_option linter.all false
set_option autoImplicit false
set_option maxRecDepth 100000
set_option maxHeartbeats 4000000
/-! E8: enumerate and zip over lists and tuples. -/
namespace EX
open PySem L2
variable [Tb] {Z : Zc} {F F' F1 F2 H H' H1 H2 F0 H0 : Hp} {X : Cx} {ta tb tc te : TE} {ma mb mc me : Env → Option D} {t : TA} {ms : Env → Option (List D)} {pos : Pos} {e a b c : Expr} {es : List Expr}
  {qa qb qc : TT} {na nb nc : Env → Option Bool} {tg iter : Expr}

/-! ### sequences of either kind -/
def SqB (K : PySem.W.Frag) (b : Bool) (H : Hp) (a : Addr) (xs : List V) : Prop := match b with
  | true => SqL K H a xs
  | false => SqT K H a xs
def ItB (b : Bool) (h : Heap) (it l : Addr) (i : Nat) : Prop := match b with
  | true => h.IsListIter it l i
  | false => h.IsTupleIter it l i
def SB (b : Bool) (h : Heap) (l : Addr) (items : Array Value) : Prop := match b with
  | true => h.IsList l items
  | false => h.IsTuple l items
def objB (b : Bool) (l : Addr) : Obj := { cls := .type (if b = true then "list_iterator" else "tuple_iterator"), data := .fields #[.ref l, .int 0 0] }
theorem beginsB (b : Bool) (l : Addr) (items : Array Value) : Begins (.ref l) (objB b l) (fun h => SB b h l items) := by
  cases b
  · exact begins_tuple l items
  · exact begins_list l items
theorem itB0 {b : Bool} {h : Heap} {it l : Addr} (e : h.get? it = some (objB b l)) : ItB b h it l 0 := by
  cases b
  · exact ⟨_, e, rfl, rfl⟩
  · exact ⟨_, e, rfl, rfl⟩
theorem itB_obj {b : Bool} {h : Heap} {it l : Addr} {i : Nat} (st : ItB b h it l i) : ∃ o, h.get? it = some o ∧ ∀ v, o.data ≠ .cell v := by
  cases b
  · obtain ⟨o, e, _, d⟩ := st
    exact ⟨o, e, fun v q => by rw [d] at q; cases q⟩
  · obtain ⟨o, e, _, d⟩ := st
    exact ⟨o, e, fun v q => by rw [d] at q; cases q⟩
theorem itB_at {b : Bool} {h h' : Heap} {it l : Addr} {i : Nat} (st : ItB b h it l i) (k : ∀ o, h.get? it = some o → h'.get? it = some o) : ItB b h' it l i := by
  cases b
  · obtain ⟨o, e, c, d⟩ := st
    exact ⟨o, k o e, c, d⟩
  · obtain ⟨o, e, c, d⟩ := st
    exact ⟨o, k o e, c, d⟩
theorem sB_lt {b : Bool} {h : Heap} {l : Addr} {items : Array Value} (st : SB b h l items) : l < h.objs.size := by
  cases b
  · obtain ⟨o, e, _⟩ := st
    exact Heap.lt_size e
  · obtain ⟨o, e, _⟩ := st
    exact Heap.lt_size e
theorem drawsB {prog : Program} {w : World} {A : Around} (b : Bool) (hh : A.handled = none) (it l : Addr) (hne : l ≠ it) (items : Array Value) :
    Draws prog w A it [it, l] items.size (fun i v => items[i]? = some v) (fun i h => ItB b h it l i ∧ SB b h l items) := by
  cases b
  · exact Draws.tuple hh it l hne items
  · exact Draws.list hh it l hne items
theorem sqB_at {X : Cx} {pins : List (Addr × Obj)} {σ : L2.St} {s : Shared} {b : Bool} {a : Addr} {xs : List V} (I : Inv X pins σ H s) (h : SqB X.K b H a xs) : ∃ its : List Value, Vals xs its ∧ SB b s.heap a its.toArray := by
  cases b
  · obtain ⟨its, r, p, _⟩ := I.tuple h
    exact ⟨its, r, p⟩
  · obtain ⟨its, r, p, _⟩ := I.list h
    exact ⟨its, r, p.isList⟩
theorem sqB_inj {X : Cx} {pins : List (Addr × Obj)} {σ : L2.St} {s : Shared} {b : Bool} {a : Addr} {xs ys : List V} (I : Inv X pins σ H s) (h : SqB X.K b H a xs) (h' : SqB X.K b H a ys) : xs = ys := by
  cases b
  · exact I.tuple_inj h h'
  · exact I.list_inj h h'
/-! ### enumerate -/
def IteB (K : PySem.W.Frag) (b : Bool) (a : Addr) : It :=
  ⟨fun i H => ∃ (xs : List V) (x : V), SqB K b H a xs ∧ xs[i]? = some x, fun i H v H' => ∃ T x, ∃ o : Obj, v = .ref T ∧ H T = none ∧ H' = upd H T (.frz o (.tup [.int (i : Nat), x])) ∧ o.dict = none ∧ ∀ xs, SqB K b H a xs → xs[i]? = some x,
    fun i H => ∃ xs : List V, SqB K b H a xs ∧ xs.length = i⟩
theorem turn_enumB {P : Program} {w : World} {K : PySem.W.Frag} {elts : List Expr} {kk : Nat} {tpos : Pos} (b : Bool) {a e it : Addr} (hae : e ∉ [it, a]) (hai : a ≠ it) :
    Turn P w K (.Tuple elts kk tpos) (IteB K b a) [e, it] e (fun i h => (∃ old, IsEnum h e it ((i : Nat) : Int) old) ∧ ItB b h it a i) where
  mem := by simp
  obj := fun i h st c hc => by
    obtain ⟨⟨old, he⟩, hi⟩ := st
    have e' : c = e ∨ c = it := by simpa using hc
    rcases e' with z | z
    · rw [z]; exact ⟨_, he, fun v q => nomatch q⟩
    · rw [z]; exact itB_obj hi
  keep := fun i h h' st k => let ⟨⟨old, he⟩, hi⟩ := st; ⟨⟨old, k e (by simp) _ he⟩, itB_at hi fun o q => k it (by simp) o q⟩
  item := by
    intro X hP hw hK hc i pins s σ H E I hf st hg
    subst hP hw hK
    obtain ⟨⟨old, he⟩, hit⟩ := st
    obtain ⟨xs, x, hq, hx⟩ := hg
    obtain ⟨its, rv, p⟩ := sqB_at I hq
    obtain ⟨u, hu, ru⟩ := rv.get hx
    have hlen := rv.length
    have hlt : i < xs.length := (List.getElem?_eq_some_iff.mp hx).1
    have hei : e ≠ it := fun z => hae (by simp [z])
    have hel : e < s.heap.objs.size := Heap.lt_size he
    have hil : it < s.heap.objs.size := by obtain ⟨_, q, _⟩ := itB_obj hit; exact Heap.lt_size q
    refine wpAny_pyNext_enum_itemD (drawsB b (show X.A.in1.handled = none from I.ok.hd hc) it a hai its.toArray) he ⟨hit, p⟩ (by simp; omega) hei hae fun x' h' tk hP ho st' hT hsz hk => ?_
    have hxu : x' = u := by
      have z : its[i]? = some x' := by simpa using hP
      rw [hu] at z
      exact (Option.some.inj z).symm
    subst hxu
    refine ⟨_, rfl, wpAny_letOwnedTupleGo_enum (s := { s with heap := h', toks := tk + 1 }) ho fun h'' he' sb => ?_⟩
    have hT2 : h''.get? s.heap.objs.size = some { cls := .type "tuple", data := .seq #[.int i tk, x'] } := (sb.2 _ (Nat.ne_of_gt hel)).trans hT
    have new : ObjOk X.prog X.w (upd H s.heap.objs.size (.frz { cls := .type "tuple", data := .seq #[.int i tk, x'] } (.tup [.int (i : Nat), x]))) h'' s.heap.objs.size (.frz { cls := .type "tuple", data := .seq #[.int i tk, x'] } (.tup [.int (i : Nat), x])) :=
      tup_ok (by show 2 ≤ sizeLine; decide) (.cons ⟨_, rfl⟩ (.cons ru .nil)) hT2 rfl ⟨_, rfl⟩
    have I1 : Inv X pins σ (upd H s.heap.objs.size (.frz { cls := .type "tuple", data := .seq #[.int i tk, x'] } (.tup [.int (i : Nat), x]))) { s with heap := h'', toks := tk + 1 } :=
      I.turnedNew (ch := [e, it]) (fun c ob hb q => (sb.2 c (fun z => hb (by simp [z]))).trans (hk c ob (fun z => hb (by simp [z])) (fun z => hb (by simp [z])) q)) hf (Nat.le_refl _) new
    refine ⟨.ref s.heap.objs.size, _, I1, rfl, ⟨_, x, _, rfl, I.hok.fresh (Nat.le_refl _), rfl, rfl, fun ys hy => by rw [sqB_inj I hy hq]; exact hx⟩, ⟨⟨x', ?_⟩, itB_at st'.1 fun o q => (sb.2 it (Ne.symm hei)).trans q⟩, fun c hc => ?_⟩
    · have e1 : ((i + 1 : Nat) : Int) = (i : Int) + 1 := by omega
      rw [e1]; exact he'
    · have hb' : c < s.heap.objs.size := by
        have e' : c = e ∨ c = it := by simpa using hc
        rcases e' with z | z
        · rw [z]; exact hel
        · rw [z]; exact hil
      rw [upd_ne (Nat.ne_of_lt hb')]
      exact (hf c hc).1
  done := by
    intro X hP hw hK hc i pins s σ H E I hf st hg
    subst hP hw hK
    obtain ⟨⟨old, he⟩, hit⟩ := st
    obtain ⟨xs, hq, hx⟩ := hg
    obtain ⟨its, rv, p⟩ := sqB_at I hq
    have hlen := rv.length
    have hsz : its.toArray.size = i := by simp; omega
    obtain ⟨f0, f1, f2, f3, f4, f5⟩ := hf it (by simp)
    exact wpAny_pyNext_enum_endD (drawsB b (show X.A.in1.handled = none from I.ok.hd hc) it a hai its.toArray) he (by rw [hsz]; exact ⟨hit, p⟩) fun h' eb => ⟨rfl, I.turned (t' := s.toks) (fun c o hb q => eb c o hb q) f0 f1 f3 f4 f5⟩
  self := fun A i s Q E st h => let ⟨⟨_, he⟩, _⟩ := st; wpAny_pyIter_enum he h
set_option maxHeartbeats 4000000 in
theorem meets_enumerate_newB1 {v : Value} {o : Obj} {Hh : Heap → Prop} (B : Begins v o Hh) :
    Meets (Builtin.«enumerate.__new__» ⟨[.type "enumerate", v], []⟩) (fun _ R s => Hh s.heap ∧
      R (.ok (.ret (.ref (s.heap.push o).objs.size))) { s with heap := (s.heap.push o).push { cls := .type "enumerate", data := .fields #[.none, .bool false, .ref s.heap.objs.size, rawInt 0, .none, .none] } }) :=
  .of_wp fun prog w A R s h => by
    obtain ⟨hp, g, d, tk, os⟩ := s; obtain ⟨h1, h⟩ := h
    have hsub := sub_enumerate
    have q1 : ∀ {A' : Around} {E : Value → Shared → Prop} {Q : Value → Shared → Prop}, Q (.ref hp.objs.size) ⟨hp.push o, g, d, tk, os⟩ → wpAny (model prog w) A' (pyIter v) Q E ⟨hp, g, d, tk, os⟩ :=
      fun q => B.iter prog w _ _ ⟨hp, g, d, tk, os⟩ _ h1 q
    wp_walk using q1
    refine wpAny_stack_any fun st => wpAny_pure ?_
    split
    · rename_i c _ _ _ _ _
      cases (c == Value.type "enumerate")
      · wp_walk using q1
        exact ⟨_, rfl, h⟩
      · wp_walk using q1
        exact ⟨_, rfl, h⟩
    · wp_walk using q1
      exact ⟨_, rfl, h⟩
theorem enum_begins1 {prog : Program} {w : World} {A : Around} {E : Value → Shared → Prop} {s : Shared} {v : Value} {o : Obj} {Hh : Heap → Prop} {Q : Value → Shared → Prop} (B : Begins v o Hh) (h1 : Hh s.heap)
    (h : ∀ h', IsEnum h' (s.heap.objs.size + 1) s.heap.objs.size 0 .none → h'.get? s.heap.objs.size = some o → h'.objs.size = s.heap.objs.size + 2 →
      (∀ b o, s.heap.get? b = some o → h'.get? b = some o) → Q (.ref (s.heap.objs.size + 1)) { s with heap := h' }) :
    wpAny (model prog w) A (call (.type "enumerate") [v]) Q E s := by
  refine callType_new F.called_enumerate (by decide) (F.typeCall_enumerate_1 _) (F.newCall_enumerate_1 _) (fun obj => F.args_object_init_2 obj _) F.entry_enumerate_new
    (meets_enumerate_newB1 B) ⟨h1, ?_⟩
  have hz : (s.heap.push o).objs.size = s.heap.objs.size + 1 := Heap.size_push ..
  show _ ∧ _
  rw [hz]
  have he : IsEnum ((s.heap.push o).push { cls := .type "enumerate", data := .fields #[.none, .bool false, .ref s.heap.objs.size, rawInt 0, .none, .none] }) (s.heap.objs.size + 1) s.heap.objs.size 0 .none := by
    have := Heap.get?_push_size (s.heap.push o) (o := { cls := .type "enumerate", data := .fields #[.none, .bool false, .ref s.heap.objs.size, rawInt 0, .none, .none] }) rfl
    rw [hz] at this; exact this
  exact ⟨⟨_, he, rfl⟩, h _ he (Heap.get?_push_of_some _ (Heap.get?_push_size _ B.free)) (by rw [Heap.size_push, hz]) fun b o x => Heap.get?_push_of_some _ (Heap.get?_push_of_some _ x)⟩
def iEnumB (K : PySem.W.Frag) (ta : TA) : TI := fun σ H R => ta σ H fun vs H1 => ∃ b a xs, vs = [.ref a] ∧ SqB K b H1 a xs ∧ R (IteB K b a) H1
theorem pi_enumB {X : Cx} {e : Expr} {ta : TA} {p pos tpos : Pos} {elts : List Expr} {kk : Nat} (hg : Gl X "enumerate") (hm : X.mg "enumerate" = none) (ha : PA X [e] ta) (hs : starEach [e] X.env = [(false, eval e X.env)] := by rfl) :
    PI X (.Tuple elts kk tpos) (.Call (.Name "enumerate" p) [e] [] pos) (iEnumB X.K ta) := by
  refine ⟨fun pins s σ H R I h => ?_⟩
  refine PyProof.Rows.Call_ (ld_blt I hg hm PyProof.Rows.boot_enumerate (PyProof.Rows.callWith_type1 (thn (ha.run pos pins s σ H _ I h) fun us s1 ⟨vs, H1, I1, r1, q1⟩ => ?_) hs rfl))
  obtain ⟨b, a, xs, ex, hq, q⟩ := q1
  subst ex
  cases r1 with
  | cons r rr =>
    cases rr
    cases r
    obtain ⟨its, rv, p'⟩ := sqB_at I1 hq
    have hl := sB_lt p'
    refine enum_begins1 (beginsB b a its.toArray) p' fun h' he hit hsz hk => wpAny_pyIter_enum he ?_
    have I2 : Inv X pins σ H1 { s1 with heap := h' } := I1.kept (t' := s1.toks) hk
    refine ⟨s1.heap.objs.size + 1, [s1.heap.objs.size + 1, s1.heap.objs.size], _, _, H1, rfl, I2, turn_enumB b (a := a) (e := s1.heap.objs.size + 1) (it := s1.heap.objs.size) (fun z => ?_) (Nat.ne_of_lt hl), ⟨⟨.none, he⟩, itB0 hit⟩, fun c hb => ?_, q⟩
    · have e' : s1.heap.objs.size + 1 = s1.heap.objs.size ∨ s1.heap.objs.size + 1 = a := by simpa using z
      rcases e' with z | z
      · exact Nat.succ_ne_self _ z
      · rw [← z] at hl; exact Nat.lt_irrefl _ (Nat.lt_of_succ_lt hl)
    · have e' : c = s1.heap.objs.size + 1 ∨ c = s1.heap.objs.size := by simpa using hb
      have hle : s1.heap.objs.size ≤ c := by
        rcases e' with z | z
        · rw [z]; exact Nat.le_succ _
        · rw [z]; exact Nat.le_refl _
      exact I1.fpOk hle (I1.hok.fresh hle)
/-! ### zip -/
def ItzB (K : PySem.W.Frag) (b1 b2 : Bool) (a b : Addr) : It :=
  ⟨fun i H => ∃ (xs ys : List V) (x y : V), SqB K b1 H a xs ∧ SqB K b2 H b ys ∧ xs[i]? = some x ∧ ys[i]? = some y,
    fun i H v H' => ∃ T x y, ∃ o : Obj, v = .ref T ∧ H T = none ∧ H' = upd H T (.frz o (.tup [x, y])) ∧ o.dict = none ∧ (∀ xs, SqB K b1 H a xs → xs[i]? = some x) ∧ ∀ ys, SqB K b2 H b ys → ys[i]? = some y,
    fun i H => ∃ xs ys : List V, SqB K b1 H a xs ∧ SqB K b2 H b ys ∧ i ≤ xs.length ∧ i ≤ ys.length ∧ (i = xs.length ∨ i = ys.length)⟩
theorem turn_zipB {P : Program} {w : World} {K : PySem.W.Frag} {elts : List Expr} {kk : Nat} {tpos : Pos} (b1 b2 : Bool) {a b z TI TO i1 i2 : Addr} (S : ZipSep2 z TI TO i1 i2 [i1, a] [i2, b]) :
    Turn P w K (.Tuple elts kk tpos) (ItzB K b1 b2 a b) [z, TI, TO, i1, i2] z (fun i h => IsZip h z TI TO .none ∧ IsTupOf2 h TI (.ref i1) (.ref i2) ∧ (∃ x y, IsTupOf2 h TO x y) ∧ ItB b1 h i1 a i ∧ ItB b2 h i2 b i) where
  mem := by simp
  obj := fun i h st c hc => by
    obtain ⟨hz, hTI, ⟨x, y, hTO⟩, h1, h2⟩ := st
    have e' : c = z ∨ c = TI ∨ c = TO ∨ c = i1 ∨ c = i2 := by simpa using hc
    rcases e' with q | q | q | q | q
    · rw [q]; exact ⟨_, hz, fun v q => nomatch q⟩
    · rw [q]; exact ⟨_, hTI, fun v q => nomatch q⟩
    · rw [q]; exact ⟨_, hTO, fun v q => nomatch q⟩
    · rw [q]; exact itB_obj h1
    · rw [q]; exact itB_obj h2
  keep := fun i h h' st k => by
    obtain ⟨hz, hTI, ⟨x, y, hTO⟩, h1, h2⟩ := st
    exact ⟨k z (by simp) _ hz, k TI (by simp) _ hTI, ⟨x, y, k TO (by simp) _ hTO⟩, itB_at h1 fun o q => k i1 (by simp) o q, itB_at h2 fun o q => k i2 (by simp) o q⟩
  item := by
    intro X hP hw hK hc i pins s σ H E I hf st hg
    subst hP hw hK
    obtain ⟨hz, hTI, ⟨x0, y0, hTO⟩, h1, h2⟩ := st
    obtain ⟨xs, ys, x, y, hqx, hqy, hx, hy⟩ := hg
    obtain ⟨its, rv, p⟩ := sqB_at I hqx
    obtain ⟨its2, rv2, p2⟩ := sqB_at I hqy
    obtain ⟨u, hu, ru⟩ := rv.get hx
    obtain ⟨u2, hu2, ru2⟩ := rv2.get hy
    have l1 := rv.length
    have l2 := rv2.length
    have lt1 : i < xs.length := (List.getElem?_eq_some_iff.mp hx).1
    have lt2 : i < ys.length := (List.getElem?_eq_some_iff.mp hy).1
    have hzl : z < s.heap.objs.size := Heap.lt_size hz
    have ha1 : a ≠ i1 := fun q => S.sep1_2.elim (by exfalso; exact absurd rfl (fun _ : i1 = i1 => by
      rw [q] at p
      obtain ⟨o, e1, _⟩ := itB_obj h1
      cases b1
      · obtain ⟨o1, f1, c1, _⟩ := h1
        obtain ⟨o2, f2, c2, _⟩ := p
        rw [f1] at f2; cases f2; rw [c1] at c2; simp at c2
      · obtain ⟨o1, f1, c1, _⟩ := h1
        obtain ⟨o2, f2, c2, _⟩ := p
        rw [f1] at f2; cases f2; rw [c1] at c2; simp at c2))
    have hb2 : b ≠ i2 := fun q => by
      rw [q] at p2
      cases b2
      · obtain ⟨o1, f1, c1, _⟩ := h2
        obtain ⟨o2, f2, c2, _⟩ := p2
        rw [f1] at f2; cases f2; rw [c1] at c2; simp at c2
      · obtain ⟨o1, f1, c1, _⟩ := h2
        obtain ⟨o2, f2, c2, _⟩ := p2
        rw [f1] at f2; cases f2; rw [c1] at c2; simp at c2
    have hh : X.A.in1.handled = none := I.ok.hd hc
    refine wpAny_pyNext_zipD2_item S (drawsB b1 hh i1 a ha1 its.toArray) (drawsB b2 hh i2 b hb2 its2.toArray) hz hTI hTO ⟨h1, p⟩ ⟨h2, p2⟩ (by simp; omega) (by simp; omega) fun x1 x2 h' tk P1 P2 z' TO' st1 st2 hT hsz hk => ?_
    have e1 : x1 = u := by
      have q : its[i]? = some x1 := by simpa using P1
      rw [hu] at q
      exact (Option.some.inj q).symm
    have e2 : x2 = u2 := by
      have q : its2[i]? = some x2 := by simpa using P2
      rw [hu2] at q
      exact (Option.some.inj q).symm
    subst e1 e2
    refine ⟨_, rfl, wpAny_letOwnedTupleGo_zip (s := { s with heap := h', toks := tk }) z' fun h'' z'' sb => ?_⟩
    have hT2 : h''.get? s.heap.objs.size = some { cls := .type "tuple", data := .seq #[x1, x2] } := (sb.2 _ (Nat.ne_of_gt hzl)).trans hT
    have new : ObjOk X.prog X.w (upd H s.heap.objs.size (.frz { cls := .type "tuple", data := .seq #[x1, x2] } (.tup [x, y]))) h'' s.heap.objs.size (.frz { cls := .type "tuple", data := .seq #[x1, x2] } (.tup [x, y])) :=
      tup_ok (by show 2 ≤ sizeLine; decide) (.cons ru (.cons ru2 .nil)) hT2 rfl ⟨_, rfl⟩
    have I1 : Inv X pins σ (upd H s.heap.objs.size (.frz { cls := .type "tuple", data := .seq #[x1, x2] } (.tup [x, y]))) { s with heap := h'', toks := tk } :=
      I.turnedNew (ch := [z, TI, TO, i1, i2]) (fun c o hb q => (sb.2 c (fun q' => hb (by simp [q']))).trans (hk c o (fun q' => hb (by simp [q'])) (fun q' => hb (by simp [q'])) (fun q' => hb (by simp [q'])) (fun q' => hb (by simp [q'])) q)) hf (Nat.le_refl _) new
    have hTIk : IsTupOf2 h'' TI (.ref i1) (.ref i2) := (sb.2 _ S.TIz).trans (hk _ _ S.TIz S.TITO S.TIi1 S.TIi2 hTI)
    refine ⟨.ref s.heap.objs.size, _, I1, rfl, ⟨_, x, y, _, rfl, I.hok.fresh (Nat.le_refl _), rfl, rfl, fun l hl => by rw [sqB_inj I hl hqx]; exact hx, fun l hl => by rw [sqB_inj I hl hqy]; exact hy⟩, ⟨z'', hTIk, ⟨x1, x2, (sb.2 _ S.TOz).trans TO'⟩, itB_at st1.1 fun o q => (sb.2 _ (Ne.symm S.zi1)).trans q, itB_at st2.1 fun o q => (sb.2 _ (Ne.symm S.zi2)).trans q⟩, fun c hcm => ?_⟩
    have hlt : c < s.heap.objs.size := by
      have e' : c = z ∨ c = TI ∨ c = TO ∨ c = i1 ∨ c = i2 := by simpa using hcm
      rcases e' with q | q | q | q | q
      · rw [q]; exact hzl
      · rw [q]; exact Heap.lt_size hTI
      · rw [q]; exact Heap.lt_size hTO
      · rw [q]; obtain ⟨_, e1, _⟩ := itB_obj h1; exact Heap.lt_size e1
      · rw [q]; obtain ⟨_, e2, _⟩ := itB_obj h2; exact Heap.lt_size e2
    rw [upd_ne (Nat.ne_of_lt hlt)]
    exact (hf c hcm).1
  done := by
    intro X hP hw hK hc i pins s σ H E I hf st hg
    subst hP hw hK
    obtain ⟨hz, hTI, ⟨x0, y0, hTO⟩, h1, h2⟩ := st
    obtain ⟨xs, ys, hqx, hqy, hl1, hl2, hend⟩ := hg
    obtain ⟨its, rv, p⟩ := sqB_at I hqx
    obtain ⟨its2, rv2, p2⟩ := sqB_at I hqy
    have l1 := rv.length
    have l2 := rv2.length
    have ha1 : a ≠ i1 := fun q => by
      rw [q] at p
      cases b1
      · obtain ⟨o1, f1, c1, _⟩ := h1
        obtain ⟨o2, f2, c2, _⟩ := p
        rw [f1] at f2; cases f2; rw [c1] at c2; simp at c2
      · obtain ⟨o1, f1, c1, _⟩ := h1
        obtain ⟨o2, f2, c2, _⟩ := p
        rw [f1] at f2; cases f2; rw [c1] at c2; simp at c2
    have hb2 : b ≠ i2 := fun q => by
      rw [q] at p2
      cases b2
      · obtain ⟨o1, f1, c1, _⟩ := h2
        obtain ⟨o2, f2, c2, _⟩ := p2
        rw [f1] at f2; cases f2; rw [c1] at c2; simp at c2
      · obtain ⟨o1, f1, c1, _⟩ := h2
        obtain ⟨o2, f2, c2, _⟩ := p2
        rw [f1] at f2; cases f2; rw [c1] at c2; simp at c2
    have hh : X.A.in1.handled = none := I.ok.hd hc
    exact wpAny_pyNext_zipD2_end S (drawsB b1 hh i1 a ha1 its.toArray) (drawsB b2 hh i2 b hb2 its2.toArray) hz hTI hTO ⟨h1, p⟩ ⟨h2, p2⟩ (by simp; omega) (by simp; omega) (by simp; omega) fun h' tk hk => ⟨rfl, I.turnedL (t' := tk) (ch := [z, TI, TO, i1, i2]) (fun c o hb q =>
      hk c o (fun q' => hb (by simp [q'])) (fun q' => hb (by simp [q'])) (fun q' => hb (by simp [q'])) (fun q' => hb (by simp [q'])) q) hf⟩
  self := fun A i s Q E st h => wpAny_pyIter_zip st.1 h
def iZipB (K : PySem.W.Frag) (ta : TA) : TI := fun σ H R => ta σ H fun vs H1 => ∃ b1 b2 a b xs ys, vs = [.ref a, .ref b] ∧ SqB K b1 H1 a xs ∧ SqB K b2 H1 b ys ∧ R (ItzB K b1 b2 a b) H1
theorem pi_zipB {X : Cx} {e e2 : Expr} {ta : TA} {p pos tpos : Pos} {elts : List Expr} {kk : Nat} (hg : Gl X "zip") (hm : X.mg "zip" = none) (ha : PA X [e, e2] ta)
    (hs : starEach [e, e2] X.env = (false, eval e X.env) :: starEach [e2] X.env := by rfl) (hpl : (backTo pos (starEach [e2] X.env)).any (·.1) = false := by rfl) :
    PI X (.Tuple elts kk tpos) (.Call (.Name "zip" p) [e, e2] [] pos) (iZipB X.K ta) := by
  refine ⟨fun pins s σ H R I h => ?_⟩
  refine PyProof.Rows.Call_ (ld_blt I hg hm PyProof.Rows.boot_zip (PyProof.Rows.callWith_type1 (thn (ha.run pos pins s σ H _ I h) fun us s1 ⟨vs, H1, I1, r1, q1⟩ => ?_) hs hpl))
  obtain ⟨b1, b2, a, b, xs, ys, ex, hqx, hqy, q⟩ := q1
  subst ex
  cases r1 with
  | cons r rr =>
    cases rr with
    | cons r' rr =>
      cases rr
      cases r
      cases r'
      obtain ⟨its, rv, p1⟩ := sqB_at I1 hqx
      obtain ⟨its2, rv2, p2⟩ := sqB_at I1 hqy
      have hl1 := sB_lt p1
      have hl2 := sB_lt p2
      refine zip_begins2 (beginsB b1 a its.toArray) (beginsB b2 b its2.toArray) p1 p2 fun h' hz hTI hTO h1 h2 hsz hk => wpAny_pyIter_zip hz ?_
      have I2 : Inv X pins σ H1 { s1 with heap := h' } := I1.kept (t' := s1.toks) hk
      refine ⟨s1.heap.objs.size + 4, [s1.heap.objs.size + 4, s1.heap.objs.size + 2, s1.heap.objs.size + 3, s1.heap.objs.size, s1.heap.objs.size + 1], _, _, H1, rfl, I2,
        turn_zipB b1 b2 (zip_sep2 (N := s1.heap.objs.size) (fp1 := [a]) (fp2 := [b]) (fun c hc => by rw [List.mem_singleton.mp hc]; exact hl1) (fun c hc => by rw [List.mem_singleton.mp hc]; exact hl2)), ⟨hz, hTI, ⟨_, _, hTO⟩, itB0 h1, itB0 h2⟩, fun c hcm => ?_, q⟩
      have e' : c = s1.heap.objs.size + 4 ∨ c = s1.heap.objs.size + 2 ∨ c = s1.heap.objs.size + 3 ∨ c = s1.heap.objs.size ∨ c = s1.heap.objs.size + 1 := by simpa using hcm
      have hle : s1.heap.objs.size ≤ c := by
        rcases e' with z | z | z | z | z
        · rw [z]; exact Nat.le_add_right _ _
        · rw [z]; exact Nat.le_add_right _ _
        · rw [z]; exact Nat.le_add_right _ _
        · rw [z]; exact Nat.le_refl _
        · rw [z]; exact Nat.le_add_right _ _
      exact I1.fpOk hle (I1.hok.fresh hle)

/-! ### as data -/
def sqD : D → Option (List D)
  | .lst ds => some ds
  | .tup ds => some ds
  | _ => none
theorem Is.sqB {v : V} {d : D} {ds : List D} (r : Is Z F v d) (e : sqD d = some ds) (s : Same F H) : ∃ b a xs, v = .ref a ∧ SqB Z.K b F a xs ∧ SqB Z.K b H a xs ∧ IsL Z F xs ds := by
  cases r with
  | @lst a xs ds' h l => cases e; exact ⟨true, a, xs, rfl, h, same_l s h, l⟩
  | @tup a xs ds' h l => cases e; exact ⟨false, a, xs, rfl, h.sq, same_t s h, l⟩
  | _ => cases e
theorem sqB_same {b : Bool} {a : Addr} {xs : List V} {K : PySem.W.Frag} (s : Same F H) (h : SqB K b F a xs) : SqB K b H a xs := by
  cases b
  · exact same_t0 s h
  · exact same_l s h
def pairsD (n : Nat) : List D → List D
  | [] => []
  | d :: ds => .tup [.int n, d] :: pairsD (n + 1) ds
theorem pairsD_len : ∀ (n : Nat) (ds : List D), (pairsD n ds).length = ds.length
  | _, [] => rfl
  | n, _ :: ds => by simp [pairsD, pairsD_len (n + 1) ds]
theorem pairsD_get : ∀ (n i : Nat) (ds : List D), (pairsD n ds)[i]? = (ds[i]?).map fun d => .tup [.int ((n + i : Nat) : Int), d]
  | _, _, [] => by simp [pairsD]
  | n, 0, d :: ds => by simp [pairsD]
  | n, i + 1, d :: ds => by
    rw [pairsD, List.getElem?_cons_succ, pairsD_get (n + 1) i ds, List.getElem?_cons_succ, show n + 1 + i = n + (i + 1) from by omega]
theorem sqB_fun (Z : Zc) (P : Prop) : True := True.intro
theorem wk_enum {b : Bool} {a0 : Addr} {vs : List V} {ds : List D} (h : SqB Z.K b F a0 vs) (l : IsL Z F vs ds) : Wk Z (IteB Z.K b a0) F (pairsD 0 ds) := by
  refine ⟨⟨fun H => SqB Z.K b H a0 vs, fun i H v H' => ∃ T x, ∃ o : Obj, v = .ref T ∧ H T = none ∧ H' = upd H T (.frz o (.tup [.int (i : Nat), x])) ∧ o.dict = none ∧ vs[i]? = some x, ⟨fun i H hi g => ?_, fun H g => ?_, fun i H x H' hi g y => ?_⟩, fun H2 e => sqB_same e h, fun i Hc x Hn Fc hi s1 s2 y => ?_⟩⟩
  · rw [pairsD_len, ← l.length] at hi
    exact ⟨vs, vs[i], g, List.getElem?_eq_getElem hi⟩
  · rw [pairsD_len, ← l.length]
    exact ⟨vs, g, rfl⟩
  · obtain ⟨T, z, o, e1, e2, e3, e5, e4⟩ := y
    exact ⟨T, z, o, e1, e2, e3, e5, e4 vs g⟩
  · obtain ⟨T, z, o, rfl, hT, rfl, od, hx⟩ := y
    obtain ⟨d, h1, h2⟩ := l.get' hx
    refine ⟨upd Fc T (.frz o (.tup [.int (i : Nat), z])), .tup [.int (i : Nat), d], Grow.new s2 hT tup_nt, ?_, ?_⟩
    · rw [pairsD_get, h1]; simp
    · exact .tup (.new od) (.cons .int (.cons ((h2.mono s1).mono (Grow.new s2 hT (tup_nt (o := o))).f) .nil))
def iE (ms : Env → Option (List D)) : Env → Option (List D) := fun env => (ms env).bind fun | [d] => (sqD d).map (pairsD 0) | _ => none
theorem i_enum {p tpos : Pos} {elts : List Expr} {kk : Nat} (ha : EA X [e] t ms) (hm : X.mg "enumerate" = none) (hg : Gl X "enumerate" := by rfl) (hs : starEach [e] X.env = [(false, eval e X.env)] := by rfl) :
    EI X (.Tuple elts kk tpos) (.Call (.Name "enumerate" p) [e] [] pos) (iEnumB X.K t) (iE ms) := ⟨pi_enumB hg hm ha.pa hs, fun env σ H F R ds f s e k => by
  obtain ⟨x, e1, e2⟩ := Option.bind_eq_some_iff.mp e
  refine ha.ev env σ H F _ x f s e1 fun vs H1 F1 g1 r1 => ?_
  split at e2
  · obtain ⟨v, rfl, r⟩ := r1.one
    obtain ⟨us, e3, rfl⟩ := Option.map_eq_some_iff.mp e2
    obtain ⟨b, a, xs, rfl, q1, q2, l⟩ := r.sqB e3 g1.ok.s
    exact ⟨b, a, xs, rfl, q2, k _ H1 F1 g1 (wk_enum (Z := zOf X) q1 l)⟩
  · cases e2⟩
def zipD : List D → List D → List D
  | d :: ds, e :: es => .tup [d, e] :: zipD ds es
  | _, _ => []
theorem zipD_len : ∀ (ds es : List D), (zipD ds es).length = min ds.length es.length
  | [], _ => by simp [zipD]
  | _ :: _, [] => by simp [zipD]
  | d :: ds, e :: es => by simp [zipD, zipD_len ds es]
theorem zipD_get : ∀ (ds es : List D) (i : Nat) (d e : D), ds[i]? = some d → es[i]? = some e → (zipD ds es)[i]? = some (.tup [d, e])
  | [], _, _, _, _, h, _ => by simp at h
  | _ :: _, [], _, _, _, _, h => by simp at h
  | d :: ds, e :: es, 0, _, _, h, h' => by simp at h h'; simp [zipD, h, h']
  | d :: ds, e :: es, i + 1, _, _, h, h' => by
    rw [zipD, List.getElem?_cons_succ]
    exact zipD_get ds es i _ _ (by simpa using h) (by simpa using h')
theorem wk_zip {b1 b2 : Bool} {a1 a2 : Addr} {vs ws : List V} {ds es : List D} (h : SqB Z.K b1 F a1 vs) (l : IsL Z F vs ds) (h' : SqB Z.K b2 F a2 ws) (l' : IsL Z F ws es) : Wk Z (ItzB Z.K b1 b2 a1 a2) F (zipD ds es) := by
  have hz := zipD_len ds es
  have n1 := l.length
  have n2 := l'.length
  refine ⟨⟨fun H => SqB Z.K b1 H a1 vs ∧ SqB Z.K b2 H a2 ws, fun i H v H' => ∃ T x y, ∃ o : Obj, v = .ref T ∧ H T = none ∧ H' = upd H T (.frz o (.tup [x, y])) ∧ o.dict = none ∧ vs[i]? = some x ∧ ws[i]? = some y, ⟨fun i H hi g => ?_, fun H g => ?_, fun i H x H' hi g y => ?_⟩, fun H2 e => ⟨sqB_same e h, sqB_same e h'⟩, fun i Hc x Hn Fc hi s1 s2 y => ?_⟩⟩
  · have i1 : i < vs.length := by omega
    have i2 : i < ws.length := by omega
    exact ⟨vs, ws, vs[i], ws[i], g.1, g.2, List.getElem?_eq_getElem i1, List.getElem?_eq_getElem i2⟩
  · exact ⟨vs, ws, g.1, g.2, by omega, by omega, by omega⟩
  · obtain ⟨T, z, w, o, e1, e2, e3, e6, e4, e5⟩ := y
    exact ⟨T, z, w, o, e1, e2, e3, e6, e4 vs g.1, e5 ws g.2⟩
  · obtain ⟨T, z, w, o, rfl, hT, rfl, od, hx, hy⟩ := y
    obtain ⟨d, h1, h2⟩ := l.get' hx
    obtain ⟨d', h3, h4⟩ := l'.get' hy
    refine ⟨upd Fc T (.frz o (.tup [z, w])), .tup [d, d'], Grow.new s2 hT tup_nt, zipD_get _ _ _ _ _ h1 h3, ?_⟩
    have q := (Grow.new s2 hT (o := .frz o (.tup [z, w])) tup_nt).f
    exact .tup (.new od) (.cons ((h2.mono s1).mono q) (.cons ((h4.mono s1).mono q) .nil))
def iZ (ms : Env → Option (List D)) : Env → Option (List D) := fun env => (ms env).bind fun
  | [d, d'] => (sqD d).bind fun x => (sqD d').map fun y => zipD x y
  | _ => none
theorem i_zip {p tpos : Pos} {elts : List Expr} {kk : Nat} (ha : EA X [a, b] t ms) (hm : X.mg "zip" = none) (hg : Gl X "zip" := by rfl) (hs : starEach [a, b] X.env = (false, eval a X.env) :: starEach [b] X.env := by rfl) (hpl : (backTo pos (starEach [b] X.env)).any (·.1) = false := by rfl) :
    EI X (.Tuple elts kk tpos) (.Call (.Name "zip" p) [a, b] [] pos) (iZipB X.K t) (iZ ms) := ⟨pi_zipB hg hm ha.pa hs hpl, fun env σ H F R ds f s e k => by
  obtain ⟨x, e1, e2⟩ := Option.bind_eq_some_iff.mp e
  refine ha.ev env σ H F _ x f s e1 fun vs H1 F1 g1 r1 => ?_
  split at e2
  · obtain ⟨v, w, rfl, r, r'⟩ := r1.two
    obtain ⟨us, e3, e4⟩ := Option.bind_eq_some_iff.mp e2
    obtain ⟨us', e5, rfl⟩ := Option.map_eq_some_iff.mp e4
    obtain ⟨b1, a1, xs, rfl, q1, q2, l⟩ := r.sqB e3 g1.ok.s
    obtain ⟨b2, a2, ys, rfl, q3, q4, l'⟩ := r'.sqB e5 g1.ok.s
    exact ⟨b1, b2, a1, a2, xs, ys, rfl, q2, q4, k _ H1 F1 g1 (wk_zip (Z := zOf X) q1 l q3 l')⟩
  · cases e2⟩
/-- a list or a tuple, walked -/
def iS (me : Env → Option D) : Env → Option (List D) := fun env => (me env).bind sqD
theorem i_seq (h : EX X e te me) : EI X tg e (fun σ H R => iList X.K te σ H R ∨ iTup X.K te σ H R) (iS me) := ⟨⟨fun pins s σ H R I q => by
  rcases q with q | q
  · exact (pi_list h.pe).run pins s σ H R I q
  · exact (pi_tup h.pe).run pins s σ H R I q⟩, fun env σ H F R ds f s e k => by
  obtain ⟨x, e1, e2⟩ := Option.bind_eq_some_iff.mp e
  cases x with
  | lst xs => cases e2; exact .inl ((i_list (tg := tg) h).ev env σ H F R _ f s (by unfold iL; rw [e1]; rfl) k)
  | tup xs => cases e2; exact .inr ((i_tup (tg := tg) h).ev env σ H F R _ f s (by unfold iT; rw [e1]; rfl) k)
  | _ => cases e2⟩
end EX
set_option Elab.async false
set_option linter.all false
set_option autoImplicit false
set_option maxRecDepth 100000
set_option maxHeartbeats 4000000
/-! E9: changes to one's own lists; stores of written tuples; stores of comprehensions on one line. -/
namespace EX
open PySem L2
variable [Tb] {Z : Zc} {F F' F1 F2 H H' H1 H2 F0 H0 : Hp} {X : Cx} {ta tb tc te : TE} {ma mb mc me : Env → Option D} {t : TA} {ms : Env → Option (List D)} {pos : Pos} {e a b c : Expr} {es : List Expr}
  {qa qb qc : TT} {na nb nc : Env → Option Bool} {tg iter : Expr} {se : SEnv} {σ : L2.St}

/-! ### one's own container is written -/
theorem FitS.write (f : FitS Z F0 H0 F se σ H) {i : Nat} {a : Addr} {c0 c1 : Cn} {o o' : HO} (hi : se[i]? = some (.o c0)) (ha : σ[i]? = some (some (.ref a))) (hH : H a = some o) (hnt : ∀ ps, o ≠ .tbl ps) (hnc : ∀ q, o ≠ LamX.CodeO a q)
    (hc : ∀ F2, Same F F2 → OwnAt Z F2 (upd H a o') a c1) : FitS Z F0 H0 F (se.set i (.o c1)) σ (upd H a o') := by
  obtain ⟨a', e1, e2, e3, e4⟩ := f.ow i c0 hi
  rw [ha] at e1
  cases e1
  have hil := (List.getElem?_eq_some_iff.mp hi).1
  have σl := (List.getElem?_eq_some_iff.mp ha).1
  have σs : σ.set i (some (.ref a)) = σ := by
    apply List.ext_getElem?
    intro j
    by_cases hj : i = j
    · subst hj
      rw [List.getElem?_set_self σl, ha]
    · rw [List.getElem?_set_ne hj]
  have ok := f.g.ok.write (o' := o') e3 hH hnt hnc
  have base : FitS Z F0 H0 F (se.set i .u) σ (upd H a o') := by
    refine ⟨⟨f.g.f, ok, fun b u q nt => ?_, fun b hb => ?_, f.g.o⟩, by simp [f.len], fun j d q => ?_, fun j c q => ?_, fun j k c c' b q1 q2 q3 q4 => ?_⟩
    · rw [upd_ne (ne_of_none q e4)]
      exact f.g.h b u q nt
    · by_cases z : b = a
      · rw [z, upd_same]; exact fun q => nomatch q
      · rw [upd_ne z]; exact f.g.u b hb
    · by_cases hj : i = j
      · subst hj
        rw [List.getElem?_set_self hil] at q
        cases q
      · rw [List.getElem?_set_ne hj] at q
        exact f.fz j d q
    · by_cases hj : i = j
      · subst hj
        rw [List.getElem?_set_self hil] at q
        cases q
      · rw [List.getElem?_set_ne hj] at q
        obtain ⟨b, p1, p2, p3, p4⟩ := f.ow j c q
        have nb : b ≠ a := fun z => by
          rw [z] at p1
          exact hj (f.dis i j c0 c a hi q ha p1)
        exact ⟨b, p1, p2.mono (Same.refl _) fun u q _ => by rw [upd_ne nb]; exact q, p3, p4⟩
    · have ne : ∀ {l : Nat} {c : Cn}, (se.set i .u)[l]? = some (.o c) → i ≠ l := fun {l c} q hl => by
        subst hl
        rw [List.getElem?_set_self hil] at q
        cases q
      rw [List.getElem?_set_ne (ne q1)] at q1
      rw [List.getElem?_set_ne (ne q2)] at q2
      exact f.dis j k c c' b q1 q2 q3 q4
  have z := base.setO (i := i) (a := a) (c := c1) (hc F (Same.refl _)) e3 e4 fun j c' hj q => by
    rw [List.getElem?_set_ne (Ne.symm hj)] at q
    exact fun q2 => hj (f.dis j i c' c0 a q hi q2 ha)
  rw [σs, List.set_set] at z
  exact z
/-- x.m(..) on one's own list -/
theorem vals_list (f : FitS Z F0 H0 F se σ H) {i : Nat} {ds : List D} (hi : se[i]? = some (.o (.l ds))) : ∃ a vs, σ[i]? = some (some (.ref a)) ∧ H a = some (.lst vs) ∧ IsL Z F vs ds := by
  obtain ⟨a, e1, ⟨vs, e2, e3⟩, _⟩ := f.ow i _ hi
  exact ⟨a, vs, e1, e2, e3⟩
theorem FitS.setL' (f : FitS Z F0 H0 F se σ H) {i : Nat} {a : Addr} {ds ds' : List D} {vs vs' : List V} (hi : se[i]? = some (.o (.l ds))) (ha : σ[i]? = some (some (.ref a))) (hH : H a = some (.lst vs)) (l : IsL Z F vs' ds') :
    FitS Z F0 H0 F (se.set i (.o (.l ds'))) σ (upd H a (.lst vs')) := f.write hi ha hH lst_nt (fun q => lst_nc q) fun F2 s => ⟨vs', upd_same, l.mono s⟩
def sApp (i : Nat) (m : Env → Option D) : SM := fun se => match se[i]? with
  | some (.o (.l ds)) => (m (rd false se)).bind fun d => if small (d :: ds) = true then some (.nx (se.set i (.o (.l (ds ++ [d]))))) else none
  | _ => none
def sAppB (i : Nat) (m : Env → Option D) : SM := fun se => match se[i]? with
  | some (.o (.l ds)) => (m (rd true se)).bind fun d => if (small (d :: ds) && imm d) = true then some (.nx (se.set i (.o (.l (ds ++ [d]))))) else none
  | _ => none
theorem small_app {d : D} {ds : List D} {vs : List V} (h : small (d :: ds) = true) (l : vs.length = ds.length) : vs.length < sizeLine := by
  have q : (d :: ds).length ≤ 100000 := of_decide_eq_true h
  rw [sizeLine_eq]
  simp at q
  omega
theorem s_app (i : Nat) {x : Str} {pos' : Pos} {apos cpos : Pos} (h : EX X e te me) (hi : X.N[i]? = some x := by rfl) (hv : Vis X.env.scope x := by first | exact Or.inl rfl | exact Or.inr (Or.inl rfl) | exact Or.inr (Or.inr rfl)) (hd : (x == ("__debug__" : Str)) = false := by decide)
    (hcd : (x == ("__classdict__" : Str)) = false := by decide) (hst : starEach [e] X.env = (false, eval e X.env) :: starEach [] X.env := by rfl) (hs : swapsWith (.Call (.Attribute (.Name x pos') "append" apos) [e] [] cpos) none pos.line X.env = pure false := by rfl)
    (hbase : attributeBase (.Name x pos') "append" X.env (eval (.Name x pos') X.env) = eval (.Name x pos') X.env := by rfl)
    (hfew : ((backTo cpos (starEach [e] X.env)).all (fun x => !x.1) && (backToKw cpos (keywordEach [] X.env)).all (fun x => x.1.isSome)
      && decide (([e] : List Expr).length + ([] : List Keyword).length + (if ([] : List Keyword).isEmpty then 0 else 1) < 30)) = true := by rfl)
    (hline : (apos.endLine == cpos.line) = true := by rfl) (hplain : (backTo cpos (starEach [] X.env)).any (·.1) = false := by rfl) :
    ES X (.Expr (.Call (.Attribute (.Name x pos') "append" apos) [e] [] cpos) pos) (tDrop (tBM X.K "list" rAppend (tVar i) (tCons te tNil))) (sApp i me) :=
  ⟨ps_expr (pe_bm F.plainAttrs_list F.slot_list_append F.type_list_append mt_append (pe_var hi hv hd hcd) (pa_cons h.pe pa_nil hst) hbase hfew hline hst hplain) hs, fun se σ H F0 H0 F D0 r f e p => by
    unfold sApp at e
    split at e
    · rename_i ds hse
      obtain ⟨d, e1, e2⟩ := Option.bind_eq_some_iff.mp e
      obtain ⟨hz, rfl⟩ := ite_some e2
      obtain ⟨a, vs, q1, q2, q3⟩ := vals_list f hse
      refine ⟨.ref a, q1, .inl ⟨rfl, vs, .of q2⟩, ?_⟩
      refine h.ev _ σ H _ _ d f.fit f.g.ok e1 fun v H1 F1 g1 r1 => ?_
      have f1 := f.grow g1
      have q4 : H1 a = some (.lst vs) := g1.h _ _ q2 lst_nt
      have q5 := q3.mono g1.f
      refine ⟨a, vs, v, rfl, rfl, q4, small_app hz q5.length, ?_⟩
      exact p _ _ F1 (f1.setL' hse q1 q4 (q5.append (.cons r1 .nil))) g1.f
    · cases e⟩
theorem s_appB (i : Nat) {x : Str} {pos' : Pos} {apos cpos : Pos} (h : EX X e te me) (hi : X.N[i]? = some x := by rfl) (hv : Vis X.env.scope x := by first | exact Or.inl rfl | exact Or.inr (Or.inl rfl) | exact Or.inr (Or.inr rfl)) (hd : (x == ("__debug__" : Str)) = false := by decide)
    (hcd : (x == ("__classdict__" : Str)) = false := by decide) (hst : starEach [e] X.env = (false, eval e X.env) :: starEach [] X.env := by rfl) (hs : swapsWith (.Call (.Attribute (.Name x pos') "append" apos) [e] [] cpos) none pos.line X.env = pure false := by rfl)
    (hbase : attributeBase (.Name x pos') "append" X.env (eval (.Name x pos') X.env) = eval (.Name x pos') X.env := by rfl)
    (hfew : ((backTo cpos (starEach [e] X.env)).all (fun x => !x.1) && (backToKw cpos (keywordEach [] X.env)).all (fun x => x.1.isSome)
      && decide (([e] : List Expr).length + ([] : List Keyword).length + (if ([] : List Keyword).isEmpty then 0 else 1) < 30)) = true := by rfl)
    (hline : (apos.endLine == cpos.line) = true := by rfl) (hplain : (backTo cpos (starEach [] X.env)).any (·.1) = false := by rfl) :
    ES X (.Expr (.Call (.Attribute (.Name x pos') "append" apos) [e] [] cpos) pos) (tDrop (tBM X.K "list" rAppend (tVar i) (tCons te tNil))) (sAppB i me) :=
  ⟨ps_expr (pe_bm F.plainAttrs_list F.slot_list_append F.type_list_append mt_append (pe_var hi hv hd hcd) (pa_cons h.pe pa_nil hst) hbase hfew hline hst hplain) hs, fun se σ H F0 H0 F D0 r f e p => by
    unfold sAppB at e
    split at e
    · rename_i ds hse
      obtain ⟨d, e1, e2⟩ := Option.bind_eq_some_iff.mp e
      obtain ⟨hz, rfl⟩ := ite_some e2
      rw [Bool.and_eq_true] at hz
      obtain ⟨a, vs, q1, q2, q3⟩ := vals_list f hse
      refine ⟨.ref a, q1, .inl ⟨rfl, vs, .of q2⟩, ?_⟩
      refine h.ev _ σ H _ _ d f.fit_add f.ok_add e1 fun v H1 F1 g1 r1 => ?_
      have f1 := f.back g1
      have q4 : H1 a = some (.lst vs) := g1.h _ _ q2 lst_nt
      have q5 := q3.mono (f.same_back g1)
      refine ⟨a, vs, v, rfl, rfl, q4, small_app hz.1 q5.length, ?_⟩
      exact p _ _ _ (f1.setL' hse q1 q4 (q5.append (.cons (f.is_back g1 hz.2 r1) .nil))) (f.same_back g1)
    · cases e⟩

/-! ### a new list into a slot -/
theorem s_own (i : Nat) {x : Str} {pos' : Pos} (hN : X.N.Nodup) (h : EXF X e te ms) (hi : X.N[i]? = some x := by rfl) (hx : Loc X.env.scope x := by first | exact Or.inl rfl | exact Or.inr rfl) (hs : swapsWith e (some (.Name x pos')) pos.line X.env = pure false := by rfl)
    (hf : X.fn x = true ∨ X.env.scope.names.lookup x = some .local := by first | exact .inl rfl | exact .inr rfl | assumption) : ES X (.Assign [.Name x pos'] e pos) (tAsg te (gName i)) (sOwn i ms) := ⟨ps_set hN hi hx h.pe hs hf, evS_own h.ev⟩
theorem s_ownB (i : Nat) {x : Str} {pos' : Pos} (hN : X.N.Nodup) (h : EXF X e te ms) (hi : X.N[i]? = some x := by rfl) (hx : Loc X.env.scope x := by first | exact Or.inl rfl | exact Or.inr rfl) (hs : swapsWith e (some (.Name x pos')) pos.line X.env = pure false := by rfl)
    (hf : X.fn x = true ∨ X.env.scope.names.lookup x = some .local := by first | exact .inl rfl | exact .inr rfl | assumption) : ES X (.Assign [.Name x pos'] e pos) (tAsg te (gName i)) (sOwnB i ms) := ⟨ps_set hN hi hx h.pe hs hf, evS_ownB h.ev⟩

/-! ### y = [comprehension] on one line -/
section
variable {wi wi1 : TI} {mi mi1 : Env → Option (List D)} {g g1 : TG} {mg mg1 : D → Option (List D)} {vs ix jx : List Nat}
/-- a statement y = [..] by what it needs -/
structure EL (X : Cx) (y : Str) (i : Nat) (e : Expr) (py spos : Pos) (te : TE) (ms : Env → Option (List D)) : Prop where
  ps : PS X (.Assign [.Name y py] e spos) (tAsg te (gName i))
  ev : EvF (zOf X) te ms
theorem l_lc {i : Nat} {y : Str} {py spos : Pos} {ifs : List Expr} {scope : Scope} (own : List (Str × Nat)) (hN : X.N.Nodup) (hi : EI X tg iter wi mi) (ok : blkC X.N X.env.scope scope own = true)
    (hg : ∀ s H C cl fp, EG (inBlk X scope s H C cl fp) tg g mg ix) (ht : ∀ s H C cl fp, ETs (inBlk X scope s H C cl fp) ifs qa na) (he : ∀ s H C cl fp, EX (inBlk X scope s H C cl fp) e te me)
    (hsw : swapsWith (.ListComp e [⟨tg, iter, ifs, 0⟩] scope pos) (some (.Name y py)) spos.line X.env = pure true := by exact sw_true rfl rfl rfl (by decide +kernel)) (hy : X.N[i]? = some y := by rfl) (hyl : X.env.scope.names.lookup y = some .local := by rfl)
    (hx : ∀ i ∈ ix, i ∈ own.map (·.2) := by decide) (hc : X.calm = true := by rfl) (hs : ∀ x, foldedSetIterable iter X.env x = pure x := by intro _; rfl) :
    EL X y i (.ListComp e [⟨tg, iter, ifs, 0⟩] scope pos) py spos (tLc wi g qa te (own.map (·.2))) (mLc mi mg ix na me (own.map (·.2))) :=
  ⟨ps_setLc hc hN hy hyl hsw hi.pi (blkOk_by ok) (fun s H C cl fp => (hg s H C cl fp).pg) (fun s H C cl fp => (ht s H C cl fp).pts) (fun s H C cl fp => (he s H C cl fp).pe) hs,
    ev_lc hi.ev (hg { } (fun _ => none) 0 [] []).ev hx (ht { } (fun _ => none) 0 [] []).ev (he { } (fun _ => none) 0 [] []).ev⟩
theorem l_lc2 {i : Nat} {y : Str} {py spos : Pos} {ifs ifs1 : List Expr} {tg1 iter1 : Expr} {scope : Scope} (own : List (Str × Nat)) (vs1 : List Nat) (hN : X.N.Nodup) (hi : EI X tg iter wi mi) (ok : blkC X.N X.env.scope scope own = true) (hv : ∀ i ∈ vs1, i ∈ own.map (·.2)) (hx : ∀ i ∈ ix, i ∈ own.map (·.2)) (hx1 : ∀ i ∈ jx, i ∈ vs1)
    (hg : ∀ s H C cl fp, EG (inBlk X scope s H C cl fp) tg g mg ix) (ht : ∀ s H C cl fp, ETs (inBlk X scope s H C cl fp) ifs qa na)
    (hi1 : ∀ s H C cl fp, EI (inBlk X scope s H C cl fp) tg1 iter1 wi1 mi1) (hg1 : ∀ s H C cl fp, EG (inBlk X scope s H C cl fp) tg1 g1 mg1 jx) (ht1 : ∀ s H C cl fp, ETs (inBlk X scope s H C cl fp) ifs1 qb nb)
    (he : ∀ s H C cl fp, EX (inBlk X scope s H C cl fp) e te me)
    (hsw : swapsWith (.ListComp e [⟨tg, iter, ifs, 0⟩, ⟨tg1, iter1, ifs1, 0⟩] scope pos) (some (.Name y py)) spos.line X.env = pure true := by exact sw_true rfl rfl rfl (by decide +kernel)) (hy : X.N[i]? = some y := by rfl) (hyl : X.env.scope.names.lookup y = some .local := by rfl)
    (hc : X.calm = true := by rfl) (hs : ∀ x, foldedSetIterable iter X.env x = pure x := by intro _; rfl) (hs1 : ∀ env x, foldedSetIterable iter1 env x = pure x := by intro _ _; rfl) :
    EL X y i (.ListComp e [⟨tg, iter, ifs, 0⟩, ⟨tg1, iter1, ifs1, 0⟩] scope pos) py spos (tLc2 wi g qa wi1 g1 qb te (own.map (·.2)) vs1) (mLc2 mi mg ix na mi1 mg1 jx nb me (own.map (·.2)) vs1) :=
  ⟨ps_setLc2 hc hN hy hyl hsw hi.pi (blkOk_by ok) hv (fun s H C cl fp => (hg s H C cl fp).pg) (fun s H C cl fp => (ht s H C cl fp).pts) (fun s H C cl fp => (hi1 s H C cl fp).pi) (fun s H C cl fp => (hg1 s H C cl fp).pg) (fun s H C cl fp => (ht1 s H C cl fp).pts) (fun s H C cl fp => (he s H C cl fp).pe) hs hs1,
    ev_lc2 hi.ev (hg { } (fun _ => none) 0 [] []).ev hx (ht { } (fun _ => none) 0 [] []).ev (hi1 { } (fun _ => none) 0 [] []).ev (hg1 { } (fun _ => none) 0 [] []).ev hx1 (ht1 { } (fun _ => none) 0 [] []).ev (he { } (fun _ => none) 0 [] []).ev⟩
variable {y : Str} {py spos : Pos} {i : Nat}
theorem s_setL (h : EL X y i e py spos te ms) : ES X (.Assign [.Name y py] e spos) (tAsg te (gName i)) (sSet i fun env => (ms env).map .lst) := ⟨h.ps, evS_set h.ev.ev⟩
theorem s_setLB (h : EL X y i e py spos te ms) : ES X (.Assign [.Name y py] e spos) (tAsg te (gName i)) (sSetB i fun env => (ms env).map .lst) := ⟨h.ps, evS_setB h.ev.ev⟩
theorem s_ownL (h : EL X y i e py spos te ms) : ES X (.Assign [.Name y py] e spos) (tAsg te (gName i)) (sOwn i ms) := ⟨h.ps, evS_own h.ev⟩
theorem s_ownLB (h : EL X y i e py spos te ms) : ES X (.Assign [.Name y py] e spos) (tAsg te (gName i)) (sOwnB i ms) := ⟨h.ps, evS_ownB h.ev⟩
end

/-! ### x, y = e, f -/
inductive Itm where
  | f (d : D) | o (ds : List D)
def Itm.sl : Itm → Sl
  | .f d => .f d
  | .o ds => .o (.l ds)
inductive ItIs (Z : Zc) (F H0 H : Hp) : List V → List Itm → Prop
  | nil : ItIs Z F H0 H [] []
  | f {v d vs is} : Is Z F v d → ItIs Z F H0 H vs is → ItIs Z F H0 H (v :: vs) (.f d :: is)
  | o {p us ds vs is} : F p = none → H0 p = none → H p = some (.lst us) → IsL Z F us ds → (∀ (j : Nat) ds', is[j]? = some (.o ds') → vs[j]? ≠ some (.ref p)) → ItIs Z F H0 H vs is → ItIs Z F H0 H (.ref p :: vs) (.o ds :: is)
theorem ItIs.own {vs : List V} {is : List Itm} (h : ItIs Z F H0 H vs is) : ∀ (j : Nat) ds p, is[j]? = some (.o ds) → vs[j]? = some (.ref p) → H0 p = none ∧ F p = none ∧ ∃ us, H p = some (.lst us) := by
  induction h with
  | nil => intro j ds p e; simp at e
  | f r _ ih => intro j ds p e1 e2; cases j with
    | zero => simp at e1
    | succ j => exact ih j ds p (by simpa using e1) (by simpa using e2)
  | @o q us ds' vs is h1 h2 h3 h4 h5 _ ih => intro j ds p e1 e2; cases j with
    | zero => simp at e2; subst e2; exact ⟨h2, h1, us, h3⟩
    | succ j => exact ih j ds p (by simpa using e1) (by simpa using e2)
theorem ItIs.grow {vs : List V} {is : List Itm} (h : ItIs Z F H0 H vs is) (g : Grow Z F H F' H') : ItIs Z F' H0 H' vs is := by
  induction h with
  | nil => exact .nil
  | f r _ ih => exact .f (r.mono g.f) ih
  | o h1 h2 h3 h4 h5 _ ih => exact .o ((g.o _ (ne_some h3)).trans h1) h2 (g.h _ _ h3 lst_nt) (h4.mono g.f) h5 ih
theorem ItIs.base {vs : List V} {is : List Itm} (h : ItIs Z F H1 H vs is) (g : Grow Z F' H0 F1 H1) : ItIs Z F H0 H vs is := by
  induction h with
  | nil => exact .nil
  | f r _ ih => exact .f r ih
  | o h1 h2 h3 h4 h5 _ ih => exact .o h1 (g.free h2) h3 h4 h5 ih
def EvAo (Z : Zc) (t : TA) (m : Env → Option (List Itm)) : Prop := ∀ env σ H F (Q : List V → Hp → Prop) is, Fit Z F env σ → Ok Z F H → m env = some is →
  (∀ vs H' F', Grow Z F H F' H' → ItIs Z F' H H' vs is → Q vs H') → t σ H Q
structure EAo (X : Cx) (es : List Expr) (t : TA) (m : Env → Option (List Itm)) : Prop where
  pa : PA X es t
  ev : EvAo (zOf X) t m
variable {mo : Env → Option (List Itm)}
theorem o_nil : EAo X [] tNil (fun _ => some []) := ⟨pa_nil, fun env σ H F Q is f s e k => by cases e; exact k [] H F (Grow.refl s) .nil⟩
def oFrz (ma : Env → Option D) (mo : Env → Option (List Itm)) : Env → Option (List Itm) := fun env => (ma env).bind fun d => (mo env).map fun is => .f d :: is
def oOwn (ma : Env → Option (List D)) (mo : Env → Option (List Itm)) : Env → Option (List Itm) := fun env => (ma env).bind fun d => (mo env).map fun is => .o d :: is
theorem o_frz (h : EX X a ta ma) (hr : EAo X es t mo) (hs : starEach (a :: es) X.env = (false, eval a X.env) :: starEach es X.env := by rfl) : EAo X (a :: es) (tCons ta t) (oFrz ma mo) := ⟨pa_cons h.pe hr.pa hs, fun env σ H F Q is f s e k => by
  obtain ⟨d, e1, e2⟩ := Option.bind_eq_some_iff.mp e
  obtain ⟨is', e3, rfl⟩ := Option.map_eq_some_iff.mp e2
  refine h.ev env σ H F _ d f s e1 fun v H1 F1 g1 r1 => ?_
  refine hr.ev env σ H1 F1 _ is' (f.mono g1.f) g1.ok e3 fun vs H2 F2 g2 r2 => ?_
  exact k _ H2 F2 (g1.trans g2) (.f (r1.mono g2.f) (r2.base g1))⟩
theorem o_own (h : EXF X a ta ms) (hr : EAo X es t mo) (hs : starEach (a :: es) X.env = (false, eval a X.env) :: starEach es X.env := by rfl) : EAo X (a :: es) (tCons ta t) (oOwn ms mo) := ⟨pa_cons h.pe hr.pa hs, fun env σ H F Q is f s e k => by
  obtain ⟨d, e1, e2⟩ := Option.bind_eq_some_iff.mp e
  obtain ⟨is', e3, rfl⟩ := Option.map_eq_some_iff.mp e2
  refine h.ev env σ H F _ d f s e1 fun p us H1 F1 g1 nF nH hp l => ?_
  refine hr.ev env σ H1 F1 _ is' (f.mono g1.f) g1.ok e3 fun vs H2 F2 g2 r2 => ?_
  refine k _ H2 F2 (g1.trans g2) (.o ((g2.o _ (ne_some hp)).trans nF) nH (g2.h _ _ hp lst_nt) (l.mono g2.f) (fun j ds' q1 q2 => ?_) (r2.base g1))
  obtain ⟨q3, _⟩ := r2.own j ds' p q1 q2
  rw [hp] at q3
  cases q3⟩
theorem FitS.setIts : ∀ {ix : List Nat} {vs : List V} {is : List Itm} {se : SEnv} {σ : L2.St}, FitS Z F0 H0 F se σ H → ItIs Z F H0 H vs is →
    (∀ (j : Nat) ds p, is[j]? = some (.o ds) → vs[j]? = some (.ref p) → ∀ (k : Nat) c, se[k]? = some (.o c) → σ[k]? ≠ some (some (.ref p))) → FitS Z F0 H0 F (EX.setL se ix (is.map Itm.sl)) (EX.setL σ ix (vs.map some)) H
  | [], _, _, _, _, f, _, _ => f
  | _ :: _, _, _, _, _, f, .nil, _ => f
  | i :: ix, _, _, se, σ, f, .f (v := v) (d := d) r l, h => by
    refine FitS.setIts (ix := ix) (f.set (i := i) r) l fun j ds p e1 e2 k c e3 e4 => ?_
    by_cases hk : i = k
    · subst hk
      by_cases hl : i < se.length
      · rw [List.getElem?_set_self hl] at e3; cases e3
      · rw [List.getElem?_eq_none (by simpa using hl)] at e3; cases e3
    · rw [List.getElem?_set_ne hk] at e3 e4
      exact h (j + 1) ds p (by simpa using e1) (by simpa using e2) k c e3 e4
  | i :: ix, _, _, se, σ, f, .o (p := q) (ds := ds0) (us := us) (vs := vs) (is := is) h1 h2 h3 h4 h5 l, h => by
    refine FitS.setIts (ix := ix) (f.setO (i := i) (a := q) (c := .l ds0) ⟨us, h3, h4⟩ h1 h2 fun j c' _ e => h 0 ds0 q rfl rfl j c' e) l fun j ds p e1 e2 k c e3 e4 => ?_
    by_cases hk : i = k
    · subst hk
      by_cases hl : i < σ.length
      · rw [List.getElem?_set_self hl] at e4
        have e5 := V.ref.inj (Option.some.inj (Option.some.inj e4))
        exact h5 j ds e1 (by rw [e5]; exact e2)
      · rw [List.getElem?_eq_none (by simpa using hl)] at e4; cases e4
    · rw [List.getElem?_set_ne hk] at e3 e4
      exact h (j + 1) ds p (by simpa using e1) (by simpa using e2) k c e3 e4
theorem its_new (f : FitS Z F0 H0 F se σ H) {vs : List V} {is : List Itm} (l : ItIs Z F' H H' vs is) : ∀ (j : Nat) ds p, is[j]? = some (.o ds) → vs[j]? = some (.ref p) → ∀ (k : Nat) c, se[k]? = some (.o c) → σ[k]? ≠ some (some (.ref p)) := fun j ds p e1 e2 k c e3 => own_fresh f (l.own j ds p e1 e2).1 k c e3
def sIts (mo : Env → Option (List Itm)) (ix : List Nat) : SM := fun se => (mo (rd false se)).bind fun is => if (is.length == ix.length && decide (is.length ≤ 100000)) = true then some (.nx (setL se ix (is.map Itm.sl))) else none
theorem ItIs.length {vs : List V} {is : List Itm} (h : ItIs Z F H0 H vs is) : vs.length = is.length := by
  induction h with
  | nil => rfl
  | f _ _ ih => simp [ih]
  | o _ _ _ _ _ _ ih => simp [ih]
theorem its_len {α β : Type} {is : List α} {ix : List β} (h : (is.length == ix.length && decide (is.length ≤ 100000)) = true) : is.length = ix.length := by
  rw [Bool.and_eq_true, beq_iff_eq] at h
  exact h.1
theorem its_small {α β : Type} {is : List α} {ix : List β} (h : (is.length == ix.length && decide (is.length ≤ 100000)) = true) : is.length ≤ 100000 := by
  rw [Bool.and_eq_true] at h
  exact of_decide_eq_true h.2
theorem s_par2 (i j : Nat) {x y : Str} {px py pt : Pos} {kt k2 pt2} (hN : X.N.Nodup) (ha : EAo X [a, b] t mo) (hi : X.N[i]? = some x := by rfl) (hj : X.N[j]? = some y := by rfl) (hij : i ≠ j := by decide)
    (hx : X.env.scope.names.lookup x = some .local := by rfl) (hy : X.env.scope.names.lookup y = some .local := by rfl) 
    (hw : swappedStores [.Tuple [.Name x px, .Name y py] kt pt] (.Tuple [a, b] k2 pt2) X.env = pure (some [x, y]) := by rfl) (hc : X.calm = true := by rfl)
    (hs : swapsWithSole [.Tuple [.Name x px, .Name y py] kt pt] (.Tuple [a, b] k2 pt2) pos.line X.env = pure false := by rfl) :
    ES X (.Assign [.Tuple [.Name x px, .Name y py] kt pt] (.Tuple [a, b] k2 pt2) pos) (tPar i j t) (sIts mo [i, j]) := ⟨ps_par hc hN hi hj hij hx hy ha.pa hw hs, fun se σ H F0 H0 F D0 r f e p => by
  obtain ⟨is, e1, e2⟩ := Option.bind_eq_some_iff.mp e
  obtain ⟨hl, rfl⟩ := ite_some e2
  have hl := its_len hl
  refine ha.ev _ σ H _ _ is f.fit f.g.ok e1 fun vs H1 F1 g1 r1 => ?_
  have f1 := f.grow g1
  have h2 := FitS.setIts (ix := [i, j]) f1 (r1.base f.g) (its_new f r1)
  have hvl := r1.length.trans hl
  match vs, hvl, h2 with
  | [v, w], _, h2 => exact ⟨v, w, rfl, p _ _ F1 h2 g1.f⟩⟩
theorem s_par3 (i j l : Nat) {x y z : Str} {px py pz pt : Pos} {kt k2 pt2} (hN : X.N.Nodup) (ha : EAo X [a, b, c] t mo) (hi : X.N[i]? = some x := by rfl) (hj : X.N[j]? = some y := by rfl) (hl : X.N[l]? = some z := by rfl) (hij : i ≠ j := by decide) (hil : i ≠ l := by decide) (hjl : j ≠ l := by decide)
    (hx : X.env.scope.names.lookup x = some .local := by rfl) (hy : X.env.scope.names.lookup y = some .local := by rfl) (hz : X.env.scope.names.lookup z = some .local := by rfl)
    (hw : swappedStores [.Tuple [.Name x px, .Name y py, .Name z pz] kt pt] (.Tuple [a, b, c] k2 pt2) X.env = pure (some [x, y, z]) := by rfl) (hc : X.calm = true := by rfl)
    (hs : swapsWithSole [.Tuple [.Name x px, .Name y py, .Name z pz] kt pt] (.Tuple [a, b, c] k2 pt2) pos.line X.env = pure false := by rfl) :
    ES X (.Assign [.Tuple [.Name x px, .Name y py, .Name z pz] kt pt] (.Tuple [a, b, c] k2 pt2) pos) (tPar3 i j l t) (sIts mo [i, j, l]) := ⟨ps_par3 hc hN hi hj hl hij hil hjl hx hy hz ha.pa hw hs, fun se σ H F0 H0 F D0 r f e p => by
  obtain ⟨is, e1, e2⟩ := Option.bind_eq_some_iff.mp e
  obtain ⟨hl', rfl⟩ := ite_some e2
  have hl' := its_len hl'
  refine ha.ev _ σ H _ _ is f.fit f.g.ok e1 fun vs H1 F1 g1 r1 => ?_
  have f1 := f.grow g1
  have h2 := FitS.setIts (ix := [i, j, l]) f1 (r1.base f.g) (its_new f r1)
  have hvl := r1.length.trans hl'
  match vs, hvl, h2 with
  | [u, v, w], _, h2 => exact ⟨u, v, w, rfl, p _ _ F1 h2 g1.f⟩⟩
/-! names alone as targets -/
structure EN (X : Cx) (tgs : List Expr) (g : TGs) (ix : List Nat) : Prop where
  pgs : PGs X tgs g
  ev : ∀ (xs : List V) (σ : L2.St) H (Q : L2.St → Hp → Prop), xs.length = ix.length → Q (setL σ ix (xs.map some)) H → g xs σ H Q
theorem n_nil : EN X [] gNil [] := ⟨pgs_nil, fun xs σ H Q h q => by
  match xs, h with
  | [], _ => exact ⟨rfl, q⟩⟩
theorem n_cons (i : Nat) {x : Str} {tgs : List Expr} {g : TGs} {ix : List Nat} (hN : X.N.Nodup) (h : EN X tgs g ix) (hi : X.N[i]? = some x := by rfl) (hx : Loc X.env.scope x := by first | exact Or.inl rfl | exact Or.inr rfl) (hf : X.fn x = true ∨ X.env.scope.names.lookup x = some .local := by first | exact .inl rfl | exact .inr rfl | assumption)
    (hs : (assignEach (.Name x pos :: tgs) X.env).map (·.2) = assign (.Name x pos) X.env :: (assignEach tgs X.env).map (·.2) := by rfl) : EN X (.Name x pos :: tgs) (gCons (gName i) g) (i :: ix) := ⟨pgs_cons (pg_name hN hi hx hf) h.pgs hs, fun xs σ H Q hl q => by
  match xs, hl with
  | v :: xs, hl => exact ⟨v, xs, rfl, h.ev xs _ H Q (by simpa using hl) q⟩⟩
theorem s_parN {tgs : List Expr} {g : TGs} {ix : List Nat} {pt pt2 : Pos} {kt k2} {n : Nat} (ha : EAo X es t mo) (hg : EN X tgs g ix) (hn : (assignEach tgs X.env).length = n := by rfl) (hst : (assignEach tgs X.env).findIdx? (·.1) = none := by rfl) (hnl : n = ix.length := by rfl) (hc : X.calm = true := by rfl)
    (hs : swapsWithSole [.Tuple tgs kt pt] (.Tuple es k2 pt2) pos.line X.env = pure false := by rfl) (hw : swappedStores [.Tuple tgs kt pt] (.Tuple es k2 pt2) X.env = pure none := by rfl) (hv : (assignEach [.Tuple tgs kt pt] X.env).map (·.2) = [assign (.Tuple tgs kt pt) X.env] := by rfl) :
    ES X (.Assign [.Tuple tgs kt pt] (.Tuple es k2 pt2) pos) (tAsg (tTup t) (gTup X.K n g)) (sIts mo ix) := ⟨ps_asg (pe_tup ha.pa) (pg_tup hc hg.pgs hn hst) hs hw hv, fun se σ H F0 H0 F D0 r f e p => by
  obtain ⟨is, e1, e2⟩ := Option.bind_eq_some_iff.mp e
  obtain ⟨hl, rfl⟩ := ite_some e2
  have hz := its_small hl
  have hl := its_len hl
  refine ha.ev _ σ H _ _ is f.fit f.g.ok e1 fun vs H1 F1 g1 r1 => ⟨by rw [r1.length, sizeLine_eq]; omega, fun q hq => ?_⟩
  have gm : Grow (zOf X) F1 H1 F1 (upd H1 q (.tup vs)) := Grow.made g1.ok hq
  have r2 := r1.grow gm
  have f1 := f.grow (g1.trans gm)
  have h2 := FitS.setIts (ix := ix) f1 (r2.base f.g) (its_new f r2)
  refine ⟨q, vs, rfl, .of upd_same, by rw [r1.length, hl, hnl], hg.ev vs σ _ _ (by rw [r1.length, hl]) (p _ _ F1 h2 g1.f)⟩⟩
end EX
set_option Elab.async false
set_option linter.all false
set_option autoImplicit false
set_option maxRecDepth 100000
set_option maxHeartbeats 4000000
/-! E10: instances with slots: attributes, methods, made; isinstance. -/
namespace EX
open PySem L2
variable [Tb] {Z : Zc} {F F' F1 F2 H H' H1 H2 F0 H0 : Hp} {X : Cx} {ta tb tc te to : TE} {ma mb mc me mo : Env → Option D} {t : TA} {ms : Env → Option (List D)} {pos : Pos} {e a b c o : Expr} {es : List Expr}
  {qa qb qc : TT} {na nb nc : Env → Option Bool} {tg iter : Expr} {se : SEnv} {σ : L2.St}

/-! ### attributes -/
structure ClsF (K : PySem.W.Frag) (C : Nat) : Prop where
  sc : SlX.SCls K (Tb.Cl C)
  si : SlX.SIsi K (Tb.Cl C)
def SlotF (K : PySem.W.Frag) (C : Nat) (f : Str) (i : Nat) : Prop := ∃ p, SlX.Slot1 K (Tb.Cl C) f p i
theorem isO_get : ∀ {vs : List (Option V)} {fs : List (Option D)} {i : Nat} {d : D}, IsO Z F vs fs → (fs[i]?).join = some d → ∃ v, vs[i]? = some (some v) ∧ Is Z F v d
  | _, _, _, _, .nil, e => by simp at e
  | _, _, 0, _, .none _, e => by simp at e
  | _, _, 0, _, .some r _, e => by simp at e; subst e; exact ⟨_, rfl, r⟩
  | _, _, i + 1, _, .none l, e => by
    obtain ⟨v, h1, h2⟩ := isO_get (i := i) l (by simpa using e)
    exact ⟨v, by simpa using h1, h2⟩
  | _, _, i + 1, _, .some _ l, e => by
    obtain ⟨v, h1, h2⟩ := isO_get (i := i) l (by simpa using e)
    exact ⟨v, by simpa using h1, h2⟩
def AttrF (K : PySem.W.Frag) (f : Str) (tbl : List (Nat × Nat)) : Prop := ∀ C i, tbl.lookup C = some i → ClsF K C ∧ SlotF K C f i
theorem AttrF.nil {K : PySem.W.Frag} {f : Str} : AttrF K f [] := fun C i e => by cases e
theorem AttrF.cons {K : PySem.W.Frag} {f : Str} {C i : Nat} {tbl : List (Nat × Nat)} (hc : ClsF K C) (hs : SlotF K C f i) (h : AttrF K f tbl) : AttrF K f ((C, i) :: tbl) := fun C' i' e => by
  rw [List.lookup_cons] at e
  by_cases q : C' = C
  · subst q
    simp at e
    subst e
    exact ⟨hc, hs⟩
  · have q' : (C' == C) = false := by simpa using q
    rw [q'] at e
    exact h C' i' e
def atD (tbl : List (Nat × Nat)) : D → Option D
  | .obj C fs => (tbl.lookup C).bind fun i => (fs[i]?).join
  | _ => none
def mAttr (tbl : List (Nat × Nat)) (me : Env → Option D) : Env → Option D := fun env => (me env).bind (atD tbl)
theorem x_attr {f : Str} (tbl : List (Nat × Nat)) (h : EX X e te me) (hf : AttrF X.K f tbl) (hb : attributeBase e f X.env (eval e X.env) = eval e X.env := by rfl) : EX X (.Attribute e f pos) (SlX.tSl X.K te f) (mAttr tbl me) :=
  ⟨SlX.pe_sl h.pe hb, fun env σ H F Q d fit s ev k => by
    obtain ⟨x, e1, e2⟩ := Option.bind_eq_some_iff.mp ev
    refine h.ev env σ H F _ x fit s e1 fun v H1 F1 g1 r1 => ?_
    cases r1 with
    | @obj a C dx vs fs hs l =>
      obtain ⟨i, e3, e4⟩ := Option.bind_eq_some_iff.mp (show (tbl.lookup C).bind _ = some d from e2)
      obtain ⟨hc, p, hp⟩ := hf C i e3
      obtain ⟨w, q1, q2⟩ := isO_get l e4
      exact ⟨a, _, dx, p, vs, i, w, rfl, same_sl g1.ok.s hs, hc.sc, hp, q1, k w H1 F1 g1 q2⟩
    | _ => cases e2⟩

/-! ### o.m(..) -/
structure MethK (P : Program) (w : World) (K : PySem.W.Frag) (mg : Str → Option Value) (base : Heap) (C : Nat) (m : Str) (k n : Nat) (mm : List D → Option D) : Prop where
  cf : ClsF K C
  ex : ∃ g, Meth K (Tb.Cl C) m g ∧ FnR P w K mg base CX0 k g (spD ⟨P, w, K, Tb.T, Tb.Cl⟩ n mm)
theorem FnOk.rawD {P : Program} {w : World} {K : PySem.W.Frag} {mg : Str → Option Value} {base : Heap} {k : Nat} {f : Addr} {fd : FuncData} {ps : List Str} {sp : Sp} (F : FnOk P w K mg base CX0 k f fd ps sp) (hb : Binds K fd ps []) : FnR P w K mg base CX0 k f sp :=
  (F.raw (dvs := []) hb .nil).imp fun vs H Q E h => by rw [List.append_nil]; exact h
def mMeth (C : Nat) (mo : Env → Option D) (ms : Env → Option (List D)) (mm : List D → Option D) : Env → Option D := fun env => (mo env).bind fun d => match d with
  | .obj C' fs => if (C' == C) = true then (ms env).bind fun ds => mm (.obj C' fs :: ds) else none
  | _ => none
section
variable {m : Str} {apos : Pos} {C k j n : Nat} {mm : List D → Option D} {pl : Sem Bool}
theorem ev_meth (ho : Evl (zOf X) to mo) (ha : EvA (zOf X) t ms) (hn : ∀ env ds, ms env = some ds → ds.length = n) : Evl (zOf X) (SlX.tMethSl (Tb.Cl C) (spD (zOf X) (n + 1) mm) E0 to t) (mMeth C mo ms mm) := fun env σ H F Q d f s e k => by
  obtain ⟨x, e1, e2⟩ := Option.bind_eq_some_iff.mp e
  refine ho env σ H F _ x f s e1 fun v H1 F1 g1 r1 => ?_
  cases r1 with
  | @obj a C' dx vs fs hs l =>
    have e2' : (if (C' == C) = true then (ms env).bind fun ds => mm (.obj C' fs :: ds) else none) = some d := e2
    by_cases hC : (C' == C) = true
    case neg => rw [if_neg hC] at e2'; cases e2'
    rw [if_pos hC] at e2'
    have e3 := e2'
    have hC' : C' = C := by simpa using hC
    obtain ⟨ds, e4, e5⟩ := Option.bind_eq_some_iff.mp e3
    refine ⟨a, dx, vs, rfl, by rw [← hC']; exact same_sl g1.ok.s hs, ?_⟩
    refine ha env σ H1 F1 _ ds (f.mono g1.f) g1.ok e4 fun ws H2 F2 g2 r2 => ?_
    refine ⟨by simp [r2.length, hn _ _ e4], F2, .obj C' fs :: ds, d, g2.ok, .cons ((Is.obj hs l).mono g2.f) r2, e5, fun v H3 F3 g3 r3 => k v H3 F3 ((g1.trans g2).trans g3) r3⟩
  | _ => cases e2
theorem x_meth (h : EX X o to mo) (hM : MethK X.prog X.w X.K X.mg X.base C m k (n + 1) mm) (hr : Room j X.A) (ha : EA X (e :: es) t ms) (hn : ∀ env ds, ms env = some ds → ds.length = n) (hkj : k ≤ j := by decide)
    (hst : starEach (e :: es) X.env = (false, eval e X.env) :: starEach es X.env := by rfl) (hpl : (backTo pos (starEach es X.env)).any (·.1) = false := by rfl)
    (ht : eval (.Call (.Attribute o m apos) (e :: es) [] pos) X.env = (do
      let ov ← eval o X.env
      standAt apos.atName
      let (f, first) ← holding [ov] (getMethod ov m pl)
      callWith pos f first (backTo pos (starEach (e :: es) X.env)) (backToKw pos (keywordEach [] X.env))) := by rfl) :
    EX X (.Call (.Attribute o m apos) (e :: es) [] pos) (SlX.tMethSl (Tb.Cl C) (spD (zOf X) (n + 1) mm) E0 to t) (mMeth C mo ms mm) := by
  obtain ⟨g, hm, F⟩ := hM.ex
  exact ⟨SlX.pe_methSl h.pe hM.cf.sc hm F (hr.mono hkj) pass0 ha.pa hst hpl ht, ev_meth h.ev ha.ev hn⟩
theorem x_meth0 (h : EX X o to mo) (hM : MethK X.prog X.w X.K X.mg X.base C m k 1 mm) (hr : Room j X.A) (hkj : k ≤ j := by decide)
    (ht : eval (.Call (.Attribute o m apos) [] [] pos) X.env = (do
      let ov ← eval o X.env
      standAt apos.atName
      let (f, first) ← holding [ov] (getMethod ov m pl)
      callWith pos f first (backTo pos (starEach [] X.env)) (backToKw pos (keywordEach [] X.env))) := by rfl) :
    EX X (.Call (.Attribute o m apos) [] [] pos) (SlX.tMethSl (Tb.Cl C) (spD (zOf X) (0 + 1) mm) E0 to tNil) (mMeth C mo (fun _ => some []) mm) := by
  obtain ⟨g, hm, F⟩ := hM.ex
  exact ⟨SlX.pe_methSl0 h.pe hM.cf.sc hm F (hr.mono hkj) pass0 ht, ev_meth h.ev a_nil.ev len_nil⟩
end

/-! ### C(..) -/
theorem code_heap (a : Addr) (q : Str) : ∃ h : Heap, h.get? a = some { cls := .none, data := .fields #[.none, .str q 0] } := by
  refine ⟨{ objs := Array.replicate (a + 1) { cls := .none, data := .fields #[.none, .str q 0] } }, ?_⟩
  unfold Heap.get?
  have e : (Array.replicate (a + 1) ({ cls := .none, data := .fields #[.none, .str q 0] } : Obj))[a]? = some { cls := .none, data := .fields #[.none, .str q 0] } := by
    rw [Array.getElem?_replicate, if_pos (Nat.lt_succ_self a)]
  rw [e]
theorem ext_nc {a : Addr} {φ : Heap → Prop} (hφ : ∀ h, φ h → ∀ o, h.get? a = some o → ∀ vs, o.data ≠ .fields vs) (q : Str) : HO.ext φ ≠ LamX.CodeO a q := fun z => by
  obtain ⟨h, e⟩ := code_heap a q
  unfold LamX.CodeO at z
  injection z with z
  have p : φ h := by
    rw [z]
    exact ⟨_, _, 0, e, rfl, rfl⟩
  exact hφ h p _ e _ rfl
theorem slO_nc {a C dx : Addr} {vs : List (Option V)} (q : Str) : SlX.SlO a C dx vs ≠ LamX.CodeO a q := by
  unfold SlX.SlO
  refine ext_nc (fun h p o e vs z => ?_) q
  obtain ⟨sl, e2, _⟩ := p
  rw [e] at e2
  cases e2
  cases z
theorem slt_at {x C dx : Addr} {vs : List (Option V)} (h : SlX.Slt H x C dx vs) : ∃ u, H x = some u ∧ (∀ ps, u ≠ .tbl ps) ∧ ∀ q, u ≠ LamX.CodeO x q := by
  rcases h with ⟨h, _⟩ | ⟨h, _⟩
  · exact ⟨_, h, fun _ z => (by cases z), fun q z => by unfold LamX.CodeO at z; cases z⟩
  · exact ⟨_, h, fun _ z => (by unfold SlX.SlO at z; cases z), fun q => slO_nc q⟩
/-- an instance that is being made: x, its dict dx, apart from what is frozen and from the base -/
structure Mkg (Z : Zc) (F0 H0 F H : Hp) (x dx : Addr) (C : Nat) (fs : List (Option D)) : Prop where
  ne : dx ≠ x
  x0 : H0 x = none
  d0 : H0 dx = none
  xF : F x = none
  dF : F dx = none
  at_ : ∃ vs, SlX.Slt H x (Z.Cl C) dx vs ∧ IsO Z F vs fs
  dc : ∃ u, H dx = some u ∧ (∀ ps, u ≠ .tbl ps) ∧ ∀ q, u ≠ LamX.CodeO dx q
def putD (i : Nat) (d : D) (fs : List (Option D)) : List (Option D) := (fs ++ List.replicate (i + 1 - fs.length) none).set i (some d)
theorem isO_length : ∀ {vs : List (Option V)} {fs : List (Option D)}, IsO Z F vs fs → vs.length = fs.length
  | _, _, .nil => rfl
  | _, _, .none l => by simp [isO_length l]
  | _, _, .some _ l => by simp [isO_length l]
theorem isO_append : ∀ {vs ws : List (Option V)} {ds es : List (Option D)}, IsO Z F vs ds → IsO Z F ws es → IsO Z F (vs ++ ws) (ds ++ es)
  | _, _, _, _, .nil, l => l
  | _, _, _, _, .none l, r => .none (isO_append l r)
  | _, _, _, _, .some h l, r => .some h (isO_append l r)
theorem isO_nones : ∀ n : Nat, IsO Z F (List.replicate n none) (List.replicate n none)
  | 0 => .nil
  | n + 1 => .none (isO_nones n)
theorem isO_set : ∀ {vs : List (Option V)} {ds : List (Option D)} (i : Nat) {v : V} {d : D}, Is Z F v d → IsO Z F vs ds → IsO Z F (vs.set i (some v)) (ds.set i (some d))
  | _, _, _, _, _, _, .nil => .nil
  | _, _, 0, _, _, h, .none l => .some h l
  | _, _, 0, _, _, h, .some _ l => .some h l
  | _, _, i + 1, _, _, h, .none l => .none (isO_set i h l)
  | _, _, i + 1, _, _, h, .some g l => .some g (isO_set i h l)
theorem isO_put {vs : List (Option V)} {fs : List (Option D)} (i : Nat) {v : V} {d : D} (l : IsO Z F vs fs) (r : Is Z F v d) : IsO Z F (SlX.putS i v vs) (putD i d fs) := by
  unfold SlX.putS putD
  rw [isO_length l]
  exact isO_set i r (isO_append l (isO_nones _))
theorem Mkg.grow {x dx : Addr} {C : Nat} {fs : List (Option D)} (h : Mkg Z F0 H0 F H x dx C fs) (g : Grow Z F H F' H') : Mkg Z F0 H0 F' H' x dx C fs := by
  obtain ⟨vs, hs, l⟩ := h.at_
  obtain ⟨u, q1, q2, q3⟩ := slt_at hs
  obtain ⟨ud, p1, p2, p3⟩ := h.dc
  refine ⟨h.ne, h.x0, h.d0, (g.o _ (ne_some q1)).trans h.xF, (g.o _ (ne_some p1)).trans h.dF, ⟨vs, ?_, l.mono g.f⟩, ud, g.h _ _ p1 p2, p2, p3⟩
  rcases hs with ⟨h1, h2⟩ | ⟨h1, h2⟩
  · exact .inl ⟨g.h _ _ h1 (fun _ z => by cases z), h2⟩
  · exact .inr ⟨g.h _ _ h1 (fun _ z => by unfold SlX.SlO at z; cases z), g.h _ _ h2 (fun _ z => by cases z)⟩
/-- a slot is stored -/
theorem Mkg.store {x dx : Addr} {C i : Nat} {fs : List (Option D)} {vs : List (Option V)} {v : V} {d : D} (h : Mkg Z F0 H0 F H x dx C fs) (gr : Grow Z F0 H0 F H) (hs : SlX.Slt H x (Z.Cl C) dx vs) (l : IsO Z F vs fs) (r : Is Z F v d) :
    Mkg Z F0 H0 F (SlX.slH H x (Z.Cl C) dx (SlX.putS i v vs)) x dx C (putD i d fs) ∧ Grow Z F0 H0 F (SlX.slH H x (Z.Cl C) dx (SlX.putS i v vs)) := by
  obtain ⟨u, q1, q2, q3⟩ := slt_at hs
  obtain ⟨ud, p1, p2, p3⟩ := h.dc
  refine ⟨⟨h.ne, h.x0, h.d0, h.xF, h.dF, ⟨_, SlX.slH_slt h.ne, isO_put i l r⟩, .xd [], ?_, fun _ z => (by cases z), fun q z => by unfold LamX.CodeO at z; cases z⟩, ⟨gr.f, ?_, fun b o e nt => ?_, fun b hb => ?_, gr.o⟩⟩
  · unfold SlX.slH
    rw [upd_ne h.ne, upd_same]
  · have ok1 := gr.ok.write (o' := .xd []) h.dF p1 p2 p3
    have e1 : upd H dx (.xd []) x = some u := by rw [upd_ne h.ne.symm]; exact q1
    exact ok1.write h.xF e1 q2 q3
  · have n1 : b ≠ x := ne_of_none e h.x0
    have n2 : b ≠ dx := ne_of_none e h.d0
    rw [SlX.slH_ne n1 n2]
    exact gr.h b o e nt
  · unfold SlX.slH
    by_cases z : b = x
    · rw [z, upd_same]; exact fun q => nomatch q
    · rw [upd_ne z]
      by_cases z2 : b = dx
      · rw [z2, upd_same]; exact fun q => nomatch q
      · rw [upd_ne z2]; exact gr.u b hb
def noOwn : SEnv → Bool
  | [] => true
  | .o _ :: _ => false
  | _ :: se => noOwn se
theorem noOwn_at : ∀ {se : SEnv}, noOwn se = true → ∀ (i : Nat) (c : Cn), se[i]? ≠ some (.o c)
  | [], _, i, c, e => by simp at e
  | .u :: se, h, 0, c, e => by simp at e
  | .u :: se, h, i + 1, c, e => noOwn_at (se := se) h i c (by simpa using e)
  | .f d :: se, h, 0, c, e => by simp at e
  | .f d :: se, h, i + 1, c, e => noOwn_at (se := se) h i c (by simpa using e)
  | .o c' :: se, h, _, _, _ => by cases h
/-- a part of an __init__: self in the slot 0 -/
def EvN (Z : Zc) (C : Nat) (t : TS) (m : SEnv → List (Option D) → Option (List (Option D))) : Prop := ∀ x dx se σ H0 H F0 F fs out (D0 : Ends), FitS Z F0 H0 F se σ H → noOwn se = true → se[0]? = some (.f (.adr x)) → Mkg Z F0 H0 F H x dx C fs → m se fs = some out →
  (∀ σ' H' F', Grow Z F0 H0 F' H' → Mkg Z F0 H0 F' H' x dx C out → D0.nx σ' H') → t D0 σ H
structure ECs (X : Cx) (C : Nat) (st : List Stmt) (t : TS) (m : SEnv → List (Option D) → Option (List (Option D))) : Prop where
  pss : PSs X st t
  ev : EvN (zOf X) C t m
variable {st : Stmt} {rest : List Stmt} {u w : TS} {C : Nat} {mi : SEnv → List (Option D) → Option (List (Option D))}
theorem c_nil : ECs X C [] tNext (fun _ fs => some fs) := ⟨pss_nil, fun x dx se σ H0 H F0 F fs out D0 f no h0 mk e k => by cases e; exact k σ H F f.g mk⟩
/-- if e: raise .. -/
theorem c_check {body : List Stmt} (hc : ET X c qa na) (hr : ECs X C rest w mi) : ECs X C (.If c body [] pos :: rest) (tSeq (tIfS qa tNever tNext) w) (fun se fs => (na (rd false se)).bind fun b => if b = true then none else mi se fs) :=
  ⟨pss_cons (ps_if hc.pt pss_never pss_nil) hr.pss, fun x dx se σ H0 H F0 F fs out D0 f no h0 mk e k => by
    obtain ⟨b, e1, e2⟩ := Option.bind_eq_some_iff.mp e
    refine hc.ev _ σ H _ _ b f.fit f.g.ok e1 fun H' F' g => ?_
    cases b with
    | true => cases e2
    | false => exact hr.ev x dx se σ H0 H' F0 F' fs out _ (f.grow g) no h0 (mk.grow g) e2 k⟩
theorem c_self {f : Str} {p pos' : Pos} {self : Str} (i : Nat) (hcf : ClsF X.K C) (hsf : SlotF X.K C f i) (h : EX X e te me) (hr : ECs X C rest w mi) (hi : X.N[0]? = some self := by rfl) (hv : Vis X.env.scope self := by first | exact Or.inl rfl | exact Or.inr (Or.inl rfl) | exact Or.inr (Or.inr rfl))
    (hd : (self == ("__debug__" : Str)) = false := by decide) (hcd : (self == ("__classdict__" : Str)) = false := by decide) (hs : swapsWith e (some (.Attribute (.Name self p) f pos')) pos.line X.env = pure false := by rfl) :
    ECs X C (.Assign [.Attribute (.Name self p) f pos'] e pos :: rest) (tSeq (SlX.sSl X.K (tVar 0) te f) w) (fun se fs => (me (rd false se)).bind fun d => mi se (putD i d fs)) :=
  ⟨pss_cons (SlX.ps_sl (pe_var hi hv hd hcd) h.pe hs) hr.pss, fun x dx se σ H0 H F0 F fs out D0 f0 no h0 mk e k => by
    obtain ⟨d, e1, e2⟩ := Option.bind_eq_some_iff.mp e
    refine h.ev _ σ H _ _ d f0.fit f0.g.ok e1 fun v H1 F1 g1 r1 => ?_
    have f1 := f0.grow g1
    have m1 := mk.grow g1
    obtain ⟨v0, q1, q2⟩ := f1.fz 0 _ h0
    cases q2
    obtain ⟨p', hp⟩ := hsf
    obtain ⟨vs, hs', l⟩ := m1.at_
    refine ⟨_, q1, x, _, dx, p', vs, i, rfl, hs', hcf.sc, hp, ?_⟩
    obtain ⟨m2, g2⟩ := m1.store (i := i) f1.g hs' l r1
    refine hr.ev x dx se σ H0 _ F0 F1 _ out _ ⟨g2, f1.len, f1.fz, fun j c q => absurd q (noOwn_at no j c), f1.dis⟩ no h0 m2 e2 k⟩
def spI (Z : Zc) (C : Nat) (n : Nat) (mk : List D → Option (List (Option D))) : Sp := fun vs H Q _ => vs.length = n + 1 ∧ ∃ x dx ws F H0 ds fs, vs = .ref x :: ws ∧ H = upd (upd H0 dx (.own x)) x (.ins (Z.Cl C) dx []) ∧ H0 x = none ∧ H0 dx = none ∧ dx ≠ x ∧ Ok Z F H0 ∧ IsL Z F ws ds ∧ mk ds = some fs ∧
  ∀ H' F', Grow Z F H0 F' H' → Mkg Z F H0 F' H' x dx C fs → Q .non H'
theorem grow_mk (ok : Ok Z F H0) {x dx : Addr} {Ca : Addr} (hx : H0 x = none) (hd : H0 dx = none) (ne : dx ≠ x) : Grow Z F H0 F (upd (upd H0 dx (.own x)) x (.ins Ca dx [])) := by
  have g1 : Grow Z F H0 F (upd H0 dx (.own x)) := Grow.made ok hd
  exact g1.trans (Grow.made g1.ok (by rw [upd_ne ne.symm]; exact hx))
def initD (n : Nat) (m : SEnv → List (Option D) → Option (List (Option D))) (x : Addr) (ds : List D) : Option (List (Option D)) := m (startD n (.adr x :: ds)) []
section
variable {P : Program} {w : World} {K : PySem.W.Frag} {mg : Str → Option Value} {base : Heap}
theorem noOwn_start (n : Nat) (ds : List D) : noOwn (startD n ds) = true := by
  unfold startD
  generalize n - ds.length = k
  induction ds with
  | nil =>
    show noOwn (List.replicate k Sl.u) = true
    induction k with
    | zero => rfl
    | succ k ih => exact ih
  | cons d ds ih => exact ih
theorem fn_init {x qual : Str} {st : Stmt} {f : Addr} {fd : FuncData} {N : List Str} {self : Str} {ps : List Str} {k C : Nat} {m : SEnv → List (Option D) → Option (List (Option D))} {mk : List D → Option (List (Option D))} (Fn : Fun K x qual st f fd) (S : FnScope N (self :: ps) (defScope st))
    (hbody : ∀ (cdv : Value) (A : Around) (outer : List PySem.Env) (s : Shared) (H : Hp) (E : XK), Room k (A.deeper (PyProof.Rows.envOfC qual (defScope st) s.heap.objs.size f cdv)) →
      ∃ t, ECs (cxOf CX0 P w K mg base N qual (defScope st) f cdv A outer s H E).nox C (defBody st) t m) (hm : ∀ x ds fs, ds.length = ps.length → mk ds = some fs → initD N.length m x ds = some fs) (hn : (self :: ps).length ≤ N.length := by decide) :
    FnOk P w K mg base CX0 (k + 1) f fd (self :: ps) (spI ⟨P, w, K, Tb.T, Tb.Cl⟩ C ps.length mk) := by
  refine Fn.ok S (fun vs H Q E h => h.1) fun cdv A outer s H vs Q E hr h => ?_
  obtain ⟨hl, y, dx, ws, F, H0, ds, fs, rfl, rfl, hx, hd, ne, ok, l, e, q⟩ := h
  obtain ⟨t, ht⟩ := hbody cdv A outer s _ E hr
  refine ⟨t, ht.pss, ?_⟩
  have hwl : ds.length = ps.length := by rw [← l.length]; simpa using hl
  have g0 := grow_mk (Z := ⟨P, w, K, Tb.T, Tb.Cl⟩) ok hx hd ne (Ca := Tb.Cl C)
  have fit0 : FitS ⟨P, w, K, Tb.T, Tb.Cl⟩ F _ F (startD N.length (.adr y :: ds)) (L2.start N (.ref y :: ws)) (upd (upd H0 dx (.own y)) y (.ins (Tb.Cl C) dx [])) := fit_start g0.ok (.cons .adr l) (by simp [hwl]; simpa using hn)
  refine ht.ev y dx _ _ H0 _ F F [] fs _ ⟨g0, fit0.len, fit0.fz, fun i c q => absurd q (noOwn_at (noOwn_start _ _) i c), fit0.dis⟩ (noOwn_start _ _) rfl ?_ (hm y ds fs hwl e) fun σ' H' F' g mk' => q H' F' g mk'
  refine ⟨ne, hx, hd, ok.none_of hx, ok.none_of hd, ⟨[], .inl ⟨upd_same, rfl⟩, .nil⟩, .own y, ?_, fun _ z => (by cases z), fun q z => by unfold LamX.CodeO at z; cases z⟩
  rw [upd_ne ne, upd_same]
structure NewK (P : Program) (w : World) (K : PySem.W.Frag) (mg : Str → Option Value) (base : Heap) (x : Str) (C k n : Nat) (mk : List D → Option (List (Option D))) : Prop where
  ex : ∃ f fd ps, Mk K (Tb.Cl C) f ∧ FnOk P w K mg base CX0 k f fd ps (spI ⟨P, w, K, Tb.T, Tb.Cl⟩ C n mk) ∧ mg x = some (.ref (Tb.Cl C)) ∧ Binds K fd ps []
end
def mNew (C : Nat) (ms : Env → Option (List D)) (mk : List D → Option (List (Option D))) : Env → Option D := fun env => (ms env).bind fun ds => (mk ds).map (.obj C ·)
theorem Mkg.freeze {x dx : Addr} {fs : List (Option D)} (h : Mkg Z F H F' H' x dx C fs) (g : Grow Z F H F' H') : ∃ F2, Grow Z F H F2 H' ∧ Is Z F2 (.ref x) (.obj C fs) := by
  obtain ⟨vs, hs, l⟩ := h.at_
  obtain ⟨u, q1, q2, q3⟩ := slt_at hs
  obtain ⟨ud, p1, p2, p3⟩ := h.dc
  have g1 := g.freeze h.d0 p1 h.dF p2
  have nx : upd F' dx ud x = none := by rw [upd_ne h.ne.symm]; exact h.xF
  have g2 := g1.freeze h.x0 q1 nx q2
  have s2 : Same F' (upd (upd F' dx ud) x u) := (same_new h.dF).trans (same_new nx)
  refine ⟨_, g2, .obj (dx := dx) (vs := vs) ?_ (l.mono s2)⟩
  rcases hs with ⟨h1, h2⟩ | ⟨h1, h2⟩
  · rw [q1] at h1
    cases h1
    exact .inl ⟨upd_same, h2⟩
  · rw [q1] at h1
    rw [p1] at h2
    cases h1
    cases h2
    exact .inr ⟨upd_same, by rw [upd_ne h.ne, upd_same]⟩
theorem x_new {x : Str} {p : Pos} {k j n : Nat} {mk : List D → Option (List (Option D))} (h : NewK X.prog X.w X.K X.mg X.base x C k n mk) (hr : Room j X.A) (ha : EA X (e :: es) t ms) (hn : ∀ env ds, ms env = some ds → ds.length = n) (hkj : k + 1 ≤ j := by decide) (hg : Gl X x := by rfl) (hdb : (x == ("__debug__" : Str)) = false := by decide)
    (he : starEach (e :: es) X.env = (false, eval e X.env) :: starEach es X.env := by rfl) (hpl : (backTo pos (starEach es X.env)).any (·.1) = false := by rfl) : EX X (.Call (.Name x p) (e :: es) [] pos) (tMake (Tb.Cl C) (spI (zOf X) C n mk) [] E0 t) (mNew C ms mk) := by
  obtain ⟨f, fd, ps, M, hF, hm, hb⟩ := h.ex
  refine ⟨pe_make M hF (hr.mono hkj) hg hm hb .nil pass0 ha.pa hdb he hpl, fun env σ H F Q d f s e k => ?_⟩
  obtain ⟨ds, e1, e2⟩ := Option.bind_eq_some_iff.mp e
  obtain ⟨fs, e3, rfl⟩ := Option.map_eq_some_iff.mp e2
  refine ha.ev env σ H F _ ds f s e1 fun vs H1 F1 g1 r1 => ?_
  intro y dx hy hd ne
  refine ⟨by simp [r1.length, hn _ _ e1], y, dx, vs, F1, H1, ds, fs, by rw [List.append_nil], rfl, hy, hd, ne, g1.ok, r1, e3, fun H' F' g mk' => ⟨rfl, ?_⟩⟩
  obtain ⟨F2, g2, r2⟩ := mk'.freeze g
  exact k _ H' F2 (g1.trans g2) r2

/-! ### isinstance -/
/-- the sort of a datum -/
def kindD : D → Option Nat
  | .non => some 0
  | .bl _ => some 1
  | .int _ => some 2
  | .str _ => some 3
  | .tup _ => some 4
  | .lst _ => some 5
  | .dct _ => some 6
  | .dki _ => some 6
  | .obj C _ => some (7 + C)
  | .adr _ => none
def tyD : Nat → Value
  | 0 => .type "NoneType"
  | 1 => .type "bool"
  | 2 => .type "int"
  | 3 => .type "str"
  | 4 => .type "tuple"
  | 5 => .type "list"
  | 6 => .type "dict"
  | n + 7 => .ref (Tb.Cl n)
/-- what is known of isinstance(_, u): the sorts' answers -/
def IsiF (K : PySem.W.Frag) (u : Value) (g : List (Nat × Bool)) : Prop := ∀ n b, g.lookup n = some b → PySem.W.kitOne K (tyD n) u = some b ∧ ∀ C, n = C + 7 → ClsF K C
theorem IsiF.nil {K : PySem.W.Frag} {u : Value} : IsiF K u [] := fun n b e => by cases e
theorem IsiF.cons {K : PySem.W.Frag} {u : Value} {n : Nat} {b : Bool} {g : List (Nat × Bool)} (h1 : PySem.W.kitOne K (tyD n) u = some b) (h2 : ∀ C, n = C + 7 → ClsF K C) (h : IsiF K u g) : IsiF K u ((n, b) :: g) := fun n' b' e => by
  rw [List.lookup_cons] at e
  by_cases q : n' = n
  · subst q
    simp at e
    subst e
    exact ⟨h1, h2⟩
  · have q' : (n' == n) = false := by simpa using q
    rw [q'] at e
    exact h n' b' e
/-- a value with what isinstance asks of it -/
def KitV (X : Cx) (H : Hp) (x : V) (t : Value) : Prop := ∀ (pins : List (Addr × Obj)) (σ : L2.St) (s : Shared) (w : Value), Inv X pins σ H s → RelV x w → ∃ P : Heap → Prop, PySem.W.KitX X.K w t P ∧ P s.heap ∧ w ≠ .builtin "__main__.__loader__#opaque"
theorem Is.kit {v : V} {d : D} {n : Nat} (r : Is (zOf X) F v d) (s : Same F H) (e : kindD d = some n) (hc : ∀ C, n = C + 7 → ClsF X.K C) : KitV X H v (tyD n) := fun pins σ sh w I rw_ => by
  cases r with
  | non => cases e; cases (show w = Value.none from rw_); exact ⟨_, PySem.W.kitx_none, True.intro, fun z => nomatch z⟩
  | bl => cases e; cases (show w = Value.bool _ from rw_); exact ⟨_, PySem.W.kitx_bool, True.intro, fun z => nomatch z⟩
  | int => cases e; obtain ⟨t, q⟩ := (show ∃ t, w = Value.int _ t from rw_); cases q; exact ⟨_, PySem.W.kitx_int, True.intro, fun z => nomatch z⟩
  | str => cases e; obtain ⟨t, q⟩ := (show ∃ t, w = Value.str _ t from rw_); cases q; exact ⟨_, PySem.W.kitx_str, True.intro, fun z => nomatch z⟩
  | tup h l =>
    cases e
    cases (show w = Value.ref _ from rw_)
    obtain ⟨its, rv, ⟨o, h1, h2, _⟩, _⟩ := I.tuple (same_t s h)
    exact ⟨_, PySem.W.kitx_tuple, ⟨o, h1, h2⟩, fun z => nomatch z⟩
  | lst h l =>
    cases e
    cases (show w = Value.ref _ from rw_)
    obtain ⟨its, rv, ⟨o, n, h1, h2, _⟩, _⟩ := I.list (same_l s h)
    exact ⟨_, PySem.W.kitx_list, ⟨o, h1, h2⟩, fun z => nomatch z⟩
  | @dct a o kv kvs h q l nn =>
    cases e
    cases (show w = Value.ref _ from rw_)
    obtain ⟨h1, _, _⟩ := I.hok _ _ (s _ _ h)
    exact ⟨_, PySem.W.kitx_dict, ⟨o, h1, q.ex.1⟩, fun z => nomatch z⟩
  | @obj a C dx vs fs h l =>
    cases e
    cases (show w = Value.ref _ from rw_)
    have cf := hc C (by rw [Nat.add_comm])
    obtain ⟨sl, od, _, J, _⟩ := SlX.slt_inst I (same_sl s h)
    have e7 : tyD (7 + C) = .ref (Tb.Cl C) := by rw [Nat.add_comm]; rfl
    rw [e7]
    exact ⟨_, OwX.kitx_slt cf.sc.ic (cf.sc.get _) cf.si.ca cf.si.cn cf.si.ct cf.si.cm, J, fun z => nomatch z⟩
  | adr => cases e
  | dki h l =>
    cases e
    cases (show w = Value.ref _ from rw_)
    obtain ⟨_, _, _, _, o, _, _, h1, h2, _⟩ := I.hok _ _ (s _ _ h)
    exact ⟨_, PySem.W.kitx_dict, ⟨o, h1, h2.1⟩, fun z => nomatch z⟩
def rIsiG (X : Cx) (u : Value) : List V → Hp → VK → Prop := fun xs H Q => ∃ x c t b, xs = [x, c] ∧ RelV c u ∧ (∀ w, RelV c w → w = u) ∧ KitV X H x t ∧ PySem.W.kitOne X.K t u = some b ∧ Q (.bl b) H
theorem call_isiG (u : Value) : CallR X (.builtin "isinstance") (rIsiG X u) := by
  intro pins s σ H xs us Q I r h
  obtain ⟨x, c, t, b, rfl, rc, one, kit, hk, q⟩ := h
  obtain ⟨u1, u2, rfl, r1, r2⟩ := r.two
  cases one _ r2
  obtain ⟨P, kx, p, hx⟩ := kit pins σ s u1 I r1
  exact PySem.W.kia_one kx I.kIn p hk hx fun tk => ⟨.bl b, H, I.tok _, rfl, q⟩
def dIsi (g : List (Nat × Bool)) (d : D) : Option D := (kindD d).bind fun n => (g.lookup n).map .bl
/-- a class by its name -/
structure ECl (X : Cx) (e : Expr) (v : V) (u : Value) : Prop where
  pe : PE X e (tC v)
  rel : RelV v u
  one : ∀ w, RelV v w → w = u
theorem cl_bltn {x T} {p : Pos} (hm : X.mg x = none) (hv : bootBuiltins x = some (.type T) := by decide +kernel) (hg : Gl X x := by rfl) (hn : x ≠ "__name__" := by decide) (hd : (x == ("__debug__" : Str)) = false := by decide) : ECl X (.Name x p) (.ty T) (.type T) := ⟨pe_bltn hg hm hv rfl hn hd, rfl, fun w h => h⟩
theorem cl_own {x : Str} {p : Pos} {Ca : Addr} (hm : X.mg x = some (.ref Ca)) (hg : Gl X x := by rfl) (hd : (x == ("__debug__" : Str)) = false := by decide) : ECl X (.Name x p) (.ref Ca) (.ref Ca) := ⟨pe_glob hg hm rfl hd, rfl, fun w h => h⟩
theorem x_isi {p : Pos} {v : V} {u : Value} (g : List (Nat × Bool)) (h : EX X a ta ma) (hc : ECl X b v u) (hf : IsiF X.K u g) (hm : X.mg "isinstance" = none) (hv : bootBuiltins "isinstance" = some (.builtin "isinstance") := by decide +kernel) (hg : Gl X "isinstance" := by rfl)
    (h1 : starEach [a, b] X.env = (false, eval a X.env) :: starEach [b] X.env := by rfl) (h2 : starEach [b] X.env = (false, eval b X.env) :: starEach [] X.env := by rfl) (hpl : (backTo pos (starEach [b] X.env)).any (·.1) = false := by rfl) :
    EX X (.Call (.Name "isinstance" p) [a, b] [] pos) (tCB (rIsiG X u) (tCons ta (tCons (tC v) tNil))) (fun env => (ma env).bind (dIsi g)) :=
  ⟨pe_callB (call_isiG u) hg hm hv (pa_cons h.pe (pa_cons hc.pe pa_nil h2) h1) (by decide) (by decide) h1 hpl, fun env σ H F Q d f s e k => by
    obtain ⟨x, e1, e2⟩ := Option.bind_eq_some_iff.mp e
    obtain ⟨n, e3, e4⟩ := Option.bind_eq_some_iff.mp (show (kindD x).bind _ = some d from e2)
    obtain ⟨bb, e5, rfl⟩ := Option.map_eq_some_iff.mp e4
    refine h.ev env σ H F _ x f s e1 fun y H1 F1 g1 r1 => ?_
    obtain ⟨hk, hC⟩ := hf n bb e5
    exact ⟨y, v, tyD n, bb, rfl, hc.rel, hc.one, r1.kit g1.ok.s e3 hC, hk, k _ H1 F1 g1 .bl⟩⟩
/-! isinstance(x, (c1, c2)) -/
def rIsiTG (X : Cx) (us : List Value) : List V → Hp → VK → Prop := fun xs H Q => ∃ x tp cs t b, xs = [x, .ref tp] ∧ H tp = some (.tup cs) ∧ (∀ ws, Vals cs ws → ws = us) ∧ KitV X H x t ∧ PySem.W.kitAny X.K t us = some b ∧ Q (.bl b) H
theorem call_isiTG (us : List Value) : CallR X (.builtin "isinstance") (rIsiTG X us) := by
  intro pins s σ H xs ws Q I r h
  obtain ⟨x, tp, cs, t, b, rfl, hT, one, kit, hk, q⟩ := h
  obtain ⟨u1, u2, rfl, r1, r2⟩ := r.two
  cases (show u2 = Value.ref tp from r2)
  obtain ⟨P, kx, p, hx⟩ := kit pins σ s u1 I r1
  obtain ⟨_, its, rv, o, h1, h2, n, h3⟩ := (show ObjOk X.prog X.w H s.heap tp (.tup cs) from I.hok tp _ hT)
  have e3 := one _ rv
  subst e3
  obtain ⟨oc, od, dt, sl⟩ := o
  simp only at h2 h3
  subst h2 h3
  exact PySem.W.kia_tup kx I.kIn p h1 hk hx fun tk => ⟨.bl b, H, I.tok _, rfl, q⟩
theorem x_isi2 {p pt : Pos} {kt} {v v' : V} {u u' : Value} (g g' : List (Nat × Bool)) (h : EX X a ta ma) (hc : ECl X b v u) (hc' : ECl X c v' u') (hf : IsiF X.K u g) (hf' : IsiF X.K u' g') (hm : X.mg "isinstance" = none) (hv : bootBuiltins "isinstance" = some (.builtin "isinstance") := by decide +kernel) (hg : Gl X "isinstance" := by rfl)
    (h1 : starEach [a, .Tuple [b, c] kt pt] X.env = (false, eval a X.env) :: starEach [.Tuple [b, c] kt pt] X.env := by rfl) (h2 : starEach [.Tuple [b, c] kt pt] X.env = (false, eval (.Tuple [b, c] kt pt) X.env) :: starEach [] X.env := by rfl)
    (h3 : starEach [b, c] X.env = (false, eval b X.env) :: starEach [c] X.env := by rfl) (h4 : starEach [c] X.env = (false, eval c X.env) :: starEach [] X.env := by rfl) (hpl : (backTo pos (starEach [.Tuple [b, c] kt pt] X.env)).any (·.1) = false := by rfl) :
    EX X (.Call (.Name "isinstance" p) [a, .Tuple [b, c] kt pt] [] pos) (tCB (rIsiTG X [u, u']) (tCons ta (tCons (tTup (tCons (tC v) (tCons (tC v') tNil))) tNil))) (fun env => (ma env).bind fun x => (dIsi g x).bind fun | .bl true => some (.bl true) | .bl false => dIsi g' x | _ => none) :=
  ⟨pe_callB (call_isiTG [u, u']) hg hm hv (pa_cons h.pe (pa_cons (pe_tup (pa_cons hc.pe (pa_cons hc'.pe pa_nil h4) h3)) pa_nil h2) h1) (by decide) (by decide) h1 hpl, fun env σ H F Q d f s e k => by
    obtain ⟨x, e1, e2⟩ := Option.bind_eq_some_iff.mp e
    obtain ⟨y, e3, e4⟩ := Option.bind_eq_some_iff.mp e2
    obtain ⟨n, e5, e6⟩ := Option.bind_eq_some_iff.mp (show (kindD x).bind _ = some y from e3)
    obtain ⟨bb, e7, rfl⟩ := Option.map_eq_some_iff.mp e6
    obtain ⟨hk, hC⟩ := hf n bb e7
    have one : ∀ ws, Vals [v, v'] ws → ws = [u, u'] := fun ws r => by
      obtain ⟨w1, w2, rfl, r1, r2⟩ := r.two
      rw [hc.one _ r1, hc'.one _ r2]
    refine h.ev env σ H F _ x f s e1 fun y H1 F1 g1 r1 => ?_
    refine ⟨by show 2 ≤ sizeLine; decide, fun tp hp => ?_⟩
    have gm : Grow (zOf X) F1 H1 F1 (upd H1 tp (.tup [v, v'])) := Grow.made g1.ok hp
    cases bb with
    | true =>
      cases e4
      refine ⟨y, tp, [v, v'], tyD n, true, rfl, upd_same, one, r1.kit gm.ok.s e5 hC, ?_, k _ _ F1 (g1.trans gm) .bl⟩
      exact kitAny_cons hk (fun z => by cases z) (fun _ => rfl)
    | false =>
      obtain ⟨n', e8, e9⟩ := Option.bind_eq_some_iff.mp (show (kindD x).bind _ = some d from e4)
      rw [e5] at e8
      cases e8
      obtain ⟨b2, e10, rfl⟩ := Option.map_eq_some_iff.mp e9
      obtain ⟨hk2, _⟩ := hf' n b2 e10
      refine ⟨y, tp, [v, v'], tyD n, b2, rfl, upd_same, one, r1.kit gm.ok.s e5 hC, ?_, k _ _ F1 (g1.trans gm) .bl⟩
      exact kitAny_cons hk (fun _ => kitAny_cons hk2 (fun z => by rw [z]; exact kitAny_nil) id) (fun z => by cases z)⟩
end EX
set_option Elab.async false
set_option linter.all false
set_option autoImplicit false
set_option maxRecDepth 100000
set_option maxHeartbeats 4000000
/-! E11: instances walked by their own __iter__ (return iter(self.f)); match; tests of None. -/
namespace EX
open PySem L2
variable [Tb] {Z : Zc} {F F' F1 F2 H H' H1 H2 F0 H0 : Hp} {X : Cx} {ta tb tc te to : TE} {ma mb mc me mo : Env → Option D} {t : TA} {ms : Env → Option (List D)} {pos : Pos} {e a b c o : Expr} {es : List Expr}
  {qa qb qc : TT} {na nb nc : Env → Option Bool} {tg iter : Expr} {se : SEnv} {σ : L2.St}
section
variable {P : Program} {w : World} {K : PySem.W.Frag} {mg : Str → Option Value} {base : Heap}
/-- a def's promise that may ask how large the heap was -/
def FnS (P : Program) (w : World) (K : PySem.W.Frag) (mg : Str → Option Value) (base : Heap) (k : Nat) (f : Addr) (sp : Nat → Sp) : Prop :=
  ∀ (A : Around) (outer : List PySem.Env) (s : Shared) (H : Hp) (us : List Value) (vs : List V) (Q : VK), Room k A → Env0 P w K mg base A outer s H → Vals vs us → sp s.heap.objs.size vs H Q E0 →
    codeAny (model P w) A (.call (.ref f) ⟨us, []⟩) (CR CX0 outer P w H s Q E0) s
theorem fnS_of {x qual : Str} {st : Stmt} {f : Addr} {fd : FuncData} {N ps : List Str} {k : Nat} {sp : Nat → Sp} (Fn : Fun K x qual st f fd) (S : FnScope N ps (defScope st)) (hb : Binds K fd ps []) (len : ∀ n vs H Q, sp n vs H Q E0 → vs.length = ps.length)
    (hbody : ∀ (cdv : Value) (A : Around) (outer : List PySem.Env) (s : Shared) (H : Hp) (vs : List V) (Q : VK), Room k (A.deeper (PyProof.Rows.envOfC qual (defScope st) s.heap.objs.size f cdv)) → sp s.heap.objs.size vs H Q E0 →
      ∃ t, PSs (cxOf CX0 P w K mg base N qual (defScope st) f cdv A outer s H E0).nox (defBody st) t ∧ t { nx := fun _ H' => Q .non H', rt := Q } (L2.start N vs) H) : FnS P w K mg base (k + 1) f sp := by
  obtain ⟨oc, od, kV, doc, pm, an, cdv, ct, osl, rfl, lk, hcd⟩ := Fn.ex
  intro A outer s H us vs Q hr e0 r hsp
  have hl := len _ _ _ _ hsp
  have KX : K.In s.heap := e0.mod.kin.keeps fun b o e => (e0.bs b o e).1
  have lim : s.heap.NoLimit := e0.mod.nolimit.keeps fun b o e => (e0.bs b o e).1
  have hul : (us ++ []).length = ps.length := by rw [List.append_nil, ← r.length, hl]
  have hbd := hb s us KX hul
  rw [List.append_nil] at hbd
  have hkind : ∀ y ∈ ps.zip us, (defScope st).names.lookup y.1 = some .local ∨ ((defScope st).names.lookup y.1 = some .cell ∧ ((cellsFrom (s.heap.objs.size + 1) (defScope st).names []).lookup y.1).isSome = true) := fun ⟨n, v⟩ hy => by
    rcases S.par n (List.of_mem_zip hy).1 with q | q
    · exact .inl q
    · exact .inr ⟨q, PySem.W.cellsFrom_some _ _ _ (.inl q)⟩
  refine codeAny_call_function hr.depth (KX _ _ lk) rfl S.co S.gen rfl (PySem.W.codeRec_of KX hcd) (hbd _ _ _ _ ?_)
  refine wpAny_newFunctionEnv_cells S.kind hkind fun env he s1 x => ?_
  subst he
  refine ⟨lim.keeps x.toInCall.keep, codeAny_func ?_⟩
  obtain ⟨t, ht, hq⟩ := hbody cdv A outer s H vs Q (hr.deeper _) hsp
  have I : Inv (cxOf CX0 P w K mg base N qual (defScope st) f cdv A outer s H E0) [] (L2.start N vs) H s1 := inv_start S hr.hd e0 hl r x
  refine wpAny_mono (ht.nox.run [] s1 (L2.start N vs) H _ I hq) (fun fl s' hs => ?_) fun e s' hs => hs
  have fin : ∀ {σ' : L2.St} {H' : Hp} {v : V} {u : Value}, Inv (cxOf CX0 P w K mg base N qual (defScope st) f cdv A outer s H E0) [] σ' H' s' → RelV v u → Q v H' → CE outer P w H s Q u s' :=
    fun {σ' H' v u} J rv q => ⟨v, H', J.os, J.bare, J.base, J.hok, rv, q⟩
  cases fl with
  | ret u =>
    obtain ⟨v, σ', H', J, rv, q⟩ := hs
    exact fin J rv q
  | next =>
    obtain ⟨σ', H', J, q⟩ := hs
    exact fin (v := V.non) (u := Value.none) J rfl q
  | brk =>
    obtain ⟨_, _, _, q⟩ := hs
    exact False.elim q
  | cont =>
    obtain ⟨_, _, _, q⟩ := hs
    exact False.elim q
end
/-! ### iter(xs) -/
def ItO1 (it : Addr) (b : Bool) (l : Addr) : HO := .ext fun h => h.get? it = some (objB b l)
theorem itO1_ok {P : Program} {w : World} {h : Heap} {it l : Addr} {b : Bool} (e : h.get? it = some (objB b l)) : ObjOk P w H h it (ItO1 it b l) := ⟨e, ⟨_, e⟩, fun h1 h2 q k => k _ q⟩
theorem call_iterR {prog : Program} {w : World} {A : Around} {E : Value → Shared → Prop} {s : Shared} {l : Addr} {b : Bool} {items : Array Value} {Q : Value → Shared → Prop} (hl : SB b s.heap l items) (h : Q (.ref s.heap.objs.size) { s with heap := s.heap.push (objB b l) }) : wpAny (model prog w) A (call (.builtin "iter") [.ref l]) Q E s := by
  refine Calls.call_function_entry (by decide +kernel) (by decide +kernel) PySem.W.kdk_entry_iter (PySem.W.kdk_args_iter _) ?_
  unfold Builtin.«iter»
  refine wpAny_bind (m := someArgs "iter" 1 2 _) (wpAny_of_eq (a := [Value.ref l]) (by first | rfl | kernel_rfl!) ?_)
  show wpAny _ _ (pyIter (.ref l) >>= _) _ _ _
  refine wpAny_bind ((beginsB b l items).iter _ _ _ _ _ _ hl ?_)
  exact wpAny_pure ⟨_, rfl, h⟩
def rIterB (K : PySem.W.Frag) (n : Nat) : List V → Hp → VK → Prop := fun xs H Q => ∃ (b : Bool) (l : Addr) (zs : List V), xs = [.ref l] ∧ SqB K b H l zs ∧ ∀ it, H it = none → n ≤ it → Q (.ref it) (upd H it (ItO1 it b l))
theorem call_iterB : CallR X (.builtin "iter") (rIterB X.K X.s_0.heap.objs.size) := by
  intro pins s σ H xs us Q I r h
  obtain ⟨b, l, zs, rfl, hq, q⟩ := h
  obtain ⟨u, rfl, ru⟩ := vals1 r
  cases ru
  obtain ⟨its, rv, pl⟩ := sqB_at I hq
  refine call_iterR pl ?_
  exact ⟨.ref s.heap.objs.size, _, I.laid (t' := s.toks) (fun b u e => Heap.get?_push_of_some _ e) (Nat.le_refl _) (itO1_ok (Heap.get?_push_size _ (beginsB b l its.toArray).free)), rfl, q _ (I.hok.fresh (Nat.le_refl _)) I.sz⟩
/-- what __iter__ promises: an iterator of what its slot i holds -/
def spIt (K : PySem.W.Frag) (C : Addr) (i : Nat) (n : Nat) : Sp := fun vs H Q _ => ∃ a dx ws b l xs, vs = [.ref a] ∧ SlX.Slt H a C dx ws ∧ ws[i]? = some (some (.ref l)) ∧ SqB K b H l xs ∧ ∀ it, H it = none → n ≤ it → Q (.ref it) (upd H it (ItO1 it b l))
section
variable {P : Program} {w : World} {K : PySem.W.Frag} {mg : Str → Option Value} {base : Heap}
structure ItF (P : Program) (w : World) (K : PySem.W.Frag) (mg : Str → Option Value) (base : Heap) (C i k : Nat) : Prop where
  cf : ClsF K C
  ex : ∃ f, PySem.W.findIn K (.ref (Tb.Cl C)) "__iter__" = some (some (.ref f)) ∧ PySem.W.isFn K (.ref f) = true ∧ FnS P w K mg base k f (spIt K (Tb.Cl C) i)
/-- def __iter__(self): return iter(self.f) -/
theorem fn_iter {x qual : Str} {st : Stmt} {f : Addr} {fd : FuncData} {self g : Str} {C i k : Nat} {p1 p2 p3 p4 p5 : Pos} (Fn : Fun K x qual st f fd) (S : FnScope [self] [self] (defScope st)) (hb : Binds K fd [self] []) (hbd : defBody st = [.Return (some (.Call (.Name "iter" p1) [.Attribute (.Name self p2) g p3] [] p4)) p5])
    (hcf : ClsF K C) (hsf : SlotF K C g i) (hm : mg "iter" = none)
    (hok : ∀ (cdv : Value) (A : Around) (outer : List PySem.Env) (s : Shared) (H : Hp), PE (cxOf CX0 P w K mg base [self] qual (defScope st) f cdv A outer s H E0).nox (.Call (.Name "iter" p1) [.Attribute (.Name self p2) g p3] [] p4) (tCB (rIterB K s.heap.objs.size) (tCons (SlX.tSl K (tVar 0) g) tNil))) :
    FnS P w K mg base (k + 1) f (spIt K (Tb.Cl C) i) := by
  refine fnS_of Fn S hb (fun n vs H Q h => ?_) fun cdv A outer s H vs Q hr h => ?_
  · obtain ⟨a, dx, ws, b, l, xs, rfl, _⟩ := h
    rfl
  · obtain ⟨a, dx, ws, b, l, xs, rfl, hs, hw, hq, q⟩ := h
    rw [hbd]
    refine ⟨_, pss_one (ps_ret (hok cdv A outer s H)), ?_⟩
    obtain ⟨p, hp⟩ := hsf
    exact ⟨.ref a, rfl, a, _, dx, p, ws, i, .ref l, rfl, hs, hcf.sc, hp, hw, b, l, xs, rfl, hq, q⟩
end
def iObj (K : PySem.W.Frag) (C i : Nat) (te : TE) : TI := fun σ H R => te σ H fun x H1 => ∃ a dx ws b l xs, x = .ref a ∧ SlX.Slt H1 a (Tb.Cl C) dx ws ∧ ws[i]? = some (some (.ref l)) ∧ SqB K b H1 l xs ∧ R (match b with | true => Itl K l | false => Itt K l) H1
theorem next_slot (b : Bool) {M : Model} {A : Around} {E : Value → Shared → Prop} {s : Shared} {it l : Addr} {Q : Option Value → Shared → Prop} (e : s.heap.get? it = some (objB b l)) (q : ∀ g, Q (some g) s) : wpAny M A (specialOf (.ref it) "__next__") Q E s := by
  cases b
  · have hT : s.TypeIs (.ref it) "tuple_iterator" := ⟨_, e, rfl⟩
    exact wpAny_specialOf (name := Str.ofString "__next__") hT F.slot_tuple_iterator_next.lookup (q _)
  · have hT : s.TypeIs (.ref it) "list_iterator" := ⟨_, e, rfl⟩
    exact wpAny_specialOf (name := Str.ofString "__next__") hT slot_listiter_next.lookup (q _)
theorem pi_obj {C i k j : Nat} (h : PE X e te) (hI : ItF X.prog X.w X.K X.mg X.base C i k) (hr : Room j X.A) (hkj : k ≤ j) : PI X tg e (iObj X.K C i te) := by
  obtain ⟨fi, h1, h2, F⟩ := hI.ex
  refine ⟨fun pins s σ H R I q => thn (h.run pins s σ H _ I q) fun u s1 ⟨x, H1, I1, rx, a, dx, ws, b, l, xs, ex, hs, hw, hq, q1⟩ => ?_⟩
  subst ex
  obtain rfl : u = Value.ref a := rx
  obtain ⟨sl, od, _, J, _⟩ := SlX.slt_inst I1 hs
  obtain ⟨m, hF⟩ := I1.fr
  refine PySem.W.owit_iter hF I1.ok.mod.kin J h1 h2 ?_
  refine wpAny_call (codeAny_mono (F X.A X.stack s1 H1 [.ref a] [.ref a] (fun v H' => ∃ it, v = .ref it ∧ s1.heap.objs.size ≤ it ∧ H1 it = none ∧ H' = upd H1 it (ItO1 it b l)) (hr.mono hkj) I1.env0 (.cons rfl .nil) ⟨a, dx, ws, b, l, xs, rfl, hs, hw, hq, fun it hn hle => ⟨it, rfl, hle, hn, rfl⟩⟩) fun r s' hq' => ?_)
  cases r with
  | error e => exact False.elim hq'
  | ok fl =>
    cases fl with
    | next => exact False.elim hq'
    | brk => exact False.elim hq'
    | cont => exact False.elim hq'
    | ret w =>
      obtain ⟨v, H', I', rv, it, ev, hle, hn, eH⟩ := I1.after hq'
      subst ev
      subst eH
      obtain rfl : w = Value.ref it := rv
      have ho : s'.heap.get? it = some (objB b l) := (I'.hok it _ upd_same).1
      refine next_slot b ho fun g => ?_
      show PIE X pins σ tg R (.ref it) s'
      have I2 := ItX.inv_drop I' upd_same
      have fp := ItX.inv_fp I' upd_same (Nat.le_trans I1.sz hle)
      rw [ItX.dropH_upd hn] at I2 fp
      cases b with
      | true => exact ⟨it, [it], _, _, H1, rfl, I2, turn_list l it, ⟨_, ho, rfl, rfl⟩, fun c hc => by rw [List.mem_singleton.mp hc]; exact fp, q1⟩
      | false => exact ⟨it, [it], _, _, H1, rfl, I2, turn_tuple l it, ⟨_, ho, rfl, rfl⟩, fun c hc => by rw [List.mem_singleton.mp hc]; exact fp, q1⟩
def iO (C i : Nat) (me : Env → Option D) : Env → Option (List D) := fun env => (me env).bind fun
  | .obj C' fs => if (C' == C) = true then ((fs[i]?).join).bind sqD else none
  | _ => none
theorem i_obj {C i k j : Nat} (h : EX X e te me) (hI : ItF X.prog X.w X.K X.mg X.base C i k) (hr : Room j X.A) (hkj : k ≤ j := by decide) : EI X tg e (iObj X.K C i te) (iO C i me) := ⟨pi_obj h.pe hI hr hkj, fun env σ H F R ds f s e k => by
  obtain ⟨x, e1, e2⟩ := Option.bind_eq_some_iff.mp e
  refine h.ev env σ H F _ x f s e1 fun v H1 F1 g1 r1 => ?_
  cases r1 with
  | @obj a C' dx vs fs hs l =>
    have e2' : (if (C' == C) = true then ((fs[i]?).join).bind sqD else none) = some ds := e2
    by_cases hC : (C' == C) = true
    case neg => rw [if_neg hC] at e2'; cases e2'
    rw [if_pos hC] at e2'
    have hC' : C' = C := by simpa using hC
    obtain ⟨y, e3, e4⟩ := Option.bind_eq_some_iff.mp e2'
    obtain ⟨v, q1, q2⟩ := isO_get l e3
    obtain ⟨b, p, xs, rfl, q3, q4, q5⟩ := q2.sqB e4 g1.ok.s
    refine ⟨a, dx, vs, b, p, xs, rfl, by rw [← hC']; exact same_sl g1.ok.s hs, q1, q4, k _ H1 F1 g1 ?_⟩
    cases b with
    | true => exact wk_list (Z := zOf X) q3 q5
    | false => exact wk_tup (Z := zOf X) q3 q5
  | _ => cases e2⟩
end EX
set_option Elab.async false
set_option linter.all false
set_option autoImplicit false
set_option maxRecDepth 100000
set_option maxHeartbeats 4000000
/-! E12: a lambda of one parameter that captures names; called by a built-in. -/
namespace EX
open PySem L2
variable [Tb] {Z : Zc} {F F' F1 F2 H H' H1 H2 F0 H0 : Hp} {X : Cx} {ta tb tc te to : TE} {ma mb mc me mo : Env → Option D} {t : TA} {ms : Env → Option (List D)} {pos : Pos} {e a b c o : Expr} {es : List Expr}
  {qa qb qc : TT} {na nb nc : Env → Option Bool} {tg iter : Expr} {se : SEnv} {σ : L2.St}

structure Lam1 (sc scope : Scope) (p : Str) : Prop where
  kind : scope.kind = .function
  co : scope.isCoroutine = false
  gen : scope.isGenerator = false
  own : ∀ y ∈ scope.names, y.2 ≠ .cell ∧ (y.2 = .local → y.1 = p)
  par : scope.names.lookup p = some .local
  free : ∀ y ∈ scope.names, y.2 = .free → sc.names.lookup y.1 = some .cell ∨ sc.names.lookup y.1 = some .free
def lam1B (sc scope : Scope) (p : Str) : Bool :=
  decide (scope.kind = .function) && !scope.isCoroutine && !scope.isGenerator && decide (scope.names.lookup p = some .local) && scope.names.all fun y => !decide (y.2 = .cell) && (!decide (y.2 = .local) || decide (y.1 = p)) && (!decide (y.2 = .free) || decide (sc.names.lookup y.1 = some .cell) || decide (sc.names.lookup y.1 = some .free))
theorem lam1_by {sc scope : Scope} {p : Str} (h : lam1B sc scope p = true) : Lam1 sc scope p := by
  unfold lam1B at h
  simp only [Bool.and_eq_true, Bool.or_eq_true, Bool.not_eq_true', decide_eq_true_eq, decide_eq_false_iff_not, List.all_eq_true] at h
  obtain ⟨⟨⟨⟨h1, h2⟩, h3⟩, h5⟩, h4⟩ := h
  refine ⟨h1, h2, h3, fun y hy => ⟨(h4 y hy).1.1, fun e => ?_⟩, h5, fun y hy e => ?_⟩
  · rcases (h4 y hy).1.2 with z | z
    · exact absurd e z
    · exact z
  · rcases (h4 y hy).2 with (z | z) | z
    · exact absurd e z
    · exact .inl z
    · exact .inr z
theorem Lam1.has {X : Cx} {scope : Scope} {p : Str} (L : Lam1 X.env.scope scope p) (ok : X.Ok) : ∀ y ∈ scope.names, y.2 = .free → ∃ c, X.env.cells.lookup y.1 = some c := fun y hy e => by
  rcases L.free y hy e with k | k
  · exact ok.has _ (.inl k)
  · exact ok.has _ (.inr k)
section
variable {pins : List (Addr × Obj)} {HZ : Hp} {s s1 : Shared}
theorem lam1_start {A : Around} {outer : List PySem.Env} {E : XK} {scope : Scope} {f c' : Addr} {h₁ : Heap} {tk i : Nat} {p : Str} {v : V} {u : Value} (I : Inv X pins σ H s) (L : Lam1 X.env.scope scope p) (e0 : Env0 X.prog X.w X.K X.mg X.base A outer s H) (hd : A.handled = none)
    (hN : X.N.Nodup) (hi : X.N[i]? = some p) (rv : RelV v u) (hns : h₁.Ns s.heap.objs.size fun y => ([(p, u)] : List (Str × Value)).reverse.lookup y) (kp : ∀ b o, s.heap.get? b = some o → h₁.get? b = some o) :
    Inv (LamX.lamCx X A outer s H E scope f c') [] (σ.set i (some v)) H { s with heap := h₁, toks := tk } := by
  have hfree := L.has I.ok
  have cm : ∀ {y c}, (cloFrom X.env.cells scope.names []).lookup y = some c → X.env.cells.lookup y = some c := fun {y c} e => by
    rcases L2.cloFrom_mem (PySem.mem_of_lookup e) with hm | ⟨h1, h2⟩
    · cases hm
    · obtain ⟨c1, hc⟩ := hfree _ h1 rfl
      have hc : X.env.cells.lookup y = some c1 := hc
      have e2 : c = c1 := by
        rw [h2, hc] <;> rfl
      rw [e2]
      exact hc
  have look : ∀ {y}, scope.names.lookup y = some .free → ∃ c, (cloFrom X.env.cells scope.names []).lookup y = some c := fun {y} hl => by
    have hy : (y, NameKind.free) ∈ scope.names := PySem.mem_of_lookup hl
    exact L2.mem_lookup (L2.cloFrom_has (cells := X.env.cells) (acc := []) hy)
  have cellK : ∀ {c : Addr} {v : Option Value}, s.heap.IsCell c v → h₁.IsCell c v := fun {c v} ⟨o, ho, hd⟩ => ⟨o, kp _ _ ho, hd⟩
  have noA : ∀ b : Addr, b ∉ (LamX.lamCx X A outer s H E scope f c').ex := fun b z => absurd (show b ∈ ([] : List Addr) from z) (by simp)
  refine ⟨⟨e0.mod, L.kind, rfl, rfl, Nat.le_refl _, fun y z c e1 e2 => I.ok.inj y z c (cm e1) (cm e2), fun y hy => ?_, fun y c z _ => ?_, fun _ => hd, Around.frames_deeper e0.frames, .inr ⟨rfl, rfl⟩, fun b z => absurd z (noA b), e0.bs, e0.bsz, fun b _ _ => noA b,
      fun b z => absurd z (noA b), e0.funs, e0.frf⟩,
    rfl, e0.bare, Un.kept kp, ⟨_, hns, fun j y w e1 e2 e3 => ?_⟩, fun y c e => ?_, e0.hok.fresh (Nat.le_refl _), fun y c e => ?_, fun q hq => absurd (show q ∈ ([] : List (Addr × Obj)) ++ [] from hq) (by simp), e0.hok.kept kp, by rw [List.length_set]; exact I.len⟩
  · have hy : scope.names.lookup y = some .cell ∨ scope.names.lookup y = some .free := hy
    rcases hy with hy | hy
    · exact absurd rfl (L.own _ (PySem.mem_of_lookup hy)).1
    · exact look hy
  · have z : false = true := z
    cases z
  · have e3 : Vis scope y := e3
    have e1 : X.N[j]? = some y := e1
    rcases e3 with k | k | k
    · have ey : y = p := (L.own _ (PySem.mem_of_lookup k)).2 rfl
      subst ey
      have ij : i = j := by
        have hil := (List.getElem?_eq_some_iff.mp hi).1
        have hjl := (List.getElem?_eq_some_iff.mp e1).1
        exact (List.getElem?_inj hil hN).mp (hi.trans e1.symm)
      subst ij
      have hil : i < σ.length := by rw [I.len]; exact (List.getElem?_eq_some_iff.mp hi).1
      rw [List.getElem?_set_self hil] at e2
      cases e2
      exact ⟨u, rv, .inl ⟨k, by simp⟩⟩
    · exact absurd rfl (L.own _ (PySem.mem_of_lookup k)).1
    · have ij : i ≠ j := fun z => by
        rw [← z, hi] at e1
        cases e1
        rw [L.par] at k
        cases k
      rw [List.getElem?_set_ne ij] at e2
      obtain ⟨m, hn, hl⟩ := I.loc
      have hvis : Vis X.env.scope y := (L.free _ (PySem.mem_of_lookup k) rfl).elim (fun k => .inr (.inl k)) (fun k => .inr (.inr k))
      obtain ⟨w', r, q⟩ := hl j y w e1 e2 hvis
      obtain ⟨c2, h2⟩ := look k
      refine ⟨w', r, .inr ⟨.inr k, c2, h2, ?_⟩⟩
      have c1 := cm h2
      rcases q with ⟨k', _⟩ | ⟨_, c3, e', z⟩
      · have k' : X.env.scope.names.lookup y = some .local := k'
        rcases L.free _ (PySem.mem_of_lookup k) rfl with k2 | k2 <;> rw [show X.env.scope.names.lookup y = _ from k2] at k' <;> cases k'
      · rw [c1] at e'
        cases e'
        exact cellK z
  · obtain ⟨w', z⟩ := I.cell y c (cm e)
    exact ⟨w', cellK z⟩
  · exact I.freeC y c (cm e)
/-- the lambda's object -/
abbrev lamO (X : Cx) (params : Arguments) (body : Expr) (scope : Scope) (pm : Value) (c' : Addr) (ctv : Value) : Obj := PySem.W.kla_obj "<lambda>" (X.env.qual ++ "<lambda>") params body scope (cloFrom X.env.cells scope.names []) pm c' ctv
theorem lam1_call {A1 : Around} {f c' : Addr} {pm ctv : Value} {params : Arguments} {body : Expr} {scope : Scope} {k i : Nat} {p : Str} {v : V} {u : Value} {Q : VK} (I : Inv X pins σ H s) (L : Lam1 X.env.scope scope p) (hf : s.heap.get? f = some (lamO X params body scope pm c' ctv)) (hc : H c' = some (LamX.CodeO c' (X.env.qual ++ "<lambda>")))
    (hbind : bindArgs (PySem.W.kla_fn "<lambda>" (X.env.qual ++ "<lambda>") params body scope (cloFrom X.env.cells scope.names []) pm (.ref c') ctv) ⟨[u], []⟩ = pure [(p, u)]) (hr : Room (k + 1) A1) (e0 : Env0 X.prog X.w X.K X.mg X.base A1 X.stack s H)
    (hbody : ∀ (A : Around) (outer : List PySem.Env) (s : Shared) (H : Hp), Room k (A.deeper (LamX.lamEnv X scope s.heap.objs.size f c')) → PE (LamX.lamCx X A outer s H E0 scope f c') body tb)
    (hN : X.N.Nodup) (hi : X.N[i]? = some p) (rv : RelV v u) (q : tb (σ.set i (some v)) H Q) :
    wpAny (model X.prog X.w) A1 (call (.ref f) [u]) (EP X pins σ Q) (fun _ _ => False) s := by
  obtain ⟨⟨oc, vs, t, hoc, hdc, hvc⟩, _, _⟩ := I.hok c' _ hc
  refine wpAny_call (codeAny_mono (R := CR (L2.CX X.prog X.w) X.stack X.prog X.w H s Q E0) ?_ fun r s' hq => ?_)
  · refine PySem.W.kla_callFunE hr.depth hf rfl L.co L.gen rfl ⟨c', oc, vs, t, rfl, hoc, hdc, hvc⟩ ?_
    rw [hbind]
    refine wpAny_pure (wpAny_newFunctionEnv (fun y hy => (L.own y hy).1) (fun y hy => ?_) (fun h₁ hns hsb => ⟨I.nolimit.fresh _ hsb, ?_⟩) L.kind)
    · rw [List.mem_singleton.mp hy]
      exact L.par
    · show codeAny _ _ (.expr body (LamX.lamEnv X scope s.heap.objs.size f c')) _ _
      have kp : ∀ b o, s.heap.get? b = some o → h₁.get? b = some o := fun b o e => hsb.extBut b o (Nat.ne_of_lt (Heap.lt_size e)) (Heap.get?_push_of_some _ e)
      have J := lam1_start (A := A1) (outer := X.stack) (E := E0) (f := f) (c' := c') (tk := s.toks + ([(p, u)] : List (Str × Value)).length) I L e0 hr.hd hN hi rv hns kp
      refine PySem.W.kla_codeExpr (wpAny_mono ((hbody A1 X.stack s H (hr.deeper _)).run [] _ _ H Q J q) (fun w s' hq => ?_) fun e s' hq => hq)
      obtain ⟨w', H', J', rv', q'⟩ := hq
      exact ⟨w', H', J'.os, J'.bare, J'.base, J'.hok, rv', q'⟩
  · cases r with
    | error e =>
      obtain ⟨_, _, _, _, _, _, _, _, _, _, _, _, _, z⟩ := hq
    | ok fl =>
      cases fl with
      | ret u => exact I.after hq
      | next => exact False.elim hq
      | brk => exact False.elim hq
      | cont => exact False.elim hq
end
end EX
set_option Elab.async false
set_option linter.all false
set_option autoImplicit false
set_option maxRecDepth 100000
set_option maxHeartbeats 4000000
/-! E13: min(x, key=lambda p: e). -/
namespace EX
open PySem L2
variable [Tb] {Z : Zc} {F F' F1 F2 H H' H1 H2 F0 H0 : Hp} {X : Cx} {ta tb tc te to : TE} {ma mb mc me mo : Env → Option D} {t : TA} {ms : Env → Option (List D)} {pos : Pos} {e a b c o : Expr} {es : List Expr}
  {qa qb qc : TT} {na nb nc : Env → Option Bool} {tg iter : Expr} {se : SEnv} {σ : L2.St}

/-! ### what is less, by data -/
def nonD : D → Bool
  | .non => true
  | _ => false
def ltK (x y : D) : Option Bool := if (okD 30 x && okD 30 y && PySem.W.alike (pyOf x) (pyOf y) && !nonD x) = true then some (PySem.W.dataLt (pyOf x) (pyOf y)) else none
theorem pyOf_none {n : Nat} {x : D} (h : okD n x = true) (hn : nonD x = false) : pyOf x ≠ .none := by
  cases x with
  | non => simp [nonD] at hn
  | dct _ => cases n <;> simp [okD] at h
  | obj _ _ => cases n <;> simp [okD] at h
  | adr _ => cases n <;> simp [okD] at h
  | dki _ => cases n <;> simp [okD] at h
  | _ => simp [pyOf]
def goK (f : D → Option D) (y ky : D) : List D → Option D
  | [] => some y
  | d :: ds => (f d).bind fun k => (ltK k ky).bind fun b => if b = true then goK f d k ds else goK f y ky ds
def minKD (f : D → Option D) : List D → Option D
  | [] => none
  | d :: ds => (f d).bind fun k => goK f d k ds
/-- what a function f of one parameter does when a built-in calls it: it computes m -/
structure KFun (X : Cx) (F1 H1 : Hp) (f : Value) (P : List (Addr × Obj)) (A1 : Around) (σ : L2.St) (env : Env) (m : D → Option D) : Prop where
  run : ∀ {pins : List (Addr × Obj)} {s : Shared} {H F : Hp} {Q : VK} {x : V} {u : Value} {d k : D}, (∀ p ∈ P, p ∈ pins) → Inv X pins σ H s → Fit (zOf X) F env σ → Grow (zOf X) F1 H1 F H → RelV x u → Is (zOf X) F x d → m d = some k →
    (∀ v H' F', Grow (zOf X) F H F' H' → Is (zOf X) F' v k → Q v H') → wpAny (model X.prog X.w) A1 (call f [u]) (EP X pins σ Q) (fun _ _ => False) s
section
variable {pins : List (Addr × Obj)} {s : Shared} {A1 : Around} {E : Value → Shared → Prop}
theorem next_item {b : Bool} {it l : Addr} {i : Nat} {xs : List V} {x : V} {Q : Option Value → Shared → Prop} (I : Inv X pins σ H s) (hit : ItB b s.heap it l i) (hq : SqB X.K b H l xs) (hx : xs[i]? = some x) (fp : FpOk X pins H it)
    (h : ∀ u s', RelV x u → Inv X pins σ H s' → ItB b s'.heap it l (i + 1) → Q (some u) s') : wpAny (model X.prog X.w) A1 (pyNext (.ref it)) Q E s := by
  obtain ⟨f0, f1, f2, f3, f4, f5⟩ := fp
  obtain ⟨its, rv, p⟩ := sqB_at I hq
  obtain ⟨u, hu, ru⟩ := rv.get hx
  cases b with
  | true => exact wpAny_pyNext_list_item hit p (x := u) (by simpa using hu) fun h' st' sb => h u _ ru (I.turned (t' := s.toks) (fun b o hb e => (sb.2 b hb).trans e) f0 f1 f3 f4 f5) st'
  | false => exact wpAny_pyNext_tuple_item hit p (x := u) (by simpa using hu) fun h' st' sb => h u _ ru (I.turned (t' := s.toks) (fun b o hb e => (sb.2 b hb).trans e) f0 f1 f3 f4 f5) st'
theorem next_end {b : Bool} {it l : Addr} {i : Nat} {xs : List V} {Q : Option Value → Shared → Prop} (hh : A1.handled = none) (I : Inv X pins σ H s) (hit : ItB b s.heap it l i) (hq : SqB X.K b H l xs) (hx : xs.length ≤ i) (fp : FpOk X pins H it)
    (h : ∀ s', Inv X pins σ H s' → Q none s') : wpAny (model X.prog X.w) A1 (pyNext (.ref it)) Q E s := by
  obtain ⟨f0, f1, f2, f3, f4, f5⟩ := fp
  obtain ⟨its, rv, p⟩ := sqB_at I hq
  have hl := rv.length
  cases b with
  | true => exact wpAny_pyNext_list_end hh hit p (by simp; omega) fun h' eb => h _ (I.turned (t' := s.toks) (fun b o hb e => eb b o hb e) f0 f1 f3 f4 f5)
  | false => exact wpAny_pyNext_tuple_end hh hit p (by simp; omega) fun h' eb => h _ (I.turned (t' := s.toks) (fun b o hb e => eb b o hb e) f0 f1 f3 f4 f5)
theorem cmp_lt {k : Nat} {x y : V} {u v : Value} {dx dy : D} {r : Bool} {Q : Value → Shared → Prop} (I : Inv X pins σ H s) (f : Same F H) (hx : Is (zOf X) F x dx) (hy : Is (zOf X) F y dy) (rx : RelV x u) (ry : RelV y v) (e : ltK dx dy = some r) (hr : Room k A1) (q : Q (.bool r) s) : wpAny (model X.prog X.w) A1 (richCompare .Lt u v) Q E s := by
  obtain ⟨h, rfl⟩ := ite_some e
  simp only [Bool.and_eq_true, Bool.not_eq_true'] at h
  obtain ⟨⟨⟨o1, o2⟩, al⟩, nn⟩ := h
  obtain ⟨as, r1⟩ := hx.reads I f o1 rx
  obtain ⟨bs, r2⟩ := hy.reads I f o2 ry
  have d1 := depth_of _ _ o1
  have := hr.un
  exact PySem.W.rcLt_alike _ _ A1 s u v _ _ r1 r2 al (pyOf_none o1 nn) (by omega) X.prog X.w E Q q
end
theorem ExtN.keepS {S : Addr} {xs : List V} (e : LamX.ExtN H H') (h : H S = some (.lst xs)) : H' S = some (.lst xs) := e S _ h fun _ z => nomatch z
/-- an iterator at it that gives xs: where it stands, what of the heap it needs -/
structure ItSrc (X : Cx) (it : Addr) (xs : List V) (At : Nat → Heap → Prop) (G : Hp → Prop) : Prop where
  item : ∀ {pins : List (Addr × Obj)} {s : Shared} {σ : L2.St} {H : Hp} {A1 : Around} {i : Nat} {x : V} {Q : Option Value → Shared → Prop} {E : Value → Shared → Prop}, Inv X pins σ H s → At i s.heap → G H → xs[i]? = some x → FpOk X pins H it →
    (∀ u s', RelV x u → Inv X pins σ H s' → At (i + 1) s'.heap → Q (some u) s') → wpAny (model X.prog X.w) A1 (pyNext (.ref it)) Q E s
  done : ∀ {pins : List (Addr × Obj)} {s : Shared} {σ : L2.St} {H : Hp} {A1 : Around} {i : Nat} {Q : Option Value → Shared → Prop} {E : Value → Shared → Prop}, A1.handled = none → Inv X pins σ H s → At i s.heap → G H → xs.length ≤ i → FpOk X pins H it →
    (∀ s', Inv X pins σ H s' → Q none s') → wpAny (model X.prog X.w) A1 (pyNext (.ref it)) Q E s
  obj : ∀ {i : Nat} {h : Heap}, At i h → ∃ o, h.get? it = some o ∧ ∀ v, o.data ≠ .cell v
  keep : ∀ {i : Nat} {h h' : Heap}, At i h → (∀ o, h.get? it = some o → h'.get? it = some o) → At i h'
  same : ∀ {F F' : Hp}, Same F F' → G F → G F'
theorem src_seq {b : Bool} {it l : Addr} {xs : List V} : ItSrc X it xs (fun i h => ItB b h it l i) (fun H => SqB X.K b H l xs) where
  item := fun I a g hx fp h => next_item I a g hx fp h
  done := fun hh I a g hx fp h => next_end hh I a g hx fp h
  obj := fun a => itB_obj a
  keep := fun a h => itB_at a h
  same := fun e g => sqB_same e g
/-- the state of the loop: j items gone through, S holds the best and its key -/
structure MinSt (X : Cx) (P : List (Addr × Obj)) (pins : List (Addr × Obj)) (σ : L2.St) (env : Env) (F1 H1 : Hp) (At : Nat → Heap → Prop) (G : Hp → Prop) (it : Addr) (xs : List V) (ds : List D) (S : Addr) (j : Nat) (st : List V) (F H : Hp) (s : Shared) : Prop where
  pin : ∀ p ∈ P, p ∈ pins
  inv : Inv X pins σ H s
  fit : Fit (zOf X) F env σ
  g : Grow (zOf X) F1 H1 F H
  src : ItSrc X it xs At G
  it_ : At j s.heap
  fp : FpOk X pins H it
  sq : G F
  isl : IsL (zOf X) F xs ds
  nS : F S = none
  n1 : H1 S = none
  at_ : H S = some (.lst st)
theorem MinSt.write {P pins : List (Addr × Obj)} {env : Env} {At : Nat → Heap → Prop} {G : Hp → Prop} {it S : Addr} {xs : List V} {ds : List D} {j : Nat} {st st' : List V} {s : Shared} (M : MinSt X P pins σ env F1 H1 At G it xs ds S j st F H s) {s' : Shared} (I' : Inv X pins σ (upd H S (.lst st')) s') (hit : At j s'.heap) :
    MinSt X P pins σ env F1 H1 At G it xs ds S j st' F (upd H S (.lst st')) s' := by
  have nIS : it ≠ S := fun z => by
    have := M.fp.1
    rw [z, M.at_] at this
    cases this
  have ok := M.g.ok.write (o' := .lst st') M.nS M.at_ lst_nt (fun q => lst_nc q)
  refine ⟨M.pin, I', M.fit, ⟨M.g.f, ok, fun c o e nt => ?_, fun c hc => ?_, M.g.o⟩, M.src, hit, ⟨by rw [upd_ne nIS]; exact M.fp.1, M.fp.2⟩, M.sq, M.isl, M.nS, M.n1, upd_same⟩
  · rw [upd_ne (ne_of_none e M.n1)]
    exact M.g.h c o e nt
  · by_cases z : c = S
    · rw [z, upd_same]; exact fun q => nomatch q
    · rw [upd_ne z]; exact M.g.u c hc
theorem MinSt.grow {P pins : List (Addr × Obj)} {env : Env} {At : Nat → Heap → Prop} {G : Hp → Prop} {it S : Addr} {xs : List V} {ds : List D} {j j' : Nat} {st : List V} {s s' : Shared} (M : MinSt X P pins σ env F1 H1 At G it xs ds S j st F H s) (g : Grow (zOf X) F H F' H') (I' : Inv X pins σ H' s') (hit : At j' s'.heap) (hn : H' it = none) :
    MinSt X P pins σ env F1 H1 At G it xs ds S j' st F' H' s' :=
  ⟨M.pin, I', M.fit.mono g.f, M.g.trans g, M.src, hit, ⟨hn, M.fp.2⟩, M.src.same g.f M.sq, M.isl.mono g.f, (g.o S (ne_some M.at_)).trans M.nS, M.n1, ExtN.keepS g.h M.at_⟩
section
variable {P pins : List (Addr × Obj)} {env : Env} {At : Nat → Heap → Prop} {G : Hp → Prop} {it S : Addr} {xs : List V} {ds : List D} {f : Addr} {m : D → Option D} {A1 : Around} {k : Nat} {R : Result → Shared → Prop} {kw : List (Str × Value)}
/-- one item and its key -/
theorem min_turn {j : Nat} {st : List V} {s : Shared} {Q : Value → Value → Shared → Prop} {d kd : D} (hP : ∀ p ∈ P, p ∈ pins) (M : MinSt X P pins σ env F1 H1 At G it xs ds S j st F H s) (hd : ds[j]? = some d) (hk : m d = some kd)
    (KF : KFun X F1 H1 (.ref f) P A1 σ env m)
    (h : ∀ u ku y z F' H' s', RelV y u → RelV z ku → Is (zOf X) F' y d → Is (zOf X) F' z kd → MinSt X P pins σ env F1 H1 At G it xs ds S (j + 1) st F' H' s' → Same F F' → Q u ku s') :
    wpAny (model X.prog X.w) A1 (pyNext (.ref it)) (fun r s1 => ∃ u, r = some u ∧ wpAny (model X.prog X.w) A1 (call (.ref f) [u]) (fun ku s2 => Q u ku s2) (fun _ _ => False) s1) (fun _ _ => False) s := by
  obtain ⟨y, hy, iy⟩ := M.isl.get hd
  refine M.src.item M.inv M.it_ (M.src.same M.g.ok.s M.sq) hy M.fp fun u s1 ru I1 st1 => ⟨u, rfl, ?_⟩
  -- the iterator stands still while the function runs
  obtain ⟨o, ho, hnc⟩ := M.src.obj st1
  have I2 : Inv X (pins ++ [(it, o)]) σ H s1 := I1.pins_of fun p hp => (List.mem_append.mp hp).elim (fun z => I1.pin p (List.mem_append_right _ z)) fun z => by
    rw [List.mem_singleton.mp z]
    exact ⟨ho, M.fp.1, M.fp.2.1, M.fp.2.2.1, hnc⟩
  refine thn (KF.run (pins := pins ++ [(it, o)]) (fun p hp => List.mem_append_left _ (hP p hp)) I2 M.fit M.g ru iy hk (Q := fun z H' => ∃ F', Grow (zOf X) F H F' H' ∧ Is (zOf X) F' z kd) fun z H' F' g r => ⟨F', g, r⟩) fun ku s2 ⟨z, H', I3, rz, F', g, iz⟩ => ?_
  have pi := I3.pin (it, o) (List.mem_append_right _ (List.mem_append_right _ (List.mem_singleton.mpr rfl)))
  have st2 : At (j + 1) s2.heap := M.src.keep st1 fun o' e => by
    rw [ho] at e
    cases e
    exact pi.1
  exact h u ku y z F' H' s2 ru rz (iy.mono g.f) iz (M.grow g I3.unpinned st2 pi.2.1) g.f
theorem min_loopK (hh : A1.in1.handled = none) (hr : Room k A1.in1) (KF : KFun X F1 H1 (.ref f) P A1.in1 σ env m) {out : D} (hR : ∀ v u F' H' s', RelV v u → Is (zOf X) F' v out → Grow (zOf X) F1 H1 F' H' → Inv X pins σ H' s' → R (.ok (.ret u)) s') :
    ∀ (rest : List D) (j : Nat) (F H : Hp) (s : Shared) (y z : V) (dy dz : D), ds.drop j = rest → MinSt X P pins σ env F1 H1 At G it xs ds S j [y, z] F H s → Is (zOf X) F y dy → Is (zOf X) F z dz → goK m dy dz rest = some out →
    codeAny (model X.prog X.w) A1 (.builtin "min.loop" ⟨[.ref it, .ref f, .ref S], kw⟩) R s := by
  have hname : (toString "min" ++ toString ".loop" : String) = "min.loop" := by decide
  intro rest
  induction rest with
  | nil =>
    intro j F H s y z dy dz hdr M iy iz e
    cases e
    have hle : xs.length ≤ j := by
      have := congrArg List.length hdr
      rw [List.length_drop] at this
      rw [M.isl.length]
      simp at this
      omega
    obtain ⟨zz, its, n, rv, hl, hS⟩ := M.inv.lstM M.at_
    obtain ⟨u1, u2, rfl, r1, r2⟩ := rv.two
    refine codeAny_builtin PySem.F.entry_min_loop ?_
    rw [Around.under_plainId PySem.F.plain_min_loop _]
    show wpAny _ A1.in1 (seqItems? (.ref S) >>= _) _ _ s
    refine wpAny_bind (wpAny_seqItems hS rfl ?_)
    show wpAny _ A1.in1 (tryCatch (pyNext (.ref it)) _ >>= _) _ _ s
    refine wpAny_bind (wpAny_tryCatch (M.src.done hh M.inv M.it_ (M.src.same M.g.ok.s M.sq) hle M.fp fun s' I' => ?_))
    obtain ⟨zz', its', n', rv', hl', hS'⟩ := I'.lstM M.at_
    obtain ⟨u1', u2', rfl, r1', r2'⟩ := rv'.two
    show wpAny _ A1.in1 (updateSeq S (fun _ => #[]) >>= _) _ _ _
    refine wpAny_bind ?_
    refine wpAny_updateSeq hS' rfl (wpAny_bind (wpAny_letGo (wpAny_pure ?_)))
    have I2 := I'.lset (f := fun _ => #[]) (its' := []) (ys := []) (t' := s'.toks) M.at_ hS' rfl .nil (Nat.zero_le _)
    have ok := M.g.ok.write (o' := .lst []) M.nS M.at_ lst_nt (fun q => lst_nc q)
    refine hR y u1 F _ _ r1 iy ⟨M.g.f, ok, fun c o e nt => ?_, fun c hc => ?_, M.g.o⟩ I2
    · rw [upd_ne (ne_of_none e M.n1)]
      exact M.g.h c o e nt
    · by_cases z : c = S
      · rw [z, upd_same]; exact fun q => nomatch q
      · rw [upd_ne z]; exact M.g.u c hc
  | cons d rest ih =>
    intro j F H s y z dy dz hdr M iy iz e
    obtain ⟨kd, e1, e2⟩ := Option.bind_eq_some_iff.mp (show (m d).bind _ = some out from e)
    obtain ⟨bb, e3, e4⟩ := Option.bind_eq_some_iff.mp e2
    have hd : ds[j]? = some d := by
      have := congrArg (fun l => l[0]?) hdr
      simpa using this
    have hdr' : ds.drop (j + 1) = rest := by
      rw [← List.drop_drop, hdr] <;> simp
    obtain ⟨zz, its, n, rv, hl, hS⟩ := M.inv.lstM M.at_
    obtain ⟨u1, u2, rfl, r1, r2⟩ := rv.two
    refine codeAny_builtin PySem.F.entry_min_loop ?_
    rw [Around.under_plainId PySem.F.plain_min_loop _]
    show wpAny _ A1.in1 (seqItems? (.ref S) >>= _) _ _ s
    refine wpAny_bind (wpAny_seqItems hS rfl ?_)
    show wpAny _ A1.in1 (tryCatch (pyNext (.ref it)) _ >>= _) _ _ s
    refine wpAny_bind (wpAny_tryCatch (wpAny_mono (min_turn (A1 := A1.in1) M.pin M hd e1 KF (Q := fun u ku s' => ∃ yy zz F' H', RelV yy u ∧ RelV zz ku ∧ Is (zOf X) F' yy d ∧ Is (zOf X) F' zz kd ∧ MinSt X P pins σ env F1 H1 At G it xs ds S (j + 1) [y, z] F' H' s' ∧ Same F F')
      fun u ku yy zz F' H' s' a1 a2 a3 a4 a5 a6 => ⟨yy, zz, F', H', a1, a2, a3, a4, a5, a6⟩) (fun r s1 hr1 => ?_) fun _ _ z => False.elim z))
    obtain ⟨u, rfl, hcall⟩ := hr1
    show wpAny _ A1.in1 (tryCatch (holding [u] (call (.ref f) [u])) _ >>= _) _ _ _
    refine wpAny_bind (wpAny_tryCatch (wpAny_holding (wpAny_mono hcall (fun ku s2 hq => ?_) fun _ _ z => False.elim z)))
    obtain ⟨yy, zz, F', H', a1, a2, a3, a4, M2, sm⟩ := hq
    show wpAny _ A1.in1 (tryCatch (holding [u, ku] (richCompare .Lt ku u2 >>= _)) _ >>= _) _ _ _
    refine wpAny_bind (wpAny_tryCatch (wpAny_holding (wpAny_bind (cmp_lt M2.inv M2.g.ok.s a4 (iz.mono sm) a2 r2 e3 hr ?_))))
    refine wpAny_bind (wpAny_holding (wpAny_truthy_bool ?_))
    refine wpAny_bind (wpAny_letGo (wpAny_pure ?_))
    obtain ⟨zz2, its2, n2, rv2, hl2, hS2⟩ := M2.inv.lstM M2.at_
    obtain ⟨u1', u2', rfl, r1', r2'⟩ := rv2.two
    cases bb with
    | true =>
      simp only [if_true]
      refine wpAny_bind ?_
      refine wpAny_updateSeq hS2 rfl (wpAny_bind (wpAny_letGo ?_))
      rw [hname]
      have I3 := M2.inv.lset (f := fun _ => #[u, ku]) (its' := [u, ku]) (ys := [yy, zz]) (t' := s2.toks) M2.at_ hS2 rfl (.cons a1 (.cons a2 .nil)) (by show 2 ≤ sizeLine; rw [sizeLine_eq]; decide)
      have nIS : it ≠ S := fun z => by
        have := M2.fp.1
        rw [z, M2.at_] at this
        cases this
      refine wpAny_pure ⟨plainId_quiet PySem.F.plain_min_loop _, ih (j + 1) F' _ _ yy zz d kd hdr' (M2.write I3 (M2.src.keep M2.it_ fun o e => (Heap.get?_update_other _ _ (Ne.symm nIS)).trans e)) a3 a4 (by simpa using e4)⟩
    | false =>
      simp only [Bool.false_eq_true, if_false]
      refine wpAny_bind (wpAny_letGo ?_)
      rw [hname]
      exact wpAny_pure ⟨plainId_quiet PySem.F.plain_min_loop _, ih (j + 1) F' H' s2 y z dy dz hdr' M2 (iy.mono sm) (iz.mono sm) (by simpa using e4)⟩
theorem min_firstK (hh : A1.in1.handled = none) (hr : Room k A1.in1) (KF : KFun X F1 H1 (.ref f) P A1.in1 σ env m) {out : D} (hR : ∀ v u F' H' s', RelV v u → Is (zOf X) F' v out → Grow (zOf X) F1 H1 F' H' → Inv X pins σ H' s' → R (.ok (.ret u)) s') {s : Shared} (M : MinSt X P pins σ env F1 H1 At G it xs ds S 0 [] F H s) (e : minKD m ds = some out) :
    codeAny (model X.prog X.w) A1 (.builtin "min.loop" ⟨[.ref it, .ref f, .ref S], kw⟩) R s := by
  have hname : (toString "min" ++ toString ".loop" : String) = "min.loop" := by decide
  cases hds : ds with
  | nil => rw [hds] at e; cases e
  | cons d rest =>
    rw [hds] at e
    obtain ⟨kd, e1, e2⟩ := Option.bind_eq_some_iff.mp (show (m d).bind _ = some out from e)
    obtain ⟨zz, its, n, rv, hl, hS⟩ := M.inv.lstM M.at_
    cases rv
    refine codeAny_builtin PySem.F.entry_min_loop ?_
    rw [Around.under_plainId PySem.F.plain_min_loop _]
    show wpAny _ A1.in1 (seqItems? (.ref S) >>= _) _ _ s
    refine wpAny_bind (wpAny_seqItems hS rfl ?_)
    show wpAny _ A1.in1 (tryCatch (pyNext (.ref it)) _ >>= _) _ _ s
    refine wpAny_bind (wpAny_tryCatch (wpAny_mono (min_turn (A1 := A1.in1) (d := d) M.pin M (by rw [hds]; rfl) e1 KF (Q := fun u ku s' => ∃ yy zz F' H', RelV yy u ∧ RelV zz ku ∧ Is (zOf X) F' yy d ∧ Is (zOf X) F' zz kd ∧ MinSt X P pins σ env F1 H1 At G it xs ds S (0 + 1) [] F' H' s' ∧ Same F F')
      fun u ku yy zz F' H' s' a1 a2 a3 a4 a5 a6 => ⟨yy, zz, F', H', a1, a2, a3, a4, a5, a6⟩) (fun r s1 hr1 => ?_) fun _ _ z => False.elim z))
    obtain ⟨u, rfl, hcall⟩ := hr1
    show wpAny _ A1.in1 (tryCatch (holding [u] (call (.ref f) [u])) _ >>= _) _ _ _
    refine wpAny_bind (wpAny_tryCatch (wpAny_holding (wpAny_mono hcall (fun ku s2 hq => ?_) fun _ _ z => False.elim z)))
    obtain ⟨yy, zz, F', H', a1, a2, a3, a4, M2, sm⟩ := hq
    obtain ⟨zz2, its2, n2, rv2, hl2, hS2⟩ := M2.inv.lstM M2.at_
    cases rv2
    show wpAny _ A1.in1 (updateSeq S (fun _ => #[u, ku]) >>= _) _ _ _
    refine wpAny_bind ?_
    refine wpAny_updateSeq hS2 rfl ?_
    rw [hname]
    have I3 := M2.inv.lset (f := fun _ => #[u, ku]) (its' := [u, ku]) (ys := [yy, zz]) (t' := s2.toks) M2.at_ hS2 rfl (.cons a1 (.cons a2 .nil)) (by show 2 ≤ sizeLine; rw [sizeLine_eq]; decide)
    have nIS : it ≠ S := fun z => by
      have := M2.fp.1
      rw [z, M2.at_] at this
      cases this
    exact wpAny_pure ⟨plainId_quiet PySem.F.plain_min_loop _, min_loopK hh hr KF hR rest 1 F' _ _ yy zz d kd (by rw [hds]; rfl) (M2.write I3 (M2.src.keep M2.it_ fun o e => (Heap.get?_update_other _ _ (Ne.symm nIS)).trans e)) a3 a4 e2⟩
/-- min(xs, key=f) -/
theorem call_minK {s : Shared} {Q : Value → Shared → Prop} {E : Value → Shared → Prop} {d : D} {out : D} {v : V} {u : Value} (hP : ∀ p ∈ P, p ∈ pins) (hh : A1.handled = none) (hr : Room k A1.in1) (I : Inv X pins σ H1 s) (fit : Fit (zOf X) F1 env σ) (ok : Ok (zOf X) F1 H1) (ru : RelV v u) (hv : Is (zOf X) F1 v d) (hd : sqD d = some ds)
    (KF : KFun X F1 H1 (.ref f) P A1.in1 σ env m) (e : minKD m ds = some out) (hQ : ∀ v u F' H' s', RelV v u → Is (zOf X) F' v out → Grow (zOf X) F1 H1 F' H' → Inv X pins σ H' s' → Q u s') : wpAny (model X.prog X.w) A1 (call (.builtin "min") [u] [(Str.ofString "key", .ref f)]) Q E s := by
  have hname : (toString "min" ++ toString ".loop" : String) = "min.loop" := by decide
  obtain ⟨b, l, xs, rfl, q1, q2, il⟩ := hv.sqB hd ok.s
  obtain rfl : u = Value.ref l := ru
  obtain ⟨its, rv, p⟩ := sqB_at I q2
  refine PyProof.Rows.kmk_tree PySem.F.kind_min PySem.F.plain_min PySem.F.entry_min (PyProof.Rows.kmk_min_key _ _) ?_
  show wpAny _ A1.in1 (Builtin.Builtins.bindParams "min" ["key", "default"] 0 ⟨[], [(Str.ofString "key", .ref f)]⟩ >>= _) _ _ s
  refine wpAny_bind (wpAny_of_eq (show Builtin.Builtins.bindParams "min" ["key", "default"] 0 ⟨[], [(Str.ofString "key", .ref f)]⟩ = pure [some (.ref f), none] from rfl) ?_)
  refine wpAny_bind (wpAny_pure ?_)
  refine wpAny_bind ((beginsB b l its.toArray).iter _ _ _ _ _ _ p ?_)
  have I1 : Inv X pins σ H1 { s with heap := s.heap.push (objB b l) } := I.kept (t' := s.toks) fun c o e => Heap.get?_push_of_some _ e
  refine wpAny_bind (wpAny_newObj_type ?_)
  rw [hname]
  have hz : (s.heap.push (objB b l)).objs.size = s.heap.objs.size + 1 := Heap.size_push ..
  have I2 := I1.lnew (its := []) (ys := []) (t' := s.toks) .nil (Nat.zero_le _)
  have nS : H1 (s.heap.push (objB b l)).objs.size = none := I1.hok.fresh (Nat.le_refl _)
  have nI : H1 s.heap.objs.size = none := I.hok.fresh (Nat.le_refl _)
  have fp0 : FpOk X pins H1 s.heap.objs.size := I.fpOk (Nat.le_refl _) nI
  have hit : (s.heap.push (objB b l)).get? s.heap.objs.size = some (objB b l) := Heap.get?_push_size _ (beginsB b l its.toArray).free
  refine wpAny_pure ⟨plainId_quiet PySem.F.plain_min_loop _, min_firstK (F := F1) (H := upd H1 (s.heap.push (objB b l)).objs.size (.lst [])) (At := fun i h => ItB b h s.heap.objs.size l i) (G := fun H => SqB X.K b H l xs) (xs := xs) (ds := ds) hh hr KF hQ ⟨hP, I2, fit, Grow.made ok nS, src_seq, itB0 (Heap.get?_push_of_some _ hit), ⟨?_, fp0.2⟩, q1, il, ok.none_of nS, nS, upd_same⟩ e⟩
  rw [upd_ne (by rw [hz]; exact Nat.ne_of_lt (Nat.lt_succ_self _))]
  exact nI
end
/-! ### the lambda itself -/
section
variable {p : Str} {params : Arguments} {body : Expr} {scope : Scope} {c P : Addr} {k i : Nat} {tb : TE} {mb : Env → Option D}
/-- what is asked of a lambda's text: its parameter p in the slot i -/
structure LamT (X : Cx) (params : Arguments) (scope : Scope) (p : Str) (i : Nat) (c P : Addr) : Prop where
  lam : Lam1 X.env.scope scope p
  slot : X.N[i]? = some p
  nd : X.N.Nodup
  tab : LamX.TabB X.base X.mg c P
  code : X.env.code = .ref c
  mem : (P, X.env.qual ++ "<lambda>") ∈ (Tb.T : List (Addr × Str))
  one : ∀ q ∈ (Tb.T : List (Addr × Str)), q.1 = P → q.2 = X.env.qual ++ "<lambda>"
  dflt : defaultsOf params X.env = ([], [])
  bind : ∀ (body : Expr) (cl : List (Str × Addr)) (pm cd ctv u : Value), bindArgs (PySem.W.kla_fn "<lambda>" (X.env.qual ++ "<lambda>") params body scope cl pm cd ctv) ⟨[u], []⟩ = pure [(p, u)]
theorem kfun_lam {f c' : Addr} {pm ctv : Value} {env : Env} {A1 : Around} (L : LamT X params scope p i c P) (hr : Room (k + 1) A1) (hA : A1 = X.A.in1) (hc : H1 c' = some (LamX.CodeO c' (X.env.qual ++ "<lambda>")))
    (hbody : ∀ (A : Around) (outer : List PySem.Env) (s : Shared) (H : Hp), Room k (A.deeper (LamX.lamEnv X scope s.heap.objs.size f c')) → EX (LamX.lamCx X A outer s H E0 scope f c') body tb mb) :
    KFun X F1 H1 (.ref f) [(f, lamO X params body scope pm c' ctv)] A1 σ env (fun d => mb (env.set i (some d))) := by
  subst hA
  refine ⟨fun {pins s H F Q x u d kd} hP I fit g rx ix e k => ?_⟩
  have hf := (I.pin _ (List.mem_append_right _ (hP _ List.mem_cons_self))).1
  have hc' : H c' = some (LamX.CodeO c' (X.env.qual ++ "<lambda>")) := g.h _ _ hc (LamX.codeO_ne)
  refine lam1_call (A1 := X.A.in1) (k := _) (i := i) (p := p) I L.lam hf hc' (L.bind _ _ _ _ _ _) hr I.env0.in1 (fun A outer s H hr => (hbody A outer s H hr).pe) L.nd L.slot rx ?_
  exact (hbody X.A.in1 X.stack s H (hr.deeper _)).ev _ _ H F Q kd (fit.set ix) g.ok e k
end
end EX
set_option Elab.async false
set_option linter.all false
set_option autoImplicit false
set_option maxRecDepth 100000
set_option maxHeartbeats 4000000
/-! E14: a lambda is made; min(e, key=lambda p: e2). -/
namespace EX
open PySem L2
variable [Tb] {Z : Zc} {F F' F1 F2 H H' H1 H2 F0 H0 : Hp} {X : Cx} {ta tb tc te to : TE} {ma mb mc me mo : Env → Option D} {t : TA} {ms : Env → Option (List D)} {pos : Pos} {e a b o : Expr} {es : List Expr}
  {qa qb qc : TT} {na nb nc : Env → Option Bool} {tg iter : Expr} {se : SEnv} {σ : L2.St}
section
variable {pins : List (Addr × Obj)} {s : Shared}
/-- the function object of a lambda, made: what is known behind -/
structure Made1 (X : Cx) (pins : List (Addr × Obj)) (σ : L2.St) (F H : Hp) (params : Arguments) (body : Expr) (scope : Scope) (f c' : Addr) (pm ctv : Value) (H1 : Hp) (s' : Shared) : Prop where
  inv : Inv X pins σ H1 s'
  g : Grow (zOf X) F H F H1
  obj : s'.heap.get? f = some (lamO X params body scope pm c' ctv)
  fn : H1 f = none
  fr : f ∉ frs X.stack
  code : H1 c' = some (LamX.CodeO c' (X.env.qual ++ "<lambda>"))
theorem Made1.pin {params : Arguments} {body : Expr} {scope : Scope} {f c' : Addr} {pm ctv : Value} (M : Made1 X pins σ F H params body scope f c' pm ctv H1 s) : Inv X ((f, lamO X params body scope pm c' ctv) :: pins) σ H1 s := M.inv.pins_of fun p hp => by
  rcases List.mem_cons.mp hp with z | z
  · rw [z]
    refine ⟨M.obj, M.fn, fun w => ?_, fun w => ?_, fun v w => by cases w⟩
    · have w' : f = X.env.locals := w
      obtain ⟨m, ⟨o, es, ep, ho, hd, _⟩, _⟩ := M.inv.loc
      rw [← w', M.obj] at ho
      cases ho
      cases hd
    · obtain ⟨e, he, q⟩ := List.mem_filterMap.mp w
      refine M.fr (List.mem_filterMap.mpr ⟨e, ?_, q⟩)
      rcases M.inv.ok.stk with k | ⟨k, _⟩
      · rw [k]; exact he
      · rw [k]; exact List.mem_cons_of_mem _ he
  · exact M.inv.pin p (List.mem_append_right _ z)
theorem lam_made {p : Str} {params : Arguments} {body : Expr} {scope : Scope} {c P : Addr} {i : Nat} {lpos : Pos} {Q : Value → Shared → Prop} {E : Value → Shared → Prop} (I : Inv X pins σ H s) (L : LamT X params scope p i c P) (ok : Ok (zOf X) F H)
    (h : ∀ f c' pm ctv H1 s', Made1 X pins σ F H params body scope f c' pm ctv H1 s' → Q (.ref f) s') : wpAny (model X.prog X.w) X.A (eval (.Lambda params body scope lpos) X.env) Q E s := by
  have hfree := L.lam.has I.ok
  obtain ⟨ps, hP, ht, ha⟩ := ok.t _ L.mem
  have bP : s.heap.BuiltinsAt X.mg P := L.tab.bm.keeps I.bk
  have hP' : s.heap.get? P = some { cls := .none, data := .fields ps } := I.hok P _ hP
  have young : ∀ f, s.heap.objs.size ≤ f → f ∉ frs X.stack := fun f hf z => (List.mem_cons.mp (I.stkSub _ z)).elim (fun q => absurd (Nat.lt_of_lt_of_le I.lt (q ▸ hf)) (Nat.lt_irrefl _)) fun q => I.nofs hf q
  refine PySem.W.kla_eval L.dflt ?_
  cases hc : codeAmong lpos ps.toList with
  | some cv =>
    obtain ⟨c', rfl, hco⟩ := ha lpos cv hc
    exact PySem.W.kla_makeFunctionHit (mg := X.mg) (c := c) (P := P) (ps := ps) (closure_ok hfree) I.ok.glob (I.mod.glob.keeps I.bk) L.code (L.tab.code.keeps I.bk) hP' ht hc bP fun ctv h' tk hx hsz =>
      h h'.objs.size c' ((X.mg "__name__").getD .none) ctv H _ ⟨I.kept fun b o q => Heap.get?_push_of_some _ (hx b o q), Grow.refl ok, Heap.get?_push_size _ rfl, I.hok.fresh hsz, young _ hsz, hco⟩
  | none =>
    refine PySem.W.kla_makeFunction (mg := X.mg) (c := c) (P := P) (ps := ps) (closure_ok hfree) I.ok.glob (I.mod.glob.keeps I.bk) L.code (L.tab.code.keeps I.bk) hP' ht hc L.tab.gP bP fun c' ctv h' tk hx hge hlt hrec htb => ?_
    obtain ⟨c2, oc, vs, t, e2, hoc, hd, hv⟩ := hrec
    cases e2
    have hsz : s.heap.objs.size ≤ h'.objs.size := Nat.le_trans hge (Nat.le_of_lt hlt)
    have nC : H c' = none := I.hok.fresh hge
    have nPc : P ≠ c' := ne_of_none hP nC
    have I1 := LamX.inv_table (t' := tk) (more := #[rawInt lpos.line, rawInt lpos.col, .ref c']) (h' := h'.push (lamO X params body scope ((X.mg "__name__").getD .none) c' ctv)) I hP
      (fun b o hb q => Heap.get?_push_of_some _ (hx b o hb q)) (Heap.get?_push_of_some _ htb) hge ⟨oc, vs, t, Heap.get?_push_of_some _ hoc, hd, hv⟩
    have other : ∀ b, b ≠ P → b ≠ c' → upd (upd H P (.tbl (ps ++ #[rawInt lpos.line, rawInt lpos.col, .ref c']))) c' (LamX.CodeO c' (X.env.qual ++ "<lambda>")) b = H b := fun b h1 h2 => by rw [upd_ne h2, upd_ne h1]
    have notP : ∀ b o, H b = some o → (∀ qs, o ≠ .tbl qs) → b ≠ P := fun b o q n z => n ps (Option.some.inj (q.symm.trans (z ▸ hP)))
    have hE : LamX.ExtN H (upd (upd H P (.tbl (ps ++ #[rawInt lpos.line, rawInt lpos.col, .ref c']))) c' (LamX.CodeO c' (X.env.qual ++ "<lambda>"))) := fun b o q n => (other b (notP b o q n) (ne_of_none q nC)).trans q
    have eL : (ps ++ #[rawInt lpos.line, rawInt lpos.col, .ref c']).toList = ps.toList ++ [rawInt lpos.line, rawInt lpos.col, .ref c'] := by simp
    have n1 : h'.objs.size ≠ c' := Nat.ne_of_gt hlt
    have n2 : h'.objs.size ≠ P := Nat.ne_of_gt (Nat.lt_of_lt_of_le (Heap.lt_size hP') hsz)
    refine h h'.objs.size c' ((X.mg "__name__").getD .none) ctv _ _ ⟨I1, ⟨Same.refl F, ⟨fun b o q => hE b o (ok.s b o q) fun qs z => ok.n b qs (z ▸ q), ok.n, fun r hr => ?_⟩, hE, fun b hb => ?_, fun _ _ => rfl⟩, Heap.get?_push_size _ rfl, ?_, young _ hsz, upd_same⟩
    · by_cases hb : r.1 = P
      · rw [L.one r hr hb, hb]
        refine ⟨_, by rw [upd_ne nPc, upd_same], by rw [eL]; exact PySem.TriplesOk_snoc _ _ _ _ ht, fun p' cv hcv => ?_⟩
        rw [eL] at hcv
        rcases LamX.among_app _ ht hcv with z | z
        · obtain ⟨c0, e1, e2⟩ := ha p' cv z
          exact ⟨c0, e1, hE _ _ e2 LamX.codeO_ne⟩
        · exact ⟨c', z, upd_same⟩
      · obtain ⟨ps', a1, a2, a3⟩ := ok.t r hr
        refine ⟨ps', (other r.1 hb (ne_of_none a1 nC)).trans a1, a2, fun p' cv hcv => ?_⟩
        obtain ⟨c0, e1, e2⟩ := a3 p' cv hcv
        exact ⟨c0, e1, hE _ _ e2 LamX.codeO_ne⟩
    · by_cases h1 : b = c'
      · rw [h1, upd_same]; exact fun z => nomatch z
      · by_cases h2 : b = P
        · rw [h2, upd_ne nPc, upd_same]; exact fun z => nomatch z
        · rw [other b h2 h1]; exact hb
    · rw [upd_ne n1, upd_ne n2]
      exact I.hok.fresh hsz
end
/-! ### min(e, key=lambda p: body) -/
section
variable {p : Str} {params : Arguments} {body : Expr} {scope : Scope} {c P : Addr} {k j i : Nat} {np lpos kpos : Pos}
def tMinK (Z : Zc) (te : TE) (mb : Env → Option D) (i : Nat) : TE := fun σ H Q => tCons te tNil σ H fun vs H1 => ∃ x, vs = [x] ∧ ∃ F env d ds out, Fit Z F env σ ∧ Ok Z F H1 ∧ Is Z F x d ∧ sqD d = some ds ∧ minKD (fun d => mb (env.set i (some d))) ds = some out ∧ ∀ v H' F', Grow Z F H1 F' H' → Is Z F' v out → Q v H'
theorem pe_minK (he : PE X e te) (L : LamT X params scope p i c P) (hr : Room j X.A) (hg : Gl X "min") (hm : X.mg "min" = none)
    (hbody : ∀ (A : Around) (outer : List PySem.Env) (s : Shared) (H : Hp) (f c' : Addr), Room k (A.deeper (LamX.lamEnv X scope s.heap.objs.size f c')) → EX (LamX.lamCx X A outer s H E0 scope f c') body tb mb) (hkj : k + 2 ≤ j)
    (h1 : backTo pos (starEach [e] X.env) = (false, eval e X.env) :: backTo pos (starEach [] X.env) := by rfl) (h1' : starEach [e] X.env = (false, eval e X.env) :: starEach [] X.env := by rfl) (hpl : (backTo pos (starEach [e] X.env)).any (·.1) = false := by rfl)
    (hall : (backToKw pos (keywordEach [⟨some "key", .Lambda params body scope lpos, kpos⟩] X.env)).all (·.1.isSome) = true := by rfl) (hnone : (backToKw pos (keywordEach [⟨some "key", .Lambda params body scope lpos, kpos⟩] X.env)).any (·.1.isNone) = false := by rfl)
    (hks : (backToKw pos (keywordEach [⟨some "key", .Lambda params body scope lpos, kpos⟩] X.env)).filterMap (·.1) = [("key" : Str)] := by rfl) :
    PE X (.Call (.Name "min" np) [e] [⟨some "key", .Lambda params body scope lpos, kpos⟩] pos) (tMinK (zOf X) te mb i) := by
  have hr2 : Room (k + 2) X.A := hr.mono hkj
  have hr1 : Room (k + 1) X.A.in1 := hr2.in1
  refine ⟨fun pins s σ H Q I h => ?_⟩
  refine wpAny_Call_Name_kw (ld_blt (u := .builtin "min") I hg hm (by decide +kernel) ?_ (by decide) (by decide))
  refine PyProof.Rows.callWith_kw (thn ((pa_cons he pa_nil h1').run pos pins s σ H (fun vs H1 => ∃ x, vs = [x] ∧ ∃ F env d ds out, Fit (zOf X) F env σ ∧ Ok (zOf X) F H1 ∧ Is (zOf X) F x d ∧ sqD d = some ds ∧ minKD (fun d => mb (env.set i (some d))) ds = some out ∧ ∀ v H' F', Grow (zOf X) F H1 F' H' → Is (zOf X) F' v out → Q v H') I h)
    fun us s1 ⟨vs, H1, I1, r1, x, ev, F, env, d, ds, out, fit, ok, ix, hd, hk, q⟩ => ?_) h1 hpl hall hnone
  · subst ev
    obtain ⟨u, rfl, ru⟩ := vals1 r1
    show wpAny _ _ (evalAll [do let v ← eval (.Lambda params body scope lpos) X.env; standAt pos; pure v]) _ _ s1
    refine wpAny_evalAll_cons (wpAny_bind (lam_made I1 L ok fun f c' pm ctv H2 s2 M => wpAny_bind (wpAny_standAt (wpAny_pure (wpAny_evalAll_nil ?_)))))
    rw [hks]
    show wpAny _ X.A (call (.builtin "min") [u] [(Str.ofString "key", .ref f)]) _ _ s2
    have KF := kfun_lam (F1 := F) (H1 := H2) (f := f) (c' := c') (pm := pm) (ctv := ctv) (env := env) (σ := σ) (A1 := X.A.in1) L hr1 rfl M.code (fun A outer s H hr => hbody A outer s H f c' hr)
    exact call_minK (P := [(f, lamO X params body scope pm c' ctv)]) (pins := (f, lamO X params body scope pm c' ctv) :: pins) (fun p hp => by rw [List.mem_singleton.mp hp]; exact List.mem_cons_self) hr1.hd hr1 M.pin fit M.g.ok ru ix hd KF hk
      fun v u F' H' s' rv iv g I' => ⟨v, H', I'.pins_of (fun p hp => I'.pin p (List.mem_append_right _ (List.mem_cons_of_mem _ hp))), rv, q v H' F' (M.g.trans g) iv⟩
def mMinK (me : Env → Option D) (mb : Env → Option D) (i : Nat) : Env → Option D := fun env => (me env).bind fun d => (sqD d).bind fun ds => minKD (fun d => mb (env.set i (some d))) ds
theorem x_minK (h : EX X e te me) (L : LamT X params scope p i c P) (hr : Room j X.A) (hm : X.mg "min" = none)
    (hbody : ∀ (A : Around) (outer : List PySem.Env) (s : Shared) (H : Hp) (f c' : Addr), Room k (A.deeper (LamX.lamEnv X scope s.heap.objs.size f c')) → EX (LamX.lamCx X A outer s H E0 scope f c') body tb mb) (hkj : k + 2 ≤ j := by decide) (hg : Gl X "min" := by rfl)
    (h1 : backTo pos (starEach [e] X.env) = (false, eval e X.env) :: backTo pos (starEach [] X.env) := by rfl) (h1' : starEach [e] X.env = (false, eval e X.env) :: starEach [] X.env := by rfl) (hpl : (backTo pos (starEach [e] X.env)).any (·.1) = false := by rfl)
    (hall : (backToKw pos (keywordEach [⟨some "key", .Lambda params body scope lpos, kpos⟩] X.env)).all (·.1.isSome) = true := by rfl) (hnone : (backToKw pos (keywordEach [⟨some "key", .Lambda params body scope lpos, kpos⟩] X.env)).any (·.1.isNone) = false := by rfl)
    (hks : (backToKw pos (keywordEach [⟨some "key", .Lambda params body scope lpos, kpos⟩] X.env)).filterMap (·.1) = [("key" : Str)] := by rfl) :
    EX X (.Call (.Name "min" np) [e] [⟨some "key", .Lambda params body scope lpos, kpos⟩] pos) (tMinK (zOf X) te mb i) (mMinK me mb i) := ⟨pe_minK h.pe L hr hg hm hbody hkj h1 h1' hpl hall hnone hks, fun env σ H F Q d f s e k => by
  obtain ⟨x, e1, e2⟩ := Option.bind_eq_some_iff.mp e
  obtain ⟨ds, e3, e4⟩ := Option.bind_eq_some_iff.mp e2
  refine h.ev env σ H F _ x f s e1 fun v H1 F1 g1 r1 => ?_
  exact ⟨v, rfl, F1, env, x, ds, d, f.mono g1.f, g1.ok, r1, e3, e4, fun w H2 F2 g2 r2 => k w H2 F2 (g1.trans g2) r2⟩⟩
end
end EX
set_option Elab.async false
set_option linter.all false
set_option autoImplicit false
set_option maxRecDepth 100000
set_option maxHeartbeats 4000000
/-! E15: dict(zip(a, b)) over lists and tuples, mixed. -/
namespace EX
open PySem L2
section
variable {prog : Program} {w : World} {A : Around} {E : Value → Shared → Prop} {s : Shared} {z TI TO T i1 i2 : Addr} {f : Bool} {oT : Obj} {fp1 fp2 : List Addr} {n1 n2 i : Nat} {P1 P2 : Nat → Value → Prop} {St1 St2 : Nat → Heap → Prop}
theorem zipM_item (S : ZipSep2 z TI TO i1 i2 fp1 fp2) (D1 : Draws prog w A i1 fp1 n1 P1 St1) (D2 : Draws prog w A i2 fp2 n2 P2 St2) {Q : Value → Shared → Prop} (hz : IsZipHeld s.heap z TI TO T f) (hT : s.heap.get? T = some oT) (hTI : IsTupOf2 s.heap TI (.ref i1) (.ref i2)) (st1 : St1 i s.heap) (st2 : St2 i s.heap) (l1 : i < n1) (l2 : i < n2)
    (hQ : ∀ x y h' tk, P1 i x → P2 i y → IsZipHeld h' z TI TO T true → St1 (i + 1) h' → St2 (i + 1) h' → IsTupOf2 h' s.heap.objs.size x y → (∀ c o, c ≠ z → c ≠ i1 → c ≠ i2 → s.heap.get? c = some o → h'.get? c = some o) → Q (.ref s.heap.objs.size) { s with heap := h', toks := tk }) :
    wpAny (model prog w) A (Builtin.«zip.__next__» ⟨[.ref z], []⟩) (fun fin s' => ∃ v, fin = .done (.ret v) ∧ Q v s') E s := by
  obtain ⟨hp, g, d, tk₀, os⟩ := s
  show wpAny _ _ (field (.ref z) 2 >>= _) _ _ _
  refine wpAny_bind (wpAny_field hz rfl (x := .bool false) rfl ?_)
  show wpAny _ _ (field (.ref z) 3 >>= _) _ _ _
  refine wpAny_bind (wpAny_field hz rfl (x := .ref TI) rfl ?_)
  refine wpAny_bind (wpAny_seqItems hTI rfl ?_)
  show wpAny _ _ (Builtin.SmallTypes.ownedTupleIsFree (.ref z) >>= _) _ _ _
  refine wpAny_bind (wpAny_tupleHeld_zip hz hT fun h₁ z₁ s₁ => ?_)
  replace s₁ : Heap.SameBut z hp h₁ := s₁
  simp only [Bool.false_eq_true, if_false]
  refine wpAny_bind ?_
  rw [← Array.forIn_toList]
  simp only [List.forIn_cons, List.forIn_nil]
  refine wpAny_bind (wpAny_bind (wpAny_holding ?_))
  show wpAny _ _ (Builtin.SmallTypes.nextOf (.ref i1) >>= _) _ _ _
  refine wpAny_bind (D1.item i ⟨h₁, g, d, tk₀, os⟩ _ _ l1 (D1.over st1 s₁ S.zf1) fun x h₂ tk1 p1 a2 s₂ => wpAny_pure ?_)
  replace s₂ : Heap.SameBut i1 h₁ h₂ := s₂
  refine wpAny_pure ?_
  refine wpAny_bind (wpAny_bind (wpAny_holding ?_))
  show wpAny _ _ (Builtin.SmallTypes.nextOf (.ref i2) >>= _) _ _ _
  refine wpAny_bind (D2.item i ⟨h₂, g, d, tk1, os⟩ _ _ l2 (D2.over (D2.over st2 s₁ S.zf2) s₂ S.sep1_2) fun y h₃ tk2 p2 b3 s₃ => wpAny_pure ?_)
  replace s₃ : Heap.SameBut i2 h₂ h₃ := s₃
  refine wpAny_pure (wpAny_pure ?_)
  show wpAny _ _ (newTuple [x, y] >>= _) _ _ _
  refine wpAny_bind (wpAny_newTuple ?_)
  have hsz : h₃.objs.size = hp.objs.size := by rw [s₃.1, s₂.1, s₁.1]
  have z₃ : IsZipHeld h₃ z TI TO T true := s₃.extBut _ _ S.zi2 (s₂.extBut _ _ S.zi1 z₁)
  have kp : ∀ c o, c ≠ z → c ≠ i1 → c ≠ i2 → hp.get? c = some o → h₃.get? c = some o := fun c o c1 c2 c3 e => s₃.extBut _ _ c3 (s₂.extBut _ _ c2 (s₁.extBut _ _ c1 e))
  have a3 : St1 (i + 1) h₃ := D1.over a2 s₃ S.sep2_1
  refine wpAny_pure ⟨_, rfl, ?_⟩
  show Q (.ref h₃.objs.size) _
  have pr : IsTupOf2 (h₃.push { cls := .type "tuple", data := .seq #[x, y] }) h₃.objs.size x y := Heap.get?_push_size _ rfl
  rw [hsz] at pr ⊢
  exact hQ x y _ tk2 p1 p2 (Heap.get?_push_of_some _ z₃) (D1.frame _ _ _ a3 fun b _ o e => Heap.get?_push_of_some _ e) (D2.frame _ _ _ b3 fun b _ o e => Heap.get?_push_of_some _ e) pr fun c o c1 c2 c3 e => Heap.get?_push_of_some _ (kp c o c1 c2 c3 e)
theorem zipM_end (S : ZipSep2 z TI TO i1 i2 fp1 fp2) (D1 : Draws prog w A i1 fp1 n1 P1 St1) (D2 : Draws prog w A i2 fp2 n2 P2 St2) {Q : Fin → Shared → Prop} (hz : IsZipHeld s.heap z TI TO T f) (hT : s.heap.get? T = some oT) (hTI : IsTupOf2 s.heap TI (.ref i1) (.ref i2)) (st1 : St1 i s.heap) (st2 : St2 i s.heap) (l1 : i ≤ n1) (l2 : i ≤ n2) (hend : i = n1 ∨ i = n2)
    (hE : ∀ h' tk e, (∀ c o, c ≠ z → c ≠ i1 → c ≠ i2 → s.heap.get? c = some o → h'.get? c = some o) → (∃ o, h'.get? e = some o ∧ o.cls = .type "StopIteration") → E (.ref e) { s with heap := h', toks := tk }) :
    wpAny (model prog w) A (Builtin.«zip.__next__» ⟨[.ref z], []⟩) Q E s := by
  obtain ⟨hp, g, d, tk₀, os⟩ := s
  show wpAny _ _ (field (.ref z) 2 >>= _) _ _ _
  refine wpAny_bind (wpAny_field hz rfl (x := .bool false) rfl ?_)
  show wpAny _ _ (field (.ref z) 3 >>= _) _ _ _
  refine wpAny_bind (wpAny_field hz rfl (x := .ref TI) rfl ?_)
  refine wpAny_bind (wpAny_seqItems hTI rfl ?_)
  show wpAny _ _ (Builtin.SmallTypes.ownedTupleIsFree (.ref z) >>= _) _ _ _
  refine wpAny_bind (wpAny_tupleHeld_zip hz hT fun h₁ z₁ s₁ => ?_)
  replace s₁ : Heap.SameBut z hp h₁ := s₁
  simp only [Bool.false_eq_true, if_false]
  refine wpAny_bind ?_
  rw [← Array.forIn_toList]
  simp only [List.forIn_cons, List.forIn_nil]
  refine wpAny_bind (wpAny_bind (wpAny_holding ?_))
  show wpAny _ _ (Builtin.SmallTypes.nextOf (.ref i1) >>= _) _ _ _
  by_cases h1 : i = n1
  · subst h1
    refine wpAny_bind (D1.done ⟨h₁, g, d, tk₀, os⟩ _ _ (D1.over st1 s₁ S.zf1) fun h₂ e s₂ he => ?_)
    exact hE h₂ tk₀ e (fun c o c1 c2 _ x => s₂ _ _ c2 (s₁.extBut _ _ c1 x)) he
  · have h2 : i = n2 := hend.resolve_left h1
    subst h2
    refine wpAny_bind (D1.item i ⟨h₁, g, d, tk₀, os⟩ _ _ (Nat.lt_of_le_of_ne l1 h1) (D1.over st1 s₁ S.zf1) fun x h₂ tk1 p1 a2 s₂ => wpAny_pure ?_)
    replace s₂ : Heap.SameBut i1 h₁ h₂ := s₂
    refine wpAny_pure ?_
    refine wpAny_bind (wpAny_bind (wpAny_holding ?_))
    show wpAny _ _ (Builtin.SmallTypes.nextOf (.ref i2) >>= _) _ _ _
    refine wpAny_bind (D2.done ⟨h₂, g, d, tk1, os⟩ _ _ (D2.over (D2.over st2 s₁ S.zf2) s₂ S.sep1_2) fun h₃ e s₃ he => ?_)
    exact hE h₃ tk1 e (fun c o c1 c2 c3 x => s₃ _ _ c3 (s₂.extBut _ _ c2 (s₁.extBut _ _ c1 x))) he
theorem zipM_next (S : ZipSep2 z TI TO i1 i2 fp1 fp2) (D1 : Draws prog w A.in1 i1 fp1 n1 P1 St1) (D2 : Draws prog w A.in1 i2 fp2 n2 P2 St2) {Q : Option Value → Shared → Prop} (hz : IsZipHeld s.heap z TI TO T f) (hT : s.heap.get? T = some oT) (hTI : IsTupOf2 s.heap TI (.ref i1) (.ref i2)) (st1 : St1 i s.heap) (st2 : St2 i s.heap) (l1 : i < n1) (l2 : i < n2)
    (hQ : ∀ x y h' tk, P1 i x → P2 i y → IsZipHeld h' z TI TO T true → St1 (i + 1) h' → St2 (i + 1) h' → IsTupOf2 h' s.heap.objs.size x y → (∀ c o, c ≠ z → c ≠ i1 → c ≠ i2 → s.heap.get? c = some o → h'.get? c = some o) → Q (some (.ref s.heap.objs.size)) { s with heap := h', toks := tk }) :
    wpAny (model prog w) A (pyNext (.ref z)) Q E s := by
  have ty : s.TypeIs (.ref z) "zip" := ⟨_, hz, rfl⟩
  unfold pyNext
  exact wpAny_bind (wpAny_attempt (wpAny_callSpecial?_slot (name := Str.ofString "__next__") ty F.slot_zip_next (wpAny_call_entry F.slot_zip_next ty F.entry_zip_next
    (zipM_item S D1 D2 hz hT hTI st1 st2 l1 l2 fun x y h' tk a b c d e g k => wpAny_pure (hQ x y h' tk a b c d e g k)) (F.args_zip_next_1 _))))
theorem zipM_stop (S : ZipSep2 z TI TO i1 i2 fp1 fp2) (D1 : Draws prog w A.in1 i1 fp1 n1 P1 St1) (D2 : Draws prog w A.in1 i2 fp2 n2 P2 St2) {Q : Option Value → Shared → Prop} (hz : IsZipHeld s.heap z TI TO T f) (hT : s.heap.get? T = some oT) (hTI : IsTupOf2 s.heap TI (.ref i1) (.ref i2)) (st1 : St1 i s.heap) (st2 : St2 i s.heap) (l1 : i ≤ n1) (l2 : i ≤ n2) (hend : i = n1 ∨ i = n2)
    (hQ : ∀ h' tk, (∀ c o, c ≠ z → c ≠ i1 → c ≠ i2 → s.heap.get? c = some o → h'.get? c = some o) → Q none { s with heap := h', toks := tk }) : wpAny (model prog w) A (pyNext (.ref z)) Q E s := by
  have ty : s.TypeIs (.ref z) "zip" := ⟨_, hz, rfl⟩
  unfold pyNext
  refine wpAny_bind (wpAny_attempt (wpAny_callSpecial?_slot (name := Str.ofString "__next__") ty F.slot_zip_next (wpAny_call_entry F.slot_zip_next ty F.entry_zip_next
    (zipM_end S D1 D2 hz hT hTI st1 st2 l1 l2 hend fun h' tk e hk he => ?_) (F.args_zip_next_1 _))))
  obtain ⟨o, ho, hc⟩ := he
  exact wpAny_bind (wpAny_isInstance (T := "StopIteration") (b := true) ⟨o, ho, hc⟩ isSubtype_stop (wpAny_pure (hQ _ _ hk)))
end
/-- zip(a, b) as dict()'s argument -/
theorem pairs_zip [Tb] {prog : Program} {w : World} (b1 b2 : Bool) (z TI TO i1 i2 l1 l2 : Addr) (S : ZipSep2 z TI TO i1 i2 [i1, l1] [i2, l2]) (q1 : l1 ≠ i1) (q2 : l2 ≠ i2) (q3 : TI ≠ l1) (q4 : TI ≠ l2) (xs ys : Array Value) :
    PairArg prog w "zip" z [z, TI, TO, i1, i2, l1, l2] [z, TO, i1, i2] (min xs.size ys.size) (fun i k v => xs[i]? = some k ∧ ys[i]? = some v)
      (fun h => IsZip h z TI TO .none ∧ IsTupOf2 h TI (.ref i1) (.ref i2) ∧ (∃ a b, IsTupOf2 h TO a b) ∧ (ItB b1 h i1 l1 0 ∧ SB b1 h l1 xs) ∧ (ItB b2 h i2 l2 0 ∧ SB b2 h l2 ys)) where
  type := fun s ok => ⟨_, ok.1, rfl⟩
  notDict := by decide
  keep := fun h h' ok hk => by
    obtain ⟨hz, hTI, ⟨a, b, hTO⟩, ⟨h1, h3⟩, ⟨h2, h4⟩⟩ := ok
    have sb : ∀ {b : Bool} {l : Addr} {its : Array Value}, SB b h l its → SB b h' l its := fun {b l its} q => by
      cases b
      · exact Heap.IsTuple.at q fun o e => hk _ o e
      · exact Heap.IsList.at q fun o e => hk _ o e
    exact ⟨hk _ _ hz, hk _ _ hTI, ⟨a, b, hk _ _ hTO⟩, ⟨itB_at h1 fun o e => hk _ o e, sb h3⟩, itB_at h2 fun o e => hk _ o e, sb h4⟩
  there := fun h ok b hb => by
    obtain ⟨hz, hTI, ⟨a, c, hTO⟩, ⟨h1, h3⟩, ⟨h2, h4⟩⟩ := ok
    obtain ⟨o1, e1, _⟩ := itB_obj h1
    obtain ⟨o2, e2, _⟩ := itB_obj h2
    have sb : ∀ {b : Bool} {l : Addr} {its : Array Value}, SB b h l its → ∃ o, h.get? l = some o := fun {b l its} q => by
      cases b
      · obtain ⟨o, e, _⟩ := q; exact ⟨o, e⟩
      · obtain ⟨o, e, _⟩ := q; exact ⟨o, e⟩
    simp only [List.mem_cons, List.not_mem_nil, or_false] at hb
    rcases hb with rfl | rfl | rfl | rfl | rfl | rfl | rfl
    · exact ⟨_, hz⟩
    · exact ⟨_, hTI⟩
    · exact ⟨_, hTO⟩
    · exact ⟨_, e1⟩
    · exact ⟨_, e2⟩
    · exact sb h3
    · exact sb h4
  sub := fun b hb => by simp at hb ⊢; rcases hb with rfl | rfl | rfl | rfl <;> simp
  noKeys := fun A s Q E hA ok h => getAttrOr_miss_zip ok.1 rfl rfl rfl zip_no_keys (by decide +kernel) hA h
  iter := fun A s d Q E hA ok hd hdf h => by
    obtain ⟨hz, hTI, ⟨a, b, hTO⟩, h1, h2⟩ := ok
    simp only [List.mem_cons, List.not_mem_nil, or_false, not_or] at hdf
    obtain ⟨dz, dTI, dTO, di1, di2, dl1, dl2⟩ := hdf
    have hA1 : A.in1.handled = none := hA
    have D1 := drawsB (prog := prog) (w := w) b1 hA1 i1 l1 q1 xs
    have D2 := drawsB (prog := prog) (w := w) b2 hA1 i2 l2 q2 ys
    refine wpAny_pyIter_zip hz (h z [z, TO, i1, i2] (fun i h => IsTupOf2 h TI (.ref i1) (.ref i2) ∧ (ItB b1 h i1 l1 i ∧ SB b1 h l1 xs) ∧ (ItB b2 h i2 l2 i ∧ SB b2 h l2 ys) ∧
      ((IsZip h z TI TO .none ∧ ∃ a b, IsTupOf2 h TO a b) ∨ ∃ T f oT, IsZipHeld h z TI TO T f ∧ h.get? T = some oT ∧ T ≠ z ∧ T ≠ i1 ∧ T ≠ i2 ∧ T ≠ d)) s.heap s.toks ?_ ⟨hTI, h1, h2, .inl ⟨hz, a, b, hTO⟩⟩ (fun _ _ e => e) fun b hb => .inl hb)
    exact {
      off := fun hm => by
        simp only [List.mem_cons, List.not_mem_nil, or_false] at hm
        rcases hm with e | e | e | e
        · exact dz e
        · exact dTO e
        · exact di1 e
        · exact di2 e
      frame := fun i h₁ h₂ st hk => by
        obtain ⟨hTI, h1, h2, hz⟩ := st
        have nd : ∀ {x y : Addr}, d ≠ x → d ≠ y → ∀ b ∈ [x, y], b ≠ d := fun {x y} p q b hb => by
          simp only [List.mem_cons, List.not_mem_nil, or_false] at hb
          rcases hb with rfl | rfl
          · exact Ne.symm p
          · exact Ne.symm q
        refine ⟨hk _ _ (Ne.symm dTI) hTI, D1.frame _ _ _ h1 fun b hb o e => hk b o (nd di1 dl1 b hb) e, D2.frame _ _ _ h2 fun b hb o e => hk b o (nd di2 dl2 b hb) e, ?_⟩
        rcases hz with ⟨hz, a, b, hTO⟩ | ⟨T, f, oT, hz, hT, r1, r2, r3, r4⟩
        · exact .inl ⟨hk _ _ (Ne.symm dz) hz, a, b, hk _ _ (Ne.symm dTO) hTO⟩
        · exact .inr ⟨T, f, oT, hk _ _ (Ne.symm dz) hz, hk _ _ r4 hT, r1, r2, r3, r4⟩
      item := fun i s₁ Q₁ E₁ hi st hds hQ => by
        obtain ⟨hTI, h1, h2, hz⟩ := st
        have hix : i < xs.size := Nat.lt_of_lt_of_le hi (Nat.min_le_left ..)
        have hiy : i < ys.size := Nat.lt_of_lt_of_le hi (Nat.min_le_right ..)
        have lt : ∀ {c o}, s₁.heap.get? c = some o → s₁.heap.objs.size ≠ c := fun e => Nat.ne_of_gt (Heap.lt_size e)
        have n1 : s₁.heap.objs.size ≠ i1 := let ⟨_, e, _⟩ := itB_obj h1.1; lt e
        have n2 : s₁.heap.objs.size ≠ i2 := let ⟨_, e, _⟩ := itB_obj h2.1; lt e
        rcases hz with ⟨hz, a, b, hTO⟩ | ⟨T, f, oT, hz, hT, r1, r2, r3, r4⟩
        · refine wpAny_pyNext_zipD2_item S D1 D2 hz hTI hTO h1 h2 hix hiy fun x y h' tk p1 p2 a1 a2 a3 a4 a5 a6 hk => ?_
          exact hQ s₁.heap.objs.size x y h' tk ⟨p1, p2⟩ (.inl ⟨_, a5, rfl, _, rfl⟩)
            ⟨hk _ _ S.TIz S.TITO S.TIi1 S.TIi2 hTI, a3, a4, .inr ⟨s₁.heap.objs.size, false, _, a1, a5, lt hz, n1, n2, Nat.ne_of_gt hds⟩⟩
            fun c o hc e => hk c o (fun x => hc (by simp [x])) (fun x => hc (by simp [x])) (fun x => hc (by simp [x])) (fun x => hc (by simp [x])) e
        · refine zipM_next S D1 D2 hz hT hTI h1 h2 hix hiy fun x y h' tk p1 p2 a1 a3 a4 a5 hk => ?_
          exact hQ s₁.heap.objs.size x y h' tk ⟨p1, p2⟩ (.inl ⟨_, a5, rfl, _, rfl⟩)
            ⟨hk _ _ S.TIz S.TIi1 S.TIi2 hTI, a3, a4, .inr ⟨T, true, oT, a1, hk _ _ r1 r2 r3 hT, r1, r2, r3, r4⟩⟩
            fun c o hc e => hk c o (fun x => hc (by simp [x])) (fun x => hc (by simp [x])) (fun x => hc (by simp [x])) e
      done := fun s₁ Q₁ E₁ st hQ => by
        obtain ⟨hTI, h1, h2, hz⟩ := st
        have hend : min xs.size ys.size = xs.size ∨ min xs.size ys.size = ys.size := by omega
        rcases hz with ⟨hz, a, b, hTO⟩ | ⟨T, f, oT, hz, hT, r1, r2, r3, r4⟩
        · exact wpAny_pyNext_zipD2_end S D1 D2 hz hTI hTO h1 h2 (Nat.min_le_left ..) (Nat.min_le_right ..) hend fun h' tk hk => hQ h' tk fun c o hc e => hk c o (fun x => hc (by simp [x])) (fun x => hc (by simp [x])) (fun x => hc (by simp [x])) (fun x => hc (by simp [x])) e
        · exact zipM_stop S D1 D2 hz hT hTI h1 h2 (Nat.min_le_left ..) (Nat.min_le_right ..) hend fun h' tk hk => hQ h' tk fun c o hc e => hk c o (fun x => hc (by simp [x])) (fun x => hc (by simp [x])) (fun x => hc (by simp [x])) e }
end EX
set_option Elab.async false
set_option linter.all false
set_option autoImplicit false
set_option maxRecDepth 100000
set_option maxHeartbeats 4000000
/-! E16: dicts whose keys are tuples. -/
namespace EX
open PySem L2
variable [Tb] {Z : Zc} {F F' F1 F2 H H' H1 H2 F0 H0 : Hp} {X : Cx} {ta tb tc te to : TE} {ma mb mc me mo : Env → Option D} {t : TA} {ms : Env → Option (List D)} {pos : Pos} {e a b c o : Expr} {es : List Expr}
  {qa qb qc : TT} {na nb nc : Env → Option Bool} {tg iter : Expr} {se : SEnv} {σ : L2.St}
section
variable {pins : List (Addr × Obj)} {s : Shared}
mutual
theorem Is.nested (I : Inv X pins σ H s) (f : Same F H) : ∀ {d : D} {v : V} {u : Value} {k : NestedKey}, Is (zOf X) F v d → nkOf d = some k → RelV v u → NestedIs s.heap k u
  | .non, _, _, _, .non, e, r => by cases e; cases (show _ = Value.none from r); exact .none
  | .bl b, _, _, _, .bl, e, r => by cases e; cases (show _ = Value.bool b from r); exact .bool rfl
  | .int i, _, _, _, .int, e, r => by cases e; obtain ⟨t, q⟩ := (show ∃ t, _ = Value.int i t from r); cases q; exact .int i t
  | .str x, _, _, _, .str, e, r => by cases e; obtain ⟨t, q⟩ := (show ∃ t, _ = Value.str x t from r); cases q; exact .text x t
  | .tup ds, _, _, _, .tup h l, e, r => by
    simp only [nkOf] at e
    obtain ⟨ks, e1, rfl⟩ := Option.map_eq_some_iff.mp e
    cases (show _ = Value.ref _ from r)
    obtain ⟨its, rv, pt, _⟩ := I.tuple (same_t f h)
    obtain ⟨ob, h1, h2, n, h3⟩ := (show s.heap.IsTuple _ its.toArray from pt)
    exact .tup h1 h2 h3 (by simpa using IsL.nested I f l e1 rv)
  | .lst _, _, _, _, .lst _ _, e, _ => by cases e
  | .dct _, _, _, _, .dct _ _ _ _, e, _ => by cases e
  | .obj _ _, _, _, _, .obj _ _, e, _ => by cases e
  | .adr _, _, _, _, .adr, e, _ => by cases e
theorem IsL.nested (I : Inv X pins σ H s) (f : Same F H) : ∀ {ds : List D} {vs : List V} {us : List Value} {ks : List NestedKey}, IsL (zOf X) F vs ds → nkAll ds = some ks → Vals vs us → NestedAll s.heap ks us
  | [], _, _, _, .nil, e, .nil => by cases e; exact .nil
  | d :: ds, _, _, _, .cons h l, e, .cons r rs => by
    simp only [nkAll, Option.bind_eq_bind, Option.bind_eq_some_iff, Option.pure_def, Option.some.injEq] at e
    obtain ⟨k, e1, ks, e2, rfl⟩ := e
    exact .cons (Is.nested I f h e1 r) (IsL.nested I f l e2 rs)
end
/-! ### what stands in a dict -/
def findK (kvs : List (D × D)) (k : NestedKey) : Option D := (kvs.find? fun q => decide (nkOf q.1 = some k)).map (·.2)
theorem ents_at : ∀ {xs : List (NestedKey × Addr × Value)} {kv : List (V × V)} {kvs : List (D × D)} {k : NestedKey} {d : D}, EntsT xs kv kvs → IsP Z F kv kvs → findK kvs k = some d → ∃ b u y, atKey xs k = some (b, u) ∧ RelV y u ∧ Is Z F y d
  | [], [], [], k, d, _, _, e => by cases e
  | x :: xs, p :: ps, q :: qs, k, d, ⟨⟨h1, h2, h3, h4, h5⟩, hE⟩, .cons i1 i2 i3, e => by
    unfold findK at e
    rw [List.find?_cons] at e
    by_cases hk : x.1 = k
    · have : decide (nkOf q.1 = some k) = true := by rw [h2, hk]; simp
      rw [this] at e
      cases e
      exact ⟨x.2.1, x.2.2, p.2, by unfold atKey; rw [List.find?_cons]; simp [hk], h5, i2⟩
    · have : decide (nkOf q.1 = some k) = false := by rw [h2]; simp [hk]
      rw [this] at e
      obtain ⟨b, u, y, a1, a2, a3⟩ := ents_at (k := k) hE i3 e
      exact ⟨b, u, y, by unfold atKey at a1 ⊢; rw [List.find?_cons]; simpa [hk] using a1, a2, a3⟩
theorem ents_none : ∀ {xs : List (NestedKey × Addr × Value)} {kv : List (V × V)} {kvs : List (D × D)} {k : NestedKey}, EntsT xs kv kvs → findK kvs k = none → atKey xs k = none
  | [], [], [], k, _, _ => rfl
  | x :: xs, p :: ps, q :: qs, k, ⟨⟨h1, h2, h3, h4, h5⟩, hE⟩, e => by
    unfold findK at e
    rw [List.find?_cons] at e
    by_cases hk : x.1 = k
    · have : decide (nkOf q.1 = some k) = true := by rw [h2, hk]; simp
      rw [this] at e
      cases e
    · have : decide (nkOf q.1 = some k) = false := by rw [h2]; simp [hk]
      rw [this] at e
      have a1 := ents_none (k := k) hE e
      unfold atKey at a1 ⊢
      rw [List.find?_cons]
      simpa [hk] using a1
theorem ents_is (I : Inv X pins σ H s) (f : Same F H) : ∀ {xs : List (NestedKey × Addr × Value)} {kv : List (V × V)} {kvs : List (D × D)}, EntsT xs kv kvs → IsP (zOf X) F kv kvs → ∀ x ∈ xs, (nestedKind X.prog X.w).is s.heap x.1 x.2.1
  | [], [], [], _, _, x, hx => by cases hx
  | y :: xs, p :: ps, q :: qs, ⟨⟨h1, h2, h3, h4, h5⟩, hE⟩, .cons i1 i2 i3, x, hx => by
    rcases List.mem_cons.mp hx with rfl | hx
    · exact ⟨Is.nested I f i1 h2 (by rw [h1]; rfl), h3⟩
    · exact ents_is I f hE i3 x hx
theorem dictH {a : Addr} {o : Obj} {kv : List (V × V)} {kvs : List (D × D)} (I : Inv X pins σ H s) (f : Same F H) (ha : F a = some (DO a o)) (q : DObj (zOf X) o kv kvs) (l : IsP (zOf X) F kv kvs) : ∃ xs, s.heap.DictOfH (nestedKind X.prog X.w) a xs ∧ EntsT xs kv kvs := by
  obtain ⟨h0, _, _⟩ := I.hok a _ (f a _ ha)
  cases q with
  | @tup xs es ep h1 h2 h3 h4 h5 h6 => exact ⟨xs, ⟨o, es, ep, h0, h1, h2, h3, ents_is I f h4 l, h5⟩, h4⟩
theorem ents_len : ∀ {xs : List (NestedKey × Addr × Value)} {kv : List (V × V)} {kvs : List (D × D)}, EntsT xs kv kvs → xs.length = kvs.length ∧ kv.length = kvs.length
  | [], [], [], _ => ⟨rfl, rfl⟩
  | x :: xs, p :: ps, q :: qs, ⟨_, hE⟩ => by
    obtain ⟨h1, h2⟩ := ents_len hE
    exact ⟨by simp [h1], by simp [h2]⟩
end
/-! ### d[k] -/
def keyD (d : D) : Option NestedKey := match d with
  | .tup xs => (nkOf (.tup xs)).bind fun k => if decide (k.depth ≤ 8) = true then some k else none
  | _ => none
theorem keyD_tup {d : D} {k : NestedKey} (h : keyD d = some k) : nkOf d = some k ∧ k.depth ≤ 8 ∧ ∃ ks, k = .tup ks := by
  cases d with
  | tup xs =>
    obtain ⟨k', e1, e2⟩ := Option.bind_eq_some_iff.mp (show (nkOf (.tup xs)).bind _ = some k from h)
    obtain ⟨e3, rfl⟩ := ite_some e2
    refine ⟨e1, of_decide_eq_true e3, ?_⟩
    simp only [nkOf] at e1
    obtain ⟨ks, _, rfl⟩ := Option.map_eq_some_iff.mp e1
    exact ⟨ks, rfl⟩
  | _ => cases h
theorem key_ref {v : V} {d : D} {k : NestedKey} (h : Is Z F v d) (e : keyD d = some k) : ∃ b, v = .ref b := by
  cases d with
  | tup xs => cases h with | @tup b _ _ _ _ => exact ⟨b, rfl⟩
  | _ => cases e
def rIxK (Z : Zc) : R2 := fun x y H Q => ∃ F kvs dy k d, Same F H ∧ Is Z F x (.dct kvs) ∧ Is Z F y dy ∧ keyD dy = some k ∧ findK kvs k = some d ∧ ∀ v, Is Z F v d → Q v H
theorem room8 {A : Around} {k : Nat} (hr : Room k A) : (nestedKind X.prog X.w).room A.in1 := by
  have := hr.un
  show A.units + 1 + 8 < cLine
  omega
theorem ix_keyed {k : Nat} (hr : Room k X.A) : IxR X (rIxK (zOf X)) := by
  intro value slice pins s σ H x y v u Q I rx ry h hs
  obtain ⟨F, kvs, dy, kk, d, f, h1, h2, h3, h4, q⟩ := h
  obtain ⟨b, rfl⟩ := key_ref h2 h3
  obtain ⟨n1, n2, _⟩ := keyD_tup h3
  obtain rfl : u = Value.ref b := ry
  cases h1 with
  | @dct p ob kv kvs ha hq l nn =>
    obtain rfl : v = Value.ref p := rx
    obtain ⟨xs, hd, hE⟩ := dictH I f ha hq l
    obtain ⟨bb, w, yv, a1, a2, a3⟩ := ents_at hE l h4
    refine PyProof.Rows.subscriptTail_builtinR (x := w) hd.typeIs slot_dict_getitem.lookup ?_ hs
    exact wpAny_getItem_heap (room8 (X := X) hr) ⟨Is.nested I f h2 n1 rfl, n2⟩ hd a1 ⟨rfl, yv, H, I.tok _, a2, q yv a3⟩
def ixDct : D → D → Option D
  | .dct kvs, d => (keyD d).bind fun k => findK kvs k
  | _, _ => none
theorem id_dct {k : Nat} (hr : Room k X.A) : IxD X (rIxK (zOf X)) ixDct := ⟨ix_keyed hr, fun x y H F Q dx dy d hx hy s e k => by
  unfold ixDct at e
  split at e
  · obtain ⟨kk, e1, e2⟩ := Option.bind_eq_some_iff.mp e
    exact ⟨F, _, _, kk, d, s.s, hx, hy, e1, e2, fun v r => k v H F (Grow.refl s) r⟩
  · cases e⟩
/-- lists, tuples, dicts -/
def ixAny : D → D → Option D
  | .dct kvs, d => ixDct (.dct kvs) d
  | x, d => ixSeq x d
theorem id_any {k : Nat} (hr : Room k X.A) : IxD X (fun x y H Q => (rIxL X.K x y H Q ∨ rIxT X.K x y H Q) ∨ rIxK (zOf X) x y H Q) ixAny := ⟨(id_seq (X := X)).op.or (id_dct hr).op, fun x y H F Q dx dy d hx hy s e k => by
  cases dx with
  | dct kvs => exact .inr ((id_dct hr).ev x y H F Q _ dy d hx hy s e k)
  | _ => exact .inl (id_seq.ev x y H F Q _ dy d hx hy s e k)⟩
/-! ### list(d) -/
theorem kdl_raw {prog : Program} {w : World} {d : Addr} {es : Array DictEntry} {ep : Nat} (lo : (d == sysModules) = false) : PySem.W.KdlSrc prog w "dict" d d es.size (fun i v => ∃ hi : i < es.size, v = es[i].key) (fun h => h.DictRaw d es ep) where
  type := fun _ hm => hm.typeIs
  there := fun _ ⟨_, e, _⟩ => ⟨Heap.lt_size e, Heap.lt_size e⟩
  keep := fun _ _ hm hk => hm.at fun o e => hk d (.inl rfl) o e
  notList := by decide
  notTuple := by decide
  hint := fun _ _ _ _ hm hq => PySem.W.kdl_hint_dict hm.typeIs hq
  iter := fun _ _ hh hm => ⟨_, _, (fun _ _ hq => wpAny_pyIter_dict_raw lo hm hq), Walks.rawKeys hh _ d (Nat.ne_of_lt (let ⟨_, e, _⟩ := hm; Heap.lt_size e)) es ep, ⟨⟨_, Heap.get?_push_size _ rfl, rfl, rfl⟩, hm.at fun o e => Heap.get?_push_of_some _ e⟩⟩
def rListD (Z : Zc) : List V → Hp → VK → Prop := fun xs H Q => ∃ F x kvs, xs = [x] ∧ Same F H ∧ Is Z F x (.dct kvs) ∧ ∀ p us, H p = none → IsL Z F us (kvs.map (·.1)) → Q (.ref p) (upd H p (.lst us))
theorem isP_keys : ∀ {kv : List (V × V)} {kvs : List (D × D)}, IsP Z F kv kvs → IsL Z F (kv.map (·.1)) (kvs.map (·.1))
  | _, _, .nil => .nil
  | _, _, .cons h _ l => .cons h (isP_keys l)
theorem isP_vals : ∀ {kv : List (V × V)} {kvs : List (D × D)}, IsP Z F kv kvs → IsL Z F (kv.map (·.2)) (kvs.map (·.2))
  | _, _, .nil => .nil
  | _, _, .cons _ h l => .cons h (isP_vals l)
theorem ents_keys : ∀ {xs : List (NestedKey × Addr × Value)} {kv : List (V × V)} {kvs : List (D × D)}, EntsT xs kv kvs → Vals (kv.map (·.1)) (xs.map fun x => Value.ref x.2.1)
  | [], [], [], _ => .nil
  | x :: xs, p :: ps, q :: qs, ⟨h, hE⟩ => .cons (by show RelV p.1 (Value.ref x.2.1); rw [h.1]; rfl) (ents_keys hE)
theorem call_listD (hc : X.calm = true := by rfl) : CallR X (.type "list") (rListD (zOf X)) := by
  intro pins s σ H xs us Q I r h
  obtain ⟨F, x, kvs, rfl, f, h1, q⟩ := h
  obtain ⟨u, rfl, ru⟩ := vals1 r
  cases h1 with
  | @dct p ob kv kvs ha hq l nn =>
    obtain rfl : u = Value.ref p := ru
    obtain ⟨h0, _, _⟩ := I.hok p _ (f p _ ha)
    cases hq with
    | @tup xs es ep e1 e2 e3 e4 e5 e6 =>
      obtain ⟨n1, n2⟩ := ents_len e4
      have hsz : es.size = kvs.length := by rw [← Array.length_toList, e3, List.length_map, n1]
      have raw : s.heap.DictRaw p es ep := ⟨ob, h0, e1, e2⟩
      refine PySem.W.kdl_call (kdl_raw (ep := ep) nn) (I.ok.hd hc) raw (by rw [hsz, sizeLine_eq]; omega) fun h' tk acc' c' hk hS hacc => ?_
      have ea : acc'.toList = xs.map fun x => Value.ref x.2.1 := by
        apply List.ext_getElem?
        intro j
        have hl : acc'.size = xs.length := by rw [hacc.1, hsz, n1]
        by_cases hj : j < xs.length
        · have hj' : j < acc'.size := by omega
          obtain ⟨hi, e⟩ := hacc.2 j acc'[j] (by simp [hj'])
          rw [Array.getElem?_toList, Array.getElem?_eq_getElem hj', e, List.getElem?_map, List.getElem?_eq_getElem hj]
          have := entry_at e3 j
          rw [Array.getElem?_eq_getElem hi, List.getElem?_eq_getElem hj] at this
          have := Option.some.inj this
          rw [this]
          rfl
        · rw [Array.getElem?_toList, Array.getElem?_eq_none (by omega), List.getElem?_eq_none (by simpa using hj)]
      have rv := ents_keys e4
      rw [← ea] at rv
      have fr : H s.heap.objs.size = none := I.hok.fresh (Nat.le_refl _)
      refine ⟨.ref s.heap.objs.size, _, I.laid (t' := tk) (o := .lst (kv.map (·.1))) hk (Nat.le_refl _) ⟨?_, acc'.toList, c', rv, by simpa using hS⟩, rfl, q _ _ fr (isP_keys l)⟩
      rw [List.length_map, n2, sizeLine_eq]
      omega
def dListD : List D → Option (List D)
  | [.dct kvs] => some (kvs.map (·.1))
  | ds => dList ds
theorem cd_listD (hc : X.calm = true := by rfl) : CDF X (.type "list") (fun xs H Q => rListD (zOf X) xs H Q ∨ ∃ p ys, xs = [.ref p] ∧ (SqL X.K H p ys ∨ SqT X.K H p ys) ∧ ∀ l, H l = none → Q (.ref l) (upd H l (.lst ys))) dListD := ⟨(call_listD hc).or cd_list.op, fun vs ds H F Q d r s e k => by
  unfold dListD at e
  split at e
  · cases e
    obtain ⟨v, rfl, r0⟩ := r.one
    exact .inl ⟨F, v, _, rfl, s.s, r0, fun p us hp l => k p us _ F (Grow.made s hp) (s.none_of hp) hp upd_same l⟩
  · exact .inr (cd_list.ev vs ds H F Q d r s e k)⟩
/-! ### in, not in -/
def inAny (g : Bool → Bool) (x y : D) : Option D := match y with
  | .dct kvs => (keyD x).map fun k => .bl (g (findK kvs k).isSome)
  | y => inD g x y
def rInK (Z : Zc) (g : Bool → Bool) : R2 := fun x y H Q => ∃ F kvs dx k, Same F H ∧ Is Z F y (.dct kvs) ∧ Is Z F x dx ∧ keyD dx = some k ∧ Q (.bl (g (findK kvs k).isSome)) H
theorem at_some {xs : List (NestedKey × Addr × Value)} {kv : List (V × V)} {kvs : List (D × D)} {k : NestedKey} (hE : EntsT xs kv kvs) (l : IsP Z F kv kvs) : (atKey xs k).isSome = (findK kvs k).isSome := by
  cases h : findK kvs k with
  | none => rw [ents_none hE h]; rfl
  | some d =>
    obtain ⟨b, u, y, a1, _⟩ := ents_at hE l h
    rw [a1]; rfl
theorem op_inK {k : Nat} (hr : Room k X.A) : OpR X (compareOp .In) (rInK (zOf X) id) := by
  intro pins s σ H x y v u Q I rx ry h
  obtain ⟨F, kvs, dx, kk, f, h1, h2, h3, q⟩ := h
  obtain ⟨b, rfl⟩ := key_ref h2 h3
  obtain ⟨n1, n2, _⟩ := keyD_tup h3
  obtain rfl : v = Value.ref b := rx
  cases h1 with
  | @dct p ob kv kvs ha hq l nn =>
    obtain rfl : u = Value.ref p := ry
    obtain ⟨xs, hd, hE⟩ := dictH I f ha hq l
    refine in_keyed (room8 (X := X) hr) ⟨Is.nested I f h2 n1 rfl, n2⟩ nn ⟨xs, hd, rfl⟩ ?_
    rw [valueAt_pairsH, Option.isSome_map, at_some hE l]
    exact ⟨.bl _, H, I.tok _, rfl, q⟩
theorem op_ninK {k : Nat} (hr : Room k X.A) : OpR X (compareOp .NotIn) (rInK (zOf X) (!·)) := by
  intro pins s σ H x y v u Q I rx ry h
  obtain ⟨F, kvs, dx, kk, f, h1, h2, h3, q⟩ := h
  obtain ⟨b, rfl⟩ := key_ref h2 h3
  obtain ⟨n1, n2, _⟩ := keyD_tup h3
  obtain rfl : v = Value.ref b := rx
  cases h1 with
  | @dct p ob kv kvs ha hq l nn =>
    obtain rfl : u = Value.ref p := ry
    obtain ⟨xs, hd, hE⟩ := dictH I f ha hq l
    refine notIn_keyed (room8 (X := X) hr) ⟨Is.nested I f h2 n1 rfl, n2⟩ nn ⟨xs, hd, rfl⟩ ?_
    rw [valueAt_pairsH, Option.isSome_map, at_some hE l]
    exact ⟨.bl _, H, I.tok _, rfl, q⟩
theorem evR_inA {g : Bool → Bool} : EvR Z (fun x y H Q => rInP Z g x y H Q ∨ rInK Z g x y H Q) (inAny g) := fun x y H F Q dx dy d hx hy s e k => by
  unfold inAny at e
  split at e
  · obtain ⟨kk, e1, rfl⟩ := Option.map_eq_some_iff.mp e
    exact .inr ⟨F, _, dx, kk, s.s, hy, hx, e1, k _ H F (Grow.refl s) .bl⟩
  · exact .inl (evR_in x y H F Q dx _ d hx hy s e k)
theorem od_inA {k : Nat} (hr : Room k X.A) : OpD X (compareOp .In) (fun x y H Q => rInP (zOf X) id x y H Q ∨ rInK (zOf X) id x y H Q) (inAny id) := ⟨(op_inP hr).or (op_inK hr), evR_inA⟩
theorem od_ninA {k : Nat} (hr : Room k X.A) : OpD X (compareOp .NotIn) (fun x y H Q => rInP (zOf X) (!·) x y H Q ∨ rInK (zOf X) (!·) x y H Q) (inAny (!·)) := ⟨(op_ninP hr).or (op_ninK hr), evR_inA⟩
end EX
set_option Elab.async false
set_option linter.all false
set_option autoImplicit false
set_option maxRecDepth 100000
set_option maxHeartbeats 4000000
/-! E17: dict(zip(a, b)). -/
namespace EX
open PySem L2
variable [Tb] {Z : Zc} {F F' F1 F2 H H' H1 H2 F0 H0 : Hp} {X : Cx} {ta tb tc te to : TE} {ma mb mc me mo : Env → Option D} {t : TA} {ms : Env → Option (List D)} {pos : Pos} {e a b c o : Expr} {es : List Expr}
  {qa qb qc : TT} {na nb nc : Env → Option Bool} {tg iter : Expr} {se : SEnv} {σ : L2.St}
/-! ### a pair is stored -/
def storeK (kvs : List (D × D)) (k : NestedKey) (d v : D) : List (D × D) := if (findK kvs k).isSome = true then kvs.map (fun q => if nkOf q.1 = some k then (q.1, v) else q) else kvs ++ [(d, v)]
theorem ents_map {k : NestedKey} {u : Value} {y : V} {dv : D} (ry : RelV y u) (iy : Is Z F y dv) : ∀ {xs : List (NestedKey × Addr × Value)} {kv : List (V × V)} {kvs : List (D × D)}, EntsT xs kv kvs → IsP Z F kv kvs →
    ∃ kv', EntsT (xs.map (putAt k u)) kv' (kvs.map (fun q => if nkOf q.1 = some k then (q.1, dv) else q)) ∧ IsP Z F kv' (kvs.map (fun q => if nkOf q.1 = some k then (q.1, dv) else q))
  | [], [], [], _, _ => ⟨[], True.intro, .nil⟩
  | x :: xs, p :: ps, q :: qs, ⟨⟨h1, h2, h3, h4, h5⟩, hE⟩, .cons i1 i2 i3 => by
    obtain ⟨kv', a1, a2⟩ := ents_map ry iy hE i3
    by_cases hk : x.1 = k
    · refine ⟨(p.1, y) :: kv', ⟨?_, ?_⟩⟩
      · simp only [List.map_cons]
        refine ⟨?_, a1⟩
        rw [h2]
        simp only [hk, if_true, putAt]
        exact ⟨h1, by rw [h2, hk], by rw [← hk]; exact h3, by rw [← hk]; exact h4, ry⟩
      · simp only [List.map_cons]
        rw [h2]
        simp only [hk, if_true]
        exact .cons i1 iy a2
    · refine ⟨p :: kv', ⟨?_, ?_⟩⟩
      · simp only [List.map_cons]
        refine ⟨?_, a1⟩
        rw [h2]
        have : ¬ (some x.1 = some k) := fun z => hk (Option.some.inj z)
        simp only [hk, this, if_false, putAt]
        exact ⟨h1, h2, h3, h4, h5⟩
      · simp only [List.map_cons]
        rw [h2]
        have : ¬ (some x.1 = some k) := fun z => hk (Option.some.inj z)
        simp only [this, if_false]
        exact .cons i1 i2 a2
theorem ents_snoc {k : NestedKey} {b : Addr} {u : Value} {y : V} {d dv : D} (hd : nkOf d = some k) (h8 : k.depth ≤ 8) (ht : ∃ ks, k = .tup ks) (ib : Is Z F (.ref b) d) (ry : RelV y u) (iy : Is Z F y dv) : ∀ {xs : List (NestedKey × Addr × Value)} {kv : List (V × V)} {kvs : List (D × D)}, EntsT xs kv kvs → IsP Z F kv kvs →
    EntsT (xs ++ [(k, b, u)]) (kv ++ [(.ref b, y)]) (kvs ++ [(d, dv)]) ∧ IsP Z F (kv ++ [(.ref b, y)]) (kvs ++ [(d, dv)])
  | [], [], [], _, _ => ⟨⟨⟨rfl, hd, h8, ht, ry⟩, True.intro⟩, .cons ib iy .nil⟩
  | x :: xs, p :: ps, q :: qs, ⟨h, hE⟩, .cons i1 i2 i3 => by
    obtain ⟨a1, a2⟩ := ents_snoc hd h8 ht ib ry iy hE i3
    exact ⟨⟨h, a1⟩, .cons i1 i2 a2⟩
theorem ents_store {k : NestedKey} {b : Addr} {u : Value} {y : V} {d dv : D} (hd : nkOf d = some k) (h8 : k.depth ≤ 8) (ht : ∃ ks, k = .tup ks) (ib : Is Z F (.ref b) d) (ry : RelV y u) (iy : Is Z F y dv) {xs : List (NestedKey × Addr × Value)} {kv : List (V × V)} {kvs : List (D × D)} (hE : EntsT xs kv kvs) (l : IsP Z F kv kvs) :
    ∃ kv', EntsT (storedH xs k b u) kv' (storeK kvs k d dv) ∧ IsP Z F kv' (storeK kvs k d dv) := by
  unfold storeK storedH
  rw [at_some hE l]
  by_cases h : (findK kvs k).isSome = true
  · rw [if_pos h, if_pos h]
    exact ents_map ry iy hE l
  · rw [if_neg h, if_neg h]
    exact ⟨_, ents_snoc hd h8 ht ib ry iy hE l⟩
def dictK (acc : List (D × D)) : List (D × D) → Option (List (D × D))
  | [] => some acc
  | (d, v) :: r => (keyD d).bind fun k => dictK (storeK acc k d v) r
/-- pairs that are to be stored -/
inductive PairsT (Z : Zc) (F : Hp) : List (NestedKey × Addr × Value) → List (D × D) → Prop
  | nil : PairsT Z F [] []
  | cons {k b u y d dv ps qs} : keyD d = some k → Is Z F (.ref b) d → RelV y u → Is Z F y dv → PairsT Z F ps qs → PairsT Z F ((k, b, u) :: ps) ((d, dv) :: qs)
theorem ents_fold {ps : List (NestedKey × Addr × Value)} {qs : List (D × D)} (hp : PairsT Z F ps qs) : ∀ {xs : List (NestedKey × Addr × Value)} {kv : List (V × V)} {kvs out : List (D × D)}, EntsT xs kv kvs → IsP Z F kv kvs → dictK kvs qs = some out →
    ∃ kv', EntsT (storedAllH xs ps) kv' out ∧ IsP Z F kv' out := by
  induction hp with
  | nil => intro xs kv kvs out hE l e; cases e; exact ⟨kv, hE, l⟩
  | cons h1 h2 h3 h4 _ ih =>
    intro xs kv kvs out hE l e
    obtain ⟨k', e1, e2⟩ := Option.bind_eq_some_iff.mp (show (keyD _).bind _ = some out from e)
    rw [h1] at e1
    cases e1
    obtain ⟨n1, n2, n3⟩ := keyD_tup h1
    obtain ⟨kv', a1, a2⟩ := ents_store n1 n2 n3 h2 h3 h4 hE l
    exact ih a1 a2 e2
/-! ### the pairs of zip(a, b) -/
def zip2 : List D → List D → List (D × D)
  | d :: ds, e :: es => (d, e) :: zip2 ds es
  | _, _ => []
theorem zip_pairs : ∀ {ds es : List D} {xs ys : List V} {us ws : List Value} {acc out : List (D × D)}, IsL Z F xs ds → IsL Z F ys es → Vals xs us → Vals ys ws → dictK acc (zip2 ds es) = some out →
    ∃ ps, PairsT Z F ps (zip2 ds es) ∧ ps.length = min us.length ws.length ∧ ∀ (i : Nat) key v, us[i]? = some key → ws[i]? = some v → ∃ k b, ps[i]? = some (k, b, v) ∧ key = .ref b
  | [], _, _, _, _, _, _, _, .nil, _, .nil, _, _ => ⟨[], .nil, by simp, fun i key v h => by simp at h⟩
  | _ :: _, [], _, _, _, _, _, _, .cons _ _, .nil, .cons _ _, .nil, _ => ⟨[], .nil, by simp, fun i key v _ h => by simp at h⟩
  | d :: ds, e :: es, _, _, _, _, acc, out, .cons i1 l1, .cons i2 l2, .cons r1 v1, .cons r2 v2, hk => by
    obtain ⟨k, e1, e2⟩ := Option.bind_eq_some_iff.mp (show (keyD d).bind _ = some out from hk)
    obtain ⟨b, rfl⟩ := key_ref i1 e1
    obtain ⟨ps, p1, p2, p3⟩ := zip_pairs l1 l2 v1 v2 e2
    refine ⟨(k, b, _) :: ps, .cons e1 i1 r2 i2 p1, by simp [p2], fun i key v h1 h2 => ?_⟩
    cases i with
    | zero =>
      simp at h1 h2
      subst h1 h2
      exact ⟨k, b, rfl, r1⟩
    | succ i => exact p3 i key v (by simpa using h1) (by simpa using h2)
theorem pairs_is {pins : List (Addr × Obj)} {s : Shared} (I : Inv X pins σ H s) (f : Same F H) {ps : List (NestedKey × Addr × Value)} {qs : List (D × D)} (hp : PairsT (zOf X) F ps qs) : ∀ x ∈ ps, NestedIs s.heap x.1 (.ref x.2.1) ∧ x.1.depth ≤ 8 := by
  induction hp with
  | nil => intro x hx; cases hx
  | cons h1 h2 h3 h4 _ ih =>
    intro x hx
    rcases List.mem_cons.mp hx with rfl | hx
    · obtain ⟨n1, n2, _⟩ := keyD_tup h1
      exact ⟨Is.nested I f h2 n1 rfl, n2⟩
    · exact ih x hx
theorem dictK_len : ∀ {qs acc out : List (D × D)}, dictK acc qs = some out → out.length ≤ acc.length + qs.length
  | [], _, _, e => by cases e; simp
  | (d, v) :: r, acc, out, e => by
    obtain ⟨k, e1, e2⟩ := Option.bind_eq_some_iff.mp (show (keyD d).bind _ = some out from e)
    have := dictK_len e2
    have h : (storeK acc k d v).length ≤ acc.length + 1 := by
      unfold storeK
      split <;> simp
    simp
    omega
def mDictZ (ms : Env → Option (List D)) : Env → Option D := fun env => (ms env).bind fun
  | [x, y] => (sqD x).bind fun ds => (sqD y).bind fun es => if (small ds && small es) = true then (dictK [] (zip2 ds es)).map .dct else none
  | _ => none
def tDictZ (Z : Zc) (t : TA) : TE := fun σ H Q => t σ H fun vs H1 => ∃ F x y dx dy ds es kvs, vs = [x, y] ∧ Ok Z F H1 ∧ Is Z F x dx ∧ Is Z F y dy ∧ sqD dx = some ds ∧ sqD dy = some es ∧ small ds = true ∧ small es = true ∧ dictK [] (zip2 ds es) = some kvs ∧ ∀ v H' F', Grow Z F H1 F' H' → Is Z F' v (.dct kvs) → Q v H'
theorem zip2_len : ∀ ds es : List D, (zip2 ds es).length ≤ ds.length
  | [], _ => by simp [zip2]
  | _ :: _, [] => by simp [zip2]
  | d :: ds, e :: es => by simp [zip2, zip2_len ds es]
section
variable {p p2 pos2 : Pos} {k : Nat}
theorem pe_dictZ (ha : PA X [a, b] t) (hr : Room k X.A) (hg : Gl X "dict") (hm : X.mg "dict" = none) (hg2 : Gl X "zip") (hm2 : X.mg "zip" = none) (hc : X.calm = true)
    (na : starEach [.Call (.Name "zip" p2) [a, b] [] pos2] X.env = (false, eval (.Call (.Name "zip" p2) [a, b] [] pos2) X.env) :: starEach [] X.env) (hs : starEach [a, b] X.env = (false, eval a X.env) :: starEach [b] X.env) (hpl : (backTo pos2 (starEach [b] X.env)).any (·.1) = false) :
    PE X (.Call (.Name "dict" p) [.Call (.Name "zip" p2) [a, b] [] pos2] [] pos) (tDictZ (zOf X) t) := by
  refine ⟨fun pins s σ H Q I h => ?_⟩
  refine PyProof.Rows.Call_ (ld_blt I hg hm PyProof.Rows.boot_dict (PyProof.Rows.callWith_type1 (PyProof.Rows.args_cons ?_ na) na))
  refine PyProof.Rows.Call_ (ld_blt I hg2 hm2 PyProof.Rows.boot_zip (PyProof.Rows.callWith_type1 (thn (ha.run pos2 pins s σ H _ I h) fun us s1 ⟨vs, H1, I1, r1, q1⟩ => ?_) hs hpl))
  obtain ⟨F, x, y, dx, dy, ds, es, kvs, rfl, ok, ix, iy, e1, e2, z1, z2, e3, q⟩ := q1
  obtain ⟨u1, u2, rfl, ru1, ru2⟩ := r1.two
  obtain ⟨b1, l1, xs, rfl, g1, g2, il⟩ := ix.sqB e1 ok.s
  obtain ⟨b2, l2, ys, rfl, g3, g4, il2⟩ := iy.sqB e2 ok.s
  obtain rfl : u1 = Value.ref l1 := ru1
  obtain rfl : u2 = Value.ref l2 := ru2
  obtain ⟨its, rv, p1⟩ := sqB_at I1 g2
  obtain ⟨its2, rv2, p2'⟩ := sqB_at I1 g4
  have hl1 := sB_lt p1
  have hl2 := sB_lt p2'
  refine zip_begins2 (beginsB b1 l1 its.toArray) (beginsB b2 l2 its2.toArray) p1 p2' fun h' hz hTI hTO h1 h2 hsz hk => PyProof.Rows.args_nil ?_
  show wpAny _ X.A (call (.type "dict") [.ref (s1.heap.objs.size + 4)]) _ _ { s1 with heap := h' }
  obtain ⟨ps, q1, q2, q3⟩ := zip_pairs il il2 rv rv2 e3
  have S := zip_sep2 (N := s1.heap.objs.size) (fp1 := [l1]) (fp2 := [l2]) (fun c hc => by rw [List.mem_singleton.mp hc]; exact hl1) (fun c hc => by rw [List.mem_singleton.mp hc]; exact hl2)
  have P := pairs_zip (prog := X.prog) (w := X.w) b1 b2 (s1.heap.objs.size + 4) (s1.heap.objs.size + 2) (s1.heap.objs.size + 3) s1.heap.objs.size (s1.heap.objs.size + 1) l1 l2 S (Nat.ne_of_lt hl1) (Nat.ne_of_lt (Nat.lt_of_lt_of_le hl2 (Nat.le_succ _)))
    (Nat.ne_of_gt (Nat.lt_of_lt_of_le hl1 (Nat.le_add_right _ _))) (Nat.ne_of_gt (Nat.lt_of_lt_of_le hl2 (Nat.le_add_right _ _))) its.toArray its2.toArray
  have sb : ∀ {b : Bool} {l : Addr} {its : Array Value}, SB b s1.heap l its → SB b h' l its := fun {b l its} q => by
    cases b
    · exact Heap.IsTuple.at q fun o e => hk _ o e
    · exact Heap.IsList.at q fun o e => hk _ o e
  have wrN : ∀ c ∈ [s1.heap.objs.size + 4, s1.heap.objs.size + 3, s1.heap.objs.size, s1.heap.objs.size + 1], s1.heap.objs.size ≤ c := fun c hc => by
    simp only [List.mem_cons, List.not_mem_nil, or_false] at hc
    rcases hc with rfl | rfl | rfl | rfl
    · exact Nat.le_add_right _ _
    · exact Nat.le_add_right _ _
    · exact Nat.le_refl _
    · exact Nat.le_add_right _ _
  have his := pairs_is I1 ok.s q1
  have hlen : its.length = ds.length := by rw [← rv.length, il.length]
  have hlen2 : its2.length = es.length := by rw [← rv2.length, il2.length]
  have hz1 : ds.length ≤ 100000 := of_decide_eq_true z1
  have hu : (nestedKind X.prog X.w).room X.A.in1.in1 := by
    have := hr.un
    show X.A.units + 1 + 1 + 8 < cLine
    omega
  refine call_dict_pairsH (A := X.A) (s := { s1 with heap := h' }) (knd := nestedKind X.prog X.w) (ps := ps) P (I1.ok.hd hc) hu ⟨hz, hTI, ⟨_, _, hTO⟩, ⟨itB0 h1, sb p1⟩, itB0 h2, sb p2'⟩ ⟨?_, fun i key v hr => q3 i key v (by simpa using hr.1) (by simpa using hr.2)⟩ ?_ ?_ fun h2' tk hd2 hk2 => ?_
  · simpa using q2
  · intro h3 hk3 x hx
    obtain ⟨n1, n2⟩ := his x hx
    refine ⟨NestedIs.at (fun b o vs n e _ => hk3 b o (fun z => ?_) (fun hm => ?_) (hk _ _ e)) _ _ n1, n2⟩
    · have q := Heap.lt_size e
      have z' : b = h'.objs.size := z
      rw [z', hsz] at q
      exact absurd q (Nat.not_lt_of_le (Nat.le_add_right _ _))
    · exact absurd (Nat.lt_of_lt_of_le (Heap.lt_size e) (wrN b hm)) (Nat.lt_irrefl _)
  · rw [sizeLine_eq]
    have : min its.toArray.size its2.toArray.size ≤ its.length := by simp; omega
    omega
  · obtain ⟨o, es', ep, ho, hex, hdt, hes, hkeys, hnd⟩ := hd2
    obtain ⟨kv', a1, a2⟩ := ents_fold q1 (xs := []) (kv := []) (kvs := []) True.intro .nil e3
    have hkl := dictK_len e3
    have hzl := zip2_len ds es
    have keep : ∀ b o, s1.heap.get? b = some o → h2'.get? b = some o := fun b o e => hk2 b o (fun hm => absurd (Nat.lt_of_lt_of_le (Heap.lt_size e) (wrN b hm)) (Nat.lt_irrefl _)) (hk _ _ e)
    have dsz : h'.objs.size = s1.heap.objs.size + 5 := hsz
    have hle : s1.heap.objs.size ≤ h'.objs.size := by omega
    have nn : (h'.objs.size == sysModules) = false := by
      have hb := I1.big
      exact beq_eq_false_iff_ne.mpr fun z => absurd (Nat.lt_of_lt_of_le hb hle) (by rw [z]; decide)
    have fr : H1 h'.objs.size = none := I1.hok.fresh hle
    have G := Grow.new (Z := zOf X) (o := DO h'.objs.size o) ok fr do_nt
    refine ⟨.ref h'.objs.size, _, I1.laid (a := h'.objs.size) (o := DO h'.objs.size o) (t' := tk) keep hle ⟨ho, ⟨o, ho⟩, fun h1 h2 q k => k _ q⟩, rfl, q _ _ _ G (.dct upd_same (.tup hex hdt hes a1 hnd (by simp at hkl; omega)) (a2.mono G.f) nn)⟩
theorem x_dictZ (ha : EA X [a, b] t ms) (hr : Room k X.A) (hm : X.mg "dict" = none) (hm2 : X.mg "zip" = none) (hg : Gl X "dict" := by rfl) (hg2 : Gl X "zip" := by rfl) (hc : X.calm = true := by rfl)
    (na : starEach [.Call (.Name "zip" p2) [a, b] [] pos2] X.env = (false, eval (.Call (.Name "zip" p2) [a, b] [] pos2) X.env) :: starEach [] X.env := by rfl) (hs : starEach [a, b] X.env = (false, eval a X.env) :: starEach [b] X.env := by rfl) (hpl : (backTo pos2 (starEach [b] X.env)).any (·.1) = false := by rfl) :
    EX X (.Call (.Name "dict" p) [.Call (.Name "zip" p2) [a, b] [] pos2] [] pos) (tDictZ (zOf X) t) (mDictZ ms) := ⟨pe_dictZ ha.pa hr hg hm hg2 hm2 hc na hs hpl, fun env σ H F Q d f s e k => by
  obtain ⟨vs, e1, e2⟩ := Option.bind_eq_some_iff.mp e
  refine ha.ev env σ H F _ vs f s e1 fun ws H1 F1 g1 r1 => ?_
  split at e2
  · rename_i x y
    obtain ⟨v, w, rfl, r, r'⟩ := r1.two
    obtain ⟨ds, e3, e4⟩ := Option.bind_eq_some_iff.mp e2
    obtain ⟨es, e5, e6⟩ := Option.bind_eq_some_iff.mp e4
    obtain ⟨z, e7⟩ := (show (small ds && small es) = true ∧ (dictK [] (zip2 ds es)).map D.dct = some d from by
      by_cases hz : (small ds && small es) = true
      · rw [if_pos hz] at e6; exact ⟨hz, e6⟩
      · rw [if_neg hz] at e6; cases e6)
    obtain ⟨kvs, e8, rfl⟩ := Option.map_eq_some_iff.mp e7
    rw [Bool.and_eq_true] at z
    exact ⟨F1, v, w, x, y, ds, es, kvs, rfl, g1.ok, r, r', e3, e5, z.1, z.2, e8, fun v H2 F2 g2 r2 => k v H2 F2 (g1.trans g2) r2⟩
  · cases e2⟩
end
end EX
set_option Elab.async false
set_option linter.all false
set_option autoImplicit false
set_option maxRecDepth 100000
set_option maxHeartbeats 4000000
/-! E18: match over texts, try whose body does not raise, count, index, sorted. -/
namespace EX
open PySem L2
variable [Tb] {Z : Zc} {F F' F1 F2 H H' H1 H2 F0 H0 : Hp} {X : Cx} {ta tb tc te to : TE} {ma mb mc me mo : Env → Option D} {t : TA} {ms : Env → Option (List D)} {pos : Pos} {e a b c o : Expr} {es : List Expr}
  {qa qb qc : TT} {na nb nc : Env → Option Bool} {tg iter : Expr} {se : SEnv} {σ : L2.St} {st : Stmt} {rest body : List Stmt} {u w : TS} {m m1 m2 : SM}

/-! ### match -/
structure EK (X : Cx) (cs : List MatchCase) (t : V → TS) (m : D → SM) : Prop where
  run : ∀ (first : Bool) (pins : List (Addr × Obj)) (s : Shared) (σ : L2.St) (H : Hp) (D0 : Ends) (v : V) (u : Value), Inv X pins σ H s → RelV v u → t v D0 σ H → wpAny (model X.prog X.w) X.A (matchCases cs X.env u first) (SP X pins D0) X.xe s
  ev : ∀ v d F, Is (zOf X) F v d → ∀ se σ H F0 H0 (D0 : Ends) r, FitS (zOf X) F0 H0 F se σ H → m d se = some r → Post (zOf X) F0 H0 F D0 r → t v D0 σ H
theorem k_nil : EK X [] (fun _ => tNext) (fun _ => sNil) := ⟨fun first pins s σ H D0 v u I r h => wpAny_matchCases_nil ⟨σ, H, I, h⟩, fun v d F i se σ H F0 H0 D0 r f e p => by cases e; exact p σ H F f (Same.refl _)⟩
def kStr (y : Str) (m1 : SM) (m2 : D → SM) (d : D) : SM := match d with
  | .str x => if (x == y) = true then m1 else m2 (.str x)
  | _ => fun _ => none
theorem k_str {k j : Nat} {y : Str} {p1 p2 : Pos} {cs : List MatchCase} {tr : V → TS} {mr : D → SM} (hr : Room k X.A) (hb : ESs X body u m1) (hk : EK X cs tr mr) :
    EK X (⟨.MatchValue (.Constant (.str y) j p1) p2, none, body⟩ :: cs) (fun v D0 σ H => ∃ x, v = .str x ∧ if (x == y) = true then u D0 σ H else tr v D0 σ H) (kStr y m1 mr) where
  run := fun first pins s σ H D0 v w I r h => by
    obtain ⟨x, rfl, h⟩ := h
    refine wpAny_matchCases_cons (wpAny_matchPattern_Value ?_)
    refine thn ((pe_str (X := X)).run pins s σ H (fun z H1 => z = .str y ∧ H1 = H) I ⟨rfl, rfl⟩) fun w2 s1 ⟨z, H1, I1, r1, e1, e2⟩ => ?_
    subst e1 e2
    refine thn ((od_eq hr).op pins s1 σ H1 (.str x) (.str y) w w2 (fun z H2 => z = .bl (x == y) ∧ H2 = H1) I1 r r1 ⟨fun _ => none, .str x, .str y, (fun a o q => by cases q), Is.str, Is.str, rfl, rfl, by simp [eqD], rfl⟩) fun cv s2 ⟨z, H2, I2, r2, e1, e2⟩ => ?_
    subst e1 e2
    cases (show cv = Value.bool _ from r2)
    refine wpAny_truthy_bool ?_
    cases hxy : x == y with
    | true =>
      rw [hxy] at h
      show wpAny _ _ (assignInOrder [] []) _ _ _
      exact wpAny_assignInOrder_none (hb.pss.run pins s2 σ H2 D0 I2 (by simpa using h))
    | false =>
      rw [hxy] at h
      exact hk.run false pins s2 σ H2 D0 (.str x) w I2 r (by simpa using h)
  ev := fun v d F i se σ H F0 H0 D0 r f e p => by
    cases i with
    | str =>
      rename_i x
      refine ⟨x, rfl, ?_⟩
      by_cases h : (x == y) = true
      · rw [if_pos h]
        exact hb.ev se σ H F0 H0 F D0 r f (by simpa [kStr, h] using e) p
      · rw [if_neg h]
        exact hk.ev _ _ F .str se σ H F0 H0 D0 r f (by simpa [kStr, h] using e) p
    | _ => cases e
def sMatch (me : Env → Option D) (mk : D → SM) : SM := fun se => (me (rd false se)).bind fun d => mk d se
theorem s_match {cs : List MatchCase} {tr : V → TS} {mr : D → SM} (h : EX X e te me) (hk : EK X cs tr mr) : ES X (.Match e cs pos) (fun D0 σ H => te σ H fun v H1 => tr v D0 σ H1) (sMatch me mr) where
  ps := ⟨fun pins s σ H D0 I q => wpAny_Match (thn (h.pe.run pins s σ H (fun v H1 => tr v D0 σ H1) I q) fun w s1 ⟨v, H1, I1, r1, q1⟩ => hk.run true pins s1 σ H1 D0 v w I1 r1 q1)⟩
  ev := fun se σ H F0 H0 F D0 r f e p => by
    obtain ⟨d, e1, e2⟩ := Option.bind_eq_some_iff.mp e
    exact h.ev _ σ H _ _ d f.fit f.g.ok e1 fun v H1 F1 g1 r1 => hk.ev v d F1 r1 se σ H1 F0 H0 D0 r (f.grow g1) e2 (p.mono g1.f)

/-! ### try, the body does not raise -/
theorem s_try {hs : List ExceptHandler} {h0 : ExceptHandler} (hb : ∀ pn, ESs (X.tr pn (fun _ _ => False)) body u m) : ES X (.Try body (h0 :: hs) [] [] pos) u m where
  ps := ⟨fun pins s σ H D0 I h => by
    refine wpAny_Try_except (wpAny_mono ((hb (X.pn ++ pins)).pss.run [] s σ H D0 (I.toTry _) h) (fun f s1 q => ?_) fun e s1 q => False.elim q)
    have ok := I.ok
    cases f with
    | next => obtain ⟨σ', H', J, q⟩ := q; exact wpAny_execs_nil ⟨σ', H', J.ofTry ok, q⟩
    | brk => obtain ⟨σ', H', J, q⟩ := q; exact ⟨σ', H', J.ofTry ok, q⟩
    | cont => obtain ⟨σ', H', J, q⟩ := q; exact ⟨σ', H', J.ofTry ok, q⟩
    | ret u => obtain ⟨v, σ', H', J, r, q⟩ := q; exact ⟨v, σ', H', J.ofTry ok, r, q⟩⟩
  ev := (hb []).ev

/-! ### methods of built-in types, the type known by the datum -/
def TyP (X : Cx) (H : Hp) (x : V) (T : String) : Prop := ∀ (pins : List (Addr × Obj)) (σ : L2.St) (s : Shared) (v : Value), Inv X pins σ H s → RelV x v → s.TypeIs v T ∧ ∀ a, v = .ref a → ∃ ob, s.heap.get? a = some ob ∧ ob.dict = none
theorem Is.tyL {v : V} {ds : List D} (r : Is (zOf X) F v (.lst ds)) (s : Same F H) : TyP X H v "list" := fun pins σ sh w I rw_ => by
  cases r with
  | lst h l =>
    cases (show w = Value.ref _ from rw_)
    obtain ⟨its, rv, ⟨ob, n, h1, h2, h3, _⟩, _⟩ := I.list (same_l s h)
    exact ⟨⟨ob, h1, h2⟩, fun a e => by cases e; exact ⟨ob, h1, h3⟩⟩
theorem Is.tyT {v : V} {ds : List D} (r : Is (zOf X) F v (.tup ds)) (s : Same F H) : TyP X H v "tuple" := fun pins σ sh w I rw_ => by
  cases r with
  | tup h l =>
    cases (show w = Value.ref _ from rw_)
    obtain ⟨its, rv, ht, _⟩ := I.tuple (same_t s h)
    refine ⟨(show sh.heap.IsTuple _ its.toArray from ht).typeIs, fun a e => ?_⟩
    cases e
    rcases h with ⟨ob, h, hd⟩ | ⟨_, ob, h, hd⟩
    · exact ⟨ob, (I.hok _ _ (s _ _ h)).1, hd⟩
    · exact ⟨ob, I.kIn _ ob h, hd⟩
def tBMG (X : Cx) (T : String) (r : V → List V → Hp → VK → Prop) (to : TE) (t : TA) : TE := fun σ H Q => to σ H fun x H1 => TyP X H1 x T ∧ t σ H1 fun xs H2 => r x xs H2 Q
theorem pe_bmG {name : Str} {T id : String} {apos cpos : Pos} {r : V → List V → Hp → VK → Prop} (pa : PlainAttrs T) (slot : Slot T name id) (hty : typeOf (.builtin id) = pure (.type "method_descriptor")) (hm : MtR X id r) (ho : PE X o to) (ha : PA X (e :: es) t)
    (hbase : attributeBase o name X.env (eval o X.env) = eval o X.env)
    (hfew : ((backTo cpos (starEach (e :: es) X.env)).all (fun x => !x.1) && (backToKw cpos (keywordEach [] X.env)).all (fun x => x.1.isSome)
      && decide ((e :: es).length + ([] : List Keyword).length + (if ([] : List Keyword).isEmpty then 0 else 1) < 30)) = true)
    (hline : (apos.endLine == cpos.line) = true) (hs : starEach (e :: es) X.env = (false, eval e X.env) :: starEach es X.env) (hplain : (backTo cpos (starEach es X.env)).any (·.1) = false) :
    PE X (.Call (.Attribute o name apos) (e :: es) [] cpos) (tBMG X T r to t) := by
  refine ⟨fun pins s σ H Q I h => ?_⟩
  refine wpAny_Call_method_late hbase hfew hline rfl (thn (ho.run pins s σ H _ I h) fun v s1 ⟨x, H1, I1, r1, ty, q1⟩ => ?_)
  obtain ⟨h1, h2⟩ := ty pins σ s1 v I1 r1
  refine ⟨T, id, pa, slot, hty, h1, h2, ?_⟩
  have hA := ha.run cpos pins s1 σ H1 _ I1 q1
  rw [hs] at hA ⊢
  exact Calls.callWith_builtin (by show (false || (backTo cpos (starEach es X.env)).any (·.1)) = false; rw [hplain] <;> rfl) (Calls.evalArgs_plain (thn hA fun us s2 ⟨vs, H2, I2, r2, q2⟩ => hm pins s2 σ H2 x vs v us Q I2 r1 r2 q2))
/-! ### x.count(y) -/
def rCount (Z : Zc) : V → List V → Hp → VK → Prop := fun x vs H Q => ∃ F y ds d, vs = [y] ∧ Same F H ∧ (Is Z F x (.lst ds) ∨ Is Z F x (.tup ds)) ∧ Is Z F y d ∧ okL 30 ds = true ∧ okD 30 d = true ∧ Q (.int (ds.countP fun z => eqD z d)) H
theorem count_eqv {n m : Nat} {d : D} (h : okD n d = true) : ∀ ds : List D, okL m ds = true → ((pyOfL ds).countP fun y => PyData.eqv y (pyOf d)) = ds.countP fun z => eqD z d
  | [], _ => rfl
  | x :: ds, h' => by
    simp only [okL, Bool.and_eq_true] at h'
    simp only [pyOfL, List.countP_cons, count_eqv h ds h'.2, eqv_eq _ _ _ _ h'.1 h]
theorem count_room {k n m : Nat} {ds : List D} {d : D} {A : Around} (hr : Room k A) (h : okL 30 ds = true) (h' : okD 30 d = true) : A.units + 1 + min (PyData.depthAll (pyOfL ds)) (pyOf d).depth < cLine := by
  have d1 := depth_of _ _ h'
  have := hr.un
  omega
theorem mt_countL {k : Nat} (hr : Room k X.A) : MtR X "list.count" (fun x vs H Q => ∃ F y ds d, vs = [y] ∧ Same F H ∧ Is (zOf X) F x (.lst ds) ∧ Is (zOf X) F y d ∧ okL 30 ds = true ∧ okD 30 d = true ∧ Q (.int (ds.countP fun z => eqD z d)) H) := by
  intro pins s σ H x xs v us Q I rx rxs h
  obtain ⟨F, y, ds, d, rfl, f, h1, h2, o1, o2, q⟩ := h
  obtain ⟨u, rfl, ru⟩ := vals1 rxs
  obtain ⟨bs, r2⟩ := h2.reads I f o2 ru
  cases h1 with
  | @lst p xs ds' hq l =>
    obtain rfl : v = Value.ref p := rx
    obtain ⟨its, rv, pl, hz⟩ := I.list (same_l f hq)
    obtain ⟨as, ra⟩ := Dp.readsAll I (pyOfL ds) _ its (IsL.dp f o1 l) rv
    refine SeqAt.count_list_data (vs := its.toArray) pl.isList (by simpa using ra) r2 (plain_ofL _ _ o1) (plain_of _ _ o2) (count_room (n := 0) (m := 0) hr o1 o2) ?_
    rw [count_eqv o2 ds o1]
    exact ⟨.int _, H, I.tok _, ⟨_, rfl⟩, q⟩
theorem mt_countT {k : Nat} (hr : Room k X.A) : MtR X "tuple.count" (fun x vs H Q => ∃ F y ds d, vs = [y] ∧ Same F H ∧ Is (zOf X) F x (.tup ds) ∧ Is (zOf X) F y d ∧ okL 30 ds = true ∧ okD 30 d = true ∧ Q (.int (ds.countP fun z => eqD z d)) H) := by
  intro pins s σ H x xs v us Q I rx rxs h
  obtain ⟨F, y, ds, d, rfl, f, h1, h2, o1, o2, q⟩ := h
  obtain ⟨u, rfl, ru⟩ := vals1 rxs
  obtain ⟨bs, r2⟩ := h2.reads I f o2 ru
  cases h1 with
  | @tup p xs ds' hq l =>
    obtain rfl : v = Value.ref p := rx
    obtain ⟨its, rv, pl, hz⟩ := I.tuple (same_t f hq)
    obtain ⟨as, ra⟩ := Dp.readsAll I (pyOfL ds) _ its (IsL.dp f o1 l) rv
    refine SeqAt.count_tuple_data (vs := its.toArray) pl (by simpa using ra) r2 (plain_ofL _ _ o1) (plain_of _ _ o2) (count_room (n := 0) (m := 0) hr o1 o2) ?_
    rw [count_eqv o2 ds o1]
    exact ⟨.int _, H, I.tok _, ⟨_, rfl⟩, q⟩
def dCount (x y : D) : Option D := (sqD x).bind fun ds => if (okL 30 ds && okD 30 y) = true then some (.int (ds.countP fun z => eqD z y)) else none
theorem x_count {k : Nat} {apos cpos : Pos} (hr : Room k X.A) (ho : EX X o to mo) (ha : EX X a ta ma) (hs : starEach [a] X.env = (false, eval a X.env) :: starEach [] X.env := by rfl)
    (hbase : attributeBase o "count" X.env (eval o X.env) = eval o X.env := by rfl)
    (hfew : ((backTo cpos (starEach [a] X.env)).all (fun x => !x.1) && (backToKw cpos (keywordEach [] X.env)).all (fun x => x.1.isSome)
      && decide (([a] : List Expr).length + ([] : List Keyword).length + (if ([] : List Keyword).isEmpty then 0 else 1) < 30)) = true := by rfl)
    (hline : (apos.endLine == cpos.line) = true := by rfl) (hplain : (backTo cpos (starEach [] X.env)).any (·.1) = false := by rfl) :
    EX X (.Call (.Attribute o "count" apos) [a] [] cpos) (fun σ H Q => tBMG X "list" (fun x vs H Q => ∃ F y ds d, vs = [y] ∧ Same F H ∧ Is (zOf X) F x (.lst ds) ∧ Is (zOf X) F y d ∧ okL 30 ds = true ∧ okD 30 d = true ∧ Q (.int (ds.countP fun z => eqD z d)) H) to (tCons ta tNil) σ H Q ∨
      tBMG X "tuple" (fun x vs H Q => ∃ F y ds d, vs = [y] ∧ Same F H ∧ Is (zOf X) F x (.tup ds) ∧ Is (zOf X) F y d ∧ okL 30 ds = true ∧ okD 30 d = true ∧ Q (.int (ds.countP fun z => eqD z d)) H) to (tCons ta tNil) σ H Q) (mOp dCount mo ma) where
  pe := ⟨fun pins s σ H Q I h => by
    rcases h with h | h
    · exact (pe_bmG PySem.F.plainAttrs_list PySem.F.slot_list_count PySem.F.type_list_count (mt_countL hr) ho.pe (pa_cons ha.pe pa_nil hs) hbase hfew hline hs hplain).run pins s σ H Q I h
    · exact (pe_bmG PySem.F.plainAttrs_tuple PySem.F.slot_tuple_count PySem.F.type_tuple_count (mt_countT hr) ho.pe (pa_cons ha.pe pa_nil hs) hbase hfew hline hs hplain).run pins s σ H Q I h⟩
  ev := fun env σ H F Q d f s e k => by
    unfold mOp at e
    simp only [Option.bind_eq_bind, Option.bind_eq_some_iff] at e
    obtain ⟨x, e1, y, e2, e3⟩ := e
    obtain ⟨ds, e4, e5⟩ := Option.bind_eq_some_iff.mp (show (sqD x).bind _ = some d from e3)
    obtain ⟨oo, rfl⟩ := ite_some e5
    rw [Bool.and_eq_true] at oo
    cases x with
    | lst xs =>
      cases e4
      refine .inl ?_
      refine ho.ev env σ H F _ _ f s e1 fun v H1 F1 g1 r1 => ⟨r1.tyL g1.ok.s, ?_⟩
      refine ha.ev env σ H1 F1 _ y (f.mono g1.f) g1.ok e2 fun w H2 F2 g2 r2 => ?_
      exact ⟨F2, w, _, y, rfl, g2.ok.s, r1.mono g2.f, r2, oo.1, oo.2, k _ H2 F2 (g1.trans g2) .int⟩
    | tup xs =>
      cases e4
      refine .inr ?_
      refine ho.ev env σ H F _ _ f s e1 fun v H1 F1 g1 r1 => ⟨r1.tyT g1.ok.s, ?_⟩
      refine ha.ev env σ H1 F1 _ y (f.mono g1.f) g1.ok e2 fun w H2 F2 g2 r2 => ?_
      exact ⟨F2, w, _, y, rfl, g2.ok.s, r1.mono g2.f, r2, oo.1, oo.2, k _ H2 F2 (g1.trans g2) .int⟩
    | _ => cases e4
/-! ### xs.index(y), y is there -/
def idxD (d : D) : Nat → List D → Option Nat
  | _, [] => none
  | n, x :: xs => if eqD x d = true then some n else idxD d (n + 1) xs
theorem idxD_spec {d : D} : ∀ {xs : List D} {n j : Nat}, idxD d n xs = some j → ∃ i z, j = n + i ∧ xs[i]? = some z ∧ eqD z d = true ∧ ∀ (m : Nat) (z' : D), m < i → xs[m]? = some z' → eqD z' d = false
  | [], _, _, e => by cases e
  | x :: xs, n, j, e => by
    unfold idxD at e
    by_cases h : eqD x d = true
    · rw [if_pos h] at e
      cases e
      exact ⟨0, x, rfl, rfl, h, fun m z hm => absurd hm (Nat.not_lt_zero _)⟩
    · rw [if_neg h] at e
      obtain ⟨i, z, rfl, h1, h2, h3⟩ := idxD_spec e
      refine ⟨i + 1, z, by omega, by simpa using h1, h2, fun m z' hm hz => ?_⟩
      cases m with
      | zero => simp at hz; subst hz; simpa using h
      | succ m => exact h3 m z' (by omega) (by simpa using hz)
def dIndex (x y : D) : Option D := match x with
  | .lst ds => if (okL 30 ds && okD 30 y && SeqAt.shaped (pyOf (.lst ds)) && SeqAt.shaped (pyOf y)) = true then (idxD y 0 ds).map fun j => .int (j : Nat) else none
  | _ => none
theorem pyOfL_get {ds : List D} {j : Nat} {z : D} (h : ds[j]? = some z) : (pyOfL ds)[j]? = some (pyOf z) := by
  rw [pyOfL_map, List.getElem?_map, h]; rfl
theorem okL_get : ∀ {n : Nat} {ds : List D} {j : Nat} {z : D}, okL n ds = true → ds[j]? = some z → okD n z = true
  | n, x :: ds, 0, z, h, e => by
    simp only [okL, Bool.and_eq_true] at h
    simp at e; subst e; exact h.1
  | n, x :: ds, j + 1, z, h, e => by
    simp only [okL, Bool.and_eq_true] at h
    exact okL_get h.2 (by simpa using e)
theorem x_index {k : Nat} {apos cpos : Pos} (hr : Room k X.A) (ho : EX X o to mo) (ha : EX X a ta ma) (hs : starEach [a] X.env = (false, eval a X.env) :: starEach [] X.env := by rfl)
    (hbase : attributeBase o "index" X.env (eval o X.env) = eval o X.env := by rfl)
    (hfew : ((backTo cpos (starEach [a] X.env)).all (fun x => !x.1) && (backToKw cpos (keywordEach [] X.env)).all (fun x => x.1.isSome)
      && decide (([a] : List Expr).length + ([] : List Keyword).length + (if ([] : List Keyword).isEmpty then 0 else 1) < 30)) = true := by rfl)
    (hline : (apos.endLine == cpos.line) = true := by rfl) (hplain : (backTo cpos (starEach [] X.env)).any (·.1) = false := by rfl) :
    EX X (.Call (.Attribute o "index" apos) [a] [] cpos) (tBMG X "list" (rIndexD X.K) to (tCons ta tNil)) (mOp dIndex mo ma) where
  pe := pe_bmG PySem.F.plainAttrs_list PySem.F.slot_list_index PySem.F.type_list_index (mt_indexD (by have := hr.un; omega)) ho.pe (pa_cons ha.pe pa_nil hs) hbase hfew hline hs hplain
  ev := fun env σ H F Q d f s e k => by
    unfold mOp at e
    simp only [Option.bind_eq_bind, Option.bind_eq_some_iff] at e
    obtain ⟨x, e1, y, e2, e3⟩ := e
    cases x with
    | lst ds =>
      obtain ⟨oo, j, e4, rfl⟩ := (show (okL 30 ds && okD 30 y && SeqAt.shaped (pyOf (.lst ds)) && SeqAt.shaped (pyOf y)) = true ∧ ∃ j, idxD y 0 ds = some j ∧ D.int (j : Nat) = d from by
        have e3' : (if (okL 30 ds && okD 30 y && SeqAt.shaped (pyOf (.lst ds)) && SeqAt.shaped (pyOf y)) = true then (idxD y 0 ds).map fun j => D.int (j : Nat) else none) = some d := e3
        by_cases hz : (okL 30 ds && okD 30 y && SeqAt.shaped (pyOf (.lst ds)) && SeqAt.shaped (pyOf y)) = true
        · rw [if_pos hz] at e3'
          obtain ⟨j, a1, a2⟩ := Option.map_eq_some_iff.mp e3'
          exact ⟨hz, j, a1, a2⟩
        · rw [if_neg hz] at e3'; cases e3')
      simp only [Bool.and_eq_true] at oo
      obtain ⟨⟨⟨o1, o2⟩, s1⟩, s2⟩ := oo
      obtain ⟨i, z, hj, h1, h2, h3⟩ := idxD_spec e4
      rw [Nat.zero_add] at hj
      subst hj
      refine ho.ev env σ H F _ _ f s e1 fun v H1 F1 g1 r1 => ⟨r1.tyL g1.ok.s, ?_⟩
      refine ha.ev env σ H1 F1 _ y (f.mono g1.f) g1.ok e2 fun w H2 F2 g2 r2 => ?_
      have r3 := r1.mono g2.f
      cases hv : r3 with
      | @lst p xs ds' hq l =>
        refine ⟨p, w, pyOf y, pyOfL ds, j, pyOf z, rfl, rfl, (Is.dp (n := 31) g2.ok.s (by simpa only [okD] using o1) r3), Is.dp g2.ok.s o2 r2, s1, s2, pyOfL_get h1, ?_, fun m z' hm hz' => ?_, k _ H2 F2 (g1.trans g2) .int⟩
        · rw [eqv_eq _ _ _ _ (okL_get o1 h1) o2]; exact h2
        · rw [pyOfL_map, List.getElem?_map] at hz'
          obtain ⟨z0, a1, rfl⟩ := Option.map_eq_some_iff.mp hz'
          rw [eqv_eq _ _ _ _ (okL_get o1 a1) o2]
          exact h3 m z0 hm a1
    | _ => cases e3
end EX
set_option Elab.async false
set_option linter.all false
set_option autoImplicit false
set_option maxRecDepth 100000
set_option maxHeartbeats 4000000
/-! E19: sorted(list). -/
namespace EX
open PySem L2
variable [Tb] {Z : Zc} {F F' F1 F2 H H' H1 H2 F0 H0 : Hp} {X : Cx} {ta tb tc te to : TE} {ma mb mc me mo : Env → Option D} {t : TA} {ms : Env → Option (List D)} {pos : Pos} {e a b c o : Expr} {es : List Expr}
  {qa qb qc : TT} {na nb nc : Env → Option Bool} {tg iter : Expr} {se : SEnv} {σ : L2.St}
def tupled : D → Bool
  | .tup (_ :: _) => true
  | _ => false
def flatly : D → Bool
  | .bl _ => true
  | .int _ => true
  | .str _ => true
  | .lst _ => true
  | _ => false
def sortOk (ds : List D) : Bool := (ds.all fun x => ds.all fun y => PySem.W.alike (pyOf x) (pyOf y)) && (ds.all tupled || ds.all flatly)
theorem sort_alike {ds : List D} (h : sortOk ds = true) : PySem.W.AllAlike (ds.map pyOf) := by
  unfold sortOk at h
  rw [Bool.and_eq_true, List.all_eq_true] at h
  intro x hx y hy
  obtain ⟨x', h1, rfl⟩ := List.mem_map.mp hx
  obtain ⟨y', h2, rfl⟩ := List.mem_map.mp hy
  exact List.all_eq_true.mp (h.1 x' h1) y' h2
theorem sort_able {ds : List D} (h : sortOk ds = true) : PySem.W.Sortable (ds.map pyOf) := by
  unfold sortOk at h
  rw [Bool.and_eq_true, Bool.or_eq_true] at h
  rcases h.2 with h | h
  · refine .inl fun d hd => ?_
    obtain ⟨x, h1, rfl⟩ := List.mem_map.mp hd
    have h2 := List.all_eq_true.mp h x h1
    cases x with
    | tup xs =>
      cases xs with
      | nil => cases h2
      | cons y ys => exact ⟨pyOf y, pyOfL ys, by simp only [pyOf, pyOfL]⟩
    | _ => cases h2
  · refine .inr fun d hd => ?_
    obtain ⟨x, h1, rfl⟩ := List.mem_map.mp hd
    have h2 := List.all_eq_true.mp h x h1
    cases x with
    | tup xs => cases h2
    | non => cases h2
    | dct _ => cases h2
    | obj _ _ => cases h2
    | adr _ => cases h2
    | dki _ => cases h2
    | bl _ => exact ⟨fun e => (by simp only [pyOf] at e; cases e), fun xs e => (by simp only [pyOf] at e; cases e)⟩
    | int _ => exact ⟨fun e => (by simp only [pyOf] at e; cases e), fun xs e => (by simp only [pyOf] at e; cases e)⟩
    | str _ => exact ⟨fun e => (by simp only [pyOf] at e; cases e), fun xs e => (by simp only [pyOf] at e; cases e)⟩
    | lst _ => exact ⟨fun e => (by simp only [pyOf] at e; cases e), fun xs e => (by simp only [pyOf] at e; cases e)⟩
def sortD (ds : List D) : List D := ds.mergeSort (PySem.W.dataLe false pyOf)
theorem each_of : ∀ {vs : List V} {us : List Value} {ds : List D}, Vals vs us → IsL Z F vs ds → PySem.W.EachIs (fun u d => ∃ v, RelV v u ∧ Is Z F v d) us ds
  | [], _, _, .nil, .nil => .nil
  | _ :: _, _, _, .cons r rs, .cons i l => .cons ⟨_, r, i⟩ (each_of rs l)
theorem of_each : ∀ {us : List Value} {ds : List D}, PySem.W.EachIs (fun u d => ∃ v, RelV v u ∧ Is Z F v d) us ds → ∃ vs, Vals vs us ∧ IsL Z F vs ds
  | _, _, .nil => ⟨[], .nil, .nil⟩
  | _, _, .cons ⟨v, r, i⟩ t => by
    obtain ⟨vs, h1, h2⟩ := of_each t
    exact ⟨v :: vs, .cons r h1, .cons i h2⟩
theorem each_reads {h : Heap} : ∀ {us : List Value} {ds : List D} {as : List Addr}, ReadsAll h us (pyOfL ds) as → PySem.W.EachIs (fun u d => ∃ as, Reads h u (pyOf d) as) us ds
  | _, [], _, .nil => .nil
  | _, d :: ds, _, r => by
    simp only [pyOfL] at r
    cases r with
    | cons h1 h2 => exact .cons ⟨_, h1⟩ (each_reads h2)
theorem depth_mem : ∀ {n : Nat} {ds : List D} {d : D}, okL n ds = true → d ∈ ds → okD n d = true
  | n, x :: ds, d, h, m => by
    simp only [okL, Bool.and_eq_true] at h
    rcases List.mem_cons.mp m with rfl | m
    · exact h.1
    · exact depth_mem h.2 m
  | _, [], _, _, m => by cases m
def rSorted (Z : Zc) : List V → Hp → VK → Prop := fun xs H Q => ∃ F v ds, xs = [v] ∧ Same F H ∧ Is Z F v (.lst ds) ∧ okL 30 ds = true ∧ sortOk ds = true ∧ ∀ p us, H p = none → IsL Z F us (sortD ds) → Q (.ref p) (upd H p (.lst us))
theorem cr_sorted {k : Nat} (hr : Room k X.A) : CallR X (.builtin "sorted") (rSorted (zOf X)) := by
  intro pins s σ H xs us Q I r h
  obtain ⟨F, v, ds, rfl, f, h1, o1, so, q⟩ := h
  obtain ⟨u, rfl, ru⟩ := vals1 r
  cases h1 with
  | @lst p xs ds' hq l =>
    obtain rfl : u = Value.ref p := ru
    obtain ⟨its, rv, pl, hz⟩ := I.list (same_l f hq)
    obtain ⟨as, ra⟩ := Dp.readsAll I (pyOfL ds) _ its (IsL.dp f o1 l) rv
    refine PySem.W.sorted_data (enc := pyOf) pl.isList (each_of rv l) (each_reads ra) (sort_alike so) (sort_able so) (by rw [← l.length]; exact hz) (fun d hd => ?_) fun out ho eo => ?_
    · have d1 := depth_of _ _ (depth_mem o1 hd)
      have := hr.un
      omega
    · obtain ⟨vs, rv2, l2⟩ := of_each eo
      obtain ⟨ep, he'⟩ := PyProof.Rows.sortedAll_at s.heap its out.toArray
      have hlen : vs.length ≤ sizeLine := by rw [rv2.length, ho, ← l.length]; exact hz
      exact ⟨.ref _, upd H (s.heap.objs.size + 1) (.lst vs), I.laid (t' := s.toks) (fun _ _ => PyProof.Rows.sortedAll_old) (Nat.le_succ _) ⟨hlen, out, ep, rv2, he'⟩, rfl, q _ _ (I.hok.fresh (Nat.le_succ _)) l2⟩
def dSorted : List D → Option (List D)
  | [.lst ds] => if (okL 30 ds && sortOk ds) = true then some (sortD ds) else none
  | _ => none
theorem cd_sorted {k : Nat} (hr : Room k X.A) : CDF X (.builtin "sorted") (rSorted (zOf X)) dSorted := ⟨cr_sorted hr, fun vs ds H F Q d r s e k => by
  unfold dSorted at e
  split at e
  · obtain ⟨oo, rfl⟩ := ite_some e
    rw [Bool.and_eq_true] at oo
    obtain ⟨v, rfl, r0⟩ := r.one
    exact ⟨F, v, _, rfl, s.s, r0, oo.1, oo.2, fun p us hp l => k p us _ F (Grow.made s hp) (s.none_of hp) hp upd_same l⟩
  · cases e⟩
theorem x_callBF {x : Str} {p : Pos} {bid : String} {r : List V → Hp → VK → Prop} {gF : List D → Option (List D)} (hc : CDF X (.builtin bid) r gF) (hm : X.mg x = none) (ha : EA X (e :: es) t ms) (hv : bootBuiltins x = some (.builtin bid) := by decide +kernel) (hg : Gl X x := by rfl) (hn : x ≠ "__name__" := by decide) (hdb : (x == ("__debug__" : Str)) = false := by decide)
    (he : starEach (e :: es) X.env = (false, eval e X.env) :: starEach es X.env := by rfl) (hpl : (backTo pos (starEach es X.env)).any (·.1) = false := by rfl) : EXF X (.Call (.Name x p) (e :: es) [] pos) (tCB r t) (fCall ms gF) :=
  ⟨pe_callB hc.op hg hm hv ha.pa hn hdb he hpl, ev_callBF hc.ev ha.ev⟩
end EX
set_option Elab.async false
set_option linter.all false
set_option autoImplicit false
set_option maxRecDepth 100000
set_option maxHeartbeats 4000000
/-! E20: tuple(range(..)), x[::-1]. -/
namespace L2
open PySem PySem.Spec PyProof.Rows HT
section
variable {prog : Program} {w : World} {A : Around} {E : Value → Shared → Prop} {s : Shared}
theorem rv_places (n : Nat) : Builtin.Slice.slicePlaces ((n : Int) - 1) (-1) (-1) = n := by
  unfold Builtin.Slice.slicePlaces
  have h1 : ¬ ((-1 : Int) > 0) := by decide
  simp only [h1, if_false]
  rw [show (- -1 : Int) = 1 by decide, Int.ediv_one]
  split <;> omega
theorem rv_applied {sl : Addr} {vs : Value} {n : Nat} {Q : Int × Int × Nat → Shared → Prop} (hs : s.heap.IsSliceOf sl .none .none vs) (ps : IsPart vs (some (-1))) (h : Q ((n : Int) - 1, -1, n) s) : wpAny (model prog w) A (Builtin.Slice.sliceApplied (.ref sl) (pure (n : Int))) Q E s := by
  obtain ⟨os, hos, hcs, hds⟩ := id hs
  unfold Builtin.Slice.sliceApplied Builtin.Slice.sliceFields
  refine wpAny_bind (wpAny_bind (wpAny_field hos hds (x := .none) rfl (wpAny_bind (wpAny_field hos hds (x := .none) rfl (wpAny_bind (wpAny_field hos hds (x := vs) rfl (wpAny_pure ?_)))))))
  refine wpAny_bind (slicePart_ ps ?_)
  show wpAny _ _ (if ((-1 : Int) == 0) = true then _ else _) _ _ s
  rw [if_neg (by decide)]
  refine wpAny_bind (slicePart_none (wpAny_bind (slicePart_none (wpAny_bind (wpAny_pure ?_)))))
  show wpAny _ _ (pure ((n : Int) - 1, (-1 : Int), Builtin.Slice.slicePlaces ((n : Int) - 1) (-1) (-1))) _ _ s
  rw [rv_places]
  exact wpAny_pure h
theorem rv_congr {α β : Type} {f g : α → Option β} : ∀ {l : List α}, (∀ x ∈ l, f x = g x) → l.filterMap f = l.filterMap g
  | [], _ => rfl
  | x :: xs, h => by
    rw [List.filterMap_cons, List.filterMap_cons, h x List.mem_cons_self, rv_congr fun y hy => h y (List.mem_cons_of_mem _ hy)]
theorem rv_pick (xs : Array Value) : ((List.range xs.size).filterMap fun (k : Nat) => xs[((xs.size : Int) - 1 + (k : Int) * (-1)).toNat]?).toArray = xs.toList.reverse.toArray := by
  have e : ((List.range xs.size).filterMap fun (k : Nat) => xs[((xs.size : Int) - 1 + (k : Int) * (-1)).toNat]?) = ((List.range xs.size).map fun k => xs.size - 1 - k).filterMap (xs[·]?) := by
    rw [List.filterMap_map]
    refine rv_congr fun k hk => ?_
    have := List.mem_range.mp hk
    have q : ((xs.size : Int) - 1 + (k : Int) * (-1)).toNat = xs.size - 1 - k := by omega
    show xs[_]? = xs[_]?
    rw [q]
  rw [e, PySem.W.krv_range, List.filterMap_reverse, PySem.W.krv_all]
theorem getItem_tuple_rev {t sl : Addr} {items : Array Value} {vs : Value} {Q : Value → Shared → Prop} (ht : IsTup s.heap t items) (hs : s.heap.IsSliceOf sl .none .none vs) (ps : IsPart vs (some (-1)))
    (h : Q (.ref s.heap.objs.size) { s with heap := s.heap.push { cls := .type "tuple", data := .seq items.toList.reverse.toArray } }) (hsz : items.size ≤ sizeLine) : wpAny (model prog w) A (getItem (.ref t) (.ref sl)) Q E s := by
  have htake : sizeOk (.seq items.toList.reverse.toArray) := by
    show items.toList.reverse.toArray.size ≤ sizeLine
    rw [List.size_toArray, List.length_reverse, Array.length_toList]
    omega
  obtain ⟨os, hos, hcs, hds⟩ := id hs
  have hTs : s.TypeIs (.ref sl) "slice" := ⟨os, hos, hcs⟩
  unfold getItem
  try with_reducible refine wpAny_holding ?_
  first | refine wpAny_bind (wpAny_pure ?_) | skip
  refine wpAny_bind (wpAny_sequenceKey ht.typeIs (by decide) ?_)
  refine wpAny_bind (wpAny_callSpecial?_slot (name := Str.ofString "__getitem__") ht.typeIs PyProof.Rows.slot_tuple_getitem
    (wpAny_call_entry PyProof.Rows.slot_tuple_getitem ht.typeIs entry_tuple_getitem ?_ (args_tuple_getitem _ _)))
  show wpAny _ _ (Builtin.Tuple.tupleItemsOf (.ref t) >>= _) _ _ s
  refine wpAny_bind (tupleItemsOf_ ht ?_)
  refine wpAny_bind (wpAny_typeOf hTs ?_)
  rw [if_pos (by decide)]
  refine wpAny_bind (rv_applied hs ps ?_)
  have hno : ¬ ((((items.size : Int) - 1) == 0 && (-1 : Int) == 1 && items.size == items.size) = true) := by
    intro q
    rw [Bool.and_eq_true, Bool.and_eq_true] at q
    exact absurd q.1.2 (by decide)
  show wpAny _ _ (if (((items.size : Int) - 1) == 0 && (-1 : Int) == 1 && items.size == items.size) = true then _ else _) _ _ s
  rw [if_neg hno, rv_pick]
  first
    | exact wpAny_bind (m := Builtin.Tuple.tupleExact _) (wpAny_newObj_type (wpAny_pure ⟨_, rfl, wpAny_pure h⟩) htake)
    | exact wpAny_bind (m := Builtin.Tuple.tupleExact _) (wpAny_newObj_type (wpAny_bind (wpAny_pure (wpAny_pure ⟨_, rfl, wpAny_pure h⟩))) htake)
    | exact wpAny_bind (wpAny_bind (m := Builtin.Tuple.tupleExact _) (wpAny_newObj_type (wpAny_pure (wpAny_pure ⟨_, rfl, wpAny_pure h⟩)) htake))
    | exact wpAny_bind (wpAny_bind (m := Builtin.Tuple.tupleExact _) (wpAny_newObj_type (wpAny_pure ⟨_, rfl, wpAny_pure h⟩) htake))
end
end L2
namespace EX
open PySem L2
open PyProof.Rows (subscriptTail tail_any boot_tuple)
variable [Tb] {Z : Zc} {F F' F1 F2 H H' H1 H2 F0 H0 : Hp} {X : Cx} {ta tb tc te to : TE} {ma mb mc me mo : Env → Option D} {t : TA} {ms : Env → Option (List D)} {pos : Pos} {e a b c o : Expr} {es : List Expr}
  {qa qb qc : TT} {na nb nc : Env → Option Bool} {tg iter : Expr} {se : SEnv} {σ : L2.St}
def tRevA (K : PySem.W.Frag) (te : TE) : TE := fun σ H Q => te σ H fun x H1 => ∃ a xs, x = .ref a ∧ ((SqL K H1 a xs ∧ ∀ p, H1 p = none → Q (.ref p) (upd H1 p (.lst xs.reverse))) ∨
  (SqT K H1 a xs ∧ ∀ (p : Addr) (o : Obj), H1 p = none → o.dict = none → Q (.ref p) (upd H1 p (.frz o (.tup xs.reverse)))))
def revD : D → Option D
  | .lst ds => some (.lst ds.reverse)
  | .tup ds => some (.tup ds.reverse)
  | _ => none
theorem x_rev {k : Nat} {p1 p2 p3 : Pos} (he : EX X e te me) : EX X (.Subscript e (.Slice none none (some (.UnaryOp .USub (.Constant (.int 1) k p1) p2)) p3) pos) (tRevA X.K te) (fun env => (me env).bind revD) where
  pe := by
    refine ⟨fun pins s σ H Q I h => ?_⟩
    refine PyProof.Rows.Subscript_ (thn (he.pe.run pins s σ H _ I h) fun v s1 ⟨x, H1, I1, r1, q1⟩ => ?_)
    obtain ⟨a, xs, ex, hx⟩ := q1
    subst ex
    cases r1
    have hst : PO X (some (.UnaryOp .USub (.Constant (.int 1) k p1) p2)) (tPart (tUn (rU fun i => .int (-i)) (tC (.int 1)))) := po_some (pe_un un_neg pe_int)
    refine wpAny_Slice (thn (po_none.run pins s1 σ H1 (fun o H2 => o = none ∧ H2 = H1) I1 ⟨rfl, rfl⟩) fun vl s2 ⟨l, H2, I2, pl, el, e2⟩ => ?_)
    subst el e2
    refine thn (po_none.run pins s2 σ H2 (fun o H3 => o = none ∧ H3 = H2) I2 ⟨rfl, rfl⟩) fun vu s3 ⟨u, H3, I3, pu, eu, e3⟩ => ?_
    subst eu e3
    refine thn (hst.run pins s3 σ H3 (fun o H4 => o = some (-1) ∧ H4 = H3) I3 ⟨1, rfl, -1, rfl, rfl, rfl⟩) fun vs s4 ⟨o, H4, I4, ps, eo, e4⟩ => ?_
    subst eo e4
    have I5 : Inv X pins σ H4 { s4 with heap := s4.heap.push { cls := .type "slice", data := .fields #[vl, vu, vs] } } := I4.kept (t' := s4.toks) fun b ob q => Heap.get?_push_of_some _ q
    show wpAny (model X.prog X.w) X.A (subscriptTail e (.Slice none none (some (.UnaryOp .USub (.Constant (.int 1) k p1) p2)) p3) (.ref a) (.ref s4.heap.objs.size)) (EP X pins σ Q) X.xe { s4 with heap := s4.heap.push { cls := .type "slice", data := .fields #[vl, vu, vs] } }
    rcases hx with ⟨hx, q⟩ | ⟨hx, q⟩
    · obtain ⟨its, r, ht, hz⟩ := I5.list hx
      have hlen := r.length
      refine tail_any (ops := [.ref a, .ref s4.heap.objs.size]) ht.isList.typeIs (PySem.slot_list_getitem.lookup) ?_ (by with_unfolding_all rfl)
      refine wpAny_getItem_list_slice ht.isList (Heap.IsSliceOf.new _ vl vu vs) pl pu ps (by decide) ?_ (by rw [List.size_toArray]; omega)
      rw [PySem.W.krv_pick]
      refine ⟨.ref _, _, I5.laid (t' := s4.toks) (o := .lst xs.reverse) (fun b ob q => Heap.get?_push_of_some _ q) (Nat.le_refl _) ?_, rfl, q _ (I5.hok.fresh (Nat.le_refl _))⟩
      exact ⟨by rw [List.length_reverse]; exact hz, _, 0, r.reverse, Heap.get?_push_size _ rfl⟩
    · obtain ⟨its, r, ht, hz⟩ := I5.tuple hx
      have hlen := r.length
      cases pl
      cases pu
      refine tail_any (ops := [.ref a, .ref s4.heap.objs.size]) ht.typeIs (PyProof.Rows.slot_tuple_getitem.lookup) ?_ (by with_unfolding_all rfl)
      refine getItem_tuple_rev ht (Heap.IsSliceOf.new _ _ _ vs) ps ?_ (by rw [List.size_toArray]; omega)
      exact ⟨.ref _, _, I5.laid (t' := s4.toks) (fun b ob q => Heap.get?_push_of_some _ q) (Nat.le_refl _) (tup_ok (xs := xs.reverse) (by rw [List.length_reverse]; exact hz) r.reverse (Heap.get?_push_size _ rfl) rfl ⟨_, rfl⟩), rfl, q _ _ (I5.hok.fresh (Nat.le_refl _)) rfl⟩
  ev := fun env σ H F Q d f s e k => by
    obtain ⟨x, e1, e2⟩ := Option.bind_eq_some_iff.mp e
    refine he.ev env σ H F _ x f s e1 fun v H1 F1 g1 r1 => ?_
    cases r1 with
    | @lst pa xs ds q il =>
      cases e2
      exact ⟨pa, xs, rfl, .inl ⟨same_l g1.ok.s q, fun p hp => k _ _ _ (g1.trans (Grow.new g1.ok hp lst_nt)) (.lst (.of upd_same) (il.reverse.mono (Grow.new g1.ok hp lst_nt).f))⟩⟩
    | @tup pa xs ds q il =>
      cases e2
      exact ⟨pa, xs, rfl, .inr ⟨same_t g1.ok.s q, fun p o hp hd => k _ _ _ (g1.trans (Grow.new g1.ok hp tup_nt)) (.tup (.new hd) (il.reverse.mono (Grow.new g1.ok hp (tup_nt (o := o))).f))⟩⟩
    | _ => cases e2
/-! ### tuple(range(n)) -/
def tTupRgF (te : St → Hp → (Int → Int → Hp → Prop) → Prop) : TE := fun σ H Q => te σ H fun a b H1 => RgOk a b ∧ ∀ (q : Addr) (o : Obj), H1 q = none → o.dict = none → Q (.ref q) (upd H1 q (.frz o (.tup (rgV a b))))
theorem pe_tupRgF {te : St → Hp → (Int → Int → Hp → Prop) → Prop} {p : Pos} (hc : X.calm = true) (hg : Gl X "tuple") (hm : X.mg "tuple" = none) (he : PRg X e te) (na : starEach [e] X.env = (false, eval e X.env) :: starEach [] X.env := by rfl) : PE X (.Call (.Name "tuple" p) [e] [] pos) (tTupRgF te) := by
  refine ⟨fun pins s σ H Q I h => ?_⟩
  refine PyProof.Rows.Call_ (ld_blt I hg hm boot_tuple (PyProof.Rows.callWith_type1 (PyProof.Rows.args_cons (thn (he pins s σ H _ I h) fun x s1 ⟨r, a, b, t, u, v, H1, ex, hr, I1, ok, q⟩ => PyProof.Rows.args_nil ?_) na) na))
  subst ex
  obtain ⟨b1, b2, b3, b4, b5⟩ := ok
  refine call_tuple_range (n := (b - a).toNat) (I1.ok.hd hc) hr (small_one b1 b2 b3 b4) (PyProof.Rows.rangeSize_nat a b) b5 fun h' tk acc hk hi => ?_
  have I2 : Inv X pins σ H1 { s1 with heap := h', toks := tk } := I1.kept hk
  exact ⟨.ref h'.objs.size, _, I2.laid (t' := tk) (fun c o e => Heap.get?_push_of_some _ e) (Nat.le_refl _) (tup_ok (xs := rgV a b) (by rw [rgV_length, sizeLine_eq]; omega) (vals_rg hi) (by rw [Array.toArray_toList]; exact Heap.get?_push_size _ rfl) rfl ⟨_, rfl⟩), rfl, q _ _ (I2.hok.fresh (Nat.le_refl _)) rfl⟩
def rgD (n : Int) : List D := (List.range n.toNat).map fun i => D.int (i : Nat)
theorem rg_is (n : Int) : IsL Z F (rgV 0 n) (rgD n) := by
  unfold rgV rgD
  rw [Int.sub_zero]
  generalize List.range n.toNat = l
  induction l with
  | nil => exact .nil
  | cons x xs ih =>
    rw [List.map_cons, List.map_cons, Int.zero_add]
    exact .cons .int ih
def tupRg : D → Option D
  | .int n => if decide (0 ≤ n) && decide (n ≤ 16777216) then some (.tup (rgD n)) else none
  | _ => none
theorem x_tupRg {p1 p2 : Pos} {pos2 : Pos} (hc : X.calm = true) (hm : X.mg "tuple" = none) (hm2 : X.mg "range" = none) (ha : EX X a ta ma) (hg : Gl X "tuple" := by rfl) (hg2 : Gl X "range" := by rfl)
    (na : starEach [a] X.env = (false, eval a X.env) :: starEach [] X.env := by rfl) (nb : starEach [.Call (.Name "range" p2) [a] [] pos2] X.env = (false, eval (.Call (.Name "range" p2) [a] [] pos2) X.env) :: starEach [] X.env := by rfl) :
    EX X (.Call (.Name "tuple" p1) [.Call (.Name "range" p2) [a] [] pos2] [] pos) (tTupRgF (tRg1 ta)) (fun env => (ma env).bind tupRg) where
  pe := pe_tupRgF hc hg hm (prg_1 hg2 hm2 ha.pe na) nb
  ev := fun env σ H F Q d f s e k => by
    obtain ⟨x, e1, e2⟩ := Option.bind_eq_some_iff.mp e
    refine ha.ev env σ H F _ x f s e1 fun v H1 F1 g1 r1 => ?_
    cases r1 with
    | @int n =>
      obtain ⟨hz, rfl⟩ := ite_some e2
      rw [Bool.and_eq_true] at hz
      have h0 := of_decide_eq_true hz.1
      have h1 := of_decide_eq_true hz.2
      exact ⟨n, rfl, RgOk.of_le (Int.le_refl 0) h1 (by decide) h0, fun p o hp hd => k _ _ _ (g1.trans (Grow.new g1.ok hp tup_nt)) (.tup (.new hd) (rg_is n))⟩
    | _ => cases e2
end EX
set_option Elab.async false
set_option linter.all false
set_option autoImplicit false
set_option maxRecDepth 100000
set_option maxHeartbeats 4000000
/-! E21: list(o), o an object with def __iter__: return iter(self.f), no __len__. -/
namespace EX
open PySem L2
open PyProof.Rows (subscriptTail tail_any boot_tuple)
variable [Tb] {Z : Zc} {F F' F1 F2 H H' H1 H2 F0 H0 : Hp} {X : Cx} {ta tb tc te to : TE} {ma mb mc me mo : Env → Option D} {t : TA} {ms : Env → Option (List D)} {pos : Pos} {e a b c o : Expr} {es : List Expr}
  {qa qb qc : TT} {na nb nc : Env → Option Bool} {tg iter : Expr} {se : SEnv} {σ : L2.St}
theorem walksB {prog : Program} {w : World} {A : Around} (b : Bool) (hh : A.handled = none) (it l : Addr) (hne : l ≠ it) (items : Array Value) :
    Walks prog w A it [it, l] [it] items.size (fun i v => items[i]? = some v) (fun i h => ItB b h it l i ∧ SB b h l items) := by
  cases b
  · exact Walks.tuple hh it l hne items
  · exact Walks.list hh it l hne items
structure NoLen (K : PySem.W.Frag) (C : Nat) : Prop where
  nolen : PySem.W.findIn K (.ref (Tb.Cl C)) "__len__" = some none
  nohint : PySem.W.findIn K (.ref (Tb.Cl C)) "__length_hint__" = some none
theorem hint_none {M : Model} {A : Around} {E : Value → Shared → Prop} {s : Shared} {a : Addr} {Q : Bool → Shared → Prop} {K : PySem.W.Frag} {ox : Obj} {od : Option Obj} {C : Nat} (hc : NoLen K C) (hK : K.In s.heap) (J : PySem.W.InstAt s.heap a ox (Tb.Cl C) od) (h : Q true s) :
    wpAny M A (Builtin.List.listLengthHint (.ref a)) Q E s := by
  unfold Builtin.List.listLengthHint
  refine wpAny_bind (wpAny_bind (J.type.here ((PySem.W.looks_findIn hK hc.nolen).here ?_)))
  refine PySem.W.KFB.if_not rfl ?_
  refine PySem.W.KFB.if_not rfl ?_
  refine wpAny_bind (wpAny_bind (J.type.here ((PySem.W.looks_findIn hK hc.nohint).here ?_)))
  exact wpAny_pure h
def rListO (K : PySem.W.Frag) (C i : Nat) : List V → Hp → VK → Prop := fun vs H Q => ∃ a dx ws b l zs, vs = [.ref a] ∧ SlX.Slt H a (Tb.Cl C) dx ws ∧ ws[i]? = some (some (.ref l)) ∧ SqB K b H l zs ∧ ∀ p, H p = none → Q (.ref p) (upd H p (.lst zs))
section
variable {pins : List (Addr × Obj)} {s : Shared}
/-- the list S and the iterator have changed: the list is ours again -/
theorem inv_filled {S it : Addr} {zs : List V} {its : List Value} {acc : Array Value} {hF : Heap} {tk c c' : Nat} (I : Inv X pins σ H s) (hS : H S = some (.lst [])) (hSo : s.heap.get? S = some { cls := .type "list", data := .seq #[] c }) (fp : FpOk X pins H it) (hne : S ≠ it)
    (k : ∀ b o, b ≠ S → b ≠ it → s.heap.get? b = some o → hF.get? b = some o) (hF1 : hF.get? S = some { cls := .type "list", dict := none, data := .seq acc c', slots := #[] }) (rv : Vals zs its) (ha : acc = its.toArray) (hz : zs.length ≤ sizeLine) :
    Inv X pins σ (upd H S (.lst zs)) { s with heap := hF, toks := tk } := by
  have hlt : S < hF.objs.size := Heap.lt_size hF1
  have I1 : Inv X pins σ H { s with heap := hF.update S (fun _ => { cls := .type "list", data := .seq #[] c }), toks := tk } := by
    refine I.turnedL (ch := [it]) (fun b o hb q => ?_) (fun b hb => by rw [List.mem_singleton.mp hb]; exact fp)
    by_cases hbS : b = S
    · subst hbS
      rw [hSo] at q
      cases q
      exact Heap.get?_update_self (fun _ => { cls := .type "list", data := .seq #[] c }) hF1 rfl
    · exact (Heap.get?_update_other _ _ (Ne.symm hbS)).trans (k b o hbS (fun z => hb (by simp [z])) q)
  refine Inv.write (s := { s with heap := hF.update S (fun _ => { cls := .type "list", data := .seq #[] c }), toks := tk }) (e := S) (t' := tk) I1 (by rw [hS]; trivial) (.inl rfl) (fun b u hb q => ?_) ⟨_, hF1⟩ ⟨hz, its, c', rv, by rw [hF1, ha]⟩
  exact (Heap.get?_update_other _ _ (Ne.symm hb)).symm.trans q
end
theorem items_eq {acc items : Array Value} (h : ItemsOf (fun i v => items[i]? = some v) acc items.size) : acc = items := by
  refine Array.ext h.1 fun i h1 h2 => ?_
  have q : items[i]? = some acc[i] := h.2 i acc[i] (Array.getElem?_eq_getElem h1)
  rw [Array.getElem?_eq_getElem h2] at q
  exact (Option.some.inj q).symm
theorem call_listO {C i k j : Nat} (hI : ItF X.prog X.w X.K X.mg X.base C i k) (hN : NoLen X.K C) (hr : Room (j + 2) X.A) (hkj : k ≤ j) (hc : X.calm = true) : CallR X (.type "list") (rListO X.K C i) := by
  obtain ⟨fi, h1, h2, FF⟩ := hI.ex
  intro pins s σ H xs us Q I r h
  obtain ⟨a, dx, ws, b, l, zs, rfl, hs, hw, hq, q⟩ := h
  obtain ⟨u, rfl, ru⟩ := r.one
  obtain rfl : u = Value.ref a := ru
  have sb : Sub X j X.A.in1.in1 := (Sub.in1 (Sub.in1 (⟨hr, rfl⟩ : Sub X (j + 2) X.A)))
  refine callType_codes (Q₁ := fun obj s₁ => obj = .ref s.heap.objs.size ∧ s₁ = { s with heap := s.heap.push { cls := .type "list", data := .seq #[] } }) PySem.F.called_list (PySem.F.typeCall_list_1 _) PySem.F.entry_list_init
    (code_list_new _ ⟨rfl, rfl⟩) fun obj s₁ h₁ => ?_
  obtain ⟨rfl, rfl⟩ := h₁
  have hS : (s.heap.push { cls := .type "list", data := .seq #[] }).get? s.heap.objs.size = some { cls := .type "list", data := .seq #[] } := Heap.get?_push_size _ rfl
  refine ⟨⟨_, hS, rfl⟩, PySem.F.args_list_init_2 _ _, ?_⟩
  have fr : H s.heap.objs.size = none := I.hok.fresh (Nat.le_refl _)
  have I1 : Inv X pins σ (upd H s.heap.objs.size (.lst [])) { s with heap := s.heap.push { cls := .type "list", data := .seq #[] } } := I.lnew (its := []) (t' := s.toks) .nil (Nat.zero_le _)
  show wpAny _ _ (do let old ← Builtin.List.listItems (.ref s.heap.objs.size); Builtin.List.listUpdate (.ref s.heap.objs.size) (fun _ => #[]); letGo old.toList.reverse; Builtin.List.listExtendWith (.ref s.heap.objs.size) (.ref a) .none) _ _ _
  refine wpAny_bind ?_
  unfold Builtin.List.listItems
  refine wpAny_bind (wpAny_seqItems hS rfl (wpAny_pure ?_))
  show wpAny _ _ (updateSeq s.heap.objs.size (fun _ => #[]) >>= fun _ => letGo (#[] : Array Value).toList.reverse >>= fun _ => Builtin.List.listExtendWith (.ref s.heap.objs.size) (.ref a) .none) _ _ _
  refine wpAny_bind (wpAny_updateSeq hS rfl ?_)
  have I2 := I1.lset (f := fun _ => #[]) (its := []) (its' := []) (ys := []) (t' := s.toks) upd_same hS rfl .nil (Nat.zero_le _)
  rw [upd_upd] at I2
  refine wpAny_bind (wpAny_letGo ?_)
  have g0 : Same H (upd H s.heap.objs.size (.lst [])) := fun c o e => by rw [upd_ne (ne_of_none e fr)]; exact e
  have hSl0 : s.heap.objs.size ≠ l := by
    obtain ⟨itz, _, plz⟩ := sqB_at I hq
    exact Nat.ne_of_gt (sB_lt plz)
  generalize hS0 : s.heap.objs.size = S at *
  have hs2 : SlX.Slt (upd H S (.lst [])) a (Tb.Cl C) dx ws := same_sl g0 hs
  have hq2 : SqB X.K b (upd H S (.lst [])) l zs := by
    cases b with
    | true => exact same_l g0 (show SqL X.K H l zs from hq)
    | false => exact same_t0 g0 (show SqT X.K H l zs from hq)
  generalize hs3 : ({ s with heap := (s.heap.push { cls := .type "list", data := .seq #[] }).update S (Obj.mapSeq fun _ => #[]), toks := s.toks } : Shared) = s3 at *
  obtain ⟨sl, od, _, J, _⟩ := SlX.slt_inst I2 hs2
  obtain ⟨m, hF⟩ := I2.fr
  have hne : S ≠ a := by
    intro z
    subst z
    rcases hs with ⟨q1, _⟩ | ⟨q1, _⟩ <;> rw [fr] at q1 <;> cases q1
  unfold Builtin.List.listExtendWith
  refine wpAny_bind (J.type.here ?_)
  have z1 : Builtin.List.listSameRef (.ref S) (.ref a) = false := by simp [Builtin.List.listSameRef, hne]
  have z2 : (Value.ref (Tb.Cl C) == Value.type "list") = false := rfl
  have z3 : (Value.ref (Tb.Cl C) == Value.type "tuple") = false := rfl
  simp only [z1, z2, z3, Bool.or_false, Bool.false_eq_true, if_false]
  refine wpAny_bind (PySem.W.owit_iter hF I2.ok.mod.kin J h1 h2 ?_)
  have e0 : Env0 X.prog X.w X.K X.mg X.base X.A.in1.in1 X.stack s3 (upd H S (.lst [])) := by
    have e := I2.env0
    exact ⟨by rw [sb.fr]; exact e.frames, e.mod, e.bs, e.bsz, e.funs, e.frf, e.hok, e.bare⟩
  refine wpAny_call (codeAny_mono (FF X.A.in1.in1 X.stack s3 (upd H S (.lst [])) [.ref a] [.ref a] (fun v H' => ∃ it, v = .ref it ∧ s3.heap.objs.size ≤ it ∧ upd H S (.lst []) it = none ∧ H' = upd (upd H S (.lst [])) it (ItO1 it b l)) (sb.room.mono hkj) e0 (.cons rfl .nil) ⟨a, dx, ws, b, l, zs, rfl, hs2, hw, hq2, fun it hn hle => ⟨it, rfl, hle, hn, rfl⟩⟩) fun r s' hq' => ?_)
  cases r with
  | error e => exact False.elim hq'
  | ok fl =>
    cases fl with
    | next => exact False.elim hq'
    | brk => exact False.elim hq'
    | cont => exact False.elim hq'
    | ret w =>
      obtain ⟨v, H', I', rv, it, ev, hle, hn, eH⟩ := I2.after hq'
      subst ev
      subst eH
      obtain rfl : w = Value.ref it := rv
      have ho : s'.heap.get? it = some (objB b l) := (I'.hok it _ upd_same).1
      refine next_slot b ho fun g => ?_
      have I3 := ItX.inv_drop I' upd_same
      have fp := ItX.inv_fp I' upd_same (Nat.le_trans I2.sz hle)
      rw [ItX.dropH_upd hn] at I3 fp
      obtain ⟨its2, rv2, pl2⟩ := sqB_at I2 hq2
      have hlt : l < s3.heap.objs.size := sB_lt pl2
      have hli : l ≠ it := fun z => by subst z; exact absurd (Nat.lt_of_lt_of_le hlt hle) (Nat.lt_irrefl _)
      obtain ⟨_, _, n3, _, _, e3⟩ := I2.lstM upd_same
      have hSi : S ≠ it := fun z => by subst z; exact absurd (Nat.lt_of_lt_of_le (Heap.lt_size e3) hle) (Nat.lt_irrefl _)
      have hSl : S ≠ l := hSl0
      have key : ∀ (s4 : Shared) (c1 : Nat), Inv X pins σ (upd H S (.lst [])) s4 → s4.heap.get? it = some (objB b l) → s4.heap.get? S = some { cls := .type "list", data := .seq #[] c1 } →
          codeAny (model X.prog X.w) X.A.in1 (.builtin "list.extend.loop" ⟨[.ref S, .ref it, .none], []⟩) (wants (fun r s₂ => r = .none ∧ EP X pins σ Q (.ref S) s₂) X.xe) s4 := by
        intro s4 c1 I4 ho4 hS4
        have hz : zs.length ≤ sizeLine := by
          cases b with
          | true => obtain ⟨_, _, _, z⟩ := I4.list (show SqL X.K (upd H S (.lst [])) l zs from hq2); exact z
          | false => obtain ⟨_, _, _, z⟩ := I4.tuple (show SqT X.K (upd H S (.lst [])) l zs from hq2); exact z
        obtain ⟨its, rv, pl⟩ := sqB_at I4 hq2
        have hn : its.toArray.size ≤ sizeLine := by rw [List.size_toArray, ← rv.length]; exact hz
        refine codeAny_extend_loopS (walksB b (show X.A.in1.in1.handled = none from I.ok.hd hc) it l hli its.toArray).toS hn S (by simp [hSi, hSl]) .none its.toArray.size 0 s4 #[] c1 rfl (Nat.zero_le _) ⟨itB0 ho4, pl⟩ hS4 (ItemsOf.nil _) fun s5 acc c' hm hS5 hacc => ?_
        have J5 := inv_filled (tk := s5.toks) (c' := c') I4 upd_same hS4 fp hSi (fun b o h1 h2 q => hm.heap b o (by simp [h1, h2]) q) hS5 rv (items_eq hacc) hz
        rw [upd_upd] at J5
        rw [Moved.eq_with hm]
        exact ⟨rfl, .ref S, _, J5, rfl, q S fr⟩
      obtain ⟨sl', od', _, J', _⟩ := SlX.slt_inst I3 hs2
      refine wpAny_bind (wpAny_holding (hint_none hN I3.kIn J' ?_))
      obtain ⟨z, its, kk, r3, hl3, e4⟩ := I3.lstM upd_same
      cases r3
      refine wpAny_ite_split (fun _ => ?_) (fun _ => wpAny_pure ⟨plainId_quiet PySem.F.plain_extend_loop _, key s' kk I3 ho e4⟩)
      refine wpAny_bind (wpAny_rule ?_)
      refine wpAny_bind ?_
      show wpAny _ _ (updateSeq S (·.push .none) >>= fun _ => updateSeq S (·.pop)) _ _ _
      refine wpAny_bind (wpAny_updateSeq e4 rfl ?_)
      have K2 := I3.lset (f := (·.push Value.none)) (its' := [Value.none]) (ys := [.non]) (t' := s'.toks) upd_same e4 (by simp) (.cons rfl .nil) (by rw [List.length_singleton, sizeLine_eq]; decide)
      obtain ⟨z5, its5, k5, r5, hl5, e5⟩ := K2.lstM upd_same
      obtain ⟨u5, rfl, ru5⟩ := r5.one
      refine wpAny_updateSeq e5 rfl ?_ (by show 1 ≤ sizeLine; rw [sizeLine_eq]; decide) (by show 0 ≤ sizeLine + 1; exact Nat.zero_le _)
      have K3 := K2.lset (f := (·.pop)) (its := [u5]) (its' := []) (ys := []) (t' := s'.toks) upd_same e5 (by rfl) .nil (Nat.zero_le _)
      rw [upd_upd, upd_upd] at K3
      obtain ⟨z6, its6, k6, r6, hl6, e6⟩ := K3.lstM upd_same
      cases r6
      refine wpAny_pure ⟨plainId_quiet PySem.F.plain_extend_loop _, key _ k6 K3 ?_ e6⟩
      exact (Heap.get?_update_other _ _ hSi).trans ((Heap.get?_update_other _ _ hSi).trans ho)
/-- list(o): what its slot i holds -/
def dListO (C i : Nat) : List D → Option (List D)
  | [.obj C' fs] => if (C' == C) = true then ((fs[i]?).join).bind sqD else none
  | _ => none
theorem cd_listO {C i k j : Nat} (hI : ItF X.prog X.w X.K X.mg X.base C i k) (hN : NoLen X.K C) (hr : Room (j + 2) X.A) (hkj : k ≤ j := by decide) (hc : X.calm = true := by rfl) : CDF X (.type "list") (rListO X.K C i) (dListO C i) := ⟨call_listO hI hN hr hkj hc, fun vs ds H F Q d r s e k => by
  unfold dListO at e
  split at e
  · rename_i C' fs
    by_cases hC : (C' == C) = true
    case neg => rw [if_neg hC] at e; cases e
    rw [if_pos hC] at e
    have hC' : C' = C := by simpa using hC
    obtain ⟨v, rfl, r0⟩ := r.one
    cases r0 with
    | @obj a C' dx vs fs hs l =>
      obtain ⟨y, e3, e4⟩ := Option.bind_eq_some_iff.mp e
      obtain ⟨v, q1, q2⟩ := isO_get l e3
      obtain ⟨b, p, xs, rfl, q3, q4, q5⟩ := q2.sqB e4 s.s
      exact ⟨a, dx, vs, b, p, xs, rfl, by rw [← hC']; exact same_sl s.s hs, q1, q4, fun p2 hp => k p2 _ _ F (Grow.made s hp) (s.none_of hp) hp upd_same q5⟩
  · cases e⟩
end EX
set_option Elab.async false
set_option linter.all false
set_option autoImplicit false
set_option maxRecDepth 100000
set_option maxHeartbeats 4000000
/-! E22: global constants that are tuples of leaves. -/
namespace EX
open PySem L2
variable [Tb] {Z : Zc} {F F' F1 F2 H H' H1 H2 F0 H0 : Hp} {X : Cx} {ta tb tc te to : TE} {ma mb mc me mo : Env → Option D} {t : TA} {ms : Env → Option (List D)} {pos : Pos} {e a b c o : Expr} {es : List Expr}
def leafV : D → Option V
  | .non => some .non
  | .bl b => some (.bl b)
  | .int i => some (.int i)
  | .str x => some (.str x)
  | _ => none
def leafVs : List D → Option (List V)
  | [] => some []
  | d :: ds => do return (← leafV d) :: (← leafVs ds)
theorem leaf_is {d : D} {v : V} (h : leafV d = some v) : Is Z F v d := by
  cases d <;> cases h
  · exact .non
  · exact .bl
  · exact .int
  · exact .str
theorem leafs_is : ∀ {ds : List D} {vs : List V}, leafVs ds = some vs → IsL Z F vs ds
  | [], _, e => by cases e; exact .nil
  | d :: ds, _, e => by
    simp only [leafVs, Option.bind_eq_bind, Option.bind_eq_some_iff, Option.pure_def, Option.some.injEq] at e
    obtain ⟨v, e1, vs, e2, rfl⟩ := e
    exact .cons (leaf_is e1) (leafs_is e2)
/-- a constant tuple -/
structure CTup (K : PySem.W.Frag) (mg : Str → Option Value) (x : Str) (ds : List D) : Prop where
  ex : ∃ (a : Addr) (o : Obj) (its : Array Value) (n : Nat) (vs : List V), mg x = some (.ref a) ∧ K.lookup a = some o ∧ o.cls = .type "tuple" ∧ o.dict = none ∧ o.data = .seq its n ∧ its.size ≤ sizeLine ∧ leafVs ds = some vs ∧ Vals vs its.toList
theorem x_globT {x : Str} {ds : List D} (h : CTup X.K X.mg x ds) (hg : Gl X x := by rfl) (hd : (x == ("__debug__" : Str)) = false := by decide) : EX X (.Name x pos) (tC (.ref h.ex.choose)) (fun _ => some (.tup ds)) := by
  obtain ⟨o, its, n, vs, h1, h2, h3, h4, h5, h6, h7, h8⟩ := h.ex.choose_spec
  exact x_glob (v := .ref h.ex.choose) h1 rfl (fun F => .tup (.inr ⟨.inr ⟨o, its, n, h2, h3, h5, h6, h8⟩, o, h2, h4⟩) (leafs_is h7)) hg hd
end EX
set_option Elab.async false
set_option linter.all false
set_option autoImplicit false
set_option maxRecDepth 100000
set_option maxHeartbeats 4000000
/-! E23: comparisons as tests. -/
namespace EX
open PySem L2
variable [Tb] {Z : Zc} {X : Cx} {ta tb tc te to : TE} {ma mb mc me mo : Env → Option D} {pos : Pos} {e a b c o : Expr}
theorem t_cmp {op : CmpOp} {r : R2} {g : D → D → Option D} (ho : OpD X (compareOp op) r g) (ha : EX X a ta ma) (hb : EX X b tb mb) (hm : behindInMarks op b = false := by first | exact nomark _ | rfl) : ET X (.Compare a [op] [b] pos) (tTest (tOp r ta tb)) (nVal (mOp g ma mb)) :=
  ⟨pt_cmpR ho.op ha.pe hb.pe hm, evT_val (ev_op ho.ev ha.ev hb.ev)⟩
theorem t_isN {j pos'} (ha : EX X a ta ma) : ET X (.Compare a [.Is] [.Constant .none j pos'] pos) (tB (tIsN ta)) (nVal fun env => (ma env).map fun d => .bl (isNon d)) :=
  ⟨pt_cmp (pc_isN ha.pe) rfl, evT_val (x_isN (j := j) (pos' := pos') (pos := pos) ha).ev⟩
theorem t_notN {j pos'} (ha : EX X a ta ma) : ET X (.Compare a [.IsNot] [.Constant .none j pos'] pos) (tB (tNotN ta)) (nVal fun env => (ma env).map fun d => .bl (!isNon d)) :=
  ⟨pt_cmp (pc_notN ha.pe) rfl, evT_val (x_notN (j := j) (pos' := pos') (pos := pos) ha).ev⟩
end EX
set_option Elab.async false
set_option linter.all false
set_option autoImplicit false
set_option maxRecDepth 100000
set_option maxHeartbeats 4000000
/-! E24: canonical terms of rules (they depend on the mirror alone), and comprehensions over them. -/
namespace EX
open PySem L2
variable [Tb] {Z : Zc} {X : Cx} {ta tb tc te to : TE} {ma mb mc me mo : Env → Option D} {pos : Pos} {e a b c o : Expr} {tg tg1 iter iter1 : Expr} {qa qb : TT} {na nb : Env → Option Bool} {g g1 : TG} {mg mg1 : D → Option (List D)} {ix jx : List Nat}
  {wi wi1 : TI} {mi mi1 : Env → Option (List D)}
def tM (Z : Zc) (me : Env → Option D) : TE := fun σ H Q => ∃ env F d, Fit Z F env σ ∧ Ok Z F H ∧ me env = some d ∧ ∀ v H' F', Grow Z F H F' H' → Is Z F' v d → Q v H'
def qM (Z : Zc) (na : Env → Option Bool) : TT := fun σ H Q => ∃ env F b, Fit Z F env σ ∧ Ok Z F H ∧ na env = some b ∧ ∀ H' F', Grow Z F H F' H' → Q b H'
def gM (Z : Zc) (mg : D → Option (List D)) (ix : List Nat) : TG := fun v σ H Q => ∃ F d ds, Ok Z F H ∧ Is Z F v d ∧ mg d = some ds ∧ ∀ vs, IsL Z F vs ds → Q (setL σ ix (vs.map some)) H
def iM (Z : Zc) (mi : Env → Option (List D)) : TI := fun σ H R => ∃ env F ds, Fit Z F env σ ∧ Ok Z F H ∧ mi env = some ds ∧ ∀ J H' F', Grow Z F H F' H' → Wk Z J F' ds → R J H'
theorem EX.can (h : EX X e te me) : EX X e (tM (zOf X) me) me := ⟨⟨fun pins s σ H Q I ⟨env, F, d, f, o, e, k⟩ => h.pe.run pins s σ H Q I (h.ev env σ H F Q d f o e k)⟩, fun env σ H F Q d f s e k => ⟨env, F, d, f, s, e, k⟩⟩
theorem ETs.can {ifs : List Expr} (h : ETs X ifs qa na) : ETs X ifs (qM (zOf X) na) na := ⟨⟨fun pins s σ H Q I ⟨env, F, d, f, o, e, k⟩ => h.pts.run pins s σ H Q I (h.ev env σ H F Q d f o e k)⟩, fun env σ H F Q d f s e k => ⟨env, F, d, f, s, e, k⟩⟩
theorem EG.can (h : EG X tg g mg ix) : EG X tg (gM (zOf X) mg ix) mg ix := ⟨⟨fun pins s σ H v u Q I r ⟨F, d, ds, o, i, e, k⟩ => h.pg.run pins s σ H v u Q I r (h.ev d σ H F Q v ds o i e k)⟩, fun d σ H F Q v ds o i e k => ⟨F, d, ds, o, i, e, k⟩, h.len⟩
theorem EI.can (h : EI X tg iter wi mi) : EI X tg iter (iM (zOf X) mi) mi := ⟨⟨fun pins s σ H R I ⟨env, F, d, f, o, e, k⟩ => h.pi.run pins s σ H R I (h.ev env σ H F R d f o e k)⟩, fun env σ H F R d f s e k => ⟨env, F, d, f, s, e, k⟩⟩
theorem x_lcE {ifs : List Expr} {scope : Scope} (own : List (Str × Nat)) (hN : X.N.Nodup) (hi : EI X tg iter wi mi) (ok : blkC X.N X.env.scope scope own = true)
    (hg : ∀ s H C cl fp, ∃ g, EG (inBlk X scope s H C cl fp) tg g mg ix) (ht : ∀ s H C cl fp, ∃ qa, ETs (inBlk X scope s H C cl fp) ifs qa na) (he : ∀ s H C cl fp, ∃ te, EX (inBlk X scope s H C cl fp) e te me)
    (hx : ∀ i ∈ ix, i ∈ own.map (·.2) := by decide) (hc : X.calm = true := by rfl) (hs : ∀ x, foldedSetIterable iter X.env x = pure x := by intro _; rfl) :
    EXF X (.ListComp e [⟨tg, iter, ifs, 0⟩] scope pos) (tLc wi (gM (zOf X) mg ix) (qM (zOf X) na) (tM (zOf X) me) (own.map (·.2))) (mLc mi mg ix na me (own.map (·.2))) :=
  x_lc (elt := e) own hN hi ok (fun s H C cl fp => (hg s H C cl fp).elim fun _ h => h.can) (fun s H C cl fp => (ht s H C cl fp).elim fun _ h => h.can) (fun s H C cl fp => (he s H C cl fp).elim fun _ h => h.can) hx hc hs
theorem x_lc2E {ifs ifs1 : List Expr} {scope : Scope} (own : List (Str × Nat)) (vs1 : List Nat) (hN : X.N.Nodup) (hi : EI X tg iter wi mi) (ok : blkC X.N X.env.scope scope own = true) (hv : ∀ i ∈ vs1, i ∈ own.map (·.2)) (hx : ∀ i ∈ ix, i ∈ own.map (·.2)) (hx1 : ∀ i ∈ jx, i ∈ vs1)
    (hg : ∀ s H C cl fp, ∃ g, EG (inBlk X scope s H C cl fp) tg g mg ix) (ht : ∀ s H C cl fp, ∃ qa, ETs (inBlk X scope s H C cl fp) ifs qa na)
    (hi1 : ∀ s H C cl fp, ∃ wi1, EI (inBlk X scope s H C cl fp) tg1 iter1 wi1 mi1) (hg1 : ∀ s H C cl fp, ∃ g1, EG (inBlk X scope s H C cl fp) tg1 g1 mg1 jx) (ht1 : ∀ s H C cl fp, ∃ qb, ETs (inBlk X scope s H C cl fp) ifs1 qb nb)
    (he : ∀ s H C cl fp, ∃ te, EX (inBlk X scope s H C cl fp) e te me)
    (hc : X.calm = true := by rfl) (hs : ∀ x, foldedSetIterable iter X.env x = pure x := by intro _; rfl) (hs1 : ∀ env x, foldedSetIterable iter1 env x = pure x := by intro _ _; rfl) :
    EXF X (.ListComp e [⟨tg, iter, ifs, 0⟩, ⟨tg1, iter1, ifs1, 0⟩] scope pos) (tLc2 wi (gM (zOf X) mg ix) (qM (zOf X) na) (iM (zOf X) mi1) (gM (zOf X) mg1 jx) (qM (zOf X) nb) (tM (zOf X) me) (own.map (·.2)) vs1) (mLc2 mi mg ix na mi1 mg1 jx nb me (own.map (·.2)) vs1) :=
  x_lc2 own vs1 hN hi ok hv hx hx1 (fun s H C cl fp => (hg s H C cl fp).elim fun _ h => h.can) (fun s H C cl fp => (ht s H C cl fp).elim fun _ h => h.can) (fun s H C cl fp => (hi1 s H C cl fp).elim fun _ h => h.can)
    (fun s H C cl fp => (hg1 s H C cl fp).elim fun _ h => h.can) (fun s H C cl fp => (ht1 s H C cl fp).elim fun _ h => h.can) (fun s H C cl fp => (he s H C cl fp).elim fun _ h => h.can) hc hs hs1
end EX
set_option Elab.async false
set_option linter.all false
set_option autoImplicit false
set_option maxRecDepth 100000
set_option maxHeartbeats 4000000
/-! E25: y = [comprehension] on one line. -/
namespace EX
open PySem L2
variable [Tb] {Z : Zc} {X : Cx} {ta tb tc te to : TE} {ma mb mc me mo : Env → Option D} {pos : Pos} {e a b c o : Expr} {tg tg1 iter iter1 : Expr} {qa qb : TT} {na nb : Env → Option Bool} {g g1 : TG} {mg mg1 : D → Option (List D)} {ix jx : List Nat}
  {wi wi1 : TI} {mi mi1 : Env → Option (List D)}
theorem l_lcE {i : Nat} {y : Str} {py spos : Pos} {ifs : List Expr} {scope : Scope} (own : List (Str × Nat)) (hN : X.N.Nodup) (hi : EI X tg iter wi mi) (ok : blkC X.N X.env.scope scope own = true)
    (hg : ∀ s H C cl fp, ∃ g, EG (inBlk X scope s H C cl fp) tg g mg ix) (ht : ∀ s H C cl fp, ∃ q, ETs (inBlk X scope s H C cl fp) ifs q na) (he : ∀ s H C cl fp, ∃ te, EX (inBlk X scope s H C cl fp) e te me)
    (hsw : swapsWith (.ListComp e [⟨tg, iter, ifs, 0⟩] scope pos) (some (.Name y py)) spos.line X.env = pure true := by exact sw_true rfl rfl rfl (by decide +kernel)) (hy : X.N[i]? = some y := by rfl) (hyl : X.env.scope.names.lookup y = some .local := by rfl)
    (hx : ∀ i ∈ ix, i ∈ own.map (·.2) := by decide) (hc : X.calm = true := by rfl) (hs : ∀ x, foldedSetIterable iter X.env x = pure x := by intro _; rfl) :
    EL X y i (.ListComp e [⟨tg, iter, ifs, 0⟩] scope pos) py spos (tLc wi (gM (zOf X) mg ix) (qM (zOf X) na) (tM (zOf X) me) (own.map (·.2))) (mLc mi mg ix na me (own.map (·.2))) :=
  l_lc own hN hi ok (fun s H C cl fp => (hg s H C cl fp).elim fun _ h => h.can) (fun s H C cl fp => (ht s H C cl fp).elim fun _ h => h.can) (fun s H C cl fp => (he s H C cl fp).elim fun _ h => h.can) hsw hy hyl (hx := hx) (hc := hc) (hs := hs)
theorem l_lc2E {i : Nat} {y : Str} {py spos : Pos} {ifs ifs1 : List Expr} {scope : Scope} (own : List (Str × Nat)) (vs1 : List Nat) (hN : X.N.Nodup) (hi : EI X tg iter wi mi) (ok : blkC X.N X.env.scope scope own = true) (hv : ∀ i ∈ vs1, i ∈ own.map (·.2)) (hx : ∀ i ∈ ix, i ∈ own.map (·.2)) (hx1 : ∀ i ∈ jx, i ∈ vs1)
    (hg : ∀ s H C cl fp, ∃ g, EG (inBlk X scope s H C cl fp) tg g mg ix) (ht : ∀ s H C cl fp, ∃ q, ETs (inBlk X scope s H C cl fp) ifs q na)
    (hi1 : ∀ s H C cl fp, ∃ w, EI (inBlk X scope s H C cl fp) tg1 iter1 w mi1) (hg1 : ∀ s H C cl fp, ∃ g, EG (inBlk X scope s H C cl fp) tg1 g mg1 jx) (ht1 : ∀ s H C cl fp, ∃ q, ETs (inBlk X scope s H C cl fp) ifs1 q nb)
    (he : ∀ s H C cl fp, ∃ te, EX (inBlk X scope s H C cl fp) e te me)
    (hsw : swapsWith (.ListComp e [⟨tg, iter, ifs, 0⟩, ⟨tg1, iter1, ifs1, 0⟩] scope pos) (some (.Name y py)) spos.line X.env = pure true := by exact sw_true rfl rfl rfl (by decide +kernel)) (hy : X.N[i]? = some y := by rfl) (hyl : X.env.scope.names.lookup y = some .local := by rfl)
    (hc : X.calm = true := by rfl) (hs : ∀ x, foldedSetIterable iter X.env x = pure x := by intro _; rfl) (hs1 : ∀ env x, foldedSetIterable iter1 env x = pure x := by intro _ _; rfl) :
    EL X y i (.ListComp e [⟨tg, iter, ifs, 0⟩, ⟨tg1, iter1, ifs1, 0⟩] scope pos) py spos (tLc2 wi (gM (zOf X) mg ix) (qM (zOf X) na) (iM (zOf X) mi1) (gM (zOf X) mg1 jx) (qM (zOf X) nb) (tM (zOf X) me) (own.map (·.2)) vs1) (mLc2 mi mg ix na mi1 mg1 jx nb me (own.map (·.2)) vs1) :=
  l_lc2 own vs1 hN hi ok hv hx hx1 (fun s H C cl fp => (hg s H C cl fp).elim fun _ h => h.can) (fun s H C cl fp => (ht s H C cl fp).elim fun _ h => h.can) (fun s H C cl fp => (hi1 s H C cl fp).elim fun _ h => h.can) (fun s H C cl fp => (hg1 s H C cl fp).elim fun _ h => h.can) (fun s H C cl fp => (ht1 s H C cl fp).elim fun _ h => h.can) (fun s H C cl fp => (he s H C cl fp).elim fun _ h => h.can) hsw hy hyl hc hs hs1
theorem t_chain {op op' : CmpOp} {r r' : R2} {gg hh : D → D → Option D} (ho : OpD X (compareOp op) r gg) (ho' : OpD X (compareOp op') r' hh) (ha : EX X a ta ma) (hb : EX X b tb mb) (hc : EX X c tc mc)
    (hm : behindInMarks op b = false := by first | exact nomark _ | rfl) (hm' : lastMarks [op, op'] [b, c] = false := by first | rfl | exact nomark _) : ET X (.Compare a [op, op'] [b, c] pos) (tTest (tChain r r' ta tb tc)) (nVal (mChain gg hh ma mb mc)) :=
  ⟨pt_chain ho.op ho'.op ha.pe hb.pe hc.pe hm', evT_val (x_chain (pos := pos) ho ho' ha hb hc hm hm').ev⟩
end EX
set_option Elab.async false
set_option linter.all false
set_option autoImplicit false
set_option maxRecDepth 100000
set_option maxHeartbeats 4000000
/-! E26: what a law's walk leans on, by names (facts of the head); lambdas' tables; the end. -/
namespace EX
open PySem L2
/-! ### the facts that are looked at, beside He.Fa -/
inductive Fx where
  | cls (x : Str)
  | slot (x f : Str) (i : Nat)
  | nolen (x : Str)
  | isi (u : Option Str) (bu : String) (g : List (Nat × Bool))
  | tup (x : Str) (vs : List He.Dv)
  | makes (x : Str)
structure LawD where
  cls : List Str
  fa : List He.Fa
  fn : List He.DefD
  tq : List (He.Defn × Str)
  fx : List Fx
def LawD.ca (L : LawD) (K : PySem.W.Frag) (C : Nat) : Addr := He.ga K (L.cls.getD C "")
def clsB (K : PySem.W.Frag) (C : Addr) : Bool := PySem.W.plainGet K C Str.empty && (PySem.W.isClsIn K C && (PySem.W.plainOver K C && (He.eqO (PySem.W.findIn K (.ref C) "__setattr__") (some (some (.builtin "object.__setattr__"))) &&
  (He.eqO (PySem.W.findIn K (.ref C) "__class__") (some (some (.builtin "object.__class__"))) && (He.eqO (PySem.W.specialIn K (.builtin "object.__class__") "__get__") (some (some (.builtin "getset_descriptor.__get__"))) &&
  (decide (PySem.W.takesIn K (.builtin "object.__class__") = some true) && decide (PySem.W.mroIn K C (.type "object") = some true)))))))
def slotB (K : PySem.W.Frag) (C : Addr) (f : Str) (i : Nat) : Bool := He.eqO (PySem.W.findIn K (.ref C) f) (some (some (.ref (He.ma K C f)))) && (He.eqO (PySem.W.specialIn K (.ref (He.ma K C f)) "__get__") (some (some (.builtin "member_descriptor.__get__"))) &&
  (decide (PySem.W.takesIn K (.ref (He.ma K C f)) = some true) && (decide (PySem.W.typeIn K (.ref (He.ma K C f)) = some (.type "member_descriptor")) && (decide (PySem.W.slotIn K (He.ma K C f) C = some i) && decide (i < 1000)))))
def tyK (ca : Nat → Addr) : Nat → Value
  | 0 => .type "NoneType"
  | 1 => .type "bool"
  | 2 => .type "int"
  | 3 => .type "str"
  | 4 => .type "tuple"
  | 5 => .type "list"
  | 6 => .type "dict"
  | n + 7 => .ref (ca n)
def isiB (L : LawD) (K : PySem.W.Frag) (u : Value) (g : List (Nat × Bool)) : Bool := g.all fun q => decide (PySem.W.kitOne K (tyK (L.ca K) q.1) u = some q.2) && (if q.1 < 7 then true else clsB K (L.ca K (q.1 - 7)))
def uOf (L : LawD) (K : PySem.W.Frag) (u : Option Str) (bu : String) : Value := match u with
  | some x => .ref (He.ga K x)
  | none => .type bu
def tupNB (K : PySem.W.Frag) (x : Str) (vs : List He.Dv) : Bool := match PySem.W.nsIn K mainGlobals x with
  | some (some (.ref a)) => (match K.lookup a with
    | some ⟨.type c, none, .seq its _, _⟩ => decide (c = "tuple") && (decide (its.size ≤ sizeLine) && He.relAll (vs.map (He.Dv.v K)) its.toList)
    | _ => false)
  | _ => false
def Fx.ok (L : LawD) (K : PySem.W.Frag) : Fx → Bool
  | .cls x => clsB K (He.ga K x)
  | .slot x f i => slotB K (He.ga K x) f i
  | .nolen x => He.eqO (PySem.W.findIn K (.ref (He.ga K x)) "__len__") (some none) && He.eqO (PySem.W.findIn K (.ref (He.ga K x)) "__length_hint__") (some none)
  | .isi u bu g => isiB L K (uOf L K u bu) g
  | .tup x vs => tupNB K x vs
  | .makes x => PySem.W.makesIn K (He.ga K x)
def LawD.tf (L : LawD) : List He.Defn := L.tq.map (·.1)
def LawD.ex (L : LawD) (K : PySem.W.Frag) : Bool := (L.fx.all fun f => f.ok L K) && decide ((L.tq.map fun q => (He.cT K q.1).2).Nodup)
def lamQ (q : Str) : Str := (q ++ ".<locals>.") ++ "<lambda>"
def LawD.tabs (L : LawD) (K : PySem.W.Frag) : List (Addr × Str) := L.tq.map fun q => ((He.cT K q.1).2, lamQ q.2)
/-- what a walk leans on -/
structure Ctx (L : LawD) [Tb] (K : PySem.W.Frag) (mg : Str → Option Value) (base : Heap) : Prop where
  kin : K.In base
  ns : base.Ns mainGlobals mg
  cl : Tb.Cl = L.ca K
  tt : Tb.T = L.tabs K
  d : He.SaysD L.fa L.fn K
  ex : L.ex K = true
  tb : ∀ p ∈ L.tf, LamX.TabB base mg (He.cT K p).1 (He.cT K p).2
section
variable {L : LawD} [Tb] {P : Program} {w : World} {K : PySem.W.Frag} {mg : Str → Option Value} {base : Heap}
theorem Ctx.free (C : Ctx L K mg base) {x : Str} (h : He.Fa.free x ∈ L.fa) : mg x = none := He.free_ok C.kin C.ns (C.d.facts h)
theorem Ctx.glo (C : Ctx L K mg base) {x : Str} (h : He.Fa.glo x ∈ L.fa) : mg x = some (.ref (He.ga K x)) := He.glo_ok C.kin C.ns (C.d.facts h)
theorem Ctx.int (C : Ctx L K mg base) {x : Str} {i : Int} (h : He.Fa.int x i ∈ L.fa) : ∃ tk, mg x = some (.int i tk) := He.int_ok C.kin C.ns (C.d.facts h)
theorem Ctx.fx (C : Ctx L K mg base) {f : Fx} (h : f ∈ L.fx) : f.ok L K = true := by
  obtain ⟨h1, _⟩ := He.ba (show ((L.fx.all fun f => f.ok L K) && decide ((L.tq.map fun q => (He.cT K q.1).2).Nodup)) = true from C.ex)
  exact List.all_eq_true.mp h1 f h
theorem Ctx.nodup (C : Ctx L K mg base) : (L.tq.map fun q => (He.cT K q.1).2).Nodup := by
  obtain ⟨_, h1⟩ := He.ba (show ((L.fx.all fun f => f.ok L K) && decide ((L.tq.map fun q => (He.cT K q.1).2).Nodup)) = true from C.ex)
  exact of_decide_eq_true h1
theorem Ctx.fun_ (C : Ctx L K mg base) (d : He.DefD) (st : Stmt) (h : d ∈ L.fn) (h1 : d.params = defArgs st := by rfl) (h2 : d.body = defBody st := by rfl) (h3 : d.scope = defScope st := by rfl) (h4 : d.dfl = [] := by rfl) (h5 : d.kwd = [] := by rfl) :
    ∃ fd, Fun K d.name d.qual st (He.fAd K d.at_) fd := by
  obtain ⟨fd, F⟩ := C.d.defs h
  obtain ⟨oc, od, dV, kV, doc, pm, an, cdv, ct, osl, e1, e2, e3, e4, e5⟩ := F.ex
  have z : dV = .none := by
    rcases e4 with ⟨_, q⟩ | ⟨q, _⟩
    · exact q
    · exact (q (by unfold He.DefD.dvs; rw [h4]; rfl)).elim
  subst z
  exact ⟨fd, ⟨oc, od, kV, doc, pm, an, cdv, ct, osl, by rw [e1, h1, h2, h3], e2, e3⟩, F.kp⟩
theorem clsB_sc {C : Nat} (h : clsB K (Tb.Cl C) = true) : ClsF K C := by
  obtain ⟨a1, h⟩ := He.ba h
  obtain ⟨a2, h⟩ := He.ba h
  obtain ⟨a3, h⟩ := He.ba h
  obtain ⟨a4, h⟩ := He.ba h
  obtain ⟨a5, h⟩ := He.ba h
  obtain ⟨a6, h⟩ := He.ba h
  obtain ⟨a7, a8⟩ := He.ba h
  exact ⟨⟨a1, a2, a3, He.eqO_ok a4⟩, ⟨He.eqO_ok a5, He.eqO_ok a6, of_decide_eq_true a7, of_decide_eq_true a8⟩⟩
theorem Ctx.cadr (C : Ctx L K mg base) (c : Nat) {x : Str} (hx : L.cls.getD c "" = x) : Tb.Cl c = He.ga K x := by
  rw [C.cl, ← hx] <;> rfl
theorem Ctx.clsF (C : Ctx L K mg base) (c : Nat) {x : Str} (h : Fx.cls x ∈ L.fx) (hx : L.cls.getD c "" = x := by rfl) : ClsF K c := clsB_sc (by
  rw [C.cadr c hx]
  exact C.fx h)
theorem Ctx.slotF (C : Ctx L K mg base) (c : Nat) {x f : Str} {i : Nat} (h : Fx.slot x f i ∈ L.fx) (hx : L.cls.getD c "" = x := by rfl) : SlotF K c f i := by
  have e := C.fx h
  obtain ⟨a1, e⟩ := He.ba (show slotB K (He.ga K x) f i = true from e)
  obtain ⟨a2, e⟩ := He.ba e
  obtain ⟨a3, e⟩ := He.ba e
  obtain ⟨a4, e⟩ := He.ba e
  obtain ⟨a5, a6⟩ := He.ba e
  exact ⟨He.ma K (He.ga K x) f, by
    rw [C.cadr c hx]
    exact ⟨He.eqO_ok a1, He.eqO_ok a2, of_decide_eq_true a3, of_decide_eq_true a4, of_decide_eq_true a5, of_decide_eq_true a6⟩⟩
theorem Ctx.noLen (C : Ctx L K mg base) (c : Nat) {x : Str} (h : Fx.nolen x ∈ L.fx) (hx : L.cls.getD c "" = x := by rfl) : NoLen K c := by
  obtain ⟨a1, a2⟩ := He.ba (show (He.eqO (PySem.W.findIn K (.ref (He.ga K x)) "__len__") (some none) && He.eqO (PySem.W.findIn K (.ref (He.ga K x)) "__length_hint__") (some none)) = true from C.fx h)
  exact ⟨by rw [C.cadr c hx]; exact He.eqO_ok a1, by rw [C.cadr c hx]; exact He.eqO_ok a2⟩
theorem tyK_eq (C : Ctx L K mg base) : ∀ n, tyK (L.ca K) n = tyD n
  | 0 => rfl
  | 1 => rfl
  | 2 => rfl
  | 3 => rfl
  | 4 => rfl
  | 5 => rfl
  | 6 => rfl
  | n + 7 => by
    show Value.ref (L.ca K n) = Value.ref (Tb.Cl n)
    rw [C.cl]
theorem lookup_mem' {α β : Type} [BEq α] [LawfulBEq α] {a : α} {b : β} : ∀ {l : List (α × β)}, l.lookup a = some b → (a, b) ∈ l
  | [], h => by cases h
  | (c, d) :: r, h => by
    rw [List.lookup_cons] at h
    by_cases q : (a == c) = true
    · rw [q] at h
      cases h
      rw [eq_of_beq q]
      exact List.mem_cons_self
    · simp only [Bool.not_eq_true] at q
      rw [q] at h
      exact List.mem_cons_of_mem _ (lookup_mem' h)
theorem Ctx.isi (C : Ctx L K mg base) {u : Option Str} {bu : String} {g : List (Nat × Bool)} (h : Fx.isi u bu g ∈ L.fx) : IsiF K (uOf L K u bu) g := fun n b e => by
  have q := List.all_eq_true.mp (show (g.all fun q => decide (PySem.W.kitOne K (tyK (L.ca K) q.1) (uOf L K u bu) = some q.2) && (if q.1 < 7 then true else clsB K (L.ca K (q.1 - 7)))) = true from C.fx h) (n, b) (lookup_mem' e)
  obtain ⟨q1, q2⟩ := He.ba q
  refine ⟨?_, fun c hc => ?_⟩
  · rw [← tyK_eq C n]
    exact of_decide_eq_true q1
  · subst hc
    have q3 : clsB K (L.ca K c) = true := by
      have q4 : (if c + 7 < 7 then true else clsB K (L.ca K (c + 7 - 7))) = true := q2
      rw [if_neg (by omega), Nat.add_sub_cancel] at q4
      exact q4
    exact clsB_sc (by rw [C.cl]; exact q3)
/-- isinstance against a class of the program's own -/
theorem Ctx.isiO (C : Ctx L K mg base) {x : Str} {g : List (Nat × Bool)} (h : Fx.isi (some x) "" g ∈ L.fx) : IsiF K (.ref (He.ga K x)) g := C.isi h
theorem Ctx.isiB (C : Ctx L K mg base) {bu : String} {g : List (Nat × Bool)} (h : Fx.isi none bu g ∈ L.fx) : IsiF K (.type bu) g := C.isi h
theorem Ctx.ctup (C : Ctx L K mg base) {x : Str} {vs : List He.Dv} {ds : List D} (h : Fx.tup x vs ∈ L.fx) (hl : leafVs ds = some (vs.map (He.Dv.v K)) := by rfl) : CTup K mg x ds := by
  have e := C.fx h
  have e : tupNB K x vs = true := e
  unfold tupNB at e
  cases q : PySem.W.nsIn K mainGlobals x with
  | none => rw [q] at e; cases e
  | some o =>
    rw [q] at e
    cases o with
    | none => cases e
    | some u =>
      cases u with
      | ref a =>
        cases k : K.lookup a with
        | none => simp only [k] at e; cases e
        | some ob =>
          simp only [k] at e
          obtain ⟨oc, od, dt, osl⟩ := ob
          cases oc with
          | type c =>
            cases od with
            | none =>
              cases dt with
              | seq its n =>
                obtain ⟨a1, e⟩ := He.ba e
                obtain ⟨a2, a3⟩ := He.ba e
                have ec : c = "tuple" := of_decide_eq_true a1
                subst ec
                exact ⟨a, _, its, n, _, PySem.W.mg_of C.kin C.ns q, k, rfl, rfl, rfl, of_decide_eq_true a2, hl, He.relAll_ok a3⟩
              | _ => cases e
            | some d => cases dt <;> cases e
          | _ => cases od <;> cases dt <;> cases e
      | _ => cases e
theorem Ctx.meth (C : Ctx L K mg base) (c : Nat) {x m : Str} (h : He.Fa.meth x m ∈ L.fa) (hx : L.cls.getD c "" = x := by rfl) : Meth K (Tb.Cl c) m (He.ma K (He.ga K x) m) := by
  rw [C.cadr c hx]
  exact He.meth_ok (C.d.facts h)
theorem Ctx.mkr (C : Ctx L K mg base) (c : Nat) {x : Str} (h : He.Fa.mkr x ∈ L.fa) (hx : L.cls.getD c "" = x := by rfl) : Mk K (Tb.Cl c) (He.ma K (He.ga K x) "__init__") := by
  rw [C.cadr c hx]
  exact He.mkr_ok (C.d.facts h)
/-- a def of the module, known by its name -/
theorem Ctx.kn (C : Ctx L K mg base) {x : Str} {ps : List Str} {k n : Nat} {m : List D → Option D} (d : He.DefD) (st : Stmt) (h : d ∈ L.fn) (hg : He.Fa.glo x ∈ L.fa) (he : d.at_ = (x, none) := by rfl)
    (hF : ∀ f fd, Fun K d.name d.qual st f fd → (f = He.fAd K d.at_) → FnOk P w K mg base CX0 k f fd ps (spD ⟨P, w, K, Tb.T, Tb.Cl⟩ n m))
    (hb : ∀ (kV doc pm : Value) (an : Option Addr) (cdv ct : Value) (us : List Value), us.length = ps.length → bindArgs (PySem.W.fnOf d.name d.qual (defArgs st) (defBody st) (defScope st) .none kV doc pm an cdv ct) ⟨us, []⟩ = pure (ps.zip us))
    (h1 : d.params = defArgs st := by rfl) (h2 : d.body = defBody st := by rfl) (h3 : d.scope = defScope st := by rfl) (h4 : d.dfl = [] := by rfl) (h5 : d.kwd = [] := by rfl) : Kn P w K mg base x k n m := by
  obtain ⟨fd, F⟩ := C.fun_ d st h h1 h2 h3 h4 h5
  have e : He.fAd K d.at_ = He.ga K x := by rw [he] <;> rfl
  refine ⟨He.fAd K d.at_, fd, ps, hF _ fd F rfl, ?_, F.kp, F.binds hb⟩
  rw [e]
  exact C.glo hg
/-- a method -/
theorem Ctx.methK (C : Ctx L K mg base) (c : Nat) {x m : Str} {ps : List Str} {k n : Nat} {mm : List D → Option D} (d : He.DefD) (st : Stmt) (h : d ∈ L.fn) (hm : He.Fa.meth x m ∈ L.fa) (hc : Fx.cls x ∈ L.fx) (he : d.at_ = (x, some m) := by rfl) (hx : L.cls.getD c "" = x := by rfl)
    (hF : ∀ f fd, Fun K d.name d.qual st f fd → FnOk P w K mg base CX0 k f fd ps (spD ⟨P, w, K, Tb.T, Tb.Cl⟩ n mm))
    (hb : ∀ (kV doc pm : Value) (an : Option Addr) (cdv ct : Value) (us : List Value), us.length = ps.length → bindArgs (PySem.W.fnOf d.name d.qual (defArgs st) (defBody st) (defScope st) .none kV doc pm an cdv ct) ⟨us, []⟩ = pure (ps.zip us))
    (h1 : d.params = defArgs st := by rfl) (h2 : d.body = defBody st := by rfl) (h3 : d.scope = defScope st := by rfl) (h4 : d.dfl = [] := by rfl) (h5 : d.kwd = [] := by rfl) : MethK P w K mg base c m k n mm := by
  obtain ⟨fd, F⟩ := C.fun_ d st h h1 h2 h3 h4 h5
  have e : He.fAd K d.at_ = He.ma K (He.ga K x) m := by rw [he] <;> rfl
  refine ⟨C.clsF c hc hx, He.ma K (He.ga K x) m, C.meth c hm hx, ?_⟩
  rw [← e]
  exact FnOk.rawD (hF _ fd F) (F.binds hb)
/-- C(..) -/
theorem Ctx.newK (C : Ctx L K mg base) (c : Nat) {x : Str} {ps : List Str} {k n : Nat} {mk : List D → Option (List (Option D))} (d : He.DefD) (st : Stmt) (h : d ∈ L.fn) (hm : He.Fa.mkr x ∈ L.fa) (hg : He.Fa.glo x ∈ L.fa) (he : d.at_ = (x, some ("__init__" : Str)) := by rfl) (hx : L.cls.getD c "" = x := by rfl)
    (hF : ∀ f fd, Fun K d.name d.qual st f fd → FnOk P w K mg base CX0 k f fd ps (spI ⟨P, w, K, Tb.T, Tb.Cl⟩ c n mk))
    (hb : ∀ (kV doc pm : Value) (an : Option Addr) (cdv ct : Value) (us : List Value), us.length = ps.length → bindArgs (PySem.W.fnOf d.name d.qual (defArgs st) (defBody st) (defScope st) .none kV doc pm an cdv ct) ⟨us, []⟩ = pure (ps.zip us))
    (h1 : d.params = defArgs st := by rfl) (h2 : d.body = defBody st := by rfl) (h3 : d.scope = defScope st := by rfl) (h4 : d.dfl = [] := by rfl) (h5 : d.kwd = [] := by rfl) : NewK P w K mg base x c k n mk := by
  obtain ⟨fd, F⟩ := C.fun_ d st h h1 h2 h3 h4 h5
  have e : He.fAd K d.at_ = He.ma K (He.ga K x) "__init__" := by rw [he] <;> rfl
  have M := C.mkr c hm hx
  rw [← e] at M
  exact ⟨_, fd, ps, M, hF _ fd F, by rw [C.cadr c hx]; exact C.glo hg, F.binds hb⟩
/-- o.__iter__: return iter(self.f) -/
theorem Ctx.itF (C : Ctx L K mg base) (c : Nat) {x self g : Str} {i : Nat} {p1 p2 p3 p4 p5 : Pos} (d : He.DefD) (st : Stmt) (h : d ∈ L.fn) (S : FnScope [self] [self] (defScope st)) (hm : He.Fa.meth x "__iter__" ∈ L.fa) (hc : Fx.cls x ∈ L.fx) (hs : Fx.slot x g i ∈ L.fx) (hi : He.Fa.free "iter" ∈ L.fa)
    (hbd : defBody st = [.Return (some (.Call (.Name "iter" p1) [.Attribute (.Name self p2) g p3] [] p4)) p5])
    (hok : ∀ (f : Addr) (cdv : Value) (A : Around) (outer : List PySem.Env) (s : Shared) (H : Hp), PE (cxOf CX0 P w K mg base [self] d.qual (defScope st) f cdv A outer s H E0).nox (.Call (.Name "iter" p1) [.Attribute (.Name self p2) g p3] [] p4) (tCB (rIterB K s.heap.objs.size) (tCons (SlX.tSl K (tVar 0) g) tNil)))
    (hb : ∀ (kV doc pm : Value) (an : Option Addr) (cdv ct : Value) (us : List Value), us.length = [self].length → bindArgs (PySem.W.fnOf d.name d.qual (defArgs st) (defBody st) (defScope st) .none kV doc pm an cdv ct) ⟨us, []⟩ = pure ([self].zip us)) (he : d.at_ = (x, some ("__iter__" : Str)) := by rfl) (hx : L.cls.getD c "" = x := by rfl)
    (h1 : d.params = defArgs st := by rfl) (h2 : d.body = defBody st := by rfl) (h3 : d.scope = defScope st := by rfl) (h4 : d.dfl = [] := by rfl) (h5 : d.kwd = [] := by rfl) : ItF P w K mg base c i 1 := by
  obtain ⟨fd, F⟩ := C.fun_ d st h h1 h2 h3 h4 h5
  have e : He.fAd K d.at_ = He.ma K (He.ga K x) "__iter__" := by rw [he] <;> rfl
  have M := C.meth c hm hx
  refine ⟨C.clsF c hc hx, _, M.at_, M.fn, ?_⟩
  rw [← e]
  exact fn_iter F S (F.binds hb) hbd (C.clsF c hc hx) (C.slotF c hs hx) (C.free hi) (hok _)
/-- a def whose code object is told (for lambdas in it) -/
theorem fn_pureL {x qual : Str} {st : Stmt} {f : Addr} {fd : FuncData} {N ps : List Str} {k : Nat} {sm : SM} {at_ : Str × Option Str} (Fn : Fun K x qual st f fd) (hf : f = He.fAd K at_) (S : FnScope N ps (defScope st))
    (hbody : ∀ (A : Around) (outer : List PySem.Env) (s : Shared) (H : Hp) (E : XK), Room k (A.deeper (PyProof.Rows.envOfC qual (defScope st) s.heap.objs.size f (.ref (He.codeOf K at_)))) →
      ∃ t, ESs (cxOf CX0 P w K mg base N qual (defScope st) f (.ref (He.codeOf K at_)) A outer s H E).nox (defBody st) t sm) (hn : ps.length ≤ N.length := by decide) : FnOk P w K mg base CX0 (k + 1) f fd ps (spD ⟨P, w, K, Tb.T, Tb.Cl⟩ ps.length (runD N.length sm)) := by
  obtain ⟨oc, od, kV, doc, pm, an, cdv, ct, osl, rfl, lk, hcd⟩ := Fn.ex
  obtain ⟨c, rfl⟩ := He.codeIn_ref hcd
  have ec : He.codeOf K at_ = c := He.codeOf_eq (fd := PySem.W.fnOf x qual (defArgs st) (defBody st) (defScope st) .none kV doc pm an (.ref c) ct) (by rw [← hf]; exact lk) rfl
  refine fn_of lk hcd S (fun vs H Q E h => h.1) fun A outer s H vs Q E hr h => ?_
  obtain ⟨hl, F, ds, d, ok, l, e, q⟩ := h
  rw [← ec] at hr ⊢
  obtain ⟨t, ht⟩ := hbody A outer s H E hr
  refine ⟨t, ht.pss.nox, ?_⟩
  obtain ⟨r, e1, e2⟩ := Option.bind_eq_some_iff.mp e
  refine ht.ev _ _ H F H F _ r (fit_start (Z := ⟨P, w, K, Tb.T, Tb.Cl⟩) ok l (by rw [← l.length, hl]; exact hn)) e1 ?_
  cases r with
  | rt d' => cases e2; exact fun v H' F' g r => q v H' F' g r
  | nx se => cases e2; exact fun σ H' F' f _ => q .non H' F' f.g .non
  | bk se => cases e2
  | ct se => cases e2
/-- a lambda's text in a def -/
theorem Ctx.lamT (C : Ctx L K mg base) {X : Cx} {params : Arguments} {scope : Scope} {p : Str} {i : Nat} (at_ : He.Defn) (q : Str) (hm : (at_, q) ∈ L.tq) (hX : X.base = base) (hK : X.K = K) (hmg : X.mg = mg) (hq : X.env.qual = q ++ ".<locals>.") (hcode : X.env.code = .ref (He.codeOf K at_))
    (hl : lam1B X.env.scope scope p = true) (hs : X.N[i]? = some p) (nd : X.N.Nodup) (hd : defaultsOf params X.env = ([], []))
    (hb : ∀ (body : Expr) (cl : List (Str × Addr)) (pm cd ctv u : Value), bindArgs (PySem.W.kla_fn "<lambda>" (X.env.qual ++ "<lambda>") params body scope cl pm cd ctv) ⟨[u], []⟩ = pure [(p, u)]) :
    LamT X params scope p i (He.codeOf K at_) (He.cT K at_).2 where
  lam := lam1_by hl
  slot := hs
  nd := nd
  tab := by
    rw [hX, hmg]
    exact C.tb at_ (List.mem_map.mpr ⟨_, hm, rfl⟩)
  code := hcode
  mem := by
    rw [C.tt, hq]
    exact List.mem_map.mpr ⟨(at_, q), hm, rfl⟩
  one := fun r hr e => by
    rw [C.tt] at hr
    obtain ⟨t, ht, rfl⟩ := List.mem_map.mp hr
    have : t = (at_, q) := by
      have inj : ∀ {l : List (He.Defn × Str)}, (l.map fun q => (He.cT K q.1).2).Nodup → ∀ {x y : He.Defn × Str}, x ∈ l → y ∈ l → (He.cT K x.1).2 = (He.cT K y.1).2 → x = y := fun {l} nd {x y} hx hy e => by
        induction l with
        | nil => cases hx
        | cons a l ih =>
          obtain ⟨n1, n2⟩ := List.nodup_cons.mp nd
          rcases List.mem_cons.mp hx with rfl | hx'
          · rcases List.mem_cons.mp hy with rfl | hy'
            · rfl
            · exact (n1 (List.mem_map.mpr ⟨y, hy', e.symm⟩)).elim
          · rcases List.mem_cons.mp hy with rfl | hy'
            · exact (n1 (List.mem_map.mpr ⟨x, hx', e⟩)).elim
            · exact ih n2 hx' hy'
      exact inj C.nodup ht hm e
    rw [this, hq] <;> rfl
  dflt := hd
  bind := hb
end
section
variable [Tb] {X : Cx} {te : TE} {me mb : Env → Option D} {e body : Expr} {params : Arguments} {scope : Scope} {p : Str} {c P : Addr} {k j i : Nat} {np lpos kpos pos : Pos}
theorem x_minKE (h : EX X e te me) (L : LamT X params scope p i c P) (hr : Room j X.A) (hm : X.mg "min" = none)
    (hbody : ∀ (A : Around) (outer : List PySem.Env) (s : Shared) (H : Hp) (f c' : Addr), Room k (A.deeper (LamX.lamEnv X scope s.heap.objs.size f c')) → ∃ tb, EX (LamX.lamCx X A outer s H E0 scope f c') body tb mb) (hkj : k + 2 ≤ j := by decide) (hg : Gl X "min" := by rfl)
    (h1 : backTo pos (starEach [e] X.env) = (false, eval e X.env) :: backTo pos (starEach [] X.env) := by rfl) (h1' : starEach [e] X.env = (false, eval e X.env) :: starEach [] X.env := by rfl) (hpl : (backTo pos (starEach [e] X.env)).any (·.1) = false := by rfl)
    (hall : (backToKw pos (keywordEach [⟨some "key", .Lambda params body scope lpos, kpos⟩] X.env)).all (·.1.isSome) = true := by rfl) (hnone : (backToKw pos (keywordEach [⟨some "key", .Lambda params body scope lpos, kpos⟩] X.env)).any (·.1.isNone) = false := by rfl)
    (hks : (backToKw pos (keywordEach [⟨some "key", .Lambda params body scope lpos, kpos⟩] X.env)).filterMap (·.1) = [("key" : Str)] := by rfl) :
    EX X (.Call (.Name "min" np) [e] [⟨some "key", .Lambda params body scope lpos, kpos⟩] pos) (tMinK (zOf X) te mb i) (mMinK me mb i) :=
  x_minK (tb := tM (zOf X) mb) h L hr hm (fun A outer s H f c' hr => (hbody A outer s H f c' hr).elim fun _ q => q.can) hkj hg h1 h1' hpl hall hnone hks
end
/-! ### the end -/
theorem law_at {L : LawD} {w : World} {K : PySem.W.Frag} {mg : Str → Option Value} {h : Heap} {fa : Addr} {k n : Nat} {x : Str} {l : PySem.W.OpenLaw} {m : List D → Option D} (KX : K.In h) (G : h.Ns mainGlobals mg) (hfa : mg "law" = some (.ref fa))
    (c : He.SaysX L.fa L.fn [] L.tf L.ex w h K)
    (hm : ∀ ns : List Int, ns.length ≤ n → (∀ z ∈ ns, Builtin.Int.intBits z ≤ 1048576) → m [.lst (ns.map D.int)] = some (.bl true))
    (d : He.DefD) (st : Stmt) (hd : d ∈ L.fn) (hg : He.Fa.glo "law" ∈ L.fa) (he : d.at_ = (("law" : Str), none))
    (hF : letI : Tb := ⟨L.tabs K, L.ca K⟩; ∀ base, Ctx L K mg base → ∀ f fd, Fun K d.name d.qual st f fd → FnOk l.prog w K mg base CX0 k f fd [x] (spD ⟨l.prog, w, K, L.tabs K, L.ca K⟩ 1 m))
    (hb : ∀ (kV doc pm : Value) (an : Option Addr) (cdv ct : Value) (s : Shared) (u : Value), BindsTo s (PySem.W.fnOf d.name d.qual (defArgs st) (defBody st) (defScope st) .none kV doc pm an cdv ct) ⟨[u], []⟩ [(x, u)])
    (h1 : d.params = defArgs st := by rfl) (h2 : d.body = defBody st := by rfl) (h3 : d.scope = defScope st := by rfl) (h4 : d.dfl = [] := by rfl) (h5 : d.kwd = [] := by rfl) :
    LamX.LawAtS l w K CX0 k n x mg fa h := by
  letI : Tb := ⟨L.tabs K, L.ca K⟩
  have cd : He.SaysD L.fa L.fn K := c.t.d
  obtain ⟨fd, Fd⟩ := cd.defs hd
  obtain ⟨oc, od, dV, kV, doc, pm, an, cdv, ct, osl, e1, e2, e3, e4, e5⟩ := Fd.ex
  have z : dV = .none := by
    rcases e4 with ⟨_, q⟩ | ⟨q, _⟩
    · exact q
    · exact (q (by unfold He.DefD.dvs; rw [h4]; rfl)).elim
  subst z
  rw [h1, h2, h3] at e1
  have e : He.fAd K d.at_ = He.ga K "law" := by rw [he] <;> rfl
  have eg : fa = He.ga K "law" := by
    have q := He.glo_ok KX G (cd.facts hg)
    rw [hfa] at q
    cases q
    rfl
  have Fn : Fun K d.name d.qual st fa fd := by
    rw [eg, ← e]
    exact ⟨⟨oc, od, kV, doc, pm, an, cdv, ct, osl, e1, e2, e3⟩, Fd.kp⟩
  refine ⟨fd, L.tf.map (He.cT K), spD ⟨l.prog, w, K, L.tabs K, L.ca K⟩ 1 m, fun p hp => ?_, fun p hp => ?_, fun p hp => ?_, fun s u => by rw [e1]; exact hb kV doc pm an cdv ct s u, fun H a ns hl hbits hT hS => ?_, fun base KB GB TB => ?_⟩
  · obtain ⟨q, hq, rfl⟩ := List.mem_map.mp hp
    exact c.empty q hq
  · obtain ⟨q, hq, rfl⟩ := List.mem_map.mp hp
    exact c.out q hq
  · obtain ⟨q, hq, rfl⟩ := List.mem_map.mp hp
    exact PySem.W.codeHd_of_K KX (c.hd q hq)
  · have hF0 : ∃ F : Hp, Same F H ∧ (∀ b ps, F b ≠ some (.tbl ps)) ∧ SqL K F a (ns.map V.int) := by
      rcases hS with q1 | q1
      · refine ⟨fun b => if b = a then H a else none, fun b o q => ?_, fun b ps q => ?_, .inl ?_⟩
        · have q : (if b = a then H a else none) = some o := q
          by_cases hb : b = a
          · rw [if_pos hb] at q; rw [hb]; exact q
          · rw [if_neg hb] at q; cases q
        · have q : (if b = a then H a else none) = some (HO.tbl ps) := q
          by_cases hb : b = a
          · rw [if_pos hb] at q
            rcases q1 with q1 | ⟨o, q1⟩
            · rw [q1] at q; cases q
            · rw [q1] at q; cases q
          · rw [if_neg hb] at q; cases q
        · rcases q1 with q1 | ⟨o, q1⟩
          · exact .inl ((if_pos rfl).trans q1)
          · exact .inr ⟨o, (if_pos rfl).trans q1⟩
      · exact ⟨fun _ => none, fun b o q => (by cases q), fun b ps q => (by cases q), .inr q1⟩
    obtain ⟨F, sF, nF, qF⟩ := hF0
    refine ⟨rfl, F, [.lst (ns.map D.int)], .bl true, ⟨sF, nF, fun p hp => ?_⟩, .cons (.lst qF (IsL.of_ints ns)) .nil, hm ns hl hbits, fun v H' F' g r => ?_⟩
    · obtain ⟨q, hq, rfl⟩ := List.mem_map.mp hp
      refine ⟨#[], hT _ (List.mem_map.mpr ⟨q.1, List.mem_map.mpr ⟨q, hq, rfl⟩, rfl⟩), trivial, fun pos cv z => ?_⟩
      cases z
    · cases r; rfl
  · exact hF base ⟨KB, GB, rfl, rfl, cd, c.more, fun p hp => TB _ (List.mem_map.mpr ⟨p, hp, rfl⟩)⟩ fa fd Fn
end EX
set_option Elab.async false
set_option linter.all false
set_option autoImplicit false
set_option maxRecDepth 100000
set_option maxHeartbeats 4000000
/-! E27: o.m(..) where o may be of several classes (a table of methods). -/
namespace EX
open PySem L2
variable [Tb] {Z : Zc} {F F' F1 F2 H H' H1 H2 F0 H0 : Hp} {X : Cx} {ta tb tc te to : TE} {ma mb mc me mo : Env → Option D} {t : TA} {ms : Env → Option (List D)} {pos : Pos} {e a b c o : Expr} {es : List Expr}
abbrev MTab : Type := List (Nat × (List D → Option D))
def mMethT (tbl : MTab) (mo : Env → Option D) (ms : Env → Option (List D)) : Env → Option D := fun env => (mo env).bind fun d => match d with
  | .obj C fs => (tbl.lookup C).bind fun mm => (ms env).bind fun ds => mm (.obj C fs :: ds)
  | _ => none
/-- what is known of a table of methods -/
def MethT (P : Program) (w : World) (K : PySem.W.Frag) (mg : Str → Option Value) (base : Heap) (m : Str) (k n : Nat) (tbl : MTab) : Prop := ∀ C mm, tbl.lookup C = some mm → MethK P w K mg base C m k n mm
section
variable {P : Program} {w : World} {K : PySem.W.Frag} {mg : Str → Option Value} {base : Heap}
theorem MethK.mono {C : Nat} {m : Str} {k k' n : Nat} {mm : List D → Option D} (h : MethK P w K mg base C m k n mm) (hk : k ≤ k') : MethK P w K mg base C m k' n mm := by
  obtain ⟨cf, g, hm, F⟩ := h
  exact ⟨cf, g, hm, fun A outer s H us vs Q E hr => F A outer s H us vs Q E (hr.mono hk)⟩
theorem MethT.nil {m : Str} {k n : Nat} : MethT P w K mg base m k n [] := fun C mm e => by cases e
theorem MethT.cons {m : Str} {k k' n C : Nat} {mm : List D → Option D} {tbl : MTab} (h : MethK P w K mg base C m k' n mm) (hk : k' ≤ k) (r : MethT P w K mg base m k n tbl) : MethT P w K mg base m k n ((C, mm) :: tbl) := fun C' mm' e => by
  rw [List.lookup_cons] at e
  by_cases q : C' = C
  · subst q
    simp at e
    subst e
    exact h.mono hk
  · have q' : (C' == C) = false := by simpa using q
    rw [q'] at e
    exact r C' mm' e
end
variable {m : Str} {apos : Pos} {k j n : Nat} {tbl : MTab} {pl : Sem Bool}
def tMethT (Z : Zc) (tbl : MTab) (n : Nat) (to : TE) (t : TA) : TE := fun σ H Q => ∃ C mm, tbl.lookup C = some mm ∧ SlX.tMethSl (Z.Cl C) (spD Z n mm) E0 to t σ H Q
theorem ev_methT (ho : Evl (zOf X) to mo) (ha : EvA (zOf X) t ms) (hn : ∀ env ds, ms env = some ds → ds.length = n) : Evl (zOf X) (tMethT (zOf X) tbl (n + 1) to t) (mMethT tbl mo ms) := fun env σ H F Q d f s e k => by
  obtain ⟨x, e1, e2⟩ := Option.bind_eq_some_iff.mp e
  cases x with
  | obj C fs =>
    obtain ⟨mm, e3, e4⟩ := Option.bind_eq_some_iff.mp (show (tbl.lookup C).bind _ = some d from e2)
    refine ⟨C, mm, e3, ev_meth (X := X) (mo := mo) (ms := ms) ho ha hn env σ H F Q d f s ?_ k⟩
    unfold mMeth
    rw [e1]
    show (if (C == C) = true then (ms env).bind fun ds => mm (.obj C fs :: ds) else none) = some d
    rw [if_pos (by simp)]
    exact e4
  | _ => cases e2
theorem x_methT (h : EX X o to mo) (hM : MethT X.prog X.w X.K X.mg X.base m k (n + 1) tbl) (hr : Room j X.A) (ha : EA X (e :: es) t ms) (hn : ∀ env ds, ms env = some ds → ds.length = n) (hkj : k ≤ j := by decide)
    (hst : starEach (e :: es) X.env = (false, eval e X.env) :: starEach es X.env := by rfl) (hpl : (backTo pos (starEach es X.env)).any (·.1) = false := by rfl)
    (ht : eval (.Call (.Attribute o m apos) (e :: es) [] pos) X.env = (do
      let ov ← eval o X.env
      standAt apos.atName
      let (f, first) ← holding [ov] (getMethod ov m pl)
      callWith pos f first (backTo pos (starEach (e :: es) X.env)) (backToKw pos (keywordEach [] X.env))) := by rfl) :
    EX X (.Call (.Attribute o m apos) (e :: es) [] pos) (tMethT (zOf X) tbl (n + 1) to t) (mMethT tbl mo ms) := by
  refine ⟨⟨fun pins s σ H Q I ⟨C, mm, e1, q⟩ => ?_⟩, ev_methT h.ev ha.ev hn⟩
  obtain ⟨cf, g, hm, F⟩ := hM C mm e1
  exact (SlX.pe_methSl h.pe cf.sc hm F (hr.mono hkj) pass0 ha.pa hst hpl ht).run pins s σ H Q I q
theorem x_methT0 (h : EX X o to mo) (hM : MethT X.prog X.w X.K X.mg X.base m k 1 tbl) (hr : Room j X.A) (hkj : k ≤ j := by decide)
    (ht : eval (.Call (.Attribute o m apos) [] [] pos) X.env = (do
      let ov ← eval o X.env
      standAt apos.atName
      let (f, first) ← holding [ov] (getMethod ov m pl)
      callWith pos f first (backTo pos (starEach [] X.env)) (backToKw pos (keywordEach [] X.env))) := by rfl) :
    EX X (.Call (.Attribute o m apos) [] [] pos) (tMethT (zOf X) tbl (0 + 1) to tNil) (mMethT tbl mo (fun _ => some [])) := by
  refine ⟨⟨fun pins s σ H Q I ⟨C, mm, e1, q⟩ => ?_⟩, ev_methT h.ev a_nil.ev len_nil⟩
  obtain ⟨cf, g, hm, F⟩ := hM C mm e1
  exact (SlX.pe_methSl0 h.pe cf.sc hm F (hr.mono hkj) pass0 ht).run pins s σ H Q I q
/-- a statement list that is never run to its end (recursion at fuel 0) -/
theorem ss_never {sts : List Stmt} : ESs X sts tNever sNever := ⟨pss_never, fun _ _ _ _ _ _ _ _ _ e _ => nomatch e⟩
/-! ### canonical terms of statements; try -/
def tS (Z : Zc) (m : SM) : TS := fun D0 σ H => ∃ se F0 H0 F r, FitS Z F0 H0 F se σ H ∧ m se = some r ∧ Post Z F0 H0 F D0 r
theorem ESs.can {sts : List Stmt} {u : TS} {m : SM} (h : ESs X sts u m) : ESs X sts (tS (zOf X) m) m := ⟨⟨fun pins s σ H D0 I ⟨se, F0, H0, F, r, f, e, p⟩ => h.pss.run pins s σ H D0 I (h.ev se σ H F0 H0 F D0 r f e p)⟩, fun se σ H F0 H0 F D0 r f e p => ⟨se, F0, H0, F, r, f, e, p⟩⟩
theorem s_tryE {body : List Stmt} {m : SM} {hs : List ExceptHandler} {h0 : ExceptHandler} (hb : ∀ pn, ∃ u, ESs (X.tr pn (fun _ _ => False)) body u m) : ES X (.Try body (h0 :: hs) [] [] pos) (tS (zOf X) m) m :=
  s_try fun pn => (hb pn).elim fun _ h => h.can
def mNeg (me : Env → Option D) : Env → Option D := fun env => (me env).bind fun | .int i => some (.int (-i)) | _ => none
theorem x_negM (ha : EX X a ta ma) : EX X (.UnaryOp .USub a pos) (tUn (rU fun i => .int (-i)) ta) (mNeg ma) := x_neg ha
/-! ### names for what is bound to an environment -/
def mRev (me : Env → Option D) : Env → Option D := fun env => (me env).bind revD
def mL (m : Env → Option (List D)) : Env → Option D := fun env => (m env).map D.lst
def mCat (ma mb : Env → Option D) : Env → Option (List D) := fun env => do let x ← ma env; let y ← mb env; fAdd x y
def mIsN (me : Env → Option D) : Env → Option D := fun env => (me env).map fun d => .bl (isNon d)
def mNotN (me : Env → Option D) : Env → Option D := fun env => (me env).map fun d => .bl (!isNon d)
def mTupRg (me : Env → Option D) : Env → Option D := fun env => (me env).bind tupRg
def mIsi (g : List (Nat × Bool)) (me : Env → Option D) : Env → Option D := fun env => (me env).bind (dIsi g)
def mIsi2 (g g' : List (Nat × Bool)) (me : Env → Option D) : Env → Option D := fun env => (me env).bind fun x => (dIsi g x).bind fun | .bl true => some (.bl true) | .bl false => dIsi g' x | _ => none
end EX
set_option Elab.async false
set_option linter.all false
set_option autoImplicit false
set_option maxRecDepth 100000
set_option maxHeartbeats 4000000
/-! E28: x = x + e, x a list of one's own. -/
namespace EX
open PySem L2
variable [Tb] {Z : Zc} {F F' F1 F2 H H' H1 H2 F0 H0 : Hp} {X : Cx} {ta tb tc te to : TE} {ma mb mc me mo : Env → Option D} {pos : Pos} {e a b c o : Expr} {es : List Expr} {se : SEnv} {σ : L2.St}
/-- the own list of the slot i, longer by the list that m gives: a new list of one's own -/
def sCatO (i : Nat) (m : Env → Option D) : SM := fun se => match se[i]? with
  | some (.o (.l ds)) => (m (rd false se)).bind fun d => match d with
    | .lst ds' => if smallN (ds.length + ds'.length) = true then some (.nx (se.set i (.o (.l (ds ++ ds'))))) else none
    | _ => none
  | _ => none
theorem s_catO (i : Nat) {x : Str} {pos' p1 p2 : Pos} (hN : X.N.Nodup) (h : EX X b tb mb) (hi : X.N[i]? = some x := by rfl) (hx : Loc X.env.scope x := by first | exact Or.inl rfl | exact Or.inr rfl)
    (hv : Vis X.env.scope x := by first | exact Or.inl rfl | exact Or.inr (Or.inl rfl) | exact Or.inr (Or.inr rfl)) (hd : (x == ("__debug__" : Str)) = false := by decide) (hcd : (x == ("__classdict__" : Str)) = false := by decide)
    (hs : swapsWith (.BinOp (.Name x p1) .Add b p2) (some (.Name x pos')) pos.line X.env = pure false := by rfl) (hf : X.fn x = true ∨ X.env.scope.names.lookup x = some .local := by first | exact .inl rfl | exact .inr rfl | assumption) :
    ES X (.Assign [.Name x pos'] (.BinOp (.Name x p1) .Add b p2) pos) (tAsg (tOp (rCatL X.K) (tVar i) tb) (gName i)) (sCatO i mb) := ⟨ps_set hN hi hx (pe_op op_catL (pe_var hi hv hd hcd) h.pe) hs hf, fun se σ H F0 H0 F D0 r f ev p => by
  have ev : (match se[i]? with
    | some (.o (.l ds)) => (mb (rd false se)).bind fun d => match d with
      | .lst ds' => if smallN (ds.length + ds'.length) = true then some (Res.nx (se.set i (.o (.l (ds ++ ds'))))) else none
      | _ => none
    | _ => none) = some r := ev
  cases q : se[i]? with
  | none => rw [q] at ev; cases ev
  | some sl =>
    rw [q] at ev
    cases sl with
    | u => cases ev
    | f d => cases ev
    | o c =>
      cases c with
      | k kvs => cases ev
      | l ds =>
        obtain ⟨d, e1, e2⟩ := Option.bind_eq_some_iff.mp (show (mb (rd false se)).bind _ = some r from ev)
        cases d with
        | lst ds' =>
          obtain ⟨hz, rfl⟩ := ite_some (show (if smallN (ds.length + ds'.length) = true then some (Res.nx (se.set i (.o (.l (ds ++ ds'))))) else none) = some r from e2)
          obtain ⟨a, h1, ⟨vs, h2, h3⟩, h4, h5⟩ := f.ow i _ q
          refine ⟨.ref a, h1, ?_⟩
          refine h.ev _ σ H _ _ _ f.fit f.g.ok e1 fun w H' F' g r1 => ?_
          have h2' := g.h _ _ h2 lst_nt
          cases r1 with
          | @lst pb ys yd q' l' =>
            have l3 := h3.mono g.f
            refine ⟨a, pb, vs, ys, rfl, rfl, .inl (.of h2'), same_l g.ok.s q', smallN_line hz (by rw [l3.length, l'.length]), fun np hp => ?_⟩
            have gn := Grow.made (o := .lst (vs ++ ys)) g.ok hp
            have f2 := (f.grow g).grow gn
            exact p _ _ F' (f2.setO ⟨_, upd_same, l3.append l'⟩ (g.ok.none_of hp) ((f.grow g).g.free hp) fun j c' _ e => own_fresh (f.grow g) hp j c' e) g.f
        | _ => cases e2⟩
end EX
set_option Elab.async false
set_option linter.all false
set_option autoImplicit false
set_option maxRecDepth 100000
set_option maxHeartbeats 4000000
/-! E29: list(range(n)); x.remove(k), x a list of whole numbers of one's own that has k. -/
namespace EX
open PySem L2
variable [Tb] {Z : Zc} {F F' F1 F2 H H' H1 H2 F0 H0 : Hp} {X : Cx} {ta tb tc te to : TE} {ma mb mc me mo : Env → Option D} {pos : Pos} {e a b c o : Expr} {es : List Expr} {se : SEnv} {σ : L2.St}
/-! ### list(range(n)) -/
def lstRg : D → Option (List D)
  | .int n => if (decide (0 ≤ n) && decide (n ≤ 16777216)) = true then some (rgD n) else none
  | _ => none
def mLstRg (m : Env → Option D) : Env → Option (List D) := fun env => (m env).bind lstRg
theorem x_lstRg {p1 p2 : Pos} {pos2 : Pos} (hc : X.calm = true) (hm : X.mg "list" = none) (hm2 : X.mg "range" = none) (ha : EX X a ta ma) (hg : Gl X "list" := by rfl) (hg2 : Gl X "range" := by rfl)
    (na : starEach [a] X.env = (false, eval a X.env) :: starEach [] X.env := by rfl) (nb : starEach [.Call (.Name "range" p2) [a] [] pos2] X.env = (false, eval (.Call (.Name "range" p2) [a] [] pos2) X.env) :: starEach [] X.env := by rfl) :
    EXF X (.Call (.Name "list" p1) [.Call (.Name "range" p2) [a] [] pos2] [] pos) (tLstRg (tRg1 ta)) (mLstRg ma) where
  pe := pe_listRg hc hg hm (prg_1 hg2 hm2 ha.pe na) nb
  ev := fun env σ H F Q d f s e k => by
    obtain ⟨x, e1, e2⟩ := Option.bind_eq_some_iff.mp e
    refine ha.ev env σ H F _ x f s e1 fun v H1 F1 g1 r1 => ?_
    cases r1 with
    | @int n =>
      obtain ⟨hz, rfl⟩ := ite_some e2
      rw [Bool.and_eq_true] at hz
      have h0 := of_decide_eq_true hz.1
      have h1 := of_decide_eq_true hz.2
      exact ⟨n, rfl, RgOk.of_le (Int.le_refl 0) h1 (by decide) h0, fun p hp => k p _ _ F1 (g1.trans (Grow.made g1.ok hp)) (g1.ok.none_of hp) (g1.free hp) upd_same (rg_is n)⟩
    | _ => cases e2
/-! ### x.remove(k) -/
def remK (ds : List D) (se : SEnv) (i : Nat) : D → Option Res
  | .int k => (intsOf ds).bind fun ns => if (ns.contains k) = true then some (.nx (se.set i (.o (.l ((ns.erase k).map D.int))))) else none
  | _ => none
def remS (i : Nat) (m : Env → Option D) (se : SEnv) : Sl → Option Res
  | .o (.l ds) => (m (rd false se)).bind (remK ds se i)
  | _ => none
def sRem (i : Nat) (m : Env → Option D) : SM := fun se => (se[i]?).bind (remS i m se)
theorem s_rem (i : Nat) {x : Str} {pos' : Pos} {apos cpos : Pos} (h : EX X e te me) (hi : X.N[i]? = some x := by rfl) (hv : Vis X.env.scope x := by first | exact Or.inl rfl | exact Or.inr (Or.inl rfl) | exact Or.inr (Or.inr rfl)) (hd : (x == ("__debug__" : Str)) = false := by decide)
    (hcd : (x == ("__classdict__" : Str)) = false := by decide) (hst : starEach [e] X.env = (false, eval e X.env) :: starEach [] X.env := by rfl) (hs : swapsWith (.Call (.Attribute (.Name x pos') "remove" apos) [e] [] cpos) none pos.line X.env = pure false := by rfl)
    (hbase : attributeBase (.Name x pos') "remove" X.env (eval (.Name x pos') X.env) = eval (.Name x pos') X.env := by rfl)
    (hfew : ((backTo cpos (starEach [e] X.env)).all (fun x => !x.1) && (backToKw cpos (keywordEach [] X.env)).all (fun x => x.1.isSome)
      && decide (([e] : List Expr).length + ([] : List Keyword).length + (if ([] : List Keyword).isEmpty then 0 else 1) < 30)) = true := by rfl)
    (hline : (apos.endLine == cpos.line) = true := by rfl) (hplain : (backTo cpos (starEach [] X.env)).any (·.1) = false := by rfl) (hc : X.calm = true := by rfl) :
    ES X (.Expr (.Call (.Attribute (.Name x pos') "remove" apos) [e] [] cpos) pos) (tDrop (tRemX X.K (fun _ _ _ _ => False) (tVar i) te)) (sRem i me) :=
  ⟨ps_expr (pe_remX hc (fun u s' ⟨_, _, _, _, _, _, _, _, _, _, _, _, _, _, _, _, w⟩ => w.elim) (pe_var hi hv hd hcd) h.pe hbase hfew hline hst hplain) hs, fun se σ H F0 H0 F D0 r f e p => by
    obtain ⟨sl, hse, e0⟩ := Option.bind_eq_some_iff.mp e
    cases sl with
    | u => cases e0
    | f d => cases e0
    | o c =>
      cases c with
      | k kvs => cases e0
      | l ds =>
        obtain ⟨d, e1, e2⟩ := Option.bind_eq_some_iff.mp (show (me (rd false se)).bind (remK ds se i) = some r from e0)
        cases d with
        | int k =>
          obtain ⟨ns, e3, e4⟩ := Option.bind_eq_some_iff.mp (show (intsOf ds).bind (fun ns => if (ns.contains k) = true then some (Res.nx (se.set i (.o (.l ((ns.erase k).map D.int))))) else none) = some r from e2)
          obtain ⟨hz, rfl⟩ := ite_some e4
          have hk : k ∈ ns := by simpa using hz
          obtain ⟨a, vs, q1, q2, q3⟩ := vals_list f hse
          refine ⟨.ref a, q1, .inl ⟨rfl, vs, .of q2⟩, ?_⟩
          refine h.ev _ σ H _ _ _ f.fit f.g.ok e1 fun v H1 F1 g1 r1 => ?_
          have f1 := f.grow g1
          have q4 : H1 a = some (.lst vs) := g1.h _ _ q2 lst_nt
          have q5 := q3.mono g1.f
          rw [intsOf_eq e3] at q5
          have q6 := q5.ints
          cases r1
          refine ⟨a, ns, k, rfl, rfl, by rw [← q6]; exact q4, fun _ => ?_, fun z => absurd hk z⟩
          exact p _ _ F1 (f1.setL' hse q1 q4 (IsL.of_ints (ns.erase k))) g1.f
        | _ => cases e2⟩
end EX
set_option Elab.async false
set_option linter.all false
set_option autoImplicit false
set_option maxRecDepth 100000
set_option maxHeartbeats 4000000
/-! E30: d[k] = v for a dict whose keys are tuples, and {k: v for ..} that makes one. -/
namespace EX
open PySem L2
variable [Tb] {Z : Zc} {F F' F1 F2 H H' H1 H2 F0 H0 : Hp} {X : Cx} {ta tb tc te to : TE} {ma mb mc me mo : Env → Option D} {pos : Pos} {e a b c o : Expr} {es : List Expr} {se : SEnv} {σ : L2.St}
/-- a dict is written at a key that is a tuple -/
theorem dict_setT {pins : List (Addr × Obj)} {s : Shared} {E : Value → Shared → Prop} {D0 : Addr} {o : Obj} {kv : List (V × V)} {kvs : List (D × D)} {d dv : D} {y z : V} {u r : Value} {k : NestedKey} {j : Nat} {Q : Unit → Shared → Prop} (I : Inv X pins σ H s) (hr : Room j X.A)
    (f : Same F H) (hD : H D0 = some (DO D0 o)) (q : DObj (zOf X) o kv kvs) (l : IsP (zOf X) F kv kvs) (iy : Is (zOf X) F y d) (hk : keyD d = some k) (iz : Is (zOf X) F z dv) (ry : RelV y u) (rz : RelV z r) (hz : kvs.length < 100000)
    (h : ∀ o' kv' s', DObj (zOf X) o' kv' (storeK kvs k d dv) → IsP (zOf X) F kv' (storeK kvs k d dv) → Inv X pins σ (upd H D0 (DO D0 o')) s' → Q () s') : wpAny (model X.prog X.w) X.A (dictSet D0 u r) Q E s := by
  obtain ⟨hkk, h8, ht⟩ := keyD_tup hk
  obtain ⟨b, rfl⟩ := key_ref iy hk
  cases (show u = Value.ref b from ry)
  obtain ⟨h0, _, _⟩ := I.hok D0 _ hD
  cases q with
  | @tup xs es ep h1 h2 h3 h4 h5 h6 =>
    have hd2 : s.heap.DictOfH (nestedKind X.prog X.w) D0 xs := ⟨o, es, ep, h0, h1, h2, h3, ents_is I f h4 l, h5⟩
    have hl := (ents_len h4).1
    have hu : (nestedKind X.prog X.w).room X.A := by
      have := hr.un
      show X.A.units + 8 < cLine
      omega
    refine wpAny_dictSet_heap (hsz := by rw [sizeLine_eq]; omega) hu ⟨Is.nested I f iy hkk rfl, h8⟩ hd2 fun h' dd' sb => ?_
    obtain ⟨kv', a1, a2⟩ := ents_store hkk h8 ht iy rz iz h4 l
    obtain ⟨o', es', ep', ho, hex, hdt, hes, hkeys, hnd⟩ := dd'
    have hlen : (storeK kvs k d dv).length ≤ 100000 := by
      unfold storeK
      split
      · simp; omega
      · simp; omega
    exact h o' kv' _ (.tup hex hdt hes a1 hnd hlen) a2 (d_write I (by rw [hD]; exact True.intro) sb ⟨o', ho⟩ ⟨ho, ⟨o', ho⟩, fun h1 h2 q k => k _ q⟩)
/-- a new dict -/
def noDict : Obj := { cls := .type "dict", data := .dict #[] }
theorem noDict_is : DObj Z noDict [] [] := .tup (xs := []) (es := #[]) (ep := 0) ⟨rfl, rfl, rfl⟩ rfl rfl True.intro .nil (Nat.zero_le _)
/-! ### {k: v for target in iter if ..}, whatever stands for the dict -/
section
open PySem.Spec PyProof.Rows
variable {tg kx vx iter : Expr} {ifs : List Expr} {scope : Scope} {own : List (Str × Nat)} {wi : TI} {g : TG} {tt : TT} {tk tv : TE}
/-- how a pair goes into the dict at D: a heap after that, for all heaps of which R is known -/
abbrev PutR := Addr → V → V → Hp → (Hp → Prop) → Prop
/-- one turn: what is walked gives x -/
def turnR (P : PutR) (g : TG) (tt : TT) (tk tv : TE) (vs : List Nat) (σ : L2.St) (D0 : Addr) (x : V) (H : Hp) (R : Hp → Prop) : Prop :=
  g x (wipe σ vs) H fun τ Ha => wipe τ vs = wipe σ vs ∧ tt τ Ha fun yes Hb => if yes = true then tk τ Hb fun y Hc => tv τ Hc fun z Hd => P D0 y z Hd R else R Hb
/-- the whole, the new dict begun with o0 -/
def tDcP (P : PutR) (o0 : Addr → HO) (wi : TI) (g : TG) (tt : TT) (tk tv : TE) (vs : List Nat) : TE := fun σ H Q => wi σ H fun J Hi => ∀ D0, Hi D0 = none → (D0 == sysModules) = false →
  ∃ W : Nat → Nat → Hp → Prop, (∃ m, W 0 m (upd Hi D0 (o0 D0))) ∧ ∀ i m Hn, W i m Hn → (J.stop i Hn ∧ Q (.ref D0) Hn) ∨ (J.go i Hn ∧ ∀ x Hx, J.yld i Hn x Hx → turnR P g tt tk tv vs σ D0 x Hx fun He => ∃ m', m' < m ∧ W (i + 1) m' He)
/-- the rules of a turn's parts, wherever the block stands -/
structure PartsD (X : Cx) (scope : Scope) (tg kx vx : Expr) (ifs : List Expr) (g : TG) (tt : TT) (tk tv : TE) : Prop where
  tgt : ∀ s H C cl fp, PG (inBlk X scope s H C cl fp) tg g
  tst : ∀ s H C cl fp, PTs (inBlk X scope s H C cl fp) ifs tt
  key : ∀ s H C cl fp, PE (inBlk X scope s H C cl fp) kx tk
  val : ∀ s H C cl fp, PE (inBlk X scope s H C cl fp) vx tv
/-- a new dict may be called o0; a pair may be put into it, wherever the block stands -/
structure PutsD (X : Cx) (scope : Scope) (P : PutR) (o0 : Addr → HO) : Prop where
  new : ∀ (h : Heap) (H : Hp), HOk X.prog X.w H h → (h.objs.size == sysModules) = false → ObjOk X.prog X.w (upd H h.objs.size (o0 h.objs.size)) (h.push { cls := .type "dict", data := .dict #[] }) h.objs.size (o0 h.objs.size)
  put : ∀ s H C cl fp pins (s' : Shared) τ Hd D0 y z u r (R : Hp → Prop) (Q : Unit → Shared → Prop) (E : Value → Shared → Prop), Inv (inBlk X scope s H C cl fp) pins τ Hd s' → RelV y u → RelV z r → P D0 y z Hd R →
    (∀ He s2, R He → Inv (inBlk X scope s H C cl fp) pins τ He s2 → Q () s2) → wpAny (model X.prog X.w) X.A (dictSet D0 u r) Q E s'
variable {P : PutR} {o0 : Addr → HO}
/-- the loop, in the block's context -/
theorem dcP_loop {s0 sL : Shared} {HB HL : Hp} {C it D0 : Addr} {cl : List (Str × Addr)} {fp : List Addr} {tn : Nat → Heap → Prop} {J : It} {vs : List Nat} {W : Nat → Nat → Hp → Prop} {Qd : Hp → Prop} {Rz : Result → Shared → Prop} {m : Nat}
    (hc : X.calm = true) (T : Turn X.prog X.w X.K tg J fp it tn) (N : PutsD X scope P o0) (R : PartsD X scope tg kx vx ifs g tt tk tv)
    (turn : ∀ i k Hn, W i k Hn → (J.stop i Hn ∧ Qd Hn) ∨ (J.go i Hn ∧ ∀ x Hx, J.yld i Hn x Hx → turnR P g tt tk tv vs σ D0 x Hx fun He => ∃ k', k' < k ∧ W (i + 1) k' He))
    (fin : ∀ (sE : Shared) (Hn : Hp), Inv (inBlk X scope s0 HB C cl fp) [] (wipe σ vs) Hn sE → Qd Hn → Rz (.ok .next) sE)
    (IL : Inv (inBlk X scope s0 HB C cl fp) [] (wipe σ vs) HL sL) (tL : tn 0 sL.heap) (nL : ∀ b ∈ fp, HL b = none) (wL : W 0 m HL) :
    codeAny (model X.prog X.w) X.A (.compLoop (.DictComp kx vx [⟨tg, iter, ifs, 0⟩] scope pos) 0 (.ref it) (.ref D0) (compEnvC scope cl C X.env)) Rz sL := by
  have still : ∀ {τ : L2.St} {Hq : Hp} {sq : Shared}, Inv (inBlk X scope s0 HB C cl fp) [] τ Hq sq → (∀ b ∈ fp, Hq b = none) → ∀ b ∈ fp, FpOk (inBlk X scope s0 HB C cl fp) [] Hq b := fun Iq nq b hb =>
    have q := Iq.ok.exf b hb
    ⟨nq b hb, q.1, Iq.ok.exfs b hb, Or.inl hb, q.2, fun p hp => by simp at hp⟩
  refine compLoop_anyD (fun k s1 => ∃ i Hn, Inv (inBlk X scope s0 HB C cl fp) [] (wipe σ vs) Hn s1 ∧ tn i s1.heap ∧ (∀ b ∈ fp, Hn b = none) ∧ W i k Hn) ?_ m ⟨0, HL, IL, tL, nL, wL⟩
  rintro k s1 ⟨i, Hn, I1, t1, n1, w1⟩
  rcases turn i k Hn w1 with ⟨ends, q⟩ | ⟨goes, q⟩
  · refine thnF (T.done (inBlk X scope s0 HB C cl fp) rfl rfl rfl hc i [] s1 _ Hn (fun _ _ => False) I1 (still I1 n1) t1 ends) fun r s2 ⟨hr, I2⟩ => ?_
    subst hr
    exact fin s2 Hn I2 q
  refine thnF (T.item (inBlk X scope s0 HB C cl fp) rfl rfl rfl hc i [] s1 _ Hn (fun _ _ => False) I1 (still I1 n1) t1 goes) fun r s2 ⟨u, hr, h2⟩ => ?_
  subst hr
  refine thnF h2 fun _ s3 ⟨x, Hx, I3, rx, yx, t3, n3⟩ => ?_
  have held := I3.pinned (still I3 n3) (T.obj _ _ t3)
  have next : ∀ {τ : L2.St} {He : Hp} {sE : Shared}, wipe τ vs = wipe σ vs → Inv (inBlk X scope s0 HB C cl fp) ([] ++ pinsAt fp s3.heap) τ He sE → (∃ k', k' < k ∧ W (i + 1) k' He) →
      ∃ k', k' < k ∧ ∃ j Hq, Inv (inBlk X scope s0 HB C cl fp) [] (wipe σ vs) Hq sE ∧ tn j sE.heap ∧ (∀ b ∈ fp, Hq b = none) ∧ W j k' Hq := fun {τ He sE} hw IE ⟨k', lt, w'⟩ => by
    have at_ : ∀ b ∈ fp, ∀ ob, s3.heap.get? b = some ob → sE.heap.get? b = some ob ∧ He b = none := fun b hb ob eo => by
      have z := IE.pin (b, ob) (List.mem_append_right _ (List.mem_append_right _ (mem_pinsAt hb eo)))
      exact ⟨z.1, z.2.1⟩
    refine ⟨k', lt, i + 1, He, IE.unpinned.weak (by rw [← hw, wipe_length]) (fun l v el => ?_), T.keep _ _ _ t3 fun b hb ob eo => (at_ b hb ob eo).1, fun b hb => ?_, w'⟩
    · rw [← hw] at el
      exact (wipe_some el).1
    · obtain ⟨ob, eo, _⟩ := T.obj _ _ t3 b hb
      exact (at_ b hb ob eo).2
  refine thnF ((R.tgt s0 HB C cl fp).run _ s3 _ Hx x u _ held rx (q x Hx yx)) fun _ s4 ⟨τ, Ha, I4, hw, q4⟩ => ?_
  refine thnF ((R.tst s0 HB C cl fp).run _ s4 τ Ha _ I4 q4) fun yes s5 ⟨Hb, I5, q5⟩ => ?_
  cases yes with
  | false => exact next hw I5 q5
  | true =>
    refine thnF ((R.key s0 HB C cl fp).run _ s5 τ Hb _ I5 q5) fun ku s6 ⟨y, Hc, I6, ry, q6⟩ => ?_
    refine thnF ((R.val s0 HB C cl fp).run _ s6 τ Hc _ I6 q6) fun vu s7 ⟨z, Hd, I7, rz, q7⟩ => ?_
    exact N.put s0 HB C cl fp _ s7 τ Hd D0 y z ku vu _ _ _ I7 ry rz q7 fun He s8 he I8 => next hw I8 he
theorem pe_dcP (N : PutsD X scope P o0) (R : PartsD X scope tg kx vx ifs g tt tk tv) (hc : X.calm = true) (hN : X.N.Nodup) (hi : PI X tg iter wi) (ok : BlkOk X.N X.env.scope scope own) (hs : ∀ x, foldedSetIterable iter X.env x = pure x := by intro _; rfl) :
    PE X (.DictComp kx vx [⟨tg, iter, ifs, 0⟩] scope pos) (tDcP P o0 wi g tt tk tv (own.map (·.2))) := by
  refine ⟨fun pins s σ H Q I h => ?_⟩
  have frees : ∀ y ∈ scope.names, y.2 = .free → ∃ c, X.env.cells.lookup y.1 = some c := fun y hy ey =>
    (ok.free y hy ey).elim (fun z => I.ok.has _ (.inl z)) fun z => I.ok.has _ (.inr z)
  rw [arm_eval_DictComp]
  refine wpAny_comprehension_free rfl hs (closure_ok frees) ok.kind (fun y hy ey => by rw [ok.uniq y hy, ey]) (thn (hi.run pins s σ H _ I h) fun xv s1 hx => thn hx fun itv s2 ⟨it, fp, tn, J, Hi, eit, I2, T, t2, f2, q⟩ => ?_)
  subst eit
  refine wpAny_newObj_type (newEnv_comp ?_)
  -- the new dict stands at D0
  generalize eD : s2.heap.objs.size = D0
  have hle : s2.heap.objs.size ≤ D0 := Nat.le_of_eq eD
  have hbig := I2.big
  have hsys : (D0 == sysModules) = false := beq_eq_false_iff_ne.mpr fun z => absurd (Nat.lt_of_lt_of_le hbig hle) (by rw [z]; decide)
  obtain ⟨W, ⟨m0, w0⟩, turn⟩ := q D0 (I2.hok.fresh hle) hsys
  generalize eS : ({ s2 with heap := s2.heap.push { cls := .type "dict", data := .dict #[] } } : Shared) = s3
  have hp3 : s3.heap = s2.heap.push { cls := .type "dict", data := .dict #[] } := by rw [← eS]
  have I3 : Inv X pins σ (upd Hi D0 (o0 D0)) s3 := by
    rw [← eS]
    refine I2.laid (t' := s2.toks) (fun b ob eo => Heap.get?_push_of_some _ eo) hle ?_
    subst eD
    exact N.new s2.heap Hi I2.hok hsys
  have fps : ∀ b ∈ fp, FpOk X pins (upd Hi D0 (o0 D0)) b ∧ b < s3.heap.objs.size := fun b hb => by
    obtain ⟨ob, eo, _⟩ := T.obj _ _ t2 b hb
    have lt := Heap.lt_size eo
    refine ⟨⟨?_, (f2 b hb).2⟩, by rw [hp3, Heap.size_push]; exact Nat.lt_succ_of_lt lt⟩
    rw [upd_ne (by rw [← eD]; exact Nat.ne_of_lt lt)]
    exact (f2 b hb).1
  have t3 : tn 0 s3.heap := T.keep _ _ _ t2 fun b _ ob eo => by rw [hp3]; exact Heap.get?_push_of_some _ eo
  have IB := block_start I3 ok hN fps
  have nB : ∀ b ∈ fp, (upd Hi D0 (o0 D0)) b = none := fun b hb => (fps b hb).1.1
  have t4 : tn 0 (pushCells (s3.heap.push { cls := .type "dict", data := .dict #[] }) scope.names) := T.keep _ _ _ t3 fun b _ ob eo => pushCells_keeps _ _ _ _ (Heap.get?_push_of_some _ eo)
  refine (fun loop => codeAny_compStart_dict loop (T.self X.A 0 _ _ _ t4 loop)) (dcP_loop (s0 := s3) (C := s3.heap.objs.size) (cl := cellsFrom (s3.heap.objs.size + 1) scope.names (cloFrom X.env.cells scope.names [])) hc T N R turn (fun sE He IE qE => ?_) IB t4 nB w0)
  -- back in the def
  have fpX : ∀ b ∈ fp, FpOk X pins (upd Hi D0 (o0 D0)) b := fun b hb => (fps b hb).1
  have back : Inv X pins σ He sE := I3.call' (ch := fp) IE.os IE.base IE.hok IE.bare fun b hb => ⟨(fpX b hb).2.2.2.1, (fpX b hb).2.1, (fpX b hb).2.2.2.2.1, (fpX b hb).2.2.2.2.2⟩
  have hC : He s3.heap.objs.size = none := IE.free
  obtain ⟨m, hm, _⟩ := IE.loc
  obtain ⟨c0, c1, c2, c3, c4, c5⟩ := I3.fpOk (Nat.le_refl _) hC
  exact ⟨m, hm, fun h' sb => ⟨.ref D0, He, back.turned (t' := sE.toks) (fun b ob nb eo => (sb.2 b nb).trans eo) c0 c1 c3 c4 c5, rfl, qE⟩⟩
end
end EX
set_option Elab.async false
set_option linter.all false
set_option autoImplicit false
set_option maxRecDepth 100000
set_option maxHeartbeats 4000000
/-! E31: {k: v for ..} with keys that are tuples, as a function of data. -/
namespace EX
open PySem L2
variable [Tb] {Z : Zc} {F F' F1 F2 H H' H1 H2 F0 H0 : Hp} {X : Cx} {ta tb tc te to : TE} {ma mb mc me mo : Env → Option D} {pos : Pos} {e a b c o : Expr} {es : List Expr} {se : SEnv} {σ : L2.St}
  {tg kx vx iter : Expr} {ifs : List Expr} {scope : Scope} {own : List (Str × Nat)} {wi : TI} {g : TG} {tt : TT} {tk tv : TE} {mi : Env → Option (List D)} {mg : D → Option (List D)} {ix vs : List Nat} {nt : Env → Option Bool} {mk mv : Env → Option D}
/-- over what a walk gives -/
theorem dc_it {J : It} {n : Nat} {G : Hp → Prop} {Y : Nat → Hp → V → Hp → Prop} (w : Walk J n G Y) {P : PutR} {ho : HO} {D0 : Addr} {Qd : Hp → Prop} (Pv : Nat → Hp → Prop) (h0 : Pv 0 (upd H1 D0 ho)) (hG : ∀ i H, i ≤ n → Pv i H → G H)
    (hs : ∀ i x H H' (R : Hp → Prop), i < n → Pv i H → Y i H x H' → (∀ He, Pv (i + 1) He → R He) → turnR P g tt tk tv vs σ D0 x H' R) (hd : ∀ H, Pv n H → Qd H) :
    ∃ W : Nat → Nat → Hp → Prop, (∃ m, W 0 m (upd H1 D0 ho)) ∧ ∀ i m Hn, W i m Hn → (J.stop i Hn ∧ Qd Hn) ∨ (J.go i Hn ∧ ∀ x Hx, J.yld i Hn x Hx → turnR P g tt tk tv vs σ D0 x Hx fun He => ∃ m', m' < m ∧ W (i + 1) m' He) := by
  refine ⟨fun i m Hn => m = n - i ∧ i ≤ n ∧ Pv i Hn, ⟨n, rfl, Nat.zero_le n, h0⟩, fun i m Hn ⟨em, hi, p⟩ => ?_⟩
  rcases Nat.lt_or_eq_of_le hi with lt | rfl
  · exact .inr ⟨w.goes i Hn lt (hG i Hn hi p), fun x Hx y => hs i x Hn Hx _ lt p (w.yields i Hn x Hx lt (hG i Hn hi p) y) fun He q => ⟨n - (i + 1), by omega, rfl, lt, q⟩⟩
  · exact .inl ⟨w.stops Hn (hG i Hn hi p), hd Hn p⟩
/-- a pair whose key is a tuple -/
def putT (Z : Zc) : PutR := fun D0 y z Hd R => ∃ F o kv kvs dk dv k, Same F Hd ∧ Hd D0 = some (DO D0 o) ∧ DObj Z o kv kvs ∧ IsP Z F kv kvs ∧ Is Z F y dk ∧ keyD dk = some k ∧ Is Z F z dv ∧ kvs.length < 100000 ∧
  ∀ o' kv', DObj Z o' kv' (storeK kvs k dk dv) → IsP Z F kv' (storeK kvs k dk dv) → R (upd Hd D0 (DO D0 o'))
theorem puts_T {j : Nat} (hr : Room j X.A) : PutsD X scope (putT (zOf X)) (fun a => DO a noDict) where
  new := fun h H _ _ => ⟨Heap.get?_push_size _ rfl, ⟨_, Heap.get?_push_size _ rfl⟩, fun h1 h2 q k => k _ q⟩
  put := fun s H C cl fp pins s' τ Hd D0 y z u r R Q E I ry rz ⟨F, o, kv, kvs, dk, dv, k, f, hD, qo, l, iy, hk, iz, hz, nx⟩ q =>
    dict_setT (X := inBlk X scope s H C cl fp) I hr f hD qo l iy hk iz ry rz hz fun o' kv' s2 q2 l2 I2 => q _ s2 (nx o' kv' q2 l2) I2
theorem do_nc {a : Addr} {o : Obj} {q : Str} (hd : ∃ es ep, o.data = .dict es ep) : DO a o ≠ LamX.CodeO a q := fun z => by
  unfold DO LamX.CodeO at z
  injection z with z
  obtain ⟨es, ep, e3⟩ := hd
  have h : (({ objs := Array.replicate (a + 1) o } : Heap)).get? a = some o := by
    obtain ⟨oc, od, odata, os⟩ := o
    cases e3
    simp [Heap.get?]
  have h2 := (congrFun z ({ objs := Array.replicate (a + 1) o } : Heap)).mp h
  obtain ⟨oc, vs, t, e1, e2, _⟩ := h2
  rw [h] at e1
  cases e1
  rw [e3] at e2
  cases e2
theorem DObj.dat {o : Obj} {kv : List (V × V)} {kvs : List (D × D)} (q : DObj Z o kv kvs) : ∃ es ep, o.data = .dict es ep := by
  cases q with
  | tup h1 h2 => exact ⟨_, _, h2⟩
/-! ### the mirror -/
def mPairS (mk mv : Env → Option D) (acc : List (D × D)) (env : Env) : Option (List (D × D)) := (mk env).bind fun k => (mv env).bind fun v => (keyD k).map fun kk => storeK acc kk k v
def turnP (mg : D → Option (List D)) (ix : List Nat) (nt : Env → Option Bool) (mk mv : Env → Option D) (env : Env) (acc : List (D × D)) (d : D) : Option (List (D × D)) :=
  (mg d).bind fun xs => (nt (setL env ix (xs.map some))).bind fun b => if b = true then mPairS mk mv acc (setL env ix (xs.map some)) else some acc
def dcD (f : List (D × D) → D → Option (List (D × D))) (acc : List (D × D)) : List D → Option (List (D × D))
  | [] => some acc
  | d :: ds => (f acc d).bind fun acc' => dcD f acc' ds
def mDc (mi : Env → Option (List D)) (mg : D → Option (List D)) (ix : List Nat) (nt : Env → Option Bool) (mk mv : Env → Option D) (vs : List Nat) : Env → Option D := fun env =>
  (mi env).bind fun ds => if small ds = true then (dcD (turnP mg ix nt mk mv (wipeE env vs)) [] ds).map D.dct else none
theorem dcD_get {f : List (D × D) → D → Option (List (D × D))} : ∀ {ds : List D} {a0 out : List (D × D)}, dcD f a0 ds = some out → ∀ (i : Nat), i < ds.length →
    ∃ acc d acc', dcD f a0 (ds.take i) = some acc ∧ ds[i]? = some d ∧ f acc d = some acc' ∧ dcD f a0 (ds.take (i + 1)) = some acc'
  | [], _, _, _, i, h => absurd h (Nat.not_lt_zero i)
  | d :: ds, a0, out, e, 0, _ => by
    obtain ⟨acc', e1, e2⟩ := Option.bind_eq_some_iff.mp (show (f a0 d).bind _ = some out from e)
    exact ⟨a0, d, acc', rfl, rfl, e1, by show (f a0 d).bind _ = _; rw [e1]; rfl⟩
  | d :: ds, a0, out, e, i + 1, h => by
    obtain ⟨acc1, e1, e2⟩ := Option.bind_eq_some_iff.mp (show (f a0 d).bind _ = some out from e)
    obtain ⟨acc, d', acc', q1, q2, q3, q4⟩ := dcD_get e2 i (by simpa using h)
    refine ⟨acc, d', acc', ?_, by simpa using q2, q3, ?_⟩
    · show (f a0 d).bind _ = _
      rw [e1]; exact q1
    · show (f a0 d).bind _ = _
      rw [e1]; exact q4
/-- the new dict at Dl while a comprehension runs -/
structure DcI (Z : Zc) (F1 H1 : Hp) (Dl : Addr) (acc : List (D × D)) (Fc Hc : Hp) : Prop where
  g : Grow Z F1 H1 Fc Hc
  nD : H1 Dl = none
  nF : Fc Dl = none
  at_ : ∃ o kv, Hc Dl = some (DO Dl o) ∧ DObj Z o kv acc ∧ IsP Z Fc kv acc
theorem DcI.start (ok : Ok Z F1 H1) {Dl : Addr} (n : H1 Dl = none) : DcI Z F1 H1 Dl [] F1 (upd H1 Dl (DO Dl noDict)) :=
  ⟨Grow.made ok n, n, ok.none_of n, noDict, [], upd_same, noDict_is, .nil⟩
theorem DcI.grow {Dl : Addr} {acc : List (D × D)} {Fc Hc F2 H2 : Hp} (h : DcI Z F1 H1 Dl acc Fc Hc) (g : Grow Z Fc Hc F2 H2) : DcI Z F1 H1 Dl acc F2 H2 := by
  obtain ⟨o, kv, a, q, l⟩ := h.at_
  exact ⟨h.g.trans g, h.nD, (g.o Dl (ne_some a)).trans h.nF, o, kv, g.h _ _ a do_nt, q, l.mono g.f⟩
theorem DcI.put {Dl : Addr} {acc acc' : List (D × D)} {Fc Hc : Hp} (h : DcI Z F1 H1 Dl acc Fc Hc) {o' : Obj} {kv' : List (V × V)} (q : DObj Z o' kv' acc') (l : IsP Z Fc kv' acc') : DcI Z F1 H1 Dl acc' Fc (upd Hc Dl (DO Dl o')) := by
  obtain ⟨o, kv, a, q0, l0⟩ := h.at_
  refine ⟨⟨h.g.f, h.g.ok.write (o' := DO Dl o') h.nF a do_nt (fun x => do_nc q0.dat), fun b u e nt => ?_, fun b hb => ?_, h.g.o⟩, h.nD, h.nF, o', kv', upd_same, q, l⟩
  · rw [upd_ne (ne_of_none e h.nD)]
    exact h.g.h b u e nt
  · by_cases z : b = Dl
    · rw [z, upd_same]
      exact fun x => nomatch x
    · rw [upd_ne z]
      exact h.g.u b hb
theorem storeK_len (kvs : List (D × D)) (k : NestedKey) (d v : D) : (storeK kvs k d v).length ≤ kvs.length + 1 := by
  unfold storeK
  split
  · simp
  · simp
theorem dcD_len {mg : D → Option (List D)} {env : Env} : ∀ {ds : List D} {a0 out : List (D × D)}, dcD (turnP mg ix nt mk mv env) a0 ds = some out → out.length ≤ a0.length + ds.length
  | [], a0, out, e => by cases e; simp
  | d :: ds, a0, out, e => by
    obtain ⟨acc1, e1, e2⟩ := Option.bind_eq_some_iff.mp (show (turnP mg ix nt mk mv env a0 d).bind _ = some out from e)
    have q := dcD_len e2
    have q1 : acc1.length ≤ a0.length + 1 := by
      unfold turnP at e1
      obtain ⟨xs, h1, e1⟩ := Option.bind_eq_some_iff.mp e1
      obtain ⟨b, h2, e1⟩ := Option.bind_eq_some_iff.mp e1
      cases b with
      | false => cases e1; omega
      | true =>
        obtain ⟨kd, h3, e1⟩ := Option.bind_eq_some_iff.mp (show mPairS mk mv a0 _ = some acc1 from e1)
        obtain ⟨vd, h4, e1⟩ := Option.bind_eq_some_iff.mp e1
        obtain ⟨kk, h5, rfl⟩ := Option.map_eq_some_iff.mp e1
        exact storeK_len _ _ _ _
    simp
    omega
theorem ev_dc (hi : EvI Z wi mi) (hg : EvG Z g mg ix) (hx : ∀ i ∈ ix, i ∈ vs) (ht : EvT Z tt nt) (hk : Evl Z tk mk) (hv : Evl Z tv mv) : Evl Z (tDcP (putT Z) (fun a => DO a noDict) wi g tt tk tv vs) (mDc mi mg ix nt mk mv vs) := fun env σ H F Q d f s e k => by
  obtain ⟨ds, e1, e2⟩ := Option.bind_eq_some_iff.mp (show (mi env).bind _ = some d from e)
  obtain ⟨hz, out, e3, rfl⟩ : small ds = true ∧ ∃ out, dcD (turnP mg ix nt mk mv (wipeE env vs)) [] ds = some out ∧ D.dct out = d := by
    by_cases hz : small ds = true
    · rw [if_pos hz] at e2
      obtain ⟨out, q1, q2⟩ := Option.map_eq_some_iff.mp e2
      exact ⟨hz, out, q1, q2⟩
    · rw [if_neg hz] at e2; cases e2
  have hz' : ds.length ≤ 100000 := of_decide_eq_true hz
  refine hi env σ H F _ ds f s e1 fun J H1 F1 g1 w => ?_
  intro Dl hD hsys
  obtain ⟨G, Y, W, hG, hY⟩ := w.ex
  have f1 : Fit Z F1 (wipeE env vs) (wipe σ vs) := (f.mono g1.f).wipe vs
  refine dc_it W (fun i Hc => ∃ Fc acc, DcI Z F1 H1 Dl acc Fc Hc ∧ dcD (turnP mg ix nt mk mv (wipeE env vs)) [] (ds.take i) = some acc)
    ⟨F1, [], DcI.start g1.ok hD, rfl⟩ (fun i Hc _ ⟨Fc, acc, L, _⟩ => hG Hc (L.g.f.trans L.g.ok.s)) ?_ ?_
  · rintro i x Hc Hn R hlt ⟨Fc, acc, L, hpre⟩ y fin
    obtain ⟨F2, d, gN, hd, rx⟩ := hY i Hc x Hn Fc hlt L.g.f L.g.ok y
    have L2 := L.grow gN
    obtain ⟨acc0, d', acc', q1, q2, q3, q4⟩ := dcD_get e3 i hlt
    rw [hpre] at q1
    cases q1
    rw [hd] at q2
    cases q2
    unfold turnP at q3
    obtain ⟨xs0, h1, q3⟩ := Option.bind_eq_some_iff.mp q3
    obtain ⟨bb, h2, h3⟩ := Option.bind_eq_some_iff.mp q3
    refine hg d (wipe σ vs) Hn F2 _ x xs0 L2.g.ok rx h1 fun us lu => ⟨(wipe_setL vs ix _ _ hx).trans (wipe_twice σ vs), ?_⟩
    have f' := ((f1.mono L2.g.f).setL (ix := ix) lu)
    generalize setL (wipeE env vs) ix (xs0.map some) = env' at f' h2 h3
    generalize setL (wipe σ vs) ix (us.map some) = σ' at f' ⊢
    refine ht env' σ' Hn F2 _ bb f' L2.g.ok h2 fun H3 F3 g3 => ?_
    have L3 := L2.grow g3
    cases bb with
    | false =>
      cases h3
      exact fin _ ⟨F3, _, L3, q4⟩
    | true =>
      obtain ⟨kd, h4, h3⟩ := Option.bind_eq_some_iff.mp (show mPairS mk mv acc env' = some acc' from h3)
      obtain ⟨vd, h5, h3⟩ := Option.bind_eq_some_iff.mp h3
      obtain ⟨kk, h6, rfl⟩ := Option.map_eq_some_iff.mp h3
      show tk σ' H3 _
      refine hk env' σ' H3 F3 _ kd (f'.mono g3.f) g3.ok h4 fun yk H4 F4 g4 r4 => ?_
      refine hv env' σ' H4 F4 _ vd ((f'.mono g3.f).mono g4.f) g4.ok h5 fun yv H5 F5 g5 r5 => ?_
      have L5 := (L3.grow g4).grow g5
      obtain ⟨o, kv, a, q, l⟩ := L5.at_
      have hlen := dcD_len hpre
      rw [List.length_take] at hlen
      refine ⟨F5, o, kv, acc, kd, vd, kk, g5.ok.s, a, q, l, r4.mono g5.f, h6, r5, by simp at hlen; omega, fun o' kv' q' l' => fin _ ⟨F5, _, L5.put q' l', q4⟩⟩
  · rintro Hc ⟨Fc, acc, L, hpre⟩
    rw [List.take_length, e3] at hpre
    cases hpre
    obtain ⟨o, kv, a, q, l⟩ := L.at_
    exact k (.ref Dl) Hc (upd Fc Dl (DO Dl o)) ((g1.trans L.g).freeze (g1.free L.nD) a L.nF do_nt) (.dct upd_same q (l.mono fun b u x => by rw [upd_ne (ne_of_none x L.nF)]; exact x) hsys)
/-- {k: v for ..}, keys tuples -/
theorem x_dcE {j : Nat} (own : List (Str × Nat)) (hr : Room j X.A) (hN : X.N.Nodup) (hi : EI X tg iter wi mi) (ok : blkC X.N X.env.scope scope own = true)
    (hg : ∀ s H C cl fp, ∃ g, EG (inBlk X scope s H C cl fp) tg g mg ix) (ht : ∀ s H C cl fp, ∃ qa, ETs (inBlk X scope s H C cl fp) ifs qa nt) (hk : ∀ s H C cl fp, ∃ te, EX (inBlk X scope s H C cl fp) kx te mk) (hv : ∀ s H C cl fp, ∃ te, EX (inBlk X scope s H C cl fp) vx te mv)
    (hx : ∀ i ∈ ix, i ∈ own.map (·.2) := by decide) (hc : X.calm = true := by rfl) (hs : ∀ x, foldedSetIterable iter X.env x = pure x := by intro _; rfl) :
    EX X (.DictComp kx vx [⟨tg, iter, ifs, 0⟩] scope pos) (tDcP (putT (zOf X)) (fun a => DO a noDict) wi (gM (zOf X) mg ix) (qM (zOf X) nt) (tM (zOf X) mk) (tM (zOf X) mv) (own.map (·.2))) (mDc mi mg ix nt mk mv (own.map (·.2))) := by
  have cg := fun s H C cl fp => (hg s H C cl fp).elim fun _ h => h.can
  have ct := fun s H C cl fp => (ht s H C cl fp).elim fun _ h => h.can
  have ck := fun s H C cl fp => (hk s H C cl fp).elim fun _ h => h.can
  have cv := fun s H C cl fp => (hv s H C cl fp).elim fun _ h => h.can
  exact ⟨pe_dcP (puts_T hr) ⟨fun s H C cl fp => (cg s H C cl fp).pg, fun s H C cl fp => (ct s H C cl fp).pts, fun s H C cl fp => (ck s H C cl fp).pe, fun s H C cl fp => (cv s H C cl fp).pe⟩ hc hN hi.pi (blkOk_by ok) hs,
    ev_dc hi.ev (cg { } (fun _ => none) 0 [] []).ev hx (ct { } (fun _ => none) 0 [] []).ev (ck { } (fun _ => none) 0 [] []).ev (cv { } (fun _ => none) 0 [] []).ev⟩
end EX
set_option Elab.async false
set_option linter.all false
set_option autoImplicit false
set_option maxRecDepth 100000
set_option maxHeartbeats 4000000
/-! E32: dicts whose keys are whole numbers: {k: v for ..}, len. -/
namespace EX
open PySem L2
variable [Tb] {Z : Zc} {F F' F1 F2 H H' H1 H2 F0 H0 : Hp} {X : Cx} {ta tb tc te to : TE} {ma mb mc me mo : Env → Option D} {pos : Pos} {e a b c o : Expr} {es : List Expr} {se : SEnv} {σ : L2.St}
  {tg kx vx iter : Expr} {ifs : List Expr} {scope : Scope} {own : List (Str × Nat)} {wi : TI} {g : TG} {tt : TT} {tk tv : TE} {mi : Env → Option (List D)} {mg : D → Option (List D)} {ix vs : List Nat} {nt : Env → Option Bool} {mk mv : Env → Option D}
/-- a pair whose key is a whole number -/
def putI : PutR := fun D0 y z Hd R => ∃ kv k, y = .int k ∧ Hd D0 = some (.dK kv) ∧ kv.length < sizeLine ∧ R (upd Hd D0 (.dK (putK kv (.inl k) z)))
theorem puts_I : PutsD X scope putI (fun _ => .dK []) where
  new := fun h H _ hs => ⟨Nat.zero_le _, hs, [], .nil, Heap.DictOf.new h⟩
  put := fun s H C cl fp pins s' τ Hd D0 y z u r R Q E I ry rz ⟨kv, k, ey, hD, hz, nx⟩ q => by
    subst ey
    exact d_dictSet (X := inBlk X scope s H C cl fp) (k := .inl k) I hD hz ry rz fun s2 I2 => q _ s2 nx I2
/-! ### the mirror -/
def storeI (kvs : List (Int × D)) (k : Int) (v : D) : List (Int × D) := if (kvs.any fun q => decide (q.1 = k)) = true then kvs.map (fun q => if q.1 = k then (q.1, v) else q) else kvs ++ [(k, v)]
theorem any_I {k : Int} : ∀ {kv : List (Key × V)} {kvs : List (Int × D)}, IsI Z F kv kvs → (kv.any fun q => decide (q.1 = (.inl k : Key))) = kvs.any fun q => decide (q.1 = k)
  | _, _, .nil => rfl
  | _, _, .cons h l => by
    simp only [List.any_cons, any_I l]
    congr 1
    simp
theorem map_I {k : Int} {z : V} {dz : D} (iz : Is Z F z dz) : ∀ {kv : List (Key × V)} {kvs : List (Int × D)}, IsI Z F kv kvs → IsI Z F (kv.map fun q => if q.1 = (.inl k : Key) then (q.1, z) else q) (kvs.map fun q => if q.1 = k then (q.1, dz) else q)
  | _, _, .nil => .nil
  | _, _, .cons (k := j) h l => by
    simp only [List.map_cons]
    by_cases e : j = k
    · subst e
      simp only [if_true]
      exact .cons iz (map_I iz l)
    · have e' : ¬ ((.inl j : Key) = .inl k) := fun z => e (Sum.inl.inj z)
      simp only [e, e', if_false]
      exact .cons h (map_I iz l)
theorem snoc_I {k : Int} {z : V} {dz : D} (iz : Is Z F z dz) : ∀ {kv : List (Key × V)} {kvs : List (Int × D)}, IsI Z F kv kvs → IsI Z F (kv ++ [(.inl k, z)]) (kvs ++ [(k, dz)])
  | _, _, .nil => .cons iz .nil
  | _, _, .cons h l => .cons h (snoc_I iz l)
theorem store_I {k : Int} {z : V} {dz : D} (iz : Is Z F z dz) {kv : List (Key × V)} {kvs : List (Int × D)} (l : IsI Z F kv kvs) : IsI Z F (putK kv (.inl k) z) (storeI kvs k dz) := by
  unfold putK storeI
  rw [any_I l]
  split
  · exact map_I iz l
  · exact snoc_I iz l
theorem isI_len : ∀ {kv : List (Key × V)} {kvs : List (Int × D)}, IsI Z F kv kvs → kv.length = kvs.length
  | _, _, .nil => rfl
  | _, _, .cons _ l => by simp [isI_len l]
def pairI (acc : List (Int × D)) (v : D) : D → Option (List (Int × D))
  | .int k => some (storeI acc k v)
  | _ => none
def mPairI (mk mv : Env → Option D) (acc : List (Int × D)) (env : Env) : Option (List (Int × D)) := (mk env).bind fun k => (mv env).bind fun v => pairI acc v k
def turnI (mg : D → Option (List D)) (ix : List Nat) (nt : Env → Option Bool) (mk mv : Env → Option D) (env : Env) (acc : List (Int × D)) (d : D) : Option (List (Int × D)) :=
  (mg d).bind fun xs => (nt (setL env ix (xs.map some))).bind fun b => if b = true then mPairI mk mv acc (setL env ix (xs.map some)) else some acc
def foldO {α : Type} (f : α → D → Option α) (acc : α) : List D → Option α
  | [] => some acc
  | d :: ds => (f acc d).bind fun acc' => foldO f acc' ds
def mDcI (mi : Env → Option (List D)) (mg : D → Option (List D)) (ix : List Nat) (nt : Env → Option Bool) (mk mv : Env → Option D) (vs : List Nat) : Env → Option D := fun env =>
  (mi env).bind fun ds => if small ds = true then (foldO (turnI mg ix nt mk mv (wipeE env vs)) [] ds).map D.dki else none
theorem foldO_get {α : Type} {f : α → D → Option α} : ∀ {ds : List D} {a0 out : α}, foldO f a0 ds = some out → ∀ (i : Nat), i < ds.length →
    ∃ acc d acc', foldO f a0 (ds.take i) = some acc ∧ ds[i]? = some d ∧ f acc d = some acc' ∧ foldO f a0 (ds.take (i + 1)) = some acc'
  | [], _, _, _, i, h => absurd h (Nat.not_lt_zero i)
  | d :: ds, a0, out, e, 0, _ => by
    obtain ⟨acc', e1, e2⟩ := Option.bind_eq_some_iff.mp (show (f a0 d).bind _ = some out from e)
    exact ⟨a0, d, acc', rfl, rfl, e1, by show (f a0 d).bind _ = _; rw [e1]; rfl⟩
  | d :: ds, a0, out, e, i + 1, h => by
    obtain ⟨acc1, e1, e2⟩ := Option.bind_eq_some_iff.mp (show (f a0 d).bind _ = some out from e)
    obtain ⟨acc, d', acc', q1, q2, q3, q4⟩ := foldO_get e2 i (by simpa using h)
    refine ⟨acc, d', acc', ?_, by simpa using q2, q3, ?_⟩
    · show (f a0 d).bind _ = _
      rw [e1]; exact q1
    · show (f a0 d).bind _ = _
      rw [e1]; exact q4
theorem storeI_len (kvs : List (Int × D)) (k : Int) (v : D) : (storeI kvs k v).length ≤ kvs.length + 1 := by
  unfold storeI
  split
  · simp
  · simp
theorem foldI_len {mg : D → Option (List D)} {env : Env} : ∀ {ds : List D} {a0 out : List (Int × D)}, foldO (turnI mg ix nt mk mv env) a0 ds = some out → out.length ≤ a0.length + ds.length
  | [], a0, out, e => by cases e; simp
  | d :: ds, a0, out, e => by
    obtain ⟨acc1, e1, e2⟩ := Option.bind_eq_some_iff.mp (show (turnI mg ix nt mk mv env a0 d).bind _ = some out from e)
    have q := foldI_len e2
    have q1 : acc1.length ≤ a0.length + 1 := by
      unfold turnI at e1
      obtain ⟨xs, h1, e1⟩ := Option.bind_eq_some_iff.mp e1
      obtain ⟨b, h2, e1⟩ := Option.bind_eq_some_iff.mp e1
      cases b with
      | false => cases e1; omega
      | true =>
        obtain ⟨kd, h3, e1⟩ := Option.bind_eq_some_iff.mp (show mPairI mk mv a0 _ = some acc1 from e1)
        obtain ⟨vd, h4, e1⟩ := Option.bind_eq_some_iff.mp e1
        cases kd with
        | int k => cases e1; exact storeI_len _ _ _
        | _ => cases e1
    simp
    omega
/-- the new dict at Dl while a comprehension runs -/
structure DkI (Z : Zc) (F1 H1 : Hp) (Dl : Addr) (acc : List (Int × D)) (Fc Hc : Hp) : Prop where
  g : Grow Z F1 H1 Fc Hc
  nD : H1 Dl = none
  nF : Fc Dl = none
  at_ : ∃ kv, Hc Dl = some (.dK kv) ∧ IsI Z Fc kv acc
theorem dk_nt {kv : List (Key × V)} (ps : Array Value) : HO.dK kv ≠ .tbl ps := fun z => by cases z
theorem dk_nc {kv : List (Key × V)} {a : Addr} (q : Str) : HO.dK kv ≠ LamX.CodeO a q := fun z => by
  unfold LamX.CodeO at z
  cases z
theorem DkI.grow {Dl : Addr} {acc : List (Int × D)} {Fc Hc F2 H2 : Hp} (h : DkI Z F1 H1 Dl acc Fc Hc) (g : Grow Z Fc Hc F2 H2) : DkI Z F1 H1 Dl acc F2 H2 := by
  obtain ⟨kv, a, l⟩ := h.at_
  exact ⟨h.g.trans g, h.nD, (g.o Dl (ne_some a)).trans h.nF, kv, g.h _ _ a dk_nt, l.mono g.f⟩
theorem DkI.put {Dl : Addr} {acc acc' : List (Int × D)} {Fc Hc : Hp} (h : DkI Z F1 H1 Dl acc Fc Hc) {kv' : List (Key × V)} (l : IsI Z Fc kv' acc') : DkI Z F1 H1 Dl acc' Fc (upd Hc Dl (.dK kv')) := by
  obtain ⟨kv, a, l0⟩ := h.at_
  refine ⟨⟨h.g.f, h.g.ok.write (o' := .dK kv') h.nF a dk_nt (fun x => dk_nc x), fun b u e nt => ?_, fun b hb => ?_, h.g.o⟩, h.nD, h.nF, kv', upd_same, l⟩
  · rw [upd_ne (ne_of_none e h.nD)]
    exact h.g.h b u e nt
  · by_cases z : b = Dl
    · rw [z, upd_same]
      exact fun x => nomatch x
    · rw [upd_ne z]
      exact h.g.u b hb
theorem ev_dcI (hi : EvI Z wi mi) (hg : EvG Z g mg ix) (hx : ∀ i ∈ ix, i ∈ vs) (ht : EvT Z tt nt) (hk : Evl Z tk mk) (hv : Evl Z tv mv) : Evl Z (tDcP putI (fun _ => .dK []) wi g tt tk tv vs) (mDcI mi mg ix nt mk mv vs) := fun env σ H F Q d f s e k => by
  obtain ⟨ds, e1, e2⟩ := Option.bind_eq_some_iff.mp (show (mi env).bind _ = some d from e)
  obtain ⟨hz, out, e3, rfl⟩ : small ds = true ∧ ∃ out, foldO (turnI mg ix nt mk mv (wipeE env vs)) [] ds = some out ∧ D.dki out = d := by
    by_cases hz : small ds = true
    · rw [if_pos hz] at e2
      obtain ⟨out, q1, q2⟩ := Option.map_eq_some_iff.mp e2
      exact ⟨hz, out, q1, q2⟩
    · rw [if_neg hz] at e2; cases e2
  have hz' : ds.length ≤ 100000 := of_decide_eq_true hz
  refine hi env σ H F _ ds f s e1 fun J H1 F1 g1 w => ?_
  intro Dl hD hsys
  obtain ⟨G, Y, W, hG, hY⟩ := w.ex
  have f1 : Fit Z F1 (wipeE env vs) (wipe σ vs) := (f.mono g1.f).wipe vs
  refine dc_it W (fun i Hc => ∃ Fc acc, DkI Z F1 H1 Dl acc Fc Hc ∧ foldO (turnI mg ix nt mk mv (wipeE env vs)) [] (ds.take i) = some acc)
    ⟨F1, [], ⟨Grow.made g1.ok hD, hD, g1.ok.none_of hD, [], upd_same, .nil⟩, rfl⟩ (fun i Hc _ ⟨Fc, acc, L, _⟩ => hG Hc (L.g.f.trans L.g.ok.s)) ?_ ?_
  · rintro i x Hc Hn R hlt ⟨Fc, acc, L, hpre⟩ y fin
    obtain ⟨F2, d, gN, hd, rx⟩ := hY i Hc x Hn Fc hlt L.g.f L.g.ok y
    have L2 := L.grow gN
    obtain ⟨acc0, d', acc', q1, q2, q3, q4⟩ := foldO_get e3 i hlt
    rw [hpre] at q1
    cases q1
    rw [hd] at q2
    cases q2
    unfold turnI at q3
    obtain ⟨xs0, h1, q3⟩ := Option.bind_eq_some_iff.mp q3
    obtain ⟨bb, h2, h3⟩ := Option.bind_eq_some_iff.mp q3
    refine hg d (wipe σ vs) Hn F2 _ x xs0 L2.g.ok rx h1 fun us lu => ⟨(wipe_setL vs ix _ _ hx).trans (wipe_twice σ vs), ?_⟩
    have f' := ((f1.mono L2.g.f).setL (ix := ix) lu)
    generalize setL (wipeE env vs) ix (xs0.map some) = env' at f' h2 h3
    generalize setL (wipe σ vs) ix (us.map some) = σ' at f' ⊢
    refine ht env' σ' Hn F2 _ bb f' L2.g.ok h2 fun H3 F3 g3 => ?_
    have L3 := L2.grow g3
    cases bb with
    | false =>
      cases h3
      exact fin _ ⟨F3, _, L3, q4⟩
    | true =>
      obtain ⟨kd, h4, h3⟩ := Option.bind_eq_some_iff.mp (show mPairI mk mv acc env' = some acc' from h3)
      obtain ⟨vd, h5, h3⟩ := Option.bind_eq_some_iff.mp h3
      cases kd with
      | int kk =>
        cases h3
        show tk σ' H3 _
        refine hk env' σ' H3 F3 _ _ (f'.mono g3.f) g3.ok h4 fun yk H4 F4 g4 r4 => ?_
        refine hv env' σ' H4 F4 _ vd ((f'.mono g3.f).mono g4.f) g4.ok h5 fun yv H5 F5 g5 r5 => ?_
        have L5 := (L3.grow g4).grow g5
        obtain ⟨kv, a, l⟩ := L5.at_
        have hlen := foldI_len hpre
        rw [List.length_take] at hlen
        have hl2 := isI_len l
        cases r4
        exact ⟨kv, kk, rfl, a, by rw [sizeLine_eq]; simp at hlen; omega, fin _ ⟨F5, _, L5.put (store_I r5 l), q4⟩⟩
      | _ => cases h3
  · rintro Hc ⟨Fc, acc, L, hpre⟩
    rw [List.take_length, e3] at hpre
    cases hpre
    obtain ⟨kv, a, l⟩ := L.at_
    exact k (.ref Dl) Hc (upd Fc Dl (.dK kv)) ((g1.trans L.g).freeze (g1.free L.nD) a L.nF dk_nt) (.dki upd_same (l.mono fun b u x => by rw [upd_ne (ne_of_none x L.nF)]; exact x))
/-- {k: v for ..}, keys whole numbers -/
theorem x_dcI (own : List (Str × Nat)) (hN : X.N.Nodup) (hi : EI X tg iter wi mi) (ok : blkC X.N X.env.scope scope own = true)
    (hg : ∀ s H C cl fp, ∃ g, EG (inBlk X scope s H C cl fp) tg g mg ix) (ht : ∀ s H C cl fp, ∃ qa, ETs (inBlk X scope s H C cl fp) ifs qa nt) (hk : ∀ s H C cl fp, ∃ te, EX (inBlk X scope s H C cl fp) kx te mk) (hv : ∀ s H C cl fp, ∃ te, EX (inBlk X scope s H C cl fp) vx te mv)
    (hx : ∀ i ∈ ix, i ∈ own.map (·.2) := by decide) (hc : X.calm = true := by rfl) (hs : ∀ x, foldedSetIterable iter X.env x = pure x := by intro _; rfl) :
    EX X (.DictComp kx vx [⟨tg, iter, ifs, 0⟩] scope pos) (tDcP putI (fun _ => .dK []) wi (gM (zOf X) mg ix) (qM (zOf X) nt) (tM (zOf X) mk) (tM (zOf X) mv) (own.map (·.2))) (mDcI mi mg ix nt mk mv (own.map (·.2))) := by
  have cg := fun s H C cl fp => (hg s H C cl fp).elim fun _ h => h.can
  have ct := fun s H C cl fp => (ht s H C cl fp).elim fun _ h => h.can
  have ck := fun s H C cl fp => (hk s H C cl fp).elim fun _ h => h.can
  have cv := fun s H C cl fp => (hv s H C cl fp).elim fun _ h => h.can
  exact ⟨pe_dcP puts_I ⟨fun s H C cl fp => (cg s H C cl fp).pg, fun s H C cl fp => (ct s H C cl fp).pts, fun s H C cl fp => (ck s H C cl fp).pe, fun s H C cl fp => (cv s H C cl fp).pe⟩ hc hN hi.pi (blkOk_by ok) hs,
    ev_dcI hi.ev (cg { } (fun _ => none) 0 [] []).ev hx (ct { } (fun _ => none) 0 [] []).ev (ck { } (fun _ => none) 0 [] []).ev (cv { } (fun _ => none) 0 [] []).ev⟩
/-! ### len(d) -/
def rLenI : List V → Hp → VK → Prop := fun xs H Q => ∃ a kv, xs = [.ref a] ∧ H a = some (.dK kv) ∧ Q (.int kv.length) H
theorem call_lenI : CallR X (.builtin "len") rLenI := by
  intro pins s σ H xs us Q I r h
  obtain ⟨a, kv, rfl, hD, q⟩ := h
  obtain ⟨u, rfl, ru⟩ := vals1 r
  cases (show u = Value.ref a from ru)
  exact d_len I (.of hD) fun t s' I' => ⟨.int kv.length, H, I', ⟨t, rfl⟩, q⟩
def dLenI : List D → Option D
  | [.dki kvs] => some (.int kvs.length)
  | _ => none
theorem cd_lenI : CD X (.builtin "len") rLenI dLenI := ⟨call_lenI, fun vs ds H F Q d r s e k => by
  unfold dLenI at e
  split at e
  · obtain ⟨v, rfl, r0⟩ := r.one
    cases e
    cases r0 with
    | @dki a kv kvs h l =>
      have z := k _ H F (Grow.refl s) .int
      rw [← isI_len l] at z
      exact ⟨a, kv, rfl, s.s _ _ h, z⟩
  · cases e⟩
end EX
set_option Elab.async false
set_option linter.all false
set_option autoImplicit false
set_option maxRecDepth 100000
set_option maxHeartbeats 4000000
/-! E33: dict(list of pairs), keys whole numbers. -/
namespace EX
open PySem L2
variable [Tb] {Z : Zc} {F F' F1 F2 H H' H1 H2 F0 H0 : Hp} {X : Cx} {pos : Pos} {σ : L2.St}
def consI (k : Int) (v : D) (o : Option (List (Int × D))) : Option (List (Int × D)) := o.map ((k, v) :: ·)
def pairsI : List D → Option (List (Int × D))
  | [] => some []
  | d :: ds => match d with
    | .tup [.int k, v] => consI k v (pairsI ds)
    | _ => none
def mergeI (acc : List (Int × D)) : List (Int × D) → List (Int × D)
  | [] => acc
  | q :: r => mergeI (storeI acc q.1 q.2) r
theorem pairs_I : ∀ {ds : List D} {xs : List V} {pis : List (Int × D)}, IsL Z F xs ds → pairsI ds = some pis → ∃ (ps : List Addr) (kv : List (Key × V)), xs = ps.map V.ref ∧ Paired (fun p q => SqT Z.K F p [kV q.1, q.2]) ps kv ∧ IsI Z F kv pis
  | [], _, _, .nil, e => by cases e; exact ⟨[], [], rfl, .nil, .nil⟩
  | d :: ds, _, pis, .cons h l, e => by
    unfold pairsI at e
    split at e
    · rename_i k v
      obtain ⟨r, e1, rfl⟩ := Option.map_eq_some_iff.mp (show (pairsI ds).map ((k, v) :: ·) = some pis from e)
      obtain ⟨ps, kv, rfl, hp, hi⟩ := pairs_I l e1
      cases h with
      | @tup b ys _ hq hl =>
        cases hl with
        | cons h1 hl =>
          cases h1
          cases hl with
          | @cons y _ _ _ h2 hl =>
            cases hl
            exact ⟨b :: ps, (.inl k, y) :: kv, rfl, .cons hq.sq hp, .cons h2 hi⟩
    · cases e
theorem merge_I : ∀ {kv acc : List (Key × V)} {pis accI : List (Int × D)}, IsI Z F acc accI → IsI Z F kv pis → IsI Z F (mergeK acc kv) (mergeI accI pis)
  | _, _, _, _, ha, .nil => ha
  | _, acc, _, accI, ha, .cons (k := k) (v := v) (d := d) h l => merge_I (acc := putK acc (.inl k) v) (accI := storeI accI k d) (store_I h ha) l
theorem paired_mono {α β : Type} {R R' : α → β → Prop} (h : ∀ a b, R a b → R' a b) : ∀ {xs : List α} {ys : List β}, Paired R xs ys → Paired R' xs ys
  | _, _, .nil => .nil
  | _, _, .cons a l => .cons (h _ _ a) (paired_mono h l)
def dDictI : List D → Option D
  | [.lst ds] => (pairsI ds).map fun ps => .dki (mergeI [] ps)
  | _ => none
theorem cd_dictI (hc : X.calm = true := by rfl) : CD X (.type "dict") (fun xs H Q => ∃ (a : Addr) (ps : List Addr) (kvs : List (Key × V)), xs = [.ref a] ∧ SqL X.K H a (ps.map V.ref) ∧ Paired (fun p kv => SqT X.K H p [kV kv.1, kv.2]) ps kvs ∧
    ∀ p, H p = none → Q (.ref p) (upd H p (.dK (mergeK [] kvs)))) dDictI := ⟨call_dictP hc, fun vs ds H F Q d r s e k => by
  unfold dDictI at e
  split at e
  · obtain ⟨pis, e1, rfl⟩ := Option.map_eq_some_iff.mp e
    obtain ⟨v, rfl, r0⟩ := r.one
    cases r0 with
    | @lst pa xs ds' q l =>
      obtain ⟨ps, kv, rfl, hp, hi⟩ := pairs_I l e1
      refine ⟨pa, ps, kv, rfl, same_l s.s q, paired_mono (fun a b h => same_t0 s.s h) hp, fun p hn => ?_⟩
      have G := Grow.new (o := .dK (mergeK [] kv)) s hn dk_nt
      exact k _ _ _ G (.dki upd_same ((merge_I .nil hi).mono G.f))
  · cases e⟩
end EX
set_option Elab.async false
set_option linter.all false
set_option autoImplicit false
set_option maxRecDepth 100000
set_option maxHeartbeats 4000000
/-! E34: a dict's keys as what an iterator gives (for min over a dict). -/
namespace EX
open PySem L2
variable [Tb] {Z : Zc} {F F' F1 F2 H H' H1 H2 F0 H0 : Hp} {X : Cx} {pos : Pos} {σ : L2.St}
theorem src_dct {it p : Addr} {o : Obj} {kv : List (V × V)} {kvs : List (D × D)} {xs : List (NestedKey × Addr × Value)} {es : Array DictEntry} {ep : Nat} (h1 : o.ExactDict) (h2 : o.data = .dict es ep) (h3 : es.toList = xs.map (entryOfKey (nestedKind X.prog X.w))) (h4 : EntsT xs kv kvs) :
    ItSrc X it (kv.map (·.1)) (fun i h => h.IsKeyIter it p i es.size ep) (fun H => H p = some (DO p o)) := by
  obtain ⟨n1, n2⟩ := ents_len h4
  have hsz : es.size = kvs.length := by rw [← Array.length_toList, h3, List.length_map, n1]
  refine ⟨fun {pins s σ H A1 i x Q E} I a g hx fp h => ?_, fun {pins s σ H A1 i Q E} hh I a g hx fp h => ?_, fun {i h} a => ?_, fun {i h h'} a e => ?_, fun e g => e _ _ g⟩
  · obtain ⟨f0, f1, f2, f3, f4, f5⟩ := fp
    obtain ⟨q0, _, _⟩ := I.hok p _ g
    have hi : i < es.size := by
      have := (List.getElem?_eq_some_iff.mp hx).1
      simp at this
      omega
    obtain ⟨u, hu, ru⟩ := (ents_keys h4).get hx
    have hx2 : i < xs.length := by omega
    have e := entry_at h3 i
    rw [Array.getElem?_eq_getElem hi, List.getElem?_eq_getElem hx2] at e
    have e := Option.some.inj e
    rw [List.getElem?_map, List.getElem?_eq_getElem hx2] at hu
    have hu := Option.some.inj hu
    refine wpAny_pyNext_keys_item_raw a ⟨o, q0, h1, h2⟩ hi fun h' st' sb => h _ _ ?_ (I.turned (t' := s.toks) (fun b o hb e => (sb.2 b hb).trans e) f0 f1 f3 f4 f5) st'
    rw [e]
    rw [← hu] at ru
    exact ru
  · obtain ⟨f0, f1, f2, f3, f4, f5⟩ := fp
    obtain ⟨q0, _, _⟩ := I.hok p _ g
    exact wpAny_pyNext_keys_end_raw hh a ⟨o, q0, h1, h2⟩ (by simp at hx; omega) fun h' eb => h _ (I.turned (t' := s.toks) (fun b o hb e => eb b o hb e) f0 f1 f3 f4 f5)
  · obtain ⟨ob, ho, hc, hd⟩ := a
    exact ⟨ob, ho, fun v z => by rw [hd] at z; cases z⟩
  · obtain ⟨ob, ho, hc, hd⟩ := a
    exact ⟨ob, e _ ho, hc, hd⟩
section
variable {P pins : List (Addr × Obj)} {env : Env} {f : Addr} {m : D → Option D} {A1 : Around} {k : Nat}
/-- min(d, key=f), d a dict -/
theorem call_minKd {s : Shared} {Q : Value → Shared → Prop} {E : Value → Shared → Prop} {kvs : List (D × D)} {out : D} {v : V} {u : Value} (hP : ∀ p ∈ P, p ∈ pins) (hh : A1.handled = none) (hr : Room k A1.in1) (I : Inv X pins σ H1 s) (fit : Fit (zOf X) F1 env σ) (ok : Ok (zOf X) F1 H1) (ru : RelV v u) (hv : Is (zOf X) F1 v (.dct kvs))
    (KF : KFun X F1 H1 (.ref f) P A1.in1 σ env m) (e : minKD m (kvs.map (·.1)) = some out) (hQ : ∀ v u F' H' s', RelV v u → Is (zOf X) F' v out → Grow (zOf X) F1 H1 F' H' → Inv X pins σ H' s' → Q u s') : wpAny (model X.prog X.w) A1 (call (.builtin "min") [u] [(Str.ofString "key", .ref f)]) Q E s := by
  have hname : (toString "min" ++ toString ".loop" : String) = "min.loop" := by decide
  cases hv with
  | @dct p o kv kvs ha hq l nn =>
    cases hq with
    | @tup xs es ep h1 h2 h3 h4 h5 h6 =>
      obtain rfl : u = Value.ref p := ru
      obtain ⟨h0, _, _⟩ := I.hok p _ (ok.s _ _ ha)
      refine PyProof.Rows.kmk_tree PySem.F.kind_min PySem.F.plain_min PySem.F.entry_min (PyProof.Rows.kmk_min_key _ _) ?_
      show wpAny _ A1.in1 (Builtin.Builtins.bindParams "min" ["key", "default"] 0 ⟨[], [(Str.ofString "key", .ref f)]⟩ >>= _) _ _ s
      refine wpAny_bind (wpAny_of_eq (show Builtin.Builtins.bindParams "min" ["key", "default"] 0 ⟨[], [(Str.ofString "key", .ref f)]⟩ = pure [some (.ref f), none] from rfl) ?_)
      refine wpAny_bind (wpAny_pure ?_)
      refine wpAny_bind (wpAny_pyIter_dict_raw nn ⟨o, h0, h1, h2⟩ ?_)
      generalize ek : ({ cls := .type "dict_keyiterator", data := .fields #[.ref p, .int 0 0, .int es.size 0, .int ep 0] } : Obj) = ki
      have free : ki.isFreed = false := by rw [← ek]; rfl
      have I1 : Inv X pins σ H1 { s with heap := s.heap.push ki } := I.kept (t' := s.toks) fun c o e => Heap.get?_push_of_some _ e
      refine wpAny_bind (wpAny_newObj_type ?_)
      rw [hname]
      have hz : (s.heap.push ki).objs.size = s.heap.objs.size + 1 := Heap.size_push ..
      have I2 := I1.lnew (its := []) (ys := []) (t' := s.toks) .nil (Nat.zero_le _)
      have nS : H1 (s.heap.push ki).objs.size = none := I1.hok.fresh (Nat.le_refl _)
      have nI : H1 s.heap.objs.size = none := I.hok.fresh (Nat.le_refl _)
      have fp0 : FpOk X pins H1 s.heap.objs.size := I.fpOk (Nat.le_refl _) nI
      have hit : (s.heap.push ki).get? s.heap.objs.size = some ki := Heap.get?_push_size _ free
      refine wpAny_pure ⟨plainId_quiet PySem.F.plain_min_loop _, min_firstK (F := F1) (H := upd H1 (s.heap.push ki).objs.size (.lst [])) (At := fun i h => h.IsKeyIter s.heap.objs.size p i es.size ep) (G := fun H => H p = some (DO p o)) (xs := kv.map (·.1)) (ds := kvs.map (·.1)) hh hr KF hQ
        ⟨hP, I2, fit, Grow.made ok nS, src_dct h1 h2 h3 h4, ⟨ki, Heap.get?_push_of_some _ hit, by rw [← ek], by rw [← ek]; rfl⟩, ⟨?_, fp0.2⟩, ha, isP_keys l, ok.none_of nS, nS, upd_same⟩ e⟩
      rw [upd_ne (by rw [hz]; exact Nat.ne_of_lt (Nat.lt_succ_self _))]
      exact nI
end
end EX
set_option Elab.async false
set_option linter.all false
set_option autoImplicit false
set_option maxRecDepth 100000
set_option maxHeartbeats 4000000
/-! E35: min(e, key=lambda ..), e a list, a tuple or a dict. -/
namespace EX
open PySem L2
variable [Tb] {Z : Zc} {F F' F1 F2 H H' H1 H2 F0 H0 : Hp} {X : Cx} {ta tb tc te to : TE} {ma mb mc me mo : Env → Option D} {t : TA} {ms : Env → Option (List D)} {pos : Pos} {e a b o : Expr} {es : List Expr}
  {qa qb qc : TT} {na nb nc : Env → Option Bool} {tg iter : Expr} {se : SEnv} {σ : L2.St}
def sqK : D → Option (List D)
  | .dct kvs => some (kvs.map (·.1))
  | d => sqD d
section
variable {P pins : List (Addr × Obj)} {env : Env} {f : Addr} {m : D → Option D} {A1 : Around} {k : Nat} {H1 F1 : Hp} {X : Cx} {σ : L2.St}
theorem call_minKA {s : Shared} {Q : Value → Shared → Prop} {E : Value → Shared → Prop} {d : D} {ds : List D} {out : D} {v : V} {u : Value} (hP : ∀ p ∈ P, p ∈ pins) (hh : A1.handled = none) (hr : Room k A1.in1) (I : Inv X pins σ H1 s) (fit : Fit (zOf X) F1 env σ) (ok : Ok (zOf X) F1 H1) (ru : RelV v u) (hv : Is (zOf X) F1 v d) (hd : sqK d = some ds)
    (KF : KFun X F1 H1 (.ref f) P A1.in1 σ env m) (e : minKD m ds = some out) (hQ : ∀ v u F' H' s', RelV v u → Is (zOf X) F' v out → Grow (zOf X) F1 H1 F' H' → Inv X pins σ H' s' → Q u s') : wpAny (model X.prog X.w) A1 (call (.builtin "min") [u] [(Str.ofString "key", .ref f)]) Q E s := by
  cases d with
  | dct kvs => cases hd; exact call_minKd hP hh hr I fit ok ru hv KF e hQ
  | _ => exact call_minK hP hh hr I fit ok ru hv hd KF e hQ
end
/-! ### min(e, key=lambda p: body) -/
section
variable {p : Str} {params : Arguments} {body : Expr} {scope : Scope} {c P : Addr} {k j i : Nat} {np lpos kpos : Pos}
def tMinKA (Z : Zc) (te : TE) (mb : Env → Option D) (i : Nat) : TE := fun σ H Q => tCons te tNil σ H fun vs H1 => ∃ x, vs = [x] ∧ ∃ F env d ds out, Fit Z F env σ ∧ Ok Z F H1 ∧ Is Z F x d ∧ sqK d = some ds ∧ minKD (fun d => mb (env.set i (some d))) ds = some out ∧ ∀ v H' F', Grow Z F H1 F' H' → Is Z F' v out → Q v H'
theorem pe_minKA (he : PE X e te) (L : LamT X params scope p i c P) (hr : Room j X.A) (hg : Gl X "min") (hm : X.mg "min" = none)
    (hbody : ∀ (A : Around) (outer : List PySem.Env) (s : Shared) (H : Hp) (f c' : Addr), Room k (A.deeper (LamX.lamEnv X scope s.heap.objs.size f c')) → EX (LamX.lamCx X A outer s H E0 scope f c') body tb mb) (hkj : k + 2 ≤ j)
    (h1 : backTo pos (starEach [e] X.env) = (false, eval e X.env) :: backTo pos (starEach [] X.env) := by rfl) (h1' : starEach [e] X.env = (false, eval e X.env) :: starEach [] X.env := by rfl) (hpl : (backTo pos (starEach [e] X.env)).any (·.1) = false := by rfl)
    (hall : (backToKw pos (keywordEach [⟨some "key", .Lambda params body scope lpos, kpos⟩] X.env)).all (·.1.isSome) = true := by rfl) (hnone : (backToKw pos (keywordEach [⟨some "key", .Lambda params body scope lpos, kpos⟩] X.env)).any (·.1.isNone) = false := by rfl)
    (hks : (backToKw pos (keywordEach [⟨some "key", .Lambda params body scope lpos, kpos⟩] X.env)).filterMap (·.1) = [("key" : Str)] := by rfl) :
    PE X (.Call (.Name "min" np) [e] [⟨some "key", .Lambda params body scope lpos, kpos⟩] pos) (tMinKA (zOf X) te mb i) := by
  have hr2 : Room (k + 2) X.A := hr.mono hkj
  have hr1 : Room (k + 1) X.A.in1 := hr2.in1
  refine ⟨fun pins s σ H Q I h => ?_⟩
  refine wpAny_Call_Name_kw (ld_blt (u := .builtin "min") I hg hm (by decide +kernel) ?_ (by decide) (by decide))
  refine PyProof.Rows.callWith_kw (thn ((pa_cons he pa_nil h1').run pos pins s σ H (fun vs H1 => ∃ x, vs = [x] ∧ ∃ F env d ds out, Fit (zOf X) F env σ ∧ Ok (zOf X) F H1 ∧ Is (zOf X) F x d ∧ sqK d = some ds ∧ minKD (fun d => mb (env.set i (some d))) ds = some out ∧ ∀ v H' F', Grow (zOf X) F H1 F' H' → Is (zOf X) F' v out → Q v H') I h)
    fun us s1 ⟨vs, H1, I1, r1, x, ev, F, env, d, ds, out, fit, ok, ix, hd, hk, q⟩ => ?_) h1 hpl hall hnone
  · subst ev
    obtain ⟨u, rfl, ru⟩ := vals1 r1
    show wpAny _ _ (evalAll [do let v ← eval (.Lambda params body scope lpos) X.env; standAt pos; pure v]) _ _ s1
    refine wpAny_evalAll_cons (wpAny_bind (lam_made I1 L ok fun f c' pm ctv H2 s2 M => wpAny_bind (wpAny_standAt (wpAny_pure (wpAny_evalAll_nil ?_)))))
    rw [hks]
    show wpAny _ X.A (call (.builtin "min") [u] [(Str.ofString "key", .ref f)]) _ _ s2
    have KF := kfun_lam (F1 := F) (H1 := H2) (f := f) (c' := c') (pm := pm) (ctv := ctv) (env := env) (σ := σ) (A1 := X.A.in1) L hr1 rfl M.code (fun A outer s H hr => hbody A outer s H f c' hr)
    exact call_minKA (P := [(f, lamO X params body scope pm c' ctv)]) (pins := (f, lamO X params body scope pm c' ctv) :: pins) (fun p hp => by rw [List.mem_singleton.mp hp]; exact List.mem_cons_self) hr1.hd hr1 M.pin fit M.g.ok ru ix hd KF hk
      fun v u F' H' s' rv iv g I' => ⟨v, H', I'.pins_of (fun p hp => I'.pin p (List.mem_append_right _ (List.mem_cons_of_mem _ hp))), rv, q v H' F' (M.g.trans g) iv⟩
def mMinKA (me : Env → Option D) (mb : Env → Option D) (i : Nat) : Env → Option D := fun env => (me env).bind fun d => (sqK d).bind fun ds => minKD (fun d => mb (env.set i (some d))) ds
theorem x_minKA (h : EX X e te me) (L : LamT X params scope p i c P) (hr : Room j X.A) (hm : X.mg "min" = none)
    (hbody : ∀ (A : Around) (outer : List PySem.Env) (s : Shared) (H : Hp) (f c' : Addr), Room k (A.deeper (LamX.lamEnv X scope s.heap.objs.size f c')) → EX (LamX.lamCx X A outer s H E0 scope f c') body tb mb) (hkj : k + 2 ≤ j := by decide) (hg : Gl X "min" := by rfl)
    (h1 : backTo pos (starEach [e] X.env) = (false, eval e X.env) :: backTo pos (starEach [] X.env) := by rfl) (h1' : starEach [e] X.env = (false, eval e X.env) :: starEach [] X.env := by rfl) (hpl : (backTo pos (starEach [e] X.env)).any (·.1) = false := by rfl)
    (hall : (backToKw pos (keywordEach [⟨some "key", .Lambda params body scope lpos, kpos⟩] X.env)).all (·.1.isSome) = true := by rfl) (hnone : (backToKw pos (keywordEach [⟨some "key", .Lambda params body scope lpos, kpos⟩] X.env)).any (·.1.isNone) = false := by rfl)
    (hks : (backToKw pos (keywordEach [⟨some "key", .Lambda params body scope lpos, kpos⟩] X.env)).filterMap (·.1) = [("key" : Str)] := by rfl) :
    EX X (.Call (.Name "min" np) [e] [⟨some "key", .Lambda params body scope lpos, kpos⟩] pos) (tMinKA (zOf X) te mb i) (mMinKA me mb i) := ⟨pe_minKA h.pe L hr hg hm hbody hkj h1 h1' hpl hall hnone hks, fun env σ H F Q d f s e k => by
  obtain ⟨x, e1, e2⟩ := Option.bind_eq_some_iff.mp e
  obtain ⟨ds, e3, e4⟩ := Option.bind_eq_some_iff.mp e2
  refine h.ev env σ H F _ x f s e1 fun v H1 F1 g1 r1 => ?_
  exact ⟨v, rfl, F1, env, x, ds, d, f.mono g1.f, g1.ok, r1, e3, e4, fun w H2 F2 g2 r2 => k w H2 F2 (g1.trans g2) r2⟩⟩
end
section
variable [Tb] {X : Cx} {te : TE} {me mb : Env → Option D} {e body : Expr} {params : Arguments} {scope : Scope} {p : Str} {c P : Addr} {k j i : Nat} {np lpos kpos pos : Pos}
theorem x_minKAE (h : EX X e te me) (L : LamT X params scope p i c P) (hr : Room j X.A) (hm : X.mg "min" = none)
    (hbody : ∀ (A : Around) (outer : List PySem.Env) (s : Shared) (H : Hp) (f c' : Addr), Room k (A.deeper (LamX.lamEnv X scope s.heap.objs.size f c')) → ∃ tb, EX (LamX.lamCx X A outer s H E0 scope f c') body tb mb) (hkj : k + 2 ≤ j := by decide) (hg : Gl X "min" := by rfl)
    (h1 : backTo pos (starEach [e] X.env) = (false, eval e X.env) :: backTo pos (starEach [] X.env) := by rfl) (h1' : starEach [e] X.env = (false, eval e X.env) :: starEach [] X.env := by rfl) (hpl : (backTo pos (starEach [e] X.env)).any (·.1) = false := by rfl)
    (hall : (backToKw pos (keywordEach [⟨some "key", .Lambda params body scope lpos, kpos⟩] X.env)).all (·.1.isSome) = true := by rfl) (hnone : (backToKw pos (keywordEach [⟨some "key", .Lambda params body scope lpos, kpos⟩] X.env)).any (·.1.isNone) = false := by rfl)
    (hks : (backToKw pos (keywordEach [⟨some "key", .Lambda params body scope lpos, kpos⟩] X.env)).filterMap (·.1) = [("key" : Str)] := by rfl) :
    EX X (.Call (.Name "min" np) [e] [⟨some "key", .Lambda params body scope lpos, kpos⟩] pos) (tMinKA (zOf X) te mb i) (mMinKA me mb i) :=
  x_minKA (tb := tM (zOf X) mb) h L hr hm (fun A outer s H f c' hr => (hbody A outer s H f c' hr).elim fun _ q => q.can) hkj hg h1 h1' hpl hall hnone hks
end
end EX
set_option Elab.async false
set_option linter.all false
set_option autoImplicit false
set_option maxRecDepth 100000
set_option maxHeartbeats 4000000
/-! printed by lawgen.py: the mirrors of asksame_k32_whole_mistakes. -/
namespace EX
open PySem L2
noncomputable section
def g_int : List (Nat × Bool) := [(0, false), (1, true), (2, true), (3, false), (4, false), (5, false), (6, false), (19, false), (28, false)]
def g_bool : List (Nat × Bool) := [(0, false), (1, true), (2, false), (3, false), (4, false), (5, false), (6, false), (19, false), (28, false)]
def g_Pool : List (Nat × Bool) := [(0, false), (1, false), (2, false), (3, false), (4, false), (5, false), (6, false), (19, true), (28, false)]
def g_list : List (Nat × Bool) := [(0, false), (1, false), (2, false), (3, false), (4, false), (5, true), (6, false), (19, false), (28, false)]
def g_tuple : List (Nat × Bool) := [(0, false), (1, false), (2, false), (3, false), (4, true), (5, false), (6, false), (19, false), (28, false)]
def tb_many : List (Nat × Nat) := [(12, 2)]
def tb_rows : List (Nat × Nat) := [(12, 3)]
def tb_wrong : List (Nat × Nat) := [(21, 2)]
def tb_grouping : List (Nat × Nat) := [(21, 0)]
def tb_tree : List (Nat × Nat) := [(21, 1)]
def f_law_number : List D → Option D := runD 7 ((thenS (sSet 2 (mIf (nVal (mOp dNe (mVar 0) (mL (mLst (fun _ => some []))))) (mSlice (mVar 0) (fun _ => some none) (oI (fun _ => some (D.int 63)))) (mL (mLst (mCons (fun _ => some (D.int 5)) (fun _ => some [])))))) (thenS (sSet 3 (mOp dAdd (mOp ixAny (mVar 2) (mOp (dI2C (fun _ j => decide (0 < j)) fun i j => i % j) (mCall (mCons (mVar 1) (fun _ => some [])) dInt) (mCall (mCons (mVar 2) (fun _ => some [])) dLen))) (mOp dMul (fun _ => some (D.int 13)) (mOp (dI2C (fun _ j => decide (0 < j) && decide (j.natAbs.log2 < 9000)) fun i j => i / j) (mVar 1) (mCall (mCons (mVar 2) (fun _ => some [])) dLen))))) (thenS (sIts (oFrz (mOp (dI2C (fun _ j => decide (0 < j)) fun i j => i % j) (mCall (mCons (mVar 3) (fun _ => some [])) dInt) (fun _ => some (D.int 1000003))) (oFrz (mOp (dI2C (fun _ j => decide (0 < j)) fun i j => i % j) (mCall (mCons (mOp (dI2C (fun _ j => decide (0 < j) && decide (j.natAbs.log2 < 9000)) fun i j => i / j) (mVar 3) (fun _ => some (D.int 1000003))) (fun _ => some [])) dInt) (fun _ => some (D.int 999983))) (fun _ => some []))) [4, 5]) (thenS (sSet 6 (mOp (dI2C (fun _ j => decide (0 < j)) fun i j => i % j) (mCall (mCons (mOp dAdd (mOp dAdd (mOp dMul (mOp dAdd (mVar 4) (mOp dMul (fun _ => some (D.int 977)) (mVar 1))) (fun _ => some (D.int 48271))) (mOp dMul (fun _ => some (D.int 31)) (mVar 5))) (mOp (dI2C (fun _ j => decide (0 < j)) fun i j => i % j) (mCall (mCons (mCall (mCons (mVar 2) (fun _ => some [])) dSum) (fun _ => some [])) dInt) (fun _ => some (D.int 65521)))) (fun _ => some [])) dInt) (fun _ => some (D.int 2147483647)))) (sRet (mOp dAdd (mOp dMul (mOp (dI2C (fun _ j => decide (0 < j)) fun i j => i % j) (mCall (mCons (mOp dMul (mVar 6) (mOp dAdd (mOp dAdd (mVar 6) (mOp dMul (fun _ => some (D.int 31)) (mVar 1))) (fun _ => some (D.int 7)))) (fun _ => some [])) dInt) (fun _ => some (D.int 2147483629))) (fun _ => some (D.int 65537))) (mVar 5))))))))
def f_law_bounds : List D → Option D := runD 4 ((thenS (sSet 3 (mIf (nVal (mOp dEq (mOp (dI2C (fun _ j => decide (0 < j)) fun i j => i % j) (mCall (mCons (mCall (mCons (mVar 0) (mCons (mOp dAdd (mVar 1) (fun _ => some (D.int 1))) (fun _ => some []))) f_law_number) (fun _ => some [])) dInt) (fun _ => some (D.int 3))) (fun _ => some (D.int 0)))) (mOp dAdd (fun _ => some (D.int 1)) (mOp (dI2C (fun _ j => decide (0 < j)) fun i j => i % j) (mCall (mCons (mCall (mCons (mVar 0) (mCons (mVar 1) (fun _ => some []))) f_law_number) (fun _ => some [])) dInt) (mVar 2))) (fun _ => some (D.int 1)))) (sRet (mTup (mCons (mVar 3) (mCons (mOp (dI2 fun i j => .int (i - j)) (mVar 2) (mOp (dI2C (fun _ j => decide (0 < j)) fun i j => i % j) (mCall (mCons (mCall (mCons (mVar 0) (mCons (mOp dAdd (mVar 1) (fun _ => some (D.int 2))) (fun _ => some []))) f_law_number) (fun _ => some [])) dInt) (mOp dAdd (mOp (dI2 fun i j => .int (i - j)) (mVar 2) (mVar 3)) (fun _ => some (D.int 1))))) (fun _ => some [])))))))
def f_law_pairs : List D → Option D := runD 4 ((thenS (sSet 1 (mL (mLst (fun _ => some [])))) (thenS (sFor (iR1 (mCons (mVar 0) (fun _ => some []))) gOne [2] (sSet 1 (mL (mCat (mVar 1) (mL (mLc (iR2 (mCons (mOp dAdd (mVar 2) (fun _ => some (D.int 1))) (mCons (mVar 0) (fun _ => some [])))) gOne [3] (fun _ => some true) (mTup (mCons (mVar 2) (mCons (mVar 3) (fun _ => some [])))) [3])))))) (sRet (mVar 1)))))
def f_law_mixed_answers : List D → Option D := runD 10 ((thenS (sIts (oOwn (mLst (fun _ => some [])) (oFrz (mCall (mCons (mVar 2) (fun _ => some [])) f_law_pairs) (fun _ => some []))) [4, 5]) (thenS (sFor (iR1 (mCons (mVar 3) (fun _ => some []))) gOne [6] (thenS (sSet 7 (mCall (mCons (mVar 0) (mCons (mOp dAdd (mVar 1) (mVar 6)) (fun _ => some []))) f_law_number)) (thenS (sAsg (mOp ixAny (mVar 5) (mOp (dI2C (fun _ j => decide (0 < j)) fun i j => i % j) (mCall (mCons (mVar 7) (fun _ => some [])) dInt) (mCall (mCons (mVar 5) (fun _ => some [])) dLen))) (gTupD (gsCons gOne (gsCons gOne gsNil))) [9, 8]) (sApp 4 (mTup (mCons (mVar 9) (mCons (mVar 8) (mCons (mOp dEq (mOp (dI2C (fun _ j => decide (0 < j)) fun i j => i % j) (mCall (mCons (mOp (dI2C (fun _ j => decide (0 < j) && decide (j.natAbs.log2 < 9000)) fun i j => i / j) (mVar 7) (fun _ => some (D.int 100))) (fun _ => some [])) dInt) (fun _ => some (D.int 2))) (fun _ => some (D.int 0))) (fun _ => some []))))))))) (sRet (mVar 4)))))
def f_law_rows : List D → Option D := runD 9 ((thenS (sSet 3 (mL (mLst (mCons (mTup (mCons (fun _ => some (D.int 0)) (fun _ => some []))) (fun _ => some []))))) (thenS (sFor (iR2 (mCons (fun _ => some (D.int 1)) (mCons (mVar 0) (fun _ => some [])))) gOne [4] (thenS (sSet 5 (mL (mLst (fun _ => some [])))) (thenS (sFor (iS (mVar 3)) gOne [6] (sSet 5 (mL (mCat (mVar 5) (mL (mLc (iR1 (mCons (mOp dAdd (mCall (mCons (mVar 6) (fun _ => some [])) (dMM max)) (fun _ => some (D.int 2))) (fun _ => some []))) gOne [7] (fun _ => some true) (mOp dAdd (mVar 6) (mTup (mCons (mVar 7) (fun _ => some [])))) [7])))))) (sSet 3 (mVar 5))))) (sRet (mL (mLc (iS (mL (fCall (mCons (mVar 3) (fun _ => some [])) dSorted))) gOne [8] (nVal (mChain (dI2 fun i j => .bl (decide (i ≤ j))) (dI2 fun i j => .bl (decide (i ≤ j))) (mVar 1) (mOp dAdd (mCall (mCons (mVar 8) (fun _ => some [])) (dMM max)) (fun _ => some (D.int 1))) (mVar 2))) (mVar 8) [8]))))))
def f_is_integer : List D → Option D := runD 3 ((sRet (mAnd (mIsi g_int (mVar 0)) (mAnd (mNot (mIsi g_bool (mVar 0))) (mChain (dI2 fun i j => .bl (decide (i ≤ j))) (dI2 fun i j => .bl (decide (i ≤ j))) (mVar 1) (mVar 0) (mVar 2))))))
def f_groupings_of : List D → Option D := runD 5 ((thenS (sSet 1 (mL (mLst (mCons (mTup (mCons (fun _ => some (D.int 0)) (fun _ => some []))) (fun _ => some []))))) (thenS (sFor (iR2 (mCons (fun _ => some (D.int 1)) (mCons (mVar 0) (fun _ => some [])))) gOne [2] (sSet 1 (mL (mLc2 (iS (mVar 1)) gOne [3] (fun _ => some true) (iR1 (mCons (mOp dAdd (mCall (mCons (mVar 3) (fun _ => some [])) (dMM max)) (fun _ => some (D.int 2))) (fun _ => some []))) gOne [4] (fun _ => some true) (mTup (mStar (mVar 3) (mCons (mVar 4) (fun _ => some [])))) [3, 4] [4])))) (sRet (mVar 1)))))
def f_groups_in : List D → Option D := runD 1 ((sRet (mOp dAdd (mCall (mCons (mVar 0) (fun _ => some [])) (dMM max)) (fun _ => some (D.int 1)))))
def i_Pool : SEnv → List (Option D) → Option (List (Option D)) := (fun se fs => ((nNot (nVal (mCall (mCons (mVar 1) (mCons (fun _ => some (D.int 2)) (mCons (fun _ => some (D.int 5)) (fun _ => some [])))) f_is_integer))) (rd false se)).bind fun b => if b = true then none else (fun se fs => ((nNot (nVal (mCall (mCons (mVar 2) (mCons (fun _ => some (D.int 1)) (mCons (mVar 1) (fun _ => some [])))) f_is_integer))) (rd false se)).bind fun b => if b = true then none else (fun se fs => ((nNot (nVal (mCall (mCons (mVar 3) (mCons (mVar 2) (mCons (mVar 1) (fun _ => some [])))) f_is_integer))) (rd false se)).bind fun b => if b = true then none else (fun se fs => ((mVar 1) (rd false se)).bind fun d => (fun se fs => ((mVar 2) (rd false se)).bind fun d => (fun se fs => ((mVar 3) (rd false se)).bind fun d => (fun se fs => ((mCall (mCons (mL (mLc (iS (mCall (mCons (mVar 1) (fun _ => some [])) f_groupings_of)) gOne [4] (nVal (mChain (dI2 fun i j => .bl (decide (i ≤ j))) (dI2 fun i j => .bl (decide (i ≤ j))) (mVar 2) (mCall (mCons (mVar 4) (fun _ => some [])) f_groups_in) (mVar 3))) (mVar 4) [4])) (fun _ => some [])) dTuple) (rd false se)).bind fun d => (fun _ fs => some fs) se (putD 3 d fs)) se (putD 0 d fs)) se (putD 1 d fs)) se (putD 2 d fs)) se fs) se fs) se fs)
def mk_Pool (ds : List D) : Option (List (Option D)) := initD 5 i_Pool 0 ds
def f_law_says : List D → Option D := runD 2 ((sRet (mOp dEq (mOp dEq (mOp ixAny (mVar 0) (mOp ixAny (mVar 1) (fun _ => some (D.int 0)))) (mOp ixAny (mVar 0) (mOp ixAny (mVar 1) (fun _ => some (D.int 1))))) (mOp ixAny (mVar 1) (fun _ => some (D.int 2))))))
def f_law_wrong : List D → Option D := runD 4 ((sRet (mCall (mCons (mL (mLc (iE (mCons (mVar 1) (fun _ => some []))) (gTupD (gsCons gOne (gsCons gOne gsNil))) [2, 3] (nNot (nVal (mCall (mCons (mVar 0) (mCons (mVar 3) (fun _ => some []))) f_law_says))) (mVar 2) [2, 3])) (fun _ => some [])) dTuple)))
def f_law_weight : List D → Option D := runD 3 ((sRet (mCall (mCons (mL (mLc (iS (mVar 1)) gOne [2] (fun _ => some true) (mOp ixAny (mVar 0) (mVar 2)) [2])) (fun _ => some [])) dSum)))
def f_check_pool : List D → Option D := runD 1 ((sIf (nNot (nVal (mIsi g_Pool (mVar 0)))) sNever sNil))
def f_is_pair : List D → Option D := runD 3 ((thenS (sIf (nOr (nNot (nVal (mIsi g_tuple (mVar 1)))) (nVal (mOp dNe (mCall (mCons (mVar 1) (fun _ => some [])) dLen) (fun _ => some (D.int 2))))) (sRet (fun _ => some (D.bl false))) sNil) (sRet (mAnd (mCall (mCons (mL (mLc (iS (mVar 1)) gOne [2] (fun _ => some true) (mCall (mCons (mVar 2) (mCons (fun _ => some (D.int 0)) (mCons (mOp (dI2 fun i j => .int (i - j)) (mAttr tb_many (mVar 0)) (fun _ => some (D.int 1))) (fun _ => some [])))) f_is_integer) [2])) (fun _ => some [])) dAll) (mOp (dI2 fun i j => .bl (decide (i < j))) (mOp ixAny (mVar 1) (fun _ => some (D.int 0))) (mOp ixAny (mVar 1) (fun _ => some (D.int 1))))))))
def f_is_answer : List D → Option D := runD 2 ((thenS (sIf (nOr (nNot (nVal (mIsi g_tuple (mVar 1)))) (nOr (nVal (mOp dNe (mCall (mCons (mVar 1) (fun _ => some [])) dLen) (fun _ => some (D.int 3)))) (nNot (nVal (mIsi g_bool (mOp ixAny (mVar 1) (fun _ => some (D.int 2)))))))) (sRet (fun _ => some (D.bl false))) sNil) (sRet (mCall (mCons (mVar 0) (mCons (mSlice (mVar 1) (fun _ => some none) (oI (fun _ => some (D.int 2)))) (fun _ => some []))) f_is_pair))))
def f_check_answers : List D → Option D := runD 4 ((thenS (sDrop (mCall (mCons (mVar 0) (fun _ => some [])) f_check_pool)) (thenS (sIf (nOr (nNot (nVal (mIsi2 g_list g_tuple (mVar 1)))) (nVal (mOp (dI2 fun i j => .bl (decide (j < i))) (mCall (mCons (mVar 1) (fun _ => some [])) dLen) (fun _ => some (D.int 20))))) sNever sNil) (sFor (iE (mCons (mVar 1) (fun _ => some []))) (gTupD (gsCons gOne (gsCons gOne gsNil))) [3, 2] (sIf (nNot (nVal (mCall (mCons (mVar 0) (mCons (mVar 2) (fun _ => some []))) f_is_answer))) sNever sNil)))))
def f_check_doubt : List D → Option D := runD 4 ((thenS (sDrop (mCall (mCons (mVar 0) (mCons (mVar 1) (fun _ => some []))) f_check_answers)) (thenS (sIf (nOr (nNot (nVal (mIsi2 g_list g_tuple (mVar 2)))) (nVal (mOp dNe (mCall (mCons (mVar 2) (fun _ => some [])) dLen) (mCall (mCons (mVar 1) (fun _ => some [])) dLen)))) sNever sNil) (thenS (sIf (nNot (nVal (mCall (mCons (mL (mLc (iS (mVar 2)) gOne [3] (fun _ => some true) (mCall (mCons (mVar 3) (mCons (fun _ => some (D.int 1)) (mCons (fun _ => some (D.int 9)) (fun _ => some [])))) f_is_integer) [3])) (fun _ => some [])) dAll))) sNever sNil) (sIf (nVal (mOp (dI2 fun i j => .bl (decide (j < i))) (mCall (mCons (mVar 1) (fun _ => some [])) dLen) (fun _ => some (D.int 8)))) sNever sNil)))))
def f_are_same : List D → Option D := runD 2 ((sRet (mOp dEq (mOp ixAny (mVar 0) (mOp ixAny (mVar 1) (fun _ => some (D.int 0)))) (mOp ixAny (mVar 0) (mOp ixAny (mVar 1) (fun _ => some (D.int 1)))))))
def f_fits : List D → Option D := runD 3 ((sRet (mCall (mCons (mL (mLc (iS (mVar 1)) gOne [2] (fun _ => some true) (mOp dEq (mCall (mCons (mVar 0) (mCons (mVar 2) (fun _ => some []))) f_are_same) (mOp ixAny (mVar 2) (fun _ => some (D.int 2)))) [2])) (fun _ => some [])) dAll)))
def f_wrong_in : List D → Option D := runD 4 ((sRet (mCall (mCons (mL (mLc (iE (mCons (mVar 1) (fun _ => some []))) (gTupD (gsCons gOne (gsCons gOne gsNil))) [2, 3] (nNot (nVal (mCall (mCons (mVar 0) (mCons (mL (mLst (mCons (mVar 3) (fun _ => some [])))) (fun _ => some []))) f_fits))) (mVar 2) [2, 3])) (fun _ => some [])) dTuple)))
def f_weight_of : List D → Option D := runD 3 ((sRet (mCall (mCons (mL (mLc (iS (mVar 1)) gOne [2] (fun _ => some true) (mOp ixAny (mVar 0) (mVar 2)) [2])) (fun _ => some [])) dSum)))
def f_least_core : List D → Option D := runD 7 ((thenS (sOwn 2 (mLstRg (mCall (mCons (mVar 1) (fun _ => some [])) dLen))) (thenS (sFor (iR1 (mCons (mCall (mCons (mVar 1) (fun _ => some [])) dLen) (fun _ => some []))) gOne [3] (thenS (sOwnB 4 (mLc (iS (mVar 2)) gOne [5] (nVal (mOp dNe (mVar 5) (mVar 3))) (mOp ixAny (mVar 1) (mVar 5)) [5])) (sIf (nNot (nVal (mCall (mCons (mL (mLc (iS (mVar 0)) gOne [6] (fun _ => some true) (mCall (mCons (mVar 6) (mCons (mVar 4) (fun _ => some []))) f_fits) [6])) (fun _ => some [])) dAny))) (sRem 2 (mVar 3)) sNil))) (sRet (mCall (mCons (mVar 2) (fun _ => some [])) dTuple)))))
def f_tree_of : Nat → List D → Option D
  | 0 => runD 10 sNever
  | n + 1 => runD 10 ((thenS (sAsg (mVar 1) (gTupD (gsCons gOne (gsCons gOne (gsCons gOne gsNil)))) [5, 4, 3]) (thenS (sIf (nVal (mOp (dI2 fun i j => .bl (decide (j ≤ i))) (mCall (mCons (mVar 4) (mCons (mVar 2) (fun _ => some []))) f_weight_of) (mVar 3))) (sRet (fun _ => some D.non)) sNil) (thenS (sSet 6 (mL (mLc (iR1 (mCons (mCall (mCons (mVar 5) (fun _ => some [])) dLen) (fun _ => some []))) gOne [7] (nVal (mOp (inAny (!·)) (mVar 7) (mVar 2))) (mVar 7) [7]))) (thenS (sSet 8 (mCall (mCons (mL (mLc (iS (mCall (mCons (mAttr tb_rows (mVar 0)) (mCons (mL (mLc (iS (mVar 6)) gOne [7] (fun _ => some true) (mOp ixAny (mVar 5) (mVar 7)) [7])) (fun _ => some []))) f_least_core)) gOne [9] (fun _ => some true) (mOp ixAny (mVar 6) (mVar 9)) [9])) (fun _ => some [])) dTuple)) (sRet (mTup (mCons (mVar 8) (mCons (mCall (mCons (mL (mLc (iS (mVar 8)) gOne [7] (fun _ => some true) (mCall (mCons (mVar 0) (mCons (mVar 1) (mCons (mTup (mStar (mVar 2) (mCons (mVar 7) (fun _ => some [])))) (fun _ => some [])))) (f_tree_of n)) [7])) (fun _ => some [])) dTuple) (fun _ => some []))))))))))
def i_Mend : SEnv → List (Option D) → Option (List (Option D)) := (fun se fs => ((mVar 1) (rd false se)).bind fun d => (fun se fs => ((mVar 2) (rd false se)).bind fun d => (fun se fs => ((mVar 3) (rd false se)).bind fun d => (fun _ fs => some fs) se (putD 1 d fs)) se (putD 2 d fs)) se (putD 0 d fs))
def mk_Mend (ds : List D) : Option (List (Option D)) := initD 4 i_Mend 0 ds
def f_mend : List D → Option D := runD 7 ((thenS (sDrop (mCall (mCons (mVar 0) (mCons (mVar 1) (mCons (mVar 2) (fun _ => some [])))) f_check_doubt)) (thenS (sSet 3 (mDc (iO 12 3 (mVar 0)) gOne [4] (fun _ => some true) (mVar 4) (mCall (mCons (mVar 4) (mCons (mVar 1) (fun _ => some []))) f_wrong_in) [4])) (thenS (sSet 5 (mMinKA (mVar 3) (mTup (mCons (mCall (mCons (mVar 2) (mCons (mOp ixAny (mVar 3) (mVar 4)) (fun _ => some []))) f_weight_of) (mCons (mVar 4) (fun _ => some [])))) 4)) (thenS (sSet 6 (mCall (mCons (mVar 2) (mCons (mOp ixAny (mVar 3) (mVar 5)) (fun _ => some []))) f_weight_of)) (sRet (mNew 21 (mCons (mVar 5) (mCons (mOp ixAny (mVar 3) (mVar 5)) (mCons (mCall (mCons (mVar 0) (mCons (mTup (mCons (mVar 1) (mCons (mVar 2) (mCons (mVar 6) (fun _ => some []))))) (mCons (mTup (fun _ => some [])) (fun _ => some [])))) (f_tree_of 12)) (fun _ => some [])))) mk_Mend)))))))
def f_least_weight : List D → Option D := runD 4 ((thenS (sDrop (mCall (mCons (mVar 0) (mCons (mVar 1) (mCons (mVar 2) (fun _ => some [])))) f_check_doubt)) (sRet (mCall (mCons (mL (mLc (iO 12 3 (mVar 0)) gOne [3] (fun _ => some true) (mCall (mCons (mVar 2) (mCons (mCall (mCons (mVar 3) (mCons (mVar 1) (fun _ => some []))) f_wrong_in) (fun _ => some []))) f_weight_of) [3])) (fun _ => some [])) (dMM min)))))
def f_refutes : Nat → List D → Option D
  | 0 => runD 12 sNever
  | n + 1 => runD 12 ((thenS (sAsg (mVar 1) (gTupD (gsCons gOne (gsCons gOne (gsCons gOne gsNil)))) [6, 5, 4]) (thenS (sIf (nVal (mIsN (mVar 3))) (sRet (mOp (dI2 fun i j => .bl (decide (j ≤ i))) (mCall (mCons (mVar 5) (mCons (mVar 2) (fun _ => some []))) f_weight_of) (mVar 4))) sNil) (thenS (sAsg (mVar 3) (gTupD (gsCons gOne (gsCons gOne gsNil))) [8, 7]) (thenS (sIf (nOr (nVal (mOp dNe (mCall (mCons (mVar 7) (fun _ => some [])) dLen) (mCall (mCons (mVar 8) (fun _ => some [])) dLen))) (nVal (mOp dNe (mCall (mCons (mDcI (iS (mVar 8)) gOne [9] (fun _ => some true) (mVar 9) (fun _ => some (D.bl true)) [9]) (fun _ => some [])) dLenI) (mCall (mCons (mVar 8) (fun _ => some [])) dLen)))) (sRet (fun _ => some (D.bl false))) sNil) (thenS (sIf (nVal (mCall (mCons (mL (mLc (iS (mVar 8)) gOne [9] (fun _ => some true) (mOr (mNot (mChain (dI2 fun i j => .bl (decide (i ≤ j))) (dI2 fun i j => .bl (decide (i < j))) (fun _ => some (D.int 0)) (mVar 9) (mCall (mCons (mVar 6) (fun _ => some [])) dLen))) (mOp (inAny id) (mVar 9) (mVar 2))) [9])) (fun _ => some [])) dAny)) (sRet (fun _ => some (D.bl false))) sNil) (thenS (sIf (nVal (mCall (mCons (mL (mLc (iO 12 3 (mVar 0)) gOne [10] (fun _ => some true) (mCall (mCons (mVar 10) (mCons (mL (mLc (iS (mVar 8)) gOne [9] (fun _ => some true) (mOp ixAny (mVar 6) (mVar 9)) [9])) (fun _ => some []))) f_fits) [10])) (fun _ => some [])) dAny)) (sRet (fun _ => some (D.bl false))) sNil) (sRet (mCall (mCons (mL (mLc (iZ (mCons (mVar 8) (mCons (mVar 7) (fun _ => some [])))) (gTupD (gsCons gOne (gsCons gOne gsNil))) [9, 11] (fun _ => some true) (mCall (mCons (mVar 0) (mCons (mVar 1) (mCons (mTup (mStar (mVar 2) (mCons (mVar 9) (fun _ => some [])))) (mCons (mVar 11) (fun _ => some []))))) (f_refutes n)) [9, 11])) (fun _ => some [])) dAll)))))))))
def f_Mend_shows : List D → Option D := runD 5 ((thenS (sDrop (mCall (mCons (mVar 1) (mCons (mVar 2) (mCons (mVar 3) (fun _ => some [])))) f_check_doubt)) (thenS (sIf (nOr (nVal (mOp (inAny (!·)) (mAttr tb_grouping (mVar 0)) (mAttr tb_rows (mVar 1)))) (nVal (mOp dNe (mCall (mCons (mAttr tb_grouping (mVar 0)) (mCons (mVar 2) (fun _ => some []))) f_wrong_in) (mAttr tb_wrong (mVar 0))))) (sRet (fun _ => some (D.bl false))) sNil) (thenS (sSet 4 (mCall (mCons (mVar 3) (mCons (mAttr tb_wrong (mVar 0)) (fun _ => some []))) f_weight_of)) (sRet (mCall (mCons (mVar 1) (mCons (mTup (mCons (mVar 2) (mCons (mVar 3) (mCons (mVar 4) (fun _ => some []))))) (mCons (mTup (fun _ => some [])) (mCons (mAttr tb_tree (mVar 0)) (fun _ => some []))))) (f_refutes 20)))))))
def mt_shows : MTab := [(21, f_Mend_shows)]
def f_law_view : List D → Option D := runD 4 ((sRet (mCall (mCons (mL (mLc (iS (mVar 0)) gOne [2] (nVal (mCall (mCons (mL (mLc (iS (mVar 1)) gOne [3] (fun _ => some true) (mCall (mCons (mVar 2) (mCons (mVar 3) (fun _ => some []))) f_law_says) [3])) (fun _ => some [])) dAll)) (mVar 2) [2])) (fun _ => some [])) dTuple)))
def f_law_is_tree : Nat → List D → Option D
  | 0 => runD 11 sNever
  | n + 1 => runD 11 ((thenS (sAsg (mVar 1) (gTupD (gsCons gOne (gsCons gOne (gsCons gOne gsNil)))) [6, 5, 4]) (thenS (sIf (nVal (mIsN (mVar 3))) (sRet (mOp (dI2 fun i j => .bl (decide (j ≤ i))) (mCall (mCons (mVar 5) (mCons (mVar 2) (fun _ => some []))) f_law_weight) (mVar 4))) sNil) (thenS (sAsg (mVar 3) (gTupD (gsCons gOne (gsCons gOne gsNil))) [8, 7]) (thenS (sIf (nVal (mOp dNe (mCall (mCons (mCall (mCons (mL (mLc (iS (mVar 8)) gOne [9] (fun _ => some true) (mTup (mCons (mVar 9) (mCons (fun _ => some (D.bl true)) (fun _ => some [])))) [9])) (fun _ => some [])) dDictI) (fun _ => some [])) dLenI) (mCall (mCons (mVar 8) (fun _ => some [])) dLen))) (sRet (fun _ => some (D.bl false))) sNil) (thenS (sIf (nOr (nVal (mOp dNe (mCall (mCons (mVar 8) (fun _ => some [])) dLen) (mCall (mCons (mVar 7) (fun _ => some [])) dLen))) (nNot (nVal (mCall (mCons (mL (mLc (iS (mVar 8)) gOne [9] (fun _ => some true) (mAnd (mChain (dI2 fun i j => .bl (decide (i ≤ j))) (dI2 fun i j => .bl (decide (i < j))) (fun _ => some (D.int 0)) (mVar 9) (mCall (mCons (mVar 6) (fun _ => some [])) dLen)) (mOp (inAny (!·)) (mVar 9) (mVar 2))) [9])) (fun _ => some [])) dAll)))) (sRet (fun _ => some (D.bl false))) sNil) (thenS (sIf (nVal (mOp dNe (mCall (mCons (mVar 0) (mCons (mL (mLc (iS (mVar 8)) gOne [9] (fun _ => some true) (mOp ixAny (mVar 6) (mVar 9)) [9])) (fun _ => some []))) f_law_view) (mTup (fun _ => some [])))) (sRet (fun _ => some (D.bl false))) sNil) (sRet (mCall (mCons (mL (mLc (iZ (mCons (mVar 8) (mCons (mVar 7) (fun _ => some [])))) (gTupD (gsCons gOne (gsCons gOne gsNil))) [9, 10] (fun _ => some true) (mCall (mCons (mVar 0) (mCons (mVar 1) (mCons (mOp dAdd (mVar 2) (mTup (mCons (mVar 9) (fun _ => some [])))) (mCons (mVar 10) (fun _ => some []))))) (f_law_is_tree n)) [9, 10])) (fun _ => some [])) dAll)))))))))
def f_law_is_mend : List D → Option D := runD 4 ((thenS (sIf (nOr (nVal (mOp (inAny (!·)) (mAttr tb_grouping (mVar 3)) (mVar 0))) (nVal (mOp dNe (mAttr tb_wrong (mVar 3)) (mCall (mCons (mAttr tb_grouping (mVar 3)) (mCons (mVar 1) (fun _ => some []))) f_law_wrong)))) (sRet (fun _ => some (D.bl false))) sNil) (sRet (mCall (mCons (mVar 0) (mCons (mTup (mCons (mVar 1) (mCons (mVar 2) (mCons (mCall (mCons (mVar 2) (mCons (mAttr tb_wrong (mVar 3)) (fun _ => some []))) f_law_weight) (fun _ => some []))))) (mCons (mTup (fun _ => some [])) (mCons (mAttr tb_tree (mVar 3)) (fun _ => some []))))) (f_law_is_tree 20)))))
def f_law_bent : Nat → List D → Option D
  | 0 => runD 6 sNever
  | n + 1 => runD 6 ((thenS (sIf (nVal (mIsN (mVar 0))) (sRet (mL (mLst (fun _ => some [])))) sNil) (thenS (sAsg (mVar 0) (gTupD (gsCons gOne (gsCons gOne gsNil))) [3, 2]) (thenS (sOwn 4 (mLst (mCons (mTup (mCons (mSlice (mVar 3) (fun _ => some none) (oI (mNeg (fun _ => some (D.int 1))))) (mCons (mSlice (mVar 2) (fun _ => some none) (oI (mNeg (fun _ => some (D.int 1))))) (fun _ => some [])))) (mCons (mTup (mCons (mOp dAdd (mVar 3) (mTup (mCons (fun _ => some (D.int 99)) (fun _ => some [])))) (mCons (mOp dAdd (mVar 2) (mTup (mCons (fun _ => some D.non) (fun _ => some [])))) (fun _ => some [])))) (mCons (mTup (mCons (mRev (mVar 3)) (mCons (mVar 2) (fun _ => some [])))) (mCons (mTup (mCons (mVar 3) (mCons (mSlice (mVar 2) (fun _ => some none) (oI (mNeg (fun _ => some (D.int 1))))) (fun _ => some [])))) (fun _ => some []))))))) (thenS (sCatO 4 (mL (mLst (mCons (mTup (mCons (mVar 3) (mCons (mOp dMul (mTup (mCons (fun _ => some D.non) (fun _ => some []))) (mCall (mCons (mVar 3) (fun _ => some [])) dLen)) (fun _ => some [])))) (fun _ => some []))))) (thenS (sCatO 4 (mL (mLst (mCons (mTup (mCons (mOp dAdd (mSlice (mVar 3) (fun _ => some none) (oI (fun _ => some (D.int 1)))) (mVar 3)) (mCons (mOp dAdd (mSlice (mVar 2) (fun _ => some none) (oI (fun _ => some (D.int 1)))) (mVar 2)) (fun _ => some [])))) (mCons (mTup (mCons (mOp dAdd (mTup (mCons (mOp (dI2 fun i j => .int (i - j)) (mOp ixAny (mVar 3) (fun _ => some (D.int 0))) (mVar 1)) (fun _ => some []))) (mSlice (mVar 3) (oI (fun _ => some (D.int 1))) (fun _ => some none))) (mCons (mVar 2) (fun _ => some [])))) (fun _ => some [])))))) (thenS (sApp 4 (mTup (mCons (mOp dAdd (mSlice (mVar 3) (fun _ => some none) (oI (mNeg (fun _ => some (D.int 1))))) (mTup (mCons (mOp (dI2 fun i j => .int (i - j)) (mOp ixAny (mVar 3) (mNeg (fun _ => some (D.int 1)))) (mVar 1)) (fun _ => some [])))) (mCons (mVar 2) (fun _ => some []))))) (thenS (sFor (iS (mSlice (mCall (mCons (mOp ixAny (mVar 2) (fun _ => some (D.int 0))) (mCons (mVar 1) (fun _ => some []))) (f_law_bent n)) (fun _ => some none) (oI (fun _ => some (D.int 3))))) gOne [5] (sApp 4 (mTup (mCons (mVar 3) (mCons (mOp dAdd (mTup (mCons (mVar 5) (fun _ => some []))) (mSlice (mVar 2) (oI (fun _ => some (D.int 1))) (fun _ => some none))) (fun _ => some [])))))) (sRet (mVar 4))))))))))
def f_law_tree : Nat → List D → Option D
  | 0 => runD 8 sNever
  | n + 1 => runD 8 ((thenS (sAsg (mVar 1) (gTupD (gsCons gOne (gsCons gOne (gsCons gOne gsNil)))) [5, 4, 3]) (thenS (sIf (nVal (mOp (dI2 fun i j => .bl (decide (j ≤ i))) (mCall (mCons (mVar 4) (mCons (mVar 2) (fun _ => some []))) f_law_weight) (mVar 3))) (sRet (fun _ => some D.non)) sNil) (thenS (sSet 6 (mCall (mCons (mL (mLc (iR1 (mCons (mCall (mCons (mVar 5) (fun _ => some [])) dLen) (fun _ => some []))) gOne [7] (nVal (mOp (inAny (!·)) (mVar 7) (mVar 2))) (mVar 7) [7])) (fun _ => some [])) dTuple)) (sRet (mTup (mCons (mVar 6) (mCons (mCall (mCons (mL (mLc (iS (mVar 6)) gOne [7] (fun _ => some true) (mCall (mCons (mVar 0) (mCons (mVar 1) (mCons (mOp dAdd (mVar 2) (mTup (mCons (mVar 7) (fun _ => some [])))) (fun _ => some [])))) (f_law_tree n)) [7])) (fun _ => some [])) dTuple) (fun _ => some [])))))))))
def f_law_mend_right : List D → Option D := runD 10 ((thenS (sSet 4 (mCall (mCons (mL (mLc (iS (mVar 1)) gOne [5] (fun _ => some true) (mCall (mCons (mVar 3) (mCons (mCall (mCons (mVar 5) (mCons (mVar 2) (fun _ => some []))) f_law_wrong) (fun _ => some []))) f_law_weight) [5])) (fun _ => some [])) (dMM min))) (thenS (sSet 6 (mCall (mCons (mVar 0) (mCons (mVar 2) (mCons (mVar 3) (fun _ => some [])))) f_mend)) (thenS (sIf (nVal (mOp dNe (mCall (mCons (mVar 0) (mCons (mCall (mCons (mVar 2) (fun _ => some [])) dTuple) (mCons (mL (fCall (mCons (mVar 3) (fun _ => some [])) dListD)) (fun _ => some [])))) f_least_weight) (mVar 4))) (sRet (fun _ => some (D.bl false))) sNil) (thenS (sIf (nVal (mOp dNe (mCall (mCons (mVar 3) (mCons (mAttr tb_wrong (mVar 6)) (fun _ => some []))) f_law_weight) (mVar 4))) (sRet (fun _ => some (D.bl false))) sNil) (thenS (sIf (nOr (nNot (nVal (mMethT mt_shows (mVar 6) (mCons (mVar 0) (mCons (mVar 2) (mCons (mVar 3) (fun _ => some []))))))) (nVal (mOp dNe (mL (fCall (mCons (mVar 6) (fun _ => some [])) (dListO 21 2))) (mL (fCall (mCons (mAttr tb_wrong (mVar 6)) (fun _ => some [])) dListD))))) (sRet (fun _ => some (D.bl false))) sNil) (thenS (sIf (nNot (nVal (mCall (mCons (mVar 1) (mCons (mVar 2) (mCons (mVar 3) (mCons (mVar 6) (fun _ => some []))))) f_law_is_mend))) (sRet (fun _ => some (D.bl false))) sNil) (thenS (sOwn 7 (mLst (mCons (mNew 21 (mCons (mAttr tb_grouping (mVar 6)) (mCons (mAttr tb_wrong (mVar 6)) (mCons (fun _ => some D.non) (fun _ => some [])))) mk_Mend) (mCons (mNew 21 (mCons (mAttr tb_grouping (mVar 6)) (mCons (mSlice (mAttr tb_wrong (mVar 6)) (oI (fun _ => some (D.int 1))) (fun _ => some none)) (mCons (mAttr tb_tree (mVar 6)) (fun _ => some [])))) mk_Mend) (fun _ => some []))))) (thenS (sFor (iS (mSlice (mVar 1) (fun _ => some none) (oI (fun _ => some (D.int 12))))) gOne [5] (sApp 7 (mNew 21 (mCons (mVar 5) (mCons (mCall (mCons (mVar 5) (mCons (mVar 2) (fun _ => some []))) f_law_wrong) (mCons (mAttr tb_tree (mVar 6)) (fun _ => some [])))) mk_Mend))) (thenS (sApp 7 (mNew 21 (mCons (mOp dMul (mTup (mCons (fun _ => some (D.int 0)) (fun _ => some []))) (mCall (mCons (mOp ixAny (mVar 1) (fun _ => some (D.int 0))) (fun _ => some [])) dLen)) (mCons (mTup (fun _ => some [])) (mCons (mAttr tb_tree (mVar 6)) (fun _ => some [])))) mk_Mend)) (thenS (sFor (iS (mCall (mCons (mAttr tb_tree (mVar 6)) (mCons (mCall (mCons (mVar 2) (fun _ => some [])) dLen) (fun _ => some []))) (f_law_bent 12))) gOne [8] (sApp 7 (mNew 21 (mCons (mAttr tb_grouping (mVar 6)) (mCons (mAttr tb_wrong (mVar 6)) (mCons (mVar 8) (fun _ => some [])))) mk_Mend))) (thenS (sIf (nVal (mOp (dI2 fun i j => .bl (decide (i ≤ j))) (mVar 4) (fun _ => some (D.int 3)))) (sApp 7 (mNew 21 (mCons (mAttr tb_grouping (mVar 6)) (mCons (mAttr tb_wrong (mVar 6)) (mCons (mCall (mCons (mVar 1) (mCons (mTup (mCons (mVar 2) (mCons (mVar 3) (mCons (mVar 4) (fun _ => some []))))) (mCons (mTup (fun _ => some [])) (fun _ => some [])))) (f_law_tree 12)) (fun _ => some [])))) mk_Mend)) sNil) (sRet (mCall (mCons (mL (mLc (iS (mVar 7)) gOne [9] (fun _ => some true) (mOp dEq (mMethT mt_shows (mVar 9) (mCons (mVar 0) (mCons (mVar 2) (mCons (mVar 3) (fun _ => some []))))) (mCall (mCons (mVar 1) (mCons (mVar 2) (mCons (mVar 3) (mCons (mVar 9) (fun _ => some []))))) f_law_is_mend)) [9])) (fun _ => some [])) dAll))))))))))))))
def f_law_all_right : List D → Option D := runD 10 ((thenS (sFor (iR1 (mCons (fun _ => some (D.int 2)) (fun _ => some []))) gOne [1] (thenS (sSet 2 (mCall (mCons (mVar 0) (mCons (mOp dAdd (fun _ => some (D.int 3)) (mVar 1)) (fun _ => some []))) f_law_number)) (thenS (sSet 3 (mOp dAdd (fun _ => some (D.int 2)) (mOp (dI2C (fun _ j => decide (0 < j)) fun i j => i % j) (mCall (mCons (mVar 2) (fun _ => some [])) dInt) (fun _ => some (D.int 4))))) (thenS (sAsg (mCall (mCons (mVar 0) (mCons (mOp dAdd (fun _ => some (D.int 20)) (mOp dMul (fun _ => some (D.int 60)) (mVar 1))) (mCons (mVar 3) (fun _ => some [])))) f_law_bounds) (gTupD (gsCons gOne (gsCons gOne gsNil))) [5, 4]) (thenS (sSet 6 (mCall (mCons (mVar 0) (mCons (mOp dAdd (fun _ => some (D.int 40)) (mOp dMul (fun _ => some (D.int 60)) (mVar 1))) (mCons (mVar 3) (mCons (mOp (dI2C (fun _ j => decide (0 < j)) fun i j => i % j) (mCall (mCons (mOp (dI2C (fun _ j => decide (0 < j) && decide (j.natAbs.log2 < 9000)) fun i j => i / j) (mVar 2) (fun _ => some (D.int 4))) (fun _ => some [])) dInt) (fun _ => some (D.int 9))) (fun _ => some []))))) f_law_mixed_answers)) (thenS (sSet 7 (mOp ixAny (mTup (mCons (fun _ => some (D.int 2)) (mCons (fun _ => some (D.int 9)) (fun _ => some [])))) (mOp (dI2C (fun _ j => decide (0 < j)) fun i j => i % j) (mCall (mCons (mOp (dI2C (fun _ j => decide (0 < j) && decide (j.natAbs.log2 < 9000)) fun i j => i / j) (mVar 2) (fun _ => some (D.int 36))) (fun _ => some [])) dInt) (fun _ => some (D.int 2))))) (thenS (sSet 8 (mCall (mCons (mL (mLc (iR1 (mCons (mCall (mCons (mVar 6) (fun _ => some [])) dLen) (fun _ => some []))) gOne [9] (fun _ => some true) (mOp dAdd (fun _ => some (D.int 1)) (mOp (dI2C (fun _ j => decide (0 < j)) fun i j => i % j) (mCall (mCons (mCall (mCons (mVar 0) (mCons (mOp dAdd (mOp dAdd (fun _ => some (D.int 60)) (mOp dMul (fun _ => some (D.int 60)) (mVar 1))) (mVar 9)) (fun _ => some []))) f_law_number) (fun _ => some [])) dInt) (mVar 7))) [9])) (fun _ => some [])) dTuple)) (sIf (nNot (nVal (mCall (mCons (mNew 12 (mCons (mVar 3) (mCons (mVar 5) (mCons (mVar 4) (fun _ => some [])))) mk_Pool) (mCons (mCall (mCons (mVar 3) (mCons (mVar 5) (mCons (mVar 4) (fun _ => some [])))) f_law_rows) (mCons (mVar 6) (mCons (mVar 8) (fun _ => some []))))) f_law_mend_right))) (sRet (fun _ => some (D.bl false))) sNil)))))))) (sRet (fun _ => some (D.bl true)))))
def f_law : List D → Option D := runD 1 ((sRet (mCall (mCons (mVar 0) (fun _ => some [])) f_law_all_right)))
end
end EX
set_option Elab.async false
set_option linter.all false
set_option autoImplicit false
set_option maxRecDepth 100000
set_option maxHeartbeats 4000000
/-! printed by lawgen.py: the walk of asksame_k32_whole_mistakes. -/
namespace EX
open PySem L2
def top (i : Nat) : Stmt := PySem.Challenge.pw_asksame_k32_whole_mistakes.main.body.getD i (.Pass ⟨0, 0, 0, 0⟩)
abbrev s_law_number : Stmt := top 35
def d_law_number : He.DefD := ⟨("_law_number", none), "_law_number", "_law_number", defArgs s_law_number, defBody s_law_number, defScope s_law_number, [], []⟩
abbrev s_law_bounds : Stmt := top 38
def d_law_bounds : He.DefD := ⟨("_law_bounds", none), "_law_bounds", "_law_bounds", defArgs s_law_bounds, defBody s_law_bounds, defScope s_law_bounds, [], []⟩
abbrev s_law_pairs : Stmt := top 37
def d_law_pairs : He.DefD := ⟨("_law_pairs", none), "_law_pairs", "_law_pairs", defArgs s_law_pairs, defBody s_law_pairs, defScope s_law_pairs, [], []⟩
abbrev s_law_mixed_answers : Stmt := top 41
def d_law_mixed_answers : He.DefD := ⟨("_law_mixed_answers", none), "_law_mixed_answers", "_law_mixed_answers", defArgs s_law_mixed_answers, defBody s_law_mixed_answers, defScope s_law_mixed_answers, [], []⟩
abbrev s_law_rows : Stmt := top 36
def d_law_rows : He.DefD := ⟨("_law_rows", none), "_law_rows", "_law_rows", defArgs s_law_rows, defBody s_law_rows, defScope s_law_rows, [], []⟩
abbrev s_is_integer : Stmt := top 11
def d_is_integer : He.DefD := ⟨("is_integer", none), "is_integer", "is_integer", defArgs s_is_integer, defBody s_is_integer, defScope s_is_integer, [], []⟩
abbrev s_groupings_of : Stmt := top 12
def d_groupings_of : He.DefD := ⟨("groupings_of", none), "groupings_of", "groupings_of", defArgs s_groupings_of, defBody s_groupings_of, defScope s_groupings_of, [], []⟩
abbrev s_groups_in : Stmt := top 13
def d_groups_in : He.DefD := ⟨("groups_in", none), "groups_in", "groups_in", defArgs s_groups_in, defBody s_groups_in, defScope s_groups_in, [], []⟩
abbrev s_Pool_init : Stmt := inClass (top 14) 1
def d_Pool_init : He.DefD := ⟨("Pool", some "__init__"), "__init__", "Pool.__init__", defArgs s_Pool_init, defBody s_Pool_init, defScope s_Pool_init, [], []⟩
abbrev s_law_says : Stmt := top 39
def d_law_says : He.DefD := ⟨("_law_says", none), "_law_says", "_law_says", defArgs s_law_says, defBody s_law_says, defScope s_law_says, [], []⟩
abbrev s_law_wrong : Stmt := top 42
def d_law_wrong : He.DefD := ⟨("_law_wrong", none), "_law_wrong", "_law_wrong", defArgs s_law_wrong, defBody s_law_wrong, defScope s_law_wrong, [], []⟩
abbrev s_law_weight : Stmt := top 43
def d_law_weight : He.DefD := ⟨("_law_weight", none), "_law_weight", "_law_weight", defArgs s_law_weight, defBody s_law_weight, defScope s_law_weight, [], []⟩
abbrev s_check_pool : Stmt := top 15
def d_check_pool : He.DefD := ⟨("check_pool", none), "check_pool", "check_pool", defArgs s_check_pool, defBody s_check_pool, defScope s_check_pool, [], []⟩
abbrev s_is_pair : Stmt := top 16
def d_is_pair : He.DefD := ⟨("is_pair", none), "is_pair", "is_pair", defArgs s_is_pair, defBody s_is_pair, defScope s_is_pair, [], []⟩
abbrev s_is_answer : Stmt := top 17
def d_is_answer : He.DefD := ⟨("is_answer", none), "is_answer", "is_answer", defArgs s_is_answer, defBody s_is_answer, defScope s_is_answer, [], []⟩
abbrev s_check_answers : Stmt := top 18
def d_check_answers : He.DefD := ⟨("check_answers", none), "check_answers", "check_answers", defArgs s_check_answers, defBody s_check_answers, defScope s_check_answers, [], []⟩
abbrev s_check_doubt : Stmt := top 26
def d_check_doubt : He.DefD := ⟨("check_doubt", none), "check_doubt", "check_doubt", defArgs s_check_doubt, defBody s_check_doubt, defScope s_check_doubt, [], []⟩
abbrev s_are_same : Stmt := top 19
def d_are_same : He.DefD := ⟨("are_same", none), "are_same", "are_same", defArgs s_are_same, defBody s_are_same, defScope s_are_same, [], []⟩
abbrev s_fits : Stmt := top 20
def d_fits : He.DefD := ⟨("fits", none), "fits", "fits", defArgs s_fits, defBody s_fits, defScope s_fits, [], []⟩
abbrev s_wrong_in : Stmt := top 27
def d_wrong_in : He.DefD := ⟨("wrong_in", none), "wrong_in", "wrong_in", defArgs s_wrong_in, defBody s_wrong_in, defScope s_wrong_in, [], []⟩
abbrev s_weight_of : Stmt := top 28
def d_weight_of : He.DefD := ⟨("weight_of", none), "weight_of", "weight_of", defArgs s_weight_of, defBody s_weight_of, defScope s_weight_of, [], []⟩
abbrev s_least_core : Stmt := top 22
def d_least_core : He.DefD := ⟨("least_core", none), "least_core", "least_core", defArgs s_least_core, defBody s_least_core, defScope s_least_core, [], []⟩
abbrev s_tree_of : Stmt := top 31
def d_tree_of : He.DefD := ⟨("tree_of", none), "tree_of", "tree_of", defArgs s_tree_of, defBody s_tree_of, defScope s_tree_of, [], []⟩
abbrev s_Mend_init : Stmt := inClass (top 29) 1
def d_Mend_init : He.DefD := ⟨("Mend", some "__init__"), "__init__", "Mend.__init__", defArgs s_Mend_init, defBody s_Mend_init, defScope s_Mend_init, [], []⟩
abbrev s_Pool_iter : Stmt := inClass (top 14) 2
def d_Pool_iter : He.DefD := ⟨("Pool", some "__iter__"), "__iter__", "Pool.__iter__", defArgs s_Pool_iter, defBody s_Pool_iter, defScope s_Pool_iter, [], []⟩
abbrev s_mend : Stmt := top 32
def d_mend : He.DefD := ⟨("mend", none), "mend", "mend", defArgs s_mend, defBody s_mend, defScope s_mend, [], []⟩
abbrev s_least_weight : Stmt := top 33
def d_least_weight : He.DefD := ⟨("least_weight", none), "least_weight", "least_weight", defArgs s_least_weight, defBody s_least_weight, defScope s_least_weight, [], []⟩
abbrev s_refutes : Stmt := top 30
def d_refutes : He.DefD := ⟨("refutes", none), "refutes", "refutes", defArgs s_refutes, defBody s_refutes, defScope s_refutes, [], []⟩
abbrev s_Mend_shows : Stmt := inClass (top 29) 5
def d_Mend_shows : He.DefD := ⟨("Mend", some "shows"), "shows", "Mend.shows", defArgs s_Mend_shows, defBody s_Mend_shows, defScope s_Mend_shows, [], []⟩
abbrev s_law_view : Stmt := top 40
def d_law_view : He.DefD := ⟨("_law_view", none), "_law_view", "_law_view", defArgs s_law_view, defBody s_law_view, defScope s_law_view, [], []⟩
abbrev s_law_is_tree : Stmt := top 44
def d_law_is_tree : He.DefD := ⟨("_law_is_tree", none), "_law_is_tree", "_law_is_tree", defArgs s_law_is_tree, defBody s_law_is_tree, defScope s_law_is_tree, [], []⟩
abbrev s_law_is_mend : Stmt := top 45
def d_law_is_mend : He.DefD := ⟨("_law_is_mend", none), "_law_is_mend", "_law_is_mend", defArgs s_law_is_mend, defBody s_law_is_mend, defScope s_law_is_mend, [], []⟩
abbrev s_law_bent : Stmt := top 47
def d_law_bent : He.DefD := ⟨("_law_bent", none), "_law_bent", "_law_bent", defArgs s_law_bent, defBody s_law_bent, defScope s_law_bent, [], []⟩
abbrev s_law_tree : Stmt := top 46
def d_law_tree : He.DefD := ⟨("_law_tree", none), "_law_tree", "_law_tree", defArgs s_law_tree, defBody s_law_tree, defScope s_law_tree, [], []⟩
abbrev s_Mend_iter : Stmt := inClass (top 29) 3
def d_Mend_iter : He.DefD := ⟨("Mend", some "__iter__"), "__iter__", "Mend.__iter__", defArgs s_Mend_iter, defBody s_Mend_iter, defScope s_Mend_iter, [], []⟩
abbrev s_law_mend_right : Stmt := top 48
def d_law_mend_right : He.DefD := ⟨("_law_mend_right", none), "_law_mend_right", "_law_mend_right", defArgs s_law_mend_right, defBody s_law_mend_right, defScope s_law_mend_right, [], []⟩
abbrev s_law_all_right : Stmt := top 49
def d_law_all_right : He.DefD := ⟨("_law_all_right", none), "_law_all_right", "_law_all_right", defArgs s_law_all_right, defBody s_law_all_right, defScope s_law_all_right, [], []⟩
abbrev s_law : Stmt := top 50
def d_law : He.DefD := ⟨("law", none), "law", "law", defArgs s_law, defBody s_law, defScope s_law, [], []⟩
def L : LawD where
  cls := ["AskError", "BadPool", "BadAnswers", "", "", "", "", "TooLarge", "BadWeights", "", "", "", "Pool", "", "", "", "", "", "", "", "", "Mend", "", "", ""]
  fa := [.free "range", .free "int", .free "len", .free "sum", .glo "_law_number", .glo "_law_bounds", .glo "_law_pairs", .glo "_law_mixed_answers", .free "tuple", .free "max", .free "sorted", .glo "_law_rows", .int "MAX_THINGS" 5, .int "MIN_THINGS" 2, .free "isinstance", .free "bool", .glo "is_integer", .glo "groupings_of", .glo "groups_in", .mkr "Pool", .glo "Pool", .free "enumerate", .glo "_law_says", .glo "_law_wrong", .glo "_law_weight", .free "min", .glo "check_pool", .free "list", .int "MAX_ANSWERS" 20, .free "all", .glo "is_pair", .glo "is_answer", .glo "check_answers", .int "MAX_WEIGHT" 9, .int "MAX_DOUBTED" 8, .glo "check_doubt", .glo "are_same", .glo "fits", .glo "wrong_in", .glo "weight_of", .free "any", .glo "least_core", .glo "tree_of", .mkr "Mend", .glo "Mend", .free "iter", .meth "Pool" "__iter__", .glo "mend", .glo "least_weight", .free "zip", .glo "refutes", .meth "Mend" "shows", .free "dict", .glo "_law_view", .glo "_law_is_tree", .glo "_law_is_mend", .glo "_law_bent", .glo "_law_tree", .meth "Mend" "__iter__", .glo "_law_mend_right", .glo "_law_all_right", .glo "law"]
  fn := [d_law_number, d_law_bounds, d_law_pairs, d_law_mixed_answers, d_law_rows, d_is_integer, d_groupings_of, d_groups_in, d_Pool_init, d_law_says, d_law_wrong, d_law_weight, d_check_pool, d_is_pair, d_is_answer, d_check_answers, d_check_doubt, d_are_same, d_fits, d_wrong_in, d_weight_of, d_least_core, d_tree_of, d_Mend_init, d_Pool_iter, d_mend, d_least_weight, d_refutes, d_Mend_shows, d_law_view, d_law_is_tree, d_law_is_mend, d_law_bent, d_law_tree, d_Mend_iter, d_law_mend_right, d_law_all_right, d_law]
  tq := [(("mend", none), "mend")]
  fx := [.isi none "int" g_int, .isi none "bool" g_bool, .cls "Pool", .slot "Pool" "rows" 3, .slot "Pool" "high" 0, .slot "Pool" "low" 1, .slot "Pool" "many" 2, .isi (some "Pool") "" g_Pool, .isi none "list" g_list, .isi none "tuple" g_tuple, .cls "Mend", .slot "Mend" "tree" 1, .slot "Mend" "wrong" 2, .slot "Mend" "grouping" 0, .nolen "Mend"]
theorem i_fa {f : He.Fa} (i : Nat) (h : L.fa[i]? = some f) : f ∈ L.fa := List.mem_of_getElem? h
theorem i_fx {f : Fx} (i : Nat) (h : L.fx[i]? = some f) : f ∈ L.fx := List.mem_of_getElem? h
theorem i_fn {f : He.DefD} (i : Nat) (h : L.fn[i]? = some f) : f ∈ L.fn := List.mem_of_getElem? h
theorem i_tq {f : He.Defn × Str} (i : Nat) (h : L.tq[i]? = some f) : f ∈ L.tq := List.mem_of_getElem? h
variable [Tb] {P : Program} {w : World} {K : PySem.W.Frag} {mg : Str → Option Value} {base : Heap}
theorem b_range (C : Ctx L K mg base) : mg "range" = none := C.free (i_fa 0 rfl)
theorem b_int (C : Ctx L K mg base) : mg "int" = none := C.free (i_fa 1 rfl)
theorem b_len (C : Ctx L K mg base) : mg "len" = none := C.free (i_fa 2 rfl)
theorem b_sum (C : Ctx L K mg base) : mg "sum" = none := C.free (i_fa 3 rfl)
theorem b_tuple (C : Ctx L K mg base) : mg "tuple" = none := C.free (i_fa 8 rfl)
theorem b_max (C : Ctx L K mg base) : mg "max" = none := C.free (i_fa 9 rfl)
theorem b_sorted (C : Ctx L K mg base) : mg "sorted" = none := C.free (i_fa 10 rfl)
theorem c_MAX_THINGS (C : Ctx L K mg base) : ∃ tk, mg "MAX_THINGS" = some (.int 5 tk) := C.int (i_fa 12 rfl)
theorem c_MIN_THINGS (C : Ctx L K mg base) : ∃ tk, mg "MIN_THINGS" = some (.int 2 tk) := C.int (i_fa 13 rfl)
theorem isi_int (C : Ctx L K mg base) : IsiF K (.type "int") g_int := C.isiB (bu := "int") (i_fx 0 rfl)
theorem b_isinstance (C : Ctx L K mg base) : mg "isinstance" = none := C.free (i_fa 14 rfl)
theorem isi_bool (C : Ctx L K mg base) : IsiF K (.type "bool") g_bool := C.isiB (bu := "bool") (i_fx 1 rfl)
theorem b_bool (C : Ctx L K mg base) : mg "bool" = none := C.free (i_fa 15 rfl)
theorem b_enumerate (C : Ctx L K mg base) : mg "enumerate" = none := C.free (i_fa 21 rfl)
theorem b_min (C : Ctx L K mg base) : mg "min" = none := C.free (i_fa 25 rfl)
theorem isi_Pool (C : Ctx L K mg base) : IsiF K (.ref (He.ga K "Pool")) g_Pool := C.isiO (x := "Pool") (i_fx 7 rfl)
theorem cl_Pool (C : Ctx L K mg base) : mg "Pool" = some (.ref (He.ga K "Pool")) := C.glo (i_fa 20 rfl)
theorem isi_list (C : Ctx L K mg base) : IsiF K (.type "list") g_list := C.isiB (bu := "list") (i_fx 8 rfl)
theorem b_list (C : Ctx L K mg base) : mg "list" = none := C.free (i_fa 27 rfl)
theorem isi_tuple (C : Ctx L K mg base) : IsiF K (.type "tuple") g_tuple := C.isiB (bu := "tuple") (i_fx 9 rfl)
theorem c_MAX_ANSWERS (C : Ctx L K mg base) : ∃ tk, mg "MAX_ANSWERS" = some (.int 20 tk) := C.int (i_fa 28 rfl)
theorem at_many (C : Ctx L K mg base) : AttrF K "many" tb_many := (AttrF.cons (C.clsF 12 (i_fx 2 rfl)) (C.slotF 12 (i_fx 6 rfl)) AttrF.nil)
theorem b_all (C : Ctx L K mg base) : mg "all" = none := C.free (i_fa 29 rfl)
theorem c_MAX_WEIGHT (C : Ctx L K mg base) : ∃ tk, mg "MAX_WEIGHT" = some (.int 9 tk) := C.int (i_fa 33 rfl)
theorem c_MAX_DOUBTED (C : Ctx L K mg base) : ∃ tk, mg "MAX_DOUBTED" = some (.int 8 tk) := C.int (i_fa 34 rfl)
theorem at_rows (C : Ctx L K mg base) : AttrF K "rows" tb_rows := (AttrF.cons (C.clsF 12 (i_fx 2 rfl)) (C.slotF 12 (i_fx 3 rfl)) AttrF.nil)
theorem b_any (C : Ctx L K mg base) : mg "any" = none := C.free (i_fa 40 rfl)
theorem b_iter (C : Ctx L K mg base) : mg "iter" = none := C.free (i_fa 45 rfl)
theorem at_wrong (C : Ctx L K mg base) : AttrF K "wrong" tb_wrong := (AttrF.cons (C.clsF 21 (i_fx 10 rfl)) (C.slotF 21 (i_fx 12 rfl)) AttrF.nil)
theorem at_grouping (C : Ctx L K mg base) : AttrF K "grouping" tb_grouping := (AttrF.cons (C.clsF 21 (i_fx 10 rfl)) (C.slotF 21 (i_fx 13 rfl)) AttrF.nil)
theorem at_tree (C : Ctx L K mg base) : AttrF K "tree" tb_tree := (AttrF.cons (C.clsF 21 (i_fx 10 rfl)) (C.slotF 21 (i_fx 11 rfl)) AttrF.nil)
theorem b_zip (C : Ctx L K mg base) : mg "zip" = none := C.free (i_fa 49 rfl)
theorem nl_Mend (C : Ctx L K mg base) : NoLen K 21 := C.noLen 21 (i_fx 14 rfl)
theorem b_dict (C : Ctx L K mg base) : mg "dict" = none := C.free (i_fa 52 rfl)
theorem sc_law_number : FnScope ["_law_script", "_law_index", "_law_cells", "_law_cell", "_law_low", "_law_high", "_law_mixed"] ["_law_script", "_law_index"] (defScope s_law_number) := ⟨rfl, rfl, rfl, by decide +kernel, rfl, by decide +kernel, by decide +kernel⟩
theorem k_law_number (C : Ctx L K mg base) : Kn P w K mg base "_law_number" 1 2 f_law_number := by
  have nd : (["_law_script", "_law_index", "_law_cells", "_law_cell", "_law_low", "_law_high", "_law_mixed"] : List Str).Nodup := by decide +kernel
  exact C.kn d_law_number s_law_number (i_fn 0 rfl) (i_fa 4 rfl) (hF := fun f fd F hf => (fn_pure (k := 0) F sc_law_number fun cdv A outer s H E hr => ⟨_, (ss_cons (s_set 2 nd (x_if (t_cmp (od_ne hr) (x_var 0) (EXF.ex (x_lst a_nil))) (x_slice (x_var 0) o_none (o_some x_int)) (EXF.ex (x_lst (a_cons x_int a_nil))))) (ss_cons (s_set 3 nd (x_op od_add (x_ix (id_any hr) (x_var 2) (x_op od_mod (x_callTy cd_int (b_int C) (a_cons (x_var 1) a_nil)) (x_callB cd_len (b_len C) (a_cons (x_var 2) a_nil)))) (x_op od_mul x_int (x_op od_fdiv (x_var 1) (x_callB cd_len (b_len C) (a_cons (x_var 2) a_nil)))))) (ss_cons (s_par2 4 5 nd (o_frz (x_op od_mod (x_callTy cd_int (b_int C) (a_cons (x_var 3) a_nil)) x_int) (o_frz (x_op od_mod (x_callTy cd_int (b_int C) (a_cons (x_op od_fdiv (x_var 3) x_int) a_nil)) x_int) o_nil))) (ss_cons (s_set 6 nd (x_op od_mod (x_callTy cd_int (b_int C) (a_cons (x_op od_add (x_op od_add (x_op od_mul (x_op od_add (x_var 4) (x_op od_mul x_int (x_var 1))) x_int) (x_op od_mul x_int (x_var 5))) (x_op od_mod (x_callTy cd_int (b_int C) (a_cons (x_callB cd_sum (b_sum C) (a_cons (x_var 2) a_nil)) a_nil)) x_int)) a_nil)) x_int)) (ss_one (s_ret (x_op od_add (x_op od_mul (x_op od_mod (x_callTy cd_int (b_int C) (a_cons (x_op od_mul (x_var 6) (x_op od_add (x_op od_add (x_var 6) (x_op od_mul x_int (x_var 1))) x_int)) a_nil)) x_int) x_int) (x_var 5))))))))⟩)) (hb := (fun _ _ _ _ _ _ us hl => match us, hl with | [_, _], _ => rfl))
theorem sc_law_bounds : FnScope ["_law_script", "_law_index", "_law_things", "_law_least"] ["_law_script", "_law_index", "_law_things"] (defScope s_law_bounds) := ⟨rfl, rfl, rfl, by decide +kernel, rfl, by decide +kernel, by decide +kernel⟩
theorem k_law_bounds (C : Ctx L K mg base) : Kn P w K mg base "_law_bounds" 2 3 f_law_bounds := by
  have nd : (["_law_script", "_law_index", "_law_things", "_law_least"] : List Str).Nodup := by decide +kernel
  exact C.kn d_law_bounds s_law_bounds (i_fn 1 rfl) (i_fa 5 rfl) (hF := fun f fd F hf => (fn_pure (k := 1) F sc_law_bounds fun cdv A outer s H E hr => ⟨_, (ss_cons (s_set 3 nd (x_if (t_cmp (od_eq hr) (x_op od_mod (x_callTy cd_int (b_int C) (a_cons (x_call (k_law_number C) hr (a_cons (x_var 0) (a_cons (x_op od_add (x_var 1) x_int) a_nil)) (len_cons (len_cons len_nil))) a_nil)) x_int) x_int) (x_op od_add x_int (x_op od_mod (x_callTy cd_int (b_int C) (a_cons (x_call (k_law_number C) hr (a_cons (x_var 0) (a_cons (x_var 1) a_nil)) (len_cons (len_cons len_nil))) a_nil)) (x_var 2))) x_int)) (ss_one (s_ret (x_tup (a_cons (x_var 3) (a_cons (x_op od_sub (x_var 2) (x_op od_mod (x_callTy cd_int (b_int C) (a_cons (x_call (k_law_number C) hr (a_cons (x_var 0) (a_cons (x_op od_add (x_var 1) x_int) a_nil)) (len_cons (len_cons len_nil))) a_nil)) (x_op od_add (x_op od_sub (x_var 2) (x_var 3)) x_int))) a_nil))))))⟩)) (hb := (fun _ _ _ _ _ _ us hl => match us, hl with | [_, _, _], _ => rfl))
theorem sc_law_pairs : FnScope ["_law_things", "_law_found", "_law_one", "_law_other"] ["_law_things"] (defScope s_law_pairs) := ⟨rfl, rfl, rfl, by decide +kernel, rfl, by decide +kernel, by decide +kernel⟩
theorem k_law_pairs (C : Ctx L K mg base) : Kn P w K mg base "_law_pairs" 1 1 f_law_pairs := by
  have nd : (["_law_things", "_law_found", "_law_one", "_law_other"] : List Str).Nodup := by decide +kernel
  exact C.kn d_law_pairs s_law_pairs (i_fn 2 rfl) (i_fa 6 rfl) (hF := fun f fd F hf => (fn_pure (k := 0) F sc_law_pairs fun cdv A outer s H E hr => ⟨_, (ss_cons (s_set 1 nd (EXF.ex (x_lst a_nil))) (ss_cons (s_for (i_range1 (a_cons (x_var 0) a_nil) (b_range C)) (g_name 2 nd) (ss_one (s_set 1 nd (EXF.ex (x_cat (x_var 1) (EXF.ex (x_lcE [("_law_other", 3)] nd (i_range2 (a_cons (x_op od_add (x_var 2) x_int) (a_cons (x_var 0) a_nil)) (b_range C)) rfl (fun _ _ _ _ _ => ⟨_, (g_name 3 nd)⟩) (fun _ _ _ _ _ => ⟨_, ts_nil⟩) (fun _ _ _ _ _ => ⟨_, (x_tup (a_cons (x_var 2) (a_cons (x_var 3) a_nil)))⟩)))))))) (ss_one (s_ret (x_var 1)))))⟩)) (hb := (fun _ _ _ _ _ _ us hl => match us, hl with | [_], _ => rfl))
theorem sc_law_mixed_answers : FnScope ["_law_script", "_law_index", "_law_things", "_law_many", "_law_found", "_law_pairs_here", "_law_turn", "_law_seed", "_law_other", "_law_one"] ["_law_script", "_law_index", "_law_things", "_law_many"] (defScope s_law_mixed_answers) := ⟨rfl, rfl, rfl, by decide +kernel, rfl, by decide +kernel, by decide +kernel⟩
theorem k_law_mixed_answers (C : Ctx L K mg base) : Kn P w K mg base "_law_mixed_answers" 2 4 f_law_mixed_answers := by
  have nd : (["_law_script", "_law_index", "_law_things", "_law_many", "_law_found", "_law_pairs_here", "_law_turn", "_law_seed", "_law_other", "_law_one"] : List Str).Nodup := by decide +kernel
  exact C.kn d_law_mixed_answers s_law_mixed_answers (i_fn 3 rfl) (i_fa 7 rfl) (hF := fun f fd F hf => (fn_pure (k := 1) F sc_law_mixed_answers fun cdv A outer s H E hr => ⟨_, (ss_cons (s_par2 4 5 nd (o_own (x_lst a_nil) (o_frz (x_call (k_law_pairs C) hr (a_cons (x_var 2) a_nil) (len_cons len_nil)) o_nil))) (ss_cons (s_for (i_range1 (a_cons (x_var 3) a_nil) (b_range C)) (g_name 6 nd) (ss_cons (s_set 7 nd (x_call (k_law_number C) hr (a_cons (x_var 0) (a_cons (x_op od_add (x_var 1) (x_var 6)) a_nil)) (len_cons (len_cons len_nil)))) (ss_cons (s_asg (x_ix (id_any hr) (x_var 5) (x_op od_mod (x_callTy cd_int (b_int C) (a_cons (x_var 7) a_nil)) (x_callB cd_len (b_len C) (a_cons (x_var 5) a_nil)))) (g_tup (gs_cons (g_name 9 nd) (gs_cons (g_name 8 nd) gs_nil)))) (ss_one (s_app 4 (x_tup (a_cons (x_var 9) (a_cons (x_var 8) (a_cons (x_cmp (od_eq hr) (x_op od_mod (x_callTy cd_int (b_int C) (a_cons (x_op od_fdiv (x_var 7) x_int) a_nil)) x_int) x_int) a_nil))))))))) (ss_one (s_ret (x_var 4)))))⟩)) (hb := (fun _ _ _ _ _ _ us hl => match us, hl with | [_, _, _, _], _ => rfl))
theorem sc_law_rows : FnScope ["_law_things", "_law_least", "_law_most", "_law_found", "_law_thing", "_law_longer", "_law_some", "_law_group", "_law_row"] ["_law_things", "_law_least", "_law_most"] (defScope s_law_rows) := ⟨rfl, rfl, rfl, by decide +kernel, rfl, by decide +kernel, by decide +kernel⟩
theorem k_law_rows (C : Ctx L K mg base) : Kn P w K mg base "_law_rows" 1 3 f_law_rows := by
  have nd : (["_law_things", "_law_least", "_law_most", "_law_found", "_law_thing", "_law_longer", "_law_some", "_law_group", "_law_row"] : List Str).Nodup := by decide +kernel
  exact C.kn d_law_rows s_law_rows (i_fn 4 rfl) (i_fa 11 rfl) (hF := fun f fd F hf => (fn_pure (k := 0) F sc_law_rows fun cdv A outer s H E hr => ⟨_, (ss_cons (s_set 3 nd (EXF.ex (x_lst (a_cons (x_tup (a_cons x_int a_nil)) a_nil)))) (ss_cons (s_for (i_range2 (a_cons x_int (a_cons (x_var 0) a_nil)) (b_range C)) (g_name 4 nd) (ss_cons (s_set 5 nd (EXF.ex (x_lst a_nil))) (ss_cons (s_for (i_seq (x_var 3)) (g_name 6 nd) (ss_one (s_set 5 nd (EXF.ex (x_cat (x_var 5) (EXF.ex (x_lcE [("_law_group", 7)] nd (i_range1 (a_cons (x_op od_add (x_callB (cd_max hr) (b_max C) (a_cons (x_var 6) a_nil)) x_int) a_nil) (b_range C)) rfl (fun _ _ _ _ _ => ⟨_, (g_name 7 nd)⟩) (fun _ _ _ _ _ => ⟨_, ts_nil⟩) (fun _ _ _ _ _ => ⟨_, (x_op od_add (x_var 6) (x_tup (a_cons (x_var 7) a_nil)))⟩)))))))) (ss_one (s_set 3 nd (x_var 5)))))) (ss_one (s_ret (EXF.ex (x_lcE [("_law_row", 8)] nd (i_seq (EXF.ex (x_callBF (cd_sorted hr) (b_sorted C) (a_cons (x_var 3) a_nil)))) rfl (fun _ _ _ _ _ => ⟨_, (g_name 8 nd)⟩) (fun _ _ _ _ _ => ⟨_, (ts_one (t_chain od_le od_le (x_var 1) (x_op od_add (x_callB (cd_max hr) (b_max C) (a_cons (x_var 8) a_nil)) x_int) (x_var 2)))⟩) (fun _ _ _ _ _ => ⟨_, (x_var 8)⟩)))))))⟩)) (hb := (fun _ _ _ _ _ _ us hl => match us, hl with | [_, _, _], _ => rfl))
theorem sc_is_integer : FnScope ["value", "low", "high"] ["value", "low", "high"] (defScope s_is_integer) := ⟨rfl, rfl, rfl, by decide +kernel, rfl, by decide +kernel, by decide +kernel⟩
theorem k_is_integer (C : Ctx L K mg base) : Kn P w K mg base "is_integer" 1 3 f_is_integer := by
  have nd : (["value", "low", "high"] : List Str).Nodup := by decide +kernel
  exact C.kn d_is_integer s_is_integer (i_fn 5 rfl) (i_fa 16 rfl) (hF := fun f fd F hf => (fn_pure (k := 0) F sc_is_integer fun cdv A outer s H E hr => ⟨_, (ss_one (s_ret (x_and (x_isi g_int (x_var 0) (cl_bltn (b_int C)) (isi_int C) (b_isinstance C)) (x_and (x_not (x_isi g_bool (x_var 0) (cl_bltn (b_bool C)) (isi_bool C) (b_isinstance C))) (x_one (x_chain od_le od_le (x_var 1) (x_var 0) (x_var 2)))))))⟩)) (hb := (fun _ _ _ _ _ _ us hl => match us, hl with | [_, _, _], _ => rfl))
theorem sc_groupings_of : FnScope ["things", "found", "thing", "some", "group"] ["things"] (defScope s_groupings_of) := ⟨rfl, rfl, rfl, by decide +kernel, rfl, by decide +kernel, by decide +kernel⟩
theorem k_groupings_of (C : Ctx L K mg base) : Kn P w K mg base "groupings_of" 1 1 f_groupings_of := by
  have nd : (["things", "found", "thing", "some", "group"] : List Str).Nodup := by decide +kernel
  exact C.kn d_groupings_of s_groupings_of (i_fn 6 rfl) (i_fa 17 rfl) (hF := fun f fd F hf => (fn_pure (k := 0) F sc_groupings_of fun cdv A outer s H E hr => ⟨_, (ss_cons (s_set 1 nd (EXF.ex (x_lst (a_cons (x_tup (a_cons x_int a_nil)) a_nil)))) (ss_cons (s_for (i_range2 (a_cons x_int (a_cons (x_var 0) a_nil)) (b_range C)) (g_name 2 nd) (ss_one (s_setL (l_lc2E [("some", 3), ("group", 4)] [4] nd (i_seq (x_var 1)) rfl (by decide) (by decide) (by decide) (fun _ _ _ _ _ => ⟨_, (g_name 3 nd)⟩) (fun _ _ _ _ _ => ⟨_, ts_nil⟩) (fun _ _ _ _ _ => ⟨_, (i_range1 (a_cons (x_op od_add (x_callB (cd_max hr) (b_max C) (a_cons (x_var 3) a_nil)) x_int) a_nil) (b_range C))⟩) (fun _ _ _ _ _ => ⟨_, (g_name 4 nd)⟩) (fun _ _ _ _ _ => ⟨_, ts_nil⟩) (fun _ _ _ _ _ => ⟨_, (x_tup (a_star (x_var 3) (a_cons (x_var 4) a_nil)))⟩))))) (ss_one (s_ret (x_var 1)))))⟩)) (hb := (fun _ _ _ _ _ _ us hl => match us, hl with | [_], _ => rfl))
theorem sc_groups_in : FnScope ["grouping"] ["grouping"] (defScope s_groups_in) := ⟨rfl, rfl, rfl, by decide +kernel, rfl, by decide +kernel, by decide +kernel⟩
theorem k_groups_in (C : Ctx L K mg base) : Kn P w K mg base "groups_in" 1 1 f_groups_in := by
  have nd : (["grouping"] : List Str).Nodup := by decide +kernel
  exact C.kn d_groups_in s_groups_in (i_fn 7 rfl) (i_fa 18 rfl) (hF := fun f fd F hf => (fn_pure (k := 0) F sc_groups_in fun cdv A outer s H E hr => ⟨_, (ss_one (s_ret (x_op od_add (x_callB (cd_max hr) (b_max C) (a_cons (x_var 0) a_nil)) x_int)))⟩)) (hb := (fun _ _ _ _ _ _ us hl => match us, hl with | [_], _ => rfl))
theorem sc_Pool_init : FnScope ["self", "things", "least", "most", "row"] ["self", "things", "least", "most"] (defScope s_Pool_init) := ⟨rfl, rfl, rfl, by decide +kernel, rfl, by decide +kernel, by decide +kernel⟩
theorem n_Pool (C : Ctx L K mg base) : NewK P w K mg base "Pool" 12 2 3 mk_Pool := by
  have nd : (["self", "things", "least", "most", "row"] : List Str).Nodup := by decide +kernel
  exact C.newK 12 d_Pool_init s_Pool_init (i_fn 8 rfl) (i_fa 19 rfl) (i_fa 20 rfl) (hF := fun f fd F => (fn_init (k := 1) (C := 12) (m := i_Pool) F sc_Pool_init (fun cdv A outer s H E hr => ⟨_, (c_check (t_not (t_val (x_call (k_is_integer C) hr (a_cons (x_var 1) (a_cons (x_globI (c_MIN_THINGS C)) (a_cons (x_globI (c_MAX_THINGS C)) a_nil))) (len_cons (len_cons (len_cons len_nil)))))) (c_check (t_not (t_val (x_call (k_is_integer C) hr (a_cons (x_var 2) (a_cons x_int (a_cons (x_var 1) a_nil))) (len_cons (len_cons (len_cons len_nil)))))) (c_check (t_not (t_val (x_call (k_is_integer C) hr (a_cons (x_var 3) (a_cons (x_var 2) (a_cons (x_var 1) a_nil))) (len_cons (len_cons (len_cons len_nil)))))) (c_self 2 (C.clsF 12 (i_fx 2 rfl)) (C.slotF 12 (i_fx 6 rfl)) (x_var 1) (c_self 1 (C.clsF 12 (i_fx 2 rfl)) (C.slotF 12 (i_fx 5 rfl)) (x_var 2) (c_self 0 (C.clsF 12 (i_fx 2 rfl)) (C.slotF 12 (i_fx 4 rfl)) (x_var 3) (c_self 3 (C.clsF 12 (i_fx 2 rfl)) (C.slotF 12 (i_fx 3 rfl)) (x_callTy cd_tuple (b_tuple C) (a_cons (EXF.ex (x_lcE [("row", 4)] nd (i_seq (x_call (k_groupings_of C) hr (a_cons (x_var 1) a_nil) (len_cons len_nil))) rfl (fun _ _ _ _ _ => ⟨_, (g_name 4 nd)⟩) (fun _ _ _ _ _ => ⟨_, (ts_one (t_chain od_le od_le (x_var 2) (x_call (k_groups_in C) hr (a_cons (x_var 4) a_nil) (len_cons len_nil)) (x_var 3)))⟩) (fun _ _ _ _ _ => ⟨_, (x_var 4)⟩))) a_nil)) c_nil)))))))⟩) (fun x ds fs hl e => match ds, hl with | [_, _, _], _ => e))) (hb := (fun _ _ _ _ _ _ us hl => match us, hl with | [_, _, _, _], _ => rfl))
theorem sc_law_says : FnScope ["_law_row", "_law_answer"] ["_law_row", "_law_answer"] (defScope s_law_says) := ⟨rfl, rfl, rfl, by decide +kernel, rfl, by decide +kernel, by decide +kernel⟩
theorem k_law_says (C : Ctx L K mg base) : Kn P w K mg base "_law_says" 1 2 f_law_says := by
  have nd : (["_law_row", "_law_answer"] : List Str).Nodup := by decide +kernel
  exact C.kn d_law_says s_law_says (i_fn 9 rfl) (i_fa 22 rfl) (hF := fun f fd F hf => (fn_pure (k := 0) F sc_law_says fun cdv A outer s H E hr => ⟨_, (ss_one (s_ret (x_cmp (od_eq hr) (x_cmp (od_eq hr) (x_ix (id_any hr) (x_var 0) (x_ix (id_any hr) (x_var 1) x_int)) (x_ix (id_any hr) (x_var 0) (x_ix (id_any hr) (x_var 1) x_int))) (x_ix (id_any hr) (x_var 1) x_int))))⟩)) (hb := (fun _ _ _ _ _ _ us hl => match us, hl with | [_, _], _ => rfl))
theorem sc_law_wrong : FnScope ["_law_row", "_law_answers", "_law_at", "_law_answer"] ["_law_row", "_law_answers"] (defScope s_law_wrong) := ⟨rfl, rfl, rfl, by decide +kernel, rfl, by decide +kernel, by decide +kernel⟩
theorem k_law_wrong (C : Ctx L K mg base) : Kn P w K mg base "_law_wrong" 2 2 f_law_wrong := by
  have nd : (["_law_row", "_law_answers", "_law_at", "_law_answer"] : List Str).Nodup := by decide +kernel
  exact C.kn d_law_wrong s_law_wrong (i_fn 10 rfl) (i_fa 23 rfl) (hF := fun f fd F hf => (fn_pure (k := 1) F sc_law_wrong fun cdv A outer s H E hr => ⟨_, (ss_one (s_ret (x_callTy cd_tuple (b_tuple C) (a_cons (EXF.ex (x_lcE [("_law_at", 2), ("_law_answer", 3)] nd (i_enum (a_cons (x_var 1) a_nil) (b_enumerate C)) rfl (fun _ _ _ _ _ => ⟨_, (g_tup (gs_cons (g_name 2 nd) (gs_cons (g_name 3 nd) gs_nil)))⟩) (fun _ _ _ _ _ => ⟨_, (ts_one (t_not (t_val (x_call (k_law_says C) hr (a_cons (x_var 0) (a_cons (x_var 3) a_nil)) (len_cons (len_cons len_nil))))))⟩) (fun _ _ _ _ _ => ⟨_, (x_var 2)⟩))) a_nil))))⟩)) (hb := (fun _ _ _ _ _ _ us hl => match us, hl with | [_, _], _ => rfl))
theorem sc_law_weight : FnScope ["_law_weights", "_law_some", "_law_at"] ["_law_weights", "_law_some"] (defScope s_law_weight) := ⟨rfl, rfl, rfl, by decide +kernel, rfl, by decide +kernel, by decide +kernel⟩
theorem k_law_weight (C : Ctx L K mg base) : Kn P w K mg base "_law_weight" 1 2 f_law_weight := by
  have nd : (["_law_weights", "_law_some", "_law_at"] : List Str).Nodup := by decide +kernel
  exact C.kn d_law_weight s_law_weight (i_fn 11 rfl) (i_fa 24 rfl) (hF := fun f fd F hf => (fn_pure (k := 0) F sc_law_weight fun cdv A outer s H E hr => ⟨_, (ss_one (s_ret (x_callB cd_sum (b_sum C) (a_cons (EXF.ex (x_lcE [("_law_at", 2)] nd (i_seq (x_var 1)) rfl (fun _ _ _ _ _ => ⟨_, (g_name 2 nd)⟩) (fun _ _ _ _ _ => ⟨_, ts_nil⟩) (fun _ _ _ _ _ => ⟨_, (x_ix (id_any hr) (x_var 0) (x_var 2))⟩))) a_nil))))⟩)) (hb := (fun _ _ _ _ _ _ us hl => match us, hl with | [_, _], _ => rfl))
theorem sc_check_pool : FnScope ["pool"] ["pool"] (defScope s_check_pool) := ⟨rfl, rfl, rfl, by decide +kernel, rfl, by decide +kernel, by decide +kernel⟩
theorem k_check_pool (C : Ctx L K mg base) : Kn P w K mg base "check_pool" 1 1 f_check_pool := by
  have nd : (["pool"] : List Str).Nodup := by decide +kernel
  exact C.kn d_check_pool s_check_pool (i_fn 12 rfl) (i_fa 26 rfl) (hF := fun f fd F hf => (fn_pure (k := 0) F sc_check_pool fun cdv A outer s H E hr => ⟨_, (ss_one (s_if (t_not (t_val (x_isi g_Pool (x_var 0) (cl_own (cl_Pool C)) (isi_Pool C) (b_isinstance C)))) (ss_one s_never) ss_nil))⟩)) (hb := (fun _ _ _ _ _ _ us hl => match us, hl with | [_], _ => rfl))
theorem sc_is_pair : FnScope ["pool", "value", "thing"] ["pool", "value"] (defScope s_is_pair) := ⟨rfl, rfl, rfl, by decide +kernel, rfl, by decide +kernel, by decide +kernel⟩
theorem k_is_pair (C : Ctx L K mg base) : Kn P w K mg base "is_pair" 2 2 f_is_pair := by
  have nd : (["pool", "value", "thing"] : List Str).Nodup := by decide +kernel
  exact C.kn d_is_pair s_is_pair (i_fn 13 rfl) (i_fa 30 rfl) (hF := fun f fd F hf => (fn_pure (k := 1) F sc_is_pair fun cdv A outer s H E hr => ⟨_, (ss_cons (s_if (EW.et (w_or (t_not (t_val (x_isi g_tuple (x_var 1) (cl_bltn (b_tuple C)) (isi_tuple C) (b_isinstance C)))) (w_or1 (t_cmp (od_ne hr) (x_callB cd_len (b_len C) (a_cons (x_var 1) a_nil)) x_int)))) (ss_one (s_ret x_bl)) ss_nil) (ss_one (s_ret (x_and (x_callB cd_all (b_all C) (a_cons (EXF.ex (x_lcE [("thing", 2)] nd (i_seq (x_var 1)) rfl (fun _ _ _ _ _ => ⟨_, (g_name 2 nd)⟩) (fun _ _ _ _ _ => ⟨_, ts_nil⟩) (fun _ _ _ _ _ => ⟨_, (x_call (k_is_integer C) hr (a_cons (x_var 2) (a_cons x_int (a_cons (x_op od_sub (x_attr tb_many (x_var 0) (at_many C)) x_int) a_nil))) (len_cons (len_cons (len_cons len_nil))))⟩))) a_nil)) (x_one (x_cmp od_lt (x_ix (id_any hr) (x_var 1) x_int) (x_ix (id_any hr) (x_var 1) x_int)))))))⟩)) (hb := (fun _ _ _ _ _ _ us hl => match us, hl with | [_, _], _ => rfl))
theorem sc_is_answer : FnScope ["pool", "value"] ["pool", "value"] (defScope s_is_answer) := ⟨rfl, rfl, rfl, by decide +kernel, rfl, by decide +kernel, by decide +kernel⟩
theorem k_is_answer (C : Ctx L K mg base) : Kn P w K mg base "is_answer" 3 2 f_is_answer := by
  have nd : (["pool", "value"] : List Str).Nodup := by decide +kernel
  exact C.kn d_is_answer s_is_answer (i_fn 14 rfl) (i_fa 31 rfl) (hF := fun f fd F hf => (fn_pure (k := 2) F sc_is_answer fun cdv A outer s H E hr => ⟨_, (ss_cons (s_if (EW.et (w_or (t_not (t_val (x_isi g_tuple (x_var 1) (cl_bltn (b_tuple C)) (isi_tuple C) (b_isinstance C)))) (w_or (t_cmp (od_ne hr) (x_callB cd_len (b_len C) (a_cons (x_var 1) a_nil)) x_int) (w_or1 (t_not (t_val (x_isi g_bool (x_ix (id_any hr) (x_var 1) x_int) (cl_bltn (b_bool C)) (isi_bool C) (b_isinstance C)))))))) (ss_one (s_ret x_bl)) ss_nil) (ss_one (s_ret (x_call (k_is_pair C) hr (a_cons (x_var 0) (a_cons (x_slice (x_var 1) o_none (o_some x_int)) a_nil)) (len_cons (len_cons len_nil))))))⟩)) (hb := (fun _ _ _ _ _ _ us hl => match us, hl with | [_, _], _ => rfl))
theorem sc_check_answers : FnScope ["pool", "answers", "answer", "index"] ["pool", "answers"] (defScope s_check_answers) := ⟨rfl, rfl, rfl, by decide +kernel, rfl, by decide +kernel, by decide +kernel⟩
theorem k_check_answers (C : Ctx L K mg base) : Kn P w K mg base "check_answers" 4 2 f_check_answers := by
  have nd : (["pool", "answers", "answer", "index"] : List Str).Nodup := by decide +kernel
  exact C.kn d_check_answers s_check_answers (i_fn 15 rfl) (i_fa 32 rfl) (hF := fun f fd F hf => (fn_pure (k := 3) F sc_check_answers fun cdv A outer s H E hr => ⟨_, (ss_cons (s_expr (x_call (k_check_pool C) hr (a_cons (x_var 0) a_nil) (len_cons len_nil))) (ss_cons (s_if (EW.et (w_or (t_not (t_val (x_isi2 g_list g_tuple (x_var 1) (cl_bltn (b_list C)) (cl_bltn (b_tuple C)) (isi_list C) (isi_tuple C) (b_isinstance C)))) (w_or1 (t_cmp od_gt (x_callB cd_len (b_len C) (a_cons (x_var 1) a_nil)) (x_globI (c_MAX_ANSWERS C)))))) (ss_one s_never) ss_nil) (ss_one (s_for (i_enum (a_cons (x_var 1) a_nil) (b_enumerate C)) (g_tup (gs_cons (g_name 3 nd) (gs_cons (g_name 2 nd) gs_nil))) (ss_one (s_if (t_not (t_val (x_call (k_is_answer C) hr (a_cons (x_var 0) (a_cons (x_var 2) a_nil)) (len_cons (len_cons len_nil))))) (ss_one s_never) ss_nil))))))⟩)) (hb := (fun _ _ _ _ _ _ us hl => match us, hl with | [_, _], _ => rfl))
theorem sc_check_doubt : FnScope ["pool", "answers", "weights", "weight"] ["pool", "answers", "weights"] (defScope s_check_doubt) := ⟨rfl, rfl, rfl, by decide +kernel, rfl, by decide +kernel, by decide +kernel⟩
theorem k_check_doubt (C : Ctx L K mg base) : Kn P w K mg base "check_doubt" 5 3 f_check_doubt := by
  have nd : (["pool", "answers", "weights", "weight"] : List Str).Nodup := by decide +kernel
  exact C.kn d_check_doubt s_check_doubt (i_fn 16 rfl) (i_fa 35 rfl) (hF := fun f fd F hf => (fn_pure (k := 4) F sc_check_doubt fun cdv A outer s H E hr => ⟨_, (ss_cons (s_expr (x_call (k_check_answers C) hr (a_cons (x_var 0) (a_cons (x_var 1) a_nil)) (len_cons (len_cons len_nil)))) (ss_cons (s_if (EW.et (w_or (t_not (t_val (x_isi2 g_list g_tuple (x_var 2) (cl_bltn (b_list C)) (cl_bltn (b_tuple C)) (isi_list C) (isi_tuple C) (b_isinstance C)))) (w_or1 (t_cmp (od_ne hr) (x_callB cd_len (b_len C) (a_cons (x_var 2) a_nil)) (x_callB cd_len (b_len C) (a_cons (x_var 1) a_nil)))))) (ss_one s_never) ss_nil) (ss_cons (s_if (t_not (t_val (x_callB cd_all (b_all C) (a_cons (EXF.ex (x_lcE [("weight", 3)] nd (i_seq (x_var 2)) rfl (fun _ _ _ _ _ => ⟨_, (g_name 3 nd)⟩) (fun _ _ _ _ _ => ⟨_, ts_nil⟩) (fun _ _ _ _ _ => ⟨_, (x_call (k_is_integer C) hr (a_cons (x_var 3) (a_cons x_int (a_cons (x_globI (c_MAX_WEIGHT C)) a_nil))) (len_cons (len_cons (len_cons len_nil))))⟩))) a_nil)))) (ss_one s_never) ss_nil) (ss_one (s_if (t_cmp od_gt (x_callB cd_len (b_len C) (a_cons (x_var 1) a_nil)) (x_globI (c_MAX_DOUBTED C))) (ss_one s_never) ss_nil)))))⟩)) (hb := (fun _ _ _ _ _ _ us hl => match us, hl with | [_, _, _], _ => rfl))
theorem sc_are_same : FnScope ["grouping", "pair"] ["grouping", "pair"] (defScope s_are_same) := ⟨rfl, rfl, rfl, by decide +kernel, rfl, by decide +kernel, by decide +kernel⟩
theorem k_are_same (C : Ctx L K mg base) : Kn P w K mg base "are_same" 1 2 f_are_same := by
  have nd : (["grouping", "pair"] : List Str).Nodup := by decide +kernel
  exact C.kn d_are_same s_are_same (i_fn 17 rfl) (i_fa 36 rfl) (hF := fun f fd F hf => (fn_pure (k := 0) F sc_are_same fun cdv A outer s H E hr => ⟨_, (ss_one (s_ret (x_cmp (od_eq hr) (x_ix (id_any hr) (x_var 0) (x_ix (id_any hr) (x_var 1) x_int)) (x_ix (id_any hr) (x_var 0) (x_ix (id_any hr) (x_var 1) x_int)))))⟩)) (hb := (fun _ _ _ _ _ _ us hl => match us, hl with | [_, _], _ => rfl))
theorem sc_fits : FnScope ["grouping", "answers", "answer"] ["grouping", "answers"] (defScope s_fits) := ⟨rfl, rfl, rfl, by decide +kernel, rfl, by decide +kernel, by decide +kernel⟩
theorem k_fits (C : Ctx L K mg base) : Kn P w K mg base "fits" 2 2 f_fits := by
  have nd : (["grouping", "answers", "answer"] : List Str).Nodup := by decide +kernel
  exact C.kn d_fits s_fits (i_fn 18 rfl) (i_fa 37 rfl) (hF := fun f fd F hf => (fn_pure (k := 1) F sc_fits fun cdv A outer s H E hr => ⟨_, (ss_one (s_ret (x_callB cd_all (b_all C) (a_cons (EXF.ex (x_lcE [("answer", 2)] nd (i_seq (x_var 1)) rfl (fun _ _ _ _ _ => ⟨_, (g_name 2 nd)⟩) (fun _ _ _ _ _ => ⟨_, ts_nil⟩) (fun _ _ _ _ _ => ⟨_, (x_cmp (od_eq hr) (x_call (k_are_same C) hr (a_cons (x_var 0) (a_cons (x_var 2) a_nil)) (len_cons (len_cons len_nil))) (x_ix (id_any hr) (x_var 2) x_int))⟩))) a_nil))))⟩)) (hb := (fun _ _ _ _ _ _ us hl => match us, hl with | [_, _], _ => rfl))
theorem sc_wrong_in : FnScope ["grouping", "answers", "index", "answer"] ["grouping", "answers"] (defScope s_wrong_in) := ⟨rfl, rfl, rfl, by decide +kernel, rfl, by decide +kernel, by decide +kernel⟩
theorem k_wrong_in (C : Ctx L K mg base) : Kn P w K mg base "wrong_in" 3 2 f_wrong_in := by
  have nd : (["grouping", "answers", "index", "answer"] : List Str).Nodup := by decide +kernel
  exact C.kn d_wrong_in s_wrong_in (i_fn 19 rfl) (i_fa 38 rfl) (hF := fun f fd F hf => (fn_pure (k := 2) F sc_wrong_in fun cdv A outer s H E hr => ⟨_, (ss_one (s_ret (x_callTy cd_tuple (b_tuple C) (a_cons (EXF.ex (x_lcE [("index", 2), ("answer", 3)] nd (i_enum (a_cons (x_var 1) a_nil) (b_enumerate C)) rfl (fun _ _ _ _ _ => ⟨_, (g_tup (gs_cons (g_name 2 nd) (gs_cons (g_name 3 nd) gs_nil)))⟩) (fun _ _ _ _ _ => ⟨_, (ts_one (t_not (t_val (x_call (k_fits C) hr (a_cons (x_var 0) (a_cons (EXF.ex (x_lst (a_cons (x_var 3) a_nil))) a_nil)) (len_cons (len_cons len_nil))))))⟩) (fun _ _ _ _ _ => ⟨_, (x_var 2)⟩))) a_nil))))⟩)) (hb := (fun _ _ _ _ _ _ us hl => match us, hl with | [_, _], _ => rfl))
theorem sc_weight_of : FnScope ["weights", "some", "index"] ["weights", "some"] (defScope s_weight_of) := ⟨rfl, rfl, rfl, by decide +kernel, rfl, by decide +kernel, by decide +kernel⟩
theorem k_weight_of (C : Ctx L K mg base) : Kn P w K mg base "weight_of" 1 2 f_weight_of := by
  have nd : (["weights", "some", "index"] : List Str).Nodup := by decide +kernel
  exact C.kn d_weight_of s_weight_of (i_fn 20 rfl) (i_fa 39 rfl) (hF := fun f fd F hf => (fn_pure (k := 0) F sc_weight_of fun cdv A outer s H E hr => ⟨_, (ss_one (s_ret (x_callB cd_sum (b_sum C) (a_cons (EXF.ex (x_lcE [("index", 2)] nd (i_seq (x_var 1)) rfl (fun _ _ _ _ _ => ⟨_, (g_name 2 nd)⟩) (fun _ _ _ _ _ => ⟨_, ts_nil⟩) (fun _ _ _ _ _ => ⟨_, (x_ix (id_any hr) (x_var 0) (x_var 2))⟩))) a_nil))))⟩)) (hb := (fun _ _ _ _ _ _ us hl => match us, hl with | [_, _], _ => rfl))
theorem sc_least_core : FnScope ["rows", "answers", "core", "index", "rest", "one", "row"] ["rows", "answers"] (defScope s_least_core) := ⟨rfl, rfl, rfl, by decide +kernel, rfl, by decide +kernel, by decide +kernel⟩
theorem k_least_core (C : Ctx L K mg base) : Kn P w K mg base "least_core" 3 2 f_least_core := by
  have nd : (["rows", "answers", "core", "index", "rest", "one", "row"] : List Str).Nodup := by decide +kernel
  exact C.kn d_least_core s_least_core (i_fn 21 rfl) (i_fa 41 rfl) (hF := fun f fd F hf => (fn_pure (k := 2) F sc_least_core fun cdv A outer s H E hr => ⟨_, (ss_cons (s_own 2 nd (x_lstRg rfl (b_list C) (b_range C) (x_callB cd_len (b_len C) (a_cons (x_var 1) a_nil)))) (ss_cons (s_for (i_range1 (a_cons (x_callB cd_len (b_len C) (a_cons (x_var 1) a_nil)) a_nil) (b_range C)) (g_name 3 nd) (ss_cons (s_ownB 4 nd (x_lcE [("one", 5)] nd (i_seq (x_var 2)) rfl (fun _ _ _ _ _ => ⟨_, (g_name 5 nd)⟩) (fun _ _ _ _ _ => ⟨_, (ts_one (t_cmp (od_ne hr) (x_var 5) (x_var 3)))⟩) (fun _ _ _ _ _ => ⟨_, (x_ix (id_any hr) (x_var 1) (x_var 5))⟩))) (ss_one (s_if (t_not (t_val (x_callB cd_any (b_any C) (a_cons (EXF.ex (x_lcE [("row", 6)] nd (i_seq (x_var 0)) rfl (fun _ _ _ _ _ => ⟨_, (g_name 6 nd)⟩) (fun _ _ _ _ _ => ⟨_, ts_nil⟩) (fun _ _ _ _ _ => ⟨_, (x_call (k_fits C) hr (a_cons (x_var 6) (a_cons (x_var 4) a_nil)) (len_cons (len_cons len_nil)))⟩))) a_nil)))) (ss_one (s_rem 2 (x_var 3))) ss_nil)))) (ss_one (s_ret (x_callTy cd_tuple (b_tuple C) (a_cons (x_var 2) a_nil))))))⟩)) (hb := (fun _ _ _ _ _ _ us hl => match us, hl with | [_, _], _ => rfl))
theorem sc_tree_of : FnScope ["pool", "task", "some", "least", "weights", "answers", "rest", "index", "core", "place"] ["pool", "task", "some"] (defScope s_tree_of) := ⟨rfl, rfl, rfl, by decide +kernel, rfl, by decide +kernel, by decide +kernel⟩
theorem k_tree_of (C : Ctx L K mg base) : ∀ n, Kn P w K mg base "tree_of" (4 + n) 3 (f_tree_of n) := by
  have nd : (["pool", "task", "some", "least", "weights", "answers", "rest", "index", "core", "place"] : List Str).Nodup := by decide +kernel
  intro n
  induction n with
  | zero => exact C.kn d_tree_of s_tree_of (i_fn 22 rfl) (i_fa 42 rfl) (hF := fun f fd F hf => (fn_pure (k := 3) F sc_tree_of fun cdv A outer s H E hr => ⟨_, ss_never⟩)) (hb := (fun _ _ _ _ _ _ us hl => match us, hl with | [_, _, _], _ => rfl))
  | succ n ih => exact C.kn d_tree_of s_tree_of (i_fn 22 rfl) (i_fa 42 rfl) (hF := fun f fd F hf => (fn_pure (k := 4 + n) F sc_tree_of fun cdv A outer s H E hr => ⟨_, (ss_cons (s_asg (x_var 1) (g_tup (gs_cons (g_name 5 nd) (gs_cons (g_name 4 nd) (gs_cons (g_name 3 nd) gs_nil))))) (ss_cons (s_if (t_cmp od_ge (x_call (k_weight_of C) hr (a_cons (x_var 4) (a_cons (x_var 2) a_nil)) (len_cons (len_cons len_nil)) (hkj := by omega)) (x_var 3)) (ss_one (s_ret x_non)) ss_nil) (ss_cons (s_set 6 nd (EXF.ex (x_lcE [("index", 7)] nd (i_range1 (a_cons (x_callB cd_len (b_len C) (a_cons (x_var 5) a_nil)) a_nil) (b_range C)) rfl (fun _ _ _ _ _ => ⟨_, (g_name 7 nd)⟩) (fun _ _ _ _ _ => ⟨_, (ts_one (t_cmp (od_ninA hr) (x_var 7) (x_var 2)))⟩) (fun _ _ _ _ _ => ⟨_, (x_var 7)⟩)))) (ss_cons (s_set 8 nd (x_callTy cd_tuple (b_tuple C) (a_cons (EXF.ex (x_lcE [("place", 9)] nd (i_seq (x_call (k_least_core C) hr (a_cons (x_attr tb_rows (x_var 0) (at_rows C)) (a_cons (EXF.ex (x_lcE [("index", 7)] nd (i_seq (x_var 6)) rfl (fun _ _ _ _ _ => ⟨_, (g_name 7 nd)⟩) (fun _ _ _ _ _ => ⟨_, ts_nil⟩) (fun _ _ _ _ _ => ⟨_, (x_ix (id_any hr) (x_var 5) (x_var 7))⟩))) a_nil)) (len_cons (len_cons len_nil)) (hkj := by omega))) rfl (fun _ _ _ _ _ => ⟨_, (g_name 9 nd)⟩) (fun _ _ _ _ _ => ⟨_, ts_nil⟩) (fun _ _ _ _ _ => ⟨_, (x_ix (id_any hr) (x_var 6) (x_var 9))⟩))) a_nil))) (ss_one (s_ret (x_tup (a_cons (x_var 8) (a_cons (x_callTy cd_tuple (b_tuple C) (a_cons (EXF.ex (x_lcE [("index", 7)] nd (i_seq (x_var 8)) rfl (fun _ _ _ _ _ => ⟨_, (g_name 7 nd)⟩) (fun _ _ _ _ _ => ⟨_, ts_nil⟩) (fun _ _ _ _ _ => ⟨_, (x_call ih hr (a_cons (x_var 0) (a_cons (x_var 1) (a_cons (x_tup (a_star (x_var 2) (a_cons (x_var 7) a_nil))) a_nil))) (len_cons (len_cons (len_cons len_nil))) (hkj := Nat.le_refl _))⟩))) a_nil)) a_nil)))))))))⟩)) (hb := (fun _ _ _ _ _ _ us hl => match us, hl with | [_, _, _], _ => rfl))
theorem sc_Mend_init : FnScope ["self", "grouping", "wrong", "tree"] ["self", "grouping", "wrong", "tree"] (defScope s_Mend_init) := ⟨rfl, rfl, rfl, by decide +kernel, rfl, by decide +kernel, by decide +kernel⟩
theorem n_Mend (C : Ctx L K mg base) : NewK P w K mg base "Mend" 21 1 3 mk_Mend := by
  have nd : (["self", "grouping", "wrong", "tree"] : List Str).Nodup := by decide +kernel
  exact C.newK 21 d_Mend_init s_Mend_init (i_fn 23 rfl) (i_fa 43 rfl) (i_fa 44 rfl) (hF := fun f fd F => (fn_init (k := 0) (C := 21) (m := i_Mend) F sc_Mend_init (fun cdv A outer s H E hr => ⟨_, (c_self 0 (C.clsF 21 (i_fx 10 rfl)) (C.slotF 21 (i_fx 13 rfl)) (x_var 1) (c_self 2 (C.clsF 21 (i_fx 10 rfl)) (C.slotF 21 (i_fx 12 rfl)) (x_var 2) (c_self 1 (C.clsF 21 (i_fx 10 rfl)) (C.slotF 21 (i_fx 11 rfl)) (x_var 3) c_nil)))⟩) (fun x ds fs hl e => match ds, hl with | [_, _, _], _ => e))) (hb := (fun _ _ _ _ _ _ us hl => match us, hl with | [_, _, _, _], _ => rfl))
theorem sc_Pool_iter : FnScope ["self"] ["self"] (defScope s_Pool_iter) := ⟨rfl, rfl, rfl, by decide +kernel, rfl, by decide +kernel, by decide +kernel⟩
theorem it_Pool (C : Ctx L K mg base) : ItF P w K mg base 12 3 1 :=
  C.itF 12 d_Pool_iter s_Pool_iter (i_fn 24 rfl) sc_Pool_iter (i_fa 46 rfl) (i_fx 2 rfl) (i_fx 3 rfl) (i_fa 45 rfl) rfl (hok := fun f cdv A outer s H => pe_callB call_iterB (by rfl) (b_iter C) (by decide +kernel) (pa_cons (SlX.pe_sl (pv 0) rfl) pa_nil) (by decide) (by decide) rfl rfl) (hb := (fun _ _ _ _ _ _ us hl => match us, hl with | [_], _ => rfl))
theorem sc_mend : FnScope ["pool", "answers", "weights", "rows", "row", "grouping", "least"] ["pool", "answers", "weights"] (defScope s_mend) := ⟨rfl, rfl, rfl, by decide +kernel, rfl, by decide +kernel, by decide +kernel⟩
theorem k_mend (C : Ctx L K mg base) : Kn P w K mg base "mend" 17 3 f_mend := by
  have nd : (["pool", "answers", "weights", "rows", "row", "grouping", "least"] : List Str).Nodup := by decide +kernel
  exact C.kn d_mend s_mend (i_fn 25 rfl) (i_fa 47 rfl) (hF := fun f fd F hf => (fn_pureL (k := 16) F hf sc_mend fun A outer s H E hr => ⟨_, (ss_cons (s_expr (x_call (k_check_doubt C) hr (a_cons (x_var 0) (a_cons (x_var 1) (a_cons (x_var 2) a_nil))) (len_cons (len_cons (len_cons len_nil))))) (ss_cons (s_set 3 nd (x_dcE [("row", 4)] hr nd (i_obj (x_var 0) (it_Pool C) hr) rfl (fun _ _ _ _ _ => ⟨_, (g_name 4 nd)⟩) (fun _ _ _ _ _ => ⟨_, ts_nil⟩) (fun _ _ _ _ _ => ⟨_, (x_var 4)⟩) (fun _ _ _ _ _ => ⟨_, (x_call (k_wrong_in C) hr (a_cons (x_var 4) (a_cons (x_var 1) a_nil)) (len_cons (len_cons len_nil)))⟩))) (ss_cons (s_set 5 nd (x_minKAE (k := 1) (x_var 3) (C.lamT ("mend", none) "mend" (i_tq 0 rfl) rfl rfl rfl rfl rfl rfl rfl nd rfl (fun _ _ _ _ _ _ => rfl)) hr (b_min C) (fun _ _ _ _ _ _ hr => ⟨_, (x_tup (a_cons (x_call (k_weight_of C) hr (a_cons (x_var 2) (a_cons (x_ix (id_any hr) (x_var 3) (x_var 4)) a_nil)) (len_cons (len_cons len_nil))) (a_cons (x_var 4) a_nil)))⟩))) (ss_cons (s_set 6 nd (x_call (k_weight_of C) hr (a_cons (x_var 2) (a_cons (x_ix (id_any hr) (x_var 3) (x_var 5)) a_nil)) (len_cons (len_cons len_nil)))) (ss_one (s_ret (x_new (n_Mend C) hr (a_cons (x_var 5) (a_cons (x_ix (id_any hr) (x_var 3) (x_var 5)) (a_cons (x_call (k_tree_of C 12) hr (a_cons (x_var 0) (a_cons (x_tup (a_cons (x_var 1) (a_cons (x_var 2) (a_cons (x_var 6) a_nil)))) (a_cons (x_tup a_nil) a_nil))) (len_cons (len_cons (len_cons len_nil)))) a_nil))) (len_cons (len_cons (len_cons len_nil))))))))))⟩)) (hb := (fun _ _ _ _ _ _ us hl => match us, hl with | [_, _, _], _ => rfl))
theorem sc_least_weight : FnScope ["pool", "answers", "weights", "row"] ["pool", "answers", "weights"] (defScope s_least_weight) := ⟨rfl, rfl, rfl, by decide +kernel, rfl, by decide +kernel, by decide +kernel⟩
theorem k_least_weight (C : Ctx L K mg base) : Kn P w K mg base "least_weight" 6 3 f_least_weight := by
  have nd : (["pool", "answers", "weights", "row"] : List Str).Nodup := by decide +kernel
  exact C.kn d_least_weight s_least_weight (i_fn 26 rfl) (i_fa 48 rfl) (hF := fun f fd F hf => (fn_pure (k := 5) F sc_least_weight fun cdv A outer s H E hr => ⟨_, (ss_cons (s_expr (x_call (k_check_doubt C) hr (a_cons (x_var 0) (a_cons (x_var 1) (a_cons (x_var 2) a_nil))) (len_cons (len_cons (len_cons len_nil))))) (ss_one (s_ret (x_callB (cd_min hr) (b_min C) (a_cons (EXF.ex (x_lcE [("row", 3)] nd (i_obj (x_var 0) (it_Pool C) hr) rfl (fun _ _ _ _ _ => ⟨_, (g_name 3 nd)⟩) (fun _ _ _ _ _ => ⟨_, ts_nil⟩) (fun _ _ _ _ _ => ⟨_, (x_call (k_weight_of C) hr (a_cons (x_var 2) (a_cons (x_call (k_wrong_in C) hr (a_cons (x_var 3) (a_cons (x_var 1) a_nil)) (len_cons (len_cons len_nil))) a_nil)) (len_cons (len_cons len_nil)))⟩))) a_nil)))))⟩)) (hb := (fun _ _ _ _ _ _ us hl => match us, hl with | [_, _, _], _ => rfl))
theorem sc_refutes : FnScope ["pool", "task", "some", "tree", "least", "weights", "answers", "trees", "core", "index", "row", "one"] ["pool", "task", "some", "tree"] (defScope s_refutes) := ⟨rfl, rfl, rfl, by decide +kernel, rfl, by decide +kernel, by decide +kernel⟩
theorem k_refutes (C : Ctx L K mg base) : ∀ n, Kn P w K mg base "refutes" (3 + n) 4 (f_refutes n) := by
  have nd : (["pool", "task", "some", "tree", "least", "weights", "answers", "trees", "core", "index", "row", "one"] : List Str).Nodup := by decide +kernel
  intro n
  induction n with
  | zero => exact C.kn d_refutes s_refutes (i_fn 27 rfl) (i_fa 50 rfl) (hF := fun f fd F hf => (fn_pure (k := 2) F sc_refutes fun cdv A outer s H E hr => ⟨_, ss_never⟩)) (hb := (fun _ _ _ _ _ _ us hl => match us, hl with | [_, _, _, _], _ => rfl))
  | succ n ih => exact C.kn d_refutes s_refutes (i_fn 27 rfl) (i_fa 50 rfl) (hF := fun f fd F hf => (fn_pure (k := 3 + n) F sc_refutes fun cdv A outer s H E hr => ⟨_, (ss_cons (s_asg (x_var 1) (g_tup (gs_cons (g_name 6 nd) (gs_cons (g_name 5 nd) (gs_cons (g_name 4 nd) gs_nil))))) (ss_cons (s_if (t_isN (x_var 3)) (ss_one (s_ret (x_cmp od_ge (x_call (k_weight_of C) hr (a_cons (x_var 5) (a_cons (x_var 2) a_nil)) (len_cons (len_cons len_nil)) (hkj := by omega)) (x_var 4)))) ss_nil) (ss_cons (s_asg (x_var 3) (g_tup (gs_cons (g_name 8 nd) (gs_cons (g_name 7 nd) gs_nil)))) (ss_cons (s_if (EW.et (w_or (t_cmp (od_ne hr) (x_callB cd_len (b_len C) (a_cons (x_var 7) a_nil)) (x_callB cd_len (b_len C) (a_cons (x_var 8) a_nil))) (w_or1 (t_cmp (od_ne hr) (x_callB cd_lenI (b_len C) (a_cons (x_dcI [("index", 9)] nd (i_seq (x_var 8)) rfl (fun _ _ _ _ _ => ⟨_, (g_name 9 nd)⟩) (fun _ _ _ _ _ => ⟨_, ts_nil⟩) (fun _ _ _ _ _ => ⟨_, (x_var 9)⟩) (fun _ _ _ _ _ => ⟨_, x_bl⟩)) a_nil)) (x_callB cd_len (b_len C) (a_cons (x_var 8) a_nil)))))) (ss_one (s_ret x_bl)) ss_nil) (ss_cons (s_if (t_val (x_callB cd_any (b_any C) (a_cons (EXF.ex (x_lcE [("index", 9)] nd (i_seq (x_var 8)) rfl (fun _ _ _ _ _ => ⟨_, (g_name 9 nd)⟩) (fun _ _ _ _ _ => ⟨_, ts_nil⟩) (fun _ _ _ _ _ => ⟨_, (x_or (x_not (x_chain od_le od_lt x_int (x_var 9) (x_callB cd_len (b_len C) (a_cons (x_var 6) a_nil)))) (x_one (x_cmp (od_inA hr) (x_var 9) (x_var 2))))⟩))) a_nil))) (ss_one (s_ret x_bl)) ss_nil) (ss_cons (s_if (t_val (x_callB cd_any (b_any C) (a_cons (EXF.ex (x_lcE [("row", 10)] nd (i_obj (x_var 0) (it_Pool C) hr (hkj := by omega)) rfl (fun _ _ _ _ _ => ⟨_, (g_name 10 nd)⟩) (fun _ _ _ _ _ => ⟨_, ts_nil⟩) (fun _ _ _ _ _ => ⟨_, (x_call (k_fits C) hr (a_cons (x_var 10) (a_cons (EXF.ex (x_lcE [("index", 9)] nd (i_seq (x_var 8)) rfl (fun _ _ _ _ _ => ⟨_, (g_name 9 nd)⟩) (fun _ _ _ _ _ => ⟨_, ts_nil⟩) (fun _ _ _ _ _ => ⟨_, (x_ix (id_any hr) (x_var 6) (x_var 9))⟩))) a_nil)) (len_cons (len_cons len_nil)) (hkj := by omega))⟩))) a_nil))) (ss_one (s_ret x_bl)) ss_nil) (ss_one (s_ret (x_callB cd_all (b_all C) (a_cons (EXF.ex (x_lcE [("index", 9), ("one", 11)] nd (i_zip (a_cons (x_var 8) (a_cons (x_var 7) a_nil)) (b_zip C)) rfl (fun _ _ _ _ _ => ⟨_, (g_tup (gs_cons (g_name 9 nd) (gs_cons (g_name 11 nd) gs_nil)))⟩) (fun _ _ _ _ _ => ⟨_, ts_nil⟩) (fun _ _ _ _ _ => ⟨_, (x_call ih hr (a_cons (x_var 0) (a_cons (x_var 1) (a_cons (x_tup (a_star (x_var 2) (a_cons (x_var 9) a_nil))) (a_cons (x_var 11) a_nil)))) (len_cons (len_cons (len_cons (len_cons len_nil)))) (hkj := Nat.le_refl _))⟩))) a_nil))))))))))⟩)) (hb := (fun _ _ _ _ _ _ us hl => match us, hl with | [_, _, _, _], _ => rfl))
theorem sc_Mend_shows : FnScope ["self", "pool", "answers", "weights", "least"] ["self", "pool", "answers", "weights"] (defScope s_Mend_shows) := ⟨rfl, rfl, rfl, by decide +kernel, rfl, by decide +kernel, by decide +kernel⟩
theorem k_Mend_shows (C : Ctx L K mg base) : MethK P w K mg base 21 "shows" 24 4 f_Mend_shows := by
  have nd : (["self", "pool", "answers", "weights", "least"] : List Str).Nodup := by decide +kernel
  exact C.methK 21 d_Mend_shows s_Mend_shows (i_fn 28 rfl) (i_fa 51 rfl) (i_fx 10 rfl) (hF := fun f fd F => (fn_pure (k := 23) F sc_Mend_shows fun cdv A outer s H E hr => ⟨_, (ss_cons (s_expr (x_call (k_check_doubt C) hr (a_cons (x_var 1) (a_cons (x_var 2) (a_cons (x_var 3) a_nil))) (len_cons (len_cons (len_cons len_nil))))) (ss_cons (s_if (EW.et (w_or (t_cmp (od_ninA hr) (x_attr tb_grouping (x_var 0) (at_grouping C)) (x_attr tb_rows (x_var 1) (at_rows C))) (w_or1 (t_cmp (od_ne hr) (x_call (k_wrong_in C) hr (a_cons (x_attr tb_grouping (x_var 0) (at_grouping C)) (a_cons (x_var 2) a_nil)) (len_cons (len_cons len_nil))) (x_attr tb_wrong (x_var 0) (at_wrong C)))))) (ss_one (s_ret x_bl)) ss_nil) (ss_cons (s_set 4 nd (x_call (k_weight_of C) hr (a_cons (x_var 3) (a_cons (x_attr tb_wrong (x_var 0) (at_wrong C)) a_nil)) (len_cons (len_cons len_nil)))) (ss_one (s_ret (x_call (k_refutes C 20) hr (a_cons (x_var 1) (a_cons (x_tup (a_cons (x_var 2) (a_cons (x_var 3) (a_cons (x_var 4) a_nil)))) (a_cons (x_tup a_nil) (a_cons (x_attr tb_tree (x_var 0) (at_tree C)) a_nil)))) (len_cons (len_cons (len_cons (len_cons len_nil))))))))))⟩)) (hb := (fun _ _ _ _ _ _ us hl => match us, hl with | [_, _, _, _], _ => rfl))
theorem m_shows (C : Ctx L K mg base) : MethT P w K mg base "shows" 24 4 mt_shows := (MethT.cons (k_Mend_shows C) (by decide) MethT.nil)
theorem sc_law_view : FnScope ["_law_rows_here", "_law_answers", "_law_row", "_law_answer"] ["_law_rows_here", "_law_answers"] (defScope s_law_view) := ⟨rfl, rfl, rfl, by decide +kernel, rfl, by decide +kernel, by decide +kernel⟩
theorem k_law_view (C : Ctx L K mg base) : Kn P w K mg base "_law_view" 2 2 f_law_view := by
  have nd : (["_law_rows_here", "_law_answers", "_law_row", "_law_answer"] : List Str).Nodup := by decide +kernel
  exact C.kn d_law_view s_law_view (i_fn 29 rfl) (i_fa 53 rfl) (hF := fun f fd F hf => (fn_pure (k := 1) F sc_law_view fun cdv A outer s H E hr => ⟨_, (ss_one (s_ret (x_callTy cd_tuple (b_tuple C) (a_cons (EXF.ex (x_lcE [("_law_row", 2)] nd (i_seq (x_var 0)) rfl (fun _ _ _ _ _ => ⟨_, (g_name 2 nd)⟩) (fun _ _ _ _ _ => ⟨_, (ts_one (t_val (x_callB cd_all (b_all C) (a_cons (EXF.ex (x_lcE [("_law_answer", 3)] nd (i_seq (x_var 1)) rfl (fun _ _ _ _ _ => ⟨_, (g_name 3 nd)⟩) (fun _ _ _ _ _ => ⟨_, ts_nil⟩) (fun _ _ _ _ _ => ⟨_, (x_call (k_law_says C) hr (a_cons (x_var 2) (a_cons (x_var 3) a_nil)) (len_cons (len_cons len_nil)))⟩))) a_nil))))⟩) (fun _ _ _ _ _ => ⟨_, (x_var 2)⟩))) a_nil))))⟩)) (hb := (fun _ _ _ _ _ _ us hl => match us, hl with | [_, _], _ => rfl))
theorem sc_law_is_tree : FnScope ["_law_rows_here", "_law_task", "_law_held", "_law_tree_here", "_law_least", "_law_weights", "_law_answers", "_law_trees", "_law_core", "_law_at", "_law_one"] ["_law_rows_here", "_law_task", "_law_held", "_law_tree_here"] (defScope s_law_is_tree) := ⟨rfl, rfl, rfl, by decide +kernel, rfl, by decide +kernel, by decide +kernel⟩
theorem k_law_is_tree (C : Ctx L K mg base) : ∀ n, Kn P w K mg base "_law_is_tree" (3 + n) 4 (f_law_is_tree n) := by
  have nd : (["_law_rows_here", "_law_task", "_law_held", "_law_tree_here", "_law_least", "_law_weights", "_law_answers", "_law_trees", "_law_core", "_law_at", "_law_one"] : List Str).Nodup := by decide +kernel
  intro n
  induction n with
  | zero => exact C.kn d_law_is_tree s_law_is_tree (i_fn 30 rfl) (i_fa 54 rfl) (hF := fun f fd F hf => (fn_pure (k := 2) F sc_law_is_tree fun cdv A outer s H E hr => ⟨_, ss_never⟩)) (hb := (fun _ _ _ _ _ _ us hl => match us, hl with | [_, _, _, _], _ => rfl))
  | succ n ih => exact C.kn d_law_is_tree s_law_is_tree (i_fn 30 rfl) (i_fa 54 rfl) (hF := fun f fd F hf => (fn_pure (k := 3 + n) F sc_law_is_tree fun cdv A outer s H E hr => ⟨_, (ss_cons (s_asg (x_var 1) (g_tup (gs_cons (g_name 6 nd) (gs_cons (g_name 5 nd) (gs_cons (g_name 4 nd) gs_nil))))) (ss_cons (s_if (t_isN (x_var 3)) (ss_one (s_ret (x_cmp od_ge (x_call (k_law_weight C) hr (a_cons (x_var 5) (a_cons (x_var 2) a_nil)) (len_cons (len_cons len_nil)) (hkj := by omega)) (x_var 4)))) ss_nil) (ss_cons (s_asg (x_var 3) (g_tup (gs_cons (g_name 8 nd) (gs_cons (g_name 7 nd) gs_nil)))) (ss_cons (s_if (t_cmp (od_ne hr) (x_callB cd_lenI (b_len C) (a_cons (x_callTy cd_dictI (b_dict C) (a_cons (EXF.ex (x_lcE [("_law_at", 9)] nd (i_seq (x_var 8)) rfl (fun _ _ _ _ _ => ⟨_, (g_name 9 nd)⟩) (fun _ _ _ _ _ => ⟨_, ts_nil⟩) (fun _ _ _ _ _ => ⟨_, (x_tup (a_cons (x_var 9) (a_cons x_bl a_nil)))⟩))) a_nil)) a_nil)) (x_callB cd_len (b_len C) (a_cons (x_var 8) a_nil))) (ss_one (s_ret x_bl)) ss_nil) (ss_cons (s_if (EW.et (w_or (t_cmp (od_ne hr) (x_callB cd_len (b_len C) (a_cons (x_var 8) a_nil)) (x_callB cd_len (b_len C) (a_cons (x_var 7) a_nil))) (w_or1 (t_not (t_val (x_callB cd_all (b_all C) (a_cons (EXF.ex (x_lcE [("_law_at", 9)] nd (i_seq (x_var 8)) rfl (fun _ _ _ _ _ => ⟨_, (g_name 9 nd)⟩) (fun _ _ _ _ _ => ⟨_, ts_nil⟩) (fun _ _ _ _ _ => ⟨_, (x_and (x_chain od_le od_lt x_int (x_var 9) (x_callB cd_len (b_len C) (a_cons (x_var 6) a_nil))) (x_one (x_cmp (od_ninA hr) (x_var 9) (x_var 2))))⟩))) a_nil))))))) (ss_one (s_ret x_bl)) ss_nil) (ss_cons (s_if (t_cmp (od_ne hr) (x_call (k_law_view C) hr (a_cons (x_var 0) (a_cons (EXF.ex (x_lcE [("_law_at", 9)] nd (i_seq (x_var 8)) rfl (fun _ _ _ _ _ => ⟨_, (g_name 9 nd)⟩) (fun _ _ _ _ _ => ⟨_, ts_nil⟩) (fun _ _ _ _ _ => ⟨_, (x_ix (id_any hr) (x_var 6) (x_var 9))⟩))) a_nil)) (len_cons (len_cons len_nil)) (hkj := by omega)) (x_tup a_nil)) (ss_one (s_ret x_bl)) ss_nil) (ss_one (s_ret (x_callB cd_all (b_all C) (a_cons (EXF.ex (x_lcE [("_law_at", 9), ("_law_one", 10)] nd (i_zip (a_cons (x_var 8) (a_cons (x_var 7) a_nil)) (b_zip C)) rfl (fun _ _ _ _ _ => ⟨_, (g_tup (gs_cons (g_name 9 nd) (gs_cons (g_name 10 nd) gs_nil)))⟩) (fun _ _ _ _ _ => ⟨_, ts_nil⟩) (fun _ _ _ _ _ => ⟨_, (x_call ih hr (a_cons (x_var 0) (a_cons (x_var 1) (a_cons (x_op od_add (x_var 2) (x_tup (a_cons (x_var 9) a_nil))) (a_cons (x_var 10) a_nil)))) (len_cons (len_cons (len_cons (len_cons len_nil)))) (hkj := Nat.le_refl _))⟩))) a_nil))))))))))⟩)) (hb := (fun _ _ _ _ _ _ us hl => match us, hl with | [_, _, _, _], _ => rfl))
theorem sc_law_is_mend : FnScope ["_law_rows_here", "_law_answers", "_law_weights", "_law_some"] ["_law_rows_here", "_law_answers", "_law_weights", "_law_some"] (defScope s_law_is_mend) := ⟨rfl, rfl, rfl, by decide +kernel, rfl, by decide +kernel, by decide +kernel⟩
theorem k_law_is_mend (C : Ctx L K mg base) : Kn P w K mg base "_law_is_mend" 24 4 f_law_is_mend := by
  have nd : (["_law_rows_here", "_law_answers", "_law_weights", "_law_some"] : List Str).Nodup := by decide +kernel
  exact C.kn d_law_is_mend s_law_is_mend (i_fn 31 rfl) (i_fa 55 rfl) (hF := fun f fd F hf => (fn_pure (k := 23) F sc_law_is_mend fun cdv A outer s H E hr => ⟨_, (ss_cons (s_if (EW.et (w_or (t_cmp (od_ninA hr) (x_attr tb_grouping (x_var 3) (at_grouping C)) (x_var 0)) (w_or1 (t_cmp (od_ne hr) (x_attr tb_wrong (x_var 3) (at_wrong C)) (x_call (k_law_wrong C) hr (a_cons (x_attr tb_grouping (x_var 3) (at_grouping C)) (a_cons (x_var 1) a_nil)) (len_cons (len_cons len_nil))))))) (ss_one (s_ret x_bl)) ss_nil) (ss_one (s_ret (x_call (k_law_is_tree C 20) hr (a_cons (x_var 0) (a_cons (x_tup (a_cons (x_var 1) (a_cons (x_var 2) (a_cons (x_call (k_law_weight C) hr (a_cons (x_var 2) (a_cons (x_attr tb_wrong (x_var 3) (at_wrong C)) a_nil)) (len_cons (len_cons len_nil))) a_nil)))) (a_cons (x_tup a_nil) (a_cons (x_attr tb_tree (x_var 3) (at_tree C)) a_nil)))) (len_cons (len_cons (len_cons (len_cons len_nil))))))))⟩)) (hb := (fun _ _ _ _ _ _ us hl => match us, hl with | [_, _, _, _], _ => rfl))
theorem sc_law_bent : FnScope ["_law_tree_here", "_law_many", "_law_trees", "_law_core", "_law_found", "_law_one"] ["_law_tree_here", "_law_many"] (defScope s_law_bent) := ⟨rfl, rfl, rfl, by decide +kernel, rfl, by decide +kernel, by decide +kernel⟩
theorem k_law_bent (C : Ctx L K mg base) : ∀ n, Kn P w K mg base "_law_bent" (1 + n) 2 (f_law_bent n) := by
  have nd : (["_law_tree_here", "_law_many", "_law_trees", "_law_core", "_law_found", "_law_one"] : List Str).Nodup := by decide +kernel
  intro n
  induction n with
  | zero => exact C.kn d_law_bent s_law_bent (i_fn 32 rfl) (i_fa 56 rfl) (hF := fun f fd F hf => (fn_pure (k := 0) F sc_law_bent fun cdv A outer s H E hr => ⟨_, ss_never⟩)) (hb := (fun _ _ _ _ _ _ us hl => match us, hl with | [_, _], _ => rfl))
  | succ n ih => exact C.kn d_law_bent s_law_bent (i_fn 32 rfl) (i_fa 56 rfl) (hF := fun f fd F hf => (fn_pure (k := 1 + n) F sc_law_bent fun cdv A outer s H E hr => ⟨_, (ss_cons (s_if (t_isN (x_var 0)) (ss_one (s_ret (EXF.ex (x_lst a_nil)))) ss_nil) (ss_cons (s_asg (x_var 0) (g_tup (gs_cons (g_name 3 nd) (gs_cons (g_name 2 nd) gs_nil)))) (ss_cons (s_own 4 nd (x_lst (a_cons (x_tup (a_cons (x_slice (x_var 3) o_none (o_some (x_negM x_int))) (a_cons (x_slice (x_var 2) o_none (o_some (x_negM x_int))) a_nil))) (a_cons (x_tup (a_cons (x_op od_add (x_var 3) (x_tup (a_cons x_int a_nil))) (a_cons (x_op od_add (x_var 2) (x_tup (a_cons x_non a_nil))) a_nil))) (a_cons (x_tup (a_cons (x_rev (x_var 3)) (a_cons (x_var 2) a_nil))) (a_cons (x_tup (a_cons (x_var 3) (a_cons (x_slice (x_var 2) o_none (o_some (x_negM x_int))) a_nil))) a_nil)))))) (ss_cons (s_catO 4 nd (EXF.ex (x_lst (a_cons (x_tup (a_cons (x_var 3) (a_cons (x_op od_mul (x_tup (a_cons x_non a_nil)) (x_callB cd_len (b_len C) (a_cons (x_var 3) a_nil))) a_nil))) a_nil)))) (ss_cons (s_catO 4 nd (EXF.ex (x_lst (a_cons (x_tup (a_cons (x_op od_add (x_slice (x_var 3) o_none (o_some x_int)) (x_var 3)) (a_cons (x_op od_add (x_slice (x_var 2) o_none (o_some x_int)) (x_var 2)) a_nil))) (a_cons (x_tup (a_cons (x_op od_add (x_tup (a_cons (x_op od_sub (x_ix (id_any hr) (x_var 3) x_int) (x_var 1)) a_nil)) (x_slice (x_var 3) (o_some x_int) o_none)) (a_cons (x_var 2) a_nil))) a_nil))))) (ss_cons (s_app 4 (x_tup (a_cons (x_op od_add (x_slice (x_var 3) o_none (o_some (x_negM x_int))) (x_tup (a_cons (x_op od_sub (x_ix (id_any hr) (x_var 3) (x_negM x_int)) (x_var 1)) a_nil))) (a_cons (x_var 2) a_nil)))) (ss_cons (s_for (i_seq (x_slice (x_call ih hr (a_cons (x_ix (id_any hr) (x_var 2) x_int) (a_cons (x_var 1) a_nil)) (len_cons (len_cons len_nil)) (hkj := Nat.le_refl _)) o_none (o_some x_int))) (g_name 5 nd) (ss_one (s_app 4 (x_tup (a_cons (x_var 3) (a_cons (x_op od_add (x_tup (a_cons (x_var 5) a_nil)) (x_slice (x_var 2) (o_some x_int) o_none)) a_nil)))))) (ss_one (s_ret (x_var 4))))))))))⟩)) (hb := (fun _ _ _ _ _ _ us hl => match us, hl with | [_, _], _ => rfl))
theorem sc_law_tree : FnScope ["_law_rows_here", "_law_task", "_law_held", "_law_least", "_law_weights", "_law_answers", "_law_core", "_law_at"] ["_law_rows_here", "_law_task", "_law_held"] (defScope s_law_tree) := ⟨rfl, rfl, rfl, by decide +kernel, rfl, by decide +kernel, by decide +kernel⟩
theorem k_law_tree (C : Ctx L K mg base) : ∀ n, Kn P w K mg base "_law_tree" (2 + n) 3 (f_law_tree n) := by
  have nd : (["_law_rows_here", "_law_task", "_law_held", "_law_least", "_law_weights", "_law_answers", "_law_core", "_law_at"] : List Str).Nodup := by decide +kernel
  intro n
  induction n with
  | zero => exact C.kn d_law_tree s_law_tree (i_fn 33 rfl) (i_fa 57 rfl) (hF := fun f fd F hf => (fn_pure (k := 1) F sc_law_tree fun cdv A outer s H E hr => ⟨_, ss_never⟩)) (hb := (fun _ _ _ _ _ _ us hl => match us, hl with | [_, _, _], _ => rfl))
  | succ n ih => exact C.kn d_law_tree s_law_tree (i_fn 33 rfl) (i_fa 57 rfl) (hF := fun f fd F hf => (fn_pure (k := 2 + n) F sc_law_tree fun cdv A outer s H E hr => ⟨_, (ss_cons (s_asg (x_var 1) (g_tup (gs_cons (g_name 5 nd) (gs_cons (g_name 4 nd) (gs_cons (g_name 3 nd) gs_nil))))) (ss_cons (s_if (t_cmp od_ge (x_call (k_law_weight C) hr (a_cons (x_var 4) (a_cons (x_var 2) a_nil)) (len_cons (len_cons len_nil)) (hkj := by omega)) (x_var 3)) (ss_one (s_ret x_non)) ss_nil) (ss_cons (s_set 6 nd (x_callTy cd_tuple (b_tuple C) (a_cons (EXF.ex (x_lcE [("_law_at", 7)] nd (i_range1 (a_cons (x_callB cd_len (b_len C) (a_cons (x_var 5) a_nil)) a_nil) (b_range C)) rfl (fun _ _ _ _ _ => ⟨_, (g_name 7 nd)⟩) (fun _ _ _ _ _ => ⟨_, (ts_one (t_cmp (od_ninA hr) (x_var 7) (x_var 2)))⟩) (fun _ _ _ _ _ => ⟨_, (x_var 7)⟩))) a_nil))) (ss_one (s_ret (x_tup (a_cons (x_var 6) (a_cons (x_callTy cd_tuple (b_tuple C) (a_cons (EXF.ex (x_lcE [("_law_at", 7)] nd (i_seq (x_var 6)) rfl (fun _ _ _ _ _ => ⟨_, (g_name 7 nd)⟩) (fun _ _ _ _ _ => ⟨_, ts_nil⟩) (fun _ _ _ _ _ => ⟨_, (x_call ih hr (a_cons (x_var 0) (a_cons (x_var 1) (a_cons (x_op od_add (x_var 2) (x_tup (a_cons (x_var 7) a_nil))) a_nil))) (len_cons (len_cons (len_cons len_nil))) (hkj := Nat.le_refl _))⟩))) a_nil)) a_nil))))))))⟩)) (hb := (fun _ _ _ _ _ _ us hl => match us, hl with | [_, _, _], _ => rfl))
theorem sc_Mend_iter : FnScope ["self"] ["self"] (defScope s_Mend_iter) := ⟨rfl, rfl, rfl, by decide +kernel, rfl, by decide +kernel, by decide +kernel⟩
theorem it_Mend (C : Ctx L K mg base) : ItF P w K mg base 21 2 1 :=
  C.itF 21 d_Mend_iter s_Mend_iter (i_fn 34 rfl) sc_Mend_iter (i_fa 58 rfl) (i_fx 10 rfl) (i_fx 12 rfl) (i_fa 45 rfl) rfl (hok := fun f cdv A outer s H => pe_callB call_iterB (by rfl) (b_iter C) (by decide +kernel) (pa_cons (SlX.pe_sl (pv 0) rfl) pa_nil) (by decide) (by decide) rfl rfl) (hb := (fun _ _ _ _ _ _ us hl => match us, hl with | [_], _ => rfl))
theorem sc_law_mend_right : FnScope ["_law_pool", "_law_rows_here", "_law_answers", "_law_weights", "_law_least", "_law_row", "_law_answer", "_law_some", "_law_tree_here", "_law_one"] ["_law_pool", "_law_rows_here", "_law_answers", "_law_weights"] (defScope s_law_mend_right) := ⟨rfl, rfl, rfl, by decide +kernel, rfl, by decide +kernel, by decide +kernel⟩
theorem k_law_mend_right (C : Ctx L K mg base) : Kn P w K mg base "_law_mend_right" 25 4 f_law_mend_right := by
  have nd : (["_law_pool", "_law_rows_here", "_law_answers", "_law_weights", "_law_least", "_law_row", "_law_answer", "_law_some", "_law_tree_here", "_law_one"] : List Str).Nodup := by decide +kernel
  exact C.kn d_law_mend_right s_law_mend_right (i_fn 35 rfl) (i_fa 59 rfl) (hF := fun f fd F hf => (fn_pure (k := 24) F sc_law_mend_right fun cdv A outer s H E hr => ⟨_, (ss_cons (s_set 4 nd (x_callB (cd_min hr) (b_min C) (a_cons (EXF.ex (x_lcE [("_law_row", 5)] nd (i_seq (x_var 1)) rfl (fun _ _ _ _ _ => ⟨_, (g_name 5 nd)⟩) (fun _ _ _ _ _ => ⟨_, ts_nil⟩) (fun _ _ _ _ _ => ⟨_, (x_call (k_law_weight C) hr (a_cons (x_var 3) (a_cons (x_call (k_law_wrong C) hr (a_cons (x_var 5) (a_cons (x_var 2) a_nil)) (len_cons (len_cons len_nil))) a_nil)) (len_cons (len_cons len_nil)))⟩))) a_nil))) (ss_cons (s_set 6 nd (x_call (k_mend C) hr (a_cons (x_var 0) (a_cons (x_var 2) (a_cons (x_var 3) a_nil))) (len_cons (len_cons (len_cons len_nil))))) (ss_cons (s_if (t_cmp (od_ne hr) (x_call (k_least_weight C) hr (a_cons (x_var 0) (a_cons (x_callTy cd_tuple (b_tuple C) (a_cons (x_var 2) a_nil)) (a_cons (EXF.ex (x_callTyF cd_listD (b_list C) (a_cons (x_var 3) a_nil))) a_nil))) (len_cons (len_cons (len_cons len_nil)))) (x_var 4)) (ss_one (s_ret x_bl)) ss_nil) (ss_cons (s_if (t_cmp (od_ne hr) (x_call (k_law_weight C) hr (a_cons (x_var 3) (a_cons (x_attr tb_wrong (x_var 6) (at_wrong C)) a_nil)) (len_cons (len_cons len_nil))) (x_var 4)) (ss_one (s_ret x_bl)) ss_nil) (ss_cons (s_if (EW.et (w_or (t_not (t_val (x_methT (x_var 6) (m_shows C) hr (a_cons (x_var 0) (a_cons (x_var 2) (a_cons (x_var 3) a_nil))) (len_cons (len_cons (len_cons len_nil)))))) (w_or1 (t_cmp (od_ne hr) (EXF.ex (x_callTyF (cd_listO (it_Mend C) (nl_Mend C) hr) (b_list C) (a_cons (x_var 6) a_nil))) (EXF.ex (x_callTyF cd_listD (b_list C) (a_cons (x_attr tb_wrong (x_var 6) (at_wrong C)) a_nil))))))) (ss_one (s_ret x_bl)) ss_nil) (ss_cons (s_if (t_not (t_val (x_call (k_law_is_mend C) hr (a_cons (x_var 1) (a_cons (x_var 2) (a_cons (x_var 3) (a_cons (x_var 6) a_nil)))) (len_cons (len_cons (len_cons (len_cons len_nil))))))) (ss_one (s_ret x_bl)) ss_nil) (ss_cons (s_own 7 nd (x_lst (a_cons (x_new (n_Mend C) hr (a_cons (x_attr tb_grouping (x_var 6) (at_grouping C)) (a_cons (x_attr tb_wrong (x_var 6) (at_wrong C)) (a_cons x_non a_nil))) (len_cons (len_cons (len_cons len_nil)))) (a_cons (x_new (n_Mend C) hr (a_cons (x_attr tb_grouping (x_var 6) (at_grouping C)) (a_cons (x_slice (x_attr tb_wrong (x_var 6) (at_wrong C)) (o_some x_int) o_none) (a_cons (x_attr tb_tree (x_var 6) (at_tree C)) a_nil))) (len_cons (len_cons (len_cons len_nil)))) a_nil)))) (ss_cons (s_for (i_seq (x_slice (x_var 1) o_none (o_some x_int))) (g_name 5 nd) (ss_one (s_app 7 (x_new (n_Mend C) hr (a_cons (x_var 5) (a_cons (x_call (k_law_wrong C) hr (a_cons (x_var 5) (a_cons (x_var 2) a_nil)) (len_cons (len_cons len_nil))) (a_cons (x_attr tb_tree (x_var 6) (at_tree C)) a_nil))) (len_cons (len_cons (len_cons len_nil))))))) (ss_cons (s_app 7 (x_new (n_Mend C) hr (a_cons (x_op od_mul (x_tup (a_cons x_int a_nil)) (x_callB cd_len (b_len C) (a_cons (x_ix (id_any hr) (x_var 1) x_int) a_nil))) (a_cons (x_tup a_nil) (a_cons (x_attr tb_tree (x_var 6) (at_tree C)) a_nil))) (len_cons (len_cons (len_cons len_nil))))) (ss_cons (s_for (i_seq (x_call (k_law_bent C 12) hr (a_cons (x_attr tb_tree (x_var 6) (at_tree C)) (a_cons (x_callB cd_len (b_len C) (a_cons (x_var 2) a_nil)) a_nil)) (len_cons (len_cons len_nil)))) (g_name 8 nd) (ss_one (s_app 7 (x_new (n_Mend C) hr (a_cons (x_attr tb_grouping (x_var 6) (at_grouping C)) (a_cons (x_attr tb_wrong (x_var 6) (at_wrong C)) (a_cons (x_var 8) a_nil))) (len_cons (len_cons (len_cons len_nil))))))) (ss_cons (s_if (t_cmp od_le (x_var 4) x_int) (ss_one (s_app 7 (x_new (n_Mend C) hr (a_cons (x_attr tb_grouping (x_var 6) (at_grouping C)) (a_cons (x_attr tb_wrong (x_var 6) (at_wrong C)) (a_cons (x_call (k_law_tree C 12) hr (a_cons (x_var 1) (a_cons (x_tup (a_cons (x_var 2) (a_cons (x_var 3) (a_cons (x_var 4) a_nil)))) (a_cons (x_tup a_nil) a_nil))) (len_cons (len_cons (len_cons len_nil)))) a_nil))) (len_cons (len_cons (len_cons len_nil)))))) ss_nil) (ss_one (s_ret (x_callB cd_all (b_all C) (a_cons (EXF.ex (x_lcE [("_law_one", 9)] nd (i_seq (x_var 7)) rfl (fun _ _ _ _ _ => ⟨_, (g_name 9 nd)⟩) (fun _ _ _ _ _ => ⟨_, ts_nil⟩) (fun _ _ _ _ _ => ⟨_, (x_cmp (od_eq hr) (x_methT (x_var 9) (m_shows C) hr (a_cons (x_var 0) (a_cons (x_var 2) (a_cons (x_var 3) a_nil))) (len_cons (len_cons (len_cons len_nil)))) (x_call (k_law_is_mend C) hr (a_cons (x_var 1) (a_cons (x_var 2) (a_cons (x_var 3) (a_cons (x_var 9) a_nil)))) (len_cons (len_cons (len_cons (len_cons len_nil))))))⟩))) a_nil)))))))))))))))⟩)) (hb := (fun _ _ _ _ _ _ us hl => match us, hl with | [_, _, _, _], _ => rfl))
theorem sc_law_all_right : FnScope ["_law_script", "_law_number_here", "_law_seed", "_law_things", "_law_most", "_law_least", "_law_answers", "_law_high", "_law_weights", "_law_at"] ["_law_script"] (defScope s_law_all_right) := ⟨rfl, rfl, rfl, by decide +kernel, rfl, by decide +kernel, by decide +kernel⟩
theorem k_law_all_right (C : Ctx L K mg base) : Kn P w K mg base "_law_all_right" 26 1 f_law_all_right := by
  have nd : (["_law_script", "_law_number_here", "_law_seed", "_law_things", "_law_most", "_law_least", "_law_answers", "_law_high", "_law_weights", "_law_at"] : List Str).Nodup := by decide +kernel
  exact C.kn d_law_all_right s_law_all_right (i_fn 36 rfl) (i_fa 60 rfl) (hF := fun f fd F hf => (fn_pure (k := 25) F sc_law_all_right fun cdv A outer s H E hr => ⟨_, (ss_cons (s_for (i_range1 (a_cons x_int a_nil) (b_range C)) (g_name 1 nd) (ss_cons (s_set 2 nd (x_call (k_law_number C) hr (a_cons (x_var 0) (a_cons (x_op od_add x_int (x_var 1)) a_nil)) (len_cons (len_cons len_nil)))) (ss_cons (s_set 3 nd (x_op od_add x_int (x_op od_mod (x_callTy cd_int (b_int C) (a_cons (x_var 2) a_nil)) x_int))) (ss_cons (s_asg (x_call (k_law_bounds C) hr (a_cons (x_var 0) (a_cons (x_op od_add x_int (x_op od_mul x_int (x_var 1))) (a_cons (x_var 3) a_nil))) (len_cons (len_cons (len_cons len_nil)))) (g_tup (gs_cons (g_name 5 nd) (gs_cons (g_name 4 nd) gs_nil)))) (ss_cons (s_set 6 nd (x_call (k_law_mixed_answers C) hr (a_cons (x_var 0) (a_cons (x_op od_add x_int (x_op od_mul x_int (x_var 1))) (a_cons (x_var 3) (a_cons (x_op od_mod (x_callTy cd_int (b_int C) (a_cons (x_op od_fdiv (x_var 2) x_int) a_nil)) x_int) a_nil)))) (len_cons (len_cons (len_cons (len_cons len_nil)))))) (ss_cons (s_set 7 nd (x_ix (id_any hr) (x_tup (a_cons x_int (a_cons x_int a_nil))) (x_op od_mod (x_callTy cd_int (b_int C) (a_cons (x_op od_fdiv (x_var 2) x_int) a_nil)) x_int))) (ss_cons (s_set 8 nd (x_callTy cd_tuple (b_tuple C) (a_cons (EXF.ex (x_lcE [("_law_at", 9)] nd (i_range1 (a_cons (x_callB cd_len (b_len C) (a_cons (x_var 6) a_nil)) a_nil) (b_range C)) rfl (fun _ _ _ _ _ => ⟨_, (g_name 9 nd)⟩) (fun _ _ _ _ _ => ⟨_, ts_nil⟩) (fun _ _ _ _ _ => ⟨_, (x_op od_add x_int (x_op od_mod (x_callTy cd_int (b_int C) (a_cons (x_call (k_law_number C) hr (a_cons (x_var 0) (a_cons (x_op od_add (x_op od_add x_int (x_op od_mul x_int (x_var 1))) (x_var 9)) a_nil)) (len_cons (len_cons len_nil))) a_nil)) (x_var 7)))⟩))) a_nil))) (ss_one (s_if (t_not (t_val (x_call (k_law_mend_right C) hr (a_cons (x_new (n_Pool C) hr (a_cons (x_var 3) (a_cons (x_var 5) (a_cons (x_var 4) a_nil))) (len_cons (len_cons (len_cons len_nil)))) (a_cons (x_call (k_law_rows C) hr (a_cons (x_var 3) (a_cons (x_var 5) (a_cons (x_var 4) a_nil))) (len_cons (len_cons (len_cons len_nil)))) (a_cons (x_var 6) (a_cons (x_var 8) a_nil)))) (len_cons (len_cons (len_cons (len_cons len_nil))))))) (ss_one (s_ret x_bl)) ss_nil))))))))) (ss_one (s_ret x_bl)))⟩)) (hb := (fun _ _ _ _ _ _ us hl => match us, hl with | [_], _ => rfl))
theorem sc_law : FnScope ["_law_script"] ["_law_script"] (defScope s_law) := ⟨rfl, rfl, rfl, by decide +kernel, rfl, by decide +kernel, by decide +kernel⟩
theorem ok_law (C : Ctx L K mg base) {f : Addr} {fd : FuncData} (F : Fun K d_law.name d_law.qual s_law f fd) : FnOk P w K mg base CX0 27 f fd ["_law_script"] (spD ⟨P, w, K, Tb.T, Tb.Cl⟩ 1 f_law) := by
  have nd : (["_law_script"] : List Str).Nodup := by decide +kernel
  exact fn_pure (k := 26) F sc_law fun cdv A outer s H E hr => ⟨_, (ss_one (s_tryE (fun _ => ⟨_, (ss_one (s_ret (x_call (k_law_all_right C) hr (a_cons (x_var 0) a_nil) (len_cons len_nil))))⟩)))⟩
end EX
set_option Elab.async false
set_option linter.all false
set_option autoImplicit false
set_option maxRecDepth 100000
set_option maxHeartbeats 4000000
/-! M1: data of native types, and what the combinators do on them. -/
namespace EX
open PySem L2
/-- keeps simp from using a row by definition -/
theorem nr {α : Sort _} {a b : α} (h : a = b) : a = b := h
@[simp high] theorem obind_some {α β : Type} (a : α) (f : α → Option β) : (some a).bind f = f a := nr rfl
@[simp high] theorem obind_none {α β : Type} (f : α → Option β) : (none : Option α).bind f = none := nr rfl
@[simp high] theorem omap_some {α β : Type} (a : α) (f : α → β) : (some a).map f = some (f a) := nr rfl
@[simp high] theorem omap_none {α β : Type} (f : α → β) : (none : Option α).map f = none := nr rfl
@[simp high] theorem if_t {α : Type} (a b : α) : (if true = true then a else b) = a := nr rfl
@[simp high] theorem if_f {α : Type} (a b : α) : (if false = true then a else b) = b := nr rfl
@[simp] theorem obind_assoc {α β γ : Type} (x : Option α) (f : α → Option β) (g : β → Option γ) : (x.bind f).bind g = x.bind fun a => (f a).bind g := by cases x <;> rfl
@[simp] theorem omap_bind {α β γ : Type} (x : Option α) (f : α → β) (g : β → Option γ) : (x.map f).bind g = x.bind fun a => g (f a) := by cases x <;> rfl
@[simp] theorem obind_map {α β γ : Type} (x : Option α) (f : α → Option β) (g : β → γ) : (x.bind f).map g = x.bind fun a => (f a).map g := by cases x <;> rfl
/-! ### encodings -/
abbrev G : Type := List Int
abbrev Pr : Type := Int × Int
abbrev Ans : Type := Int × Int × Bool
def eG (g : G) : D := .tup (g.map D.int)
def eP (p : Pr) : D := .tup [.int p.1, .int p.2]
def eA (a : Ans) : D := .tup [.int a.1, .int a.2.1, .bl a.2.2]
def eT {α : Type} (e : α → D) (xs : List α) : D := .tup (xs.map e)
def eL {α : Type} (e : α → D) (xs : List α) : D := .lst (xs.map e)
/-! ### places -/
@[simp] theorem mVar_eq (i : Nat) (env : Env) : mVar i env = (env[i]?).join := nr rfl
@[simp] theorem mOp_eq (g : D → D → Option D) (ma mb : Env → Option D) (env : Env) : mOp g ma mb env = (ma env).bind fun x => (mb env).bind fun y => g x y := nr rfl
@[simp] theorem mCons_eq (ma : Env → Option D) (ms : Env → Option (List D)) (env : Env) : mCons ma ms env = (ma env).bind fun x => (ms env).bind fun xs => some (x :: xs) := nr rfl
@[simp] theorem mCall_eq (ms : Env → Option (List D)) (g : List D → Option D) (env : Env) : mCall ms g env = (ms env).bind g := nr rfl
@[simp] theorem fCall_eq (ms : Env → Option (List D)) (g : List D → Option (List D)) (env : Env) : fCall ms g env = (ms env).bind g := nr rfl
@[simp] theorem mTup_eq (ms : Env → Option (List D)) (env : Env) : mTup ms env = (ms env).bind fun ds => if small ds = true then some (.tup ds) else none := nr rfl
@[simp] theorem mLst_eq (ms : Env → Option (List D)) (env : Env) : mLst ms env = (ms env).bind fun ds => if small ds = true then some ds else none := nr rfl
@[simp] theorem mStar_eq (ma : Env → Option D) (ms : Env → Option (List D)) (env : Env) : mStar ma ms env = (ma env).bind fun x => (seqOf x).bind fun xs => (ms env).bind fun ys => some (xs ++ ys) := nr rfl
@[simp] theorem nVal_eq (ma : Env → Option D) (env : Env) : nVal ma env = (ma env).bind dBool := nr rfl
@[simp] theorem nAnd_eq (na nb : Env → Option Bool) (env : Env) : nAnd na nb env = (na env).bind fun x => if x = true then nb env else some false := nr rfl
@[simp] theorem nOr_eq (na nb : Env → Option Bool) (env : Env) : nOr na nb env = (na env).bind fun x => if x = true then some true else nb env := nr rfl
@[simp] theorem nNot_eq (na : Env → Option Bool) (env : Env) : nNot na env = (na env).map (!·) := nr rfl
@[simp] theorem mAnd_eq (ma mb : Env → Option D) (env : Env) : mAnd ma mb env = (ma env).bind fun x => (dBool x).bind fun c => if c = true then mb env else some (.bl false) := nr rfl
@[simp] theorem mOr_eq (ma mb : Env → Option D) (env : Env) : mOr ma mb env = (ma env).bind fun x => (dBool x).bind fun c => if c = true then some (.bl true) else mb env := nr rfl
@[simp] theorem mNot_eq (ma : Env → Option D) (env : Env) : mNot ma env = (ma env).bind fun x => (dBool x).map fun c => .bl (!c) := nr rfl
@[simp] theorem mIf_eq (na : Env → Option Bool) (ma mb : Env → Option D) (env : Env) : mIf na ma mb env = (na env).bind fun c => if c = true then ma env else mb env := nr rfl
@[simp] theorem mSlice_eq (m : Env → Option D) (ml mh : Env → Option (Option Int)) (env : Env) : mSlice m ml mh env = (m env).bind fun x => (ml env).bind fun lo => (mh env).bind fun hi => sliceD x lo hi := nr rfl
def oIk : D → Option (Option Int)
  | .int i => some (some i)
  | _ => none
@[simp] theorem oIk_eq (i : Int) : oIk (.int i) = some (some i) := nr rfl
@[simp] theorem oI_eq (m : Env → Option D) (env : Env) : oI m env = (m env).bind oIk := nr rfl
@[simp] theorem mAttr_eq (tbl : List (Nat × Nat)) (me : Env → Option D) (env : Env) : mAttr tbl me env = (me env).bind (atD tbl) := nr rfl
def methK (tbl : MTab) (ms : Option (List D)) : D → Option D
  | .obj C fs => (tbl.lookup C).bind fun mm => ms.bind fun ds => mm (.obj C fs :: ds)
  | _ => none
@[simp] theorem methK_eq (tbl : MTab) (ms : Option (List D)) (C : Nat) (fs : List (Option D)) : methK tbl ms (.obj C fs) = (tbl.lookup C).bind fun mm => ms.bind fun ds => mm (.obj C fs :: ds) := nr rfl
@[simp] theorem mMethT_eq (tbl : MTab) (mo : Env → Option D) (ms : Env → Option (List D)) (env : Env) : mMethT tbl mo ms env = (mo env).bind (methK tbl (ms env)) := nr rfl
@[simp] theorem mChain_eq (g h : D → D → Option D) (ma mb mc : Env → Option D) (env : Env) : mChain g h ma mb mc env = (ma env).bind fun x => (mb env).bind fun y => (g x y).bind fun z => (dBool z).bind fun k => if k = true then (mc env).bind fun w => h y w else some (.bl false) := by
  unfold mChain
  rfl
@[simp] theorem mL_eq (m : Env → Option (List D)) (env : Env) : mL m env = (m env).map D.lst := nr rfl
@[simp] theorem mCat_eq (ma mb : Env → Option D) (env : Env) : mCat ma mb env = (ma env).bind fun x => (mb env).bind fun y => fAdd x y := nr rfl
@[simp] theorem mIsN_eq (me : Env → Option D) (env : Env) : mIsN me env = (me env).map fun d => .bl (isNon d) := nr rfl
@[simp] theorem mNotN_eq (me : Env → Option D) (env : Env) : mNotN me env = (me env).map fun d => .bl (!isNon d) := nr rfl
@[simp] theorem mTupRg_eq (me : Env → Option D) (env : Env) : mTupRg me env = (me env).bind tupRg := nr rfl
@[simp] theorem mRev_eq (me : Env → Option D) (env : Env) : mRev me env = (me env).bind revD := nr rfl
def negK : D → Option D
  | .int i => some (.int (-i))
  | _ => none
@[simp] theorem negK_eq (i : Int) : negK (.int i) = some (.int (-i)) := nr rfl
@[simp] theorem mNeg_eq (me : Env → Option D) (env : Env) : mNeg me env = (me env).bind negK := nr rfl
@[simp] theorem mIsi_eq (g : List (Nat × Bool)) (me : Env → Option D) (env : Env) : mIsi g me env = (me env).bind (dIsi g) := nr rfl
def isiK (g' : List (Nat × Bool)) (x : D) : D → Option D
  | .bl true => some (.bl true)
  | .bl false => dIsi g' x
  | _ => none
@[simp] theorem isiK_t (g' : List (Nat × Bool)) (x : D) : isiK g' x (.bl true) = some (.bl true) := nr rfl
@[simp] theorem isiK_f (g' : List (Nat × Bool)) (x : D) : isiK g' x (.bl false) = dIsi g' x := nr rfl
@[simp] theorem mIsi2_eq (g g' : List (Nat × Bool)) (me : Env → Option D) (env : Env) : mIsi2 g g' me env = (me env).bind fun x => (dIsi g x).bind (isiK g' x) := by
  unfold mIsi2
  congr 1
@[simp] theorem iS_eq (me : Env → Option D) (env : Env) : iS me env = (me env).bind sqD := nr rfl
def enumK : List D → Option (List D)
  | [d] => (sqD d).map (pairsD 0)
  | _ => none
@[simp] theorem enumK_eq (d : D) : enumK [d] = (sqD d).map (pairsD 0) := nr rfl
@[simp] theorem iE_eq (ms : Env → Option (List D)) (env : Env) : iE ms env = (ms env).bind enumK := nr rfl
def zipK : List D → Option (List D)
  | [d, d'] => (sqD d).bind fun x => (sqD d').map fun y => zipD x y
  | _ => none
@[simp] theorem zipK_eq (d d' : D) : zipK [d, d'] = (sqD d).bind fun x => (sqD d').map fun y => zipD x y := nr rfl
@[simp] theorem iZ_eq (ms : Env → Option (List D)) (env : Env) : iZ ms env = (ms env).bind zipK := nr rfl
def rng1 : List D → Option (List D)
  | [.int j] => if inR j = true then some (rangeD 0 j.toNat) else none
  | _ => none
theorem rng1_eq {j : Int} (h : inR j = true) : rng1 [.int j] = some (rangeD 0 j.toNat) := if_pos h
@[simp] theorem iR1_eq (ms : Env → Option (List D)) (env : Env) : iR1 ms env = (ms env).bind rng1 := nr rfl
def rng2 : List D → Option (List D)
  | [.int i, .int j] => if (inR i && inR j) = true then some (rangeD i (j - i).toNat) else none
  | _ => none
theorem rng2_eq {i j : Int} (hi : inR i = true) (h : inR j = true) : rng2 [.int i, .int j] = some (rangeD i (j - i).toNat) := if_pos (by rw [hi, h]; rfl)
theorem inR_of' {i : Int} (h : -1000000 ≤ i) (h' : i ≤ 1000000) : inR i = true := by unfold inR; simp; omega
@[simp] theorem iR2_eq (ms : Env → Option (List D)) (env : Env) : iR2 ms env = (ms env).bind rng2 := nr rfl
@[simp] theorem mLc_eq (mi : Env → Option (List D)) (mg : D → Option (List D)) (ix : List Nat) (nt : Env → Option Bool) (me : Env → Option D) (vs : List Nat) (env : Env) :
    mLc mi mg ix nt me vs env = (mi env).bind fun ds => (lcD (turnD mg ix nt me (wipeE env vs)) ds).bind fun out => if small ds = true then some out else none := nr rfl
@[simp] theorem mLc2_eq (mi : Env → Option (List D)) (mg : D → Option (List D)) (ix : List Nat) (nt : Env → Option Bool) (mi1 : Env → Option (List D)) (mg1 : D → Option (List D)) (jx : List Nat) (nt1 : Env → Option Bool) (me : Env → Option D) (vs vs1 : List Nat) (env : Env) :
    mLc2 mi mg ix nt mi1 mg1 jx nt1 me vs vs1 env = (mi env).bind fun ds => (lcM (turn2D mg ix nt mi1 mg1 jx nt1 me vs1 (wipeE env vs)) ds).bind fun out => if small out = true then some out else none := nr rfl
@[simp] theorem turnD_eq (mg : D → Option (List D)) (ix : List Nat) (nt : Env → Option Bool) (me : Env → Option D) (env : Env) (d : D) :
    turnD mg ix nt me env d = (mg d).bind fun xs => (nt (setL env ix (xs.map some))).bind fun b => if b = true then (me (setL env ix (xs.map some))).map some else some none := nr rfl
@[simp] theorem turn2D_eq (mg : D → Option (List D)) (ix : List Nat) (nt : Env → Option Bool) (mi1 : Env → Option (List D)) (mg1 : D → Option (List D)) (jx : List Nat) (nt1 : Env → Option Bool) (me : Env → Option D) (vs1 : List Nat) (env : Env) (d : D) :
    turn2D mg ix nt mi1 mg1 jx nt1 me vs1 env d = (mg d).bind fun xs => (nt (setL env ix (xs.map some))).bind fun b => if b = true then (mi1 (setL env ix (xs.map some))).bind fun ds1 => lcD (turnD mg1 jx nt1 me (wipeE (setL env ix (xs.map some)) vs1)) ds1 else some [] := nr rfl
theorem rangeD_eq (lo : Int) (n : Nat) : rangeD lo n = (List.range n).map fun (i : Nat) => D.int (lo + (i : Int)) := rfl
/-! ### statements -/
def thenK (m2 : SM) : Res → Option Res
  | .nx se' => m2 se'
  | r => some r
@[simp] theorem thenK_nx (m2 : SM) (se : SEnv) : thenK m2 (.nx se) = m2 se := nr rfl
@[simp] theorem thenK_rt (m2 : SM) (d : D) : thenK m2 (.rt d) = some (.rt d) := nr rfl
@[simp] theorem thenS_eq (m1 m2 : SM) (se : SEnv) : thenS m1 m2 se = (m1 se).bind (thenK m2) := by
  unfold thenS
  congr 1
@[simp] theorem sNil_eq (se : SEnv) : sNil se = some (.nx se) := nr rfl
@[simp] theorem sNever_eq (se : SEnv) : sNever se = none := nr rfl
@[simp] theorem sRet_eq (m : Env → Option D) (se : SEnv) : sRet m se = (m (rd true se)).map .rt := nr rfl
@[simp] theorem sDrop_eq (m : Env → Option D) (se : SEnv) : sDrop m se = (m (rd true se)).map fun _ => .nx se := nr rfl
@[simp] theorem sIf_eq (n : Env → Option Bool) (m1 m2 : SM) (se : SEnv) : sIf n m1 m2 se = (n (rd true se)).bind fun b => if b = true then m1 se else m2 se := nr rfl
@[simp] theorem sSet_eq (i : Nat) (m : Env → Option D) (se : SEnv) : sSet i m se = (m (rd false se)).map fun d => .nx (se.set i (.f d)) := nr rfl
@[simp] theorem sSetB_eq (i : Nat) (m : Env → Option D) (se : SEnv) : sSetB i m se = (m (rd true se)).bind fun d => if imm d = true then some (.nx (se.set i (.f d))) else none := nr rfl
@[simp] theorem sOwn_eq (i : Nat) (m : Env → Option (List D)) (se : SEnv) : sOwn i m se = (m (rd false se)).map fun ds => .nx (se.set i (.o (.l ds))) := nr rfl
@[simp] theorem sOwnB_eq (i : Nat) (m : Env → Option (List D)) (se : SEnv) : sOwnB i m se = (m (rd true se)).bind fun ds => if immL ds = true then some (.nx (se.set i (.o (.l ds)))) else none := nr rfl
@[simp] theorem sAsg_eq (m : Env → Option D) (mg : D → Option (List D)) (ix : List Nat) (se : SEnv) : sAsg m mg ix se = (m (rd false se)).bind fun d => (mg d).map fun xs => .nx (setL se ix (xs.map .f)) := nr rfl
@[simp] theorem sFor_eq (mi : Env → Option (List D)) (mg : D → Option (List D)) (ix : List Nat) (m : SM) (se : SEnv) : sFor mi mg ix m se = (mi (rd false se)).bind fun ds => forD mg ix m ds se := nr rfl
@[simp] theorem sIts_eq (mo : Env → Option (List Itm)) (ix : List Nat) (se : SEnv) : sIts mo ix se = (mo (rd false se)).bind fun is => if (is.length == ix.length && decide (is.length ≤ 100000)) = true then some (.nx (setL se ix (is.map Itm.sl))) else none := nr rfl
@[simp] theorem oFrz_eq (ma : Env → Option D) (mo : Env → Option (List Itm)) (env : Env) : oFrz ma mo env = (ma env).bind fun d => (mo env).map fun is => .f d :: is := nr rfl
@[simp] theorem oOwn_eq (ma : Env → Option (List D)) (mo : Env → Option (List Itm)) (env : Env) : oOwn ma mo env = (ma env).bind fun d => (mo env).map fun is => .o d :: is := nr rfl
@[simp] theorem itm_f (d : D) : Itm.sl (.f d) = .f d := nr rfl
@[simp] theorem itm_o (d : List D) : Itm.sl (.o d) = .o (.l d) := nr rfl
def runK : Res → Option D
  | .rt d => some d
  | .nx _ => some .non
  | _ => none
@[simp] theorem runK_rt (d : D) : runK (.rt d) = some d := nr rfl
@[simp] theorem runK_nx (se : SEnv) : runK (.nx se) = some .non := nr rfl
@[simp] theorem runD_eq (n : Nat) (m : SM) (ds : List D) : runD n m ds = (m (startD n ds)).bind runK := by
  unfold runD
  congr 1
@[simp] theorem startD_eq (n : Nat) (ds : List D) : startD n ds = ds.map .f ++ List.replicate (n - ds.length) .u := nr rfl
@[simp] theorem rd_nil (b : Bool) : rd b [] = [] := nr rfl
@[simp] theorem rd_cons (b : Bool) (s : Sl) (se : SEnv) : rd b (s :: se) = rdAt b s :: rd b se := nr rfl
@[simp] theorem rdAt_u (b : Bool) : rdAt b .u = none := nr rfl
@[simp] theorem rdAt_f (b : Bool) (d : D) : rdAt b (.f d) = some d := nr rfl
@[simp] theorem rdAt_oF (c : Cn) : rdAt false (.o c) = none := nr rfl
@[simp] theorem rdAt_oT (c : Cn) : rdAt true (.o c) = some c.d := nr rfl
@[simp] theorem cn_l (ds : List D) : Cn.d (.l ds) = .lst ds := nr rfl
@[simp] theorem setL_nil {α : Type} (l xs : List α) : setL l [] xs = l := nr rfl
@[simp] theorem setL_nil' {α : Type} (l : List α) (i : Nat) (is : List Nat) : setL l (i :: is) [] = l := nr rfl
@[simp] theorem setL_cons {α : Type} (l : List α) (i : Nat) (is : List Nat) (x : α) (xs : List α) : setL l (i :: is) (x :: xs) = setL (l.set i x) is xs := nr rfl
@[simp] theorem wipeE_nil (env : Env) : wipeE env [] = env := nr rfl
@[simp] theorem wipeE_cons (env : Env) (v : Nat) (vs : List Nat) : wipeE env (v :: vs) = (wipeE env vs).set v none := nr rfl
@[simp] theorem gOne_eq (d : D) : gOne d = some [d] := nr rfl
@[simp] theorem gsNil_eq : gsNil [] = some [] := nr rfl
@[simp] theorem gsCons_eq (g : D → Option (List D)) (gs : List D → Option (List D)) (d : D) (ds : List D) : gsCons g gs (d :: ds) = (g d).bind fun x => (gs ds).map fun y => x ++ y := nr rfl
@[simp] theorem gTupD_eq (gs : List D → Option (List D)) (ds : List D) : gTupD gs (.tup ds) = gs ds := nr rfl
@[simp] theorem sqD_l (ds : List D) : sqD (.lst ds) = some ds := nr rfl
@[simp] theorem sqD_t (ds : List D) : sqD (.tup ds) = some ds := nr rfl
@[simp] theorem seqOf_l (ds : List D) : seqOf (.lst ds) = some ds := nr rfl
@[simp] theorem seqOf_t (ds : List D) : seqOf (.tup ds) = some ds := nr rfl
@[simp] theorem dBool_eq (b : Bool) : dBool (.bl b) = some b := nr rfl
theorem small_iff (ds : List D) : (small ds = true) ↔ ds.length ≤ 100000 := by unfold small; simp
theorem small_of {ds : List D} (h : ds.length ≤ 100000) : small ds = true := (small_iff ds).mpr h
@[simp] theorem small_nil : small [] = true := nr rfl
@[simp] theorem small_1 (a : D) : small [a] = true := nr rfl
@[simp] theorem small_2 (a b : D) : small [a, b] = true := nr rfl
@[simp] theorem small_3 (a b c : D) : small [a, b, c] = true := nr rfl
@[simp] theorem small_4 (a b c d : D) : small [a, b, c, d] = true := nr rfl
@[simp] theorem small_5 (a b c d e : D) : small [a, b, c, d, e] = true := nr rfl
@[simp] theorem small_6 (a b c d e f : D) : small [a, b, c, d, e, f] = true := nr rfl
@[simp] theorem small_map {α : Type} (f : α → D) (xs : List α) : small (xs.map f) = decide (xs.length ≤ 100000) := by unfold small; simp
def appK (ds : List D) (se : SEnv) (i : Nat) (d : D) : Option Res := if small (d :: ds) = true then some (.nx (se.set i (.o (.l (ds ++ [d]))))) else none
theorem appK_ok {ds : List D} {se : SEnv} {i : Nat} {d : D} (h : ds.length ≤ 10000) : appK ds se i d = some (.nx (se.set i (.o (.l (ds ++ [d]))))) := if_pos (small_of (by simp; omega))
theorem sApp_ok {i : Nat} {m : Env → Option D} {se : SEnv} {ds : List D} (h : se[i]? = some (.o (.l ds))) : sApp i m se = (m (rd false se)).bind (appK ds se i) := by
  unfold sApp
  rw [h]
  rfl
def appS (i : Nat) (m : Env → Option D) (se : SEnv) : Sl → Option Res
  | .o (.l ds) => (m (rd false se)).bind (appK ds se i)
  | _ => none
@[simp] theorem appS_o (i : Nat) (m : Env → Option D) (se : SEnv) (ds : List D) : appS i m se (.o (.l ds)) = (m (rd false se)).bind (appK ds se i) := nr rfl
@[simp] theorem sApp_eq (i : Nat) (m : Env → Option D) (se : SEnv) : sApp i m se = (se[i]?).bind (appS i m se) := by
  unfold sApp
  cases q : se[i]? with
  | none => rfl
  | some s => cases s with
    | u => rfl
    | f d => rfl
    | o c => cases c <;> rfl
def catK (ds : List D) (se : SEnv) (i : Nat) : D → Option Res
  | .lst ds' => if smallN (ds.length + ds'.length) = true then some (.nx (se.set i (.o (.l (ds ++ ds'))))) else none
  | _ => none
theorem catK_ok {ds ds' : List D} {se : SEnv} {i : Nat} (h : ds.length + ds'.length ≤ 100000) : catK ds se i (.lst ds') = some (.nx (se.set i (.o (.l (ds ++ ds'))))) := if_pos (by unfold smallN; simp [h])
theorem sCatO_ok {i : Nat} {m : Env → Option D} {se : SEnv} {ds : List D} (h : se[i]? = some (.o (.l ds))) : sCatO i m se = (m (rd false se)).bind (catK ds se i) := by
  unfold sCatO
  rw [h]
  rfl
def catS (i : Nat) (m : Env → Option D) (se : SEnv) : Sl → Option Res
  | .o (.l ds) => (m (rd false se)).bind (catK ds se i)
  | _ => none
@[simp] theorem catS_o (i : Nat) (m : Env → Option D) (se : SEnv) (ds : List D) : catS i m se (.o (.l ds)) = (m (rd false se)).bind (catK ds se i) := nr rfl
@[simp] theorem sCatO_eq (i : Nat) (m : Env → Option D) (se : SEnv) : sCatO i m se = (se[i]?).bind (catS i m se) := by
  cases q : se[i]? with
  | none => unfold sCatO; rw [q]; rfl
  | some s => cases s with
    | u => unfold sCatO; rw [q]; rfl
    | f d => unfold sCatO; rw [q]; rfl
    | o c => cases c with
      | l ds => rw [sCatO_ok q]; rfl
      | k kv => unfold sCatO; rw [q]; rfl
/-! ### comprehensions -/
@[simp] theorem lcD_nil (f : D → Option (Option D)) : lcD f [] = some [] := nr rfl
@[simp] theorem lcD_cons (f : D → Option (Option D)) (d : D) (ds : List D) : lcD f (d :: ds) = (f d).bind fun x => (lcD f ds).bind fun xs => some (x.toList ++ xs) := nr rfl
@[simp] theorem lcM_nil (f : D → Option (List D)) : lcM f [] = some [] := nr rfl
@[simp] theorem lcM_cons (f : D → Option (List D)) (d : D) (ds : List D) : lcM f (d :: ds) = (f d).bind fun x => (lcM f ds).bind fun xs => some (x ++ xs) := nr rfl
theorem lcD_filter {α : Type} {f : D → Option (Option D)} {e : α → D} (t : α → Bool) (g : α → D) : ∀ {xs : List α}, (∀ x ∈ xs, f (e x) = some (if t x = true then some (g x) else none)) → lcD f (xs.map e) = some ((xs.filter t).map g)
  | [], _ => rfl
  | x :: xs, h => by
    rw [List.map_cons, lcD_cons, h x List.mem_cons_self, lcD_filter t g fun y hy => h y (List.mem_cons_of_mem _ hy)]
    by_cases c : t x = true
    · simp [c]
    · simp [c]
theorem lcD_map {α : Type} {f : D → Option (Option D)} {e : α → D} (g : α → D) {xs : List α} (h : ∀ x ∈ xs, f (e x) = some (some (g x))) : lcD f (xs.map e) = some (xs.map g) := by
  rw [lcD_filter (fun _ => true) g fun x hx => by rw [h x hx]; rfl, List.filter_eq_self.mpr (fun _ _ => rfl)]
theorem lcM_flat {α : Type} {f : D → Option (List D)} {e : α → D} (g : α → List D) : ∀ {xs : List α}, (∀ x ∈ xs, f (e x) = some (g x)) → lcM f (xs.map e) = some (xs.flatMap g)
  | [], _ => rfl
  | x :: xs, h => by
    rw [List.map_cons, lcM_cons, h x List.mem_cons_self, lcM_flat g fun y hy => h y (List.mem_cons_of_mem _ hy)]
    simp
/-! ### loops -/
@[simp] theorem forD_nil (mg : D → Option (List D)) (ix : List Nat) (m : SM) (se : SEnv) : forD mg ix m [] se = some (.nx se) := nr rfl
theorem forD_cons (mg : D → Option (List D)) (ix : List Nat) (m : SM) (d : D) (ds : List D) (se : SEnv) : forD mg ix m (d :: ds) se = (mg d).bind fun xs => (m (setL se ix (xs.map .f))).bind fun
    | .nx se' => forD mg ix m ds se'
    | .ct se' => forD mg ix m ds se'
    | .bk se' => some (.nx se')
    | .rt d => some (.rt d) := rfl
/-- a loop that runs through: P holds of what is left and the slots -/
theorem forD_inv {α : Type} {mg : D → Option (List D)} {ix : List Nat} {m : SM} {e : α → D} (P : List α → SEnv → Prop) (hs : ∀ x xs se, P (x :: xs) se → ∃ ys se', mg (e x) = some ys ∧ m (setL se ix (ys.map .f)) = some (.nx se') ∧ P xs se') :
    ∀ {xs : List α} {se : SEnv}, P xs se → ∃ se', forD mg ix m (xs.map e) se = some (.nx se') ∧ P [] se'
  | [], se, h => ⟨se, rfl, h⟩
  | x :: xs, se, h => by
    obtain ⟨ys, se1, e1, e2, h1⟩ := hs x xs se h
    obtain ⟨se2, e3, h2⟩ := forD_inv P hs h1
    refine ⟨se2, ?_, h2⟩
    rw [List.map_cons, forD_cons, e1]
    show (m (setL se ix (ys.map .f))).bind _ = _
    rw [e2]
    exact e3
/-- the same, in a goal -/
theorem forD_then {α β : Type} {mg : D → Option (List D)} {ix : List Nat} {m : SM} {e : α → D} {xs : List α} {se : SEnv} {k : Res → Option β} {r : Option β} (P : List α → SEnv → Prop) (h0 : P xs se)
    (hs : ∀ x xs se, P (x :: xs) se → ∃ ys se', mg (e x) = some ys ∧ m (setL se ix (ys.map .f)) = some (.nx se') ∧ P xs se') (hk : ∀ se', P [] se' → k (.nx se') = r) : (forD mg ix m (xs.map e) se).bind k = r := by
  obtain ⟨se', e1, e2⟩ := forD_inv P hs h0
  rw [e1]
  exact hk se' e2
/-- a loop that may return: R of the value, else P to the end -/
theorem forD_ret {α : Type} {mg : D → Option (List D)} {ix : List Nat} {m : SM} {e : α → D} (P : List α → SEnv → Prop) (R : D → Prop) (hs : ∀ x xs se, P (x :: xs) se → ∃ ys, mg (e x) = some ys ∧ ((∃ se', m (setL se ix (ys.map .f)) = some (.nx se') ∧ P xs se') ∨ ∃ d, m (setL se ix (ys.map .f)) = some (.rt d) ∧ R d)) :
    ∀ {xs : List α} {se : SEnv}, P xs se → (∃ se', forD mg ix m (xs.map e) se = some (.nx se') ∧ P [] se') ∨ ∃ d, forD mg ix m (xs.map e) se = some (.rt d) ∧ R d
  | [], se, h => .inl ⟨se, rfl, h⟩
  | x :: xs, se, h => by
    obtain ⟨ys, e1, h1⟩ := hs x xs se h
    rw [List.map_cons, forD_cons, e1]
    rcases h1 with ⟨se1, e2, h1⟩ | ⟨d, e2, h1⟩
    · show (∃ se', (m (setL se ix (ys.map .f))).bind _ = _ ∧ _) ∨ ∃ d, (m (setL se ix (ys.map .f))).bind _ = _ ∧ _
      rw [e2]
      exact forD_ret P R hs h1
    · refine .inr ⟨d, ?_, h1⟩
      show (m (setL se ix (ys.map .f))).bind _ = _
      rw [e2] <;> rfl
theorem forD_thenR {α β : Type} {mg : D → Option (List D)} {ix : List Nat} {m : SM} {e : α → D} {xs : List α} {se : SEnv} {k : Res → Option β} {r : Option β} (P : List α → SEnv → Prop) (R : D → Prop) (h0 : P xs se)
    (hs : ∀ x xs se, P (x :: xs) se → ∃ ys, mg (e x) = some ys ∧ ((∃ se', m (setL se ix (ys.map .f)) = some (.nx se') ∧ P xs se') ∨ ∃ d, m (setL se ix (ys.map .f)) = some (.rt d) ∧ R d))
    (hk : ∀ se', P [] se' → k (.nx se') = r) (hr : ∀ d, R d → k (.rt d) = r) : (forD mg ix m (xs.map e) se).bind k = r := by
  rcases forD_ret P R hs h0 with ⟨se', e1, e2⟩ | ⟨d, e1, e2⟩
  · rw [e1]; exact hk se' e2
  · rw [e1]; exact hr d e2
/-! ### calls of built-ins -/
theorem intsOf_map {α : Type} (f : α → Int) (xs : List α) : intsOf (xs.map fun x => D.int (f x)) = some (xs.map f) := by
  induction xs with
  | nil => rfl
  | cons x xs ih => simp [intsOf, ih]
theorem intsOf_int (xs : List Int) : intsOf (xs.map D.int) = some xs := by
  have h := intsOf_map id xs
  simpa using h
theorem blsOf_map {α : Type} (f : α → Bool) (xs : List α) : blsOf (xs.map fun x => D.bl (f x)) = some (xs.map f) := by
  induction xs with
  | nil => rfl
  | cons x xs ih => simp [blsOf, ih]
@[simp] theorem dAll_map {α : Type} (f : α → Bool) (xs : List α) : dAll [.lst (xs.map fun x => D.bl (f x))] = some (.bl (xs.all f)) := by
  unfold dAll
  simp only [blsOf_map, Option.map_some]
  simp [List.all_map]
@[simp] theorem dAny_map {α : Type} (f : α → Bool) (xs : List α) : dAny [.lst (xs.map fun x => D.bl (f x))] = some (.bl (xs.any f)) := by
  unfold dAny
  simp only [blsOf_map, Option.map_some]
  simp [List.any_map]
@[simp] theorem dSum_map {α : Type} (f : α → Int) (xs : List α) : dSum [.lst (xs.map fun x => D.int (f x))] = some (.int (xs.map f).sum) := by
  unfold dSum
  simp only [intsOf_map, Option.map_some]
@[simp] theorem dSum_int (xs : List Int) : dSum [.lst (xs.map D.int)] = some (.int xs.sum) := by
  unfold dSum
  simp only [intsOf_int, Option.map_some]
@[simp] theorem dLen_l (ds : List D) : dLen [.lst ds] = some (.int ds.length) := nr rfl
@[simp] theorem dLen_t (ds : List D) : dLen [.tup ds] = some (.int ds.length) := nr rfl
@[simp] theorem dTuple_l (ds : List D) : dTuple [.lst ds] = some (.tup ds) := nr rfl
@[simp] theorem dTuple_t (ds : List D) : dTuple [.tup ds] = some (.tup ds) := nr rfl
@[simp] theorem dListD_eq (d : D) : dListD [d] = dListD [d] := nr rfl
def mx (g : G) : Int := match g with
  | [] => 0
  | n :: ns => ns.foldl max n
theorem dMM_max {g : G} (h : g ≠ []) : dMM max [.tup (g.map D.int)] = some (.int (mx g)) := by
  cases g with
  | nil => exact (h rfl).elim
  | cons n ns => simp [dMM, foldI, intsOf_int, mx]
theorem dMM_maxL {g : G} (h : g ≠ []) : dMM max [.lst (g.map D.int)] = some (.int (mx g)) := by
  cases g with
  | nil => exact (h rfl).elim
  | cons n ns => simp [dMM, foldI, intsOf_int, mx]
/-! ### == -/
@[simp] theorem eqD_int (i j : Int) : eqD (.int i) (.int j) = (i == j) := by simp [eqD]
@[simp] theorem eqD_bl (i j : Bool) : eqD (.bl i) (.bl j) = (i == j) := by simp [eqD]
@[simp] theorem eqD_tup (xs ys : List D) : eqD (.tup xs) (.tup ys) = eqL xs ys := by simp [eqD]
@[simp] theorem eqD_lst (xs ys : List D) : eqD (.lst xs) (.lst ys) = eqL xs ys := by simp [eqD]
@[simp] theorem eqL_nil : eqL [] [] = true := by simp [eqL]
@[simp] theorem eqL_nc (y : D) (ys : List D) : eqL [] (y :: ys) = false := by simp [eqL]
@[simp] theorem eqL_cn (y : D) (ys : List D) : eqL (y :: ys) [] = false := by simp [eqL]
@[simp] theorem eqL_cons (x y : D) (xs ys : List D) : eqL (x :: xs) (y :: ys) = (eqD x y && eqL xs ys) := by simp [eqL]
theorem eqL_map {α : Type} [DecidableEq α] {e : α → D} (h : ∀ a b, eqD (e a) (e b) = decide (a = b)) : ∀ xs ys : List α, eqL (xs.map e) (ys.map e) = decide (xs = ys)
  | [], [] => by simp
  | [], y :: ys => by simp
  | x :: xs, [] => by simp
  | x :: xs, y :: ys => by
    simp only [List.map_cons, eqL_cons, h, eqL_map h xs ys, List.cons.injEq]
    by_cases c : x = y <;> simp [c]
theorem eqD_eG (a b : G) : eqD (eG a) (eG b) = decide (a = b) := by
  unfold eG
  rw [eqD_tup, eqL_map]
  intro a b
  rw [eqD_int]
  by_cases c : a = b <;> simp [c]
theorem eqD_eP (a b : Pr) : eqD (eP a) (eP b) = decide (a = b) := by
  obtain ⟨a1, a2⟩ := a
  obtain ⟨b1, b2⟩ := b
  unfold eP
  simp only [eqD_tup, eqL_cons, eqD_int, eqL_nil, Bool.and_true, Prod.mk.injEq]
  by_cases c : a1 = b1 <;> by_cases d : a2 = b2 <;> simp [c, d]
theorem eqD_eT {α : Type} [DecidableEq α] {e : α → D} (h : ∀ a b, eqD (e a) (e b) = decide (a = b)) (xs ys : List α) : eqD (eT e xs) (eT e ys) = decide (xs = ys) := by
  unfold eT
  rw [eqD_tup, eqL_map h]
theorem okL_map {α : Type} {e : α → D} {n : Nat} (h : ∀ a, okD n (e a) = true) (xs : List α) : okL n (xs.map e) = true := by
  induction xs with
  | nil => simp [okL]
  | cons x xs ih => simp [okL, h, ih]
@[simp] theorem okD_int (n : Nat) (i : Int) : okD n (.int i) = true := by cases n <;> simp [okD]
@[simp] theorem okD_bl (n : Nat) (i : Bool) : okD n (.bl i) = true := by cases n <;> simp [okD]
@[simp] theorem okD_non (n : Nat) : okD n .non = true := by cases n <;> simp [okD]
@[simp] theorem okD_str (n : Nat) (s : Str) : okD n (.str s) = true := by cases n <;> simp [okD]
@[simp] theorem okL_nil (n : Nat) : okL n [] = true := by simp [okL]
@[simp] theorem okL_cons (n : Nat) (x : D) (xs : List D) : okL n (x :: xs) = (okD n x && okL n xs) := by simp [okL]
theorem okD_tup (n : Nat) (xs : List D) : okD (n + 1) (.tup xs) = okL n xs := by simp [okD]
theorem okD_lst (n : Nat) (xs : List D) : okD (n + 1) (.lst xs) = okL n xs := by simp [okD]
theorem okD_eG (n : Nat) (g : G) : okD (n + 1) (eG g) = true := by
  unfold eG
  rw [okD_tup, okL_map]
  intro a
  exact okD_int n a
theorem okD_eP (n : Nat) (p : Pr) : okD (n + 1) (eP p) = true := by
  unfold eP
  rw [okD_tup]
  simp
theorem okD_eT {α : Type} {e : α → D} {n : Nat} (h : ∀ a, okD n (e a) = true) (xs : List α) : okD (n + 1) (eT e xs) = true := by
  unfold eT
  rw [okD_tup, okL_map h]
theorem dEq_ok {x y : D} (hx : okD 30 x = true) (hy : okD 30 y = true) : dEq x y = some (.bl (eqD x y)) := by
  unfold dEq
  rw [hx, hy] <;> rfl
theorem dNe_ok {x y : D} (hx : okD 30 x = true) (hy : okD 30 y = true) : dNe x y = some (.bl (!eqD x y)) := by
  unfold dNe
  rw [hx, hy] <;> rfl
@[simp] theorem dEq_int (i j : Int) : dEq (.int i) (.int j) = some (.bl (i == j)) := by rw [dEq_ok (by simp) (by simp), eqD_int]
@[simp] theorem dNe_int (i j : Int) : dNe (.int i) (.int j) = some (.bl (!(i == j))) := by rw [dNe_ok (by simp) (by simp), eqD_int]
@[simp] theorem dEq_bl (i j : Bool) : dEq (.bl i) (.bl j) = some (.bl (i == j)) := by rw [dEq_ok (by simp) (by simp), eqD_bl]
@[simp] theorem dNe_bl (i j : Bool) : dNe (.bl i) (.bl j) = some (.bl (!(i == j))) := by rw [dNe_ok (by simp) (by simp), eqD_bl]
/-! ### items -/
theorem atI_nn {α : Type} {xs : List α} {i : Int} {x : α} (h0 : 0 ≤ i) (h : xs[i.toNat]? = some x) : atI xs i = some x := by
  obtain ⟨n, rfl⟩ := Int.eq_ofNat_of_zero_le h0
  exact atI_nat (by simpa using h)
@[simp] theorem ixAny_tup (ds : List D) (i : Int) : ixAny (.tup ds) (.int i) = atI ds i := nr rfl
@[simp] theorem ixAny_lst (ds : List D) (i : Int) : ixAny (.lst ds) (.int i) = atI ds i := nr rfl
def gA (g : G) (i : Int) : Int := g.getD i.toNat 0
theorem atI_g {g : G} {i : Int} (h0 : 0 ≤ i) (h : i < g.length) : atI (g.map D.int) i = some (.int (gA g i)) := by
  refine atI_nn h0 ?_
  have h1 : i.toNat < g.length := by omega
  rw [List.getElem?_map, List.getElem?_eq_getElem h1]
  simp [gA, List.getD, h1]
@[simp] theorem ix_eP0 (p : Pr) : ixAny (eP p) (.int 0) = some (.int p.1) := nr rfl
@[simp] theorem ix_eP1 (p : Pr) : ixAny (eP p) (.int 1) = some (.int p.2) := nr rfl
@[simp] theorem ix_eA0 (p : Ans) : ixAny (eA p) (.int 0) = some (.int p.1) := nr rfl
@[simp] theorem ix_eA1 (p : Ans) : ixAny (eA p) (.int 1) = some (.int p.2.1) := nr rfl
@[simp] theorem ix_eA2 (p : Ans) : ixAny (eA p) (.int 2) = some (.bl p.2.2) := nr rfl
theorem ix_eG {g : G} {i : Int} (h0 : 0 ≤ i) (h : i < g.length) : ixAny (eG g) (.int i) = some (.int (gA g i)) := atI_g h0 h
end EX
set_option Elab.async false
set_option linter.all false
set_option autoImplicit false
set_option maxRecDepth 100000
set_option maxHeartbeats 4000000
/-! MP: the mathematics of pools, answers, draws. -/
namespace EX
open PySem L2
section
/-! ### native words -/
/-- a pair of places within n -/
structure InP (n : Nat) (p : Pr) : Prop where
  a0 : 0 ≤ p.1
  a1 : p.1 < n
  b0 : 0 ≤ p.2
  b1 : p.2 < n
/-- an answer about things of a pool of n -/
structure InA (n : Nat) (a : Ans) : Prop where
  a0 : 0 ≤ a.1
  lt : a.1 < a.2.1
  b1 : a.2.1 < n
def same (g : G) (p : Pr) : Bool := gA g p.1 == gA g p.2
def says (g : G) (a : Ans) : Bool := (gA g a.1 == gA g a.2.1) == a.2.2
def fits (g : G) (as : List Ans) : Bool := as.all (says g)
def view (rows : List G) (as : List Ans) : List G := rows.filter fun g => fits g as
def ext (gs : List G) : List G := gs.flatMap fun g => (List.range (mx g + 2).toNat).map fun (i : Nat) => g ++ [(i : Int)]
def gps : Nat → List G
  | 0 => [[]]
  | 1 => [[0]]
  | n + 1 => ext (gps n)
def prs (n : Nat) : List Pr := (List.range n).flatMap fun (i : Nat) => (List.range (n - (i + 1))).map fun (k : Nat) => ((i : Int), ((i + 1 + k : Nat) : Int))
def rowsOf (n : Nat) (lo hi : Int) : List G := (gps n).filter fun g => decide (lo ≤ mx g + 1) && decide (mx g + 1 ≤ hi)
def ePool (n : Nat) (lo hi : Int) (rows : List G) : D := .obj 12 [some (.int hi), some (.int lo), some (.int n), some (eT eG rows)]
theorem gps_len : ∀ (n : Nat), 1 ≤ n → ∀ g ∈ gps n, g.length = n ∧ g ≠ []
  | 0, h, _, _ => by omega
  | 1, _, g, hg => by simp [gps] at hg; subst hg; simp
  | n + 2, _, g, hg => by
    simp only [gps, ext, List.mem_flatMap, List.mem_map, List.mem_range] at hg
    obtain ⟨a, ha, i, hi, rfl⟩ := hg
    obtain ⟨h1, h2⟩ := gps_len (n + 1) (by omega) a ha
    simp [h1]
theorem rowsOf_len {n : Nat} (h : 1 ≤ n) {lo hi : Int} {g : G} (hg : g ∈ rowsOf n lo hi) : g.length = n := (gps_len n h g (List.mem_filter.mp hg).1).1
theorem rowsOf_ne {n : Nat} (h : 1 ≤ n) {lo hi : Int} {g : G} (hg : g ∈ rowsOf n lo hi) : g ≠ [] := (gps_len n h g (List.mem_filter.mp hg).1).2
theorem gps_small {n : Nat} (h : 1 ≤ n) (h5 : n ≤ 5) : (gps n).length ≤ 52 := by
  have : n = 1 ∨ n = 2 ∨ n = 3 ∨ n = 4 ∨ n = 5 := by omega
  rcases this with rfl | rfl | rfl | rfl | rfl <;> decide +kernel
theorem rowsOf_small {n : Nat} (h : 1 ≤ n) (h5 : n ≤ 5) {lo hi : Int} : (rowsOf n lo hi).length ≤ 52 := Nat.le_trans (List.length_filter_le _ _) (gps_small h h5)
theorem view_len {rows : List G} {as : List Ans} : (view rows as).length ≤ rows.length := List.length_filter_le _ _
theorem prs_in {n : Nat} {p : Pr} (h : p ∈ prs n) : InP n p ∧ p.1 < p.2 := by
  simp only [prs, List.mem_flatMap, List.mem_map, List.mem_range] at h
  obtain ⟨i, hi, k, hk, rfl⟩ := h
  refine ⟨⟨?_, ?_, ?_, ?_⟩, ?_⟩ <;> simp <;> omega
/-! ### is_integer -/
theorem is_integer_eq (v lo hi : Int) : f_is_integer [.int v, .int lo, .int hi] = some (.bl (decide (lo ≤ v) && decide (v ≤ hi))) := by
  unfold f_is_integer
  simp [g_int, g_bool, dIsi, kindD, List.lookup, dI2]
  by_cases h : lo ≤ v <;> simp [h]
/-! ### groupings -/
theorem groups_in_eq {g : G} (h : g ≠ []) : f_groups_in [eG g] = some (.int (mx g + 1)) := by
  unfold f_groups_in
  simp [eG, dMM_max h, dAdd]
theorem drop_range {n j x : Nat} {xs : List Nat} (h : x :: xs = (List.range n).drop j) : x = j ∧ j < n ∧ xs = (List.range n).drop (j + 1) := by
  have hj : j < n := by
    have := congrArg List.length h
    simp at this
    omega
  rw [List.drop_eq_getElem_cons (by simpa using hj)] at h
  simp at h
  exact ⟨h.1, hj, h.2⟩
theorem gps_pos : ∀ (n : Nat) (g : G), g ∈ gps (n + 1) → g ≠ [] ∧ 0 ≤ mx g ∧ mx g ≤ n
  | 0, g, hg => by simp [gps] at hg; subst hg; simp [mx]
  | n + 1, g, hg => by
    simp only [gps, ext, List.mem_flatMap, List.mem_map, List.mem_range] at hg
    obtain ⟨a, ha, i, hi, rfl⟩ := hg
    obtain ⟨h1, h2, h3⟩ := gps_pos n a ha
    cases a with
    | nil => exact (h1 rfl).elim
    | cons x xs =>
      have e : mx ((x :: xs) ++ [(i : Int)]) = max (mx (x :: xs)) i := by
        simp [mx, List.foldl_append]
      rw [e]
      refine ⟨by simp, by omega, ?_⟩
      omega
theorem gps_small' {k : Nat} (hk : k ≤ 5) : (gps k).length ≤ 52 := by
  have : k = 0 ∨ k = 1 ∨ k = 2 ∨ k = 3 ∨ k = 4 ∨ k = 5 := by omega
  rcases this with rfl | rfl | rfl | rfl | rfl | rfl <;> decide +kernel
theorem groupings_eq {n : Nat} (h : 1 ≤ n) (h5 : n ≤ 5) : f_groupings_of [.int n] = some (eL eG (gps n)) := by
  unfold f_groupings_of
  have e1 : inR (n : Int) = true := inR_of' (by omega) (by omega)
  simp [rng2_eq (inR_of' (i := 1) (by omega) (by omega)) e1, rangeD_eq]
  refine forD_then (xs := List.range (n - 1)) (fun xs se => ∃ j u, xs = (List.range (n - 1)).drop j ∧ j ≤ n - 1 ∧ se = [.f (.int n), .f (eL eG (gps (j + 1))), u, .u, .u]) ⟨0, .u, rfl, by omega, rfl⟩ ?_ ?_
  · rintro x xs se ⟨j, u, hx, hj, hse⟩
    obtain ⟨rfl, hlt, rfl⟩ := drop_range hx
    refine ⟨_, [.f (.int n), .f (eL eG (gps (x + 2))), .f (.int (1 + (x : Int))), .u, .u], rfl, ?_, x + 1, _, rfl, by omega, rfl⟩
    subst hse
    simp [eL]
    rw [lcM_flat (fun g => (List.range (mx g + 2).toNat).map fun (i : Nat) => eG (g ++ [(i : Int)]))]
    · have e : ((gps (x + 1)).flatMap fun g => (List.range (mx g + 2).toNat).map fun (i : Nat) => eG (g ++ [(i : Int)])) = (gps (x + 2)).map eG := by
        simp [gps, ext, List.map_flatMap, Function.comp_def]
      rw [e]
      have := gps_small' (k := x + 2) (by omega)
      simp [show (gps (x + 2)).length ≤ 100000 by omega]
    · intro g hg
      obtain ⟨g1, g2, g3⟩ := gps_pos x g hg
      have e2 : inR (mx g + 2) = true := inR_of' (by omega) (by omega)
      simp [eG, dMM_max g1, dAdd, rng1_eq e2, rangeD_eq]
      rw [lcD_map (fun (i : Nat) => D.tup (g.map D.int ++ [.int (i : Int)]))]
      intro i hi
      have q1 : g.length = x + 1 := (gps_len (x + 1) (by omega) g hg).1
      have q2 : small (g.map D.int ++ [.int (i : Int)]) = true := small_of (by simp [q1]; omega)
      simp [q2]
  · rintro se' ⟨j, u, hx, hj, rfl⟩
    have e3 : j = n - 1 := by
      have := congrArg List.length hx
      simp at this
      omega
    simp [e3, show n - 1 + 1 = n by omega]
theorem mkPool_eq {n : Nat} {lo hi : Int} (h : 2 ≤ n) (h5 : n ≤ 5) (h1 : 1 ≤ lo) (h2 : lo ≤ hi) (h3 : hi ≤ n) : mk_Pool [.int n, .int lo, .int hi] = some [some (.int hi), some (.int lo), some (.int n), some (eT eG (rowsOf n lo hi))] := by
  unfold mk_Pool initD i_Pool
  have e1 : decide (lo ≤ hi) = true := by simp [h2]
  have e2 : decide (lo ≤ (n : Int)) = true := by simp; omega
  simp [is_integer_eq, show (2 : Int) ≤ (n : Int) by omega, show (n : Int) ≤ 5 by omega, h1, h2, h3, show lo ≤ (n : Int) by omega, groupings_eq (show 1 ≤ n by omega) h5, eL]
  rw [lcD_filter (fun g => decide (lo ≤ mx g + 1) && decide (mx g + 1 ≤ hi)) eG]
  · have q := gps_small (by omega) h5
    simp [putD, eT, rowsOf, show (gps n).length ≤ 100000 by omega]
  · intro g hg
    have q := (gps_len n (by omega) g hg).2
    simp [groups_in_eq q, dI2]
    by_cases c : lo ≤ mx g + 1 <;> by_cases c' : mx g + 1 ≤ hi <;> simp [c, c']
theorem prs_len {n : Nat} (h : 2 ≤ n) (h5 : n ≤ 5) : (prs n).length ≤ 10 := by
  have : n = 2 ∨ n = 3 ∨ n = 4 ∨ n = 5 := by omega
  rcases this with rfl | rfl | rfl | rfl <;> decide
/-! ### answers -/
theorem are_same_eq {g : G} {d : D} {i j : Int} (e1 : ixAny d (.int 0) = some (.int i)) (e2 : ixAny d (.int 1) = some (.int j)) (i0 : 0 ≤ i) (i1 : i < g.length) (j0 : 0 ≤ j) (j1 : j < g.length) : f_are_same [eG g, d] = some (.bl (gA g i == gA g j)) := by
  unfold f_are_same
  simp [e1, e2, ix_eG i0 i1, ix_eG j0 j1]
theorem are_same_P {g : G} {p : Pr} {n : Nat} (hg : g.length = n) (h : InP n p) : f_are_same [eG g, eP p] = some (.bl (same g p)) := by
  subst hg
  exact are_same_eq (ix_eP0 p) (ix_eP1 p) h.a0 h.a1 h.b0 h.b1
theorem are_same_A {g : G} {a : Ans} {n : Nat} (hg : g.length = n) (h : InA n a) : f_are_same [eG g, eA a] = some (.bl (gA g a.1 == gA g a.2.1)) := by
  subst hg
  have := h.a0
  have := h.lt
  have := h.b1
  exact are_same_eq (ix_eA0 a) (ix_eA1 a) h.a0 (by omega) (by omega) h.b1
theorem fits_eq {g : G} {n : Nat} {d : D} {as : List Ans} (hg : g.length = n) (e : sqD d = some (as.map eA)) (ha : ∀ a ∈ as, InA n a) (hl : as.length ≤ 100000) : f_fits [eG g, d] = some (.bl (fits g as)) := by
  unfold f_fits
  simp [e]
  rw [lcD_map (fun a => D.bl (says g a))]
  · simp [hl, fits]
  · intro a m
    simp [are_same_A hg (ha a m), says]
theorem is_pair_eq {n : Nat} {lo hi : Int} {rows : List G} {p : Pr} (h : InP n p) (hl : p.1 < p.2) : f_is_pair [ePool n lo hi rows, eP p] = some (.bl true) := by
  unfold f_is_pair
  obtain ⟨a, b⟩ := p
  obtain ⟨h1, h2, h3, h4⟩ := h
  simp only at h1 h2 h3 h4 hl
  simp [g_tuple, dIsi, kindD, List.lookup, eP, ePool, is_integer_eq, dI2, atD, tb_many, dAll, blsOf, show a ≤ (n : Int) - 1 by omega, show b ≤ (n : Int) - 1 by omega, h1, h3, hl]
  simp [L2.atI, L2.ixN, hl]
theorem atI_0 {α : Type} (x : α) (xs : List α) : atI (x :: xs) 0 = some x := atI_nn (by omega) rfl
theorem atI_1 {α : Type} (x y : α) (xs : List α) : atI (x :: y :: xs) 1 = some y := atI_nn (by omega) rfl
theorem atI_2 {α : Type} (x y z : α) (xs : List α) : atI (x :: y :: z :: xs) 2 = some z := atI_nn (by omega) rfl
theorem is_answer_eq {n : Nat} {lo hi : Int} {rows : List G} {a : Ans} (h : InA n a) : f_is_answer [ePool n lo hi rows, eA a] = some (.bl true) := by
  unfold f_is_answer
  have h1 := h.a0
  have h2 := h.lt
  have h3 := h.b1
  have e := is_pair_eq (lo := lo) (hi := hi) (rows := rows) (p := (a.1, a.2.1)) (n := n) ⟨h1, by omega, by omega, h3⟩ h2
  have e2 : sliceD (.tup [.int a.1, .int a.2.1, .bl a.2.2]) none (some 2) = some (eP (a.1, a.2.1)) := rfl
  simp [g_tuple, g_bool, dIsi, kindD, List.lookup, eA, atI_2, e2, e]
theorem pairsD_map {α : Type} (e : α → D) : ∀ (k : Nat) (xs : List α), pairsD k (xs.map e) = (xs.zipIdx k).map fun q => D.tup [.int (q.2 : Nat), e q.1]
  | _, [] => rfl
  | k, x :: xs => by simp [pairsD, pairsD_map e (k + 1) xs, List.zipIdx_cons]
theorem zipIdx_mem {α : Type} {xs : List α} {k : Nat} {q : α × Nat} (h : q ∈ xs.zipIdx k) : q.1 ∈ xs := by
  have := List.mem_zipIdx h
  obtain ⟨_, _, e⟩ := this
  rw [e]
  exact List.getElem_mem _
theorem check_pool_eq {n : Nat} {lo hi : Int} {rows : List G} : f_check_pool [ePool n lo hi rows] = some .non := by
  unfold f_check_pool
  simp [g_Pool, dIsi, kindD, ePool, List.lookup]
/-- a list or a tuple of answers -/
inductive IsAs (as : List Ans) : D → Prop
  | l : IsAs as (.lst (as.map eA))
  | t : IsAs as (.tup (as.map eA))
theorem IsAs.sq {as : List Ans} {d : D} (h : IsAs as d) : sqD d = some (as.map eA) := by cases h <;> rfl
theorem check_answers_eq {n : Nat} {lo hi : Int} {rows : List G} {as : List Ans} {d : D} (hd : IsAs as d) (ha : ∀ a ∈ as, InA n a) (hl : as.length ≤ 20) : f_check_answers [ePool n lo hi rows, d] = some .non := by
  unfold f_check_answers
  have q1 : dIsi g_list d = some (.bl (match d with | .lst _ => true | _ => false)) := by cases hd <;> rfl
  have q2 : dIsi g_tuple d = some (.bl (match d with | .tup _ => true | _ => false)) := by cases hd <;> rfl
  have q3 : dLen [d] = some (.int as.length) := by cases hd <;> simp
  have q4 : ((dIsi g_list d).bind (isiK g_tuple d)) = some (.bl true) := by cases hd <;> rfl
  simp [check_pool_eq, q4, q3, dI2, show ¬ ((20 : Int) < as.length) by omega, hd.sq, pairsD_map]
  refine forD_then (xs := as.zipIdx) (fun xs se => (∀ q ∈ xs, q.1 ∈ as) ∧ ∃ u v, se = [.f (ePool n lo hi rows), .f d, u, v]) ⟨fun q hq => zipIdx_mem hq, .u, .u, rfl⟩ ?_ ?_
  · rintro q xs se ⟨hx, u, v, rfl⟩
    refine ⟨_, [.f (ePool n lo hi rows), .f d, .f (eA q.1), .f (.int q.2)], rfl, ?_, fun q hq => hx q (List.mem_cons_of_mem _ hq), _, _, rfl⟩
    simp [is_answer_eq (ha q.1 (hx q List.mem_cons_self))]
  · rintro se' ⟨_, u, v, rfl⟩
    simp
/-! ### goals -/
inductive Gl3 where
  | all | count | largest
deriving DecidableEq
def gS : Gl3 → Str
  | .all => "all"
  | .count => "count"
  | .largest => "largest"
def lg (g : G) : Int := mx (g.map fun x => ((g.countP (· == x) : Nat) : Int))
def vD (t : Gl3) (g : G) : D := match t with
  | .all => eG g
  | .count => .int (mx g + 1)
  | .largest => .int (lg g)
def vEq (t : Gl3) (g h : G) : Bool := match t with
  | .all => g == h
  | .count => mx g + 1 == mx h + 1
  | .largest => lg g == lg h
theorem vD_ok (t : Gl3) (g : G) : okD 30 (vD t g) = true := by
  cases t
  · exact okD_eG _ _
  · exact okD_int _ _
  · exact okD_int _ _
theorem vD_eq (t : Gl3) (g h : G) : eqD (vD t g) (vD t h) = vEq t g h := by
  cases t
  · rw [show vD .all g = eG g from rfl, show vD .all h = eG h from rfl, eqD_eG]
    unfold vEq
    by_cases c : g = h <;> simp [c]
  · exact eqD_int _ _
  · exact eqD_int _ _
theorem countP_map (g : G) (x : Int) : (g.map D.int).countP (fun z => eqD z (.int x)) = g.countP (· == x) := by
  simp [List.countP_map, Function.comp_def]
theorem dCount_g (g : G) (x : Int) : dCount (eG g) (.int x) = some (.int ((g.countP (· == x) : Nat) : Int)) := by
  unfold dCount eG
  simp [okL_map (n := 30) (e := D.int) (fun a => okD_int 30 a), List.countP_map, Function.comp_def]
@[simp] theorem sMatch_eq (me : Env → Option D) (mk : D → SM) (se : SEnv) : sMatch me mk se = (me (rd false se)).bind fun d => mk d se := nr rfl
theorem kStr_y (y : Str) (m1 : SM) (m2 : D → SM) (se : SEnv) : kStr y m1 m2 (.str y) se = m1 se := by unfold kStr; simp
theorem kStr_n {y x : Str} (h : x ≠ y) (m1 : SM) (m2 : D → SM) (se : SEnv) : kStr y m1 m2 (.str x) se = m2 (.str x) se := by unfold kStr; simp [h]
end
section
/-! ### sums of lists -/
theorem dAdd_l {xs ys : List D} (h : xs.length + ys.length ≤ 100000) : dAdd (.lst xs) (.lst ys) = some (.lst (xs ++ ys)) := by
  have e : smallN (xs.length + ys.length) = true := by unfold smallN; simp [h]
  unfold dAdd
  exact if_pos e
theorem dAdd_t {xs ys : List D} (h : xs.length + ys.length ≤ 100000) : dAdd (.tup xs) (.tup ys) = some (.tup (xs ++ ys)) := by
  have e : smallN (xs.length + ys.length) = true := by unfold smallN; simp [h]
  unfold dAdd
  exact if_pos e
@[simp] theorem dAdd_i (i j : Int) : dAdd (.int i) (.int j) = some (.int (i + j)) := nr rfl
theorem fAdd_l {xs ys : List D} (h : xs.length + ys.length ≤ 100000) : fAdd (.lst xs) (.lst ys) = some (xs ++ ys) := by
  unfold fAdd
  rw [dAdd_l h] <;> rfl
/-! ### tables of prices -/
def key (p : Pr) : NestedKey := .tup [.num p.1, .num p.2]
def eTab (l : List (Pr × Int)) : D := .dct (l.map fun q => (eP q.1, .int q.2))
theorem key_inj {p q : Pr} (h : key p = key q) : p = q := by
  unfold key at h
  simp at h
  exact Prod.ext h.1 h.2
theorem nk_eP (p : Pr) : nkOf (eP p) = some (key p) := rfl
theorem keyD_eP (p : Pr) : keyD (eP p) = some (key p) := by
  show (nkOf (eP p)).bind (fun k => if decide (k.depth ≤ 8) = true then some k else none) = some (key p)
  rw [nk_eP]
  simp [key, NestedKey.depth, NestedKey.depthAll]
theorem find_tab (l : List (Pr × Int)) (p : Pr) : findK (l.map fun q => (eP q.1, D.int q.2)) (key p) = (l.lookup p).map D.int := by
  unfold findK
  induction l with
  | nil => rfl
  | cons q l ih =>
    rw [List.map_cons, List.find?_cons, List.lookup_cons]
    by_cases c : q.1 = p
    · have c1 : decide (nkOf (eP q.1, D.int q.2).1 = some (key p)) = true := by simp [nk_eP, c]
      rw [c1]
      have c2 : (p == q.1) = true := by simp [c]
      rw [c2]
      rfl
    · have c1 : decide (nkOf (eP q.1, D.int q.2).1 = some (key p)) = false := by
        simp [nk_eP]
        exact fun z => c (key_inj z)
      rw [c1]
      have c2 : (p == q.1) = false := by simp; exact fun z => c z.symm
      rw [c2]
      exact ih
theorem ix_tab (l : List (Pr × Int)) (p : Pr) : ixAny (eTab l) (eP p) = (l.lookup p).map D.int := by
  show (keyD (eP p)).bind (fun k => findK (l.map fun q => (eP q.1, D.int q.2)) k) = _
  rw [keyD_eP]
  exact find_tab l p
theorem dListD_tab (l : List (Pr × Int)) : dListD [eTab l] = some (l.map fun q => eP q.1) := by
  unfold eTab dListD
  simp [Function.comp_def]
theorem lookup_none {l : List (Pr × Int)} {p : Pr} (h : p ∉ l.map (·.1)) : l.lookup p = none := by
  induction l with
  | nil => rfl
  | cons q l ih =>
    simp at h
    rw [List.lookup_cons]
    have c2 : (p == q.1) = false := by simp; exact fun z => h.1 z
    rw [c2]
    exact ih (by simpa using h.2)
theorem dictK_tab : ∀ (ks : List Pr) (vs : List Int) (acc : List (Pr × Int)), (∀ p ∈ ks, p ∉ acc.map (·.1)) → ks.Nodup → dictK (acc.map fun q => (eP q.1, D.int q.2)) (zip2 (ks.map eP) (vs.map D.int)) = some ((acc ++ ks.zip vs).map fun q => (eP q.1, D.int q.2))
  | [], vs, acc, _, _ => by simp [zip2, dictK]
  | k :: ks, [], acc, _, _ => by simp [zip2, dictK]
  | k :: ks, v :: vs, acc, h, nd => by
    obtain ⟨n1, n2⟩ := List.nodup_cons.mp nd
    simp only [List.map_cons, zip2, dictK, keyD_eP, obind_some]
    have e : storeK (acc.map fun q => (eP q.1, D.int q.2)) (key k) (eP k) (D.int v) = ((acc ++ [(k, v)]).map fun q => (eP q.1, D.int q.2)) := by
      unfold storeK
      rw [find_tab, lookup_none (h k List.mem_cons_self)]
      simp
    rw [e, dictK_tab ks vs (acc ++ [(k, v)]) (fun p hp => ?_) n2]
    · simp
    · simp only [List.map_append, List.mem_append, List.map_cons, List.map_nil, List.mem_singleton]
      intro z
      rcases z with z | z
      · exact h p (List.mem_cons_of_mem _ hp) z
      · exact n1 (z ▸ hp)
theorem dictZ_tab {ks : List Pr} {vs : List Int} (nd : ks.Nodup) (h1 : ks.length ≤ 100000) (h2 : vs.length ≤ 100000) {x y : D} (ex : sqD x = some (ks.map eP)) (ey : sqD y = some (vs.map D.int)) {ms : Env → Option (List D)} {env : Env} (e : ms env = some [x, y]) : mDictZ ms env = some (eTab (ks.zip vs)) := by
  unfold mDictZ
  rw [e]
  show (sqD x).bind _ = _
  rw [ex]
  show (sqD y).bind _ = _
  rw [ey]
  have q := dictK_tab ks vs [] (by simp) nd
  simp only [List.map_nil, List.nil_append] at q
  simp [h1, h2, q, eTab]
/-- the price of a pair -/
def pr (l : List (Pr × Int)) (p : Pr) : Int := (l.lookup p).getD 0
def prS (l : List (Pr × Int)) (s : List Pr) : Int := (s.map (pr l)).sum
theorem zip_lookup : ∀ {ks : List Pr} {vs : List Int} {p : Pr}, p ∈ ks → ks.length = vs.length → ∃ v, (ks.zip vs).lookup p = some v ∧ vs[ks.idxOf p]? = some v ∧ v ∈ vs
  | k :: ks, [], p, _, hl => by simp at hl
  | k :: ks, v :: vs, p, hp, hl => by
    by_cases c : p = k
    · subst c
      exact ⟨v, by simp [List.zip_cons_cons, List.lookup_cons], by simp, List.mem_cons_self⟩
    · have hp' : p ∈ ks := by
        rcases List.mem_cons.mp hp with z | z
        · exact (c z).elim
        · exact z
      obtain ⟨w, e1, e2, e3⟩ := zip_lookup (vs := vs) hp' (by simpa using hl)
      have c1 : (p == k) = false := by simp [c]
      have c2 : (k == p) = false := by simp; exact fun z => c z.symm
      refine ⟨w, by rw [List.zip_cons_cons, List.lookup_cons, c1]; exact e1, ?_, List.mem_cons_of_mem _ e3⟩
      rw [List.idxOf_cons, c2]
      simpa using e2
theorem ix_pr {l : List (Pr × Int)} {p : Pr} {v : Int} (h : l.lookup p = some v) : ixAny (eTab l) (eP p) = some (.int (pr l p)) := by
  rw [ix_tab, pr, h] <;> rfl
theorem idxD_map : ∀ (n : Nat) (ks : List Pr) (p : Pr), p ∈ ks → idxD (eP p) n (ks.map eP) = some (n + ks.idxOf p)
  | n, k :: ks, p, hp => by
    rw [List.map_cons, idxD, eqD_eP, List.idxOf_cons]
    by_cases c : k = p
    · simp [c]
    · have hp' : p ∈ ks := by
        rcases List.mem_cons.mp hp with z | z
        · exact (c z.symm).elim
        · exact z
      have c2 : (k == p) = false := by simp [c]
      rw [if_neg (by simp [c]), idxD_map (n + 1) ks p hp', c2]
      simp
      omega
theorem shaped_P (p : Pr) : SeqAt.shaped (pyOf (eP p)) = true := rfl
theorem pyP (p : Pr) : pyOf (eP p) = .tuple [.int p.1, .int p.2] := rfl
theorem canAll_P : ∀ ks : List Pr, PyData.canLayAll0 (pyOfL (ks.map eP)) = true
  | [] => rfl
  | k :: ks => by
    show (PyData.canLay0 (pyOf (eP k)) && PyData.canLayAll0 (pyOfL (ks.map eP))) = true
    rw [canAll_P ks, pyP] <;> rfl
theorem depthAll_P : ∀ ks : List Pr, PyData.depthAll (pyOfL (ks.map eP)) ≤ 1
  | [] => by simp [pyOfL, PyData.depthAll]
  | k :: ks => by
    have h := depthAll_P ks
    have e : PyData.depthAll (pyOfL ((k :: ks).map eP)) = max (PyData.depth (pyOf (eP k))) (PyData.depthAll (pyOfL (ks.map eP))) := rfl
    rw [e, pyP]
    have e2 : PyData.depth (.tuple [.int k.1, .int k.2]) = 1 := rfl
    omega
theorem shapedL_P (ks : List Pr) : SeqAt.shaped (pyOf (.lst (ks.map eP))) = true := by
  have e : pyOf (.lst (ks.map eP)) = .list (pyOfL (ks.map eP)) := rfl
  have h := depthAll_P ks
  have e2 : PyData.depth (.list (pyOfL (ks.map eP))) = PyData.depthAll (pyOfL (ks.map eP)) + 1 := rfl
  have e3 : PyData.canLay0 (.list (pyOfL (ks.map eP))) = PyData.canLayAll0 (pyOfL (ks.map eP)) := rfl
  unfold SeqAt.shaped
  rw [e, e3, canAll_P, e2, Bool.true_and]
  exact decide_eq_true (by omega)
theorem dIndex_eq {ks : List Pr} {p : Pr} (hp : p ∈ ks) : dIndex (eL eP ks) (eP p) = some (.int (ks.idxOf p : Nat)) := by
  unfold dIndex eL
  have s1 := shapedL_P ks
  have e := idxD_map 0 ks p hp
  simp only [Nat.zero_add] at e
  simp only [okL_map (n := 30) (e := eP) (fun a => okD_eP 29 a), okD_eP 29 p, s1, shaped_P, Bool.and_self, if_true, if_t, e, omap_some]
/-! ### what two groupings say -/
def differ (g h : G) (p : Pr) : Bool := same g p != same h p
def splt (ps : List Pr) (g h : G) : List Pr := ps.filter (differ g h)
/-! ### slices -/
theorem cut_from {ds : List D} {k : Nat} : cutD ds (some (k : Int)) none = ds.drop k := by
  unfold cutD
  rw [HT.sIx_nat, HT.sIx_none]
  by_cases h : k ≤ ds.length
  · rw [Nat.min_eq_left h, List.take_of_length_le (by simp)]
  · have h' : ds.length ≤ k := by omega
    rw [Nat.min_eq_right h', List.drop_eq_nil_of_le h', Nat.sub_self, List.take_zero]
theorem slice_from {ds : List D} {k : Nat} : sliceD (.tup ds) (some (k : Int)) none = some (.tup (ds.drop k)) := by
  rw [← cut_from (ds := ds)]
  rfl
/-! ### rivals -/
def rv (t : Gl3) (s : List Pr) (g h : G) : Bool := !vEq t g h && (splt s g h).isEmpty
def riv (t : Gl3) (s : List Pr) : List G → Option (G × G)
  | [] => none
  | g :: gs => ((gs.find? (rv t s g)).map fun h => (g, h)).or (riv t s gs)
def eR : Option (G × G) → D
  | none => .non
  | some q => .tup [eG q.1, eG q.2]
@[simp] theorem isNon_eR (o : Option (G × G)) : isNon (eR o) = o.isNone := by cases o <;> rfl
theorem dEq_empty (xs : List Pr) : dEq (eL eP xs) (.lst []) = some (.bl xs.isEmpty) := by
  unfold eL
  rw [dEq_ok (by rw [okD_lst, okL_map fun a => okD_eP 28 a]) rfl]
  cases xs <;> simp
theorem zipIdx_cons' {α : Type} {x : α × Nat} {xs : List (α × Nat)} {rest : List α} {k : Nat} (h : x :: xs = rest.zipIdx k) : ∃ y ys, rest = y :: ys ∧ x = (y, k) ∧ xs = ys.zipIdx (k + 1) := by
  cases rest with
  | nil => simp at h
  | cons y ys =>
    rw [List.zipIdx_cons] at h
    simp at h
    exact ⟨y, ys, rfl, h.1, h.2⟩
/-! ### the law's words for the same -/
theorem eqD_str (x y : Str) : eqD (.str x) (.str y) = (x == y) := by simp [eqD]
theorem dEq_str (x y : Str) : dEq (.str x) (.str y) = some (.bl (x == y)) := by rw [dEq_ok (by simp) (by simp), eqD_str]
theorem filter_countP (g : G) (x : Int) : (g.filter fun y => y == x).length = g.countP (· == x) := by rw [List.countP_eq_length_filter]
/-! ### all sets of pairs -/
def sets (ps : List Pr) : List (List Pr) := ps.foldl (fun acc p => acc ++ acc.map fun s => s ++ [p]) [[]]
theorem sets_snoc (ps : List Pr) (p : Pr) : sets (ps ++ [p]) = sets ps ++ (sets ps).map fun s => s ++ [p] := by simp [sets, List.foldl_append]
theorem sets_len (ps : List Pr) : (sets ps).length = 2 ^ ps.length := by
  have key : ∀ (ps : List Pr) (acc : List (List Pr)), (ps.foldl (fun acc p => acc ++ acc.map fun s => s ++ [p]) acc).length = 2 ^ ps.length * acc.length := by
    intro ps
    induction ps with
    | nil => simp
    | cons p ps ih =>
      intro acc
      rw [List.foldl_cons, ih, List.length_append, List.length_map, List.length_cons, Nat.pow_succ, Nat.mul_assoc]
      congr 1
      omega
  rw [sets, key]
  simp
theorem sets_mem_sub {ps : List Pr} {s : List Pr} (h : s ∈ sets ps) : s.Sublist ps := by
  have key : ∀ (ps pre : List Pr) (acc : List (List Pr)), (∀ s ∈ acc, s.Sublist pre) → ∀ s ∈ ps.foldl (fun acc p => acc ++ acc.map fun s => s ++ [p]) acc, s.Sublist (pre ++ ps) := by
    intro ps
    induction ps with
    | nil => intro pre acc h s hs; simpa using h s hs
    | cons p ps ih =>
      intro pre acc h s hs
      rw [List.foldl_cons] at hs
      have := ih (pre ++ [p]) (acc ++ acc.map fun s => s ++ [p]) (fun s hs => ?_) s hs
      · simpa using this
      · rcases List.mem_append.mp hs with h1 | h1
        · exact (h s h1).trans (List.sublist_append_left _ _)
        · obtain ⟨u, hu, rfl⟩ := List.mem_map.mp h1
          exact (h u hu).append (List.Sublist.refl _)
  have := key ps [] [[]] (by simp) s h
  simpa using this
theorem sub_sets_mem {ps : List Pr} {s : List Pr} (h : s.Sublist ps) : s ∈ sets ps := by
  have key : ∀ (ps : List Pr) (acc : List (List Pr)) (s u : List Pr), s.Sublist ps → u ∈ acc → u ++ s ∈ ps.foldl (fun acc p => acc ++ acc.map fun s => s ++ [p]) acc := by
    intro ps
    induction ps with
    | nil => intro acc s u hs hu; cases hs; simpa using hu
    | cons p ps ih =>
      intro acc s u hs hu
      rw [List.foldl_cons]
      cases hs with
      | cons _ hs => exact ih _ s u hs (List.mem_append_left _ hu)
      | cons_cons _ hs =>
        rename_i s'
        have := ih (acc ++ acc.map fun s => s ++ [p]) s' (u ++ [p]) hs (List.mem_append_right _ (List.mem_map.mpr ⟨u, hu, rfl⟩))
        simpa using this
  have := key ps [[]] s [] h (by simp)
  simpa [sets] using this
/-! ### in -/
theorem any_map {α : Type} [DecidableEq α] {e : α → D} (he : ∀ a b, eqD (e a) (e b) = decide (a = b)) (x : α) : ∀ xs : List α, (((xs.map e).any fun z => eqD z (e x)) = true ↔ x ∈ xs)
  | [] => by simp
  | z :: zs => by
    have ih := any_map he x zs
    rw [List.map_cons, List.any_cons, he, Bool.or_eq_true, ih, List.mem_cons, decide_eq_true_iff]
    constructor
    · rintro (h | h)
      · exact .inl h.symm
      · exact .inr h
    · rintro (h | h)
      · exact .inl h.symm
      · exact .inr h
theorem in_map {α : Type} [DecidableEq α] {e : α → D} (he : ∀ a b, eqD (e a) (e b) = decide (a = b)) (ok : ∀ a, okD 30 (e a) = true) (f : Bool → Bool) (x : α) (xs : List α) [inst : Decidable (x ∈ xs)] {y : D} (hy : y = .lst (xs.map e) ∨ y = .tup (xs.map e)) : inAny f (e x) y = some (.bl (f (decide (x ∈ xs)))) := by
  have key : inD f (e x) y = some (.bl (f (decide (x ∈ xs)))) := by
    unfold inD
    have e1 : seqOf y = some (xs.map e) := by rcases hy with rfl | rfl <;> rfl
    rw [e1]
    simp only [obind_some, ok, okL_map ok, Bool.and_self, if_true, if_t]
    congr 3
    have q := any_map he x xs
    by_cases c : x ∈ xs
    · rw [q.mpr c, decide_eq_true c]
    · rw [decide_eq_false c]
      cases z : (xs.map e).any fun z => eqD z (e x) with
      | true => exact (c (q.mp z)).elim
      | false => rfl
  rcases hy with rfl | rfl <;> exact key
theorem in_G (f : Bool → Bool) (g : G) (V : List G) : inAny f (eG g) (eT eG V) = some (.bl (f (decide (g ∈ V)))) := in_map eqD_eG (okD_eG 29) f g V (.inr rfl)
theorem in_P (f : Bool → Bool) (p : Pr) (s : List Pr) : inAny f (eP p) (eT eP s) = some (.bl (f (decide (p ∈ s)))) := in_map eqD_eP (okD_eP 29) f p s (.inr rfl)
theorem in_S (f : Bool → Bool) (s : List Pr) (ss : List (List Pr)) : inAny f (eT eP s) (eL (eT eP) ss) = some (.bl (f (decide (s ∈ ss)))) := in_map (eqD_eT eqD_eP) (okD_eT (okD_eP 28)) f s ss (.inl rfl)
/-! ### trees -/
inductive Tr where
  | leaf
  | node (g h : G) (ts : List Tr)
mutual
def eTr : Tr → D
  | .leaf => .non
  | .node g h ts => .tup [eG g, eG h, .tup (eTrs ts)]
def eTrs : List Tr → List D
  | [] => []
  | t :: ts => eTr t :: eTrs ts
end
theorem eTrs_map : ∀ ts : List Tr, eTrs ts = ts.map eTr
  | [] => by simp [eTrs]
  | t :: ts => by simp [eTrs, eTrs_map ts]
theorem eTr_leaf : eTr .leaf = .non := by simp [eTr]
theorem eTr_node (g h : G) (ts : List Tr) : eTr (.node g h ts) = .tup [eG g, eG h, .tup (ts.map eTr)] := by simp [eTr, eTrs_map]
def Dp : Nat → Tr → Prop
  | 0, _ => False
  | _ + 1, .leaf => True
  | k + 1, .node _ _ ts => ∀ t ∈ ts, Dp k t
theorem Dp.mono : ∀ {k j : Nat} {t : Tr}, Dp k t → k ≤ j → Dp j t
  | 0, _, _, h, _ => h.elim
  | k + 1, 0, _, _, h => by omega
  | k + 1, j + 1, .leaf, _, _ => trivial
  | k + 1, j + 1, .node _ _ ts, h, hj => fun t ht => (h t ht).mono (by omega)
def dearN (V : List G) (t : Gl3) (ps : List Pr) (tab : List (Pr × Int)) (least : Int) : Nat → List Pr → Tr → Bool
  | 0, _, _ => false
  | _ + 1, s, .leaf => decide (least ≤ prS tab s)
  | k + 1, s, .node g h ts => decide (g ∈ V) && decide (h ∈ V) && !vEq t g h && !((splt ps g h).any fun p => decide (p ∈ s)) && decide (ts.length = (splt ps g h).length) && ((splt ps g h).zip ts).all fun q => dearN V t ps tab least k (s ++ [q.1]) q.2
theorem zipD_map {α β : Type} (e : α → D) (f : β → D) : ∀ (xs : List α) (ys : List β), zipD (xs.map e) (ys.map f) = (xs.zip ys).map fun q => D.tup [e q.1, f q.2]
  | [], _ => by simp [zipD]
  | _ :: _, [] => by simp [zipD]
  | x :: xs, y :: ys => by simp [zipD, zipD_map e f xs ys]
theorem splt_sub {ps : List Pr} {g h : G} {p : Pr} (hp : p ∈ splt ps g h) : p ∈ ps := (List.mem_filter.mp hp).1
/-- what is fixed in a task -/
structure Tsk (n : Nat) (V : List G) (ps : List Pr) (vs : List Int) : Prop where
  h1 : 1 ≤ n
  hn : n ≤ 10
  hV : ∀ g ∈ V, g.length = n
  hl : ps.length = vs.length
  hp : ∀ p ∈ ps, InP n p
  hz : ps.length ≤ 10
variable {n : Nat} {V : List G} {ps : List Pr} {vs : List Int} {t : Gl3}
theorem Tsk.ne (T : Tsk n V ps vs) {g : G} (h : g ∈ V) : g ≠ [] := by
  intro z
  subst z
  have := T.hV _ h
  have := T.h1
  simp at *
  omega
theorem zip_fst : ∀ {ps : List Pr} {vs : List Int}, ps.length = vs.length → (ps.zip vs).map (fun q => eP q.1) = ps.map eP
  | [], _, _ => by simp
  | p :: ps, [], h => by simp at h
  | p :: ps, v :: vs, h => by simp [zip_fst (ps := ps) (vs := vs) (by simpa using h)]
/-! ### the tree that is found -/
theorem len_sub {α : Type} [DecidableEq α] : ∀ (s ps : List α), s.Nodup → (∀ p ∈ s, p ∈ ps) → s.length ≤ ps.length
  | [], _, _, _ => Nat.zero_le _
  | x :: s, ps, nd, h => by
    obtain ⟨n1, n2⟩ := List.nodup_cons.mp nd
    have hx := h x List.mem_cons_self
    have ih := len_sub s (ps.erase x) n2 fun p hp => by
      have hne : p ≠ x := fun z => n1 (z ▸ hp)
      exact (List.mem_erase_of_ne hne).mpr (h p (List.mem_cons_of_mem _ hp))
    rw [List.length_erase_of_mem hx] at ih
    have := List.length_pos_of_mem hx
    simp
    omega
theorem riv_spec {t : Gl3} {s : List Pr} : ∀ {V : List G} {g h : G}, riv t s V = some (g, h) → g ∈ V ∧ h ∈ V ∧ vEq t g h = false ∧ splt s g h = []
  | [], _, _, e => by cases e
  | a :: V, g, h, e => by
    have e : ((V.find? (rv t s a)).map fun h => (a, h)).or (riv t s V) = some (g, h) := e
    cases q : V.find? (rv t s a) with
    | some b =>
      rw [q] at e
      simp at e
      obtain ⟨rfl, rfl⟩ := e
      have h1 := List.find?_some q
      have h2 := List.mem_of_find?_eq_some q
      simp [rv] at h1
      exact ⟨List.mem_cons_self, List.mem_cons_of_mem _ h2, h1.1, h1.2⟩
    | none =>
      rw [q] at e
      simp at e
      obtain ⟨h1, h2, h3, h4⟩ := riv_spec e
      exact ⟨List.mem_cons_of_mem _ h1, List.mem_cons_of_mem _ h2, h3, h4⟩
def treeN (V : List G) (t : Gl3) (ps : List Pr) (tab : List (Pr × Int)) (least : Int) : Nat → List Pr → Tr
  | 0, _ => .leaf
  | k + 1, s => if least ≤ prS tab s then .leaf else match riv t s V with
    | none => .leaf
    | some q => .node q.1 q.2 ((splt ps q.1 q.2).map fun p => treeN V t ps tab least k (s ++ [p]))
theorem new_pair {ps s : List Pr} {g h : G} (h0 : splt s g h = []) {p : Pr} (hp : p ∈ splt ps g h) : p ∈ ps ∧ p ∉ s := by
  obtain ⟨h1, h2⟩ := List.mem_filter.mp hp
  refine ⟨h1, fun z => ?_⟩
  have : p ∈ splt s g h := List.mem_filter.mpr ⟨z, h2⟩
  rw [h0] at this
  cases this
theorem nodup_snoc {s : List Pr} {p : Pr} (h : s.Nodup) (hp : p ∉ s) : (s ++ [p]).Nodup := by
  rw [List.nodup_append]
  refine ⟨h, by simp, ?_⟩
  intro a ha b hb
  simp at hb
  subst hb
  exact fun z => hp (z ▸ ha)
theorem sub_snoc {ps s : List Pr} {p : Pr} (hs : ∀ p ∈ s, p ∈ ps) (hp : p ∈ ps) : ∀ q ∈ s ++ [p], q ∈ ps := fun q hq => by
  rcases List.mem_append.mp hq with z | z
  · exact hs q z
  · simp at z; rw [z]; exact hp
/-- what the found tree asks: pairs whose price is less leave rivals -/
def Lss (V : List G) (t : Gl3) (ps : List Pr) (tab : List (Pr × Int)) (least : Int) : Prop := ∀ s : List Pr, s.Nodup → (∀ p ∈ s, p ∈ ps) → prS tab s < least → riv t s V ≠ none
theorem treeN_ok (T : Tsk n V ps vs) {least : Int} (hL : Lss V t ps (ps.zip vs) least) : ∀ (k : Nat) (s : List Pr), s.Nodup → (∀ p ∈ s, p ∈ ps) → ps.length < s.length + k →
    dearN V t ps (ps.zip vs) least k s (treeN V t ps (ps.zip vs) least k s) = true
  | 0, s, nd, hs, hk => by
    have := len_sub s ps nd hs
    omega
  | k + 1, s, nd, hs, hk => by
    by_cases c : least ≤ prS (ps.zip vs) s
    · simp [treeN, c, dearN]
    · have hr := hL s nd hs (by omega)
      cases q : riv t s V with
      | none => exact (hr q).elim
      | some gh =>
        obtain ⟨g, h⟩ := gh
        obtain ⟨hg, hh, h3, h4⟩ := riv_spec q
        have e1 : ((splt ps g h).any fun p => decide (p ∈ s)) = false := by
          rw [List.any_eq_false]
          intro p hp
          simp
          exact (new_pair h4 hp).2
        simp only [treeN, c, if_false, q, dearN, hg, hh, decide_true, h3, e1, Bool.not_false, Bool.and_self, List.length_map, Bool.true_and]
        rw [List.all_eq_true]
        intro r hr
        have e2 : (splt ps g h).zip ((splt ps g h).map fun p => treeN V t ps (ps.zip vs) least k (s ++ [p])) = (splt ps g h).map fun p => (p, treeN V t ps (ps.zip vs) least k (s ++ [p])) := by
          generalize splt ps g h = l
          induction l with
          | nil => rfl
          | cons x l ih => simp [ih]
        rw [e2] at hr
        obtain ⟨p, hp, rfl⟩ := List.mem_map.mp hr
        obtain ⟨p1, p2⟩ := new_pair h4 hp
        exact treeN_ok T hL k (s ++ [p]) (nodup_snoc nd p2) (sub_snoc hs p1) (by simp; omega)
/-- every node has branches -/
def Dn : Nat → Tr → Prop
  | 0, _ => False
  | _ + 1, .leaf => True
  | k + 1, .node g _ ts => g.length ≤ 10 ∧ ts ≠ [] ∧ ts.length ≤ 100 ∧ ∀ t ∈ ts, Dn k t
theorem Dn.dp : ∀ {k : Nat} {t : Tr}, Dn k t → Dp k t
  | 0, _, h => h.elim
  | k + 1, .leaf, _ => trivial
  | k + 1, .node _ _ ts, h => fun t ht => (h.2.2.2 t ht).dp
theorem treeN_dn (T : Tsk n V ps vs) {least : Int} (hD : ∀ g ∈ V, ∀ h ∈ V, vEq t g h = false → splt ps g h ≠ []) : ∀ (k : Nat) (s : List Pr), s.Nodup → (∀ p ∈ s, p ∈ ps) → ps.length < s.length + k →
    Dn k (treeN V t ps (ps.zip vs) least k s)
  | 0, s, nd, hs, hk => by
    have := len_sub s ps nd hs
    omega
  | k + 1, s, nd, hs, hk => by
    by_cases c : least ≤ prS (ps.zip vs) s
    · simp [treeN, c, Dn]
    · cases q : riv t s V with
      | none => simp [treeN, c, q, Dn]
      | some gh =>
        obtain ⟨g, h⟩ := gh
        obtain ⟨hg, hh, h3, h4⟩ := riv_spec q
        simp only [treeN, c, if_false, q, Dn]
        refine ⟨by rw [T.hV g hg]; exact T.hn, by simp; exact hD g hg h hh h3, ?_, fun t ht => ?_⟩
        · have := T.hz
          have : (splt ps g h).length ≤ ps.length := List.length_filter_le _ _
          simp
          omega
        · obtain ⟨p, hp, rfl⟩ := List.mem_map.mp ht
          obtain ⟨p1, p2⟩ := new_pair h4 hp
          exact treeN_dn T hD k (s ++ [p]) (nodup_snoc nd p2) (sub_snoc hs p1) (by simp; omega)
/-! ### changed trees -/
theorem slice_init {ds : List D} : sliceD (.tup ds) none (some (-1)) = some (.tup ds.dropLast) := by
  show some (D.tup (cutD ds none (some (-1)))) = _
  congr 2
  unfold cutD HT.sIx
  simp
  rw [List.dropLast_eq_take]
  congr 1
  omega
theorem slice_to {ds : List D} {k : Nat} : sliceD (.lst ds) none (some (k : Int)) = some (.lst (ds.take k)) := by
  show some (D.lst (cutD ds none (some (k : Int)))) = _
  congr 2
  unfold cutD
  rw [HT.sIx_nat, HT.sIx_none]
  simp
theorem dMul_non {m : Nat} (h1 : 1 ≤ m) (h2 : m ≤ 1000) : dMul (.tup [.non]) (.int m) = some (.tup (List.replicate m .non)) := by
  have e : (List.replicate m [D.non]).flatten = List.replicate m .non := by
    induction m with
    | zero => rfl
    | succ m ih =>
      cases m with
      | zero => rfl
      | succ m => rw [List.replicate_succ, List.flatten_cons, ih (by omega) (by omega)]; rfl
  show (if (decide (1 ≤ (m : Int)) && decide ((m : Int) ≤ 1000) && decide ([D.non].length ≤ 1000) && !([D.non].isEmpty)) = true then some (D.tup (List.replicate (m : Int).toNat [D.non]).flatten) else none) = _
  rw [if_pos (by simp; omega), Int.toNat_natCast, e]
theorem tupRg_eq {m : Nat} (h : m ≤ 1000) : tupRg (.int m) = some (eG ((List.range m).map fun (i : Nat) => (i : Int))) := by
  show (if (decide (0 ≤ (m : Int)) && decide ((m : Int) ≤ 16777216)) = true then some (D.tup (rgD m)) else none) = _
  rw [if_pos (by simp; omega)]
  simp [rgD, eG, Function.comp_def]
end
section
variable {n : Nat} {V : List G} {ps : List Pr} {vs : List Int} {t : Gl3}
/-! ### the least by a key -/
theorem lt_first {a b : Int} {xs ys : List PyData} : (PySem.W.dataLt (.tuple (.int a :: xs)) (.tuple (.int b :: ys)) = true → a ≤ b) ∧ (PySem.W.dataLt (.tuple (.int a :: xs)) (.tuple (.int b :: ys)) = false → b ≤ a) := by
  have e : PySem.W.dataLt (.tuple (.int a :: xs)) (.tuple (.int b :: ys)) = PyProof.Rows.lexLt PyProof.Rows.itemOrd (.inl a :: PySem.W.keyToksAll xs) (.inl b :: PySem.W.keyToksAll ys) := by
    show PyProof.Rows.lexLt PyProof.Rows.itemOrd (.inl 1 :: (.inl a :: PySem.W.keyToksAll xs)) (.inl 1 :: (.inl b :: PySem.W.keyToksAll ys)) = _
    rw [PyProof.Rows.lex_cons]
    show (decide ((1 : Int) < 1) || (!decide ((1 : Int) < 1) && _)) = _
    simp
  rw [e, PyProof.Rows.lex_cons]
  have e1 : PyProof.Rows.itemOrd.blt (.inl a) (.inl b) = decide (a < b) := rfl
  have e2 : PyProof.Rows.itemOrd.blt (.inl b) (.inl a) = decide (b < a) := rfl
  rw [e1, e2]
  constructor
  · intro h
    by_cases c : a < b
    · omega
    · by_cases c2 : b < a
      · simp [c, c2] at h
      · omega
  · intro h
    by_cases c : a < b
    · simp [c] at h
    · omega
theorem goK_spec {α : Type} {f : D → Option D} {e : α → D} {key : α → D} {p : α → Int} (P : α → Prop) (hf : ∀ x, P x → f (e x) = some (key x)) (hk : ∀ x y, ∃ b, ltK (key x) (key y) = some b ∧ (b = true → p x ≤ p y) ∧ (b = false → p y ≤ p x)) :
    ∀ (xs : List α) (y : α), (∀ x ∈ xs, P x) → P y → ∃ z, goK f (e y) (key y) (xs.map e) = some (e z) ∧ (z = y ∨ z ∈ xs) ∧ p z ≤ p y ∧ ∀ x ∈ xs, p z ≤ p x
  | [], y, _, _ => ⟨y, rfl, .inl rfl, Int.le_refl _, by simp⟩
  | x :: xs, y, hx, hy => by
    obtain ⟨b, h1, h2, h3⟩ := hk x y
    have fx := hf x (hx x List.mem_cons_self)
    have hx' : ∀ z ∈ xs, P z := fun z hz => hx z (List.mem_cons_of_mem _ hz)
    cases b with
    | true =>
      obtain ⟨z, g1, g2, g3, g4⟩ := goK_spec P hf hk xs x hx' (hx x List.mem_cons_self)
      refine ⟨z, ?_, ?_, by have := h2 rfl; omega, fun w hw => ?_⟩
      · simp [goK, fx, h1, g1]
      · rcases g2 with rfl | g2
        · exact .inr List.mem_cons_self
        · exact .inr (List.mem_cons_of_mem _ g2)
      · rcases List.mem_cons.mp hw with rfl | hw
        · exact g3
        · exact g4 w hw
    | false =>
      obtain ⟨z, g1, g2, g3, g4⟩ := goK_spec P hf hk xs y hx' hy
      refine ⟨z, ?_, ?_, g3, fun w hw => ?_⟩
      · simp [goK, fx, h1, g1]
      · rcases g2 with rfl | g2
        · exact .inl rfl
        · exact .inr (List.mem_cons_of_mem _ g2)
      · rcases List.mem_cons.mp hw with rfl | hw
        · have := h3 rfl; omega
        · exact g4 w hw
theorem minKD_spec {α : Type} {f : D → Option D} {e : α → D} {key : α → D} {p : α → Int} {xs : List α} (hf : ∀ x ∈ xs, f (e x) = some (key x)) (hk : ∀ x y, ∃ b, ltK (key x) (key y) = some b ∧ (b = true → p x ≤ p y) ∧ (b = false → p y ≤ p x)) (hx : xs ≠ []) :
    ∃ z, minKD f (xs.map e) = some (e z) ∧ z ∈ xs ∧ ∀ x ∈ xs, p z ≤ p x := by
  cases xs with
  | nil => exact (hx rfl).elim
  | cons y ys =>
    obtain ⟨z, g1, g2, g3, g4⟩ := goK_spec (fun x => x ∈ y :: ys) hf hk ys y (fun x hx => List.mem_cons_of_mem _ hx) List.mem_cons_self
    refine ⟨z, ?_, ?_, fun w hw => ?_⟩
    · simp [minKD, hf y List.mem_cons_self, g1]
    · rcases g2 with rfl | g2
      · exact List.mem_cons_self
      · exact List.mem_cons_of_mem _ g2
    · rcases List.mem_cons.mp hw with rfl | hw
      · exact g3
      · exact g4 w hw
theorem pyOfL_P (s : List Pr) : pyOfL (s.map eP) = s.map fun p => PyData.tuple [.int p.1, .int p.2] := by
  induction s with
  | nil => rfl
  | cons p s ih => show pyOf (eP p) :: pyOfL (s.map eP) = _; rw [ih, pyP] <;> rfl
theorem alike_P : ∀ s u : List Pr, PySem.W.alikeAll (s.map fun p => PyData.tuple [.int p.1, .int p.2]) (u.map fun p => PyData.tuple [.int p.1, .int p.2]) = true
  | [], _ => by simp [PySem.W.alikeAll]
  | _ :: _, [] => by simp [PySem.W.alikeAll]
  | p :: s, q :: u => by
    simp [PySem.W.alikeAll, PySem.W.alike, alike_P s u]
/-! ### the found answer -/
structure Sit (n : Nat) (lo hi : Int) (V : List G) (vs : List Int) (as : List Ans) (t : Gl3) : Prop where
  h2 : 2 ≤ n
  h4 : n ≤ 4
  hl : vs.length = (prs n).length
  hp : ∀ p ∈ vs, 1 ≤ p ∧ p ≤ 9
  ha : ∀ a ∈ as, InA n a
  hz : as.length ≤ 20
  hV : V = view (rowsOf n lo hi) as
  hne : V ≠ []
variable {lo hi : Int} {as : List Ans}
theorem prs_nodup {n : Nat} (h4 : n ≤ 4) : (prs n).Nodup := by
  have : n = 0 ∨ n = 1 ∨ n = 2 ∨ n = 3 ∨ n = 4 := by omega
  rcases this with rfl | rfl | rfl | rfl | rfl <;> decide
theorem prs_le {n : Nat} (h4 : n ≤ 4) : (prs n).length ≤ 6 := by
  have : n = 0 ∨ n = 1 ∨ n = 2 ∨ n = 3 ∨ n = 4 := by omega
  rcases this with rfl | rfl | rfl | rfl | rfl <;> decide
theorem Sit.mem (S : Sit n lo hi V vs as t) {g : G} (h : g ∈ V) : g ∈ rowsOf n lo hi := by
  rw [S.hV] at h
  exact (List.mem_filter.mp h).1
theorem Sit.tsk (S : Sit n lo hi V vs as t) : Tsk n V (prs n) vs := by
  have h2 := S.h2
  have h4 := S.h4
  exact ⟨by omega, by omega, fun g h => rowsOf_len (by omega) (S.mem h), S.hl.symm, fun p h => (prs_in h).1, by have := prs_le h4; omega⟩
abbrev tabOf (n : Nat) (vs : List Int) : List (Pr × Int) := (prs n).zip vs
abbrev sitPool (n : Nat) (lo hi : Int) : D := ePool n lo hi (rowsOf n lo hi)
def able (t : Gl3) (V : List G) (n : Nat) : List (List Pr) := (sets (prs n)).filter fun s => (riv t s V).isNone
theorem able_sub {s : List Pr} (h : s ∈ able t V n) : s ∈ sets (prs n) ∧ riv t s V = none := by
  obtain ⟨h1, h2⟩ := List.mem_filter.mp h
  exact ⟨h1, by simpa using h2⟩
theorem sets_prs {n : Nat} (h4 : n ≤ 4) : (sets (prs n)).length ≤ 64 := by
  rw [sets_len]
  calc 2 ^ (prs n).length ≤ 2 ^ 6 := Nat.pow_le_pow_right (by omega) (prs_le h4)
    _ = 64 := rfl
theorem sets_in {n : Nat} {s : List Pr} (h : s ∈ sets (prs n)) : (∀ p ∈ s, p ∈ prs n) ∧ s.length ≤ (prs n).length := ⟨fun p hp => (sets_mem_sub h).subset hp, (sets_mem_sub h).length_le⟩
theorem able_eq (S : Sit n lo hi V vs as t) (fD : Env → Option D) (env : Env) (ix : Nat) (me : Env → Option D) (nt : Env → Option Bool) (vsx : List Nat) : True := trivial
theorem gps_differ {n : Nat} (h4 : n ≤ 4) : ∀ g ∈ gps n, ∀ h ∈ gps n, g ≠ h → splt (prs n) g h ≠ [] := by
  have : n = 0 ∨ n = 1 ∨ n = 2 ∨ n = 3 ∨ n = 4 := by omega
  rcases this with rfl | rfl | rfl | rfl | rfl <;> decide +kernel
theorem vEq_refl (t : Gl3) (g : G) : vEq t g g = true := by cases t <;> simp [vEq]
theorem Sit.diff (S : Sit n lo hi V vs as t) : ∀ g ∈ V, ∀ h ∈ V, vEq t g h = false → splt (prs n) g h ≠ [] := fun g hg h hh e => by
  refine gps_differ S.h4 g (List.mem_filter.mp (S.mem hg)).1 h (List.mem_filter.mp (S.mem hh)).1 fun z => ?_
  subst z
  rw [vEq_refl] at e
  cases e
theorem able_full (S : Sit n lo hi V vs as t) : prs n ∈ able t V n := by
  refine List.mem_filter.mpr ⟨sub_sets_mem (List.Sublist.refl _), ?_⟩
  cases q : riv t (prs n) V with
  | none => rfl
  | some gh =>
    obtain ⟨g, h⟩ := gh
    obtain ⟨h1, h2, h3, h4⟩ := riv_spec q
    exact (S.diff g h1 h h2 h3 h4).elim
def leastOf (t : Gl3) (V : List G) (n : Nat) (vs : List Int) : Int := match (able t V n).map (prS (tabOf n vs)) with
  | [] => 0
  | p :: ps => ps.foldl min p
theorem foldl_min : ∀ (ps : List Int) (p : Int), (ps.foldl min p = p ∨ ps.foldl min p ∈ ps) ∧ ps.foldl min p ≤ p ∧ ∀ q ∈ ps, ps.foldl min p ≤ q
  | [], p => ⟨.inl rfl, Int.le_refl _, by simp⟩
  | x :: ps, p => by
    obtain ⟨h1, h2, h3⟩ := foldl_min ps (min p x)
    refine ⟨?_, ?_, fun q hq => ?_⟩
    · rcases h1 with h1 | h1
      · rw [List.foldl_cons, h1]
        by_cases c : p ≤ x
        · exact .inl (Int.min_eq_left c)
        · exact .inr (by rw [Int.min_eq_right (by omega)]; exact List.mem_cons_self)
      · exact .inr (List.mem_cons_of_mem _ h1)
    · rw [List.foldl_cons]; omega
    · rw [List.foldl_cons]
      rcases List.mem_cons.mp hq with rfl | hq
      · omega
      · exact h3 q hq
theorem leastOf_spec (S : Sit n lo hi V vs as t) : (∃ s ∈ able t V n, prS (tabOf n vs) s = leastOf t V n vs) ∧ ∀ s ∈ able t V n, leastOf t V n vs ≤ prS (tabOf n vs) s := by
  have hf := able_full S
  unfold leastOf
  cases q : (able t V n).map (prS (tabOf n vs)) with
  | nil =>
    have : able t V n = [] := by simpa using q
    rw [this] at hf
    cases hf
  | cons p ps =>
    obtain ⟨h1, h2, h3⟩ := foldl_min ps p
    have mem : ∀ x, x ∈ p :: ps → ∃ s ∈ able t V n, prS (tabOf n vs) s = x := fun x hx => by
      rw [← q] at hx
      exact List.mem_map.mp hx
    refine ⟨?_, fun s hs => ?_⟩
    · rcases h1 with h1 | h1
      · show ∃ s ∈ able t V n, prS (tabOf n vs) s = ps.foldl min p
        rw [h1]
        exact mem p List.mem_cons_self
      · exact mem _ (List.mem_cons_of_mem _ h1)
    · have : prS (tabOf n vs) s ∈ p :: ps := by
        rw [← q]
        exact List.mem_map.mpr ⟨s, hs, rfl⟩
      rcases List.mem_cons.mp this with z | z
      · rw [z]; exact h2
      · exact h3 _ z
theorem dMM_min {α : Type} (f : α → Int) (xs : List α) (hx : xs ≠ []) : dMM min [.lst (xs.map fun x => D.int (f x))] = some (.int (match xs.map f with | [] => 0 | p :: ps => ps.foldl min p)) := by
  cases xs with
  | nil => exact (hx rfl).elim
  | cons x xs =>
    show foldI min (D.int (f x) :: xs.map fun x => D.int (f x)) = _
    unfold foldI
    simp [intsOf_map]
/-! ### sets that cost less leave rivals -/
theorem sum_perm {l m : List Int} (h : l.Perm m) : l.sum = m.sum := by
  induction h with
  | nil => rfl
  | cons x _ ih => simp [ih]
  | swap x y l => simp; omega
  | trans _ _ a b => exact a.trans b
theorem splt_nil {s u : List Pr} (h : ∀ p, p ∈ s ↔ p ∈ u) (g g' : G) : (splt s g g').isEmpty = (splt u g g').isEmpty := by
  have e : ∀ {s u : List Pr}, (∀ p, p ∈ s ↔ p ∈ u) → (splt s g g').isEmpty = true → (splt u g g').isEmpty = true := fun {s u} h e => by
    rw [List.isEmpty_iff] at e ⊢
    rw [List.eq_nil_iff_forall_not_mem] at e ⊢
    intro p hp
    obtain ⟨h1, h2⟩ := List.mem_filter.mp hp
    exact e p (List.mem_filter.mpr ⟨(h p).mpr h1, h2⟩)
  cases a : (splt s g g').isEmpty with
  | true => exact (e h a).symm
  | false =>
    cases b : (splt u g g').isEmpty with
    | true =>
      have := e (fun p => (h p).symm) b
      rw [a] at this
      cases this
    | false => rfl
theorem riv_congr {t : Gl3} {s u : List Pr} (h : ∀ p, p ∈ s ↔ p ∈ u) : ∀ V : List G, riv t s V = riv t u V
  | [] => rfl
  | g :: V => by
    have e : rv t s g = rv t u g := by
      funext g'
      unfold rv
      rw [splt_nil h]
    show ((V.find? (rv t s g)).map fun h => (g, h)).or (riv t s V) = ((V.find? (rv t u g)).map fun h => (g, h)).or (riv t u V)
    rw [e, riv_congr h V]
theorem lss (S : Sit n lo hi V vs as t) : Lss V t (prs n) (tabOf n vs) (leastOf t V n vs) := fun s nd hs hlt hr => by
  have hm : ∀ p, p ∈ (prs n).filter (fun p => decide (p ∈ s)) ↔ p ∈ s := fun p => by
    simp only [List.mem_filter, decide_eq_true_iff]
    exact ⟨fun h => h.2, fun h => ⟨hs p h, h⟩⟩
  have hp : ((prs n).filter fun p => decide (p ∈ s)).Perm s := (List.perm_ext_iff_of_nodup ((prs_nodup S.h4).filter _) nd).mpr hm
  have hable : (prs n).filter (fun p => decide (p ∈ s)) ∈ able t V n := by
    refine List.mem_filter.mpr ⟨sub_sets_mem List.filter_sublist, ?_⟩
    rw [riv_congr hm V, hr] <;> rfl
  have h1 := (leastOf_spec S).2 _ hable
  have h2 : prS (tabOf n vs) ((prs n).filter fun p => decide (p ∈ s)) = prS (tabOf n vs) s := by
    unfold prS
    exact sum_perm (hp.map _)
  omega
/-! ### what is shown -/
def okOnce (n : Nat) (V : List G) (t : Gl3) (vs : List Int) (c : List Pr) (tr : Tr) : Bool := decide (c ∈ sets (prs n)) && (riv t c V).isNone && dearN V t (prs n) (tabOf n vs) (prS (tabOf n vs) c) 20 [] tr
/-! ### the law's one turn -/
theorem ix_mod {α : Type} {e : α → D} {xs : List α} (hx : xs ≠ []) {v : Int} (hv : 0 ≤ v) : ∃ x ∈ xs, atI (xs.map e) (v % (xs.length : Int)) = some (e x) := by
  have hl : 0 < xs.length := List.length_pos_iff.mpr hx
  have h1 := Int.emod_nonneg v (b := (xs.length : Int)) (by omega)
  have h2 := Int.emod_lt_of_pos v (b := (xs.length : Int)) (by omega)
  have h3 : (v % (xs.length : Int)).toNat < xs.length := by omega
  refine ⟨xs[(v % (xs.length : Int)).toNat], List.getElem_mem _, atI_nn h1 ?_⟩
  rw [List.getElem?_map, List.getElem?_eq_getElem h3] <;> rfl
@[simp] theorem dInt_i (i : Int) : dInt [.int i] = some (.int i) := nr rfl
theorem mod_ok {i j : Int} (h : 0 < j) : dI2C (fun _ j => decide (0 < j)) (fun i j => i % j) (.int i) (.int j) = some (.int (i % j)) := by
  show (if decide (0 < j) = true then some (D.int (i % j)) else none) = _
  rw [if_pos (by simpa using h)]
theorem dne_int (i j : Int) : dNe (.int i) (.int j) = some (.bl (decide (i ≠ j))) := by
  rw [dNe_int]
  by_cases c : i = j <;> simp [c]
def OkO (n : Nat) (q : List Pr × Tr) : Prop := (∀ p ∈ q.1, p ∈ prs n) ∧ q.1.length ≤ 100 ∧ Dp 20 q.2
@[simp] theorem mNew_s (C : Nat) (ms : Env → Option (List D)) (mk : List D → Option (List (Option D))) (env : Env) : mNew C ms mk env = (ms env).bind fun ds => (mk ds).map (.obj C ·) := nr rfl
theorem law_rows_small (n : Nat) : True := trivial
theorem dearN_fuel (ps : List Pr) (tab : List (Pr × Int)) (least : Int) : ∀ (k j : Nat) (s : List Pr) (tr : Tr), Dp k tr → k ≤ j → dearN V t ps tab least j s tr = dearN V t ps tab least k s tr
  | 0, _, _, _, h, _ => h.elim
  | k + 1, 0, _, _, _, h => by omega
  | k + 1, j + 1, s, .leaf, _, _ => rfl
  | k + 1, j + 1, s, .node g h ts, hd, hk => by
    have e : ((splt ps g h).zip ts).all (fun q => dearN V t ps tab least j (s ++ [q.1]) q.2) = ((splt ps g h).zip ts).all (fun q => dearN V t ps tab least k (s ++ [q.1]) q.2) := by
      rw [Bool.eq_iff_iff, List.all_eq_true, List.all_eq_true]
      constructor
      · intro z q hq
        rw [← dearN_fuel ps tab least k j _ _ (hd q.2 (List.of_mem_zip hq).2) (by omega)]
        exact z q hq
      · intro z q hq
        rw [dearN_fuel ps tab least k j _ _ (hd q.2 (List.of_mem_zip hq).2) (by omega)]
        exact z q hq
    simp only [dearN, e]
theorem able_def (t : Gl3) (V : List G) (n : Nat) : (sets (prs n)).filter (fun s => (riv t s V).isNone) = able t V n := rfl
/-- numbers that are drawn -/
def Drawn (sc : D) : Prop := ∀ i : Int, 0 ≤ i → i ≤ 100000 → ∃ v : Int, 0 ≤ v ∧ f_law_number [sc, .int i] = some (.int v)
end
section
variable {n : Nat} {V : List G} {ps : List Pr} {vs : List Int} {t : Gl3} {lo hi : Int} {as : List Ans}
/-! ### numbers that are drawn -/
theorem dMul_small {i j : Int} (hi : -(2 ^ 60) < i) (hi' : i < 2 ^ 60) (hj : -(2 ^ 60) < j) (hj' : j < 2 ^ 60) : dMul (.int i) (.int j) = some (.int (i * j)) := by
  have lg : ∀ x : Int, -(2 ^ 60) < x → x < 2 ^ 60 → x.natAbs.log2 < 60 := fun x h h' => by
    by_cases z : x.natAbs = 0
    · rw [z]; decide
    · rw [Nat.log2_lt z]
      have : (2 : Int) ^ 60 = ((2 ^ 60 : Nat) : Int) := by norm_cast
      omega
  have h1 := lg i hi hi'
  have h2 := lg j hj hj'
  show (if decide (i.natAbs.log2 + j.natAbs.log2 < 100000000) = true then some (D.int (i * j)) else none) = _
  rw [if_pos (by simp; omega)]
theorem div_ok {i j : Int} (h : 0 < j) (h' : j < 2 ^ 60) : dI2C (fun _ j => decide (0 < j) && decide (j.natAbs.log2 < 9000)) (fun i j => i / j) (.int i) (.int j) = some (.int (i / j)) := by
  have lg : j.natAbs.log2 < 60 := by
    rw [Nat.log2_lt (by omega)]
    have : (2 : Int) ^ 60 = ((2 ^ 60 : Nat) : Int) := by norm_cast
    omega
  show (if (decide (0 < j) && decide (j.natAbs.log2 < 9000)) = true then some (D.int (i / j)) else none) = _
  rw [if_pos (by simp; omega)]
theorem drawn {ns : List Int} (hl : ns.length ≤ 63) : Drawn (.lst (ns.map D.int)) := by
  intro i i0 i1
  -- the cells
  have cells : ∃ cs : List Int, cs ≠ [] ∧ cs.length ≤ 63 ∧ (mIf (nVal (mOp dNe (mVar 0) (mL (mLst (fun _ => some []))))) (mSlice (mVar 0) (fun _ => some none) (oI (fun _ => some (D.int 63)))) (mL (mLst (mCons (fun _ => some (D.int 5)) (fun _ => some []))))) (rd false (startD 7 [.lst (ns.map D.int), .int i])) = some (.lst (cs.map D.int)) := by
    have ne : dNe (.lst (ns.map D.int)) (.lst []) = some (.bl (!ns.isEmpty)) := by
      rw [dNe_ok (by rw [okD_lst, okL_map fun a => okD_int 29 a]) rfl]
      cases ns <;> simp
    have sl : sliceD (.lst (ns.map D.int)) none (some 63) = some (.lst ((ns.take 63).map D.int)) := by
      have := slice_to (ds := ns.map D.int) (k := 63)
      rw [List.map_take]
      exact this
    cases q : ns.isEmpty with
    | true =>
      rw [q] at ne
      exact ⟨[5], by simp, by simp, by simp [ne]⟩
    | false =>
      rw [q] at ne
      refine ⟨ns.take 63, ?_, by simp; omega, by simp [ne, sl]⟩
      cases ns with
      | nil => cases q
      | cons x xs => simp
  obtain ⟨cs, c0, cl, hc⟩ := cells
  have lpos : 0 < (cs.length : Int) := by
    have := List.length_pos_iff.mpr c0
    omega
  have m0 := Int.emod_nonneg i (b := (cs.length : Int)) (by omega)
  have m1 := Int.emod_lt_of_pos i lpos
  obtain ⟨x, _, hx⟩ := ix_mod (e := D.int) c0 i0
  have q0 : 0 ≤ i / (cs.length : Int) := Int.ediv_nonneg i0 (by omega)
  have q1 : i / (cs.length : Int) ≤ i := Int.ediv_le_self _ i0
  have p60 : (2 : Int) ^ 60 = 1152921504606846976 := by decide
  unfold f_law_number
  rw [runD_eq, thenS_eq, sSet_eq, hc]
  simp [mod_ok lpos, hx, div_ok lpos (show (cs.length : Int) < 2 ^ 60 by omega)]
  rw [dMul_small (by omega) (by omega) (by omega) (by omega)]
  simp [mod_ok (show (0 : Int) < 1000003 by omega), div_ok (show (0 : Int) < 1000003 by omega) (by omega), mod_ok (show (0 : Int) < 999983 by omega)]
  generalize x + 13 * (i / (cs.length : Int)) = cell
  have a0 := Int.emod_nonneg cell (b := 1000003) (by omega)
  have a1 := Int.emod_lt_of_pos cell (b := 1000003) (by omega)
  have b0 := Int.emod_nonneg (cell / 1000003) (b := 999983) (by omega)
  have b1 := Int.emod_lt_of_pos (cell / 1000003) (b := 999983) (by omega)
  generalize cell % 1000003 = low at a0 a1 ⊢
  generalize cell / 1000003 % 999983 = high at b0 b1 ⊢
  have s0 := Int.emod_nonneg cs.sum (b := 65521) (by omega)
  have s1 := Int.emod_lt_of_pos cs.sum (b := 65521) (by omega)
  rw [dMul_small (by omega) (by omega) (by omega) (by omega)]
  simp only [obind_some, dAdd_i]
  rw [dMul_small (by omega) (by omega) (by omega) (by omega)]
  simp only [obind_some, dAdd_i]
  rw [dMul_small (by omega) (by omega) (by omega) (by omega)]
  simp only [obind_some, dAdd_i, mod_ok (show (0 : Int) < 65521 by omega), dInt_i, mod_ok (show (0 : Int) < 2147483647 by omega)]
  generalize cs.sum % 65521 = sm at s0 s1 ⊢
  have g0 := Int.emod_nonneg ((low + 977 * i) * 48271 + 31 * high + sm) (b := 2147483647) (by omega)
  have g1 := Int.emod_lt_of_pos ((low + 977 * i) * 48271 + 31 * high + sm) (b := 2147483647) (by omega)
  generalize ((low + 977 * i) * 48271 + 31 * high + sm) % 2147483647 = mixed at g0 g1 ⊢
  rw [dMul_small (by omega) (by omega) (by omega) (by omega)]
  simp only [obind_some, dAdd_i]
  rw [dMul_small (by omega) (by omega) (by omega) (by omega)]
  simp only [obind_some, dInt_i, mod_ok (show (0 : Int) < 2147483629 by omega)]
  have h0 := Int.emod_nonneg (mixed * (mixed + 31 * i + 7)) (b := 2147483629) (by omega)
  have h1 := Int.emod_lt_of_pos (mixed * (mixed + 31 * i + 7)) (b := 2147483629) (by omega)
  generalize mixed * (mixed + 31 * i + 7) % 2147483629 = w at h0 h1 ⊢
  rw [dMul_small (by omega) (by omega) (by omega) (by omega)]
  simp only [obind_some, dAdd_i]
  exact ⟨_, by omega, rfl⟩
/-! ### the law's rows and pairs -/
theorem law_pairs_eq {n : Nat} (h5 : n ≤ 5) : f_law_pairs [.int n] = some (eL eP (prs n)) := by
  have : n = 0 ∨ n = 1 ∨ n = 2 ∨ n = 3 ∨ n = 4 ∨ n = 5 := by omega
  rcases this with rfl | rfl | rfl | rfl | rfl | rfl <;> rfl
theorem sorted_at (ds : List D) (h1 : okL 30 ds = true) (h2 : sortOk ds = true) (h3 : ds.Pairwise fun a b => PySem.W.dataLe false pyOf a b = true) : dSorted [.lst ds] = some ds := by
  show (if (okL 30 ds && sortOk ds) = true then some (sortD ds) else none) = _
  rw [if_pos (by rw [h1, h2]; rfl)]
  unfold sortD
  rw [List.mergeSort_of_pairwise h3]
theorem sorted_gps {n : Nat} (h : 2 ≤ n) (h5 : n ≤ 5) : dSorted [.lst ((gps n).map eG)] = some ((gps n).map eG) := by
  have : n = 2 ∨ n = 3 ∨ n = 4 ∨ n = 5 := by omega
  rcases this with rfl | rfl | rfl | rfl <;> exact sorted_at _ (by decide +kernel) (by decide +kernel) (by decide +kernel)
theorem law_rows_eq {n : Nat} {lo hi : Int} (h : 2 ≤ n) (h5 : n ≤ 5) : f_law_rows [.int n, .int lo, .int hi] = some (eL eG (rowsOf n lo hi)) := by
  unfold f_law_rows
  have e1 : inR (n : Int) = true := inR_of' (by omega) (by omega)
  simp [rng2_eq (inR_of' (i := 1) (by omega) (by omega)) e1, rangeD_eq]
  refine forD_then (xs := List.range (n - 1)) (fun xs se => ∃ j u4 u5 u6, xs = (List.range (n - 1)).drop j ∧ j ≤ n - 1 ∧ se = [.f (.int n), .f (.int lo), .f (.int hi), .f (.lst ((gps (j + 1)).map eG)), u4, u5, u6, .u, .u]) ⟨0, .u, .u, .u, rfl, by omega, rfl⟩ ?_ ?_
  · rintro x xs se ⟨j, u4, u5, u6, hx, hj, hse⟩
    obtain ⟨rfl, hlt, rfl⟩ := drop_range hx
    subst hse
    have inner := forD_inv (mg := gOne) (ix := [6]) (e := eG) (m := sSet 5 (mL (mCat (mVar 5) (mL (mLc (iR1 (mCons (mOp dAdd (mCall (mCons (mVar 6) (fun _ => some [])) (dMM max)) (fun _ => some (D.int 2))) (fun _ => some []))) gOne [7] (fun _ => some true) (mOp dAdd (mVar 6) (mTup (mCons (mVar 7) (fun _ => some [])))) [7])))))
      (fun ys se => ∃ pre v6, gps (x + 1) = pre ++ ys ∧ se = [.f (.int n), .f (.int lo), .f (.int hi), .f (.lst ((gps (x + 1)).map eG)), .f (.int (1 + (x : Int))), .f (.lst ((ext pre).map eG)), v6, .u, .u]) (by
        rintro g ys se ⟨pre, v6, hg, rfl⟩
        have gm : g ∈ gps (x + 1) := by rw [hg]; simp
        obtain ⟨g1, g2, g3⟩ := gps_pos x g gm
        have gl := (gps_len (x + 1) (by omega) g gm).1
        have e2 : inR (mx g + 2) = true := inR_of' (by omega) (by omega)
        refine ⟨[eG g], [.f (.int n), .f (.int lo), .f (.int hi), .f (.lst ((gps (x + 1)).map eG)), .f (.int (1 + (x : Int))), .f (.lst ((ext (pre ++ [g])).map eG)), .f (eG g), .u, .u], rfl, ?_, pre ++ [g], _, by simp [hg], rfl⟩
        have dm : dMM max [eG g] = some (.int (mx g)) := dMM_max g1
        simp [dm, rng1_eq e2, rangeD_eq]
        rw [lcD_map (fun (i : Nat) => eG (g ++ [(i : Int)]))]
        · have hs : (ext pre).length ≤ 52 := by
            have e3 : gps (x + 2) = ext (gps (x + 1)) := rfl
            have q := gps_small' (k := x + 2) (by omega)
            rw [e3, hg] at q
            have : (ext pre).length ≤ (ext (pre ++ g :: ys)).length := by
              unfold ext
              rw [List.flatMap_append, List.length_append]
              omega
            omega
          have hm : (mx g + 2).toNat ≤ 100 := by omega
          simp [show mx g + 2 ≤ 100000 by omega]
          rw [fAdd_l (by simp; omega)]
          simp [ext, List.flatMap_append, Function.comp_def]
        · intro i hi
          have q : dAdd (eG g) (.tup [.int i]) = some (eG (g ++ [(i : Int)])) := by
            unfold eG
            rw [dAdd_t (by simp; omega)]
            simp
          simp [q]) (xs := gps (x + 1)) (se := [.f (.int n), .f (.int lo), .f (.int hi), .f (.lst ((gps (x + 1)).map eG)), .f (.int (1 + (x : Int))), .f (.lst []), u6, .u, .u]) ⟨[], u6, rfl, rfl⟩
    obtain ⟨se', k1, pre, v6, hg, rfl⟩ := inner
    simp at hg
    subst hg
    refine ⟨_, [.f (.int n), .f (.int lo), .f (.int hi), .f (.lst ((gps (x + 2)).map eG)), .f (.int (1 + (x : Int))), .f (.lst ((ext (gps (x + 1))).map eG)), v6, .u, .u], rfl, ?_, x + 1, _, _, _, rfl, by omega, rfl⟩
    simp [k1]
    rfl
  · rintro se' ⟨j, u4, u5, u6, hx, hj, rfl⟩
    have e3 : j = n - 1 := by
      have := congrArg List.length hx
      simp at this
      omega
    subst e3
    rw [show n - 1 + 1 = n by omega]
    simp [sorted_gps h h5]
    rw [lcD_filter (fun g => decide (lo ≤ mx g + 1) && decide (mx g + 1 ≤ hi)) eG]
    · have q := gps_small (n := n) (by omega) h5
      simp [eL, rowsOf, show (gps n).length ≤ 100000 by omega]
    · intro g hg
      have q := (gps_len n (by omega) g hg).2
      have dm : dMM max [eG g] = some (.int (mx g)) := dMM_max q
      simp [dm, dI2]
      by_cases c : lo ≤ mx g + 1 <;> by_cases c' : mx g + 1 ≤ hi <;> simp [c, c']
end
section
variable {n : Nat} {V : List G} {ps : List Pr} {vs : List Int} {t : Gl3} {lo hi : Int} {as : List Ans}
theorem law_bounds_ex {sc : D} (hs : Drawn sc) {i : Int} (h : 2 ≤ n) (h5 : n ≤ 5) (h0 : 0 ≤ i) (h1 : i ≤ 10000) : ∃ lo hi : Int, f_law_bounds [sc, .int i, .int n] = some (.tup [.int lo, .int hi]) ∧ 1 ≤ lo ∧ lo ≤ hi ∧ hi ≤ n := by
  obtain ⟨v0, p0, e0⟩ := hs i h0 (by omega)
  obtain ⟨v1, p1, e1⟩ := hs (i + 1) (by omega) (by omega)
  obtain ⟨v2, p2, e2⟩ := hs (i + 2) (by omega) (by omega)
  have n0 : (0 : Int) < (n : Int) := by omega
  have a0 := Int.emod_nonneg v0 (b := (n : Int)) (by omega)
  have a1 := Int.emod_lt_of_pos v0 n0
  unfold f_law_bounds
  by_cases c : v1 % 3 = 0
  · have w0 : (0 : Int) < (n : Int) - (1 + v0 % (n : Int)) + 1 := by omega
    have b0 := Int.emod_nonneg v2 (b := (n : Int) - (1 + v0 % (n : Int)) + 1) (by omega)
    have b1 := Int.emod_lt_of_pos v2 w0
    refine ⟨1 + v0 % (n : Int), (n : Int) - v2 % ((n : Int) - (1 + v0 % (n : Int)) + 1), ?_, by omega, by omega, by omega⟩
    simp [e0, e1, e2, mod_ok (show (0 : Int) < 3 by omega), mod_ok n0, c, dI2, mod_ok w0]
  · have w0 : (0 : Int) < (n : Int) - 1 + 1 := by omega
    have b0 := Int.emod_nonneg v2 (b := (n : Int) - 1 + 1) (by omega)
    have b1 := Int.emod_lt_of_pos v2 w0
    refine ⟨1, (n : Int) - v2 % ((n : Int) - 1 + 1), ?_, by omega, by omega, by omega⟩
    have cb : (v1 % 3 == 0) = false := by simpa using c
    simp only [runD_eq, thenS_eq, sSet_eq]
    simp [e0, e1, e2, mod_ok (show (0 : Int) < 3 by omega), mod_ok n0, cb, dI2]
theorem law_says_eq {g : G} {a : Ans} (hg : g.length = n) (h : InA n a) : f_law_says [eG g, eA a] = some (.bl (says g a)) := by
  subst hg
  have h0 := h.a0
  have h1 := h.lt
  have h2 := h.b1
  have e2 : ixAny (eA a) (.int 2) = some (.bl a.2.2) := by simp [eA, atI_2]
  unfold f_law_says
  simp [ix_eA0 a, ix_eA1 a, e2, ix_eG (g := g) h0 (by omega), ix_eG (g := g) (show 0 ≤ a.2.1 by omega) h2, says]
theorem law_view_eq {rows : List G} {as : List Ans} (hr : ∀ g ∈ rows, g.length = n) (hz : rows.length ≤ 100000) (ha : ∀ a ∈ as, InA n a) (hl : as.length ≤ 100000) : f_law_view [eL eG rows, .lst (as.map eA)] = some (eT eG (view rows as)) := by
  unfold f_law_view
  simp [eL]
  rw [lcD_filter (fun g => fits g as) eG]
  · have := view_len (rows := rows) (as := as)
    simp [hz, view, eT]
  · intro g m
    simp
    rw [lcD_map (fun a => D.bl (says g a))]
    · by_cases c : fits g as = true
      · have c' := c
        unfold fits at c'
        simp [hl, c', c]
      · have c' := c
        unfold fits at c'
        simp [hl, c', c]
    · intro a q
      simp [law_says_eq (hr g m) (ha a q)]
theorem rows_ne {n : Nat} {lo hi : Int} (h2 : 2 ≤ n) (h4 : n ≤ 4) (h1 : 1 ≤ lo) (h : lo ≤ hi) (hn : hi ≤ n) : rowsOf n lo hi ≠ [] := by
  have : ∃ g ∈ gps n, mx g + 1 = lo := by
    have nn : n = 2 ∨ n = 3 ∨ n = 4 := by omega
    have ll : lo = 1 ∨ lo = 2 ∨ lo = 3 ∨ lo = 4 := by omega
    rcases nn with rfl | rfl | rfl <;> rcases ll with rfl | rfl | rfl | rfl <;> first | decide +kernel | (exfalso; omega)
  obtain ⟨g, gm, e⟩ := this
  intro z
  have : g ∈ rowsOf n lo hi := List.mem_filter.mpr ⟨gm, by simp; omega⟩
  rw [z] at this
  cases this
end
end EX
set_option Elab.async false
set_option linter.all false
set_option autoImplicit false
set_option maxRecDepth 100000
set_option maxHeartbeats 4000000
/-! M2: what the combinators of E29 .. E35 compute. -/
namespace EX
open PySem L2
@[simp] theorem mLstRg_eq (m : Env → Option D) (env : Env) : mLstRg m env = (m env).bind lstRg := nr rfl
theorem lstRg_ok {n : Nat} (h : n ≤ 100000) : lstRg (.int n) = some ((List.range n).map fun (i : Nat) => D.int i) := by
  show (if (decide ((0 : Int) ≤ n) && decide ((n : Int) ≤ 16777216)) = true then some (rgD n) else none) = _
  rw [if_pos (by simp; omega)]
  simp [rgD]
@[simp] theorem remS_o (i : Nat) (m : Env → Option D) (se : SEnv) (ds : List D) : remS i m se (.o (.l ds)) = (m (rd false se)).bind (remK ds se i) := nr rfl
@[simp] theorem sRem_eq (i : Nat) (m : Env → Option D) (se : SEnv) : sRem i m se = (se[i]?).bind (remS i m se) := nr rfl
theorem remK_ok {ns : List Int} {se : SEnv} {i : Nat} {k : Int} (h : k ∈ ns) : remK (ns.map D.int) se i (.int k) = some (.nx (se.set i (.o (.l ((ns.erase k).map D.int))))) := by
  show (intsOf (ns.map D.int)).bind _ = _
  rw [intsOf_int]
  simp [h]
/-! ### dicts of whole numbers: how many keys -/
@[simp] theorem mDcI_eq (mi : Env → Option (List D)) (mg : D → Option (List D)) (ix : List Nat) (nt : Env → Option Bool) (mk mv : Env → Option D) (vs : List Nat) (env : Env) :
    mDcI mi mg ix nt mk mv vs env = (mi env).bind fun ds => if small ds = true then (foldO (turnI mg ix nt mk mv (wipeE env vs)) [] ds).map D.dki else none := nr rfl
def addK (ks : List Int) (k : Int) : List Int := if k ∈ ks then ks else ks ++ [k]
theorem storeI_keys (kvs : List (Int × D)) (k : Int) (v : D) : (storeI kvs k v).map (·.1) = addK (kvs.map (·.1)) k := by
  unfold storeI addK
  have e : (kvs.any fun q => decide (q.1 = k)) = decide (k ∈ kvs.map (·.1)) := by
    rw [Bool.eq_iff_iff]
    simp
  rw [e]
  by_cases h : k ∈ kvs.map (·.1)
  · simp only [h, decide_true, if_true]
    rw [List.map_map]
    apply List.map_congr_left
    intro q _
    show (if q.1 = k then (q.1, v) else q).1 = q.1
    split <;> rfl
  · simp only [h, decide_false, if_false]
    simp
theorem addK_spec : ∀ (ks : List Int) (acc : List Int), acc.Nodup → ((ks.foldl addK acc).length ≤ acc.length + ks.length ∧ ((ks.foldl addK acc).length = acc.length + ks.length ↔ (acc ++ ks).Nodup))
  | [], acc, h => by simp [h]
  | k :: ks, acc, h => by
    simp only [List.foldl_cons]
    by_cases hk : k ∈ acc
    · have e : addK acc k = acc := if_pos hk
      rw [e]
      obtain ⟨h1, h2⟩ := addK_spec ks acc h
      refine ⟨by simp; omega, ⟨fun q => ?_, fun q => ?_⟩⟩
      · simp at q
        omega
      · rw [List.nodup_append] at q
        exact absurd rfl (q.2.2 k hk k List.mem_cons_self)
    · have e : addK acc k = acc ++ [k] := if_neg hk
      rw [e]
      have hn : (acc ++ [k]).Nodup := by
        rw [List.nodup_append]
        refine ⟨h, by simp, fun a ha b hb => ?_⟩
        simp at hb
        subst hb
        exact fun z => hk (z ▸ ha)
      obtain ⟨h1, h2⟩ := addK_spec ks (acc ++ [k]) hn
      simp at h1 h2 ⊢
      refine ⟨by omega, ?_⟩
      rw [← h2]
      omega
end EX
set_option Elab.async false
set_option linter.all false
set_option autoImplicit false
set_option maxRecDepth 100000
set_option maxHeartbeats 4000000
/-! MK: wrong answers, weights. -/
namespace EX
open PySem L2
variable {n : Nat} {as : List Ans} {ws : List Int}
def eI (xs : List Int) : D := .tup (xs.map D.int)
def wrongN (g : G) (as : List Ans) : List Int := (as.zipIdx.filter fun q => !says g q.1).map fun q => ((q.2 : Nat) : Int)
theorem wrong_in_eq {g : G} {d : D} (hg : g.length = n) (e : sqD d = some (as.map eA)) (ha : ∀ a ∈ as, InA n a) (hl : as.length ≤ 20) : f_wrong_in [eG g, d] = some (eI (wrongN g as)) := by
  unfold f_wrong_in
  simp [e, pairsD_map]
  rw [lcD_filter (fun q : Ans × Nat => !says g q.1) (fun q : Ans × Nat => D.int (q.2 : Nat))]
  · have := List.length_filter_le (fun q : Ans × Nat => !says g q.1) as.zipIdx
    simp at this
    simp [eI, wrongN, show as.length ≤ 100000 by omega, Function.comp_def]
  · rintro ⟨a, i⟩ hq
    have am := zipIdx_mem hq
    have f1 := fits_eq (as := [a]) (d := .lst [eA a]) hg rfl (fun b hb => by simp at hb; subst hb; exact ha _ am) (by simp)
    simp [f1, fits]
    by_cases c : says g a = true <;> simp [c]
def wt (ws : List Int) (s : List Int) : Int := (s.map fun i => gA ws i).sum
theorem ixW {d : D} (e : sqD d = some (ws.map D.int)) {i : Int} (h0 : 0 ≤ i) (h : i < ws.length) : ixAny d (.int i) = some (.int (gA ws i)) := by
  cases d with
  | tup xs => cases e; exact ix_eG h0 h
  | lst xs => cases e; exact atI_g h0 h
  | _ => cases e
theorem weight_of_eq {d : D} (e : sqD d = some (ws.map D.int)) {s : List Int} (h : ∀ i ∈ s, 0 ≤ i ∧ i < ws.length) (hl : s.length ≤ 100000) : f_weight_of [d, eI s] = some (.int (wt ws s)) := by
  unfold f_weight_of
  simp [eI]
  rw [lcD_map (fun i => D.int (gA ws i))]
  · simp [hl, dSum, intsOf_map, wt]
  · intro i hi
    simp [ixW e (h i hi).1 (h i hi).2]
theorem law_weight_eq {d : D} (e : sqD d = some (ws.map D.int)) {s : List Int} (h : ∀ i ∈ s, 0 ≤ i ∧ i < ws.length) (hl : s.length ≤ 100000) : f_law_weight [d, eI s] = some (.int (wt ws s)) := by
  unfold f_law_weight
  simp [eI]
  rw [lcD_map (fun i => D.int (gA ws i))]
  · simp [hl, dSum, intsOf_map, wt]
  · intro i hi
    simp [ixW e (h i hi).1 (h i hi).2]
end EX
set_option Elab.async false
set_option linter.all false
set_option autoImplicit false
set_option maxRecDepth 100000
set_option maxHeartbeats 4000000
/-! MT: trees of cores. -/
namespace EX
open PySem L2
variable {n : Nat} {as : List Ans} {ws : List Int} {rows : List G} {lo hi : Int}
inductive Wr where
  | leaf
  | node (c : List Int) (ts : List Wr)
mutual
def eW : Wr → D
  | .leaf => .non
  | .node c ts => .tup [eI c, .tup (eWs ts)]
def eWs : List Wr → List D
  | [] => []
  | t :: ts => eW t :: eWs ts
end
theorem eWs_map : ∀ ts : List Wr, eWs ts = ts.map eW
  | [] => by simp [eWs]
  | t :: ts => by simp [eWs, eWs_map ts]
theorem eW_leaf : eW .leaf = .non := by simp [eW]
theorem eW_node (c : List Int) (ts : List Wr) : eW (.node c ts) = .tup [eI c, .tup (ts.map eW)] := by simp [eW, eWs_map]
/-- a tree of at most k levels, no core of more than 30 -/
def Dw : Nat → Wr → Prop
  | 0, _ => False
  | _ + 1, .leaf => True
  | k + 1, .node c ts => c.length ≤ 30 ∧ ts.length ≤ 30 ∧ ∀ t ∈ ts, Dw k t
theorem Dw.mono : ∀ {k j : Nat} {t : Wr}, Dw k t → k ≤ j → Dw j t
  | 0, _, _, h, _ => h.elim
  | k + 1, 0, _, _, h => by omega
  | k + 1, j + 1, .leaf, _, _ => trivial
  | k + 1, j + 1, .node _ ts, h, hj => ⟨h.1, h.2.1, fun t ht => (h.2.2 t ht).mono (by omega)⟩
def ansAt (as : List Ans) (i : Int) : Ans := as.getD i.toNat (0, 0, false)
def refN (rows : List G) (as : List Ans) (ws : List Int) (least : Int) : Nat → List Int → Wr → Bool
  | 0, _, _ => false
  | _ + 1, s, .leaf => decide (least ≤ wt ws s)
  | k + 1, s, .node c ts => decide (ts.length = c.length) && decide c.Nodup && (c.all fun i => decide (0 ≤ i ∧ i < as.length ∧ i ∉ s)) && (view rows (c.map (ansAt as))).isEmpty && (c.zip ts).all fun q => refN rows as ws least k (s ++ [q.1]) q.2
theorem ixA {d : D} (e : sqD d = some (as.map eA)) {i : Int} (h0 : 0 ≤ i) (h : i < as.length) : ixAny d (.int i) = some (eA (ansAt as i)) := by
  have q : (as.map eA)[i.toNat]? = some (eA (ansAt as i)) := by
    have hl : i.toNat < as.length := by omega
    rw [List.getElem?_map, List.getElem?_eq_getElem hl]
    simp [ansAt, List.getD, List.getElem?_eq_getElem hl]
  cases d with
  | tup xs => cases e; exact atI_nn h0 q
  | lst xs => cases e; exact atI_nn h0 q
  | _ => cases e
theorem ansAt_mem {i : Int} (h0 : 0 ≤ i) (h : i < as.length) : ansAt as i ∈ as := by
  have hl : i.toNat < as.length := by omega
  simp [ansAt, List.getD, List.getElem?_eq_getElem hl]
/-- len({index: True for index in core}) -/
theorem fold_keys {f : List (Int × D) → D → Option (List (Int × D))} (hf : ∀ acc k, f acc (.int k) = some (storeI acc k (.bl true))) : ∀ (c : List Int) (acc : List (Int × D)), ∃ out, foldO f acc (c.map D.int) = some out ∧ out.map (·.1) = c.foldl addK (acc.map (·.1))
  | [], acc => ⟨acc, rfl, rfl⟩
  | k :: c, acc => by
    obtain ⟨out, h1, h2⟩ := fold_keys hf c (storeI acc k (.bl true))
    refine ⟨out, ?_, ?_⟩
    · show (f acc (.int k)).bind _ = _
      rw [hf]
      exact h1
    · rw [h2, storeI_keys]
      rfl
theorem keys_len {f : List (Int × D) → D → Option (List (Int × D))} (hf : ∀ acc k, f acc (.int k) = some (storeI acc k (.bl true))) (c : List Int) : ∃ out : List (Int × D), foldO f [] (c.map D.int) = some out ∧ (out.length = c.length ↔ c.Nodup) := by
  obtain ⟨out, h1, h2⟩ := fold_keys hf c []
  refine ⟨out, h1, ?_⟩
  have e := congrArg List.length h2
  simp at e
  have q := (addK_spec c [] (by simp)).2
  simp at q
  rw [e, q]
end EX
set_option Elab.async false
set_option linter.all false
set_option autoImplicit false
set_option maxRecDepth 100000
set_option maxHeartbeats 4000000
/-! MU: what is refuted, and what the law calls a tree, are the same. -/
namespace EX
open PySem L2
variable {n : Nat} {as : List Ans} {ws : List Int} {rows : List G} {lo hi : Int}
structure Dou (n : Nat) (rows : List G) (as : List Ans) (ws : List Int) : Prop where
  hr : ∀ g ∈ rows, g.length = n
  hz : rows.length ≤ 1000
  ha : ∀ a ∈ as, InA n a
  hl : as.length ≤ 20
  hw : ws.length = as.length
/-! ### dicts of a core -/
def outI (c : List Int) (acc : List (Int × D)) : List (Int × D) := c.foldl (fun a k => storeI a k (.bl true)) acc
theorem foldO_out {f : List (Int × D) → D → Option (List (Int × D))} (hf : ∀ acc k, f acc (.int k) = some (storeI acc k (.bl true))) : ∀ (c : List Int) (acc : List (Int × D)), foldO f acc (c.map D.int) = some (outI c acc)
  | [], acc => rfl
  | k :: c, acc => by
    show (f acc (.int k)).bind _ = _
    rw [hf]
    exact foldO_out hf c _
theorem outI_keys : ∀ (c : List Int) (acc : List (Int × D)), (outI c acc).map (·.1) = c.foldl addK (acc.map (·.1))
  | [], acc => rfl
  | k :: c, acc => by
    show (outI c (storeI acc k (.bl true))).map (·.1) = _
    rw [outI_keys c, storeI_keys]
    rfl
theorem outI_len (c : List Int) : (outI c []).length = c.length ↔ c.Nodup := by
  have e := congrArg List.length (outI_keys c [])
  simp at e
  have q := (addK_spec c [] (by simp)).2
  simp at q
  rw [e, q]
theorem turnI_out {env : Env} (h : 9 < env.length) (acc : List (Int × D)) (k : Int) : turnI gOne [9] (fun _ => some true) (mVar 9) (fun _ => some (D.bl true)) env acc (.int k) = some (storeI acc k (.bl true)) := by
  have e : (env.set 9 (some (.int k)))[9]? = some (some (.int k)) := List.getElem?_set_self h
  show (mPairI (mVar 9) (fun _ => some (D.bl true)) acc (env.set 9 (some (.int k)))) = _
  unfold mPairI
  rw [mVar_eq, e]
  rfl
theorem dcI_out {env : Env} (h : 9 < env.length) (c : List Int) : foldO (turnI gOne [9] (fun _ => some true) (mVar 9) (fun _ => some (D.bl true)) env) [] (c.map D.int) = some (outI c []) := foldO_out (turnI_out h) c []
theorem merge_out : ∀ (c : List Int) (acc : List (Int × D)), mergeI acc (c.map fun k => (k, D.bl true)) = outI c acc
  | [], acc => rfl
  | k :: c, acc => merge_out c _
theorem pairsI_out : ∀ (c : List Int), pairsI (c.map fun k => D.tup [.int k, .bl true]) = some (c.map fun k => (k, D.bl true))
  | [] => rfl
  | k :: c => by
    rw [List.map_cons, pairsI, pairsI_out c]
    rfl
theorem dDictI_out (c : List Int) : dDictI [.lst (c.map fun k => D.tup [.int k, .bl true])] = some (.dki (outI c [])) := by
  show (pairsI _).map _ = _
  rw [pairsI_out, ← merge_out]
  rfl
@[simp] theorem dLenI_eq (kvs : List (Int × D)) : dLenI [.dki kvs] = some (.int kvs.length) := nr rfl
/-! ### in -/
theorem eqD_int' (a b : Int) : eqD (.int a) (.int b) = decide (a = b) := by
  rw [eqD_int]
  by_cases c : a = b <;> simp [c]
theorem in_I (f : Bool → Bool) (i : Int) (s : List Int) : inAny f (.int i) (.tup (s.map D.int)) = some (.bl (f (decide (i ∈ s)))) := in_map eqD_int' (okD_int 30) f i s (.inr rfl)
def okI (as : List Ans) (s : List Int) (i : Int) : Bool := decide (0 ≤ i ∧ i < as.length ∧ i ∉ s)
theorem refN_node (rows : List G) (as : List Ans) (ws : List Int) (least : Int) (k : Nat) (s : List Int) (c : List Int) (ts : List Wr) : refN rows as ws least (k + 1) s (.node c ts) = (decide (ts.length = c.length) && decide c.Nodup && (c.all (okI as s)) && (view rows (c.map (ansAt as))).isEmpty && (c.zip ts).all fun q => refN rows as ws least k (s ++ [q.1]) q.2) := rfl
theorem any_not {α : Type} (f : α → Bool) (xs : List α) : (xs.any fun x => !f x) = !xs.all f := by
  induction xs with
  | nil => rfl
  | cons x xs ih => simp [ih]
theorem view_any (rows : List G) (as : List Ans) : (rows.any fun g => fits g as) = !(view rows as).isEmpty := by
  unfold view
  induction rows with
  | nil => rfl
  | cons g gs ih =>
    rw [List.any_cons, List.filter_cons, ih]
    cases fits g as <;> simp
theorem refutes_eq (T : Dou n rows as ws) {da dw : D} (ea : sqD da = some (as.map eA)) (el : dLen [da] = some (.int as.length)) (ew : sqD dw = some (ws.map D.int)) (least : Int) : ∀ (k : Nat) (s : List Int) (t : Wr), Dw k t → (∀ i ∈ s, 0 ≤ i ∧ i < as.length) → s.length + k ≤ 1000 →
    f_refutes k [ePool n lo hi rows, .tup [da, dw, .int least], eI s, eW t] = some (.bl (refN rows as ws least k s t))
  | 0, _, _, h, _, _ => h.elim
  | k + 1, s, .leaf, h, hs, hz => by
    unfold f_refutes
    simp [eW_leaf, isNon, weight_of_eq ew (fun i hi => by rw [T.hw]; exact hs i hi) (show s.length ≤ 100000 by omega), dI2, refN]
  | k + 1, s, .node c ts, hd, hs, hz => by
    obtain ⟨hc, ht, hd⟩ := hd
    have rz := T.hz
    unfold f_refutes
    rw [refN_node]
    simp [eW_node, isNon, eI, show c.length ≤ 100000 by omega, dcI_out]
    by_cases c1 : ts.length = c.length
    · by_cases c2 : c.Nodup
      · have c2' := (outI_len c).mpr c2
        simp [c1, c2, c2']
        rw [lcD_map (fun i : Int => D.bl (!okI as s i))]
        · simp only [small_map, show c.length ≤ 100000 by omega, decide_true, if_t, obind_some, dAny_map, any_not, dBool_eq]
          cases c3 : c.all (okI as s) with
          | false => simp [any_not, c3]
          | true =>
            have c3' : ∀ i ∈ c, 0 ≤ i ∧ i < as.length ∧ i ∉ s := fun i hi => of_decide_eq_true (List.all_eq_true.mp c3 i hi)
            have cin : ∀ a ∈ c.map (ansAt as), InA n a := fun a h => by
              obtain ⟨i, hi, rfl⟩ := List.mem_map.mp h
              exact T.ha _ (ansAt_mem (c3' i hi).1 (c3' i hi).2.1)
            simp [any_not, c3]
            simp [iO, ePool, eT]
            rw [lcD_map (fun g => D.bl (fits g (c.map (ansAt as))))]
            · simp [show rows.length ≤ 100000 by omega, view_any]
              cases c4 : view rows (c.map (ansAt as)) with
              | cons g0 gs0 => simp [c4]
              | nil =>
                simp [c4, zipD_map]
                rw [lcD_map (fun q : Int × Wr => D.bl (refN rows as ws least k (s ++ [q.1]) q.2))]
                · simp [c1, show c.length ≤ 100000 by omega]
                · intro q hq
                  have q1 := (List.of_mem_zip hq).1
                  have q2 := (List.of_mem_zip hq).2
                  have ih := refutes_eq T ea el ew least k (s ++ [q.1]) q.2 (hd q.2 q2) (fun i hi => by
                    rcases List.mem_append.mp hi with z | z
                    · exact hs i z
                    · simp at z; rw [z]; exact ⟨(c3' _ q1).1, (c3' _ q1).2.1⟩) (by simp; omega)
                  have sm : small (s.map D.int ++ [.int q.1]) = true := small_of (by simp; omega)
                  simp only [eI, List.map_append, List.map_cons, List.map_nil, ePool, eT] at ih
                  simp [sm, ih]
            · intro g hg
              simp
              rw [lcD_map (fun i => eA (ansAt as i))]
              · have f1 := fits_eq (d := .lst (c.map fun i => eA (ansAt as i))) (as := c.map (ansAt as)) (T.hr g hg) (by simp [Function.comp_def]) cin (by simp; omega)
                simp [show c.length ≤ 100000 by omega, f1]
              · intro i hi
                simp [ixA ea (c3' i hi).1 (c3' i hi).2.1]
        · intro i hi
          simp [el, dI2, in_I, okI]
          by_cases d1 : 0 ≤ i
          · by_cases d2 : i < as.length
            · by_cases d3 : i ∈ s <;> simp [d1, d2, d3]
            · simp [d1, d2]
          · simp [d1]
      · have c2' : ¬ ((outI c []).length = c.length) := fun z => c2 ((outI_len c).mp z)
        have c2'' : ¬ (((outI c []).length : Int) = (c.length : Int)) := by omega
        simp [c1, c2, c2'']
    · have c1' : ¬ ((ts.length : Int) = (c.length : Int)) := by omega
      simp [c1, c1']
theorem law_is_tree_eq (T : Dou n rows as ws) {da dw : D} (ea : da = .lst (as.map eA)) (ew : sqD dw = some (ws.map D.int)) (least : Int) : ∀ (k : Nat) (s : List Int) (t : Wr), Dw k t → (∀ i ∈ s, 0 ≤ i ∧ i < as.length) → s.length + k ≤ 1000 →
    f_law_is_tree k [eL eG rows, .tup [da, dw, .int least], eI s, eW t] = some (.bl (refN rows as ws least k s t))
  | 0, _, _, h, _, _ => h.elim
  | k + 1, s, .leaf, h, hs, hz => by
    unfold f_law_is_tree
    simp [eW_leaf, isNon, law_weight_eq ew (fun i hi => by rw [T.hw]; exact hs i hi) (show s.length ≤ 100000 by omega), dI2, refN]
  | k + 1, s, .node c ts, hd, hs, hz => by
    obtain ⟨hc, ht, hd⟩ := hd
    have rz := T.hz
    unfold f_law_is_tree
    rw [refN_node]
    simp [eW_node, isNon, eI]
    rw [lcD_map (fun i : Int => D.tup [.int i, .bl true])]
    · simp [show c.length ≤ 100000 by omega, dDictI_out]
      by_cases c2 : c.Nodup
      · have c2' := (outI_len c).mpr c2
        by_cases c1 : ts.length = c.length
        · simp [c1, c2, c2']
          rw [lcD_map (fun i : Int => D.bl (okI as s i))]
          · simp only [small_map, show c.length ≤ 100000 by omega, decide_true, if_t, obind_some, dAll_map, dBool_eq, omap_some]
            cases c3 : c.all (okI as s) with
            | false => simp [c3]
            | true =>
              have c3' : ∀ i ∈ c, 0 ≤ i ∧ i < as.length ∧ i ∉ s := fun i hi => of_decide_eq_true (List.all_eq_true.mp c3 i hi)
              have cin : ∀ a ∈ c.map (ansAt as), InA n a := fun a h => by
                obtain ⟨i, hi, rfl⟩ := List.mem_map.mp h
                exact T.ha _ (ansAt_mem (c3' i hi).1 (c3' i hi).2.1)
              simp [c3]
              rw [lcD_map (fun i => eA (ansAt as i))]
              · have f1 := law_view_eq (as := c.map (ansAt as)) T.hr (show rows.length ≤ 100000 by omega) cin (by simp; omega)
                simp only [List.map_map, Function.comp_def] at f1
                have f2 : dNe (eT eG (view rows (c.map (ansAt as)))) (.tup []) = some (.bl (!(view rows (c.map (ansAt as))).isEmpty)) := by
                  rw [dNe_ok (okD_eT (n := 29) (fun a => okD_eG 28 a) _) rfl]
                  unfold eT
                  cases view rows (c.map (ansAt as)) <;> simp
                simp [show c.length ≤ 100000 by omega, f1, f2]
                cases c4 : view rows (c.map (ansAt as)) with
                | cons g0 gs0 => simp [c4]
                | nil =>
                  simp [c4, zipD_map]
                  rw [lcD_map (fun q : Int × Wr => D.bl (refN rows as ws least k (s ++ [q.1]) q.2))]
                  · simp [c1, show c.length ≤ 100000 by omega]
                  · intro q hq
                    have q1 := (List.of_mem_zip hq).1
                    have q2 := (List.of_mem_zip hq).2
                    have ih := law_is_tree_eq T ea ew least k (s ++ [q.1]) q.2 (hd q.2 q2) (fun i hi => by
                      rcases List.mem_append.mp hi with z | z
                      · exact hs i z
                      · simp at z; rw [z]; exact ⟨(c3' _ q1).1, (c3' _ q1).2.1⟩) (by simp; omega)
                    have sm : (s.map D.int).length + [D.int q.1].length ≤ 100000 := by simp; omega
                    simp only [eI, List.map_append, List.map_cons, List.map_nil] at ih
                    simp
                    rw [dAdd_t sm]
                    simp [ih]
              · intro i hi
                simp [ixA (d := da) (by rw [ea]; rfl) (c3' i hi).1 (c3' i hi).2.1]
          · intro i hi
            simp [ea, dI2, in_I, okI]
            by_cases d1 : 0 ≤ i
            · by_cases d2 : i < as.length
              · by_cases d3 : i ∈ s <;> simp [d1, d2, d3]
              · simp [d1, d2]
            · simp [d1]
        · have c1' : ¬ ((c.length : Int) = (ts.length : Int)) := by omega
          simp [c1, c2, c2', c1']
      · have c2' : ¬ ((outI c []).length = c.length) := fun z => c2 ((outI_len c).mp z)
        have c2'' : ¬ (((outI c []).length : Int) = (c.length : Int)) := by omega
        simp [c2, c2'']
    · intro i hi
      simp
end EX
set_option Elab.async false
set_option linter.all false
set_option autoImplicit false
set_option maxRecDepth 100000
set_option maxHeartbeats 4000000
/-! MV: least cores, the tree that is found, bent trees. -/
namespace EX
open PySem L2
variable {n : Nat} {as : List Ans} {ws : List Int} {rows : List G} {lo hi : Int}
theorem immL_eA (xs : List Ans) : immL (xs.map eA) = true := by
  induction xs with
  | nil => simp [immL]
  | cons a xs ih => simp [immL, imm, eA, ih]
theorem ansAt_nat {bs : List Ans} {d : D} (e : sqD d = some (bs.map eA)) {i : Int} (h : 0 ≤ i ∧ i < bs.length) : ixAny d (.int i) = some (eA (ansAt bs i)) := ixA e h.1 h.2
def CoreI (rows : List G) (bs : List Ans) (core : List Int) : Prop := core.Nodup ∧ (∀ i ∈ core, 0 ≤ i ∧ i < bs.length) ∧ core.length ≤ bs.length ∧ (view rows bs = [] → view rows (core.map (ansAt bs)) = [])
theorem map_ansAt (bs : List Ans) : ((List.range bs.length).map fun (i : Nat) => (i : Int)).map (ansAt bs) = bs := by
  rw [List.map_map]
  apply List.ext_getElem
  · simp
  · intro i h1 h2
    simp [ansAt, List.getD, h2]
theorem nodup_range_int (m : Nat) : ((List.range m).map fun (i : Nat) => (i : Int)).Nodup := by
  rw [List.Nodup, List.pairwise_map]
  exact (List.nodup_range (n := m)).imp fun h z => h (by omega)
theorem coreI_full (bs : List Ans) : CoreI rows bs ((List.range bs.length).map fun (i : Nat) => (i : Int)) := by
  refine ⟨nodup_range_int _, fun i hi => ?_, by simp, fun h => by rw [map_ansAt]; exact h⟩
  obtain ⟨k, hk, rfl⟩ := List.mem_map.mp hi
  have := List.mem_range.mp hk
  omega
theorem least_core_ex (hr : ∀ g ∈ rows, g.length = n) (hz : rows.length ≤ 1000) {bs : List Ans} (hb : ∀ a ∈ bs, InA n a) (hl : bs.length ≤ 20) {d : D} (e : sqD d = some (bs.map eA)) (el : dLen [d] = some (.int bs.length)) :
    ∃ c : List Int, f_least_core [eT eG rows, d] = some (eI c) ∧ CoreI rows bs c := by
  have loop := forD_inv (mg := gOne) (ix := [3]) (e := fun x : Nat => D.int x) (m := (thenS (sOwnB 4 (mLc (iS (mVar 2)) gOne [5] (nVal (mOp dNe (mVar 5) (mVar 3))) (mOp ixAny (mVar 1) (mVar 5)) [5])) (sIf (nNot (nVal (mCall (mCons (mL (mLc (iS (mVar 0)) gOne [6] (fun _ => some true) (mCall (mCons (mVar 6) (mCons (mVar 4) (fun _ => some []))) f_fits) [6])) (fun _ => some [])) dAny))) (sRem 2 (mVar 3)) sNil)))
    (fun xs se => ∃ core u3 u4, xs.Nodup ∧ (∀ x ∈ xs, (x : Int) ∈ core) ∧ CoreI rows bs core ∧ se = [.f (eT eG rows), .f d, .o (.l (core.map D.int)), u3, u4, .u, .u]) (by
    rintro x xs se ⟨core, u3, u4, nd, hx, hc, rfl⟩
    obtain ⟨n1, n2⟩ := List.nodup_cons.mp nd
    obtain ⟨c1, c2, c3, c4⟩ := id hc
    have xc := hx x List.mem_cons_self
    let rest := core.filter fun j => decide (j ≠ (x : Int))
    have rl : rest.length ≤ core.length := List.length_filter_le _ _
    have rin : ∀ a ∈ rest.map (ansAt bs), InA n a := fun a h => by
      obtain ⟨i, hi, rfl⟩ := List.mem_map.mp h
      have := c2 i (List.mem_filter.mp hi).1
      exact hb _ (ansAt_mem this.1 this.2)
    have f1 : ∀ g ∈ rows, f_fits [eG g, .lst ((rest.map (ansAt bs)).map eA)] = some (.bl (fits g (rest.map (ansAt bs)))) := fun g hg => fits_eq (hr g hg) rfl rin (by simp; omega)
    have im := immL_eA (rest.map (ansAt bs))
    have comp : lcD (turnD gOne [5] (nVal (mOp dNe (mVar 5) (mVar 3))) (mOp ixAny (mVar 1) (mVar 5)) [some (eT eG rows), some d, some (.lst (core.map D.int)), some (.int x), rdAt true u4, none, none]) (core.map D.int) = some ((rest.map (ansAt bs)).map eA) := by
      rw [lcD_filter (fun j => decide (j ≠ (x : Int))) (fun j => eA (ansAt bs j))]
      · simp [rest, Function.comp_def]
      · intro j hj
        simp [ansAt_nat e (c2 j hj)]
        by_cases cc : j = (x : Int) <;> simp [cc]
    have compG : lcD (turnD gOne [6] (fun _ => some true) (mCall (mCons (mVar 6) (mCons (mVar 4) (fun _ => some []))) f_fits) [some (eT eG rows), some d, some (.lst (core.map D.int)), some (.int x), some (.lst ((rest.map (ansAt bs)).map eA)), none, none]) (rows.map eG) = some (rows.map fun g => D.bl (fits g (rest.map (ansAt bs)))) := by
      refine lcD_map _ fun g hg => ?_
      simp only [turnD_eq, gOne_eq, obind_some, List.map_cons, List.map_nil, setL_cons, setL_nil, if_t, mCall_eq, mCons_eq, mVar_eq, List.set_cons_succ, List.set_cons_zero, List.getElem?_cons_succ, List.getElem?_cons_zero, Option.join_some, f1 g hg, omap_some]
      exact if_pos trivial
    have sq : sqD (eT eG rows) = some (rows.map eG) := rfl
    have cl : core.length ≤ 100000 := by omega
    have rzl : rows.length ≤ 100000 := by omega
    have sm1 : small ((rest.map (ansAt bs)).map eA) = true := small_of (by simp; omega)
    have sm2 : small (rows.map fun g => D.bl (fits g (rest.map (ansAt bs)))) = true := small_of (by simp; omega)
    cases cv : (view rows (rest.map (ansAt bs))).isEmpty with
    | true =>
      refine ⟨_, [.f (eT eG rows), .f d, .o (.l ((core.erase x).map D.int)), .f (.int x), .o (.l ((rest.map (ansAt bs)).map eA)), .u, .u], rfl, ?_, core.erase x, _, _, n2, fun y hy => ?_, ⟨c1.erase _, fun i hi => c2 i (List.mem_of_mem_erase hi), Nat.le_trans (List.length_erase_le) c3, fun _ => ?_⟩, rfl⟩
      · simp [-List.map_map, comp, cl, rzl, im, sq, compG, view_any, cv]
        rw [remK_ok xc]
        simp
      · have : (y : Int) ≠ (x : Int) := fun z => n1 (by have : y = x := by omega
                                                        rw [← this]; exact hy)
        exact (List.mem_erase_of_ne this).mpr (hx y (List.mem_cons_of_mem _ hy))
      · have er : core.erase (x : Int) = rest := by
          rw [c1.erase_eq_filter]
          apply List.filter_congr
          intro j _
          by_cases cc : j = (x : Int) <;> simp [cc]
        rw [er]
        exact List.isEmpty_iff.mp cv
    | false =>
      refine ⟨_, [.f (eT eG rows), .f d, .o (.l (core.map D.int)), .f (.int x), .o (.l ((rest.map (ansAt bs)).map eA)), .u, .u], rfl, ?_, core, _, _, n2, fun y hy => hx y (List.mem_cons_of_mem _ hy), hc, rfl⟩
      simp [-List.map_map, comp, cl, rzl, im, sq, compG, view_any, cv]) (xs := List.range bs.length) (se := [.f (eT eG rows), .f d, .o (.l ((List.range bs.length).map fun (i : Nat) => D.int i)), .u, .u, .u, .u]) ⟨(List.range bs.length).map fun (i : Nat) => (i : Int), .u, .u, List.nodup_range, fun x hx => List.mem_map.mpr ⟨x, hx, rfl⟩, coreI_full bs, by simp [Function.comp_def]⟩
  obtain ⟨se', k1, core, u3, u4, _, _, hc, rfl⟩ := loop
  refine ⟨core, ?_, hc⟩
  unfold f_least_core
  have rg := rng1_eq (j := (bs.length : Int)) (inR_of' (by omega) (by omega))
  simp [el, lstRg_ok (show bs.length ≤ 100000 by omega), rg, rangeD_eq, k1, eI]
/-! ### the tree that is found -/
def Dnw : Nat → Wr → Prop
  | 0, _ => False
  | _ + 1, .leaf => True
  | k + 1, .node c ts => c ≠ [] ∧ ts.length = c.length ∧ c.length ≤ 20 ∧ ∀ t ∈ ts, Dnw k t
theorem Dnw.dw : ∀ {k : Nat} {t : Wr}, Dnw k t → Dw k t
  | 0, _, h => h.elim
  | k + 1, .leaf, _ => trivial
  | k + 1, .node _ ts, h => ⟨by have := h.2.2.1; omega, by have := h.2.1; have := h.2.2.1; omega, fun t ht => (h.2.2.2 t ht).dw⟩
/-- lighter sets leave an answer that contradicts -/
def Lgt (rows : List G) (as : List Ans) (ws : List Int) (least : Int) : Prop := ∀ s : List Int, s.Nodup → (∀ i ∈ s, 0 ≤ i ∧ i < as.length) → wt ws s < least → ∀ g ∈ rows, ∃ i : Int, 0 ≤ i ∧ i < as.length ∧ i ∉ s ∧ says g (ansAt as i) = false
theorem len_valid {s : List Int} (nd : s.Nodup) (h : ∀ i ∈ s, 0 ≤ i ∧ i < as.length) : s.length ≤ as.length := by
  have := len_sub s ((List.range as.length).map fun (i : Nat) => (i : Int)) nd fun i hi => List.mem_map.mpr ⟨i.toNat, List.mem_range.mpr (by have := h i hi; omega), by have := h i hi; omega⟩
  simpa using this
theorem nodup_snocI {s : List Int} {p : Int} (h : s.Nodup) (hp : p ∉ s) : (s ++ [p]).Nodup := by
  rw [List.nodup_append]
  refine ⟨h, by simp, ?_⟩
  intro a ha b hb
  simp at hb
  subst hb
  exact fun z => hp (z ▸ ha)
theorem zip_map_self {α β : Type} (f : α → β) (l : List α) : l.zip (l.map f) = l.map fun p => (p, f p) := by
  induction l with
  | nil => rfl
  | cons x l ih => simp [ih]
def restI (as : List Ans) (s : List Int) : List Int := ((List.range as.length).filter fun i : Nat => decide ((i : Int) ∉ s)).map fun (i : Nat) => (i : Int)
theorem restI_mem {s : List Int} {i : Int} : i ∈ restI as s ↔ 0 ≤ i ∧ i < as.length ∧ i ∉ s := by
  unfold restI
  simp only [List.mem_map, List.mem_filter, List.mem_range, decide_eq_true_iff]
  constructor
  · rintro ⟨k, ⟨h1, h2⟩, rfl⟩
    exact ⟨by omega, by omega, h2⟩
  · rintro ⟨h1, h2, h3⟩
    exact ⟨i.toNat, ⟨by omega, by rw [Int.toNat_of_nonneg h1]; exact h3⟩, by omega⟩
theorem restI_nodup (as : List Ans) (s : List Int) : (restI as s).Nodup := by
  unfold restI
  rw [List.Nodup, List.pairwise_map]
  exact ((List.nodup_range (n := as.length)).filter _).imp fun h z => h (by omega)
theorem restI_len (as : List Ans) (s : List Int) : (restI as s).length ≤ as.length := by
  unfold restI
  have := List.length_filter_le (fun i : Nat => decide ((i : Int) ∉ s)) (List.range as.length)
  simpa using this
theorem gA_mem {xs : List Int} {i : Int} (h : 0 ≤ i ∧ i < xs.length) : gA xs i ∈ xs := by
  have hl : i.toNat < xs.length := by omega
  simp [gA, List.getD, List.getElem?_eq_getElem hl]
theorem gA_inj {xs : List Int} (nd : xs.Nodup) {i j : Int} (h : 0 ≤ i ∧ i < xs.length) (h' : 0 ≤ j ∧ j < xs.length) (e : gA xs i = gA xs j) : i = j := by
  have hl : i.toNat < xs.length := by omega
  have hl' : j.toNat < xs.length := by omega
  simp [gA, List.getD, List.getElem?_eq_getElem hl, List.getElem?_eq_getElem hl'] at e
  have := (List.getElem_inj nd).mp e
  omega
theorem ansAt_rest {xs : List Int} {i : Int} (h : 0 ≤ i ∧ i < xs.length) : ansAt (xs.map (ansAt as)) i = ansAt as (gA xs i) := by
  have hl : i.toNat < xs.length := by omega
  simp [gA, ansAt, List.getD, List.getElem?_eq_getElem hl]
theorem tree_of_ex (T : Dou n rows as ws) (hne : rows ≠ []) {least : Int} (hL : Lgt rows as ws least) {da dw : D} (ea : sqD da = some (as.map eA)) (el : dLen [da] = some (.int as.length)) (ew : sqD dw = some (ws.map D.int)) : ∀ (k : Nat) (s : List Int), s.Nodup → (∀ i ∈ s, 0 ≤ i ∧ i < as.length) → as.length < s.length + k → k ≤ 100 →
    ∃ t, f_tree_of k [ePool n lo hi rows, .tup [da, dw, .int least], eI s] = some (eW t) ∧ refN rows as ws least k s t = true ∧ ∀ j, as.length - s.length < j → Dnw j t
  | 0, s, nd, hs, hk, _ => by
    have := len_valid nd hs
    omega
  | k + 1, s, nd, hs, hk, h100 => by
    have sl := len_valid nd hs
    have al := T.hl
    have rz := T.hz
    have w1 := weight_of_eq ew (s := s) (fun i hi => by rw [T.hw]; exact hs i hi) (by omega)
    by_cases c : least ≤ wt ws s
    · refine ⟨.leaf, ?_, by simp [refN, c], fun j hj => by cases j with
        | zero => omega
        | succ j => trivial⟩
      unfold f_tree_of
      simp [w1, dI2, c, eW_leaf]
    · have hg := hL s nd hs (by omega)
      let R := restI as s
      have Rv : ∀ i ∈ R, 0 ≤ i ∧ i < as.length ∧ i ∉ s := fun i hi => restI_mem.mp hi
      have Rl : R.length ≤ as.length := restI_len as s
      have bin : ∀ a ∈ R.map (ansAt as), InA n a := fun a h => by
        obtain ⟨i, hi, rfl⟩ := List.mem_map.mp h
        exact T.ha _ (ansAt_mem (Rv i hi).1 (Rv i hi).2.1)
      obtain ⟨cc, l1, l2, l3, l4, l5⟩ := least_core_ex T.hr T.hz bin (by simp; omega) (d := .lst ((R.map (ansAt as)).map eA)) rfl (by simp)
      have l3 : ∀ i ∈ cc, 0 ≤ i ∧ i < R.length := fun i hi => by have := l3 i hi; simpa using this
      simp at l4
      have v0 : view rows (R.map (ansAt as)) = [] := by
        unfold view
        rw [List.filter_eq_nil_iff]
        intro g gm hf
        obtain ⟨i, i0, i1, i2, i3⟩ := hg g gm
        have := List.all_eq_true.mp hf (ansAt as i) (List.mem_map.mpr ⟨i, restI_mem.mpr ⟨i0, i1, i2⟩, rfl⟩)
        rw [i3] at this
        cases this
      let C := cc.map (gA R)
      have CR : ∀ i ∈ C, i ∈ R := fun i hi => by
        obtain ⟨j, hj, rfl⟩ := List.mem_map.mp hi
        exact gA_mem (l3 j hj)
      have Cnd : C.Nodup := by
        show (cc.map (gA R)).Nodup
        rw [List.Nodup, List.pairwise_map]
        exact l2.imp_of_mem fun {a b} ha hb h z => h (gA_inj (restI_nodup as s) (l3 a ha) (l3 b hb) z)
      have Cm : C.map (ansAt as) = cc.map (ansAt (R.map (ansAt as))) := by
        show (cc.map (gA R)).map (ansAt as) = _
        rw [List.map_map]
        exact List.map_congr_left fun i hi => (ansAt_rest (l3 i hi)).symm
      have Cv : view rows (C.map (ansAt as)) = [] := by rw [Cm]; exact l5 v0
      have Cne : C ≠ [] := fun z => by
        rw [z] at Cv
        obtain ⟨g, gs, rfl⟩ := List.exists_cons_of_ne_nil hne
        simp [view, fits] at Cv
      have Cl : C.length ≤ 20 := by show (cc.map (gA R)).length ≤ 20; simp; omega
      have sub : ∀ i ∈ C, ∃ t, f_tree_of k [ePool n lo hi rows, .tup [da, dw, .int least], eI (s ++ [i])] = some (eW t) ∧ refN rows as ws least k (s ++ [i]) t = true ∧ ∀ j, as.length - (s ++ [i]).length < j → Dnw j t := fun i hi => by
        have := Rv i (CR i hi)
        exact tree_of_ex T hne hL ea el ew k (s ++ [i]) (nodup_snocI nd this.2.2) (fun j hj => by
          rcases List.mem_append.mp hj with z | z
          · exact hs j z
          · simp at z; rw [z]; exact ⟨this.1, this.2.1⟩) (by simp; omega) (by omega)
      let tr : Int → Wr := fun i => if hi : i ∈ C then (sub i hi).choose else .leaf
      have trs : ∀ i ∈ C, f_tree_of k [ePool n lo hi rows, .tup [da, dw, .int least], eI (s ++ [i])] = some (eW (tr i)) ∧ refN rows as ws least k (s ++ [i]) (tr i) = true ∧ ∀ j, as.length - (s ++ [i]).length < j → Dnw j (tr i) := fun i hi => by
        have e1 := (sub i hi).choose_spec
        have e2 : tr i = (sub i hi).choose := by simp only [tr, hi, dif_pos]
        rw [← e2] at e1
        exact e1
      refine ⟨.node C (C.map tr), ?_, ?_, fun j hj => ?_⟩
      · unfold f_tree_of
        have rg := rng1_eq (j := (as.length : Int)) (inR_of' (by omega) (by omega))
        simp [w1, dI2, c, el, rg, rangeD_eq]
        rw [lcD_filter (fun i : Nat => decide ((i : Int) ∉ s)) (fun i : Nat => D.int i)]
        · have rl' : ((List.range as.length).filter fun i : Nat => decide ((i : Int) ∉ s)).length ≤ 100000 := by
            have := List.length_filter_le (fun i : Nat => decide ((i : Int) ∉ s)) (List.range as.length)
            simp at this ⊢
            omega
          have rm : (((List.range as.length).filter fun i : Nat => decide ((i : Int) ∉ s)).map fun i : Nat => D.int i) = R.map D.int := by
            simp [R, restI, Function.comp_def]
          simp only [rm, small_map, show R.length ≤ 100000 by omega, decide_true, if_t, obind_some, omap_some]
          simp [ePool, atD, tb_rows, show as.length ≤ 100000 by omega]
          rw [lcD_map (fun i => eA (ansAt as i))]
          · have sm : R.length ≤ 100000 := by omega
            have l1' : f_least_core [eT eG rows, .lst (R.map fun i => eA (ansAt as i))] = some (eI cc) := by
              rw [← l1, List.map_map] <;> rfl
            simp [sm, l1', eI]
            rw [lcD_map (fun j => D.int (gA R j))]
            · simp [show cc.length ≤ 100000 by omega]
              rw [show (cc.map fun j => D.int (gA R j)) = C.map D.int by simp [C, Function.comp_def]]
              rw [lcD_map (fun i => eW (tr i))]
              · simp [show C.length ≤ 100000 by omega, eW_node, eI, Function.comp_def]
              · intro i hi
                have e1 := (trs i hi).1
                have sm : small (s.map D.int ++ [.int i]) = true := small_of (by simp; omega)
                simp only [eI, List.map_append, List.map_cons, List.map_nil, ePool] at e1
                simp [sm, e1]
            · intro j hj
              have := atI_g (g := R) (l3 j hj).1 (l3 j hj).2
              simp [this]
          · intro i hi
            simp [ixA ea (Rv i hi).1 (Rv i hi).2.1]
        · intro i hi
          simp [eI, in_I]
          by_cases q : (i : Int) ∈ s <;> simp [q]
      · rw [refN_node]
        have e1 : (C.all (okI as s)) = true := List.all_eq_true.mpr fun i hi => decide_eq_true (Rv i (CR i hi))
        have e2 : ((C.zip (C.map tr)).all fun q => refN rows as ws least k (s ++ [q.1]) q.2) = true := by
          rw [zip_map_self, List.all_eq_true]
          intro r hr
          obtain ⟨i, hi, rfl⟩ := List.mem_map.mp hr
          exact (trs i hi).2.1
        rw [e1, e2, Cv]
        simp [Cnd]
      · cases j with
        | zero => omega
        | succ j =>
          refine ⟨Cne, by simp, Cl, fun t ht => ?_⟩
          obtain ⟨i, hi, rfl⟩ := List.mem_map.mp ht
          have vi := Rv i (CR i hi)
          have sl' := len_valid (as := as) (nodup_snocI nd vi.2.2) (fun j hj => by
            rcases List.mem_append.mp hj with z | z
            · exact hs j z
            · simp at z; rw [z]; exact ⟨vi.1, vi.2.1⟩)
          simp at sl'
          exact (trs i hi).2.2 j (by simp; omega)
/-! ### the law's tree -/
theorem law_tree_ex (T : Dou n rows as ws) {least : Int} {d0 da dw : D} (el : dLen [da] = some (.int as.length)) (ew : sqD dw = some (ws.map D.int)) : ∀ (k : Nat) (s : List Int), s.Nodup → (∀ i ∈ s, 0 ≤ i ∧ i < as.length) → as.length < s.length + k → k ≤ 100 →
    ∃ t, f_law_tree k [d0, .tup [da, dw, .int least], eI s] = some (eW t) ∧ Dw k t
  | 0, s, nd, hs, hk, _ => by
    have := len_valid nd hs
    omega
  | k + 1, s, nd, hs, hk, h100 => by
    have sl := len_valid nd hs
    have al := T.hl
    have w1 := law_weight_eq ew (s := s) (fun i hi => by rw [T.hw]; exact hs i hi) (by omega)
    by_cases c : least ≤ wt ws s
    · refine ⟨.leaf, ?_, trivial⟩
      unfold f_law_tree
      simp [w1, dI2, c, eW_leaf]
    · let R := restI as s
      have Rv : ∀ i ∈ R, 0 ≤ i ∧ i < as.length ∧ i ∉ s := fun i hi => restI_mem.mp hi
      have Rl : R.length ≤ as.length := restI_len as s
      have sub : ∀ i ∈ R, ∃ t, f_law_tree k [d0, .tup [da, dw, .int least], eI (s ++ [i])] = some (eW t) ∧ Dw k t := fun i hi => by
        have := Rv i hi
        exact law_tree_ex T el ew k (s ++ [i]) (nodup_snocI nd this.2.2) (fun j hj => by
          rcases List.mem_append.mp hj with z | z
          · exact hs j z
          · simp at z; rw [z]; exact ⟨this.1, this.2.1⟩) (by simp; omega) (by omega)
      let tr : Int → Wr := fun i => if hi : i ∈ R then (sub i hi).choose else .leaf
      have trs : ∀ i ∈ R, f_law_tree k [d0, .tup [da, dw, .int least], eI (s ++ [i])] = some (eW (tr i)) ∧ Dw k (tr i) := fun i hi => by
        have e1 := (sub i hi).choose_spec
        have e2 : tr i = (sub i hi).choose := by simp only [tr, hi, dif_pos]
        rw [← e2] at e1
        exact e1
      refine ⟨.node R (R.map tr), ?_, by omega, by simp; omega, fun t ht => ?_⟩
      · unfold f_law_tree
        have rg := rng1_eq (j := (as.length : Int)) (inR_of' (by omega) (by omega))
        simp [w1, dI2, c, el, rg, rangeD_eq]
        rw [lcD_filter (fun i : Nat => decide ((i : Int) ∉ s)) (fun i : Nat => D.int i)]
        · have rm : (((List.range as.length).filter fun i : Nat => decide ((i : Int) ∉ s)).map fun i : Nat => D.int i) = R.map D.int := by
            simp [R, restI, Function.comp_def]
          simp only [rm, small_map, show R.length ≤ 100000 by omega, decide_true, if_t, obind_some, omap_some]
          simp [show as.length ≤ 100000 by omega]
          rw [lcD_map (fun i => eW (tr i))]
          · simp [show R.length ≤ 100000 by omega, eW_node, eI, Function.comp_def]
          · intro i hi
            have e1 := (trs i hi).1
            simp only [eI, List.map_append, List.map_cons, List.map_nil] at e1
            simp [eI]
            rw [dAdd_t (by simp; omega)]
            simp [e1]
        · intro i hi
          simp [eI, in_I]
          by_cases q : (i : Int) ∈ s <;> simp [q]
      · obtain ⟨i, hi, rfl⟩ := List.mem_map.mp ht
        exact (trs i hi).2
end EX
set_option Elab.async false
set_option linter.all false
set_option autoImplicit false
set_option maxRecDepth 100000
set_option maxHeartbeats 4000000
/-! MX: bent trees. -/
namespace EX
open PySem L2
theorem slice_toT {ds : List D} {k : Nat} : sliceD (.tup ds) none (some (k : Int)) = some (.tup (ds.take k)) := by
  show some (D.tup (cutD ds none (some (k : Int)))) = _
  congr 2
  unfold cutD
  rw [HT.sIx_nat, HT.sIx_none]
  simp
theorem atI_end {ds : List D} {d : D} : ∀ (h : ds ≠ []), ds.getLast h = d → atI ds (-1) = some d := fun h e => by
  have := L2.atI_last ds.dropLast (ds.getLast h)
  rw [List.dropLast_concat_getLast] at this
  rw [this, e]
theorem bent_exW : ∀ (k j : Nat) (t : Wr) (m : Int), Dnw j t → j < k → ∃ ts : List Wr, f_law_bent k [eW t, .int m] = some (.lst (ts.map eW)) ∧ (∀ b ∈ ts, Dw (j + 1) b) ∧ ts.length ≤ 100
  | 0, _, _, _, _, h => by omega
  | k + 1, 0, t, m, h, _ => h.elim
  | k + 1, j + 1, .leaf, m, h, hk => by
    refine ⟨[], ?_, by simp, by simp⟩
    unfold f_law_bent
    simp [eW_leaf, isNon]
  | k + 1, j + 1, .node [] ts, m, hd, hk => (hd.1 rfl).elim
  | k + 1, j + 1, .node (x :: c) [], m, hd, hk => by have := hd.2.1; simp at this
  | k + 1, j + 1, .node (x :: c) (t0 :: tl), m, hd, hk => by
    obtain ⟨_, hl, h20, hc⟩ := id hd
    obtain ⟨bs, b1, b2, b3⟩ := bent_exW k j t0 m (hc t0 List.mem_cons_self) (by omega)
    have hl : tl.length = c.length := by simpa using hl
    have h20 : c.length + 1 ≤ 20 := by simpa using h20
    have n0 : eW (.node (x :: c) (t0 :: tl)) = .tup [eI (x :: c), .tup ((t0 :: tl).map eW)] := eW_node _ _
    let z : Int := (x :: c).getLast (by simp)
    let base : List Wr := [.node (x :: c).dropLast (t0 :: tl).dropLast, .node ((x :: c) ++ [99]) ((t0 :: tl) ++ [.leaf]), .node (x :: c).reverse (t0 :: tl), .node (x :: c) (t0 :: tl).dropLast, .node (x :: c) (List.replicate (c.length + 1) .leaf), .node (x :: x :: c) (t0 :: t0 :: tl), .node ((x - m) :: c) (t0 :: tl), .node ((x :: c).dropLast ++ [z - m]) (t0 :: tl)]
    refine ⟨base ++ (bs.take 3).map fun b => .node (x :: c) (b :: tl), ?_, fun b hb => ?_, ?_⟩
    · unfold f_law_bent
      have s1 : sliceD (.tup (eW t0 :: tl.map eW)) none (some (-1)) = some (.tup (eW t0 :: tl.map eW).dropLast) := slice_init
      have s1' : sliceD (.tup (.int x :: c.map D.int)) none (some (-1)) = some (.tup (.int x :: c.map D.int).dropLast) := slice_init
      have s2 : sliceD (.tup (eW t0 :: tl.map eW)) (some 1) none = some (.tup (tl.map eW)) := by
        have := slice_from (ds := eW t0 :: tl.map eW) (k := 1)
        simpa using this
      have s2' : sliceD (.tup (.int x :: c.map D.int)) (some 1) none = some (.tup (c.map D.int)) := by
        have := slice_from (ds := .int x :: c.map D.int) (k := 1)
        simpa using this
      have s3 : sliceD (.tup (eW t0 :: tl.map eW)) none (some 1) = some (.tup [eW t0]) := by
        have := slice_toT (ds := eW t0 :: tl.map eW) (k := 1)
        simpa using this
      have s3' : sliceD (.tup (.int x :: c.map D.int)) none (some 1) = some (.tup [.int x]) := by
        have := slice_toT (ds := .int x :: c.map D.int) (k := 1)
        simpa using this
      have m1 : dMul (.tup [.non]) (.int ((c.length : Int) + 1)) = some (.tup (List.replicate (c.length + 1) .non)) := by
        have := dMul_non (m := c.length + 1) (by omega) (by omega)
        simpa using this
      have a0 : atI (.int x :: c.map D.int) 0 = some (.int x) := atI_0 _ _
      have az : atI (.int x :: c.map D.int) (-1) = some (.int z) := atI_end (by simp) (by
        show (D.int x :: c.map D.int).getLast _ = .int z
        have : (D.int x :: c.map D.int) = (x :: c).map D.int := rfl
        simp only [this, List.getLast_map]
        rfl)
      have at0 : atI (eW t0 :: tl.map eW) 0 = some (eW t0) := atI_0 _ _
      have a1 : dAdd (.tup (eW t0 :: tl.map eW)) (.tup [.non]) = some (.tup ((eW t0 :: tl.map eW) ++ [.non])) := dAdd_t (by simp; omega)
      have a1' : dAdd (.tup (.int x :: c.map D.int)) (.tup [.int 99]) = some (.tup ((.int x :: c.map D.int) ++ [.int 99])) := dAdd_t (by simp; omega)
      have a2 : dAdd (.tup [eW t0]) (.tup (eW t0 :: tl.map eW)) = some (.tup ([eW t0] ++ (eW t0 :: tl.map eW))) := dAdd_t (by simp; omega)
      have a2' : dAdd (.tup [.int x]) (.tup (.int x :: c.map D.int)) = some (.tup ([.int x] ++ (.int x :: c.map D.int))) := dAdd_t (by simp; omega)
      have a3 : dAdd (.tup [.int (x - m)]) (.tup (c.map D.int)) = some (.tup ([.int (x - m)] ++ c.map D.int)) := dAdd_t (by simp; omega)
      have a4 : dAdd (.tup (.int x :: c.map D.int).dropLast) (.tup [.int (z - m)]) = some (.tup ((.int x :: c.map D.int).dropLast ++ [.int (z - m)])) := dAdd_t (by simp; omega)
      have r1 : revD (.tup (.int x :: c.map D.int)) = some (.tup (.int x :: c.map D.int).reverse) := rfl
      have b1' := b1
      have t3 : sliceD (.lst (bs.map eW)) none (some 3) = some (.lst ((bs.take 3).map eW)) := by
        have := slice_to (ds := bs.map eW) (k := 3)
        rw [List.map_take]
        exact this
      simp [n0, eI, isNon, s1, s1', a1, a1', r1, m1, catK_ok, s2, s2', s3, s3', a2, a2', a0, az, dI2, a3, appK_ok, a4, at0, b1', t3]
      rw [← List.map_take]
      refine forD_then (xs := bs.take 3) (fun xs se => ∃ (pre : List Wr) (u : Sl), bs.take 3 = pre ++ xs ∧ se = [.f (.tup [.tup (.int x :: c.map D.int), .tup (eW t0 :: tl.map eW)]), .f (.int m), .f (.tup (eW t0 :: tl.map eW)), .f (.tup (.int x :: c.map D.int)), .o (.l ((base ++ pre.map fun b => Wr.node (x :: c) (b :: tl)).map eW)), u]) ⟨[], .u, rfl, ?_⟩ ?_ ?_
      · simp [base, eW_node, eW_leaf, eI, List.map_replicate]
      · rintro b xs se ⟨pre, u, hx, rfl⟩
        have hp : pre.length ≤ 3 := by
          have := congrArg List.length hx
          simp at this
          omega
        have a5 : dAdd (.tup [eW b]) (.tup (tl.map eW)) = some (.tup ([eW b] ++ tl.map eW)) := dAdd_t (by simp; omega)
        refine ⟨_, [.f (.tup [.tup (.int x :: c.map D.int), .tup (eW t0 :: tl.map eW)]), .f (.int m), .f (.tup (eW t0 :: tl.map eW)), .f (.tup (.int x :: c.map D.int)), .o (.l ((base ++ (pre ++ [b]).map fun b => Wr.node (x :: c) (b :: tl)).map eW)), .f (eW b)], rfl, ?_, pre ++ [b], _, by simp [hx], rfl⟩
        have hb8 : base.length = 8 := rfl
        rw [sApp_ok (i := 4) (ds := (base ++ pre.map fun b => Wr.node (x :: c) (b :: tl)).map eW) rfl]
        simp only [mTup_eq, mCons_eq, mVar_eq, mOp_eq, mSlice_eq, oI_eq]
        simp [a5, s2]
        rw [appK_ok (by simp [hb8]; omega)]
        simp [eW_node, eI]
      · rintro se' ⟨pre, u, hx, rfl⟩
        simp at hx
        subst hx
        simp [List.map_take]
    · have dc : ∀ t ∈ t0 :: tl, Dw (j + 1) t := fun t ht => (hc t ht).dw.mono (by omega)
      have dl : Dw (j + 1) .leaf := trivial
      have dd : ∀ t ∈ (t0 :: tl).dropLast, Dw (j + 1) t := fun t ht => dc t ((List.dropLast_sublist _).subset ht)
      rcases List.mem_append.mp hb with hb | hb
      · simp only [base, List.mem_cons, List.not_mem_nil, or_false] at hb
        rcases hb with rfl | rfl | rfl | rfl | rfl | rfl | rfl | rfl
        · exact ⟨by simp; omega, by simp; omega, dd⟩
        · refine ⟨by simp; omega, by simp; omega, fun t ht => ?_⟩
          rcases List.mem_append.mp ht with z | z
          · exact dc t z
          · simp at z; rw [z]; exact dl
        · exact ⟨by simp; omega, by simp; omega, dc⟩
        · exact ⟨by simp; omega, by simp; omega, dd⟩
        · refine ⟨by simp; omega, by simp; omega, fun t ht => ?_⟩
          rw [List.eq_of_mem_replicate ht]
          exact dl
        · refine ⟨by simp; omega, by simp; omega, fun t ht => ?_⟩
          rcases List.mem_cons.mp ht with rfl | z
          · exact dc _ List.mem_cons_self
          · exact dc t z
        · exact ⟨by simp; omega, by simp; omega, dc⟩
        · exact ⟨by simp; omega, by simp; omega, dc⟩
      · obtain ⟨b0, h0, rfl⟩ := List.mem_map.mp hb
        refine ⟨by simp; omega, by simp; omega, fun t ht => ?_⟩
        rcases List.mem_cons.mp ht with rfl | z
        · exact b2 _ (List.mem_of_mem_take h0)
        · exact dc t (List.mem_cons_of_mem _ z)
    · have hb8 : base.length = 8 := rfl
      simp [hb8]
      omega
end EX
set_option Elab.async false
set_option linter.all false
set_option autoImplicit false
set_option maxRecDepth 100000
set_option maxHeartbeats 4000000
/-! MY: the least wrong answers. -/
namespace EX
open PySem L2
/-- a pool, answers of any kind, weights -/
structure Men (n : Nat) (lo hi : Int) (as : List Ans) (ws : List Int) : Prop where
  h2 : 2 ≤ n
  h5 : n ≤ 5
  b1 : 1 ≤ lo
  b2 : lo ≤ hi
  b3 : hi ≤ n
  ha : ∀ a ∈ as, InA n a
  h8 : as.length ≤ 8
  hw : ws.length = as.length
  hp : ∀ p ∈ ws, 1 ≤ p ∧ p ≤ 9
variable {n : Nat} {as : List Ans} {ws : List Int} {lo hi : Int}
theorem gps_nodup {n : Nat} (h5 : n ≤ 5) : (gps n).Nodup := by
  have : n = 0 ∨ n = 1 ∨ n = 2 ∨ n = 3 ∨ n = 4 ∨ n = 5 := by omega
  rcases this with rfl | rfl | rfl | rfl | rfl | rfl <;> decide +kernel
theorem rowsOf_nodup {n : Nat} (h5 : n ≤ 5) : (rowsOf n lo hi).Nodup := (gps_nodup h5).filter _
theorem rows_ne5 {n : Nat} {lo hi : Int} (h2 : 2 ≤ n) (h5 : n ≤ 5) (h1 : 1 ≤ lo) (h : lo ≤ hi) (hn : hi ≤ n) : rowsOf n lo hi ≠ [] := by
  have : ∃ g ∈ gps n, mx g + 1 = lo := by
    have nn : n = 2 ∨ n = 3 ∨ n = 4 ∨ n = 5 := by omega
    have ll : lo = 1 ∨ lo = 2 ∨ lo = 3 ∨ lo = 4 ∨ lo = 5 := by omega
    rcases nn with rfl | rfl | rfl | rfl <;> rcases ll with rfl | rfl | rfl | rfl | rfl <;> first | decide +kernel | (exfalso; omega)
  obtain ⟨g, gm, e⟩ := this
  intro z
  have : g ∈ rowsOf n lo hi := List.mem_filter.mpr ⟨gm, by simp; omega⟩
  rw [z] at this
  cases this
theorem Men.dou (S : Men n lo hi as ws) : Dou n (rowsOf n lo hi) as ws := by
  have h2 := S.h2
  have h5 := S.h5
  have h8 := S.h8
  have := rowsOf_small (n := n) (by omega) h5 (lo := lo) (hi := hi)
  exact ⟨fun g h => rowsOf_len (by omega) h, by omega, S.ha, by omega, S.hw⟩
theorem Men.ne (S : Men n lo hi as ws) : rowsOf n lo hi ≠ [] := rows_ne5 S.h2 S.h5 S.b1 S.b2 S.b3
/-- a list or a tuple of weights -/
inductive IsWs (ws : List Int) : D → Prop
  | l : IsWs ws (.lst (ws.map .int))
  | t : IsWs ws (.tup (ws.map .int))
theorem IsWs.sq {d : D} (h : IsWs ws d) : sqD d = some (ws.map D.int) := by cases h <;> rfl
theorem IsAs.len {d : D} (h : IsAs as d) : dLen [d] = some (.int as.length) := by cases h <;> simp
theorem IsWs.len {d : D} (h : IsWs ws d) : dLen [d] = some (.int ws.length) := by cases h <;> simp
abbrev menPool (n : Nat) (lo hi : Int) : D := ePool n lo hi (rowsOf n lo hi)
theorem check_doubt_eq (S : Men n lo hi as ws) {da dw : D} (hd : IsAs as da) (hw : IsWs ws dw) : f_check_doubt [menPool n lo hi, da, dw] = some .non := by
  have h8 := S.h8
  have e0 := check_answers_eq (n := n) (lo := lo) (hi := hi) (rows := rowsOf n lo hi) hd S.ha (by omega)
  have q4 : ((dIsi g_list dw).bind (isiK g_tuple dw)) = some (.bl true) := by cases hw <;> rfl
  have wl := hw.len
  rw [S.hw] at wl
  unfold f_check_doubt
  simp [e0, q4, hd.len, wl, hw.sq]
  rw [lcD_map (fun p => D.bl (decide (1 ≤ p) && decide (p ≤ 9)))]
  · have hno : ¬ ∃ x, x ∈ ws ∧ (1 ≤ x → 9 < x) := fun ⟨x, h1, h2⟩ => by
      have q := S.hp x h1
      have := h2 q.1
      omega
    simp [show ws.length ≤ 100000 by have := S.hw; omega]
    rw [if_neg hno]
    simp [hd.len, dI2, show ¬ ((8 : Int) < as.length) by omega]
  · intro p hp
    simp [is_integer_eq]
theorem law_wrong_eq {g : G} (hg : g.length = n) (ha : ∀ a ∈ as, InA n a) (hl : as.length ≤ 20) : f_law_wrong [eG g, .lst (as.map eA)] = some (eI (wrongN g as)) := by
  unfold f_law_wrong
  simp [pairsD_map]
  rw [lcD_filter (fun q : Ans × Nat => !says g q.1) (fun q : Ans × Nat => D.int (q.2 : Nat))]
  · have := List.length_filter_le (fun q : Ans × Nat => !says g q.1) as.zipIdx
    simp at this
    simp [eI, wrongN, show as.length ≤ 100000 by omega, Function.comp_def]
  · rintro ⟨a, i⟩ hq
    have am := zipIdx_mem hq
    simp [law_says_eq hg (ha _ am)]
    by_cases c : says g a = true <;> simp [c]
theorem wrongN_mem {g : G} {i : Int} : i ∈ wrongN g as ↔ 0 ≤ i ∧ i < as.length ∧ says g (ansAt as i) = false := by
  unfold wrongN
  simp only [List.mem_map, List.mem_filter]
  constructor
  · rintro ⟨⟨a, k⟩, ⟨h1, h2⟩, rfl⟩
    have e := List.mem_zipIdx_iff_getElem?.mp h1
    have hk : k < as.length := (List.getElem?_eq_some_iff.mp e).1
    refine ⟨by simp, by simpa using hk, ?_⟩
    simp at e
    simp [ansAt, List.getD, e]
    simpa using h2
  · rintro ⟨h1, h2, h3⟩
    have hl : i.toNat < as.length := by omega
    refine ⟨(ansAt as i, i.toNat), ⟨?_, by simp [h3]⟩, by simp; omega⟩
    rw [List.mem_zipIdx_iff_getElem?]
    simp [ansAt, List.getD, List.getElem?_eq_getElem hl]
theorem wrongN_nodup (g : G) (as : List Ans) : (wrongN g as).Nodup := by
  have e : wrongN g as = ((as.zipIdx.filter fun q => !says g q.1).map Prod.snd).map fun (k : Nat) => (k : Int) := by
    unfold wrongN
    rw [List.map_map]
    rfl
  rw [e, List.Nodup, List.pairwise_map]
  have s : ((as.zipIdx.filter fun q => !says g q.1).map Prod.snd).Sublist (as.zipIdx.map Prod.snd) := List.filter_sublist.map _
  rw [List.zipIdx_map_snd] at s
  exact ((List.nodup_range' (s := 0) (n := as.length)).sublist s).imp fun h z => h (by omega)
theorem wrongN_len (g : G) (as : List Ans) : (wrongN g as).length ≤ as.length := len_valid (wrongN_nodup g as) fun i hi => ⟨(wrongN_mem.mp hi).1, (wrongN_mem.mp hi).2.1⟩
/-! ### dicts whose keys are groupings -/
theorem dcD_tab {α : Type} {f : List (D × D) → D → Option (List (D × D))} {e v : α → D} {key : α → NestedKey} (hk : ∀ a, nkOf (e a) = some (key a)) (inj : ∀ a b, key a = key b → a = b) :
    ∀ (xs pre : List α), (∀ acc, ∀ a ∈ xs, f acc (e a) = some (storeK acc (key a) (e a) (v a))) → (pre ++ xs).Nodup → dcD f (pre.map fun a => (e a, v a)) (xs.map e) = some ((pre ++ xs).map fun a => (e a, v a))
  | [], pre, _, _ => by simp [dcD]
  | x :: xs, pre, hf, nd => by
    have nx : x ∉ pre := fun z => by
      have := (List.nodup_append.mp nd).2.2 x z x List.mem_cons_self
      exact this rfl
    have fn : findK (pre.map fun a => (e a, v a)) (key x) = none := by
      unfold findK
      rw [Option.map_eq_none_iff, List.find?_eq_none]
      intro q hq
      obtain ⟨a, ha, rfl⟩ := List.mem_map.mp hq
      simp [hk]
      exact fun z => nx (inj _ _ z ▸ ha)
    show (f _ (e x)).bind _ = _
    rw [hf _ x List.mem_cons_self]
    have e1 : storeK (pre.map fun a => (e a, v a)) (key x) (e x) (v x) = (pre ++ [x]).map fun a => (e a, v a) := by
      unfold storeK
      rw [fn]
      simp
    rw [e1]
    show dcD f _ _ = _
    rw [dcD_tab hk inj xs (pre ++ [x]) (fun acc a ha => hf acc a (List.mem_cons_of_mem _ ha)) (by simpa using nd)]
    simp
theorem find_gen {α : Type} {e v : α → D} {key : α → NestedKey} (hk : ∀ a, nkOf (e a) = some (key a)) (inj : ∀ a b, key a = key b → a = b) : ∀ {xs : List α} {x : α}, x ∈ xs → findK (xs.map fun a => (e a, v a)) (key x) = some (v x)
  | y :: xs, x, h => by
    unfold findK
    rw [List.map_cons, List.find?_cons]
    by_cases c : y = x
    · subst c
      simp [hk]
    · have c1 : decide (nkOf (e y) = some (key x)) = false := by
        simp [hk]
        exact fun z => c (inj _ _ z)
      rw [c1]
      have hx : x ∈ xs := by
        rcases List.mem_cons.mp h with z | z
        · exact (c z.symm).elim
        · exact z
      exact find_gen hk inj hx
def gkey (g : G) : NestedKey := .tup (g.map .num)
theorem gkey_inj (a b : G) (h : gkey a = gkey b) : a = b := by
  unfold gkey at h
  have h := NestedKey.tup.inj h
  exact (List.map_inj_right (fun x y z => NestedKey.num.inj z)).mp h
theorem nkAll_int : ∀ g : G, nkAll (g.map D.int) = some (g.map .num)
  | [] => by simp [nkAll]
  | x :: g => by simp [nkAll, nkAll_int g, nkOf]
theorem nk_eG (g : G) : nkOf (eG g) = some (gkey g) := by
  unfold eG gkey
  simp [nkOf, nkAll_int]
theorem depth_num : ∀ g : G, NestedKey.depthAll (g.map .num) ≤ 1
  | [] => by simp [NestedKey.depthAll]
  | x :: g => by
    have := depth_num g
    simp [NestedKey.depthAll, NestedKey.depth]
    omega
theorem keyD_eG (g : G) : keyD (eG g) = some (gkey g) := by
  show (nkOf (eG g)).bind (fun k => if decide (k.depth ≤ 8) = true then some k else none) = some (gkey g)
  rw [nk_eG]
  have := depth_num g
  have h : NestedKey.depth (gkey g) ≤ 8 := by
    unfold gkey
    simp [NestedKey.depth]
    omega
  simp [h]
@[simp] theorem mDc_eq (mi : Env → Option (List D)) (mg : D → Option (List D)) (ix : List Nat) (nt : Env → Option Bool) (mk mv : Env → Option D) (vs : List Nat) (env : Env) :
    mDc mi mg ix nt mk mv vs env = (mi env).bind fun ds => if small ds = true then (dcD (turnP mg ix nt mk mv (wipeE env vs)) [] ds).map D.dct else none := nr rfl
/-! ### the least weight -/
def wOf (ws : List Int) (as : List Ans) (g : G) : Int := wt ws (wrongN g as)
def leastW (rows : List G) (as : List Ans) (ws : List Int) : Int := match rows.map (wOf ws as) with
  | [] => 0
  | p :: ps => ps.foldl min p
theorem leastW_spec {rows : List G} (hne : rows ≠ []) : (∃ g ∈ rows, wOf ws as g = leastW rows as ws) ∧ ∀ g ∈ rows, leastW rows as ws ≤ wOf ws as g := by
  unfold leastW
  cases q : rows.map (wOf ws as) with
  | nil => exact (hne (by simpa using q)).elim
  | cons p ps =>
    obtain ⟨h1, h2, h3⟩ := foldl_min ps p
    have mem : ∀ x, x ∈ p :: ps → ∃ g ∈ rows, wOf ws as g = x := fun x hx => by
      rw [← q] at hx
      exact List.mem_map.mp hx
    refine ⟨?_, fun s hs => ?_⟩
    · rcases h1 with h1 | h1
      · show ∃ s ∈ rows, wOf ws as s = ps.foldl min p
        rw [h1]
        exact mem p List.mem_cons_self
      · exact mem _ (List.mem_cons_of_mem _ h1)
    · have : wOf ws as s ∈ p :: ps := by
        rw [← q]
        exact List.mem_map.mpr ⟨s, hs, rfl⟩
      rcases List.mem_cons.mp this with z | z
      · rw [z]; exact h2
      · exact h3 _ z
theorem wt_mono {ws : List Int} (h0 : ∀ p ∈ ws, 0 ≤ p) : ∀ (a s : List Int), a.Nodup → (∀ i ∈ a, i ∈ s) → (∀ i ∈ s, 0 ≤ i ∧ i < ws.length) → wt ws a ≤ wt ws s
  | [], s, _, _, hs => by
    have : ∀ s : List Int, (∀ i ∈ s, 0 ≤ i ∧ i < ws.length) → 0 ≤ wt ws s := fun s => by
      induction s with
      | nil => intro _; simp [wt]
      | cons i s ih =>
        intro h
        have h1 := h0 _ (gA_mem (h i List.mem_cons_self))
        have h2 := ih fun j hj => h j (List.mem_cons_of_mem _ hj)
        have : wt ws (i :: s) = gA ws i + wt ws s := by simp [wt]
        omega
    have := this s hs
    simpa [wt] using this
  | x :: a, s, nd, ha, hs => by
    obtain ⟨n1, n2⟩ := List.nodup_cons.mp nd
    have hx := ha x List.mem_cons_self
    have ih := wt_mono h0 a (s.erase x) n2 (fun i hi => (List.mem_erase_of_ne fun z => n1 (by rw [← z]; exact hi)).mpr (ha i (List.mem_cons_of_mem _ hi))) fun i hi => hs i (List.mem_of_mem_erase hi)
    have e : wt ws s = gA ws x + wt ws (s.erase x) := by
      have := sum_perm ((List.perm_cons_erase hx).map fun i => gA ws i)
      simpa [wt] using this
    have e2 : wt ws (x :: a) = gA ws x + wt ws a := by simp [wt]
    omega
theorem Men.lgt (S : Men n lo hi as ws) : Lgt (rowsOf n lo hi) as ws (leastW (rowsOf n lo hi) as ws) := fun s nd hs hlt g hg => by
  have h1 := (leastW_spec (ws := ws) (as := as) S.ne).2 g hg
  apply Classical.byContradiction
  intro hno
  have sub : ∀ i ∈ wrongN g as, i ∈ s := fun i hi => by
    obtain ⟨i0, i1, i2⟩ := wrongN_mem.mp hi
    apply Classical.byContradiction
    intro z
    exact hno ⟨i, i0, i1, z, i2⟩
  have := wt_mono (ws := ws) (fun p hp => by have := S.hp p hp; omega) (wrongN g as) s (wrongN_nodup g as) sub fun i hi => by rw [S.hw]; exact hs i hi
  unfold wOf at h1
  omega
theorem least_weight_eq (S : Men n lo hi as ws) {da dw : D} (hd : IsAs as da) (hw : IsWs ws dw) : f_least_weight [menPool n lo hi, da, dw] = some (.int (leastW (rowsOf n lo hi) as ws)) := by
  have T := S.dou
  have rz := T.hz
  have h8 := S.h8
  unfold f_least_weight
  simp [check_doubt_eq S hd hw]
  simp [iO, ePool, eT]
  rw [lcD_map (fun g => D.int (wOf ws as g))]
  · simp [show (rowsOf n lo hi).length ≤ 100000 by omega]
    exact dMM_min (wOf ws as) (rowsOf n lo hi) S.ne
  · intro g hg
    have wl := wrongN_len g as
    have e1 := wrong_in_eq (T.hr g hg) hd.sq S.ha (by omega)
    have e2 := weight_of_eq hw.sq (s := wrongN g as) (fun i hi => by rw [S.hw]; exact ⟨(wrongN_mem.mp hi).1, (wrongN_mem.mp hi).2.1⟩) (by omega)
    simp [e1, e2, wOf]
theorem pyOfL_int (s : List Int) : pyOfL (s.map D.int) = s.map PyData.int := by
  induction s with
  | nil => rfl
  | cons p s ih => show pyOf (D.int p) :: pyOfL (s.map D.int) = _; rw [ih] <;> rfl
theorem alike_int : ∀ s u : List Int, PySem.W.alikeAll (s.map PyData.int) (u.map PyData.int) = true
  | [], _ => by simp [PySem.W.alikeAll]
  | _ :: _, [] => by simp [PySem.W.alikeAll]
  | p :: s, q :: u => by simp [PySem.W.alikeAll, PySem.W.alike, alike_int s u]
def eM (g : G) (w : List Int) (t : Wr) : D := .obj 21 [some (eG g), some (eW t), some (eI w)]
theorem mend_ex (S : Men n lo hi as ws) {da dw : D} (hd : IsAs as da) (hw : IsWs ws dw) : ∃ g ∈ rowsOf n lo hi, ∃ t, f_mend [menPool n lo hi, da, dw] = some (eM g (wrongN g as) t) ∧ wt ws (wrongN g as) = leastW (rowsOf n lo hi) as ws ∧
    refN (rowsOf n lo hi) as ws (leastW (rowsOf n lo hi) as ws) 12 [] t = true ∧ Dnw 11 t := by
  have T := S.dou
  have rz := T.hz
  have h8 := S.h8
  obtain ⟨t, t1, t2, t3⟩ := tree_of_ex T S.ne S.lgt (lo := lo) (hi := hi) hd.sq hd.len hw.sq 12 [] (by simp) (by simp) (by simp; omega) (by omega)
  let rows := rowsOf n lo hi
  let tab : List (D × D) := rows.map fun g => (eG g, eI (wrongN g as))
  have win : ∀ g ∈ rows, f_wrong_in [eG g, da] = some (eI (wrongN g as)) := fun g hg => wrong_in_eq (T.hr g hg) hd.sq S.ha (by omega)
  have wei : ∀ g ∈ rows, f_weight_of [dw, eI (wrongN g as)] = some (.int (wOf ws as g)) := fun g hg => by
    have wl := wrongN_len g as
    exact weight_of_eq hw.sq (s := wrongN g as) (fun i hi => by rw [S.hw]; exact ⟨(wrongN_mem.mp hi).1, (wrongN_mem.mp hi).2.1⟩) (by omega)
  have ixT : ∀ g ∈ rows, ixAny (.dct tab) (eG g) = some (eI (wrongN g as)) := fun g hg => by
    show (keyD (eG g)).bind (fun k => findK tab k) = _
    rw [keyD_eG]
    exact find_gen nk_eG gkey_inj hg
  let key : G → D := fun g => .tup [.int (wOf ws as g), eG g]
  have hk : ∀ x y : G, ∃ b, ltK (key x) (key y) = some b ∧ (b = true → wOf ws as x ≤ wOf ws as y) ∧ (b = false → wOf ws as y ≤ wOf ws as x) := fun x y => by
    have ok : ∀ x, okD 30 (key x) = true := fun x => by
      show okD 30 (.tup [.int (wOf ws as x), eG x]) = true
      rw [okD_tup]
      simp [okD_eG 28 x]
    have py : ∀ x, pyOf (key x) = .tuple [.int (wOf ws as x), .tuple (x.map PyData.int)] := fun x => by
      show PyData.tuple [.int (wOf ws as x), .tuple (pyOfL (x.map D.int))] = _
      rw [pyOfL_int]
    have al : PySem.W.alike (pyOf (key x)) (pyOf (key y)) = true := by
      rw [py, py]
      simp [PySem.W.alike, PySem.W.alikeAll, alike_int]
    have nn : nonD (key x) = false := rfl
    refine ⟨_, by unfold ltK; rw [ok, ok, al, nn]; exact if_pos rfl, ?_, ?_⟩
    · rw [py, py]; exact lt_first.1
    · rw [py, py]; exact lt_first.2
  let fk : D → Option D := fun d' => mTup (mCons (mCall (mCons (mVar 2) (mCons (mOp ixAny (mVar 3) (mVar 4)) (fun _ => some []))) f_weight_of) (mCons (mVar 4) (fun _ => some [])))
    (([some (menPool n lo hi), some da, some dw, some (.dct tab), none, none, none] : Env).set 4 (some d'))
  have hf : ∀ g ∈ rows, fk (eG g) = some (key g) := fun g hg => by
    simp only [fk, List.set_cons_succ, List.set_cons_zero]
    simp [ixT g hg, wei g hg, key]
  obtain ⟨g, g1, g2, g3⟩ := minKD_spec (f := fk) (e := eG) (p := wOf ws as) hf hk S.ne
  obtain ⟨⟨u, u1, u2⟩, u3⟩ := leastW_spec (ws := ws) (as := as) S.ne
  have es : wOf ws as g = leastW (rowsOf n lo hi) as ws := by
    have a1 := g3 u u1
    have a2 := u3 g g2
    omega
  refine ⟨g, g2, t, ?_, es, t2, t3 11 (by simp; omega)⟩
  have dc : dcD (turnP gOne [4] (fun _ => some true) (mVar 4) (mCall (mCons (mVar 4) (mCons (mVar 1) (fun _ => some []))) f_wrong_in) [some (menPool n lo hi), some da, some dw, none, none, none, none]) [] (rows.map eG) = some tab := by
    have := dcD_tab (f := turnP gOne [4] (fun _ => some true) (mVar 4) (mCall (mCons (mVar 4) (mCons (mVar 1) (fun _ => some []))) f_wrong_in) [some (menPool n lo hi), some da, some dw, none, none, none, none]) (e := eG) (v := fun g => eI (wrongN g as)) nk_eG gkey_inj rows [] (fun acc g hg => by
      show (mPairS (mVar 4) (mCall (mCons (mVar 4) (mCons (mVar 1) (fun _ => some []))) f_wrong_in) acc [some (menPool n lo hi), some da, some dw, none, some (eG g), none, none]) = _
      unfold mPairS
      simp only [mVar_eq, mCall_eq, mCons_eq, List.getElem?_cons_succ, List.getElem?_cons_zero, Option.join_some, obind_some, win g hg, keyD_eG, omap_some]) (rowsOf_nodup S.h5)
    exact this
  have mi : iO 12 3 (mVar 0) [some (menPool n lo hi), some da, some dw, none, none, none, none] = some (rows.map eG) := by
    simp [iO, ePool, eT, rows]
  have g1' : mMinKA (mVar 3) (mTup (mCons (mCall (mCons (mVar 2) (mCons (mOp ixAny (mVar 3) (mVar 4)) (fun _ => some []))) f_weight_of) (mCons (mVar 4) (fun _ => some [])))) 4
      [some (menPool n lo hi), some da, some dw, some (.dct tab), none, none, none] = some (eG g) := by
    have ks : sqK (.dct tab) = some (rows.map eG) := by
      show some (tab.map (·.1)) = _
      simp [tab, Function.comp_def]
    unfold mMinKA
    simp only [mVar_eq, List.getElem?_cons_succ, List.getElem?_cons_zero, Option.join_some, obind_some, ks]
    exact g1
  have mk : ∀ x y z : D, mk_Mend [x, y, z] = some [some x, some z, some y] := fun _ _ _ => rfl
  have t1' := t1
  simp only [eI, List.map_nil] at t1'
  have wg := wei g g2
  rw [es] at wg
  unfold f_mend
  simp [check_doubt_eq S hd hw, -mDc_eq]
  rw [mDc_eq]
  simp only [wipeE_cons, wipeE_nil, List.set_cons_succ, List.set_cons_zero, mi, obind_some]
  rw [dc]
  simp [rows, show (rowsOf n lo hi).length ≤ 100000 by omega]
  rw [g1']
  simp [ixT g g2, wg, t1', mk, eM]
end EX
set_option Elab.async false
set_option linter.all false
set_option autoImplicit false
set_option maxRecDepth 100000
set_option maxHeartbeats 4000000
/-! MZ: what a mend shows, and the law's turn. -/
namespace EX
open PySem L2
variable {n : Nat} {as : List Ans} {ws : List Int} {rows : List G} {lo hi : Int}
@[simp] theorem of_grouping (g : G) (w : List Int) (t : Wr) : atD tb_grouping (eM g w t) = some (eG g) := nr rfl
@[simp] theorem of_wrong (g : G) (w : List Int) (t : Wr) : atD tb_wrong (eM g w t) = some (eI w) := nr rfl
@[simp] theorem of_treeM (g : G) (w : List Int) (t : Wr) : atD tb_tree (eM g w t) = some (eW t) := nr rfl
@[simp] theorem mkMend_s (x y z : D) : mk_Mend [x, y, z] = some [some x, some z, some y] := nr rfl
theorem dNe_eI (a b : List Int) : dNe (eI a) (eI b) = some (.bl (!decide (a = b))) := by
  have e : ∀ a, eI a = eT D.int a := fun _ => rfl
  rw [e, e, dNe_ok (okD_eT (n := 29) (okD_int 29) a) (okD_eT (n := 29) (okD_int 29) b), eqD_eT eqD_int']
theorem in_GL (f : Bool → Bool) (g : G) (V : List G) : inAny f (eG g) (eL eG V) = some (.bl (f (decide (g ∈ V)))) := in_map eqD_eG (okD_eG 29) f g V (.inl rfl)
def okM (rows : List G) (as : List Ans) (ws : List Int) (g : G) (w : List Int) (t : Wr) : Bool := decide (g ∈ rows) && decide (wrongN g as = w) && refN rows as ws (wt ws w) 20 [] t
theorem refN_fuel (rows : List G) (as : List Ans) (ws : List Int) (least : Int) : ∀ (k j : Nat) (s : List Int) (t : Wr), Dw k t → k ≤ j → refN rows as ws least j s t = refN rows as ws least k s t
  | 0, _, _, _, h, _ => h.elim
  | k + 1, 0, _, _, _, h => by omega
  | k + 1, j + 1, s, .leaf, _, _ => rfl
  | k + 1, j + 1, s, .node c ts, hd, hk => by
    have e : ((c.zip ts).all fun q => refN rows as ws least j (s ++ [q.1]) q.2) = ((c.zip ts).all fun q => refN rows as ws least k (s ++ [q.1]) q.2) := by
      rw [Bool.eq_iff_iff, List.all_eq_true, List.all_eq_true]
      constructor
      · intro z q hq
        rw [← refN_fuel rows as ws least k j _ _ (hd.2.2 q.2 (List.of_mem_zip hq).2) (by omega)]
        exact z q hq
      · intro z q hq
        rw [refN_fuel rows as ws least k j _ _ (hd.2.2 q.2 (List.of_mem_zip hq).2) (by omega)]
        exact z q hq
    rw [refN_node, refN_node, e]
theorem shows_eqM (S : Men n lo hi as ws) {da dw : D} (hd : IsAs as da) (hw : IsWs ws dw) {g : G} {w : List Int} {t : Wr} (hg : g.length = n) (hv : ∀ i ∈ w, 0 ≤ i ∧ i < as.length) (hl : w.length ≤ 100) (ht : Dw 20 t) :
    f_Mend_shows [eM g w t, menPool n lo hi, da, dw] = some (.bl (okM (rowsOf n lo hi) as ws g w t)) := by
  have T := S.dou
  have h8 := S.h8
  have w1 := wrong_in_eq hg hd.sq S.ha (by omega)
  have w2 := weight_of_eq hw.sq (s := w) (fun i hi => by rw [S.hw]; exact hv i hi) (by omega)
  have r1 := refutes_eq T (lo := lo) (hi := hi) hd.sq hd.len hw.sq (wt ws w) 20 [] t ht (by simp) (by simp)
  have tr : atD tb_rows (menPool n lo hi) = some (eT eG (rowsOf n lo hi)) := rfl
  simp only [eI, List.map_nil] at r1
  unfold f_Mend_shows
  simp [check_doubt_eq S hd hw, tr, in_G]
  by_cases c1 : g ∈ rowsOf n lo hi
  · simp [c1, w1, dNe_eI]
    by_cases c2 : wrongN g as = w
    · simp [c1, c2, w2, r1, okM]
    · simp [c1, c2, okM]
  · simp [c1, okM]
theorem is_mend_eq (S : Men n lo hi as ws) {dw : D} (hw : IsWs ws dw) {g : G} {w : List Int} {t : Wr} (hg : g.length = n) (hv : ∀ i ∈ w, 0 ≤ i ∧ i < as.length) (hl : w.length ≤ 100) (ht : Dw 20 t) :
    f_law_is_mend [eL eG (rowsOf n lo hi), .lst (as.map eA), dw, eM g w t] = some (.bl (okM (rowsOf n lo hi) as ws g w t)) := by
  have T := S.dou
  have h8 := S.h8
  have w1 := law_wrong_eq hg S.ha (by omega)
  have w2 := law_weight_eq hw.sq (s := w) (fun i hi => by rw [S.hw]; exact hv i hi) (by omega)
  have r1 := law_is_tree_eq T (da := .lst (as.map eA)) rfl hw.sq (wt ws w) 20 [] t ht (by simp) (by simp)
  simp only [eI, List.map_nil] at r1
  unfold f_law_is_mend
  simp [in_GL]
  by_cases c1 : g ∈ rowsOf n lo hi
  · simp [c1, w1, dNe_eI]
    by_cases c2 : w = wrongN g as
    · simp [c1, c2.symm, w2, r1, okM]
    · have c3 : ¬ wrongN g as = w := fun z => c2 z.symm
      simp [c1, c2, c3, okM]
  · simp [c1, okM]
theorem mShowsM (g : G) (w : List Int) (t : Wr) (args : List D) : methK mt_shows (some args) (eM g w t) = f_Mend_shows (eM g w t :: args) := by
  unfold eM
  simp [mt_shows]
/-! ### the law's one turn -/
def eQ (q : G × List Int × Wr) : D := eM q.1 q.2.1 q.2.2
theorem mend_turn {P0 P1 P2 P3 : D} (env : Env) (hl : env.length = 10) (e0 : env[0]? = some (some P0)) (e1 : env[1]? = some (some P1)) (e2 : env[2]? = some (some P2)) (e3 : env[3]? = some (some P3)) (q : G × List Int × Wr) {b : Bool}
    (h1 : f_Mend_shows [eM q.1 q.2.1 q.2.2, P0, P2, P3] = some (.bl b)) (h2 : f_law_is_mend [P1, P2, P3, eM q.1 q.2.1 q.2.2] = some (.bl b)) :
    turnD gOne [9] (fun _ => some true) (mOp dEq (mMethT mt_shows (mVar 9) (mCons (mVar 0) (mCons (mVar 2) (mCons (mVar 3) (fun _ => some []))))) (mCall (mCons (mVar 1) (mCons (mVar 2) (mCons (mVar 3) (mCons (mVar 9) (fun _ => some []))))) f_law_is_mend)) env (eQ q) = some (some (.bl true)) := by
  have at_ : ∀ k, k < 9 → (env.set 9 (some (eQ q)))[k]? = env[k]? := fun k hk => List.getElem?_set_ne (by omega)
  have h9 : (env.set 9 (some (eQ q)))[9]? = some (some (eQ q)) := List.getElem?_set_self (by omega)
  have b0 := (at_ 0 (by omega)).trans e0
  have b1 := (at_ 1 (by omega)).trans e1
  have b2 := (at_ 2 (by omega)).trans e2
  have b3 := (at_ 3 (by omega)).trans e3
  simp only [turnD_eq, gOne_eq, obind_some, List.map_cons, List.map_nil, setL_cons, setL_nil, if_t, mOp_eq, mMethT_eq, mCons_eq, mCall_eq, mVar_eq, b0, b1, b2, b3, h9, Option.join_some]
  unfold eQ
  rw [mShowsM, h1]
  simp only [obind_some]
  rw [h2]
  simp only [obind_some, dEq_bl]
  cases b <;> rfl
def OkQ (n : Nat) (as : List Ans) (q : G × List Int × Wr) : Prop := q.1.length = n ∧ (∀ i ∈ q.2.1, 0 ≤ i ∧ i < as.length) ∧ q.2.1.length ≤ 100 ∧ Dw 20 q.2.2
theorem dMul_zero {m : Nat} (h1 : 1 ≤ m) (h2 : m ≤ 1000) : dMul (.tup [.int 0]) (.int m) = some (eG (List.replicate m 0)) := by
  have e : (List.replicate m [D.int 0]).flatten = (List.replicate m (0 : Int)).map D.int := by
    clear h1 h2
    induction m with
    | zero => rfl
    | succ m ih => rw [List.replicate_succ, List.flatten_cons, ih, List.replicate_succ, List.map_cons]; rfl
  show (if (decide (1 ≤ (m : Int)) && decide ((m : Int) ≤ 1000) && decide ([D.int 0].length ≤ 1000) && !([D.int 0].isEmpty)) = true then some (D.tup (List.replicate (m : Int).toNat [D.int 0]).flatten) else none) = _
  rw [if_pos (by simp; omega), Int.toNat_natCast, e] <;> rfl
theorem mend_right_eq (S : Men n lo hi as ws) : f_law_mend_right [menPool n lo hi, eL eG (rowsOf n lo hi), .lst (as.map eA), .tup (ws.map .int)] = some (.bl true) := by
  have T := S.dou
  have h2 := S.h2
  have h5 := S.h5
  have h8 := S.h8
  have hwl := S.hw
  have hd : IsAs as (.lst (as.map eA)) := .l
  have hw : IsWs ws (.tup (ws.map .int)) := .t
  obtain ⟨g, gm, t, m1, m2, m3, m4⟩ := mend_ex S hd hw
  have rs : (rowsOf n lo hi).length ≤ 52 := rowsOf_small (by omega) h5
  have rlen := T.hr
  have rne := S.ne
  have wr := fun r (hr : r ∈ rowsOf n lo hi) => law_wrong_eq (rlen r hr) S.ha (show as.length ≤ 20 by omega)
  have wv : ∀ r, ∀ i ∈ wrongN r as, 0 ≤ i ∧ i < as.length := fun r i hi => ⟨(wrongN_mem.mp hi).1, (wrongN_mem.mp hi).2.1⟩
  have wei : ∀ r, f_law_weight [.tup (ws.map .int), eI (wrongN r as)] = some (.int (wOf ws as r)) := fun r => by
    have wl := wrongN_len r as
    exact law_weight_eq hw.sq (s := wrongN r as) (fun i hi => by rw [S.hw]; exact wv r i hi) (by omega)
  have d20 : Dw 20 t := m4.dw.mono (by omega)
  have ok0 : okM (rowsOf n lo hi) as ws g (wrongN g as) t = true := by
    unfold okM
    rw [m2]
    have e := m3
    rw [← refN_fuel (rowsOf n lo hi) as ws _ 12 20 [] t (m4.dw.mono (by omega)) (by omega)] at e
    simp [gm, e]
  have wgl := wrongN_len g as
  have sh := shows_eqM S hd hw (rlen g gm) (wv g) (by omega) d20
  have im := is_mend_eq S hw (rlen g gm) (wv g) (by omega) d20
  have lw := least_weight_eq S (da := .tup (as.map eA)) (dw := .lst (ws.map .int)) .t .l
  have wg := wei g
  rw [show wOf ws as g = leastW (rowsOf n lo hi) as ws from m2] at wg
  have l1 : dListO 21 2 [eM g (wrongN g as) t] = some ((wrongN g as).map D.int) := rfl
  have l2 : dListD [eI (wrongN g as)] = some ((wrongN g as).map D.int) := rfl
  have l2' : dListD [.tup (ws.map D.int)] = some (ws.map D.int) := rfl
  have l3 : dNe (.lst ((wrongN g as).map D.int)) (.lst ((wrongN g as).map D.int)) = some (.bl false) := by
    rw [dNe_ok (by rw [okD_lst, okL_map fun a => okD_int 29 a]) (by rw [okD_lst, okL_map fun a => okD_int 29 a]), eqD_lst, eqL_map eqD_int']
    simp
  simp only [eL] at im
  unfold f_law_mend_right
  simp only [eL]
  simp
  rw [lcD_map (fun r => D.int (wOf ws as r))]
  · have mn : dMM min [D.lst ((rowsOf n lo hi).map fun r => D.int (wOf ws as r))] = some (.int (leastW (rowsOf n lo hi) as ws)) := dMM_min (wOf ws as) (rowsOf n lo hi) rne
    simp [show (rowsOf n lo hi).length ≤ 100000 by omega, mn, m1, l2', lw, wg, mShowsM, sh, ok0, l1, l2, l3, im]
    have s12 : sliceD (.lst ((rowsOf n lo hi).map eG)) none (some 12) = some (.lst (((rowsOf n lo hi).take 12).map eG)) := by
      have := slice_to (ds := (rowsOf n lo hi).map eG) (k := 12)
      rw [List.map_take]
      exact this
    have sw : sliceD (eI (wrongN g as)) (some 1) none = some (eI ((wrongN g as).drop 1)) := by
      have := slice_from (ds := (wrongN g as).map D.int) (k := 1)
      rw [← List.map_drop] at this
      exact this
    simp only [sw, obind_some, omap_some]
    simp [s12]
    rw [← List.map_take]
    let E : List (G × List Int × Wr) → Sl → Sl → SEnv := fun os u5 u8 => [.f (menPool n lo hi), .f (.lst ((rowsOf n lo hi).map eG)), .f (.lst (as.map eA)), .f (.tup (ws.map D.int)), .f (.int (leastW (rowsOf n lo hi) as ws)), u5, .f (eM g (wrongN g as) t), .o (.l (os.map eQ)), u8, .u]
    have o0 : ∀ os, (∀ q ∈ os, OkQ n as q) → ∀ q : G × List Int × Wr, OkQ n as q → ∀ r ∈ os ++ [q], OkQ n as r := fun os h q hq r hr => by
      rcases List.mem_append.mp hr with z | z
      · exact h r z
      · simp at z; rw [z]; exact hq
    refine forD_then (xs := (rowsOf n lo hi).take 12) (fun xs se => ∃ os u5, (∀ q ∈ os, OkQ n as q) ∧ os.length + xs.length ≤ 14 ∧ (∀ x ∈ xs, x ∈ rowsOf n lo hi) ∧ se = E os u5 .u) ⟨[(g, wrongN g as, .leaf), (g, (wrongN g as).drop 1, t)], .u, ?_, by simp; omega, fun x hx => List.mem_of_mem_take hx, ?_⟩ ?_ ?_
    · intro q hq
      have lf : Dw 20 .leaf := trivial
      simp at hq
      rcases hq with rfl | rfl
      · exact ⟨rlen g gm, wv g, by show (wrongN g as).length ≤ 100; omega, lf⟩
      · exact ⟨rlen g gm, fun i hi => wv g i (List.mem_of_mem_tail hi), by simp; omega, d20⟩
    · simp [E, eQ, eM, eW_leaf]
    · rintro x xs se ⟨os, u5, hO, hl, hx, rfl⟩
      have xm := hx x List.mem_cons_self
      simp at hl
      refine ⟨[eG x], E (os ++ [(x, wrongN x as, t)]) (.f (eG x)) .u, rfl, ?_, os ++ [(x, wrongN x as, t)], _, o0 _ hO _ ⟨rlen x xm, wv x, by have := wrongN_len x as; show (wrongN x as).length ≤ 100; omega, d20⟩, by simp; omega, fun y hy => hx y (List.mem_cons_of_mem _ hy), rfl⟩
      simp [E, wr x xm]
      rw [appK_ok (by simp; omega)]
      simp [eQ, eM]
    · rintro se' ⟨os, u5, hO, hl, _, rfl⟩
      simp at hl
      obtain ⟨r0, rr, hre⟩ := List.exists_cons_of_ne_nil rne
      have r0m : r0 ∈ rowsOf n lo hi := by rw [hre]; exact List.mem_cons_self
      have f0 : atI ((rowsOf n lo hi).map eG) 0 = some (eG r0) := by
        rw [hre, List.map_cons]
        exact atI_0 _ _
      have f1 : dLen [eG r0] = some (.int n) := by
        have := rlen r0 r0m
        simp [eG, this]
      obtain ⟨bs, b1, b2, b3⟩ := bent_exW 12 11 t (as.length : Int) m4 (by omega)
      obtain ⟨t2, q1, q2⟩ := law_tree_ex T (least := leastW (rowsOf n lo hi) as ws) (d0 := .lst ((rowsOf n lo hi).map eG)) hd.len hw.sq 12 [] (by simp) (by simp) (by simp; omega) (by omega)
      have z0 : OkQ n as (List.replicate n 0, [], t) := ⟨by simp, by simp, by simp, d20⟩
      simp [E, f0, f1, dMul_zero (show 1 ≤ n by omega) (show n ≤ 1000 by omega)]
      rw [appK_ok (by simp; omega)]
      simp [b1]
      refine forD_then (xs := bs) (fun xs se => ∃ os u8, (∀ q ∈ os, OkQ n as q) ∧ os.length + xs.length ≤ 200 ∧ (∀ x ∈ xs, Dw 20 x) ∧ se = E os u5 u8) ⟨os ++ [(List.replicate n 0, [], t)], .u, o0 _ hO _ z0, by simp; omega, fun x hx => (b2 x hx).mono (by omega), ?_⟩ ?_ ?_
      · simp [E, eQ, eM, eI]
      · rintro x xs se ⟨os, u8, hO, hl, hx, rfl⟩
        simp at hl
        refine ⟨[eW x], E (os ++ [(g, wrongN g as, x)]) u5 (.f (eW x)), rfl, ?_, os ++ [(g, wrongN g as, x)], _, o0 _ hO _ ⟨rlen g gm, wv g, by show (wrongN g as).length ≤ 100; omega, hx x List.mem_cons_self⟩, by simp; omega, fun y hy => hx y (List.mem_cons_of_mem _ hy), rfl⟩
        simp [E]
        rw [appK_ok (by simp; omega)]
        simp [eQ, eM]
      · rintro se' ⟨os, u8, hO, hl, _, rfl⟩
        simp at hl
        have fin : ∀ os : List (G × List Int × Wr), (∀ q ∈ os, OkQ n as q) → os.length ≤ 1000 → ∀ env : Env, env.length = 10 → env[0]? = some (some (menPool n lo hi)) → env[1]? = some (some (.lst ((rowsOf n lo hi).map eG))) → env[2]? = some (some (.lst (as.map eA))) → env[3]? = some (some (.tup (ws.map D.int))) →
            lcD (turnD gOne [9] (fun _ => some true) (mOp dEq (mMethT mt_shows (mVar 9) (mCons (mVar 0) (mCons (mVar 2) (mCons (mVar 3) (fun _ => some []))))) (mCall (mCons (mVar 1) (mCons (mVar 2) (mCons (mVar 3) (mCons (mVar 9) (fun _ => some []))))) f_law_is_mend)) env) (os.map eQ) = some (os.map fun _ => D.bl true) := fun os hO hl env e e0 e1 e2 e3 =>
          lcD_map _ fun q hq => by
            obtain ⟨o1, o2, o3, o4⟩ := hO q hq
            exact mend_turn env e e0 e1 e2 e3 q (shows_eqM S hd hw o1 o2 o3 o4) (is_mend_eq S hw o1 o2 o3 o4)
        have q1' : f_law_tree 12 [.lst ((rowsOf n lo hi).map eG), .tup [.lst (as.map eA), .tup (ws.map D.int), .int (leastW (rowsOf n lo hi) as ws)], .tup []] = some (eW t2) := q1
        by_cases c3 : leastW (rowsOf n lo hi) as ws ≤ 3
        · simp [E, dI2, c3, q1']
          rw [appK_ok (by simp; omega)]
          simp
          have el : os.map eQ ++ [D.obj 21 [some (eG g), some (eW t2), some (eI (wrongN g as))]] = (os ++ [(g, wrongN g as, t2)]).map eQ := by
            simp [eQ, eM]
          rw [el]
          have ho := o0 _ hO (g, wrongN g as, t2) ⟨rlen g gm, wv g, by show (wrongN g as).length ≤ 100; omega, q2.mono (by omega)⟩
          have hl' : (os ++ [(g, wrongN g as, t2)]).length ≤ 1000 := by simp; omega
          generalize os ++ [(g, wrongN g as, t2)] = os' at ho hl' ⊢
          rw [fin os' ho hl' _ rfl rfl rfl rfl rfl]
          simp [show os'.length ≤ 100000 by omega]
        · simp [E, dI2, c3]
          rw [fin os hO (by omega) _ rfl rfl rfl rfl rfl]
          simp [show os.length ≤ 100000 by omega]
  · intro r hr
    simp [wr r hr, wei r]
end EX
set_option Elab.async false
set_option linter.all false
set_option autoImplicit false
set_option maxRecDepth 100000
set_option maxHeartbeats 4000000
/-! N32: the draws of the law of mistakes, and the law. (printed by gen_n32.py) -/
namespace EX
open PySem L2
variable {n : Nat} {lo hi : Int} {as : List Ans} {ws : List Int}
theorem law_mixed_ex {sc : D} (hs : Drawn sc) (h2 : 2 ≤ n) (h5 : n ≤ 5) {i : Int} (h0 : 0 ≤ i) (h1 : i ≤ 10000) {m : Nat} (hm : m ≤ 8) :
    ∃ as : List Ans, f_law_mixed_answers [sc, .int i, .int n, .int m] = some (.lst (as.map eA)) ∧ (∀ a ∈ as, InA n a) ∧ as.length ≤ 8 := by
  have pl : (prs n).length ≤ 10 := prs_len h2 (by omega)
  have pne : prs n ≠ [] := by
    have : n = 2 ∨ n = 3 ∨ n = 4 ∨ n = 5 := by omega
    rcases this with rfl | rfl | rfl | rfl <;> decide
  have pos : 0 < (prs n).length := List.length_pos_iff.mpr pne
  let E : List Ans → Sl → Sl → Sl → Sl → SEnv := fun as u6 u7 u8 u9 => [.f sc, .f (.int i), .f (.int n), .f (.int m), .o (.l (as.map eA)), .f (.lst ((prs n).map eP)), u6, u7, u8, u9]
  have loop := forD_inv (mg := gOne) (ix := [6]) (e := fun x : Nat => D.int x) (m := (thenS (sSet 7 (mCall (mCons (mVar 0) (mCons (mOp dAdd (mVar 1) (mVar 6)) (fun _ => some []))) f_law_number)) (thenS (sAsg (mOp ixAny (mVar 5) (mOp (dI2C (fun _ j => decide (0 < j)) fun i j => i % j) (mCall (mCons (mVar 7) (fun _ => some [])) dInt) (mCall (mCons (mVar 5) (fun _ => some [])) dLen))) (gTupD (gsCons gOne (gsCons gOne gsNil))) [9, 8]) (sApp 4 (mTup (mCons (mVar 9) (mCons (mVar 8) (mCons (mOp dEq (mOp (dI2C (fun _ j => decide (0 < j)) fun i j => i % j) (mCall (mCons (mOp (dI2C (fun _ j => decide (0 < j) && decide (j.natAbs.log2 < 9000)) fun i j => i / j) (mVar 7) (fun _ => some (D.int 100))) (fun _ => some [])) dInt) (fun _ => some (D.int 2))) (fun _ => some (D.int 0))) (fun _ => some [])))))))))
    (fun xs se => ∃ as u6 u7 u8 u9, (∀ a ∈ as, InA n a) ∧ as.length + xs.length ≤ 8 ∧ (∀ x ∈ xs, x ≤ 8) ∧ se = E as u6 u7 u8 u9) (by
    rintro x xs se ⟨as, u6, u7, u8, u9, ha, hl, hx8, rfl⟩
    have x8 := hx8 x List.mem_cons_self
    simp at hl
    obtain ⟨v1, q0, e1⟩ := hs (i + x) (by omega) (by omega)
    obtain ⟨p, pm, ep⟩ := ix_mod (e := eP) pne q0
    obtain ⟨pin, plt⟩ := prs_in pm
    refine ⟨_, E (as ++ [(p.1, p.2, v1 / 100 % 2 == 0)]) (.f (.int x)) (.f (.int v1)) (.f (.int p.2)) (.f (.int p.1)), rfl, ?_, as ++ [(p.1, p.2, v1 / 100 % 2 == 0)], _, _, _, _, ?_, by simp; omega, fun y hy => hx8 y (List.mem_cons_of_mem _ hy), rfl⟩
    · simp [E, e1, mod_ok (show (0 : Int) < ((prs n).length : Int) by omega), ep, show (prs n).length ≤ 100000 by omega]
      have gt : gTupD (gsCons gOne (gsCons gOne gsNil)) (eP p) = some [.int p.1, .int p.2] := rfl
      simp [gt, div_ok (show (0 : Int) < 100 by omega) (by decide), mod_ok (show (0 : Int) < 2 by omega)]
      rw [appK_ok (by simp; omega)]
      simp [eA]
    · intro a ham
      rcases List.mem_append.mp ham with z | z
      · exact ha a z
      · simp at z
        subst z
        exact ⟨pin.a0, plt, pin.b1⟩) (xs := List.range m) (se := E [] .u .u .u .u) ⟨[], .u, .u, .u, .u, by simp, by simpa using hm, fun x hx => by have := List.mem_range.mp hx; omega, rfl⟩
  obtain ⟨se', k1, as, u6, u7, u8, u9, ha, hl, _, rfl⟩ := loop
  refine ⟨as, ?_, ha, by simp at hl; omega⟩
  unfold f_law_mixed_answers
  have rg := rng1_eq (j := (m : Int)) (inR_of' (by omega) (by omega))
  simp [E] at k1
  simp [law_pairs_eq (show n ≤ 5 by omega), eL, rg, rangeD_eq, k1]
theorem high_ex {v : Int} : ∃ h : Int, (h = 2 ∨ h = 9) ∧ ixAny (.tup [.int 2, .int 9]) (.int (v % 2)) = some (.int h) := by
  have w0 := Int.emod_nonneg v (b := 2) (by omega)
  have w1 := Int.emod_lt_of_pos v (b := 2) (by omega)
  have : v % 2 = 0 ∨ v % 2 = 1 := by omega
  rcases this with q | q <;> rw [q]
  · exact ⟨2, .inl rfl, rfl⟩
  · exact ⟨9, .inr rfl, rfl⟩
theorem draws_ex {sc : D} (hs : Drawn sc) {i : Int} (h0 : 0 ≤ i) (h1 : i ≤ 1000) : ∃ f : Nat → Int, ∀ k : Nat, k ≤ 100 → f_law_number [sc, .int (i + k)] = some (.int (f k)) := by
  have ch : ∀ k : Nat, ∃ v : Int, k ≤ 100 → f_law_number [sc, .int (i + k)] = some (.int v) := fun k => by
    by_cases c : k ≤ 100
    · obtain ⟨v, p, e⟩ := hs (i + k) (by omega) (by omega)
      exact ⟨v, fun _ => e⟩
    · exact ⟨0, fun q => absurd q c⟩
  exact Classical.axiomOfChoice ch
theorem all_right_eq32 {ns : List Int} (hl : ns.length ≤ 63) : f_law_all_right [.lst (ns.map D.int)] = some (.bl true) := by
  have hs := drawn hl
  generalize D.lst (ns.map D.int) = sc at hs ⊢
  have loop := forD_inv (mg := gOne) (ix := [1]) (e := fun x : Nat => D.int x) (m := (thenS (sSet 2 (mCall (mCons (mVar 0) (mCons (mOp dAdd (fun _ => some (D.int 3)) (mVar 1)) (fun _ => some []))) f_law_number)) (thenS (sSet 3 (mOp dAdd (fun _ => some (D.int 2)) (mOp (dI2C (fun _ j => decide (0 < j)) fun i j => i % j) (mCall (mCons (mVar 2) (fun _ => some [])) dInt) (fun _ => some (D.int 4))))) (thenS (sAsg (mCall (mCons (mVar 0) (mCons (mOp dAdd (fun _ => some (D.int 20)) (mOp dMul (fun _ => some (D.int 60)) (mVar 1))) (mCons (mVar 3) (fun _ => some [])))) f_law_bounds) (gTupD (gsCons gOne (gsCons gOne gsNil))) [5, 4]) (thenS (sSet 6 (mCall (mCons (mVar 0) (mCons (mOp dAdd (fun _ => some (D.int 40)) (mOp dMul (fun _ => some (D.int 60)) (mVar 1))) (mCons (mVar 3) (mCons (mOp (dI2C (fun _ j => decide (0 < j)) fun i j => i % j) (mCall (mCons (mOp (dI2C (fun _ j => decide (0 < j) && decide (j.natAbs.log2 < 9000)) fun i j => i / j) (mVar 2) (fun _ => some (D.int 4))) (fun _ => some [])) dInt) (fun _ => some (D.int 9))) (fun _ => some []))))) f_law_mixed_answers)) (thenS (sSet 7 (mOp ixAny (mTup (mCons (fun _ => some (D.int 2)) (mCons (fun _ => some (D.int 9)) (fun _ => some [])))) (mOp (dI2C (fun _ j => decide (0 < j)) fun i j => i % j) (mCall (mCons (mOp (dI2C (fun _ j => decide (0 < j) && decide (j.natAbs.log2 < 9000)) fun i j => i / j) (mVar 2) (fun _ => some (D.int 36))) (fun _ => some [])) dInt) (fun _ => some (D.int 2))))) (thenS (sSet 8 (mCall (mCons (mL (mLc (iR1 (mCons (mCall (mCons (mVar 6) (fun _ => some [])) dLen) (fun _ => some []))) gOne [9] (fun _ => some true) (mOp dAdd (fun _ => some (D.int 1)) (mOp (dI2C (fun _ j => decide (0 < j)) fun i j => i % j) (mCall (mCons (mCall (mCons (mVar 0) (mCons (mOp dAdd (mOp dAdd (fun _ => some (D.int 60)) (mOp dMul (fun _ => some (D.int 60)) (mVar 1))) (mVar 9)) (fun _ => some []))) f_law_number) (fun _ => some [])) dInt) (mVar 7))) [9])) (fun _ => some [])) dTuple)) (sIf (nNot (nVal (mCall (mCons (mNew 12 (mCons (mVar 3) (mCons (mVar 5) (mCons (mVar 4) (fun _ => some [])))) mk_Pool) (mCons (mCall (mCons (mVar 3) (mCons (mVar 5) (mCons (mVar 4) (fun _ => some [])))) f_law_rows) (mCons (mVar 6) (mCons (mVar 8) (fun _ => some []))))) f_law_mend_right))) (sRet (fun _ => some (D.bl false))) sNil))))))))
    (fun xs se => ∃ u1 u2 u3 u4 u5 u6 u7 u8, (∀ x ∈ xs, x ≤ 1) ∧ se = [.f sc, u1, u2, u3, u4, u5, u6, u7, u8, .u]) (by
    rintro x xs se ⟨u1, u2, u3, u4, u5, u6, u7, u8, hx, rfl⟩
    have x1 := hx x List.mem_cons_self
    obtain ⟨v, v0, e0⟩ := hs (3 + x) (by omega) (by omega)
    have q0 := Int.emod_nonneg v (b := 4) (by omega)
    have q1 := Int.emod_lt_of_pos v (b := 4) (by omega)
    have m0 := Int.emod_nonneg (v / 4) (b := 9) (by omega)
    have m1 := Int.emod_lt_of_pos (v / 4) (b := 9) (by omega)
    obtain ⟨n, hn⟩ : ∃ n : Nat, 2 + v % 4 = (n : Int) := ⟨(2 + v % 4).toNat, by omega⟩
    obtain ⟨m, hm⟩ : ∃ m : Nat, v / 4 % 9 = (m : Int) := ⟨(v / 4 % 9).toNat, by omega⟩
    have h2 : 2 ≤ n := by omega
    have h5 : n ≤ 5 := by omega
    obtain ⟨lo, hi, eb, b1, b2, b3⟩ := law_bounds_ex hs (i := 20 + 60 * x) h2 h5 (by omega) (by omega)
    obtain ⟨as, ea, ha, al⟩ := law_mixed_ex hs h2 h5 (i := 40 + 60 * x) (by omega) (by omega) (show m ≤ 8 by omega)
    obtain ⟨h, hh, eh⟩ := high_ex (v := v / 36)
    have hp : 0 < h := by omega
    obtain ⟨f, hf⟩ := draws_ex hs (i := 60 + 60 * x) (by omega) (by omega)
    obtain ⟨ws, hws⟩ : ∃ ws : List Int, ws = (List.range as.length).map fun k => 1 + f k % h := ⟨_, rfl⟩
    have S : Men n lo hi as ws := ⟨h2, h5, b1, b2, b3, ha, al, by simp [hws], fun p hp' => by
      rw [hws] at hp'
      obtain ⟨k, hk, rfl⟩ := List.mem_map.mp hp'
      have b0 := Int.emod_nonneg (f k) (b := h) (by omega)
      have b1 := Int.emod_lt_of_pos (f k) hp
      omega⟩
    have er := law_rows_eq (lo := lo) (hi := hi) h2 h5
    have eo := mend_right_eq S
    have ep := mkPool_eq h2 h5 b1 b2 b3
    have k60 : dMul (.int 60) (.int (x : Int)) = some (.int (60 * (x : Int))) := dMul_small (by decide) (by decide) (by omega) (by omega)
    have d4 : dI2C (fun _ j => decide (0 < j) && decide (j.natAbs.log2 < 9000)) (fun i j => i / j) (.int v) (.int 4) = some (.int (v / 4)) := div_ok (by omega) (by decide)
    have d36 : dI2C (fun _ j => decide (0 < j) && decide (j.natAbs.log2 < 9000)) (fun i j => i / j) (.int v) (.int 36) = some (.int (v / 36)) := div_ok (by omega) (by decide)
    have gt : gTupD (gsCons gOne (gsCons gOne gsNil)) (.tup [.int lo, .int hi]) = some [.int lo, .int hi] := rfl
    have rg := rng1_eq (j := (as.length : Int)) (inR_of' (by omega) (by omega))
    simp only [eL, ePool] at er eo
    refine ⟨_, [.f sc, .f (.int x), .f (.int v), .f (.int n), .f (.int hi), .f (.int lo), .f (.lst (as.map eA)), .f (.int h), .f (.tup (ws.map D.int)), .u], rfl, ?_, _, _, _, _, _, _, _, _, fun y hy => hx y (List.mem_cons_of_mem _ hy), rfl⟩
    simp [e0, mod_ok (show (0 : Int) < 4 by omega), hn, k60]
    rw [eb]
    simp only [obind_some, gt, omap_some, List.map_cons, List.map_nil, setL_cons, setL_nil, List.set_cons_succ, List.set_cons_zero, thenK_nx, rd_cons, rd_nil, rdAt_f, List.getElem?_cons_succ, List.getElem?_cons_zero, Option.join_some, k60, dAdd_i, d4, dInt_i, mod_ok (show (0 : Int) < 9 by omega), hm, ea]
    simp only [d36, obind_some, mod_ok (show (0 : Int) < 2 by omega), dInt_i, eh]
    simp [rg, rangeD_eq]
    rw [lcD_map (fun k : Nat => D.int (1 + f k % h))]
    · have we : ((List.range as.length).map fun k => D.int (1 + f k % h)) = ws.map D.int := by simp [hws, Function.comp_def]
      rw [we]
      simp [show as.length ≤ 100000 by omega, er, ep, eo]
    · intro k hk
      have hk := List.mem_range.mp hk
      have fk := hf k (by omega)
      simp [k60, fk, mod_ok hp]) (xs := List.range 2) (se := [.f sc, .u, .u, .u, .u, .u, .u, .u, .u, .u]) ⟨.u, .u, .u, .u, .u, .u, .u, .u, fun x hx => by have := List.mem_range.mp hx; omega, rfl⟩
  obtain ⟨se', k1, u1, u2, u3, u4, u5, u6, u7, u8, _, rfl⟩ := loop
  unfold f_law_all_right
  have rg := rng1_eq (j := 2) (inR_of' (by omega) (by omega))
  simp at k1
  simp [rg, rangeD_eq, k1]
theorem law_right {ns : List Int} (hl : ns.length ≤ 63) : f_law [.lst (ns.map D.int)] = some (.bl true) := by
  unfold f_law
  simp [all_right_eq32 hl]
end EX
set_option Elab.async false
set_option linter.all false
set_option maxRecDepth 100000
set_option maxHeartbeats 0
/-! printed by lawgen.py: the end of asksame_k32_whole_mistakes. -/
namespace EX
open PySem L2
def loose0 : List PySem.Str := ["_wall", "AskError", "BadPool", "BadAnswers", "TooLarge", "BadWeights", "MIN_THINGS", "MAX_THINGS", "MAX_ANSWERS", "is_integer", "groupings_of", "groups_in", "Pool", "check_pool", "is_pair", "is_answer", "check_answers", "are_same", "fits", "least_core", "MAX_WEIGHT", "MAX_DOUBTED", "check_doubt", "wrong_in", "weight_of", "Mend", "refutes", "tree_of", "mend", "least_weight"]
def loose1 : List PySem.Str := ["_law_number", "_law_rows", "_law_pairs", "_law_bounds", "_law_says", "_law_view", "_law_mixed_answers", "_law_wrong", "_law_weight", "_law_is_tree", "_law_is_mend", "_law_tree", "_law_bent", "_law_mend_right", "_law_all_right"]
def loose : List PySem.Str := loose0 ++ loose1
abbrev R : PySem.W.OpenRow := PySem.W.OpenLaw.row PySem.Challenge.rw_asksame_k32_whole_mistakes
abbrev hkW : PySem.W.Hook := He.hookX 5 L.fa L.fn [] L.tf L.ex
def ob (s : PySem.W.SharedT) : He.AlX := He.obsX 5 L.fa L.fn [] L.tf L.ex (HandSHeadRun.getT s)
theorem ob_eq (s : PySem.W.SharedT) : ob s = hkW.obs s.abs := He.obsX_eq (HandSHeadRun.getT_eq s)
theorem run (w : World) : HandSHeadRun.RunEq R (PySem.W.view R.prog [50]) hkW ob 20000 loose w := by
  intro os
  kernel_rfl
end EX
open PySem PySem.W PySem.Calls PyProof.Rows
theorem EX.ends (hm : ∀ ns : List Int, ns.length ≤ 63 → (∀ z ∈ ns, Builtin.Int.intBits z ≤ 1048576) → EX.f_law [.lst (ns.map EX.D.int)] = some (.bl true)) : PySem.Challenge.rw_asksame_k32_whole_mistakes.Holds := by
  w_on; o_law
  refine HandSHeadRun.head_any (r := OpenLaw.row PySem.Challenge.rw_asksame_k32_whole_mistakes) (q := PySem.W.view (OpenLaw.row PySem.Challenge.rw_asksame_k32_whole_mistakes).prog [50]) (H := EX.hkW) (ob := EX.ob) (M := 20000) (loose := EX.loose) (d := HandSHeadRun.topDef (OpenLaw.row PySem.Challenge.rw_asksame_k32_whole_mistakes).prog 50) (kwd := []) EX.ob_eq
    (by kernel_rfl) (fun s => by kernel_rfl) EX.run (by kernel_rfl) (by kernel_rfl) (by kernel_rfl) (by rfl) (by first | assumption | decide +kernel) (by decide +kernel) ⟨rfl, rfl, rfl, rfl, rfl, by decide +kernel⟩ ?hw ?hc
  case hw => w_witness2
  case hc =>
    refine LamX.walk_ofTsE (l := PySem.Challenge.rw_asksame_k32_whole_mistakes) (n := 63) (k := 27) (x := "_law_script") (CX := fun _ => L2.CX0) rfl (by decide) (by kernel_rfl) ⟨rfl, by decide, by decide⟩ ?F (fun _ _ _ _ _ z => z)
    intro w mg fa h Y G hmg0
    obtain ⟨K, KX, c⟩ := Y
    have hmg : mg ("law" : PySem.Str) = some (.ref fa) := by
      have e : (HandSHeadRun.topDef (OpenLaw.row PySem.Challenge.rw_asksame_k32_whole_mistakes).prog 50).name = ("law" : PySem.Str) := by kernel_rfl
      rw [← e]
      exact hmg0
    exact ⟨K, KX, EX.law_at KX G hmg c hm EX.d_law EX.s_law (EX.i_fn 37 rfl) (EX.i_fa 61 rfl) rfl (hF := letI : EX.Tb := ⟨EX.L.tabs K, EX.L.ca K⟩; fun base C f fd F => EX.ok_law C F) (hb := fun _ _ _ _ _ _ _ _ => .of_eq rfl)⟩
theorem PySem.Challenge.cw_asksame_k32_whole_mistakes_holds : PySem.Challenge.rw_asksame_k32_whole_mistakes.Holds := by
  exact EX.ends fun ns hl _ => EX.law_right hl
